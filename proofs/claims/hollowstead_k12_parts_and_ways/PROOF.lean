import PyProof.Rows.All
import HandS.ForMost
import HandS.Walk
import HandS.TupAny
import HandS.TupMul
import HandS.Zip
import HandS.TupLen
import HandS.IsInst
import HandS.Wide
import HandS.Flow
import HandS.DictComp
import HandS.DictTup
import HandS.TupSets
import HandS.SetKeys
import HandS.Conv
import HandS.RevTup
import HandS.RevRange
import KE.SortData
import KE.DataCmp
import HandS.Deep
import KE.KeyNested
import KE.KDictKeyed
import KE.KDictWalk
import KE.GoesDict
import Wide.All
import HandS.SetFor
import HandS.Codes
import HandS.NoneIn
import HandS.Style
import HandS.Ends
import HandS.EndBits
import PySem.Challenge.RW_hollowstead_k12_parts_and_ways
set_option Elab.async false
set_option linter.all false
set_option autoImplicit false
set_option maxRecDepth 100000
/-! HwA: values, heap, the small language and its evaluator. -/
namespace HW
open PySem

/-- a value of the evaluator: lst, dct, set are never written any more; ref is a cell of the evaluator's heap -/
inductive PV where
  | non | bl (b : Bool) | int (i : Int) | str (s : Str)
  | tup (xs : List PV) | lst (xs : List PV) | dct (es : List (PV × PV)) | scr (ns : List Int) | ref (n : Nat)
  deriving Inhabited

mutual
def PV.beq : PV → PV → Bool
  | .non, .non => true
  | .bl a, .bl b => a == b
  | .int a, .int b => decide (a = b)
  | .str a, .str b => decide (a = b)
  | .tup a, .tup b => PV.beqs a b
  | .lst a, .lst b => PV.beqs a b
  | .scr a, .scr b => decide (a = b)
  | .dct a, .dct b => PV.beqp a b
  | .ref a, .ref b => decide (a = b)
  | _, _ => false
def PV.beqs : List PV → List PV → Bool
  | [], [] => true
  | a :: as, b :: bs => PV.beq a b && PV.beqs as bs
  | _, _ => false
def PV.beqp : List (PV × PV) → List (PV × PV) → Bool
  | [], [] => true
  | (a, c) :: as, (b, d) :: bs => PV.beq a b && PV.beq c d && PV.beqp as bs
  | _, _ => false
end
mutual
theorem PV.beq_refl : ∀ a : PV, PV.beq a a = true
  | .non => rfl
  | .bl a => by simp [PV.beq]
  | .int a => by simp [PV.beq]
  | .str a => by simp [PV.beq]
  | .ref a => by simp [PV.beq]
  | .tup a => by rw [PV.beq]; exact PV.beqs_refl a
  | .lst a => by rw [PV.beq]; exact PV.beqs_refl a
  | .scr a => by simp [PV.beq]
  | .dct a => by rw [PV.beq]; exact PV.beqp_refl a
theorem PV.beqs_refl : ∀ a : List PV, PV.beqs a a = true
  | [] => rfl
  | a :: as => by rw [PV.beqs, PV.beq_refl a, PV.beqs_refl as]; rfl
theorem PV.beqp_refl : ∀ a : List (PV × PV), PV.beqp a a = true
  | [] => rfl
  | (a, b) :: as => by rw [PV.beqp, PV.beq_refl a, PV.beq_refl b, PV.beqp_refl as]; rfl
end
mutual
theorem PV.eq_of_beq : ∀ a b : PV, PV.beq a b = true → a = b
  | .non, b, h => by cases b <;> simp_all [PV.beq]
  | .bl a, b, h => by cases b <;> simp_all [PV.beq]
  | .int a, b, h => by cases b <;> simp_all [PV.beq]
  | .str a, b, h => by cases b <;> simp_all [PV.beq]
  | .ref a, b, h => by cases b <;> simp_all [PV.beq]
  | .tup a, b, h => by
    cases b with
    | tup b => rw [PV.beq] at h; rw [PV.eq_of_beqs a b h]
    | _ => simp [PV.beq] at h
  | .lst a, b, h => by
    cases b with
    | lst b => rw [PV.beq] at h; rw [PV.eq_of_beqs a b h]
    | _ => simp [PV.beq] at h
  | .scr a, b, h => by cases b <;> simp_all [PV.beq]
  | .dct a, b, h => by
    cases b with
    | dct b => rw [PV.beq] at h; rw [PV.eq_of_beqp a b h]
    | _ => simp [PV.beq] at h
theorem PV.eq_of_beqs : ∀ a b : List PV, PV.beqs a b = true → a = b
  | [], b, h => by cases b <;> simp_all [PV.beqs]
  | a :: as, b, h => by
    cases b with
    | nil => simp [PV.beqs] at h
    | cons b bs =>
      rw [PV.beqs, Bool.and_eq_true] at h
      rw [PV.eq_of_beq a b h.1, PV.eq_of_beqs as bs h.2]
theorem PV.eq_of_beqp : ∀ a b : List (PV × PV), PV.beqp a b = true → a = b
  | [], b, h => by cases b <;> simp_all [PV.beqp]
  | (a, c) :: as, b, h => by
    cases b with
    | nil => simp [PV.beqp] at h
    | cons b bs =>
      obtain ⟨b, d⟩ := b
      rw [PV.beqp, Bool.and_eq_true, Bool.and_eq_true] at h
      rw [PV.eq_of_beq a b h.1.1, PV.eq_of_beq c d h.1.2, PV.eq_of_beqp as bs h.2]
end
instance : DecidableEq PV := fun a b => if h : PV.beq a b = true then .isTrue (PV.eq_of_beq a b h) else .isFalse fun e => h (e ▸ PV.beq_refl a)

/-- what is written -/
inductive Cell where
  | lst (xs : List PV) | dct (es : List (PV × PV)) | dctL (es : List (PV × PV)) | obj (c : Str) (fs : List (Str × PV))
  deriving Inhabited, DecidableEq
abbrev PHeap := List Cell
abbrev Env := List (Option PV)

/-- an answer: a value and the heap; an exception (by its class's name); or nothing known -/
inductive R (α : Type) where
  | ok (a : α) (h : PHeap) | exc (e : Str) (h : PHeap) | bad
def R.bind {α β : Type} : R α → (α → PHeap → R β) → R β
  | .ok a h, f => f a h
  | .exc e h, _ => .exc e h
  | .bad, _ => .bad
@[simp] theorem R.bind_ok {α β : Type} (a : α) (h : PHeap) (f : α → PHeap → R β) : (R.ok a h).bind f = f a h := rfl
@[simp] theorem R.bind_bad {α β : Type} (f : α → PHeap → R β) : (R.bad : R α).bind f = .bad := rfl
@[simp] theorem R.bind_exc {α β : Type} (e : Str) (h : PHeap) (f : α → PHeap → R β) : (R.exc e h : R α).bind f = .exc e h := rfl
/-- an answer that may not be -/
def R.of {α : Type} : Option α → PHeap → R α
  | some a, h => .ok a h
  | none, _ => .bad
@[simp] theorem R.of_some {α : Type} (a : α) (h : PHeap) : R.of (some a) h = .ok a h := rfl
@[simp] theorem R.of_none {α : Type} (h : PHeap) : (R.of none h : R α) = .bad := rfl
theorem R.bind_eq_ok {α β : Type} {r : R α} {f : α → PHeap → R β} {b : β} {h : PHeap} (e : r.bind f = .ok b h) : ∃ a h1, r = .ok a h1 ∧ f a h1 = .ok b h := by
  cases r with
  | ok a h1 => exact ⟨a, h1, rfl, e⟩
  | exc _ _ => cases e
  | bad => cases e
theorem R.of_eq_ok {α : Type} {o : Option α} {h h' : PHeap} {a : α} (e : R.of o h = .ok a h') : o = some a ∧ h' = h := by
  cases o with
  | none => cases e
  | some x => simp only [R.of_some, R.ok.injEq] at e; exact ⟨by rw [e.1], e.2.symm⟩
theorem R.of_bind {α β : Type} {o : Option α} {h h' : PHeap} {f : α → PHeap → R β} {b : β} (e : (R.of o h).bind f = .ok b h') : ∃ a, o = some a ∧ f a h = .ok b h' := by
  cases o with
  | none => cases e
  | some a => exact ⟨a, rfl, e⟩
/-- a call's meaning -/
abbrev Sem := List PV → PHeap → R PV

inductive BOp where | add | sub | mul | fdiv | mod | pow
  deriving DecidableEq, Inhabited
inductive COp where | eq | ne | lt | le | gt | ge | is | isnot | isin | notin
  deriving DecidableEq, Inhabited
/-- built-in functions of values -/
inductive Blt where
  | len | abs | max2 | min2 | int | isi (T : String) | isiT (ts : List String) | repr
  deriving DecidableEq, Inhabited
/-- methods of built-in types -/
inductive Mth where
  | dget | dget1 | dpop | dpop2 | dsetd | lapp | lext | lpop | lpopAt | lins | lidx | tidx | lcount | tcount
  deriving DecidableEq, Inhabited
/-- what a walk is made into -/
inductive Cnv where
  | list | tuple | sorted | sum | all | any | max | min | dict | sortedSet | lenSet
  deriving DecidableEq, Inhabited
/-- a target of names -/
inductive Tg where
  | nm (i : Nat) | tp (ts : List Tg)
  deriving Inhabited

mutual
inductive IE where
  | var (i : Nat)
  | cst (v : PV)
  | glob (x : Str) (v : PV)
  | tup (es : IEs)
  | lst (al : Bool) (es : IEs)
  | dct (al : Bool) (kvs : IEs)
  | bin (op : BOp) (a b : IE)
  | neg (a : IE)
  | not (a : IE)
  | cmp (op : COp) (a b : IE)
  | cmp2 (op op' : COp) (a b c : IE)
  | and (a b : IE)
  | or (a b : IE)
  | ife (c a b : IE)
  | sub (a i : IE)
  | slice (a : IE) (lo hi : IO)
  | rev (a st : IE)
  | call (f : Nat) (es : IEs)
  | blt (f : Blt) (es : IEs)
  | meth (m : Mth) (o : IE) (es : IEs)
  | conv (k : Cnv) (al : Bool) (e : IE)
  | convI (k : Cnv) (al : Bool) (it : II)
  | comp (al : Bool) (own : List Nat) (tg : Tg) (it : II) (ifs : IEs) (elt : IE)
  | comp2 (al : Bool) (own : List Nat) (tg : Tg) (it : II) (ifs : IEs) (own1 : List Nat) (tg1 : Tg) (it1 : II) (ifs1 : IEs) (elt : IE)
  | dcomp (al : Bool) (own : List Nat) (tg : Tg) (it : II) (ifs : IEs) (k v : IE)
inductive IEs where
  | nil | cons (e : IE) (es : IEs)
inductive IO where
  | none | some (e : IE)
/-- what is walked -/
inductive II where
  | ex (e : IE) | rng1 (a : IE) | rng2 (a b : IE) | enum (e : IE) | zip (a b : IE) | items (d : IE) | values (d : IE)
end
instance : Inhabited IE := ⟨.var 0⟩

inductive ITgt where
  | tg (t : Tg) | sub (o i : IE)
  deriving Inhabited
mutual
inductive IS where
  | expr (e : IE)
  | asg (t : ITgt) (e : IE)
  | par (ts : List ITgt) (es : IEs)
  | aug (i : Nat) (op : BOp) (e : IE)
  | augS (o i : IE) (op : BOp) (e : IE)
  | ret (e : IE)
  | retN
  | pass
  | brk
  | cont
  | ifs (c : IE) (a b : ISs)
  | for_ (tg : Tg) (it : II) (b : ISs)
  | while_ (fuel : Nat) (c : IE) (b : ISs)
  | raise_ (x : Str)
inductive ISs where
  | nil | cons (s : IS) (ss : ISs)
end
/-- how a statement ends -/
inductive Out where
  | nx (e : Env) | rt (v : PV) | bk (e : Env) | ct (e : Env)

/-! ### values -/
mutual
def toD : PV → Option PyData
  | .non => some .none
  | .bl b => some (.bool b)
  | .int i => some (.int i)
  | .str s => some (.str s)
  | .tup xs => (toDs xs).map .tuple
  | .lst xs => (toDs xs).map .list
  | _ => none
def toDs : List PV → Option (List PyData)
  | [] => some []
  | x :: xs => match toD x, toDs xs with
    | some d, some ds => some (d :: ds)
    | _, _ => none
end
/-- the key of a dict that a value is: whole numbers and texts; tuples of such, nested, with None -/
inductive PKey where
  | k (k : L2.Key) | t (ks : List NestedKey)
mutual
def toN : PV → Option NestedKey
  | .non => some .none
  | .int i => some (.num i)
  | .str s => some (.text s)
  | .tup xs => (toNs xs).map .tup
  | _ => none
def toNs : List PV → Option (List NestedKey)
  | [] => some []
  | x :: xs => match toN x, toNs xs with
    | some d, some ds => some (d :: ds)
    | _, _ => none
end
/-- is a key by value -/
def keyV : PV → Bool
  | .int _ => true
  | .str _ => true
  | _ => false
/-- is a key that is a tuple -/
def keyT : PV → Bool
  | .tup xs => match toN (.tup xs) with
    | some k => decide (k.depth ≤ 8)
    | none => false
  | _ => false

/-- the list, tuple that is read -/
def asList (h : PHeap) : PV → Option (List PV)
  | .lst xs => some xs
  | .ref n => match h[n]? with
    | some (.lst xs) => some xs
    | _ => none
  | _ => none
def asSeq (h : PHeap) : PV → Option (List PV)
  | .tup xs => some xs
  | v => asList h v
def asDict (h : PHeap) : PV → Option (List (PV × PV))
  | .dct es => some es
  | .ref n => match h[n]? with
    | some (.dct es) => some es
    | some (.dctL es) => some es
    | _ => none
  | _ => none
/-- a live list as a frozen one, for == and such -/
def res (h : PHeap) (v : PV) : PV := match v with
  | .ref n => match h[n]? with
    | some (.lst xs) => .lst xs
    | _ => v
  | _ => v
/-- == of data -/
def pyEq (h : PHeap) (a b : PV) : Option Bool := match toD (res h a), toD (res h b) with
  | some d, some e => if SeqAt.shaped d && SeqAt.shaped e then some (PyData.eqv d e) else none
  | _, _ => none
def tru (h : PHeap) : PV → Option Bool
  | .non => some false
  | .bl b => some b
  | .int i => some (i != 0)
  | .str s => if s.length ≤ sizeLine then some ((s.length : Int) != 0) else none
  | v => match asSeq h v with
    | some xs => some (!xs.isEmpty)
    | none => match asDict h v with
      | some es => some (!es.isEmpty)
      | none => none
def dFind (es : List (PV × PV)) (k : PV) : Option PV := (es.find? fun e => decide (e.1 = k)).map (·.2)
def dPut (es : List (PV × PV)) (k v : PV) : List (PV × PV) :=
  if es.any (fun e => decide (e.1 = k)) then es.map (fun e => if e.1 = k then (e.1, v) else e) else es ++ [(k, v)]
def dDel (es : List (PV × PV)) (k : PV) : List (PV × PV) := es.filter fun e => !decide (e.1 = k)
/-- may be asked by the key -/
def keyOk (es : List (PV × PV)) (k : PV) : Bool :=
  (keyV k && es.all fun e => keyV e.1) || (keyT k && es.all fun e => keyT e.1)
def small (i : Int) : Bool := decide (-(2 ^ 64) < i ∧ i < 2 ^ 64)
def wide62 (i : Int) : Bool := decide (-(2 ^ 62) ≤ i ∧ i < 2 ^ 62)
def LIM : Nat := 16777216

def binop (op : BOp) (a b : PV) (h : PHeap) : Option PV := match op, a, b with
  | .add, .int i, .int j => some (.int (i + j))
  | .sub, .int i, .int j => some (.int (i - j))
  | .mul, .int i, .int j => if small i || small j then some (.int (i * j)) else none
  | .fdiv, .int i, .int j => if j ≠ 0 ∧ j.natAbs < 1073741824 then some (.int (i.fdiv j)) else none
  | .mod, .int i, .int j => if j ≠ 0 then some (.int (i.fmod j)) else none
  | .pow, .int i, .int j => if 0 ≤ j ∧ j ≤ 1000000 ∧ i.natAbs < 2 ^ 64 then some (.int (i ^ j.toNat)) else none
  | .add, .tup x, .tup y => if x.length + y.length ≤ LIM then some (.tup (x ++ y)) else none
  | .add, x, y => match asList h x, asList h y with
    | some x, some y => if x.length + y.length ≤ LIM then some (.lst (x ++ y)) else none
    | _, _ => none
  | .mul, x, .int k => match asList h x with
    | some x => if k < 2 ^ 62 ∧ -(2 ^ 62) < k ∧ x.length * k.toNat ≤ LIM then some (.lst (List.replicate k.toNat x).flatten) else none
    | none => none
  | _, _, _ => none

/-- the order of alike data -/
def ordD (op : COp) (d e : PyData) : Bool := match op with
  | .lt => PySem.W.dataLt d e
  | .gt => PySem.W.dataLt e d
  | .le => !PySem.W.dataLt e d
  | _ => !PySem.W.dataLt d e
def isNone : PyData → Bool
  | .none => true
  | _ => false
def pyOrd (op : COp) (h : PHeap) (a b : PV) : Option Bool := match a, b with
  | .int i, .int j => some (match op with
    | .lt => decide (i < j)
    | .gt => decide (j < i)
    | .le => decide (i ≤ j)
    | _ => decide (j ≤ i))
  | a, b => match toD (res h a), toD (res h b) with
    | some d, some e => if PySem.W.alike d e && !isNone d && SeqAt.shaped d && SeqAt.shaped e then some (ordD op d e) else none
    | _, _ => none
def isIn (h : PHeap) (a b : PV) : Option Bool := match asDict h b with
  | some es => if keyOk es a then some (es.any fun e => decide (e.1 = a)) else none
  | none => match asSeq h b with
    | some xs => match toD (res h a), toDs xs with
      | some d, some ds => if SeqAt.shaped d && SeqAt.shaped (.list ds) then some (ds.any fun e => PyData.eqv e d) else none
      | _, _ => none
    | none => none
def cmpop (op : COp) (a b : PV) (h : PHeap) : Option Bool := match op with
  | .eq => pyEq h a b
  | .ne => (pyEq h a b).map (!·)
  | .lt => pyOrd .lt h a b
  | .gt => pyOrd .gt h a b
  | .le => pyOrd .le h a b
  | .ge => pyOrd .ge h a b
  | .is => match b with
    | .non => some (decide (a = .non))
    | _ => none
  | .isnot => match b with
    | .non => some (!decide (a = .non))
    | _ => none
  | .isin => isIn h a b
  | .notin => (isIn h a b).map (!·)

def itemOf (h : PHeap) (a i : PV) : Option PV := match asDict h a with
  | some es => if keyOk es i then dFind es i else none
  | none => match asSeq h a, i with
    | some xs, .int i => L2.atI xs i
    | _, _ => none
def cut (xs : List PV) (lo hi : Option Int) : List PV := (xs.drop (HT.sIx xs.length 0 lo)).take (HT.sIx xs.length xs.length hi - HT.sIx xs.length 0 lo)
def sliceOf (h : PHeap) (a : PV) (lo hi : Option Int) : Option PV := match a with
  | .tup xs => some (.tup (cut xs lo hi))
  | .scr ns => some (.lst (cut (ns.map .int) lo hi))
  | a => (asList h a).map fun xs => .lst (cut xs lo hi)
def revOf (h : PHeap) (a : PV) : Option PV := match a with
  | .tup xs => some (.tup xs.reverse)
  | a => (asList h a).map fun xs => .lst xs.reverse

/-- the built-in type of a value, where it is known -/
def tyOf (h : PHeap) : PV → Option String
  | .non => some "NoneType"
  | .bl _ => some "bool"
  | .int _ => some "int"
  | .str _ => some "str"
  | .tup _ => some "tuple"
  | v => (asList h v).map fun _ => "list"
def tyNames : List String := ["int", "bool", "str", "tuple", "list", "dict", "set"]
def isTy (t T : String) : Bool := t == T || (t == "bool" && T == "int")

def bLen (h : PHeap) : List PV → Option PV
  | [.str s] => if s.length ≤ sizeLine then some (.int s.length) else none
  | [v] => match asSeq h v with
    | some xs => some (.int xs.length)
    | none => match asDict h v with
      | some es => some (.int es.length)
      | none => none
  | _ => none
def bAbs : List PV → Option PV
  | [.int i] => some (.int (if i < 0 then -i else i))
  | _ => none
def bMax2 : List PV → Option PV
  | [.int i, .int j] => some (.int (if j > i then j else i))
  | _ => none
def bMin2 : List PV → Option PV
  | [.int i, .int j] => some (.int (if j < i then j else i))
  | _ => none
def bInt : List PV → Option PV
  | [.int i] => some (.int i)
  | [.bl b] => some (.int (if b then 1 else 0))
  | _ => none
def bIsi (h : PHeap) (T : String) : List PV → Option PV
  | [v] => if tyNames.contains T then (tyOf h v).map fun t => .bl (isTy t T) else none
  | _ => none
def bIsiT (h : PHeap) (ts : List String) : List PV → Option PV
  | [v] => if ts.all (tyNames.contains ·) then (tyOf h v).map fun t => .bl (ts.any (isTy t)) else none
  | _ => none
def bltop (f : Blt) (as : List PV) (h : PHeap) : Option PV := match f with
  | .len => bLen h as
  | .abs => bAbs as
  | .max2 => bMax2 as
  | .min2 => bMin2 as
  | .int => bInt as
  | .isi T => bIsi h T as
  | .isiT ts => bIsiT h ts as
  | .repr => none

/-- a live cell is written -/
def store (h : PHeap) (n : Nat) (c : Cell) : PHeap := h.set n c

def putItem (h : PHeap) (o i v : PV) : Option PHeap := match o with
  | .ref n => match h[n]?, i with
    | some (.lst xs), .int k => match L2.ixN xs.length k with
      | some j => some (h.set n (.lst (xs.set j v)))
      | none => none
    | some (.dct es), k => if keyOk es k && decide (es.length < LIM) then some (h.set n (.dct (dPut es k v))) else none
    | _, _ => none
  | _ => none

def mGet (o : PV) (as : List PV) (h : PHeap) : R PV := match as with
  | [k, x] => match asDict h o with
    | some es => if keyOk es k then .ok ((dFind es k).getD x) h else .bad
    | none => .bad
  | _ => .bad
def mGet1 (o : PV) (as : List PV) (h : PHeap) : R PV := match as with
  | [k] => match asDict h o with
    | some es => if keyOk es k then .ok ((dFind es k).getD .non) h else .bad
    | none => .bad
  | _ => .bad
def mApp (o : PV) (as : List PV) (h : PHeap) : R PV := match o, as with
  | .ref n, [v] => match h[n]? with
    | some (.lst xs) => if xs.length < LIM then .ok .non (h.set n (.lst (xs ++ [v]))) else .bad
    | _ => .bad
  | _, _ => .bad
def mExt (o : PV) (as : List PV) (h : PHeap) : R PV := match o, as with
  | .ref n, [v] => match h[n]?, asList h v with
    | some (.lst xs), some ys => if xs.length + ys.length ≤ LIM then .ok .non (h.set n (.lst (xs ++ ys))) else .bad
    | _, _ => .bad
  | _, _ => .bad
def mPop (o : PV) (as : List PV) (h : PHeap) : R PV := match o, as with
  | .ref n, [] => match h[n]? with
    | some (.lst xs) => match xs[xs.length - 1]? with
      | some v => .ok v (h.set n (.lst xs.dropLast))
      | none => .bad
    | _ => .bad
  | _, _ => .bad
def mPopAt (o : PV) (as : List PV) (h : PHeap) : R PV := match o, as with
  | .ref n, [.int i] => match h[n]? with
    | some (.lst xs) => if wide62 i then match seqIndex? i xs.length with
      | some k => match xs[k]? with
        | some v => .ok v (h.set n (.lst (xs.eraseIdx k)))
        | none => .bad
      | none => .bad else .bad
    | _ => .bad
  | _, _ => .bad
def mIdx (o : PV) (as : List PV) (h : PHeap) : R PV := match as with
  | [v] => match asList h o with
    | some xs => match toDs xs, toD (res h v) with
      | some ds, some d => if SeqAt.shaped (.list ds) && SeqAt.shaped d then match ds.findIdx? (fun e => PyData.eqv e d) with
          | some j => .ok (.int (j : Nat)) h
          | none => .bad
        else .bad
      | _, _ => .bad
    | none => .bad
  | _ => .bad
def methop (m : Mth) (o : PV) (as : List PV) (h : PHeap) : R PV := match m with
  | .dget => mGet o as h
  | .dget1 => mGet1 o as h
  | .lapp => mApp o as h
  | .lext => mExt o as h
  | .lpop => mPop o as h
  | .lpopAt => mPopAt o as h
  | .lidx => mIdx o as h
  | _ => .bad
/-- the receiver is of the method's type -/
def recv (m : Mth) (h : PHeap) (o : PV) : Bool := match m with
  | .dget => (asDict h o).isSome
  | .dget1 => (asDict h o).isSome
  | .dpop => (asDict h o).isSome
  | .dpop2 => (asDict h o).isSome
  | .dsetd => (asDict h o).isSome
  | .tidx => match o with
    | .tup _ => true
    | _ => false
  | .tcount => match o with
    | .tup _ => true
    | _ => false
  | _ => (asList h o).isSome
end HW
/-! HwB: what the small language's terms do. -/
namespace HW
open PySem

mutual
/-- all cells named in it lie below n -/
def below (n : Nat) : PV → Bool
  | .ref m => decide (m < n)
  | .tup xs => belows n xs
  | .lst xs => belows n xs
  | .dct es => belowp n es
  | _ => true
def belows (n : Nat) : List PV → Bool
  | [] => true
  | x :: xs => below n x && belows n xs
def belowp (n : Nat) : List (PV × PV) → Bool
  | [] => true
  | (x, y) :: xs => below n x && below n y && belowp n xs
end
def belowC (n : Nat) : Cell → Bool
  | .lst xs => belows n xs
  | .dct es => belowp n es
  | .dctL es => belowp n es
  | .obj _ fs => fs.all fun f => below n f.2
/-- the cells that stood ahead name none of the later ones -/
def okOuter (h : PHeap) : PHeap → Bool := fun g => (List.range h.length).all fun m => decide (g[m]? = h[m]?) || (match g[m]? with
  | some c => belowC h.length c
  | none => false)
mutual
/-- a value that leaves: what lies behind n is frozen -/
def frz (h : PHeap) (n : Nat) : Nat → PV → Option PV
  | 0, _ => none
  | k + 1, v => if below n v then some v else match v with
    | .ref m => match h[m]? with
      | some (.lst xs) => (frzs h n k xs).map .lst
      | some (.dct es) => if belows n (es.map (·.1)) then (frzs h n k (es.map (·.2))).map fun b => .dct ((es.map (·.1)).zip b) else none
      | _ => none
    | .tup xs => (frzs h n k xs).map .tup
    | .lst xs => (frzs h n k xs).map .lst
    | _ => none
def frzs (h : PHeap) (n : Nat) : Nat → List PV → Option (List PV)
  | 0, _ => none
  | k + 1, xs => xs.mapM (frz h n k)
end

def wipeE (env : Env) : List Nat → Env
  | [] => env
  | v :: vs => (wipeE env vs).set v none
mutual
def tgSet : Tg → PV → Env → Option Env
  | .nm i, v, env => if i < env.length then some (env.set i (some v)) else none
  | .tp ts, v, env => match v with
    | .tup xs => if xs.length = ts.length then tgSets ts xs env else none
    | .lst xs => if xs.length = ts.length then tgSets ts xs env else none
    | _ => none
def tgSets : List Tg → List PV → Env → Option Env
  | [], _, env => some env
  | t :: ts, x :: xs, env => match tgSet t x env with
    | some env1 => tgSets ts xs env1
    | none => none
  | _ :: _, [], _ => none
end

def mkList (al : Bool) (vs : List PV) (h : PHeap) : R PV := if al then .ok (.ref h.length) (h ++ [.lst vs]) else .ok (.lst vs) h
def mkDict (al : Bool) (es : List (PV × PV)) (h : PHeap) : R PV := if al then .ok (.ref h.length) (h ++ [.dct es]) else .ok (.dct es) h
abbrev Chk := PHeap → Bool
/-- what a value gives when it is walked, and whether it still stands as it did -/
def srcOf (h : PHeap) : PV → Option (List PV × Chk)
  | .tup xs => some (xs, fun _ => true)
  | .lst xs => some (xs, fun _ => true)
  | .dct es => some (es.map (·.1), fun _ => true)
  | .ref n => match h[n]? with
    | some (.lst xs) => some (xs, fun g => decide (g[n]? = some (.lst xs)))
    | some (.dct es) => some (es.map (·.1), fun _ => false)
    | some (.dctL es) => some (es.map (·.1), fun g => decide (g[n]? = some (.dctL es)))
    | _ => none
  | _ => none
def dictSrc (h : PHeap) : PV → Option (List (PV × PV) × Chk)
  | .dct es => some (es, fun _ => true)
  | .ref n => match h[n]? with
    | some (.dctL es) => some (es, fun g => decide (g[n]? = some (.dctL es)))
    | _ => none
  | _ => none
def seqSrc (h : PHeap) : PV → Option (List PV × Chk)
  | .tup xs => some (xs, fun _ => true)
  | .lst xs => some (xs, fun _ => true)
  | .ref n => match h[n]? with
    | some (.lst xs) => some (xs, fun g => decide (g[n]? = some (.lst xs)))
    | _ => none
  | _ => none
/-- what a loop walks: an unlocked dict of one's own isn't *)-/
def walkSrc (h : PHeap) (v : PV) : Option (List PV × Chk) := match v with
  | .tup xs => some (xs, fun _ => true)
  | .lst xs => some (xs, fun _ => true)
  | .dct es => some (es.map (·.1), fun _ => true)
  | .ref n => match h[n]? with
    | some (.lst xs) => some (xs, fun g => decide (g[n]? = some (.lst xs)))
    | some (.dctL es) => some (es.map (·.1), fun g => decide (g[n]? = some (.dctL es)))
    | _ => none
  | _ => none
def listSrc (h : PHeap) (v : PV) : Option (List PV × Chk) := match v with
  | .lst xs => some (xs, fun _ => true)
  | .ref n => match h[n]? with
    | some (.lst xs) => some (xs, fun g => decide (g[n]? = some (.lst xs)))
    | _ => none
  | _ => none
def zipSrc (h : PHeap) (v w : PV) : Option ((List PV × List PV) × Chk) := match v, w with
  | .tup xs, .tup ys => some ((xs, ys), fun _ => true)
  | v, w => match listSrc h v, listSrc h w with
    | some p, some q => some ((p.1, q.1), fun g => p.2 g && q.2 g)
    | _, _ => none
def pairUp : List PV → Option (List (PV × PV))
  | [] => some []
  | k :: v :: r => (pairUp r).map ((k, v) :: ·)
  | _ => none
def putAll (es : List (PV × PV)) : List (PV × PV) → Option (List (PV × PV))
  | [] => some es
  | (k, v) :: r => if keyOk es k && decide (es.length < LIM) then putAll (dPut es k v) r else none
/-- a display's entries: texts and whole numbers as keys -/
def dispOf (es : List (PV × PV)) : Option (List (PV × PV)) := if es.all (fun e => keyV e.1) then putAll [] es else none
def pairOf : PV → Option (PV × PV)
  | .tup [k, v] => some (k, v)
  | _ => none

def tests (ts : List (Env → PHeap → R Bool)) (env : Env) (h : PHeap) : R Bool := match ts with
  | [] => .ok true h
  | t :: r => (t env h).bind fun b h => if b then tests r env h else .ok false h
/-- a list comprehension's turns -/
def compGo (chk : Chk) (tg : PV → Env → Option Env) (ok : Env → PHeap → R Bool) (elt : Env → PHeap → R PV) (env : Env) : List PV → PHeap → List PV → R (List PV)
  | [], h, acc => if chk h then .ok acc h else .bad
  | x :: xs, h, acc => if chk h then match tg x env with
      | some env1 => (ok env1 h).bind fun b h1 => if b then (elt env1 h1).bind fun y h2 => if acc.length < LIM then compGo chk tg ok elt env xs h2 (acc ++ [y]) else .bad
          else compGo chk tg ok elt env xs h1 acc
      | none => .bad
    else .bad
/-- two clauses; the inner turns by the one-clause ones -/
def comp2Go (chk : Chk) (tg : PV → Env → Option Env) (ok : Env → PHeap → R Bool) (src : Env → PHeap → R (List PV × Chk)) (tg1 : PV → Env → Option Env) (ok1 : Env → PHeap → R Bool) (elt : Env → PHeap → R PV) (vs1 : List Nat) (env : Env) : List PV → PHeap → List PV → R (List PV)
  | [], h, acc => if chk h then .ok acc h else .bad
  | x :: xs, h, acc => if chk h then match tg x env with
      | some env1 => (ok env1 h).bind fun b h1 => if b then (src env1 h1).bind fun p h2 => (compGo p.2 tg1 ok1 elt (wipeE env1 vs1) p.1 h2 acc).bind fun acc h3 => comp2Go chk tg ok src tg1 ok1 elt vs1 env xs h3 acc
          else comp2Go chk tg ok src tg1 ok1 elt vs1 env xs h1 acc
      | none => .bad
    else .bad
def dcompGo (chk : Chk) (tg : PV → Env → Option Env) (ok : Env → PHeap → R Bool) (kx vx : Env → PHeap → R PV) (env : Env) : List PV → PHeap → List (PV × PV) → R (List (PV × PV))
  | [], h, acc => if chk h then .ok acc h else .bad
  | x :: xs, h, acc => if chk h then match tg x env with
      | some env1 => (ok env1 h).bind fun b h1 => if b then (kx env1 h1).bind fun k h2 => (vx env1 h2).bind fun v h3 =>
            if keyOk acc k && decide (acc.length < LIM) then dcompGo chk tg ok kx vx env xs h3 (dPut acc k v) else .bad
          else dcompGo chk tg ok kx vx env xs h1 acc
      | none => .bad
    else .bad
def asInts : List PV → Option (List Int)
  | [] => some []
  | .int i :: r => (asInts r).map (i :: ·)
  | _ => none
def asBools : List PV → Option (List Bool)
  | [] => some []
  | .bl b :: r => (asBools r).map (b :: ·)
  | _ => none
def dOf (v : PV) : PyData := (toD v).getD .none
/-- sorted: the items, if they can be compared -/
def sortOk (xs : List PV) : Bool := match toDs xs with
  | some ds => ds.all (fun d => ds.all fun e => PySem.W.alike d e) && ds.all (fun d => decide (d.depth ≤ 32)) &&
      (ds.all (fun d => match d with
        | .tuple (_ :: _) => true
        | _ => false) || ds.all fun d => match d with
        | .none => false
        | .tuple _ => false
        | _ => true)
  | none => false
def sortV (xs : List PV) : List PV := xs.mergeSort (PySem.W.dataLe false dOf)
/-- the first ones of equal items -/
def dedup : List PV → List PV
  | [] => []
  | x :: xs => x :: (dedup xs).filter fun y => !decide (y = x)
def plainSet (xs : List PV) : Bool := xs.all (fun x => match x with
    | .int _ => true
    | _ => false) || xs.all fun x => match x with
    | .tup ys => (asInts ys).isSome
    | _ => false
def maxI : List Int → Option Int
  | [] => none
  | x :: xs => some (xs.foldl (fun a b => if b > a then b else a) x)
def minI : List Int → Option Int
  | [] => none
  | x :: xs => some (xs.foldl (fun a b => if b < a then b else a) x)
def anySrc (h : PHeap) (v : PV) : Option (List PV) := (srcOf h v).map (·.1)
def convop (k : Cnv) (al : Bool) (v : PV) (h : PHeap) : R PV := match k with
  | .list => (R.of (anySrc h v) h).bind fun xs h => mkList al xs h
  | .tuple => (R.of (asSeq h v) h).bind fun xs h => .ok (.tup xs) h
  | .sorted => (R.of (anySrc h v) h).bind fun xs h => if sortOk xs then mkList al (sortV xs) h else .bad
  | .sum => R.of ((asList h v).bind fun xs => (asInts xs).map fun ns => .int ns.sum) h
  | .all => R.of ((asList h v).bind fun xs => (asBools xs).map fun bs => .bl (bs.all id)) h
  | .any => R.of ((asList h v).bind fun xs => (asBools xs).map fun bs => .bl (bs.any id)) h
  | .max => R.of ((asList h v).bind fun xs => ((asInts xs).bind maxI).map .int) h
  | .min => R.of ((asList h v).bind fun xs => ((asInts xs).bind minI).map .int) h
  | .dict => (R.of ((asSeq h v).bind fun xs => (xs.mapM pairOf).bind (putAll [])) h).bind fun es h => mkDict al es h
  | .sortedSet => (R.of (asSeq h v) h).bind fun xs h => if plainSet xs && sortOk xs && decide (xs.length < 64) then mkList al (sortV (dedup xs)) h else .bad
  | .lenSet => (R.of (asSeq h v) h).bind fun xs h => if plainSet xs && decide (xs.length < 64) then .ok (.int (dedup xs).length) h else .bad
/-- of what isn't a value *)-/
def convI (k : Cnv) (al : Bool) (xs : List PV) (h : PHeap) : R PV := match k with
  | .list => if xs.length ≤ LIM then mkList al xs h else .bad
  | .tuple => if xs.length ≤ LIM then .ok (.tup xs) h else .bad
  | .sorted => if sortOk xs && decide (xs.length ≤ LIM) then mkList al (sortV xs) h else .bad
  | _ => .bad
def rangeOf (lo hi : Int) : Option (List PV) := if wide62 lo && wide62 hi then some ((List.range (hi - lo).toNat).map fun (i : Nat) => .int (lo + i)) else none
def intOf : PV → Option Int
  | .int i => some i
  | _ => none
def enumOf (xs : List PV) : List PV := xs.mapIdx fun i x => .tup [.int (i : Nat), x]
def zipOf (xs ys : List PV) : List PV := List.zipWith (fun x y => .tup [x, y]) xs ys

/-- a live dict that is walked by its name is locked as long -/
def lockV (i : Nat) (env : Env) (h : PHeap) : Option Nat := match env[i]? with
  | some (some (.ref n)) => match h[n]? with
    | some (.dct _) => some n
    | _ => none
  | _ => none
def lockE (e : IE) (env : Env) (h : PHeap) : Option Nat := match e with
  | .var i => lockV i env h
  | _ => none
def lockI (it : II) (env : Env) (h : PHeap) : Option Nat := match it with
  | .ex e => lockE e env h
  | .items e => lockE e env h
  | .values e => lockE e env h
  | _ => none
def withLock {α : Type} (lk : Option Nat) (f : PHeap → R α) (h : PHeap) : R α := match lk with
  | none => f h
  | some n => match h[n]? with
    | some (.dct es) => (f (h.set n (.dctL es))).bind fun r g => if g[n]? = some (.dctL es) then .ok r (g.set n (.dct es)) else .bad
    | _ => .bad
section
variable (ctx : List Sem)
mutual
def dE : IE → Env → PHeap → R PV
  | .var i, env, h => match env[i]? with
    | some (some v) => .ok v h
    | _ => .bad
  | .cst v, _, h => .ok v h
  | .glob _ v, _, h => .ok v h
  | .tup es, env, h => (dEs es env h).bind fun vs h => .ok (.tup vs) h
  | .lst al es, env, h => (dEs es env h).bind fun vs h => mkList al vs h
  | .dct al kvs, env, h => (dEs kvs env h).bind fun vs h => (R.of ((pairUp vs).bind dispOf) h).bind fun es h => mkDict al es h
  | .bin op a b, env, h => (dE a env h).bind fun x h => (dE b env h).bind fun y h => R.of (binop op x y h) h
  | .neg a, env, h => (dE a env h).bind fun x h => R.of ((intOf x).map fun i => .int (-i)) h
  | .not a, env, h => (dE a env h).bind fun x h => R.of ((tru h x).map fun c => .bl (!c)) h
  | .cmp op a b, env, h => (dE a env h).bind fun x h => (dE b env h).bind fun y h => R.of ((cmpop op x y h).map .bl) h
  | .cmp2 op op' a b c, env, h => (dE a env h).bind fun x h => (dE b env h).bind fun y h => (R.of (cmpop op x y h) h).bind fun t h =>
      if t then (dE c env h).bind fun z h => R.of ((cmpop op' y z h).map .bl) h else .ok (.bl false) h
  | .and a b, env, h => (dE a env h).bind fun x h => (R.of (tru h x) h).bind fun t h => if t then dE b env h else .ok x h
  | .or a b, env, h => (dE a env h).bind fun x h => (R.of (tru h x) h).bind fun t h => if t then .ok x h else dE b env h
  | .ife c a b, env, h => (dE c env h).bind fun x h => (R.of (tru h x) h).bind fun t h => if t then dE a env h else dE b env h
  | .sub a i, env, h => (dE a env h).bind fun x h => (dE i env h).bind fun y h => R.of (itemOf h x y) h
  | .slice a lo hi, env, h => (dE a env h).bind fun x h => (dO lo env h).bind fun l h => (dO hi env h).bind fun u h => R.of (sliceOf h x l u) h
  | .rev a st, env, h => (dE a env h).bind fun x h => (dE st env h).bind fun y h => R.of (if y = .int (-1) then revOf h x else none) h
  | .call f es, env, h => (dEs es env h).bind fun vs h => (ctx.getD f fun _ _ => .bad) vs h
  | .blt f es, env, h => (dEs es env h).bind fun vs h => R.of (bltop f vs h) h
  | .meth m o es, env, h => (dE o env h).bind fun x h => if recv m h x then (dEs es env h).bind fun vs h => methop m x vs h else .bad
  | .conv k al e, env, h => (dE e env h).bind fun v h => convop k al v h
  | .convI k al it, env, h => withLock (lockI it env h) (fun h => (dI it env h).bind fun p h => convI k al p.1 h) h
  | .comp al own tg it ifs elt, env, h => withLock (lockI it env h) (fun h => (dI it env h).bind fun p h =>
      (compGo p.2 (tgSet tg) (dIfs ifs) (dE elt) (wipeE env own) p.1 h []).bind fun acc h => mkList al acc h) h
  | .comp2 al own tg it ifs own1 tg1 it1 ifs1 elt, env, h => withLock (lockI it env h) (fun h => (dI it env h).bind fun p h =>
      (comp2Go p.2 (tgSet tg) (dIfs ifs) (dI it1) (tgSet tg1) (dIfs ifs1) (dE elt) own1 (wipeE env own) p.1 h []).bind fun acc h => mkList al acc h) h
  | .dcomp al own tg it ifs k v, env, h => withLock (lockI it env h) (fun h => (dI it env h).bind fun p h =>
      (dcompGo p.2 (tgSet tg) (dIfs ifs) (dE k) (dE v) (wipeE env own) p.1 h []).bind fun acc h => mkDict al acc h) h
def dEs : IEs → Env → PHeap → R (List PV)
  | .nil, _, h => .ok [] h
  | .cons e es, env, h => (dE e env h).bind fun v h => (dEs es env h).bind fun vs h => .ok (v :: vs) h
def dIfs : IEs → Env → PHeap → R Bool
  | .nil, _, h => .ok true h
  | .cons e es, env, h => (dE e env h).bind fun v h => (R.of (tru h v) h).bind fun t h => if t then dIfs es env h else .ok false h
def dO : IO → Env → PHeap → R (Option Int)
  | .none, _, h => .ok none h
  | .some e, env, h => (dE e env h).bind fun v h => (R.of (intOf v) h).bind fun i h => .ok (some i) h
def dI : II → Env → PHeap → R (List PV × Chk)
  | .ex e, env, h => (dE e env h).bind fun v h => R.of (walkSrc h v) h
  | .rng1 a, env, h => (dE a env h).bind fun v h => (R.of ((intOf v).bind (rangeOf 0)) h).bind fun xs h => .ok (xs, fun _ => true) h
  | .rng2 a b, env, h => (dE a env h).bind fun v h => (dE b env h).bind fun w h => (R.of ((intOf v).bind fun i => (intOf w).bind (rangeOf i)) h).bind fun xs h => .ok (xs, fun _ => true) h
  | .enum e, env, h => (dE e env h).bind fun v h => (R.of (listSrc h v) h).bind fun p h => .ok (enumOf p.1, p.2) h
  | .zip a b, env, h => (dE a env h).bind fun v h => (dE b env h).bind fun w h => (R.of (zipSrc h v w) h).bind fun p h => .ok (zipOf p.1.1 p.1.2, p.2) h
  | .items d, env, h => (dE d env h).bind fun v h => (R.of (dictSrc h v) h).bind fun p h => .ok (p.1.map fun e => .tup [e.1, e.2], p.2) h
  | .values d, env, h => (dE d env h).bind fun v h => (R.of (dictSrc h v) h).bind fun p h => .ok (p.1.map (·.2), p.2) h
end
def dT (e : IE) (env : Env) (h : PHeap) : R Bool := (dE ctx e env h).bind fun v h => R.of (tru h v) h

/-- to a target -/
def dTg : ITgt → PV → Env → PHeap → R Env
  | .tg t, v, env, h => R.of (tgSet t v env) h
  | .sub o i, v, env, h => (dE ctx o env h).bind fun x h => (dE ctx i env h).bind fun y h => match putItem h x y v with
    | some h' => .ok env h'
    | none => .bad
def dTgs : List ITgt → List PV → Env → PHeap → R Env
  | [], [], env, h => .ok env h
  | t :: ts, v :: vs, env, h => (dTg ctx t v env h).bind fun env h => dTgs ts vs env h
  | _, _, _, _ => .bad
/-- a for's turns -/
def forGo (chk : Chk) (tg : PV → Env → Option Env) (body : Env → PHeap → R Out) : List PV → Env → PHeap → R Out
  | [], env, h => if chk h then .ok (.nx env) h else .bad
  | x :: xs, env, h => if chk h then match tg x env with
      | some env1 => (body env1 h).bind fun o h1 => match o with
        | .nx e => forGo chk tg body xs e h1
        | .ct e => forGo chk tg body xs e h1
        | .bk e => .ok (.nx e) h1
        | .rt v => .ok (.rt v) h1
      | none => .bad
    else .bad
def whileGo (test : Env → PHeap → R Bool) (body : Env → PHeap → R Out) : Nat → Env → PHeap → R Out
  | 0, _, _ => .bad
  | n + 1, env, h => (test env h).bind fun t h => if t then (body env h).bind fun o h1 => match o with
      | .nx e => whileGo test body n e h1
      | .ct e => whileGo test body n e h1
      | .bk e => .ok (.nx e) h1
      | .rt v => .ok (.rt v) h1
    else .ok (.nx env) h
mutual
def dS : IS → Env → PHeap → R Out
  | .expr e, env, h => (dE ctx e env h).bind fun _ h => .ok (.nx env) h
  | .asg t e, env, h => (dE ctx e env h).bind fun v h => (dTg ctx t v env h).bind fun env h => .ok (.nx env) h
  | .par ts es, env, h => (dEs ctx es env h).bind fun vs h => (dTgs ctx ts vs env h).bind fun env h => .ok (.nx env) h
  | .aug i op e, env, h => match env[i]? with
    | some (some x) => (dE ctx e env h).bind fun y h => (R.of (match x, y with
        | .int _, .int _ => binop op x y h
        | _, _ => none) h).bind fun z h => .ok (.nx (env.set i (some z))) h
    | _ => .bad
  | .augS o i op e, env, h => (dE ctx o env h).bind fun x h => (dE ctx i env h).bind fun k h => (R.of (itemOf h x k) h).bind fun old h => (dE ctx e env h).bind fun y h =>
      (R.of (match old, y with
        | .int _, .int _ => binop op old y h
        | _, _ => none) h).bind fun z h => match putItem h x k z with
        | some h' => .ok (.nx env) h'
        | none => .bad
  | .ret e, env, h => (dE ctx e env h).bind fun v h => .ok (.rt v) h
  | .retN, _, h => .ok (.rt .non) h
  | .pass, env, h => .ok (.nx env) h
  | .brk, env, h => .ok (.bk env) h
  | .cont, env, h => .ok (.ct env) h
  | .ifs c a b, env, h => (dT ctx c env h).bind fun t h => if t then dSs a env h else dSs b env h
  | .for_ tg it b, env, h => withLock (lockI it env h) (fun h => (dI ctx it env h).bind fun p h => forGo p.2 (tgSet tg) (dSs b) p.1 env h) h
  | .while_ n c b, env, h => whileGo (dT ctx c) (dSs b) n env h
  | .raise_ x, _, h => .exc x h
def dSs : ISs → Env → PHeap → R Out
  | .nil, env, h => .ok (.nx env) h
  | .cons s ss, env, h => (dS s env h).bind fun o h => match o with
    | .nx env => dSs ss env h
    | o => .ok o h
end
end
/-- a def: how many parameters, how many names, what it does, whether the cells that it makes are kept -/
structure IFun where
  np : Nat
  n : Nat
  body : ISs
  keep : Bool := false
def finish (keep : Bool) (h : PHeap) (v : PV) (h1 : PHeap) : R PV := if keep then .ok v h1 else if okOuter h h1 && decide (h.length ≤ h1.length) then match frz h1 h.length 12 v with
    | some v' => .ok v' (h1.take h.length)
    | none => .bad
  else .bad
def runFn (f : IFun) (ctx : List Sem) : Sem := fun args h => if args.length = f.np then
    (dSs ctx f.body (args.map some ++ List.replicate (f.n - f.np) none) h).bind fun o h1 => match o with
      | .rt v => finish f.keep h v h1
      | .nx _ => finish f.keep h .non h1
      | _ => .bad
  else .bad
end HW
/-! HwC: how the evaluator's values and heap stand in the model's. -/
namespace HW
open PySem PySem.Spec PyProof.Rows L2

structure Wd where
  P : Program
  w : World
  K : PySem.W.Frag
abbrev wd (X : Cx) : Wd := ⟨X.prog, X.w, X.K⟩

def kP : L2.Key → PV
  | .inl i => .int i
  | .inr s => .str s
/-- a dict whose keys are tuples, nested -/
def dictB (P : Program) (w : World) (a : Addr) (xs : List (NestedKey × Addr × V)) : HO := .ext fun h => ∃ ys : List (NestedKey × Addr × Value), Paired (fun (p : NestedKey × Addr × V) (q : NestedKey × Addr × Value) => p.1 = q.1 ∧ p.2.1 = q.2.1 ∧ RelV p.2.2 q.2.2) xs ys ∧
  xs.length ≤ sizeLine ∧ (a == sysModules) = false ∧ (xs.map (·.1)).Nodup ∧ ∃ o es ep, h.get? a = some o ∧ o.ExactDict ∧ o.data = .dict es ep ∧ es.toList = ys.map (entryOfKey (nestedKind P w))

/-- a tuple stands at a: its object has no dict of its own -/
def TupAt (H : Hp) (a : Addr) (vs : List V) : Prop := ∃ o : Obj, H a = some (.frz o (.tup vs)) ∧ o.dict = none
theorem TupAt.sq {K : PySem.W.Frag} {H : Hp} {a : Addr} {vs : List V} (x : TupAt H a vs) : SqT K H a vs := let ⟨o, h, _⟩ := x; .inl (.inr ⟨o, h⟩)
/-- what is known there, its object fixed -/
def FzAt (H : Hp) (a : Addr) (u : HO) : Prop := ∃ o : Obj, H a = some (.frz o u)
mutual
inductive VR (Z : Wd) (L : List Addr) (H : Hp) : PV → V → Prop
  | non : VR Z L H .non .non
  | bl (b : Bool) : VR Z L H (.bl b) (.bl b)
  | int (i : Int) : VR Z L H (.int i) (.int i)
  | str (s : Str) : VR Z L H (.str s) (.str s)
  | tup {a : Addr} {xs : List PV} {vs : List V} : TupAt H a vs → a ∉ L → VRs Z L H xs vs → VR Z L H (.tup xs) (.ref a)
  | lst {a : Addr} {xs : List PV} {vs : List V} : FzAt H a (.lst vs) → a ∉ L → VRs Z L H xs vs → VR Z L H (.lst xs) (.ref a)
  | scr {a : Addr} {ns : List Int} : FzAt H a (.lst (ns.map V.int)) → a ∉ L → VR Z L H (.scr ns) (.ref a)
  | scrK {a : Addr} {ns : List Int} : (∀ G, SqL Z.K G a (ns.map V.int)) → VR Z L H (.scr ns) (.ref a)
  | dctK {a : Addr} {es : List (PV × PV)} {kvs : List (Key × V)} : FzAt H a (.dK kvs) → a ∉ L → es.map (·.1) = kvs.map (fun p => kP p.1) → VRs Z L H (es.map (·.2)) (kvs.map (·.2)) → VR Z L H (.dct es) (.ref a)
  | dctT {a : Addr} {es : List (PV × PV)} {xs : List (NestedKey × Addr × V)} : FzAt H a (dictB Z.P Z.w a xs) → a ∉ L → es ≠ [] → toNs (es.map (·.1)) = some (xs.map (·.1)) → (es.all fun e => keyT e.1) = true →
      VRs Z L H (es.map (·.1)) (xs.map fun x => .ref x.2.1) → VRs Z L H (es.map (·.2)) (xs.map (·.2.2)) → VR Z L H (.dct es) (.ref a)
  | ref {n : Nat} {a : Addr} : L[n]? = some a → VR Z L H (.ref n) (.ref a)
inductive VRs (Z : Wd) (L : List Addr) (H : Hp) : List PV → List V → Prop
  | nil : VRs Z L H [] []
  | cons {x : PV} {v : V} {xs : List PV} {vs : List V} : VR Z L H x v → VRs Z L H xs vs → VRs Z L H (x :: xs) (v :: vs)
end
/-- the dict at a, by its entries -/
inductive DP (Z : Wd) (L : List Addr) (H : Hp) (a : Addr) (W : HO → Prop) (es : List (PV × PV)) : Prop
  | k {kvs : List (Key × V)} : W (.dK kvs) → es.map (·.1) = kvs.map (fun p => kP p.1) → VRs Z L H (es.map (·.2)) (kvs.map (·.2)) → DP Z L H a W es
  | t {xs : List (NestedKey × Addr × V)} : W (dictB Z.P Z.w a xs) → es ≠ [] → toNs (es.map (·.1)) = some (xs.map (·.1)) → (es.all fun e => keyT e.1) = true →
      VRs Z L H (es.map (·.1)) (xs.map fun x => .ref x.2.1) → VRs Z L H (es.map (·.2)) (xs.map (·.2.2)) → DP Z L H a W es
/-- .. read; written; locked -/
abbrev DR (Z : Wd) (L : List Addr) (H : Hp) (a : Addr) (es : List (PV × PV)) : Prop := DP Z L H a (Rd H a) es
abbrev DX (Z : Wd) (L : List Addr) (H : Hp) (a : Addr) (es : List (PV × PV)) : Prop := DP Z L H a (fun u => H a = some u) es
abbrev DL (Z : Wd) (L : List Addr) (H : Hp) (a : Addr) (es : List (PV × PV)) : Prop := DP Z L H a (FzAt H a) es
theorem DP.imp {Z : Wd} {L : List Addr} {H : Hp} {a : Addr} {W W' : HO → Prop} {es : List (PV × PV)} (h : ∀ u, W u → W' u) : DP Z L H a W es → DP Z L H a W' es
  | .k h1 h2 h3 => .k (h _ h1) h2 h3
  | .t h1 h0 h2 h3 h4 h5 => .t (h _ h1) h0 h2 h3 h4 h5
theorem DP.rd {Z : Wd} {L : List Addr} {H : Hp} {a : Addr} {es : List (PV × PV)} (h : DX Z L H a es) : DR Z L H a es := h.imp fun _ => .inl
theorem DP.rdL {Z : Wd} {L : List Addr} {H : Hp} {a : Addr} {es : List (PV × PV)} (h : DL Z L H a es) : DR Z L H a es := h.imp fun _ => .inr
def CR (Z : Wd) (L : List Addr) (H : Hp) (a : Addr) : Cell → Prop
  | .lst xs => ∃ vs, H a = some (.lst vs) ∧ VRs Z L H xs vs
  | .dct es => DX Z L H a es
  | .dctL es => DL Z L H a es
  | .obj _ _ => False
structure Ext (L : List Addr) (H : Hp) (L' : List Addr) (H' : Hp) : Prop where
  pre : ∃ M, L' = L ++ M ∧ ∀ a ∈ M, H a = none
  keep : ∀ a o, a ∉ L → H a = some o → H' a = some o
  dom : ∀ a, H a ≠ none → H' a ≠ none
  frz : ∀ a o u, H a = some (.frz o u) → H' a = some (.frz o u)
structure HR (Z : Wd) (L : List Addr) (h : PHeap) (H : Hp) : Prop where
  len : L.length = h.length
  nd : L.Nodup
  cell : ∀ (n : Nat) (c : Cell) (a : Addr), h[n]? = some c → L[n]? = some a → CR Z L H a c

section
variable {Z : Wd} {L L' L'' : List Addr} {H H' H'' : Hp} {h h' : PHeap}
theorem Ext.refl : Ext L H L H := ⟨⟨[], by simp, by simp⟩, fun _ _ _ e => e, fun _ e => e, fun _ _ _ e => e⟩
theorem Ext.trans (e : Ext L H L' H') (f : Ext L' H' L'' H'') (hl : ∀ a ∈ L, H a ≠ none) : Ext L H L'' H'' := by
  obtain ⟨M, rfl, hM⟩ := e.pre
  obtain ⟨N, rfl, hN⟩ := f.pre
  refine ⟨⟨M ++ N, by simp, fun a ha => ?_⟩, fun a o hn ho => ?_, fun a x => f.dom a (e.dom a x), fun a o u x => f.frz a o u (e.frz a o u x)⟩
  · rcases List.mem_append.mp ha with q | q
    · exact hM a q
    · have := hN a q
      cases hh : H a with
      | none => rfl
      | some o => exact absurd this (e.dom a (by rw [hh]; simp))
  · refine f.keep a o (fun q => ?_) (e.keep a o hn ho)
    rcases List.mem_append.mp q with q | q
    · exact hn q
    · rw [hM a q] at ho; cases ho
theorem Ext.mem (e : Ext L H L' H') {a : Addr} {o : HO} (hn : a ∉ L) (ho : H a = some o) : a ∉ L' := by
  obtain ⟨M, rfl, hM⟩ := e.pre
  intro q
  rcases List.mem_append.mp q with q | q
  · exact hn q
  · rw [hM a q] at ho; cases ho
theorem Ext.get (e : Ext L H L' H') {n : Nat} {a : Addr} (x : L[n]? = some a) : L'[n]? = some a := by
  obtain ⟨M, rfl, hM⟩ := e.pre
  obtain ⟨hl, rfl⟩ := List.getElem?_eq_some_iff.mp x
  rw [List.getElem?_append_left hl]
  exact x
theorem Ext.rd (e : Ext L H L' H') {a : Addr} {u : HO} (hn : a ∉ L) (x : Rd H a u) : Rd H' a u ∧ a ∉ L' := by
  rcases x with x | ⟨o, x⟩
  · exact ⟨.inl (e.keep _ _ hn x), e.mem hn x⟩
  · exact ⟨.inr ⟨o, e.keep _ _ hn x⟩, e.mem hn x⟩
theorem Ext.tup (e : Ext L H L' H') {a : Addr} {vs : List V} (hn : a ∉ L) (x : TupAt H a vs) : TupAt H' a vs ∧ a ∉ L' := by
  obtain ⟨o, h1, h2⟩ := x
  exact ⟨⟨o, e.keep _ _ hn h1, h2⟩, e.mem hn h1⟩
theorem Ext.fz (e : Ext L H L' H') {a : Addr} {u : HO} (hn : a ∉ L) (x : FzAt H a u) : FzAt H' a u ∧ a ∉ L' := let ⟨o, h⟩ := x; ⟨⟨o, e.keep _ _ hn h⟩, e.mem hn h⟩
mutual
theorem VR.mono (e : Ext L H L' H') : ∀ {p : PV} {v : V}, VR Z L H p v → VR Z L' H' p v
  | _, _, .non => .non
  | _, _, .bl b => .bl b
  | _, _, .int b => .int b
  | _, _, .str b => .str b
  | _, _, .tup h1 h2 h3 => .tup (e.tup h2 h1).1 (e.tup h2 h1).2 (VRs.mono e h3)
  | _, _, .lst h1 h2 h3 => .lst (e.fz h2 h1).1 (e.fz h2 h1).2 (VRs.mono e h3)
  | _, _, .scr h1 h2 => .scr (e.fz h2 h1).1 (e.fz h2 h1).2
  | _, _, .scrK h1 => .scrK h1
  | _, _, .dctK h1 h2 h3 h4 => .dctK (e.fz h2 h1).1 (e.fz h2 h1).2 h3 (VRs.mono e h4)
  | _, _, .dctT h1 h2 h0 h3 h4 h5 h6 => .dctT (e.fz h2 h1).1 (e.fz h2 h1).2 h0 h3 h4 (VRs.mono e h5) (VRs.mono e h6)
  | _, _, .ref h1 => .ref (e.get h1)
theorem VRs.mono (e : Ext L H L' H') : ∀ {p : List PV} {v : List V}, VRs Z L H p v → VRs Z L' H' p v
  | _, _, .nil => .nil
  | _, _, .cons h1 h2 => .cons (VR.mono e h1) (VRs.mono e h2)
end
theorem VRs.length : ∀ {p : List PV} {v : List V}, VRs Z L H p v → v.length = p.length
  | _, _, .nil => rfl
  | _, _, .cons _ h2 => by simp [VRs.length h2]
theorem VRs.append : ∀ {p q : List PV} {v u : List V}, VRs Z L H p v → VRs Z L H q u → VRs Z L H (p ++ q) (v ++ u)
  | _, _, _, _, .nil, x => x
  | _, _, _, _, .cons h1 h2, x => .cons h1 (VRs.append h2 x)
theorem VRs.get : ∀ {p : List PV} {v : List V} {i : Nat} {x : V}, VRs Z L H p v → v[i]? = some x → ∃ y, p[i]? = some y ∧ VR Z L H y x
  | _, _, _, _, .nil, e => by simp at e
  | _, _, 0, x, .cons h1 _, e => by simp at e; subst e; exact ⟨_, rfl, h1⟩
  | _, _, i + 1, x, .cons _ h2, e => by
    obtain ⟨y, h3, h4⟩ := VRs.get (i := i) h2 (by simpa using e)
    exact ⟨y, by simpa using h3, h4⟩
theorem VRs.get' {p : List PV} {v : List V} {i : Nat} {y : PV} (r : VRs Z L H p v) (e : p[i]? = some y) : ∃ x, v[i]? = some x ∧ VR Z L H y x := by
  have hl := r.length
  obtain ⟨hi, _⟩ := List.getElem?_eq_some_iff.mp e
  have hi' : i < v.length := by omega
  obtain ⟨y', e1, r1⟩ := r.get (List.getElem?_eq_getElem hi')
  rw [e] at e1; cases e1
  exact ⟨_, List.getElem?_eq_getElem hi', r1⟩
theorem VRs.take : ∀ {p : List PV} {v : List V} (n : Nat), VRs Z L H p v → VRs Z L H (p.take n) (v.take n)
  | _, _, 0, _ => .nil
  | _, _, _ + 1, .nil => .nil
  | _, _, n + 1, .cons r t => .cons r (VRs.take n t)
theorem VRs.drop : ∀ {p : List PV} {v : List V} (n : Nat), VRs Z L H p v → VRs Z L H (p.drop n) (v.drop n)
  | _, _, 0, r => r
  | _, _, _ + 1, .nil => .nil
  | _, _, n + 1, .cons _ t => VRs.drop n t
theorem VRs.set {x : V} {y : PV} (r : VR Z L H y x) : ∀ {p : List PV} {v : List V} (i : Nat), VRs Z L H p v → VRs Z L H (p.set i y) (v.set i x)
  | _, _, _, .nil => .nil
  | _, _, 0, .cons _ t => .cons r t
  | _, _, i + 1, .cons q t => .cons q (VRs.set r i t)
theorem VRs.rep {xs : List PV} {us : List V} (h : VRs Z L H xs us) : ∀ k : Nat, VRs Z L H (List.replicate k xs).flatten (List.replicate k us).flatten
  | 0 => .nil
  | k + 1 => by
    rw [List.replicate_succ, List.replicate_succ, List.flatten_cons, List.flatten_cons]
    exact h.append (VRs.rep h k)
theorem VRs.dropLast {p : List PV} {v : List V} (h : VRs Z L H p v) : VRs Z L H p.dropLast v.dropLast := by
  rw [List.dropLast_eq_take, List.dropLast_eq_take, h.length]
  exact h.take _
theorem VRs.eraseIdx : ∀ {p : List PV} {v : List V} (i : Nat), VRs Z L H p v → VRs Z L H (p.eraseIdx i) (v.eraseIdx i)
  | _, _, _, .nil => .nil
  | _, _, 0, .cons _ t => t
  | _, _, i + 1, .cons q t => .cons q (VRs.eraseIdx i t)
theorem VRs.snoc {p : List PV} {v : List V} {x : PV} {y : V} (h : VRs Z L H p v) (r : VR Z L H x y) : VRs Z L H (p ++ [x]) (v ++ [y]) := h.append (.cons r .nil)
theorem VRs.reverse : ∀ {p : List PV} {v : List V}, VRs Z L H p v → VRs Z L H p.reverse v.reverse
  | _, _, .nil => .nil
  | _, _, .cons r t => by
    rw [List.reverse_cons, List.reverse_cons]
    exact (VRs.reverse t).snoc r
theorem DP.mono (e : Ext L H L' H') {a : Addr} {W W' : HO → Prop} {es : List (PV × PV)} (ha : ∀ o, W o → W' o) (x : DP Z L H a W es) : DP Z L' H' a W' es := by
  cases x with
  | k h1 h2 h3 => exact .k (ha _ h1) h2 (h3.mono e)
  | t h1 h0 h2 h3 h4 h5 => exact .t (ha _ h1) h0 h2 h3 (h4.mono e) (h5.mono e)
theorem FzAt.keep {a : Addr} {u : HO} (ha : ∀ o, H a = some o → H' a = some o) (x : FzAt H a u) : FzAt H' a u := let ⟨o, h⟩ := x; ⟨o, ha _ h⟩
theorem CR.mono (e : Ext L H L' H') {a : Addr} {c : Cell} (ha : ∀ o, H a = some o → H' a = some o) (x : CR Z L H a c) : CR Z L' H' a c := by
  cases c with
  | lst xs => obtain ⟨vs, h1, h2⟩ := x; exact ⟨vs, ha _ h1, h2.mono e⟩
  | dct es => exact DP.mono e ha x
  | dctL es => exact DP.mono e (fun _ => FzAt.keep ha) x
  | obj _ _ => exact x
theorem Rd.isSome_ {a : Addr} {u : HO} (x : Rd H a u) : H a ≠ none := by
  rcases x with x | ⟨o, x⟩ <;> rw [x] <;> simp
theorem DP.isSome_ {a : Addr} {es : List (PV × PV)} (x : DR Z L H a es) : H a ≠ none := by
  cases x with
  | k h1 _ _ => exact Rd.isSome_ h1
  | t h1 _ _ _ _ _ => exact Rd.isSome_ h1
theorem CR.isSome_ {a : Addr} {c : Cell} (x : CR Z L H a c) : H a ≠ none := by
  cases c with
  | lst xs => obtain ⟨vs, h1, _⟩ := x; rw [h1]; simp
  | dct es => exact DP.isSome_ (DP.rd x)
  | dctL es => exact DP.isSome_ (DP.rdL x)
  | obj _ _ => exact x.elim
theorem HR.there (r : HR Z L h H) {a : Addr} (ha : a ∈ L) : H a ≠ none := by
  obtain ⟨n, hn⟩ := List.mem_iff_getElem?.mp ha
  obtain ⟨hl, _⟩ := List.getElem?_eq_some_iff.mp hn
  have := r.len
  exact (r.cell n _ a (List.getElem?_eq_getElem (by omega)) hn).isSome_
theorem HR.free (r : HR Z L h H) {a : Addr} (ha : H a = none) : a ∉ L := fun q => r.there q ha
theorem Ext.tr (e : Ext L H L' H') (r : HR Z L h H) (f : Ext L' H' L'' H'') : Ext L H L'' H'' := e.trans f fun _ => r.there
theorem HR.addr (r : HR Z L h H) {n : Nat} {c : Cell} (e : h[n]? = some c) : ∃ a, L[n]? = some a ∧ CR Z L H a c := by
  obtain ⟨hl, _⟩ := List.getElem?_eq_some_iff.mp e
  have := r.len
  have hL : n < L.length := by omega
  exact ⟨_, List.getElem?_eq_getElem hL, r.cell n c _ e (List.getElem?_eq_getElem hL)⟩
/-- a new object that is not live -/
theorem ext_new {p : Addr} {o : HO} (hp : H p = none) : Ext L H L (upd H p o) := by
  refine ⟨⟨[], by simp, by simp⟩, fun a u _ e => ?_, fun a e => ?_, fun a o' u e => ?_⟩
  · rw [upd_ne (ne_of_none e hp)]; exact e
  · unfold upd; split
    · simp
    · exact e
  · rw [upd_ne (ne_of_none e hp)]; exact e
theorem HR.new {p : Addr} {o : HO} (r : HR Z L h H) (hp : H p = none) : HR Z L h (upd H p o) :=
  ⟨r.len, r.nd, fun n c a h1 h2 => (r.cell n c a h1 h2).mono (ext_new hp) fun u e => by rw [upd_ne (ne_of_none e hp)]; exact e⟩
/-- a new live one -/
theorem ext_live {p : Addr} {o : HO} (hp : H p = none) : Ext L H (L ++ [p]) (upd H p o) := by
  refine ⟨⟨[p], rfl, by simp [hp]⟩, fun a u _ e => ?_, fun a e => ?_, fun a o' u e => ?_⟩
  · rw [upd_ne (ne_of_none e hp)]; exact e
  · unfold upd; split
    · simp
    · exact e
  · rw [upd_ne (ne_of_none e hp)]; exact e
theorem HR.live {p : Addr} {o : HO} {c : Cell} (r : HR Z L h H) (hp : H p = none) (x : CR Z (L ++ [p]) (upd H p o) p c) : HR Z (L ++ [p]) (h ++ [c]) (upd H p o) := by
  refine ⟨by simp [r.len], ?_, fun n c' a h1 h2 => ?_⟩
  · rw [List.nodup_append]
    refine ⟨r.nd, by simp, fun a ha b hb => ?_⟩
    simp only [List.mem_singleton] at hb
    subst hb
    intro e
    subst e
    exact r.free hp ha
  · by_cases hn : n < L.length
    · have hn' : n < h.length := by have := r.len; omega
      rw [List.getElem?_append_left hn'] at h1
      rw [List.getElem?_append_left hn] at h2
      exact (r.cell n c' a h1 h2).mono (ext_live hp) fun u e => by rw [upd_ne (ne_of_none e hp)]; exact e
    · have hl : n < (L ++ [p]).length := (List.getElem?_eq_some_iff.mp h2).1
      have en : n = L.length := by simp at hl; omega
      have en' : n = h.length := by rw [en, r.len]
      rw [en'] at h1
      rw [en] at h2
      simp at h1 h2
      subst h1 h2
      exact x
/-- nothing that is fixed -/
def NF (H : Hp) (p : Addr) : Prop := ∀ o u, H p ≠ some (.frz o u)
theorem nf_lst {p : Addr} {vs : List V} (h : H p = some (.lst vs)) : NF H p := fun o u e => by rw [h] at e; cases e
theorem nf_dx {p : Addr} {es : List (PV × PV)} (h : DX Z L H p es) : NF H p := fun o u e => by
  cases h with
  | k h1 _ _ => rw [h1] at e; cases e
  | t h1 _ _ _ _ _ => rw [h1] at e; cases e
theorem ext_write {p : Addr} {o : HO} (hp : p ∈ L) (hf : NF H p) : Ext L H L (upd H p o) := by
  refine ⟨⟨[], by simp, by simp⟩, fun a u hn e => ?_, fun a e => ?_, fun a o' u e => ?_⟩
  · rw [upd_ne (fun q => hn (by rw [q]; exact hp))]; exact e
  · unfold upd; split
    · simp
    · exact e
  · rw [upd_ne (fun q => hf o' u (by rw [← q]; exact e))]; exact e
theorem HR.write {p : Addr} {o : HO} {n : Nat} {c : Cell} (r : HR Z L h H) (hp : L[n]? = some p) (hf : NF H p) (x : CR Z L (upd H p o) p c) : HR Z L (h.set n c) (upd H p o) := by
  have hm : p ∈ L := List.mem_of_getElem? hp
  refine ⟨by simp [r.len], r.nd, fun m c' a h1 h2 => ?_⟩
  by_cases hmn : m = n
  · subst hmn
    rw [hp] at h2; cases h2
    have hn : m < h.length := by have := r.len; have := (List.getElem?_eq_some_iff.mp hp).1; omega
    rw [List.getElem?_set_self hn] at h1
    cases h1
    exact x
  · rw [List.getElem?_set_ne (Ne.symm hmn)] at h1
    have hap : a ≠ p := fun e => by
      subst e
      have := (List.getElem?_inj (List.getElem?_eq_some_iff.mp h2).1 r.nd).mp (h2.trans hp.symm)
      exact hmn this
    exact (r.cell m c' a h1 h2).mono (ext_write hm hf) fun u e => by rw [upd_ne hap]; exact e
end
/-- what is wanted of an answer -/
def Post (Z : Wd) (L : List Addr) (H : Hp) (v : PV) (h' : PHeap) (Q : VK) : Prop := ∀ x L' H', Ext L H L' H' → HR Z L' h' H' → VR Z L' H' v x → Q x H'
/-- the names' values -/
structure ER (Z : Wd) (L : List Addr) (H : Hp) (env : Env) (σ : L2.St) : Prop where
  len : env.length = σ.length
  at_ : ∀ (i : Nat) (v : PV), env[i]? = some (some v) → ∃ x, σ[i]? = some (some x) ∧ VR Z L H v x
section
variable {Z : Wd} {L L' L'' : List Addr} {H H' H'' : Hp} {h h' : PHeap} {env : Env} {σ : L2.St}
theorem ER.mono (e : Ext L H L' H') (x : ER Z L H env σ) : ER Z L' H' env σ := ⟨x.len, fun i v h1 => let ⟨y, h2, h3⟩ := x.at_ i v h1; ⟨y, h2, h3.mono e⟩⟩
theorem ER.set {i : Nat} {v : PV} {y : V} (x : ER Z L H env σ) (r : VR Z L H v y) : ER Z L H (env.set i (some v)) (σ.set i (some y)) := by
  refine ⟨by simp [x.len], fun j u h1 => ?_⟩
  by_cases hj : j = i
  · subst hj
    have hl : j < env.length := by
      have := (List.getElem?_eq_some_iff.mp h1).1
      simpa using this
    rw [List.getElem?_set_self hl] at h1
    cases h1
    exact ⟨y, List.getElem?_set_self (by rw [← x.len]; exact hl), r⟩
  · rw [List.getElem?_set_ne (Ne.symm hj)] at h1
    obtain ⟨z, h2, h3⟩ := x.at_ j u h1
    exact ⟨z, by rw [List.getElem?_set_ne (Ne.symm hj)]; exact h2, h3⟩
theorem wipe_len (env : Env) : ∀ vs : List Nat, (wipeE env vs).length = env.length
  | [] => rfl
  | v :: vs => by rw [wipeE, List.length_set, wipe_len env vs]
theorem ER.wipe (x : ER Z L H env σ) : ∀ vs : List Nat, ER Z L H (wipeE env vs) (L2.wipe σ vs)
  | [] => x
  | v :: vs => by
    have ih := ER.wipe x vs
    refine ⟨by rw [wipe_len, L2.wipe_length]; exact x.len, fun j u h1 => ?_⟩
    rw [wipeE] at h1
    rw [L2.wipe]
    by_cases hj : j = v
    · subst hj
      by_cases hl : j < (wipeE env vs).length
      · rw [List.getElem?_set_self hl] at h1; cases h1
      · rw [List.getElem?_eq_none (by rw [List.length_set]; omega)] at h1; cases h1
    · rw [List.getElem?_set_ne (Ne.symm hj)] at h1
      rw [List.getElem?_set_ne (Ne.symm hj)]
      exact ih.at_ j u h1
end
end HW
/-! HwD: operations on values. -/
namespace HW
open PySem PySem.Spec PyProof.Rows L2

section
variable {Z : Wd} {L : List Addr} {H : Hp} {h : PHeap}
theorem VR.list (r : HR Z L h H) {p : PV} {x : V} {xs : List PV} (v : VR Z L H p x) (e : asList h p = some xs) : ∃ a vs, x = .ref a ∧ Rd H a (.lst vs) ∧ VRs Z L H xs vs := by
  unfold asList at e
  split at e
  · cases e
    cases v with
    | lst h1 h2 h3 => exact ⟨_, _, rfl, .inr h1, h3⟩
  · rename_i n
    split at e
    · rename_i ys hn
      cases e
      cases v with
      | ref h1 =>
        obtain ⟨vs, h2, h3⟩ := r.cell _ _ _ hn h1
        exact ⟨_, vs, rfl, .inl h2, h3⟩
    · cases e
  · cases e
theorem VR.seq (r : HR Z L h H) {p : PV} {x : V} {xs : List PV} (v : VR Z L H p x) (e : asSeq h p = some xs) : ∃ a vs, x = .ref a ∧ (Rd H a (.lst vs) ∨ TupAt H a vs) ∧ VRs Z L H xs vs := by
  unfold asSeq at e
  split at e
  · cases e
    cases v with
    | tup h1 h2 h3 => exact ⟨_, _, rfl, .inr h1, h3⟩
  · obtain ⟨a, vs, h1, h2, h3⟩ := v.list r e
    exact ⟨a, vs, h1, .inl h2, h3⟩
theorem VR.dict (r : HR Z L h H) {p : PV} {x : V} {es : List (PV × PV)} (v : VR Z L H p x) (e : asDict h p = some es) : ∃ a, x = .ref a ∧ DR Z L H a es := by
  unfold asDict at e
  split at e
  · cases e
    cases v with
    | dctK h1 h2 h3 h4 => exact ⟨_, rfl, .k (.inr h1) h3 h4⟩
    | dctT h1 h2 h0 h3 h4 h5 h6 => exact ⟨_, rfl, .t (.inr h1) h0 h3 h4 h5 h6⟩
  · rename_i n
    split at e
    · rename_i ys hn
      cases e
      cases v with
      | ref h1 => exact ⟨_, rfl, DP.rd (r.cell _ _ _ hn h1)⟩
    · rename_i ys hn
      cases e
      cases v with
      | ref h1 => exact ⟨_, rfl, DP.rdL (r.cell _ _ _ hn h1)⟩
    · cases e
  · cases e
theorem seq_or {K : PySem.W.Frag} {a : Addr} {vs : List V} (x : Rd H a (.lst vs) ∨ TupAt H a vs) : SqL K H a vs ∨ SqT K H a vs := x.imp .inl TupAt.sq
theorem sqr {K : PySem.W.Frag} {a : Addr} {vs : List V} (x : Rd H a (.lst vs)) : SqL K H a vs := .inl x
variable {Q : VK}
theorem Post.bl {b : Bool} (q : Post Z L H (.bl b) h Q) (r : HR Z L h H) : Q (.bl b) H := q _ _ _ Ext.refl r (.bl b)
theorem Post.int {b : Int} (q : Post Z L H (.int b) h Q) (r : HR Z L h H) : Q (.int b) H := q _ _ _ Ext.refl r (.int b)
theorem Post.str {b : Str} (q : Post Z L H (.str b) h Q) (r : HR Z L h H) : Q (.str b) H := q _ _ _ Ext.refl r (.str b)
theorem Post.non (q : Post Z L H .non h Q) (r : HR Z L h H) : Q .non H := q _ _ _ Ext.refl r .non
theorem Post.same {p : PV} {x : V} (q : Post Z L H p h Q) (r : HR Z L h H) (v : VR Z L H p x) : Q x H := q _ _ _ Ext.refl r v
theorem Post.tup {xs : List PV} {vs : List V} (q : Post Z L H (.tup xs) h Q) (r : HR Z L h H) (v : VRs Z L H xs vs) {p : Addr} (hp : H p = none) {o : Obj} (ho : o.dict = none) : Q (.ref p) (upd H p (.frz o (.tup vs))) :=
  q _ _ _ (ext_new hp) (r.new hp) (.tup ⟨o, upd_same, ho⟩ (r.free hp) (v.mono (ext_new hp)))
theorem mk_ep {X : Cx} {pins : List (Addr × Obj)} {σ : L2.St} {s : Shared} {H : Hp} {L : List Addr} {h h' : PHeap} {al : Bool} {xs : List PV} {vs : List V} {r : PV} {p : Addr} {Q : VK} (I : Inv X pins σ (upd H p (.lst vs)) s) (hp : H p = none) (e : mkList al xs h = .ok r h') (post : Post (wd X) L H r h' Q)
    (hr : HR (wd X) L h H) (v : VRs (wd X) L H xs vs) : EP X pins σ Q (.ref p) s := by
  unfold mkList at e
  cases al with
  | false =>
    simp only [Bool.false_eq_true, if_false, R.ok.injEq] at e
    obtain ⟨rfl, rfl⟩ := e
    obtain ⟨od, I1⟩ := I.lock upd_same trivial
    rw [upd_upd] at I1
    exact ⟨.ref p, _, I1, rfl, post _ _ _ (ext_new hp) (hr.new hp) (.lst ⟨od, upd_same⟩ (hr.free hp) (v.mono (ext_new hp)))⟩
  | true =>
    simp only [if_true, R.ok.injEq] at e
    obtain ⟨rfl, rfl⟩ := e
    refine ⟨.ref p, _, I, rfl, post _ _ _ (ext_live hp) (hr.live hp ⟨vs, upd_same, v.mono (ext_live hp)⟩) (.ref ?_)⟩
    rw [← hr.len]
    simp
/-- a new list at any place -/
def NewL (H : Hp) (vs : List V) : VK := fun x H' => ∃ p, x = .ref p ∧ H p = none ∧ H' = upd H p (.lst vs)
theorem NewL.all {H : Hp} {vs : List V} : ∀ p, H p = none → NewL H vs (.ref p) (upd H p (.lst vs)) := fun p hp => ⟨p, rfl, hp, rfl⟩
theorem mk_wp {X : Cx} {pins : List (Addr × Obj)} {σ : L2.St} {s : Shared} {H : Hp} {L : List Addr} {h h' : PHeap} {al : Bool} {xs : List PV} {vs : List V} {r : PV} {Q : VK} {M : Model} {A : Around} {E : Value → Shared → Prop} {t : PySem.Sem Value}
    (w : wpAny M A t (EP X pins σ (NewL H vs)) E s) (e : mkList al xs h = .ok r h') (post : Post (wd X) L H r h' Q) (hr : HR (wd X) L h H) (v : VRs (wd X) L H xs vs) : wpAny M A t (EP X pins σ Q) E s :=
  thn w fun u s' ⟨x, H', I', rx, p, ex, hp, eH⟩ => by
    subst ex eH
    cases rx
    exact mk_ep I' hp e post hr v
/-- the object of a new tuple -/
abbrev tupO (us : List Value) : Obj := { cls := .type "tuple", data := .seq us.toArray }
/-- a tuple is laid -/
theorem tup_new {X : Cx} {pins : List (Addr × Obj)} {σ : L2.St} {s : Shared} {vs : List V} {us : List Value} {H : Hp} (I : Inv X pins σ H s) (r : Vals vs us) (hl : vs.length ≤ sizeLine) (t : Nat) :
    Inv X pins σ (upd H s.heap.objs.size (.frz (tupO us) (.tup vs))) { s with heap := s.heap.push (tupO us), toks := t } := by
  refine I.laid (fun b o e => Heap.get?_push_of_some _ e) (Nat.le_refl _) ⟨Heap.get?_push_size _ rfl, hl, us, r, IsTup.new s.heap _⟩
theorem ep_ref {X : Cx} {pins : List (Addr × Obj)} {σ : L2.St} {s : Shared} {H : Hp} {a : Addr} {Q : VK} (I : Inv X pins σ H s) (q : Q (.ref a) H) : EP X pins σ Q (.ref a) s := ⟨.ref a, H, I, rfl, q⟩
theorem tup_ep {X : Cx} {pins : List (Addr × Obj)} {σ : L2.St} {s : Shared} {H : Hp} {xs : List PV} {vs : List V} {us : List Value} {h : PHeap} {L : List Addr} {Q : VK} (I : Inv X pins σ H s) (hr : HR (wd X) L h H) (post : Post (wd X) L H (.tup xs) h Q) (v : VRs (wd X) L H xs vs) (r : Vals vs us) (hl : vs.length ≤ sizeLine) (t : Nat) :
    EP X pins σ Q (.ref s.heap.objs.size) { s with heap := s.heap.push (tupO us), toks := t } :=
  ⟨.ref s.heap.objs.size, _, tup_new I r hl t, rfl, post.tup hr v (I.hok.fresh (Nat.le_refl _)) rfl⟩
theorem lim : LIM = sizeLine := by rw [sizeLine_eq]; rfl
end

/-! ### lists that may be fixed -/
section
variable {X : Cx}
theorem lst_rd {pins : List (Addr × Obj)} {σ : L2.St} {s : Shared} {H : Hp} {l : Addr} {zs : List V} (I : Inv X pins σ H s) (k : Rd H l (.lst zs)) : zs.length ≤ sizeLine ∧ ∃ (us : List Value) (m : Nat), Vals zs us ∧ us.length = zs.length ∧ s.heap.get? l = some { cls := .type "list", data := .seq us.toArray m } := by
  obtain ⟨z, us, m, rv, g⟩ := k.ok I.hok
  exact ⟨z, us, m, rv, rv.length.symm, g⟩
theorem op_catR : OpR X (binaryOp .Add) (fun x y H Q => ∃ a b us ws, x = .ref a ∧ y = .ref b ∧ Rd H a (.lst us) ∧ Rd H b (.lst ws) ∧ us.length + ws.length ≤ sizeLine ∧ ∀ p, H p = none → Q (.ref p) (upd H p (.lst (us ++ ws)))) := by
  rintro pins s σ H x y v u Q I rx ry ⟨a, b, us, ws, rfl, rfl, ka, kb, few, q⟩
  cases rx; cases ry
  obtain ⟨_, as, na, ra, la, ga⟩ := lst_rd I ka
  obtain ⟨_, bs, nb, rb, lb, gb⟩ := lst_rd I kb
  refine PySem.P.add_list ga gb ?_ (by simp only [List.size_toArray]; omega)
  rw [show as.toArray ++ bs.toArray = (as ++ bs).toArray by simp]
  exact ⟨.ref _, _, Inv.lnew (t' := s.toks) I (ra.append rb) (by simp only [List.length_append]; omega), rfl, q _ I.fresh⟩
theorem rep_acc (us : List Value) (m : Nat) : List.foldl (fun x1 x2 => x1 ++ x2) #[] (List.replicate m us.toArray) = (List.replicate m us).flatten.toArray := by
  have := foldl_rep us m []
  simpa using this
theorem op_repR : OpR X (binaryOp .Mult) (fun x y H Q => ∃ a k us, x = .ref a ∧ y = .int k ∧ Rd H a (.lst us) ∧ -(2 ^ 63) ≤ k ∧ k < 2 ^ 63 ∧ us.length * k.toNat ≤ sizeLine ∧ ∀ p, H p = none → Q (.ref p) (upd H p (.lst (List.replicate k.toNat us).flatten))) := by
  rintro pins s σ H x y v u Q I rx ry ⟨a, k, us, rfl, rfl, ka, low, high, few, q⟩
  cases rx
  obtain ⟨t, rfl⟩ := ry
  obtain ⟨_, as, na, ra, la, ga⟩ := lst_rd I ka
  have fits : ¬ (!Builtin.List.listFitsIndex k) = true := by rw [fitsIndex_both low high]; decide
  have few' : as.toArray.size * k.toNat ≤ sizeLine := by simp only [List.size_toArray, la]; exact few
  have cap : ¬ as.toArray.size * k.toNat > (2 ^ 63 - 1) / 8 := fun z => by
    have w : (sizeLine : Nat) ≤ (2 ^ 63 - 1) / 8 := by decide
    omega
  have long : ¬ Builtin.List.listTooLong (as.toArray.size * k.toNat) = true := by rw [notLongL few']; decide
  have made : List.foldl (fun x1 x2 => x1 ++ x2) #[] (List.replicate (if as.toArray.isEmpty = true then 0 else k.toNat) as.toArray) = (List.replicate k.toNat as).flatten.toArray := by
    rw [rep_acc]
    cases as <;> simp
  refine wpAny_binaryOp_repeat_ref (T := "list") (U := "int") (by decide) ⟨_, ga, rfl⟩ (fun _ => typeIs_int _ k t) noFill_list_mul F.fills_int_mul F.slot_int_rmul repeat_list F.slot_int_index.lookup ?_
  refine call_meets F.slot_int_rmul (typeIs_int s k t) F.entry_int_rmul (F.args_int_rmul_2 _ _) (int___rmul___int_list k t a as.toArray na) ⟨ga, rfl, ⟨_, ga, rfl⟩, ?_⟩
  refine call_meets F.slot_list_mul ⟨_, ga, rfl⟩ F.entry_list_mul (F.args_list_mul_2 _ _)
    (AutoListH.list___mul___list_int_3 a as.toArray na k t fits cap long) ⟨ga, ?_⟩
  rw [made]
  exact ⟨.ref _, _, Inv.lnew (t' := s.toks) I (ra.rep k.toNat) (by simp only [PyProof.Rows.lm_len_rep_flat, Nat.mul_comm]; simpa [Nat.mul_comm] using few), rfl, q _ I.fresh⟩
end

def pyB : BOp → Operator
  | .add => .Add | .sub => .Sub | .mul => .Mult | .fdiv => .FloorDiv | .mod => .Mod | .pow => .Pow
def pyC : COp → CmpOp
  | .eq => .Eq | .ne => .NotEq | .lt => .Lt | .le => .LtE | .gt => .Gt | .ge => .GtE | .is => .Is | .isnot => .IsNot | .isin => .In | .notin => .NotIn
def rBin (X : Cx) (op : BOp) : R2 := fun x y H Q => ∃ L h p q r, HR (wd X) L h H ∧ VR (wd X) L H p x ∧ VR (wd X) L H q y ∧ binop op p q h = some r ∧ Post (wd X) L H r h Q
section
variable {X : Cx}
theorem op_bin (op : BOp) : OpR X (binaryOp (pyB op)) (rBin X op) := by
  intro pins s σ H x y v u Q I rx ry hw
  obtain ⟨L, h, p, q, r, hr, vp, vq, e, post⟩ := hw
  unfold binop at e
  split at e
  · cases e; cases vp; cases vq
    exact op_add pins s σ H _ _ v u Q I rx ry ⟨_, _, rfl, rfl, post.int hr⟩
  · cases e; cases vp; cases vq
    exact op_sub pins s σ H _ _ v u Q I rx ry ⟨_, _, rfl, rfl, post.int hr⟩
  · cases vp; cases vq
    split at e
    · rename_i hc
      cases e
      refine op_mul pins s σ H _ _ v u Q I rx ry ⟨_, _, rfl, rfl, ?_, post.int hr⟩
      rw [Bool.or_eq_true] at hc
      rcases hc with hc | hc
      · exact .inl (of_decide_eq_true hc)
      · exact .inr (of_decide_eq_true hc)
    · cases e
  · cases vp; cases vq
    split at e
    · rename_i hc
      cases e
      exact op_fdivN pins s σ H _ _ v u Q I rx ry ⟨_, _, rfl, rfl, hc, post.int hr⟩
    · cases e
  · cases vp; cases vq
    split at e
    · rename_i hc
      cases e
      exact op_modN pins s σ H _ _ v u Q I rx ry ⟨_, _, rfl, rfl, hc, post.int hr⟩
    · cases e
  · cases vp; cases vq
    split at e
    · rename_i hc
      cases e
      exact op_pow pins s σ H _ _ v u Q I rx ry ⟨_, _, rfl, rfl, hc, post.int hr⟩
    · cases e
  · rename_i xs ys
    split at e
    · rename_i hc
      cases e
      rw [lim] at hc
      cases vp with
      | tup h1 h2 h3 =>
        cases vq with
        | tup k1 k2 k3 =>
          have l1 := h3.length
          have l2 := k3.length
          cases rx
          cases ry
          obtain ⟨its, r1, t1, _⟩ := I.tuple (TupAt.sq h1)
          obtain ⟨its', r2, t2, _⟩ := I.tuple (TupAt.sq k1)
          have m1 := r1.length
          have m2 := r2.length
          by_cases hn : its = []
          · subst hn
            cases r1
            cases h3
            exact cat_tup0 t1 t2 (ep_ref I (post.same hr (.tup k1 k2 k3)))
          · refine HT.cat_tup t1 t2 hn (fun e => ?_) (fun _ => ?_) (by omega)
            · subst e
              cases r2
              cases k3
              rw [List.append_nil] at post
              exact ep_ref I (post.same hr (.tup h1 h2 h3))
            · exact tup_ep I hr post (h3.append k3) (r1.append r2) (by rw [List.length_append]; omega) s.toks
    · cases e
  · split at e
    · rename_i xs ys ex ey
      split at e
      · rename_i hc
        cases e
        rw [lim] at hc
        obtain ⟨a, vs, rfl, h1, h2⟩ := vp.list hr ex
        obtain ⟨b, us, rfl, k1, k2⟩ := vq.list hr ey
        have l1 := h2.length
        have l2 := k2.length
        exact mk_wp (al := false) (op_catR pins s σ H _ _ v u _ I rx ry ⟨_, _, _, _, rfl, rfl, h1, k1, by omega, NewL.all⟩) rfl post hr (h2.append k2)
      · cases e
    · cases e
  · split at e
    · rename_i xs ex
      split at e
      · rename_i hc
        cases e
        rw [lim] at hc
        obtain ⟨a, vs, rfl, h1, h2⟩ := vp.list hr ex
        cases vq
        have l1 := h2.length
        exact mk_wp (al := false) (op_repR pins s σ H _ _ v u _ I rx ry ⟨_, _, _, rfl, rfl, h1, by omega, by omega, by rw [l1]; exact hc.2.2, NewL.all⟩) rfl post hr (h2.rep _)
      · cases e
    · cases e
  · cases e
end

/-! ### data -/
section
variable {Z : Wd} {L : List Addr} {H : Hp} {h : PHeap}
mutual
theorem VR.dp : ∀ (p : PV) (d : PyData) (x : V), VR Z L H p x → toD p = some d → Dp Z.K H x d
  | .non, _, _, v, e => by cases v; cases e; exact .non
  | .bl b, _, _, v, e => by cases v; cases e; exact .bl b
  | .int b, _, _, v, e => by cases v; cases e; exact .int b
  | .str b, _, _, v, e => by cases v; cases e; exact .str b
  | .tup xs, _, _, v, e => by
    cases v with
    | tup h1 h2 h3 =>
      rw [toD] at e
      obtain ⟨ds, e1, rfl⟩ := Option.map_eq_some_iff.mp e
      exact .tup h1.sq (VRs.dp xs ds _ h3 e1)
  | .lst xs, _, _, v, e => by
    cases v with
    | lst h1 h2 h3 =>
      rw [toD] at e
      obtain ⟨ds, e1, rfl⟩ := Option.map_eq_some_iff.mp e
      exact .lst (sqr (.inr h1)) (VRs.dp xs ds _ h3 e1)
  | .dct _, _, _, _, e => by simp [toD] at e
  | .scr _, _, _, _, e => by simp [toD] at e
  | .ref _, _, _, _, e => by simp [toD] at e
theorem VRs.dp : ∀ (p : List PV) (d : List PyData) (x : List V), VRs Z L H p x → toDs p = some d → DpAll Z.K H x d
  | [], _, _, v, e => by cases v; rw [toDs] at e; cases e; exact .nil
  | p :: ps, d, _, v, e => by
    cases v with
    | cons h1 h2 =>
      rw [toDs] at e
      split at e
      · rename_i d1 ds e1 e2
        cases e
        exact .cons (VR.dp p d1 _ h1 e1) (VRs.dp ps ds _ h2 e2)
      · cases e
end
theorem VR.resDp (r : HR Z L h H) {p : PV} {d : PyData} {x : V} (v : VR Z L H p x) (e : toD (res h p) = some d) : Dp Z.K H x d := by
  unfold res at e
  split at e
  · rename_i n
    split at e
    · rename_i xs hn
      obtain ⟨a, vs, rfl, h1, h2⟩ := v.list r (xs := xs) (by simp [asList, hn])
      rw [toD] at e
      obtain ⟨ds, e1, rfl⟩ := Option.map_eq_some_iff.mp e
      exact .lst ((sqr h1)) (VRs.dp xs ds _ h2 e1)
    · simp [toD] at e
  · exact v.dp _ _ _ e
end
def rCmp (X : Cx) (op : COp) : R2 := fun x y H Q => ∃ L h p q r, HR (wd X) L h H ∧ VR (wd X) L H p x ∧ VR (wd X) L H q y ∧ cmpop op p q h = some r ∧ Post (wd X) L H (.bl r) h Q
section
variable {X : Cx}
theorem op_pyEq (hu : X.A.units + 64 < cLine) : OpR X (compareOp .Eq) (rCmp X .eq) := by
  intro pins s σ H x y v u Q I rx ry hw
  obtain ⟨L, h, p, q, r, hr, vp, vq, e, post⟩ := hw
  simp only [cmpop, pyEq] at e
  split at e
  · rename_i d d' e1 e2
    split at e
    · rename_i hs
      cases e
      rw [Bool.and_eq_true] at hs
      exact op_eqD hu pins s σ H _ _ v u Q I rx ry ⟨d, d', vp.resDp hr e1, vq.resDp hr e2, hs.1, hs.2, post.bl hr⟩
    · cases e
  · cases e
theorem op_pyNe (hu : X.A.units + 64 < cLine) : OpR X (compareOp .NotEq) (rCmp X .ne) := by
  intro pins s σ H x y v u Q I rx ry hw
  obtain ⟨L, h, p, q, r, hr, vp, vq, e, post⟩ := hw
  simp only [cmpop, pyEq] at e
  split at e
  · rename_i d d' e1 e2
    split at e
    · rename_i hs
      cases e
      rw [Bool.and_eq_true] at hs
      exact op_neD hu pins s σ H _ _ v u Q I rx ry ⟨d, d', vp.resDp hr e1, vq.resDp hr e2, hs.1, hs.2, post.bl hr⟩
    · cases e
  · cases e
end
end HW
/-! HwE: orders, dicts, items. -/
namespace HW
open PySem PySem.Spec PyProof.Rows L2

abbrev Um (X : Cx) : Prop := X.A.units + 100 < cLine
section
variable {X : Cx}
theorem ord_ok (hu : Um X) (op : COp) (hop : op = .lt ∨ op = .gt ∨ op = .le ∨ op = .ge) : OpR X (compareOp (pyC op)) (fun x y H Q => ∃ L h p q r, HR (wd X) L h H ∧ VR (wd X) L H p x ∧ VR (wd X) L H q y ∧ pyOrd op h p q = some r ∧ Post (wd X) L H (.bl r) h Q) := by
  intro pins s σ H x y v u Q I rx ry hw
  obtain ⟨L, h, p, q, r, hr, vp, vq, e, post⟩ := hw
  unfold pyOrd at e
  split at e
  · cases vp; cases vq
    have e' := Option.some.inj e
    subst e'
    rcases hop with rfl | rfl | rfl | rfl
    · exact op_lt pins s σ H _ _ v u Q I rx ry ⟨_, _, rfl, rfl, post.bl hr⟩
    · exact op_gt pins s σ H _ _ v u Q I rx ry ⟨_, _, rfl, rfl, post.bl hr⟩
    · exact op_le pins s σ H _ _ v u Q I rx ry ⟨_, _, rfl, rfl, post.bl hr⟩
    · exact op_ge pins s σ H _ _ v u Q I rx ry ⟨_, _, rfl, rfl, post.bl hr⟩
  · split at e
    · rename_i d d' e1 e2
      split at e
      · rename_i hc
        simp only [Bool.and_eq_true, Bool.not_eq_true'] at hc
        obtain ⟨⟨⟨h1, h2⟩, h3⟩, h4⟩ := hc
        have hn : d ≠ .none := by rintro rfl; simp [isNone] at h2
        have e' := Option.some.inj e
        subst e'
        obtain ⟨as, r1⟩ := Dp.reads I d x v (vp.resDp hr e1) rx
        obtain ⟨bs, r2⟩ := Dp.reads I d' y u (vq.resDp hr e2) ry
        have hroom : X.A.units + min d.depth d'.depth < cLine := SeqAt.room_of_shaped h3 (by omega)
        rcases hop with rfl | rfl | rfl | rfl
        · exact PySem.W.lt_data r1 r2 h1 hn hroom ⟨.bl _, H, I, rfl, post.bl hr⟩
        · exact PySem.W.gt_data r1 r2 h1 hn hroom ⟨.bl _, H, I, rfl, post.bl hr⟩
        · exact PySem.W.le_data r1 r2 h1 hn hroom ⟨.bl _, H, I, rfl, post.bl hr⟩
        · exact PySem.W.ge_data r1 r2 h1 hn hroom ⟨.bl _, H, I, rfl, post.bl hr⟩
      · cases e
    · cases e
theorem VR.none_iff {Z : Wd} {L : List Addr} {H : Hp} {p : PV} {x : V} (v : VR Z L H p x) : decide (x = .non) = decide (p = .non) := by
  cases v <;> simp
theorem op_pyIs : OpR X (compareOp .Is) (rCmp X .is) := by
  intro pins s σ H x y v u Q I rx ry hw
  obtain ⟨L, h, p, q, r, hr, vp, vq, e, post⟩ := hw
  simp only [cmpop] at e
  split at e
  · cases vq
    cases e
    refine op_isN pins s σ H _ _ v u Q I rx ry ⟨rfl, ?_⟩
    rw [vp.none_iff]
    exact post.bl hr
  · cases e
theorem op_pyIsnot : OpR X (compareOp .IsNot) (rCmp X .isnot) := by
  intro pins s σ H x y v u Q I rx ry hw
  obtain ⟨L, h, p, q, r, hr, vp, vq, e, post⟩ := hw
  simp only [cmpop] at e
  split at e
  · cases vq
    cases e
    refine op_notN pins s σ H _ _ v u Q I rx ry ⟨rfl, ?_⟩
    rw [vp.none_iff]
    exact post.bl hr
  · cases e
end

/-! ### keys -/
theorem kP_inj {a b : L2.Key} (e : kP a = kP b) : a = b := by
  cases a <;> cases b <;> simp [kP] at e <;> rw [e]
theorem keyV_kP {p : PV} (e : keyV p = true) : ∃ k, p = kP k := by
  cases p <;> simp [keyV] at e
  · exact ⟨.inl _, rfl⟩
  · exact ⟨.inr _, rfl⟩
mutual
theorem toN_inj : ∀ (a b : PV) (k : NestedKey), toN a = some k → toN b = some k → a = b
  | .non, b, k, h1, h2 => by
    cases h1
    cases b <;> simp [toN] at h2 <;> rfl
  | .int i, b, k, h1, h2 => by
    cases h1
    cases b <;> simp [toN] at h2 <;> rw [h2]
  | .str i, b, k, h1, h2 => by
    cases h1
    cases b <;> simp [toN] at h2 <;> rw [h2]
  | .tup xs, b, k, h1, h2 => by
    rw [toN] at h1
    obtain ⟨ks, e1, rfl⟩ := Option.map_eq_some_iff.mp h1
    cases b with
    | tup ys =>
      rw [toN] at h2
      obtain ⟨ks', e2, e3⟩ := Option.map_eq_some_iff.mp h2
      cases e3
      rw [toNs_inj xs ys ks e1 e2]
    | _ => simp [toN] at h2
  | .bl _, _, _, h1, _ => by simp [toN] at h1
  | .lst _, _, _, h1, _ => by simp [toN] at h1
  | .dct _, _, _, h1, _ => by simp [toN] at h1
  | .scr _, _, _, h1, _ => by simp [toN] at h1
  | .ref _, _, _, h1, _ => by simp [toN] at h1
theorem toNs_inj : ∀ (a b : List PV) (k : List NestedKey), toNs a = some k → toNs b = some k → a = b
  | [], b, k, h1, h2 => by
    cases h1
    cases b with
    | nil => rfl
    | cons y ys =>
      rw [toNs] at h2
      split at h2 <;> cases h2
  | x :: xs, b, k, h1, h2 => by
    rw [toNs] at h1
    split at h1
    · rename_i d ds e1 e2
      cases h1
      cases b with
      | nil => cases h2
      | cons y ys =>
        rw [toNs] at h2
        split at h2
        · rename_i d' ds' e3 e4
          cases h2
          rw [toN_inj x y d e1 e3, toNs_inj xs ys ds e2 e4]
        · cases h2
    · cases h1
end
theorem keyT_toN {p : PV} (e : keyT p = true) : ∃ xs k, p = .tup xs ∧ toN p = some k ∧ k.depth ≤ 8 := by
  unfold keyT at e
  split at e
  · rename_i xs
    split at e
    · rename_i k hk
      exact ⟨xs, k, rfl, hk, of_decide_eq_true e⟩
    · cases e
  · cases e
section
variable {Z : Wd} {L : List Addr} {H : Hp} {h : PHeap}
abbrev PKs (Z : Wd) (L : List Addr) (H : Hp) : List (PV × PV) → List (L2.Key × V) → Prop := Paired fun (e : PV × PV) (q : L2.Key × V) => e.1 = kP q.1 ∧ VR Z L H e.2 q.2
abbrev PTs_ (Z : Wd) (L : List Addr) (H : Hp) : List (PV × PV) → List (NestedKey × Addr × V) → Prop := Paired fun (e : PV × PV) (q : NestedKey × Addr × V) => keyT e.1 = true ∧ toN e.1 = some q.1 ∧ VR Z L H e.1 (.ref q.2.1) ∧ VR Z L H e.2 q.2.2
theorem pks_of : ∀ {es : List (PV × PV)} {kvs : List (L2.Key × V)}, es.map (·.1) = kvs.map (fun p => kP p.1) → VRs Z L H (es.map (·.2)) (kvs.map (·.2)) → PKs Z L H es kvs
  | [], [], _, _ => .nil
  | [], _ :: _, e, _ => by simp at e
  | _ :: _, [], e, _ => by simp at e
  | e :: es, q :: kvs, e1, r => by
    simp only [List.map_cons, List.cons.injEq] at e1
    cases r with
    | cons r1 r2 => exact .cons ⟨e1.1, r1⟩ (pks_of e1.2 r2)
theorem of_pks : ∀ {es : List (PV × PV)} {kvs : List (L2.Key × V)}, PKs Z L H es kvs → es.map (·.1) = kvs.map (fun p => kP p.1) ∧ VRs Z L H (es.map (·.2)) (kvs.map (·.2))
  | _, _, .nil => ⟨rfl, .nil⟩
  | _, _, .cons h1 h2 => by
    obtain ⟨a, b⟩ := of_pks h2
    exact ⟨by rw [List.map_cons, List.map_cons, h1.1, a], .cons h1.2 b⟩
theorem pts_of : ∀ {es : List (PV × PV)} {xs : List (NestedKey × Addr × V)}, toNs (es.map (·.1)) = some (xs.map (·.1)) → (es.all fun e => keyT e.1) = true →
      VRs Z L H (es.map (·.1)) (xs.map fun x => .ref x.2.1) → VRs Z L H (es.map (·.2)) (xs.map (·.2.2)) → PTs_ Z L H es xs
  | [], [], _, _, _, _ => .nil
  | [], _ :: _, e, _, _, _ => by simp [toNs] at e
  | _ :: _, [], e, _, _, _ => by
    simp only [List.map_cons, List.map_nil] at e
    rw [toNs] at e
    split at e <;> simp at e
  | e :: es, q :: xs, e1, e2, r1, r2 => by
    simp only [List.map_cons] at e1
    rw [toNs] at e1
    rw [List.all_cons, Bool.and_eq_true] at e2
    split at e1
    · rename_i d ds k1 k2
      simp only [Option.some.injEq, List.cons.injEq] at e1
      cases r1 with
      | cons r1 s1 =>
        cases r2 with
        | cons r2 s2 => exact .cons ⟨e2.1, by rw [k1, e1.1], r1, r2⟩ (pts_of (by rw [k2, e1.2]) e2.2 s1 s2)
    · cases e1
theorem of_pts : ∀ {es : List (PV × PV)} {xs : List (NestedKey × Addr × V)}, PTs_ Z L H es xs → toNs (es.map (·.1)) = some (xs.map (·.1)) ∧ (es.all fun e => keyT e.1) = true ∧
      VRs Z L H (es.map (·.1)) (xs.map fun x => .ref x.2.1) ∧ VRs Z L H (es.map (·.2)) (xs.map (·.2.2))
  | _, _, .nil => ⟨rfl, rfl, .nil, .nil⟩
  | _, _, .cons h1 h2 => by
    obtain ⟨a, b, c, d⟩ := of_pts h2
    refine ⟨?_, ?_, .cons h1.2.2.1 c, .cons h1.2.2.2 d⟩
    · simp only [List.map_cons]
      rw [toNs, h1.2.1, a]
    · rw [List.all_cons, h1.1, b]; rfl
theorem PKs.keys {es : List (PV × PV)} {kvs : List (L2.Key × V)} (r : PKs Z L H es kvs) : (es.all fun e => keyV e.1) = true := by
  induction r with
  | nil => rfl
  | cons h1 _ ih =>
    rename_i e q _ _ _
    rw [List.all_cons, ih, h1.1]
    cases q.1 <;> rfl
/-- what is found -/
def ORel (Z : Wd) (L : List Addr) (H : Hp) : Option PV → Option V → Prop
  | some p, some x => VR Z L H p x
  | none, none => True
  | _, _ => False
theorem PKs.find {es : List (PV × PV)} {kvs : List (L2.Key × V)} (r : PKs Z L H es kvs) (k : L2.Key) : ORel Z L H (dFind es (kP k)) (valV kvs k) := by
  induction r with
  | nil => trivial
  | cons h1 _ ih =>
    rename_i e q es qs _
    by_cases hk : q.1 = k
    · rw [valV_pos hk, dFind, List.find?_cons, decide_eq_true (by rw [h1.1, hk])]
      exact h1.2
    · rw [valV_neg hk, dFind, List.find?_cons, decide_eq_false (by rw [h1.1]; exact fun e => hk (kP_inj e))]
      exact ih
theorem PKs.any {es : List (PV × PV)} {kvs : List (L2.Key × V)} (r : PKs Z L H es kvs) (k : L2.Key) : (es.any fun e => decide (e.1 = kP k)) = (kvs.any fun kv => decide (kv.1 = k)) := by
  induction r with
  | nil => rfl
  | cons h1 _ ih =>
    rename_i e q es qs _
    rw [List.any_cons, List.any_cons, ih, h1.1]
    congr 1
    by_cases hk : q.1 = k
    · simp [hk]
    · rw [decide_eq_false hk, decide_eq_false fun e => hk (kP_inj e)]
theorem PKs.repl {es : List (PV × PV)} {kvs : List (L2.Key × V)} (r : PKs Z L H es kvs) (k : L2.Key) {p : PV} {x : V} (v : VR Z L H p x) :
    PKs Z L H (es.map fun e => if e.1 = kP k then (e.1, p) else e) (kvs.map fun kv => if kv.1 = k then (kv.1, x) else kv) := by
  induction r with
  | nil => exact .nil
  | cons h1 _ ih =>
    rename_i e q es qs _
    refine .cons ?_ ih
    dsimp only
    by_cases hk : q.1 = k
    · rw [if_pos hk, if_pos (by rw [h1.1, hk])]
      exact ⟨h1.1, v⟩
    · rw [if_neg hk, if_neg (by rw [h1.1]; exact fun e => hk (kP_inj e))]
      exact h1
theorem PKs.put {es : List (PV × PV)} {kvs : List (L2.Key × V)} (r : PKs Z L H es kvs) (k : L2.Key) {p : PV} {x : V} (v : VR Z L H p x) : PKs Z L H (dPut es (kP k) p) (putK kvs k x) := by
  unfold dPut putK
  rw [r.any]
  split
  · exact r.repl k v
  · exact r.snoc ⟨rfl, v⟩
theorem PTs_.key {e : PV} {n : NestedKey} {k : NestedKey} {p : PV} (h1 : toN e = some n) (hp : toN p = some k) : (e = p) ↔ n = k :=
  ⟨fun x => by rw [x, hp] at h1; cases h1; rfl, fun x => by subst x; exact toN_inj _ _ _ h1 hp⟩
def fT (xs : List (NestedKey × Addr × V)) (k : NestedKey) : Option V := (xs.find? fun x => decide (x.1 = k)).map (·.2.2)
theorem PTs_.find {es : List (PV × PV)} {xs : List (NestedKey × Addr × V)} (r : PTs_ Z L H es xs) {p : PV} {k : NestedKey} (hp : toN p = some k) : ORel Z L H (dFind es p) (fT xs k) := by
  induction r with
  | nil => trivial
  | cons h1 _ ih =>
    rename_i e q es qs _
    by_cases hk : q.1 = k
    · rw [fT, List.find?_cons, decide_eq_true hk, dFind, List.find?_cons, decide_eq_true ((PTs_.key h1.2.1 hp).mpr hk)]
      exact h1.2.2.2
    · rw [fT, List.find?_cons, decide_eq_false hk, dFind, List.find?_cons, decide_eq_false (fun e => hk ((PTs_.key h1.2.1 hp).mp e))]
      exact ih
def storedT (xs : List (NestedKey × Addr × V)) (k : NestedKey) (b : Addr) (x : V) : List (NestedKey × Addr × V) :=
  if (fT xs k).isSome then xs.map (fun y => if y.1 = k then (y.1, y.2.1, x) else y) else xs ++ [(k, b, x)]
theorem PTs_.any {es : List (PV × PV)} {xs : List (NestedKey × Addr × V)} (r : PTs_ Z L H es xs) {p : PV} {k : NestedKey} (hp : toN p = some k) : (es.any fun e => decide (e.1 = p)) = (fT xs k).isSome := by
  induction r with
  | nil => rfl
  | cons h1 _ ih =>
    rename_i e q es qs _
    rw [List.any_cons, fT, List.find?_cons]
    by_cases hk : q.1 = k
    · rw [decide_eq_true hk, decide_eq_true ((PTs_.key h1.2.1 hp).mpr hk)]
      rfl
    · rw [decide_eq_false hk, decide_eq_false (fun e => hk ((PTs_.key h1.2.1 hp).mp e)), Bool.false_or]
      exact ih
theorem PTs_.repl {es : List (PV × PV)} {xs : List (NestedKey × Addr × V)} (r : PTs_ Z L H es xs) {p : PV} {k : NestedKey} (hp : toN p = some k) {z : PV} {x : V} (v : VR Z L H z x) :
    PTs_ Z L H (es.map fun e => if e.1 = p then (e.1, z) else e) (xs.map fun y => if y.1 = k then (y.1, y.2.1, x) else y) := by
  induction r with
  | nil => exact .nil
  | cons h1 _ ih =>
    rename_i e q es qs _
    refine .cons ?_ ih
    dsimp only
    by_cases hk : q.1 = k
    · rw [if_pos hk, if_pos ((PTs_.key h1.2.1 hp).mpr hk)]
      exact ⟨h1.1, h1.2.1, h1.2.2.1, v⟩
    · rw [if_neg hk, if_neg (fun e => hk ((PTs_.key h1.2.1 hp).mp e))]
      exact h1
theorem PTs_.put {es : List (PV × PV)} {xs : List (NestedKey × Addr × V)} (r : PTs_ Z L H es xs) {p : PV} {k : NestedKey} (ht : keyT p = true) (hp : toN p = some k) {b : Addr} (vb : VR Z L H p (.ref b)) {z : PV} {x : V} (v : VR Z L H z x) :
    PTs_ Z L H (dPut es p z) (storedT xs k b x) := by
  unfold dPut storedT
  rw [r.any hp]
  split
  · exact r.repl hp v
  · exact r.snoc ⟨ht, hp, vb, v⟩
theorem DP.cases {a : Addr} {W : HO → Prop} {es : List (PV × PV)} (x : DP Z L H a W es) : (∃ kvs, W (.dK kvs) ∧ PKs Z L H es kvs) ∨ ∃ xs, W (dictB Z.P Z.w a xs) ∧ es ≠ [] ∧ PTs_ Z L H es xs := by
  cases x with
  | k h1 h2 h3 => exact .inl ⟨_, h1, pks_of h2 h3⟩
  | t h1 h0 h2 h3 h4 h5 => exact .inr ⟨_, h1, h0, pts_of h2 h3 h4 h5⟩
theorem DP.ofK {a : Addr} {W : HO → Prop} {es : List (PV × PV)} {kvs : List (L2.Key × V)} (h1 : W (.dK kvs)) (r : PKs Z L H es kvs) : DP Z L H a W es := .k h1 (of_pks r).1 (of_pks r).2
theorem DP.ofT {a : Addr} {W : HO → Prop} {es : List (PV × PV)} {xs : List (NestedKey × Addr × V)} (h1 : W (dictB Z.P Z.w a xs)) (h0 : es ≠ []) (r : PTs_ Z L H es xs) : DP Z L H a W es :=
  let ⟨a, b, c, d⟩ := of_pts r
  .t h1 h0 a b c d
end
/-! ### in the model -/
section
variable {X : Cx} {pins : List (Addr × Obj)} {σ : L2.St} {H : Hp} {s : Shared} {L : List Addr}
mutual
theorem VR.nested (I : Inv X pins σ H s) : ∀ (p : PV) (k : NestedKey) (x : V) (u : Value), VR (wd X) L H p x → toN p = some k → RelV x u → NestedIs s.heap k u
  | .non, _, _, _, v, e, r => by cases v; cases e; cases r; exact .none
  | .int i, _, _, _, v, e, r => by cases v; cases e; obtain ⟨t, rfl⟩ := r; exact .int _ _
  | .str i, _, _, _, v, e, r => by cases v; cases e; obtain ⟨t, rfl⟩ := r; exact .text _ _
  | .tup xs, _, _, _, v, e, r => by
    cases v with
    | tup h1 h2 h3 =>
      cases r
      rw [toN] at e
      obtain ⟨ks, e1, rfl⟩ := Option.map_eq_some_iff.mp e
      obtain ⟨its, rv, ⟨o, ho, hc, n, hd⟩, _⟩ := I.tuple (TupAt.sq h1)
      exact .tup ho hc hd (VRs.nested I xs ks _ _ h3 e1 (by simpa using rv))
  | .bl _, _, _, _, _, e, _ => by simp [toN] at e
  | .lst _, _, _, _, _, e, _ => by simp [toN] at e
  | .dct _, _, _, _, _, e, _ => by simp [toN] at e
  | .scr _, _, _, _, _, e, _ => by simp [toN] at e
  | .ref _, _, _, _, _, e, _ => by simp [toN] at e
theorem VRs.nested (I : Inv X pins σ H s) : ∀ (p : List PV) (k : List NestedKey) (x : List V) (u : List Value), VRs (wd X) L H p x → toNs p = some k → Vals x u → NestedAll s.heap k u
  | [], _, _, _, v, e, r => by cases v; cases e; cases r; exact .nil
  | p :: ps, _, _, _, v, e, r => by
    cases v with
    | cons h1 h2 =>
      cases r with
      | cons r1 r2 =>
        rw [toNs] at e
        split at e
        · rename_i d ds e1 e2
          cases e
          exact .cons (VR.nested I p d _ _ h1 e1 r1) (VRs.nested I ps ds _ _ h2 e2 r2)
        · cases e
end
theorem VR.isKey (I : Inv X pins σ H s) {p : PV} {k : NestedKey} {b : Addr} (v : VR (wd X) L H p (.ref b)) (e : toN p = some k) (hd : k.depth ≤ 8) : (nestedKind X.prog X.w).is s.heap k b := ⟨VR.nested I p k _ _ v e rfl, hd⟩
abbrev XY : List (NestedKey × Addr × V) → List (NestedKey × Addr × Value) → Prop := Paired fun p q => p.1 = q.1 ∧ p.2.1 = q.2.1 ∧ RelV p.2.2 q.2.2
theorem xy_keys {xs : List (NestedKey × Addr × V)} {ys : List (NestedKey × Addr × Value)} (r : XY xs ys) : xs.map (·.1) = ys.map (·.1) := by
  induction r with
  | nil => rfl
  | cons g1 _ ih => rw [List.map_cons, List.map_cons, ih, g1.1]
theorem ys_keys (I : Inv X pins σ H s) {es : List (PV × PV)} {xs : List (NestedKey × Addr × V)} {ys : List (NestedKey × Addr × Value)} (r : PTs_ (wd X) L H es xs) (r1 : XY xs ys) : ∀ y ∈ ys, (nestedKind X.prog X.w).is s.heap y.1 y.2.1 := by
  induction r1 generalizing es with
  | nil => intro y hy; cases hy
  | cons g1 _ ih =>
    cases r with
    | cons f1 f2 =>
      intro y hy
      rcases List.mem_cons.mp hy with rfl | hy
      · obtain ⟨_, _, _, hk, hdp⟩ := keyT_toN f1.1
        rw [f1.2.1] at hk; cases hk
        rw [← g1.1, ← g1.2.1]
        exact VR.isKey I f1.2.2.1 f1.2.1 hdp
      · exact ih f2 y hy
/-- a dict with tuple keys, as the library says it -/
theorem dictB_raw (I : Inv X pins σ H s) {a : Addr} {es : List (PV × PV)} {xs : List (NestedKey × Addr × V)} (ha : Rd H a (dictB X.prog X.w a xs)) (r : PTs_ (wd X) L H es xs) :
    ∃ ys : List (NestedKey × Addr × Value), Paired (fun (p : NestedKey × Addr × V) (q : NestedKey × Addr × Value) => p.1 = q.1 ∧ p.2.1 = q.2.1 ∧ RelV p.2.2 q.2.2) xs ys ∧ xs.length ≤ sizeLine ∧ (a == sysModules) = false ∧ s.heap.DictOfH (nestedKind X.prog X.w) a ys := by
  obtain ⟨⟨ys, r1, h1, h2, h3, o, es', ep, k1, k2, k3, k4⟩, _, _⟩ := ha.ok I.hok
  refine ⟨ys, r1, h1, h2, o, es', ep, k1, k2, k3, k4, ?_, ?_⟩
  · exact ys_keys I r r1
  · rw [← xy_keys r1]
    exact h3
theorem ys_at {xs : List (NestedKey × Addr × V)} {ys : List (NestedKey × Addr × Value)} (r : Paired (fun (p : NestedKey × Addr × V) (q : NestedKey × Addr × Value) => p.1 = q.1 ∧ p.2.1 = q.2.1 ∧ RelV p.2.2 q.2.2) xs ys) (k : NestedKey) :
    RelO (fT xs k) ((atKey ys k).map (·.2)) := by
  induction r with
  | nil => trivial
  | cons h1 _ ih =>
    rename_i p q _ _ _
    rw [fT, atKey, List.find?_cons, List.find?_cons]
    by_cases hk : p.1 = k
    · rw [decide_eq_true hk, decide_eq_true (by rw [← h1.1]; exact hk)]
      exact h1.2.2
    · rw [decide_eq_false hk, decide_eq_false (by rw [← h1.1]; exact hk)]
      exact ih
theorem dictB_ok {a : Addr} {xs : List (NestedKey × Addr × V)} {ys : List (NestedKey × Addr × Value)} {H' : Hp} {h' : Heap} (r : Paired (fun (p : NestedKey × Addr × V) (q : NestedKey × Addr × Value) => p.1 = q.1 ∧ p.2.1 = q.2.1 ∧ RelV p.2.2 q.2.2) xs ys)
    (h1 : xs.length ≤ sizeLine) (h2 : (a == sysModules) = false) (d : h'.DictOfH (nestedKind X.prog X.w) a ys) : ObjOk X.prog X.w H' h' a (dictB X.prog X.w a xs) := by
  obtain ⟨o, es, ep, k1, k2, k3, k4, k5, k6⟩ := d
  have e : xs.map (·.1) = ys.map (·.1) := xy_keys r
  refine ⟨⟨ys, r, h1, h2, by rw [e]; exact k6, o, es, ep, k1, k2, k3, k4⟩, ⟨o, k1⟩, fun g1 g2 hg hs => ?_⟩
  obtain ⟨ys', r', q1, q2, q3, o', es', ep', m1, m2, m3, m4⟩ := hg
  exact ⟨ys', r', q1, q2, q3, o', es', ep', hs _ m1, m2, m3, m4⟩
theorem xy_repl {xs : List (NestedKey × Addr × V)} {ys : List (NestedKey × Addr × Value)} (r : XY xs ys) (k : NestedKey) {x : V} {u : Value} (rx : RelV x u) : XY (xs.map fun y => if y.1 = k then (y.1, y.2.1, x) else y) (ys.map (putAt k u)) := by
  induction r with
  | nil => exact .nil
  | cons h1 _ ih =>
    rename_i p q _ _ _
    refine .cons ?_ ih
    unfold putAt
    dsimp only
    by_cases hk : p.1 = k
    · rw [if_pos hk, if_pos (by rw [← h1.1]; exact hk)]
      exact ⟨h1.1, h1.2.1, rx⟩
    · rw [if_neg hk, if_neg (by rw [← h1.1]; exact hk)]
      exact h1
theorem stored_ys {xs : List (NestedKey × Addr × V)} {ys : List (NestedKey × Addr × Value)} (r : Paired (fun (p : NestedKey × Addr × V) (q : NestedKey × Addr × Value) => p.1 = q.1 ∧ p.2.1 = q.2.1 ∧ RelV p.2.2 q.2.2) xs ys) (k : NestedKey) (b : Addr) {x : V} {u : Value} (rx : RelV x u) :
    Paired (fun (p : NestedKey × Addr × V) (q : NestedKey × Addr × Value) => p.1 = q.1 ∧ p.2.1 = q.2.1 ∧ RelV p.2.2 q.2.2) (storedT xs k b x) (storedH ys k b u) := by
  have hs := (ys_at r k).isSome_eq
  rw [Option.isSome_map] at hs
  unfold storedT storedH
  rw [hs]
  split
  · exact xy_repl r k rx
  · exact r.snoc ⟨rfl, rfl, rx⟩
/-- an empty dict is one for tuples too -/
theorem dK_nil (I : Inv X pins σ H s) {a : Addr} (ha : Rd H a (.dK [])) : (a == sysModules) = false ∧ s.heap.DictOfH (nestedKind X.prog X.w) a [] := by
  obtain ⟨_, hd, vs, kv, o, es, ep, h1, h2, h3, h4, h5, h6⟩ := dk_rd I.hok ha
  cases kv
  refine ⟨hd, o, es, ep, h1, h2, h3, ?_, (fun x hx => by cases hx), List.nodup_nil⟩
  have : es.toList = [] := by
    cases hh : es.toList with
    | nil => rfl
    | cons x r => rw [hh] at h5; cases h5
  rw [this]; rfl
theorem room_nested (hu : Um X) : (nestedKind X.prog X.w).room X.A.in1 := by
  show X.A.in1.units + 8 < cLine
  rw [Around.in1_units]
  have : X.A.units + 100 < cLine := hu
  omega
/-- what the dict at a holds at the key p: any reader that the library has for both kinds of dicts -/
theorem dict_case (I : Inv X pins σ H s) {a : Addr} {W : HO → Prop} (hW : ∀ u, W u → Rd H a u) {es : List (PV × PV)} {p : PV} {x : V} {u : Value} (d : DP (wd X) L H a W es) (ok : keyOk es p = true) (v : VR (wd X) L H p x) (r : RelV x u) :
    (∃ kvs k, W (.dK kvs) ∧ PKs (wd X) L H es kvs ∧ p = kP k ∧ x = kV k) ∨
    ∃ xs ys k b, PTs_ (wd X) L H es xs ∧ Paired (fun (p : NestedKey × Addr × V) (q : NestedKey × Addr × Value) => p.1 = q.1 ∧ p.2.1 = q.2.1 ∧ RelV p.2.2 q.2.2) xs ys ∧ xs.length ≤ sizeLine ∧ (a == sysModules) = false ∧
      s.heap.DictOfH (nestedKind X.prog X.w) a ys ∧ keyT p = true ∧ toN p = some k ∧ (nestedKind X.prog X.w).is s.heap k b ∧ x = .ref b ∧ u = .ref b ∧ (W (dictB X.prog X.w a xs) ∨ W (.dK [])) := by
  unfold keyOk at ok
  rw [Bool.or_eq_true, Bool.and_eq_true, Bool.and_eq_true] at ok
  have tup : keyT p = true → ∃ k b, toN p = some k ∧ (nestedKind X.prog X.w).is s.heap k b ∧ x = .ref b ∧ u = .ref b := fun ht => by
    obtain ⟨ys, k, rfl, hk, hdp⟩ := keyT_toN ht
    cases v with
    | tup h1 h2 h3 =>
      cases r
      exact ⟨k, _, hk, VR.isKey I (.tup h1 h2 h3) hk hdp, rfl, rfl⟩
  rcases d.cases with ⟨kvs, ha, hp⟩ | ⟨xs, ha, h0, hp⟩
  · rcases ok with ⟨k1, k2⟩ | ⟨k1, k2⟩
    · obtain ⟨k, rfl⟩ := keyV_kP k1
      refine .inl ⟨kvs, k, ha, hp, rfl, ?_⟩
      cases k <;> (cases v; rfl)
    · have : es = [] := by
        cases es with
        | nil => rfl
        | cons e es =>
          rw [List.all_cons, Bool.and_eq_true] at k2
          have h1 := hp.keys
          rw [List.all_cons, Bool.and_eq_true] at h1
          obtain ⟨_, _, e1, _⟩ := keyT_toN k2.1
          rw [e1] at h1
          exact absurd h1.1 (by simp [keyV])
      subst this
      cases hp
      obtain ⟨hd, hm⟩ := dK_nil I (hW _ ha)
      obtain ⟨k, b, q1, q2, q3, q4⟩ := tup k1
      exact .inr ⟨[], [], k, b, .nil, .nil, Nat.zero_le _, hd, hm, k1, q1, q2, q3, q4, .inr ha⟩
  · rcases ok with ⟨k1, k2⟩ | ⟨k1, k2⟩
    · have : es = [] := by
        cases es with
        | nil => rfl
        | cons e es =>
          rw [List.all_cons, Bool.and_eq_true] at k2
          cases hp with
          | cons f1 _ =>
            obtain ⟨_, _, e1, _⟩ := keyT_toN f1.1
            rw [e1] at k2
            exact absurd k2.1 (by simp [keyV])
      exact absurd this h0
    · obtain ⟨ys, r1, h1, h2, h3⟩ := dictB_raw I (hW _ ha) hp
      obtain ⟨k, b, q1, q2, q3, q4⟩ := tup k1
      exact .inr ⟨xs, ys, k, b, hp, r1, h1, h2, h3, k1, q1, q2, q3, q4, .inl ha⟩
end
end HW
/-! HwF: in, items, stores. -/
namespace HW
open PySem PySem.Spec PyProof.Rows L2

section
variable {X : Cx} {pins : List (Addr × Obj)} {σ : L2.St} {H : Hp} {s : Shared} {L : List Addr} {A : Around} {E : Value → Shared → Prop}
theorem dgk {H : Hp} {a : Addr} {kvs : List (L2.Key × V)} {k : L2.Key} (e : Rd H a (.dK kvs)) : DGet H a (kV k) (valV kvs k) := .inl ⟨kvs, k, e, rfl, rfl⟩
theorem um1 (hu : Um X) : X.A.units + 1 < cLine := by have : X.A.units + 100 < cLine := hu; omega
theorem um65 (hu : Um X) : X.A.units + 65 < cLine := by have : X.A.units + 100 < cLine := hu; omega
theorem um64 (hu : Um X) : X.A.units + 64 < cLine := by have : X.A.units + 100 < cLine := hu; omega
theorem um0 (hu : Um X) : X.A.units < cLine := by have : X.A.units + 100 < cLine := hu; omega
theorem orel_some {Z : Wd} {L : List Addr} {H : Hp} {o : Option PV} {x : V} {y : Option V} (r : ORel Z L H o y) (e : y = some x) : ∃ p, o = some p ∧ VR Z L H p x := by
  subst e
  cases o with
  | none => exact r.elim
  | some p => exact ⟨p, rfl, r⟩
theorem orel_some' {Z : Wd} {L : List Addr} {H : Hp} {o : Option PV} {p : PV} {y : Option V} (r : ORel Z L H o y) (e : o = some p) : ∃ x, y = some x ∧ VR Z L H p x := by
  subst e
  cases y with
  | none => exact r.elim
  | some x => exact ⟨x, rfl, r⟩
theorem orel_none {Z : Wd} {L : List Addr} {H : Hp} {o : Option PV} {y : Option V} (r : ORel Z L H o y) : o = none ↔ y = none := by
  cases o <;> cases y <;> simp [ORel] at r ⊢
theorem orel_getD {Z : Wd} {L : List Addr} {H : Hp} {o : Option PV} {y : Option V} (r : ORel Z L H o y) {p : PV} {x : V} (v : VR Z L H p x) : VR Z L H (o.getD p) (y.getD x) := by
  cases o <;> cases y <;> simp [ORel] at r ⊢
  · exact v
  · exact r
theorem any_find (es : List (PV × PV)) (p : PV) : (es.any fun e => decide (e.1 = p)) = (dFind es p).isSome := by
  induction es with
  | nil => rfl
  | cons e es ih =>
    rw [List.any_cons, dFind, List.find?_cons]
    by_cases h : e.1 = p
    · simp [h]
    · rw [decide_eq_false h, Bool.false_or]; exact ih
/-- the library's dicts of both kinds at the key -/
theorem dict_typ (I : Inv X pins σ H s) {a : Addr} {es : List (PV × PV)} (d : DR (wd X) L H a es) : s.TypeIs (.ref a) "dict" ∧ ∃ ob, s.heap.get? a = some ob ∧ ob.dict = none := by
  rcases d.cases with ⟨kvs, ha, _⟩ | ⟨xs, ha, _, hp⟩
  · obtain ⟨_, _, vs, _, dd⟩ := dk_rd I.hok ha
    obtain ⟨ob, _, _, h1, h2, _⟩ := id dd
    exact ⟨dd.typeIs, ob, h1, h2.2.1⟩
  · obtain ⟨ys, _, _, _, dd⟩ := dictB_raw I ha hp
    obtain ⟨ob, _, _, h1, h2, _⟩ := id dd
    exact ⟨dd.typeIs, ob, h1, h2.2.1⟩
theorem dict_in (hu : Um X) (I : Inv X pins σ H s) {a : Addr} {es : List (PV × PV)} {p : PV} {x : V} {u : Value} {Q : Value → Shared → Prop} (d : DR (wd X) L H a es) (ok : keyOk es p = true) (v : VR (wd X) L H p x) (r : RelV x u)
    (h : ∀ s', Inv X pins σ H s' → Q (.bool (es.any fun e => decide (e.1 = p))) s') : wpAny (model X.prog X.w) X.A (compareOp .In u (.ref a)) Q E s := by
  rcases dict_case (W := Rd H a) I (fun _ q => q) d ok v r with ⟨kvs, k, ha, hp, rfl, rfl⟩ | ⟨xs, ys, k, b, hp, hy, h1, h2, h3, h4, h5, h6, rfl, rfl, h7⟩
  · refine d_in (um1 hu) I (dgk ha) r fun s' I' => ?_
    have := h s' I'
    rw [hp.any, valV_any] at this
    exact this
  · refine wpAny_in_heap (room_nested hu) h6 h2 h3 ?_
    have := h _ (I.tok (s.toks + (nestedKind X.prog X.w).draws k))
    rw [hp.any h5, (ys_at hy k).isSome_eq, Option.isSome_map] at this
    exact this
theorem dict_notin (hu : Um X) (I : Inv X pins σ H s) {a : Addr} {es : List (PV × PV)} {p : PV} {x : V} {u : Value} {Q : Value → Shared → Prop} (d : DR (wd X) L H a es) (ok : keyOk es p = true) (v : VR (wd X) L H p x) (r : RelV x u)
    (h : ∀ s', Inv X pins σ H s' → Q (.bool (!es.any fun e => decide (e.1 = p))) s') : wpAny (model X.prog X.w) X.A (compareOp .NotIn u (.ref a)) Q E s := by
  rcases dict_case (W := Rd H a) I (fun _ q => q) d ok v r with ⟨kvs, k, ha, hp, rfl, rfl⟩ | ⟨xs, ys, k, b, hp, hy, h1, h2, h3, h4, h5, h6, rfl, rfl, h7⟩
  · refine d_notIn (um1 hu) I (dgk ha) r fun s' I' => ?_
    have := h s' I'
    rw [hp.any, valV_any] at this
    exact this
  · show wpAny _ _ (do return .bool (!(← contains (.ref a) (.ref b)))) Q E s
    refine wpAny_bind (PySem.wpAny_contains_heap (room_nested hu) h6 h2 h3 (wpAny_pure ?_))
    have := h _ (I.tok (s.toks + (nestedKind X.prog X.w).draws k))
    rw [hp.any h5, (ys_at hy k).isSome_eq, Option.isSome_map] at this
    exact this
theorem dict_get (hu : Um X) (I : Inv X pins σ H s) {a : Addr} {es : List (PV × PV)} {p z : PV} {x : V} {u : Value} {Q : Value → Shared → Prop} (d : DR (wd X) L H a es) (ok : keyOk es p = true) (v : VR (wd X) L H p x) (r : RelV x u) (e : dFind es p = some z)
    (h : ∀ y w' s', Inv X pins σ H s' → VR (wd X) L H z y → RelV y w' → Q w' s') : wpAny (model X.prog X.w) X.A (getItem (.ref a) u) Q E s := by
  rcases dict_case (W := Rd H a) I (fun _ q => q) d ok v r with ⟨kvs, k, ha, hp, rfl, rfl⟩ | ⟨xs, ys, k, b, hp, hy, h1, h2, h3, h4, h5, h6, rfl, rfl, h7⟩
  · obtain ⟨y, ey, vy⟩ := orel_some' (hp.find k) e
    refine d_getItem (um1 hu) I (v := y) (by rw [← ey]; exact dgk ha) r fun w' s' I' rw' => h y w' s' I' vy rw'
  · obtain ⟨y, ey, vy⟩ := orel_some' (hp.find h5) e
    have ry := ys_at hy k
    rw [ey] at ry
    obtain ⟨w', hw, rw'⟩ := RelO.some_of ry
    obtain ⟨q, hq, rfl⟩ := Option.map_eq_some_iff.mp hw
    exact wpAny_getItem_heap (room_nested hu) h6 h3 hq (h y _ _ (I.tok _) vy rw')
theorem dict_getD (hu : Um X) (I : Inv X pins σ H s) {a : Addr} {es : List (PV × PV)} {p z : PV} {x y : V} {u w' : Value} {Q : Value → Shared → Prop} (d : DR (wd X) L H a es) (ok : keyOk es p = true) (v : VR (wd X) L H p x) (r : RelV x u)
    (vz : VR (wd X) L H z y) (rz : RelV y w') (h : ∀ y w' s', Inv X pins σ H s' → VR (wd X) L H ((dFind es p).getD z) y → RelV y w' → Q w' s') : wpAny (model X.prog X.w) X.A (call (.builtin "dict.get") [.ref a, u, w']) Q E s := by
  rcases dict_case (W := Rd H a) I (fun _ q => q) d ok v r with ⟨kvs, k, ha, hp, rfl, rfl⟩ | ⟨xs, ys, k, b, hp, hy, h1, h2, h3, h4, h5, h6, rfl, rfl, h7⟩
  · exact d_get2 (um1 hu) I (dgk ha) r rz fun w2 s' I' rw2 => h _ w2 s' I' (orel_getD (hp.find k) vz) rw2
  · refine call_meetsIn PySem.F.slot_dict_get h3.typeIs PySem.F.entry_dict_get (PySem.F.args_dict_get_3 _ _ _) (meetsH_dict_get_default _ a b h2 w') ⟨room_nested hu, k, ys, h6, h3, ?_⟩
    exact h _ _ _ (I.tok _) (orel_getD (hp.find h5) vz) ((ys_at hy k).getD rz)
theorem dict_get1 (hu : Um X) (I : Inv X pins σ H s) {a : Addr} {es : List (PV × PV)} {p : PV} {x : V} {u : Value} {Q : Value → Shared → Prop} (d : DR (wd X) L H a es) (ok : keyOk es p = true) (v : VR (wd X) L H p x) (r : RelV x u)
    (h : ∀ y w' s', Inv X pins σ H s' → VR (wd X) L H ((dFind es p).getD .non) y → RelV y w' → Q w' s') : wpAny (model X.prog X.w) X.A (call (.builtin "dict.get") [.ref a, u]) Q E s := by
  rcases dict_case (W := Rd H a) I (fun _ q => q) d ok v r with ⟨kvs, k, ha, hp, rfl, rfl⟩ | ⟨xs, ys, k, b, hp, hy, h1, h2, h3, h4, h5, h6, rfl, rfl, h7⟩
  · exact d_get1 (um1 hu) I (dgk ha) r fun w2 s' I' rw2 => h _ w2 s' I' (orel_getD (hp.find k) .non) rw2
  · refine call_meetsIn PySem.F.slot_dict_get h3.typeIs PySem.F.entry_dict_get (PySem.F.args_dict_get_2 _ _) (meetsH_dict_get _ a b h2) ⟨room_nested hu, k, ys, h6, h3, ?_⟩
    exact h _ _ _ (I.tok _) (orel_getD (hp.find h5) .non) ((ys_at hy k).getD (show RelV .non .none from rfl))
theorem storedT_len (xs : List (NestedKey × Addr × V)) (k : NestedKey) (b : Addr) (x : V) : (storedT xs k b x).length ≤ xs.length + 1 := by
  unfold storedT; split <;> simp
theorem dPut_ne (es : List (PV × PV)) (k v : PV) : dPut es k v ≠ [] := by
  unfold dPut
  split
  · rename_i h
    intro e
    rw [List.map_eq_nil_iff] at e
    subst e
    simp at h
  · simp
theorem mut_of {a : Addr} {xs : List (NestedKey × Addr × V)} (h7 : H a = some (dictB X.prog X.w a xs) ∨ H a = some (.dK [])) : Mut (H a) := by
  rcases h7 with h7 | h7 <;> rw [h7] <;> trivial
/-- d[k] = v, and what the heap is then -/
theorem dict_set (hu : Um X) (I : Inv X pins σ H s) {a : Addr} {es : List (PV × PV)} {p z : PV} {x y : V} {u w' : Value} {Q : Unit → Shared → Prop} (d : DX (wd X) L H a es) (ok : keyOk es p = true) (v : VR (wd X) L H p x) (r : RelV x u)
    (vz : VR (wd X) L H z y) (rz : RelV y w') (hl : es.length < sizeLine)
    (h : ∀ (o : HO) s', Inv X pins σ (upd H a o) s' → (∀ (L' : List Addr) (H' : Hp), (∀ p x, VR (wd X) L H p x → VR (wd X) L' H' p x) → H' a = some o → DX (wd X) L' H' a (dPut es p z)) → Q () s') : wpAny (model X.prog X.w) X.A (setItem (.ref a) u w') Q E s := by
  rcases dict_case (W := fun u => H a = some u) I (fun _ => .inl) d ok v r with ⟨kvs, k, ha, hp, rfl, rfl⟩ | ⟨xs, ys, k, b, hp, hy, h1, h2, h3, h4, h5, h6, rfl, rfl, h7⟩
  · have hk : kvs.length < sizeLine := by rw [← Paired.length hp]; exact hl
    refine d_setItem (um1 hu) I (DPut.k ha hk) r rz fun s' I' => h _ s' I' fun L' H' up e => DP.ofK e ?_
    exact Paired.mapP (hp.put k vz) fun a b ⟨q1, q2⟩ => ⟨q1, up _ _ q2⟩
  · have hxl : xs.length < sizeLine := by rw [← Paired.length hp]; exact hl
    have hz : ys.length ≤ sizeLine := by rw [← Paired.length hy]; omega
    refine wpAny_setItem_heap (hsz := hz) (room_nested hu) h6 h3 fun h' dd' hs => ?_
    have hxl2 := storedT_len xs k b y
    refine h (dictB X.prog X.w a (storedT xs k b y)) _ ?_ fun L' H' up e => DP.ofT e (dPut_ne _ _ _) ?_
    · exact d_write I (mut_of h7) hs (let ⟨q, _, _, hq, _⟩ := dd'; ⟨q, hq⟩) (dictB_ok (stored_ys hy k b rz) (by omega) h2 dd')
    · exact Paired.mapP (hp.put h4 h5 v vz) fun a b ⟨q1, q2, q3, q4⟩ => ⟨q1, q2, up _ _ q3, up _ _ q4⟩
theorem dict_len (I : Inv X pins σ H s) {a : Addr} {es : List (PV × PV)} {Q : Value → Shared → Prop} (d : DR (wd X) L H a es) (h : ∀ t s', Inv X pins σ H s' → Q (.int es.length t) s') : wpAny (model X.prog X.w) X.A (call (.builtin "len") [.ref a]) Q E s := by
  rcases d.cases with ⟨kvs, ha, hp⟩ | ⟨xs, ha, _, hp⟩
  · refine d_len I ha fun t s' I' => ?_
    rw [← Paired.length hp]
    exact h t s' I'
  · obtain ⟨ys, hy, h1, h2, dd⟩ := dictB_raw I ha hp
    have e : es.length = ys.length := (Paired.length hp).trans (Paired.length hy).symm.symm
    have hz : (ys.length : Int) < 2 ^ 63 := by rw [Paired.length hy, sizeLine_eq] at h1; omega
    refine call_len_dictH h2 dd hz ?_
    rw [← e]
    exact h _ _ (I.tok _)
theorem dict_truth (I : Inv X pins σ H s) {a : Addr} {es : List (PV × PV)} {Q : Bool → Shared → Prop} (d : DR (wd X) L H a es) (h : ∀ s', Inv X pins σ H s' → Q (!es.isEmpty) s') : wpAny (model X.prog X.w) X.A (truthy (.ref a)) Q E s := by
  rcases d.cases with ⟨kvs, ha, hp⟩ | ⟨xs, ha, h0, hp⟩
  · refine d_truth I ha fun s' I' => ?_
    have e : kvs.isEmpty = es.isEmpty := by cases hp <;> rfl
    rw [e]
    exact h s' I'
  · obtain ⟨ys, hy, h1, h2, dd⟩ := dictB_raw I ha hp
    have e : es.length = ys.length := (Paired.length hp).trans (Paired.length hy)
    have hz : (ys.length : Int) < 2 ^ 63 := by rw [Paired.length hy, sizeLine_eq] at h1; omega
    have hne : (!es.isEmpty) = ((ys.length : Int) != 0) := by
      cases es with
      | nil => exact absurd rfl h0
      | cons x r =>
        simp only [List.length_cons] at e
        have : (ys.length : Int) ≠ 0 := by omega
        rw [bne_iff_ne.mpr this]
        rfl
    have key : wpAny (model X.prog X.w) X.A (runValue (.builtin "len" ⟨[.ref a], []⟩)) (fun r s' => r = .int ys.length (s.toks + 1) ∧ Q ((ys.length : Int) != 0) s') E s := by
      refine wpAny_runValue (codeAny_builtin entry_len ?_)
      rw [Around.under_plainId plain_len _]
      refine wpAny_mono (wpAny_len_body_dictH (Q := fun r s' => r = .int ys.length (s.toks + 1) ∧ Q ((ys.length : Int) != 0) s') h2 dd hz ⟨rfl, ?_⟩) (fun fin s' ⟨r, er, hq⟩ => by rw [er]; exact hq) fun _ _ e => e
      rw [← hne]
      exact h _ (I.tok _)
    unfold truthy
    refine wpAny_bind (wpAny_callSpecial?_none (name := Str.ofString "__bool__") dd.typeIs noBool_dict ?_)
    refine wpAny_bind (wpAny_specialOf (name := Str.ofString "__len__") dd.typeIs PySem.F.slot_dict_len.lookup ?_)
    exact wpAny_bind (wpAny_mono key (fun r s' ⟨er, hq⟩ => by rw [er]; exact wpAny_pure hq) fun _ _ e => e)
end

/-! ### in; items; stores -/
section
variable {X : Cx}
theorem toDs_any : ∀ {xs : List PV} {ds : List PyData} (d : PyData), True := fun _ => trivial
theorem op_pyIn (hu : Um X) : OpR X (compareOp .In) (rCmp X .isin) := by
  intro pins s σ H x y v u Q I rx ry hw
  obtain ⟨L, h, p, q, r, hr, vp, vq, e, post⟩ := hw
  simp only [cmpop, isIn] at e
  split at e
  · rename_i es ed
    obtain ⟨a, rfl, d⟩ := vq.dict hr ed
    cases ry
    split at e
    · rename_i ok
      cases e
      exact dict_in hu I d ok vp rx fun s' I' => ⟨.bl _, H, I', rfl, post.bl hr⟩
    · cases e
  · split at e
    · rename_i xs ex
      obtain ⟨a, vs, rfl, hs, vv⟩ := vq.seq hr ex
      cases ry
      split at e
      · rename_i d ds e1 e2
        split at e
        · rename_i hc
          rw [Bool.and_eq_true] at hc
          cases e
          obtain ⟨as, r1⟩ := Dp.reads I d x v (vp.resDp hr e1) rx
          have fin : EP X pins σ Q (.bool (ds.any fun e => PyData.eqv e d)) s := ⟨.bl _, H, I, rfl, post.bl hr⟩
          rcases hs with hs | hs
          · obtain ⟨bs, r2⟩ := Dp.reads I (.list ds) (.ref a) (.ref a) (.lst (sqr hs) (VRs.dp _ _ _ vv e2)) rfl
            exact SeqAt.in_list_reads r2 r1 (SeqAt.canLay_of_shaped hc.2) (SeqAt.canLay_of_shaped hc.1) (room_in_shaped hc.1 (um65 hu)) fin
          · obtain ⟨bs, r2⟩ := Dp.reads I (.tuple ds) (.ref a) (.ref a) (.tup (TupAt.sq hs) (VRs.dp _ _ _ vv e2)) rfl
            exact SeqAt.in_tuple_reads r2 r1 (SeqAt.canLay_of_shaped hc.2) (SeqAt.canLay_of_shaped hc.1) (room_in_shaped hc.1 (um65 hu)) fin
        · cases e
      · cases e
    · cases e
theorem op_pyNotin (hu : Um X) : OpR X (compareOp .NotIn) (rCmp X .notin) := by
  intro pins s σ H x y v u Q I rx ry hw
  obtain ⟨L, h, p, q, r, hr, vp, vq, e, post⟩ := hw
  simp only [cmpop, isIn] at e
  split at e
  · rename_i es ed
    obtain ⟨a, rfl, d⟩ := vq.dict hr ed
    cases ry
    split at e
    · rename_i ok
      cases e
      exact dict_notin hu I d ok vp rx fun s' I' => ⟨.bl _, H, I', rfl, post.bl hr⟩
    · cases e
  · split at e
    · rename_i xs ex
      obtain ⟨a, vs, rfl, hs, vv⟩ := vq.seq hr ex
      cases ry
      split at e
      · rename_i d ds e1 e2
        split at e
        · rename_i hc
          rw [Bool.and_eq_true] at hc
          cases e
          obtain ⟨as, r1⟩ := Dp.reads I d x v (vp.resDp hr e1) rx
          have fin : EP X pins σ Q (.bool (!ds.any fun e => PyData.eqv e d)) s := ⟨.bl _, H, I, rfl, post.bl hr⟩
          rcases hs with hs | hs
          · obtain ⟨bs, r2⟩ := Dp.reads I (.list ds) (.ref a) (.ref a) (.lst (sqr hs) (VRs.dp _ _ _ vv e2)) rfl
            exact SeqAt.notIn_list_reads r2 r1 (SeqAt.canLay_of_shaped hc.2) (SeqAt.canLay_of_shaped hc.1) (room_in_shaped hc.1 (um65 hu)) fin
          · obtain ⟨bs, r2⟩ := Dp.reads I (.tuple ds) (.ref a) (.ref a) (.tup (TupAt.sq hs) (VRs.dp _ _ _ vv e2)) rfl
            exact SeqAt.notIn_tuple_reads r2 r1 (SeqAt.canLay_of_shaped hc.2) (SeqAt.canLay_of_shaped hc.1) (room_in_shaped hc.1 (um65 hu)) fin
        · cases e
      · cases e
    · cases e
/-- all comparisons -/
theorem op_cmp (hu : Um X) (op : COp) : OpR X (compareOp (pyC op)) (rCmp X op) := by
  cases op with
  | eq => exact op_pyEq (um64 hu)
  | ne => exact op_pyNe (um64 hu)
  | lt => exact ord_ok hu .lt (.inl rfl)
  | gt => exact ord_ok hu .gt (.inr (.inl rfl))
  | le => exact ord_ok hu .le (.inr (.inr (.inl rfl)))
  | ge => exact ord_ok hu .ge (.inr (.inr (.inr rfl)))
  | is => exact op_pyIs
  | isnot => exact op_pyIsnot
  | isin => exact op_pyIn hu
  | notin => exact op_pyNotin hu

theorem VRs.atI {Z : Wd} {L : List Addr} {H : Hp} {xs : List PV} {vs : List V} {i : Int} {p : PV} (r : VRs Z L H xs vs) (e : L2.atI xs i = some p) : ∃ x, L2.atI vs i = some x ∧ VR Z L H p x := by
  unfold L2.atI at e ⊢
  rw [r.length]
  cases hx : ixN xs.length i with
  | none => rw [hx] at e; cases e
  | some j =>
    rw [hx] at e
    exact r.get' e
theorem ix_dict (hu : Um X) : IxR X (fun x y H Q => ∃ L h p q r es, HR (wd X) L h H ∧ VR (wd X) L H p x ∧ VR (wd X) L H q y ∧ asDict h p = some es ∧ keyOk es q = true ∧ dFind es q = some r ∧ Post (wd X) L H r h Q) := by
  intro value slice pins s σ H x y v u Q I rx ry hw hs
  obtain ⟨L, h, p, q, r, es, hr, vp, vq, ed, ok, ef, post⟩ := hw
  obtain ⟨a, rfl, d⟩ := vp.dict hr ed
  cases rx
  have hT := (dict_typ I d).1
  unfold subscriptTail
  refine wpAny_bind ?_
  rw [getitemInPython_of_ne hT.not_modules]
  refine wpAny_bind (wpAny_specialOf hT PySem.F.slot_dict_getitem.lookup ?_)
  have fin : wpAny (model X.prog X.w) X.A (subscripted slice false (.ref a) u) (fun r s₃ => wpAny (model X.prog X.w) X.A (letTemporaryGo value (.ref a) r >>= fun _ => pure r) (EP X pins σ Q) X.xe s₃) X.xe s := by
    rw [hs]
    refine wpAny_operating (dict_get hu I d ok vq ry ef fun z w' s' I' vz rz => ?_)
    exact wpAny_bind (wpAny_letTemporaryGo (wpAny_pure ⟨z, H, I', rz, post.same hr vz⟩))
  first
    | exact wpAny_pure (wpAny_bind fin)
    | exact wpAny_bind (wpAny_pure (wpAny_bind fin))
    | exact wpAny_bind fin
def rSub (X : Cx) : R2 := fun x y H Q => ∃ L h p q r, HR (wd X) L h H ∧ VR (wd X) L H p x ∧ VR (wd X) L H q y ∧ itemOf h p q = some r ∧ Post (wd X) L H r h Q
theorem ix_item (hu : Um X) : IxR X (rSub X) := by
  intro value slice pins s σ H x y v u Q I rx ry hw hs
  obtain ⟨L, h, p, q, r, hr, vp, vq, e, post⟩ := hw
  unfold itemOf at e
  split at e
  · rename_i es ed
    split at e
    · rename_i ok
      exact ix_dict hu value slice pins s σ H x y v u Q I rx ry ⟨L, h, p, q, r, es, hr, vp, vq, ed, ok, e, post⟩ hs
    · cases e
  · split at e
    · rename_i xs i ex
      obtain ⟨a, vs, rfl, hq, vv⟩ := vp.seq hr ex
      cases vq
      obtain ⟨z, ez, vz⟩ := vv.atI e
      rcases hq with hq | hq
      · exact ix_list value slice pins s σ H _ _ v u Q I rx ry ⟨_, _, _, _, rfl, rfl, sqr hq, ez, post.same hr vz⟩ hs
      · exact ix_tup value slice pins s σ H _ _ v u Q I rx ry ⟨_, _, _, _, rfl, rfl, TupAt.sq hq, ez, post.same hr vz⟩ hs
    · cases e
/-- o[i] by values alone -/
theorem get_item (hu : Um X) : PGet X (rSub X) := by
  intro pins s σ H o i ov iv Q I ro ri hw
  obtain ⟨L, h, p, q, r, hr, vp, vq, e, post⟩ := hw
  unfold itemOf at e
  split at e
  · rename_i es ed
    split at e
    · rename_i ok
      obtain ⟨a, rfl, d⟩ := vp.dict hr ed
      cases ro
      exact dict_get hu I d ok vq ri e fun z w' s' I' vz rz => ⟨z, H, I', rz, post.same hr vz⟩
    · cases e
  · split at e
    · rename_i xs i ex
      obtain ⟨a, vs, rfl, hq, vv⟩ := vp.seq hr ex
      cases vq
      obtain ⟨z, ez, vz⟩ := vv.atI e
      cases ro
      obtain ⟨t, rfl⟩ := ri
      obtain ⟨j, h1, h2, h3, h4, h5⟩ := atI_get ez
      have hn := line63
      rcases hq with hq | hq
      · obtain ⟨its, rr, pl, hz⟩ := I.list (sqr hq)
        obtain ⟨w, ew, rw'⟩ := rr.get h2
        have hl := rr.length
        have fin : EP X pins σ Q w s := ⟨z, H, I, rw', post.same hr vz⟩
        by_cases h0 : 0 ≤ i
        · rw [seqIndex_of h0 h5] at h1
          have hj : i.toNat = j := Option.some.inj h1
          exact wpAny_getItem_list pl.isList h0 (by omega) (by rw [hj]; simpa using ew) fin
        · rw [seqIndex_neg (by omega) h4] at h1
          have hj : (i + (its.toArray.size : Int)).toNat = j := by
            rw [List.size_toArray, ← hl]
            exact Option.some.inj h1
          exact wpAny_getItem_list_neg pl.isList (by omega) (by rw [List.size_toArray]; omega) (by omega) (by rw [hj]; simpa using ew) fin
      · obtain ⟨its, rr, pl, hz⟩ := I.tuple (TupAt.sq hq)
        obtain ⟨w, ew, rw'⟩ := rr.get h2
        have hl := rr.length
        exact PyProof.Rows.getItem_tuple (j := j) pl (by omega) (by omega) (by rw [List.size_toArray, ← hl]; exact h1) (by simpa using ew) ⟨z, H, I, rw', post.same hr vz⟩
    · cases e
/-- o[i] = v -/
def PostH (Z : Wd) (L : List Addr) (H : Hp) (h' : PHeap) (Q : Hp → Prop) : Prop := ∀ L' H', Ext L H L' H' → HR Z L' h' H' → Q H'
def rPut (X : Cx) : TSet := fun o i v H Q => ∃ L h p q r h', HR (wd X) L h H ∧ VR (wd X) L H p o ∧ VR (wd X) L H q i ∧ VR (wd X) L H r v ∧ putItem h p q r = some h' ∧ PostH (wd X) L H h' Q
theorem set_item (hu : Um X) : PSet X (rPut X) := by
  intro pins s σ H o i v ov iv u Q I ro ri rv hw
  obtain ⟨L, h, p, q, r, h', hr, vp, vq, vr, e, post⟩ := hw
  unfold putItem at e
  split at e
  · rename_i n
    cases vp with
    | ref hn =>
      rename_i a
      have hm : a ∈ L := List.mem_of_getElem? hn
      cases ro
      split at e
      · rename_i xs k hc
        split at e
        · rename_i j hj
          cases e
          cases vq
          obtain ⟨vs, h1, h2⟩ := hr.cell _ _ _ hc hn
          refine set_list pins s σ H (.ref a) (.int k) v (.ref a) iv u _ I rfl ri rv ⟨a, vs, _, j, rfl, rfl, h1, by rw [h2.length]; exact hj, ?_⟩
          refine post _ _ (ext_write hm (nf_lst h1)) (hr.write hn (nf_lst h1) ⟨_, upd_same, ?_⟩)
          exact (h2.set vr j).mono (ext_write hm (nf_lst h1))
        · cases e
      · rename_i es hc
        split at e
        · rename_i ok
          cases e
          rw [Bool.and_eq_true] at ok
          have hl := of_decide_eq_true ok.2
          rw [lim] at hl
          refine dict_set hu I (hr.cell _ _ _ hc hn) ok.1 vq ri vr rv hl fun ob s' I' hd => ⟨_, I', post _ _ (ext_write hm (nf_dx (hr.cell _ _ _ hc hn))) (hr.write hn (nf_dx (hr.cell _ _ _ hc hn)) ?_)⟩
          exact hd L (upd H a ob) (fun p x w => w.mono (ext_write hm (nf_dx (hr.cell _ _ _ hc hn)))) upd_same
        · cases e
      · cases e
  · cases e
end
end HW
/-! HwG: slices, truth, built-ins. -/
namespace HW
open PySem PySem.Spec PyProof.Rows L2

section
variable {X : Cx}
theorem VRs.ints {Z : Wd} {L : List Addr} {H : Hp} : ∀ {xs : List PV} {ns : List Int} {vs : List V}, VRs Z L H xs vs → asInts xs = some ns → vs = ns.map V.int
  | [], _, _, .nil, e => by cases e; rfl
  | x :: xs, ns, _, .cons h1 h2, e => by
    cases x <;> simp [asInts] at e
    obtain ⟨ms, e1, rfl⟩ := e
    cases h1
    rw [List.map_cons, VRs.ints h2 e1]
theorem VRs.bools {Z : Wd} {L : List Addr} {H : Hp} : ∀ {xs : List PV} {ns : List Bool} {vs : List V}, VRs Z L H xs vs → asBools xs = some ns → vs = ns.map V.bl
  | [], _, _, .nil, e => by cases e; rfl
  | x :: xs, ns, _, .cons h1 h2, e => by
    cases x <;> simp [asBools] at e
    obtain ⟨ms, e1, rfl⟩ := e
    cases h1
    rw [List.map_cons, VRs.bools h2 e1]
theorem VRs.ofInts {Z : Wd} {L : List Addr} {H : Hp} : ∀ ns : List Int, VRs Z L H (ns.map .int) (ns.map V.int)
  | [] => .nil
  | n :: ns => .cons (.int n) (VRs.ofInts ns)
theorem VRs.cut {Z : Wd} {L : List Addr} {H : Hp} {xs : List PV} {vs : List V} (r : VRs Z L H xs vs) (lo hi : Option Int) : VRs Z L H (HW.cut xs lo hi) (cutV vs lo hi) := by
  unfold HW.cut cutV
  rw [r.length]
  exact (r.drop _).take _
theorem cut_whole (xs : List PV) (lo hi : Option Int) (h1 : HT.sIx xs.length 0 lo = 0) (h2 : HT.sIx xs.length xs.length hi = xs.length) : cut xs lo hi = xs := by
  unfold cut
  rw [h1, h2, List.drop_zero, Nat.sub_zero, List.take_length]
def rSl (X : Cx) : V → Option Int → Option Int → Hp → VK → Prop := fun x lo hi H Q => ∃ L h p r, HR (wd X) L h H ∧ VR (wd X) L H p x ∧ sliceOf h p lo hi = some r ∧ Post (wd X) L H r h Q
theorem mk_sl {pins : List (Addr × Obj)} {σ : L2.St} {s : Shared} {H : Hp} {L : List Addr} {h : PHeap} {xs : List PV} {vs : List V} {Q : VK} {v : Value} {sl : Addr}
    (w : ∃ T id, typeLookup (.type T) "__getitem__" = pure (some (.builtin id)) ∧ s.TypeIs v T ∧ wpAny (model X.prog X.w) X.A (getItem v (.ref sl)) (EP X pins σ (NewL H vs)) X.xe s) (post : Post (wd X) L H (.lst xs) h Q) (hr : HR (wd X) L h H) (v1 : VRs (wd X) L H xs vs) :
    ∃ T id, typeLookup (.type T) "__getitem__" = pure (some (.builtin id)) ∧ s.TypeIs v T ∧ wpAny (model X.prog X.w) X.A (getItem v (.ref sl)) (EP X pins σ Q) X.xe s := by
  obtain ⟨T, id, h1, h2, h3⟩ := w
  exact ⟨T, id, h1, h2, mk_wp (al := false) h3 rfl post hr v1⟩
theorem sl_ok : SlR X (rSl X) := by
  intro pins s σ H x v vl vu lo hi sl Q I rx hs pl pu hw
  obtain ⟨L, h, p, r, hr, vp, e, post⟩ := hw
  unfold sliceOf at e
  split at e
  · cases e
    cases vp with
    | tup h1 h2 h3 =>
      cases rx
      obtain ⟨its, r1, t1, hz⟩ := I.tuple (TupAt.sq h1)
      have m1 := r1.length
      refine ⟨"tuple", _, slot_tuple_getitem.lookup, t1.typeIs, ?_⟩
      by_cases hw : HT.sIx its.toArray.size 0 lo = 0 ∧ HT.sIx its.toArray.size its.toArray.size hi = its.toArray.size
      · have hw' : HT.sIx its.length 0 lo = 0 ∧ HT.sIx its.length its.length hi = its.length := by simpa using hw
        rw [← m1, h3.length] at hw'
        rw [cut_whole _ _ _ hw'.1 hw'.2] at post
        exact getItem_tuple_whole t1 hs pl pu hw (ep_ref I (post.same hr (.tup h1 h2 h3)))
      · have hsz : its.toArray.size ≤ sizeLine := by rw [List.size_toArray]; omega
        refine HT.getItem_tuple_cut t1 hs pl pu hw ?_ hsz
        have e2 : its.toArray.toList = its := by simp
        have e3 : its.toArray.size = _ := List.size_toArray (as := its)
        rw [e2, e3]
        refine tup_ep I hr post (h3.cut lo hi) ?_ ?_ s.toks
        · unfold cutV
          rw [m1]
          exact (r1.drop _).take _
        · exact Nat.le_trans (cutV_length _ lo hi) hz
  · cases e
    have go : ∀ {a : Addr} {ns : List Int}, SqL X.K H a (ns.map V.int) → rSlL X.K (.ref a) lo hi H (NewL H (cutV (ns.map V.int) lo hi)) := fun hq => ⟨_, _, rfl, hq, NewL.all⟩
    cases vp with
    | scr h1 h2 => exact mk_sl (sl_list pins s σ H _ v vl vu lo hi sl _ I rx hs pl pu (go (.inl (.inr h1)))) post hr ((VRs.ofInts _).cut lo hi)
    | scrK h1 => exact mk_sl (sl_list pins s σ H _ v vl vu lo hi sl _ I rx hs pl pu (go (h1 H))) post hr ((VRs.ofInts _).cut lo hi)
  · obtain ⟨xs, ex, rfl⟩ := Option.map_eq_some_iff.mp e
    obtain ⟨a, vs, rfl, h1, h2⟩ := vp.list hr ex
    exact mk_sl (sl_list pins s σ H _ v vl vu lo hi sl _ I rx hs pl pu ⟨_, _, rfl, sqr h1, NewL.all⟩) post hr (h2.cut lo hi)
theorem tru_okP (hu : Um X) : TruR X (fun x H Q => ∃ L h p b, HR (wd X) L h H ∧ VR (wd X) L H p x ∧ tru h p = some b ∧ Q b H) := by
  intro pins s σ H x v Q I rx hw
  obtain ⟨L, h, p, b, hr, vp, e, q⟩ := hw
  unfold tru at e
  split at e
  · cases e; cases vp; exact tru_ok pins s σ H _ v Q I rx ⟨false, rfl, q⟩
  · cases e; cases vp; exact tru_ok pins s σ H _ v Q I rx ⟨_, rfl, q⟩
  · cases e; cases vp; exact tru_ok pins s σ H _ v Q I rx ⟨_, rfl, q⟩
  · split at e
    · rename_i hl
      cases e; cases vp; exact tru_ok pins s σ H _ v Q I rx ⟨_, ⟨hl, rfl⟩, q⟩
    · cases e
  · split at e
    · rename_i xs ex
      cases e
      obtain ⟨a, vs, rfl, h1, h2⟩ := vp.seq hr ex
      have he : (!xs.isEmpty) = !vs.isEmpty := by cases h2 <;> rfl
      rw [he] at q
      rcases h1 with h1 | h1
      · exact tru_ok pins s σ H _ v Q I rx ⟨_, .inl ⟨vs, sqr h1, rfl⟩, q⟩
      · exact tru_ok pins s σ H _ v Q I rx ⟨_, .inr (.inl ⟨vs, TupAt.sq h1, rfl⟩), q⟩
    · split at e
      · rename_i es ed
        cases e
        obtain ⟨a, rfl, d⟩ := vp.dict hr ed
        cases rx
        exact dict_truth I d fun s' I' => ⟨H, I', q⟩
      · cases e
/-- rules of several arguments, by what the evaluator says -/
def rBlt (X : Cx) (f : Blt) : List V → Hp → VK → Prop := fun xs H Q => ∃ L h ps r, HR (wd X) L h H ∧ VRs (wd X) L H ps xs ∧ bltop f ps h = some r ∧ Post (wd X) L H r h Q
theorem vrs1 {Z : Wd} {L : List Addr} {H : Hp} {p : PV} {xs : List V} (r : VRs Z L H [p] xs) : ∃ x, xs = [x] ∧ VR Z L H p x := by
  cases r with
  | cons h1 h2 => cases h2; exact ⟨_, rfl, h1⟩
theorem vrs2 {Z : Wd} {L : List Addr} {H : Hp} {p q : PV} {xs : List V} (r : VRs Z L H [p, q] xs) : ∃ x y, xs = [x, y] ∧ VR Z L H p x ∧ VR Z L H q y := by
  cases r with
  | cons h1 h2 =>
    obtain ⟨y, rfl, h3⟩ := vrs1 h2
    exact ⟨_, y, rfl, h1, h3⟩
theorem cr_len (hu : Um X) : CallR X (.builtin "len") (rBlt X .len) := by
  intro pins s σ H xs us Q I r hw
  obtain ⟨L, h, ps, z, hr, vv, e, post⟩ := hw
  simp only [bltop] at e
  unfold bLen at e
  split at e
  · cases vv with
    | cons h1 h2 =>
      cases h2; cases h1
      split at e
      · rename_i hl
        cases e
        exact call_len_str pins s σ H _ us Q I r ⟨_, rfl, hl, post.int hr⟩
      · cases e
  · obtain ⟨x, rfl, v⟩ := vrs1 vv
    split at e
    · rename_i ys ex
      cases e
      obtain ⟨a, vs, rfl, h1, h2⟩ := v.seq hr ex
      have hl := h2.length
      exact call_len_seq pins s σ H _ us Q I r ⟨a, vs, rfl, seq_or h1, by rw [hl]; exact post.int hr⟩
    · split at e
      · rename_i es ed
        cases e
        obtain ⟨a, rfl, d⟩ := v.dict hr ed
        obtain ⟨u, rfl, ru⟩ := r.one
        cases ru
        exact dict_len I d fun t s' I' => ⟨.int es.length, H, I', ⟨t, rfl⟩, post.int hr⟩
      · cases e
  · cases e
theorem cr_abs : CallR X (.builtin "abs") (rBlt X .abs) := by
  intro pins s σ H xs us Q I r hw
  obtain ⟨L, h, ps, z, hr, vv, e, post⟩ := hw
  simp only [bltop] at e
  unfold bAbs at e
  split at e
  · cases e
    obtain ⟨x, rfl, v⟩ := vrs1 vv
    cases v
    exact call_abs pins s σ H _ us Q I r ⟨_, rfl, post.int hr⟩
  · cases e
theorem cr_max2 (hc : X.calm = true) : CallR X (.builtin "max") (rBlt X .max2) := by
  intro pins s σ H xs us Q I r hw
  obtain ⟨L, h, ps, z, hr, vv, e, post⟩ := hw
  simp only [bltop] at e
  unfold bMax2 at e
  split at e
  · cases e
    obtain ⟨x, y, rfl, v, v'⟩ := vrs2 vv
    cases v; cases v'
    exact call_max2 hc pins s σ H _ us Q I r ⟨_, _, rfl, post.int hr⟩
  · cases e
theorem cr_min2 (hc : X.calm = true) : CallR X (.builtin "min") (rBlt X .min2) := by
  intro pins s σ H xs us Q I r hw
  obtain ⟨L, h, ps, z, hr, vv, e, post⟩ := hw
  simp only [bltop] at e
  unfold bMin2 at e
  split at e
  · cases e
    obtain ⟨x, y, rfl, v, v'⟩ := vrs2 vv
    cases v; cases v'
    exact call_min2 hc pins s σ H _ us Q I r ⟨_, _, rfl, post.int hr⟩
  · cases e
theorem cr_int : CallR X (.type "int") (rBlt X .int) := by
  intro pins s σ H xs us Q I r hw
  obtain ⟨L, h, ps, z, hr, vv, e, post⟩ := hw
  simp only [bltop] at e
  unfold bInt at e
  split at e
  · cases e
    obtain ⟨x, rfl, v⟩ := vrs1 vv
    cases v
    exact call_int1 pins s σ H _ us Q I r (.inl ⟨_, rfl, post.int hr⟩)
  · cases e
    obtain ⟨x, rfl, v⟩ := vrs1 vv
    cases v
    exact call_int1 pins s σ H _ us Q I r (.inr ⟨_, rfl, post.int hr⟩)
  · cases e
theorem tyOf_ok {Z : Wd} {L : List Addr} {H : Hp} {h : PHeap} (hr : HR Z L h H) {p : PV} {x : V} {t : String} (v : VR Z L H p x) (e : tyOf h p = some t) : TyX Z.K H x (.type t) ∧ t ∈ ["NoneType", "bool", "int", "str", "tuple", "list"] := by
  unfold tyOf at e
  split at e
  · cases e; cases v; exact ⟨.base .non, by decide⟩
  · cases e; cases v; exact ⟨.base (.bl _), by decide⟩
  · cases e; cases v; exact ⟨.base (.int _), by decide⟩
  · cases e; cases v; exact ⟨.base (.str _), by decide⟩
  · cases e
    cases v with
    | tup h1 h2 h3 =>
      obtain ⟨o, h1, _⟩ := h1
      exact ⟨.fTuple h1, by decide⟩
  · obtain ⟨xs, ex, rfl⟩ := Option.map_eq_some_iff.mp e
    obtain ⟨a, vs, rfl, h1, h2⟩ := v.list hr ex
    rcases h1 with h1 | ⟨o, h1⟩
    · exact ⟨.base (.lst h1), by decide⟩
    · exact ⟨.base (.frz h1), by decide⟩
theorem kit_all : (["NoneType", "bool", "int", "str", "tuple", "list"].all fun t => tyNames.all fun T => kitB t T == some (isTy t T)) = true := by decide +kernel
theorem kit_at {K : PySem.W.Frag} {t T : String} (ht : t ∈ ["NoneType", "bool", "int", "str", "tuple", "list"]) (hT : T ∈ tyNames) : PySem.W.kitOne K (.type t) (.type T) = some (isTy t T) := by
  have h1 := List.all_eq_true.mp kit_all t ht
  have h2 := List.all_eq_true.mp h1 T hT
  exact kit_ty (beq_iff_eq.mp h2)
theorem cr_isi (T : String) : CallR X (.builtin "isinstance") (fun xs H Q => ∃ x, xs = [x, .ty T] ∧ rBlt X (.isi T) [x] H Q) := by
  intro pins s σ H xs us Q I r hw
  obtain ⟨x, rfl, L, h, ps, z, hr, vv, e, post⟩ := hw
  simp only [bltop] at e
  unfold bIsi at e
  split at e
  · split at e
    · rename_i hT
      obtain ⟨t, et, rfl⟩ := Option.map_eq_some_iff.mp e
      obtain ⟨x', ex, v⟩ := vrs1 vv
      cases ex
      obtain ⟨ty, ht⟩ := tyOf_ok hr v et
      exact call_isi pins s σ H _ us Q I r ⟨_, _, _, _, _, rfl, .ty T, ty, kit_at ht (by simpa using hT), post.bl hr⟩
    · cases e
  · cases e
theorem kitAny_at {K : PySem.W.Frag} {t : String} (ht : t ∈ ["NoneType", "bool", "int", "str", "tuple", "list"]) : ∀ ts : List String, (∀ T ∈ ts, T ∈ tyNames) → PySem.W.kitAny K (.type t) (ts.map Value.type) = some (ts.any (isTy t))
  | [], _ => kitAny_nil
  | T :: ts, h => by
    refine kitAny_cons (kit_at ht (h T List.mem_cons_self)) (fun hb => ?_) fun hb => ?_
    · rw [List.any_cons, hb, Bool.false_or]
      exact kitAny_at ht ts fun T' h' => h T' (List.mem_cons_of_mem _ h')
    · rw [List.any_cons, hb, Bool.true_or]
theorem clsVs : ∀ ts : List String, Paired ClsV (ts.map V.ty) (ts.map Value.type)
  | [] => .nil
  | t :: ts => .cons (.ty t) (clsVs ts)
theorem cr_isiT (ts : List String) : CallR X (.builtin "isinstance") (fun xs H Q => ∃ x tp, xs = [x, .ref tp] ∧ H tp = some (.tup (ts.map V.ty)) ∧ rBlt X (.isiT ts) [x] H Q) := by
  intro pins s σ H xs us Q I r hw
  obtain ⟨x, tp, rfl, htp, L, h, ps, z, hr, vv, e, post⟩ := hw
  simp only [bltop] at e
  unfold bIsiT at e
  split at e
  · split at e
    · rename_i hT
      obtain ⟨t, et, rfl⟩ := Option.map_eq_some_iff.mp e
      obtain ⟨x', ex, v⟩ := vrs1 vv
      cases ex
      obtain ⟨ty, ht⟩ := tyOf_ok hr v et
      exact call_isiT pins s σ H _ us Q I r ⟨_, _, _, _, _, _, rfl, htp, clsVs ts, ty, kitAny_at ht ts (fun T h' => by simpa using List.all_eq_true.mp hT T h'), post.bl hr⟩
    · cases e
  · cases e

/-! ### lists, tuples made of what is walked -/
def rConv (X : Cx) (k : Cnv) (al : Bool) : List V → Hp → VK → Prop := fun xs H Q => ∃ L h p x r h', xs = [x] ∧ HR (wd X) L h H ∧ VR (wd X) L H p x ∧ convop k al p h = .ok r h' ∧ Post (wd X) L H r h' Q
/-- what is walked is a list, a tuple, or a dict's keys -/
theorem src_cases {Z : Wd} {L : List Addr} {H : Hp} {h : PHeap} (hr : HR Z L h H) {p : PV} {x : V} {ys : List PV} (v : VR Z L H p x) (e : anySrc h p = some ys) :
    (∃ a vs, x = .ref a ∧ (Rd H a (.lst vs) ∨ TupAt H a vs) ∧ VRs Z L H ys vs) ∨ ∃ a es, x = .ref a ∧ DR Z L H a es ∧ ys = es.map (·.1) := by
  obtain ⟨⟨ys', c⟩, ee, e0⟩ := Option.map_eq_some_iff.mp e
  clear e
  have e := ee
  clear ee
  cases e0
  unfold srcOf at e
  split at e
  · cases e
    cases v with
    | tup h1 h2 h3 => exact .inl ⟨_, _, rfl, .inr h1, h3⟩
  · cases e
    cases v with
    | lst h1 h2 h3 => exact .inl ⟨_, _, rfl, .inl (.inr h1), h3⟩
  · cases e
    cases v with
    | dctK h1 h2 h3 h4 => exact .inr ⟨_, _, rfl, .k (.inr h1) h3 h4, rfl⟩
    | dctT h1 h2 h0 h3 h4 h5 h6 => exact .inr ⟨_, _, rfl, .t (.inr h1) h0 h3 h4 h5 h6, rfl⟩
  · rename_i n
    cases v with
    | ref hn =>
      split at e
      · rename_i xs hc
        cases e
        obtain ⟨vs, h1, h2⟩ := hr.cell _ _ _ hc hn
        exact .inl ⟨_, vs, rfl, .inl (.inl h1), h2⟩
      · rename_i es hc
        cases e
        exact .inr ⟨_, es, rfl, DP.rd (hr.cell _ _ _ hc hn), rfl⟩
      · rename_i es hc
        cases e
        exact .inr ⟨_, es, rfl, DP.rdL (hr.cell _ _ _ hc hn), rfl⟩
      · cases e
  · cases e
end
end HW
/-! HwH: what is made of what is walked. -/
namespace HW
open PySem PySem.Spec PyProof.Rows L2

section
variable {X : Cx} {pins : List (Addr × Obj)} {σ : L2.St} {H : Hp} {s : Shared} {L : List Addr}
/-- the entries of a dict as they stand -/
structure RawD (Z : Wd) (L : List Addr) (H : Hp) (s : Shared) (a : Addr) (es : List (PV × PV)) (rs : Array DictEntry) (ep : Nat) : Prop where
  raw : s.heap.DictRaw a rs ep
  sys : (a == sysModules) = false
  size : rs.size = es.length
  few : es.length ≤ sizeLine
  keys : ∃ ks, Vals ks (rs.toList.map (·.key)) ∧ VRs Z L H (es.map (·.1)) ks
  vals : ∃ vs, Vals vs (rs.toList.map (·.val)) ∧ VRs Z L H (es.map (·.2)) vs
theorem kP_rel {Z : Wd} {L : List Addr} {H : Hp} (k : L2.Key) : VR Z L H (kP k) (kV k) := by
  cases k
  · exact .int _
  · exact .str _
theorem raw_k {es : List (PV × PV)} {kvs : List (L2.Key × V)} (hp : PKs (wd X) L H es kvs) {vs : List (L2.Key × Value)} (rel : KV kvs vs) {rs : List DictEntry} (hl : rs.length = vs.length)
    (h : ∀ i (hi : i < rs.length) k v, vs[i]? = some (k, v) → keyIs k rs[i].key = true ∧ rs[i].val = v) :
    (∃ ks, Vals ks (rs.map (·.key)) ∧ VRs (wd X) L H (es.map (·.1)) ks) ∧ ∃ us, Vals us (rs.map (·.val)) ∧ VRs (wd X) L H (es.map (·.2)) us := by
  induction rel generalizing es rs with
  | nil =>
    cases hp
    cases rs with
    | nil => exact ⟨⟨[], .nil, .nil⟩, [], .nil, .nil⟩
    | cons _ _ => simp at hl
  | cons h1 t ih =>
    rename_i p q l1 l2
    cases hp with
    | cons f1 f2 =>
      cases rs with
      | nil => simp at hl
      | cons r rs =>
        obtain ⟨⟨ks, i1, i2⟩, us, i3, i4⟩ := ih f2 (rs := rs) (by simpa using hl) fun i hi k v e => by
          have := h (i + 1) (by simpa using hi) k v (by simpa using e)
          simpa using this
        have h0 := h 0 (by simp) q.1 q.2 rfl
        simp only [List.getElem_cons_zero] at h0
        refine ⟨⟨kV q.1 :: ks, .cons (keyIs_rel h0.1) i1, .cons ?_ i2⟩, p.2 :: us, .cons ?_ i3, .cons f1.2 i4⟩
        · show VR (wd X) L H _ _
          dsimp only
          rw [f1.1, h1.1]
          exact kP_rel _
        · dsimp only
          rw [h0.2]
          exact h1.2
theorem raw_t {es : List (PV × PV)} {xs : List (NestedKey × Addr × V)} (hp : PTs_ (wd X) L H es xs) {ys : List (NestedKey × Addr × Value)} (rel : XY xs ys) :
    (∃ ks, Vals ks (ys.map fun y => Value.ref y.2.1) ∧ VRs (wd X) L H (es.map (·.1)) ks) ∧ ∃ us, Vals us (ys.map (·.2.2)) ∧ VRs (wd X) L H (es.map (·.2)) us := by
  induction rel generalizing es with
  | nil => cases hp; exact ⟨⟨[], .nil, .nil⟩, [], .nil, .nil⟩
  | cons h1 t ih =>
    rename_i p q l1 l2
    cases hp with
    | cons f1 f2 =>
      obtain ⟨⟨ks, i1, i2⟩, us, i3, i4⟩ := ih f2
      exact ⟨⟨.ref p.2.1 :: ks, .cons (by rw [h1.2.1]; rfl) i1, .cons f1.2.2.1 i2⟩, p.2.2 :: us, .cons h1.2.2 i3, .cons f1.2.2.2 i4⟩
theorem dict_raw (I : Inv X pins σ H s) {a : Addr} {es : List (PV × PV)} (d : DR (wd X) L H a es) : ∃ rs ep, RawD (wd X) L H s a es rs ep := by
  rcases d.cases with ⟨kvs, ha, hp⟩ | ⟨xs, ha, h0, hp⟩
  · obtain ⟨z, hd, vs, rel, dd⟩ := dk_rd I.hok ha
    obtain ⟨rs, ep, h1, h2, h3⟩ := dd.raw
    have e1 : es.length = kvs.length := Paired.length hp
    have e2 : kvs.length = vs.length := Paired.length rel
    obtain ⟨k1, k2⟩ := raw_k (rs := rs.toList) hp rel (by rw [Array.length_toList]; exact h2) fun i hi k v e => by
      have h4 := h3 i (by simpa using hi) k v e
      rw [Array.getElem_toList]
      exact h4
    exact ⟨rs, ep, h1, hd, by omega, by omega, k1, k2⟩
  · obtain ⟨ys, hy, h1, h2, o, rs, ep, g1, g2, g3, g4, g5, g6⟩ := dictB_raw I ha hp
    have e1 : es.length = xs.length := Paired.length hp
    have e2 : xs.length = ys.length := Paired.length hy
    have e3 : rs.size = ys.length := by rw [← Array.length_toList, g4, List.length_map]
    obtain ⟨k1, k2⟩ := raw_t hp hy
    refine ⟨rs, ep, ⟨o, g1, g2, g3⟩, h2, by omega, by omega, ?_, ?_⟩
    · rw [g4, List.map_map]; exact k1
    · rw [g4, List.map_map]; exact k2
/-- what collect gives -/
abbrev ColR (X : Cx) (s : Shared) (L : List Addr) (H : Hp) (v : Value) (ys : List PV) : Prop :=
  ∀ (A : Around) (E : Value → Shared → Prop) (R : List Value → Shared → Prop), A.handled = none →
    (∀ h' tk acc vs, (∀ b o, s.heap.get? b = some o → h'.get? b = some o) → Vals vs acc → VRs (wd X) L H ys vs → acc.length ≤ sizeLine → R acc { s with heap := h', toks := tk }) → wpAny (model X.prog X.w) A (collect v) R E s
theorem col_seq (I : Inv X pins σ H s) {a : Addr} {vs : List V} {ys : List PV} (hq : Rd H a (.lst vs) ∨ TupAt H a vs) (v : VRs (wd X) L H ys vs) : ColR X s L H (.ref a) ys := by
  intro A E R hh h
  rcases hq with hq | hq
  · obtain ⟨its, rv, ⟨o, n, ho, hc, _, hd⟩, hz⟩ := I.list (sqr hq)
    have hl := rv.length
    refine wpAny_collect_seq (hsz := by rw [List.size_toArray]; omega) a (.inl rfl) ho hc hd fun h' hk => ?_
    exact h h' s.toks its vs hk rv v (by omega)
  · obtain ⟨its, rv, ⟨o, ho, hc, n, hd⟩, hz⟩ := I.tuple (TupAt.sq hq)
    have hl := rv.length
    refine wpAny_collect_seq (hsz := by rw [List.size_toArray]; omega) a (.inr rfl) ho hc hd fun h' hk => ?_
    exact h h' s.toks its vs hk rv v (by omega)
theorem col_kdl {P : Program} {w : World} {A : Around} {E : Value → Shared → Prop} {T : String} {r d : Addr} {n : Nat} {G : Nat → Value → Prop} {OK : Heap → Prop} {R : List Value → Shared → Prop} (K : PySem.W.KdlSrc P w T r d n G OK) (hh : A.handled = none) (hok : OK s.heap) (hn : n ≤ sizeLine)
    (h : ∀ h' tk (acc : Array Value), (∀ b o, s.heap.get? b = some o → h'.get? b = some o) → ItemsOf G acc n → R acc.toList { s with heap := h', toks := tk }) : wpAny (model P w) A (collect (.ref r)) R E s := by
  have hlt := K.there _ hok
  unfold collect
  refine wpAny_bind (wpAny_runValue (codeAny_builtin PySem.F.entry_proto_collect ?_))
  rw [Around.under_plainId PySem.F.plain_proto_collect _]
  refine wpAny_bind (wpAny_newObj_type ?_)
  refine wpAny_pure ⟨plainId_quiet PySem.F.plain_list_iadd _, codeAny_builtin PySem.F.entry_list_iadd ?_⟩
  rw [Around.under_plainId PySem.F.plain_list_iadd _]
  have new : (s.heap.push { cls := .type "list", data := .seq ([] : List Value).toArray }).get? s.heap.objs.size = some { cls := .type "list", data := .seq #[] 0 } := Heap.get?_push_size _ rfl
  have key := PySem.W.kdl_extend (A := A) (s := { s with heap := s.heap.push { cls := .type "list", data := .seq ([] : List Value).toArray } })
    (R := fun rr s' => rr = .ok (.ret (.ref s.heap.objs.size)) ∧ ∃ (h' : Heap) (tk : Nat) (acc : Array Value) (c' : Nat), s' = { s with heap := h', toks := tk } ∧ (∀ b o, s.heap.get? b = some o → h'.get? b = some o) ∧
      h'.get? s.heap.objs.size = some { cls := .type "list", dict := none, data := .seq acc c', slots := #[] } ∧ ItemsOf G acc n)
    K hh (K.keep _ _ hok fun b _ o e => Heap.get?_push_of_some _ e) s.heap.objs.size (Nat.ne_of_gt hlt.1) (Nat.ne_of_gt hlt.2) (.ref s.heap.objs.size) 0 new
    (fun h' tk acc c' hk e hi => ⟨rfl, h', tk, acc, c', rfl, fun b o q => hk b o (Nat.ne_of_lt (Heap.lt_size q)) (Heap.get?_push_of_some _ q), e, hi⟩) hn
  refine wpAny_mono key (fun fin s' hf => ?_) fun e s' hf => ?_
  · cases fin with
    | done f =>
      obtain ⟨e, h', tk, acc, c', rfl, hk, hS', hi⟩ := hf
      cases e
      show wpAny _ A (load s.heap.objs.size >>= _) _ _ _
      exact wpAny_bind (wpAny_load hS' (wpAny_pure (h h' tk acc hk hi)))
    | again c' =>
      obtain ⟨q1, q2⟩ := hf
      refine ⟨q1, codeAny_mono q2 fun rr s'' hr' => ?_⟩
      obtain ⟨rfl, h', tk, acc, c', rfl, hk, hS', hi⟩ := hr'
      show wpAny _ A (load s.heap.objs.size >>= _) _ _ _
      exact wpAny_bind (wpAny_load hS' (wpAny_pure (h h' tk acc hk hi)))
  · cases hf.1
theorem keys_items {rs : Array DictEntry} {acc : Array Value} (hi : ItemsOf (fun i v => ∃ hi : i < rs.size, v = rs[i].key) acc rs.size) : acc.toList = rs.toList.map (·.key) := by
  refine List.ext_getElem? fun j => ?_
  rw [List.getElem?_map, Array.getElem?_toList, Array.getElem?_toList]
  cases hj : acc[j]? with
  | none =>
    have h1 : acc.size ≤ j := Array.getElem?_eq_none_iff.mp hj
    rw [Array.getElem?_eq_none (by rw [← hi.1]; exact h1)]
    rfl
  | some v =>
    obtain ⟨hj2, e⟩ := hi.2 j v hj
    rw [Array.getElem?_eq_getElem hj2, e]
    rfl
theorem col_dict (I : Inv X pins σ H s) {a : Addr} {es : List (PV × PV)} (d : DR (wd X) L H a es) : ColR X s L H (.ref a) (es.map (·.1)) := by
  intro A E R hh h
  obtain ⟨rs, ep, r⟩ := dict_raw I d
  refine col_kdl (PySem.KdlSrc.rawDict r.sys) hh r.raw (by rw [r.size]; exact r.few) fun h' tk acc hk hi => ?_
  obtain ⟨ks, k1, k2⟩ := r.keys
  refine h h' tk acc.toList ks hk (by rw [keys_items hi]; exact k1) k2 ?_
  rw [keys_items hi, List.length_map, Array.length_toList, r.size]
  exact r.few
end
end HW
/-! HwI: sorted, list, tuple, sum and such of what is walked. -/
namespace HW
open PySem PySem.Spec PyProof.Rows L2
open PySem.W (EachIs AllAlike Sortable dataLe)

mutual
theorem reads_lt {h : Heap} : ∀ (p : PV) (d : PyData) (v : Value) (as : List Addr), toD p = some d → Reads h v d as → ∀ b ∈ as, b < h.objs.size
  | .non, _, _, _, e, r, b, hb => by cases e; cases r; cases hb
  | .bl _, _, _, _, e, r, b, hb => by cases e; cases r; cases hb
  | .int _, _, _, _, e, r, b, hb => by cases e; cases r; cases hb
  | .str _, _, _, _, e, r, b, hb => by cases e; cases r; cases hb
  | .lst xs, _, _, _, e, r, b, hb => by
    rw [toD] at e
    obtain ⟨ds, e1, rfl⟩ := Option.map_eq_some_iff.mp e
    cases r with
    | list h1 h2 h3 h4 =>
      rcases List.mem_cons.mp hb with rfl | hb
      · exact Heap.lt_size h1
      · exact readsAll_lt xs _ _ _ e1 h4 b hb
  | .tup xs, _, _, _, e, r, b, hb => by
    rw [toD] at e
    obtain ⟨ds, e1, rfl⟩ := Option.map_eq_some_iff.mp e
    cases r with
    | tuple h1 h2 h3 h4 => exact readsAll_lt xs _ _ _ e1 h4 b hb
  | .dct _, _, _, _, e, _, _, _ => by simp [toD] at e
  | .scr _, _, _, _, e, _, _, _ => by simp [toD] at e
  | .ref _, _, _, _, e, _, _, _ => by simp [toD] at e
theorem readsAll_lt {h : Heap} : ∀ (ps : List PV) (ds : List PyData) (vs : List Value) (as : List Addr), toDs ps = some ds → ReadsAll h vs ds as → ∀ b ∈ as, b < h.objs.size
  | [], _, _, _, e, r, b, hb => by cases e; cases r; cases hb
  | p :: ps, _, _, _, e, r, b, hb => by
    rw [toDs] at e
    split at e
    · rename_i d ds e1 e2
      cases e
      cases r with
      | cons h1 h2 =>
        rcases List.mem_append.mp hb with hb | hb
        · exact reads_lt p d _ _ e1 h1 b hb
        · exact readsAll_lt ps ds _ _ e2 h2 b hb
    · cases e
end
theorem toDs_map : ∀ {xs : List PV} {ds : List PyData}, toDs xs = some ds → ds = xs.map dOf ∧ ∀ p ∈ xs, toD p = some (dOf p)
  | [], _, e => by cases e; exact ⟨rfl, fun p hp => by cases hp⟩
  | x :: xs, _, e => by
    rw [toDs] at e
    split at e
    · rename_i d ds e1 e2
      cases e
      obtain ⟨h1, h2⟩ := toDs_map e2
      have e3 : dOf x = d := by unfold dOf; rw [e1]; rfl
      refine ⟨by rw [List.map_cons, e3, ← h1], fun p hp => ?_⟩
      rcases List.mem_cons.mp hp with rfl | hp
      · rw [e3]; exact e1
      · exact h2 p hp
    · cases e
theorem sortOk_facts {xs : List PV} (h : sortOk xs = true) : (∀ p ∈ xs, toD p = some (dOf p)) ∧ AllAlike (xs.map dOf) ∧ Sortable (xs.map dOf) ∧ ∀ p ∈ xs, (dOf p).depth ≤ 32 := by
  unfold sortOk at h
  split at h
  · rename_i ds e
    obtain ⟨rfl, h1⟩ := toDs_map e
    simp only [Bool.and_eq_true, Bool.or_eq_true] at h
    obtain ⟨⟨h2, h3⟩, h4⟩ := h
    refine ⟨h1, fun d hd d' hd' => ?_, ?_, fun p hp => ?_⟩
    · exact List.all_eq_true.mp (List.all_eq_true.mp h2 d hd) d' hd'
    · rcases h4 with h4 | h4
      · refine .inl fun d hd => ?_
        have := List.all_eq_true.mp h4 d hd
        cases d with
        | tuple ys =>
          cases ys with
          | nil => simp at this
          | cons y ys => exact ⟨y, ys, rfl⟩
        | _ => simp at this
      · refine .inr fun d hd => ?_
        have := List.all_eq_true.mp h4 d hd
        cases d <;> simp at this ⊢
    · exact of_decide_eq_true (List.all_eq_true.mp h3 _ (List.mem_map.mpr ⟨p, hp, rfl⟩))
  · cases h
/-- the model's values of evaluator's values, one by one -/
theorem each_of {Z : Wd} {L : List Addr} {H : Hp} : ∀ {ps : List PV} {vs : List V} {us : List Value}, VRs Z L H ps vs → Vals vs us → EachIs (fun u p => ∃ x, RelV x u ∧ VR Z L H p x) us ps
  | _, _, _, .nil, .nil => .nil
  | _, _, _, .cons h1 h2, .cons r1 r2 => .cons ⟨_, r1, h1⟩ (each_of h2 r2)
theorem of_each {Z : Wd} {L : List Addr} {H : Hp} : ∀ {us : List Value} {ps : List PV}, EachIs (fun u p => ∃ x, RelV x u ∧ VR Z L H p x) us ps → ∃ vs, Vals vs us ∧ VRs Z L H ps vs
  | _, _, .nil => ⟨[], .nil, .nil⟩
  | _, _, .cons ⟨x, h1, h2⟩ t => by
    obtain ⟨vs, h3, h4⟩ := of_each t
    exact ⟨x :: vs, .cons h1 h3, .cons h2 h4⟩
section
variable {X : Cx} {pins : List (Addr × Obj)} {σ : L2.St} {H : Hp} {s : Shared} {L : List Addr}
theorem each_reads (I : Inv X pins σ H s) {h' : Heap} (hk : ∀ b o, s.heap.get? b = some o → h'.get? b = some o) {us : List Value} : ∀ {ps : List PV}, (∀ p ∈ ps, toD p = some (dOf p)) → EachIs (fun u p => ∃ x, RelV x u ∧ VR (wd X) L H p x) us ps → ∀ {a : Addr}, s.heap.objs.size ≤ a →
    EachIs (fun v b => ∃ as, Reads h' v (dOf b) as ∧ a ∉ as) us ps := by
  intro ps hd e a ha
  induction e with
  | nil => exact .nil
  | cons h1 _ ih =>
    rename_i u p _ _ _
    refine .cons ?_ (ih fun q hq => hd q (List.mem_cons_of_mem _ hq))
    obtain ⟨x, r1, r2⟩ := h1
    have e1 := hd p List.mem_cons_self
    obtain ⟨as, r3⟩ := Dp.reads I (dOf p) x u (r2.dp _ _ _ e1) r1
    refine ⟨as, PyProof.Rows.Reads.keeps hk r3, fun q => ?_⟩
    have := reads_lt p _ _ _ e1 r3 a q
    exact absurd (Nat.lt_of_lt_of_le this ha) (Nat.lt_irrefl _)
theorem sortV_len (ys : List PV) : (sortV ys).length = ys.length := by unfold sortV; exact List.length_mergeSort _
/-- sorted(v), v anything that gives ys -/
theorem sorted_col (hc : X.calm = true) (hu : Um X) (I : Inv X pins σ H s) {v : Value} {ys : List PV} (col : ColR X s L H v ys) (ok : sortOk ys = true) {Q : VK} (hf : ∀ p vs, H p = none → VRs (wd X) L H (sortV ys) vs → Q (.ref p) (upd H p (.lst vs))) :
    wpAny (model X.prog X.w) X.A (call (.builtin "sorted") [v]) (EP X pins σ Q) X.xe s := by
  obtain ⟨hD, hA, hS, hDp⟩ := sortOk_facts ok
  refine Calls.call_function_entry kind_sorted plain_sorted entry_sorted (args_sorted1 _) ?_
  unfold Builtin.«sorted»
  refine wpAny_bind (m := checkCount "sorted" 1 1 _) (wpAny_pure ?_)
  have hh : X.A.in1.handled = none := I.ok.hd hc
  refine wpAny_bind (col X.A.in1 _ _ hh fun h' tk acc vs hk rv vv hl => ?_)
  refine wpAny_bind (wpAny_newList ?_ hl)
  have I1 : Inv X pins σ H { s with heap := h', toks := tk } := I.kept hk
  have hk2 : ∀ b o, h'.get? b = some o → (h'.push { cls := .type "list", data := .seq acc.toArray }).get? b = some o := fun b o e => Heap.get?_push_of_some _ e
  have e1 := each_of vv rv
  have hn : H h'.objs.size = none := I1.hok.fresh (Nat.le_refl _)
  have hat : (h'.push { cls := .type "list", data := .seq acc.toArray }).get? h'.objs.size = some (seqObj "list" acc.toArray 0) := Heap.get?_push_size _ rfl
  refine wpAny_bind (wpAny_holding (PySem.W.list_sort_data (A := X.A.in1) (s := { s with heap := h'.push { cls := .type "list", data := .seq acc.toArray }, toks := tk }) hat e1 (each_reads I1 hk2 hD e1 (Nat.le_refl _)) hA hS (by rw [← vv.length, rv.length]; exact hl) (fun p hp => ?_) fun out ho eo => ?_))
  · have h1 := hDp p hp
    have h2 : X.A.units + 100 < cLine := hu
    rw [Around.in1_units]
    omega
  · refine wpAny_pure ⟨_, rfl, ?_⟩
    obtain ⟨ws, rw1, rw2⟩ := of_each eo
    obtain ⟨e', he'⟩ := PyProof.Rows.sortedHeap_at (vs := acc) (out := out.toArray) hat
    have hlen : ws.length ≤ sizeLine := by rw [rw1.length, ho, ← vv.length, rv.length]; exact hl
    refine ⟨.ref h'.objs.size, upd H h'.objs.size (.lst ws), I1.laid (t' := tk) (fun b o e => ?_) (Nat.le_refl _) ⟨hlen, out, e', rw1, he'⟩, rfl, hf _ ws hn rw2⟩
    have hb : b < h'.objs.size := Heap.lt_size e
    rw [PyProof.Rows.sortedHeap_old (Nat.ne_of_lt hb) (Heap.lt_size (hk2 b o e))]
    exact hk2 b o e
theorem cr_sortedP (hc : X.calm = true) (hu : Um X) (al : Bool) : CallR X (.builtin "sorted") (rConv X .sorted al) := by
  intro pins s σ H xs us Q I r hw
  obtain ⟨L, h, p, x, z, h', rfl, hr, v, e, post⟩ := hw
  simp only [convop] at e
  obtain ⟨ys, es, e2⟩ := R.of_bind e
  split at e2
  · rename_i ok
    obtain ⟨u, rfl, ru⟩ := r.one
    have fin : ColR X s L H u ys → wpAny (model X.prog X.w) X.A (call (.builtin "sorted") [u]) (EP X pins σ Q) X.xe s := fun col => thn (sorted_col hc hu I col ok (Q := fun x H' => ∃ p vs, x = .ref p ∧ H p = none ∧ VRs (wd X) L H (sortV ys) vs ∧ H' = upd H p (.lst vs)) fun p vs hp vv => ⟨p, vs, rfl, hp, vv, rfl⟩) fun u' s' ⟨x', H', I', rx', p', vs, ex, hp, vv, eH⟩ => by
      subst ex eH
      cases rx'
      exact mk_ep I' hp e2 post hr vv
    rcases src_cases hr v es with ⟨a, vs, rfl, h1, h2⟩ | ⟨a, es', rfl, d, rfl⟩
    · cases ru; exact fin (col_seq I h1 h2)
    · cases ru; exact fin (col_dict I d)
  · cases e2
theorem cr_list (hc : X.calm = true) (al : Bool) : CallR X (.type "list") (rConv X .list al) := by
  intro pins s σ H xs us Q I r hw
  obtain ⟨L, h, p, x, z, h', rfl, hr, v, e, post⟩ := hw
  simp only [convop] at e
  obtain ⟨ys, es, e2⟩ := R.of_bind e
  rcases src_cases hr v es with ⟨a, vs, rfl, h1, h2⟩ | ⟨a, es', rfl, d, rfl⟩
  · exact mk_wp (call_list_of pins s σ H _ us _ I r ⟨_, _, rfl, seq_or h1, NewL.all⟩) e2 post hr h2
  · obtain ⟨u, rfl, ru⟩ := r.one
    cases ru
    obtain ⟨rs, ep, rd⟩ := dict_raw I d
    refine PySem.W.kdl_call (PySem.KdlSrc.rawDict rd.sys) (I.ok.hd hc) rd.raw (by have := rd.size; have := rd.few; omega) fun h' tk acc c kp ea hi => ?_
    obtain ⟨ks, k1, k2⟩ := rd.keys
    have ek := keys_items hi
    have rv : Vals ks acc.toList := by rw [ek]; exact k1
    have hz : ks.length ≤ sizeLine := by rw [k2.length, List.length_map]; exact rd.few
    exact mk_ep (I.laid (t' := tk) (o := .lst ks) kp (Nat.le_refl _) ⟨hz, acc.toList, c, rv, by rw [Array.toArray_toList]; exact ea⟩) (I.hok.fresh (Nat.le_refl _)) e2 post hr k2
theorem cr_tuple (al : Bool) : CallR X (.type "tuple") (rConv X .tuple al) := by
  intro pins s σ H xs us Q I r hw
  obtain ⟨L, h, p, x, z, h', rfl, hr, v, e, post⟩ := hw
  simp only [convop] at e
  obtain ⟨ys, es, e2⟩ := R.of_bind e
  cases e2
  obtain ⟨a, vs, rfl, h1, h2⟩ := v.seq hr es
  obtain ⟨u, rfl, ru⟩ := r.one
  cases ru
  rcases h1 with h1 | h1
  · obtain ⟨its, r', pl, hz⟩ := I.list (sqr h1)
    have hlen := r'.length
    refine call_tuple_list pl.isList (fun h' kp => ?_) (by rw [List.size_toArray]; omega)
    have I1 : Inv X pins σ H { s with heap := h' } := I.kept (t' := s.toks) kp
    exact tup_ep I1 hr post h2 r' hz s.toks
  · obtain ⟨its, r', pl, hz⟩ := I.tuple h1.sq
    unfold asSeq at es
    split at es
    · cases es
      cases v with
      | tup k1 k2 k3 => exact call_tuple_same pl (ep_ref I (post.same hr (.tup k1 k2 k3)))
    · obtain ⟨b, ws, e1, e2, e3⟩ := v.list hr es
      cases e1
      obtain ⟨o, h1, _⟩ := h1
      rcases e2 with e2 | ⟨o', e2⟩ <;> (rw [h1] at e2; cases e2)
theorem cr_sumP (hc : X.calm = true) (al : Bool) : CallR X (.builtin "sum") (rConv X .sum al) := by
  intro pins s σ H xs us Q I r hw
  obtain ⟨L, h, p, x, z, h', rfl, hr, v, e, post⟩ := hw
  simp only [convop] at e
  obtain ⟨e, rfl⟩ := R.of_eq_ok e
  obtain ⟨ys, ex, e⟩ := Option.bind_eq_some_iff.mp e
  obtain ⟨ns, en, rfl⟩ := Option.map_eq_some_iff.mp e
  obtain ⟨a, vs, rfl, h1, h2⟩ := v.list hr ex
  cases h2.ints en
  exact cr_sum hc pins s σ H _ us Q I r ⟨a, ns, rfl, sqr h1, post.int hr⟩
theorem cr_allP (hc : X.calm = true) (al : Bool) : CallR X (.builtin "all") (rConv X .all al) := by
  intro pins s σ H xs us Q I r hw
  obtain ⟨L, h, p, x, z, h', rfl, hr, v, e, post⟩ := hw
  simp only [convop] at e
  obtain ⟨e, rfl⟩ := R.of_eq_ok e
  obtain ⟨ys, ex, e⟩ := Option.bind_eq_some_iff.mp e
  obtain ⟨ns, en, rfl⟩ := Option.map_eq_some_iff.mp e
  obtain ⟨a, vs, rfl, h1, h2⟩ := v.list hr ex
  cases h2.bools en
  exact cr_all hc pins s σ H _ us Q I r ⟨a, ns, rfl, sqr h1, post.bl hr⟩
theorem cr_anyP (hc : X.calm = true) (al : Bool) : CallR X (.builtin "any") (rConv X .any al) := by
  intro pins s σ H xs us Q I r hw
  obtain ⟨L, h, p, x, z, h', rfl, hr, v, e, post⟩ := hw
  simp only [convop] at e
  obtain ⟨e, rfl⟩ := R.of_eq_ok e
  obtain ⟨ys, ex, e⟩ := Option.bind_eq_some_iff.mp e
  obtain ⟨ns, en, rfl⟩ := Option.map_eq_some_iff.mp e
  obtain ⟨a, vs, rfl, h1, h2⟩ := v.list hr ex
  cases h2.bools en
  exact cr_any hc pins s σ H _ us Q I r ⟨a, ns, rfl, sqr h1, post.bl hr⟩
theorem foldl_max : ∀ (xs : List Int) (x : Int), (xs.foldl (fun a b => if b > a then b else a) x = x ∨ xs.foldl (fun a b => if b > a then b else a) x ∈ xs) ∧ x ≤ xs.foldl (fun a b => if b > a then b else a) x ∧ ∀ y ∈ xs, y ≤ xs.foldl (fun a b => if b > a then b else a) x
  | [], x => ⟨.inl rfl, Int.le_refl _, fun y hy => by cases hy⟩
  | y :: ys, x => by
    rw [List.foldl_cons]
    obtain ⟨h1, h2, h3⟩ := foldl_max ys (if y > x then y else x)
    refine ⟨?_, ?_, fun z hz => ?_⟩
    · rcases h1 with h1 | h1
      · by_cases hy : y > x
        · rw [if_pos hy] at h1 ⊢; exact .inr (by rw [h1]; exact List.mem_cons_self)
        · rw [if_neg hy] at h1 ⊢; exact .inl h1
      · exact .inr (List.mem_cons_of_mem _ h1)
    · refine Int.le_trans ?_ h2
      split <;> omega
    · rcases List.mem_cons.mp hz with rfl | hz
      · refine Int.le_trans ?_ h2
        split <;> omega
      · exact h3 z hz
theorem foldl_min : ∀ (xs : List Int) (x : Int), (xs.foldl (fun a b => if b < a then b else a) x = x ∨ xs.foldl (fun a b => if b < a then b else a) x ∈ xs) ∧ xs.foldl (fun a b => if b < a then b else a) x ≤ x ∧ ∀ y ∈ xs, xs.foldl (fun a b => if b < a then b else a) x ≤ y
  | [], x => ⟨.inl rfl, Int.le_refl _, fun y hy => by cases hy⟩
  | y :: ys, x => by
    rw [List.foldl_cons]
    obtain ⟨h1, h2, h3⟩ := foldl_min ys (if y < x then y else x)
    refine ⟨?_, ?_, fun z hz => ?_⟩
    · rcases h1 with h1 | h1
      · by_cases hy : y < x
        · rw [if_pos hy] at h1 ⊢; exact .inr (by rw [h1]; exact List.mem_cons_self)
        · rw [if_neg hy] at h1 ⊢; exact .inl h1
      · exact .inr (List.mem_cons_of_mem _ h1)
    · refine Int.le_trans h2 ?_
      split <;> omega
    · rcases List.mem_cons.mp hz with rfl | hz
      · refine Int.le_trans h2 ?_
        split <;> omega
      · exact h3 z hz
theorem maxI_is {ns : List Int} {m k : Int} (e : maxI ns = some m) (h1 : k ∈ ns) (h2 : ∀ y ∈ ns, y ≤ k) : k = m := by
  cases ns with
  | nil => cases e
  | cons x xs =>
    simp only [maxI, Option.some.injEq] at e
    obtain ⟨g1, g2, g3⟩ := foldl_max xs x
    rw [e] at g1 g2 g3
    have hm : m ∈ x :: xs := by
      rcases g1 with g1 | g1
      · rw [g1]; exact List.mem_cons_self
      · exact List.mem_cons_of_mem _ g1
    have a1 := h2 m hm
    have a2 : k ≤ m := by
      rcases List.mem_cons.mp h1 with rfl | h1
      · exact g2
      · exact g3 k h1
    omega
theorem minI_is {ns : List Int} {m k : Int} (e : minI ns = some m) (h1 : k ∈ ns) (h2 : ∀ y ∈ ns, k ≤ y) : k = m := by
  cases ns with
  | nil => cases e
  | cons x xs =>
    simp only [minI, Option.some.injEq] at e
    obtain ⟨g1, g2, g3⟩ := foldl_min xs x
    rw [e] at g1 g2 g3
    have hm : m ∈ x :: xs := by
      rcases g1 with g1 | g1
      · rw [g1]; exact List.mem_cons_self
      · exact List.mem_cons_of_mem _ g1
    have a1 := h2 m hm
    have a2 : m ≤ k := by
      rcases List.mem_cons.mp h1 with rfl | h1
      · exact g2
      · exact g3 k h1
    omega
theorem cr_maxP (hc : X.calm = true) (al : Bool) : CallR X (.builtin "max") (rConv X .max al) := by
  intro pins s σ H xs us Q I r hw
  obtain ⟨L, h, p, x, z, h', rfl, hr, v, e, post⟩ := hw
  simp only [convop] at e
  obtain ⟨e, rfl⟩ := R.of_eq_ok e
  obtain ⟨ys, ex, e⟩ := Option.bind_eq_some_iff.mp e
  obtain ⟨m, em, rfl⟩ := Option.map_eq_some_iff.mp e
  obtain ⟨ns, en, em⟩ := Option.bind_eq_some_iff.mp em
  obtain ⟨a, vs, rfl, h1, h2⟩ := v.list hr ex
  cases h2.ints en
  refine cr_max hc pins s σ H _ us Q I r ⟨a, ns, rfl, sqr h1, ?_, fun k k1 k2 => ?_⟩
  · cases ns with
    | nil => cases em
    | cons _ _ => exact Nat.succ_pos _
  · rw [maxI_is em k1 k2]; exact post.int hr
theorem cr_minP (hc : X.calm = true) (al : Bool) : CallR X (.builtin "min") (rConv X .min al) := by
  intro pins s σ H xs us Q I r hw
  obtain ⟨L, h, p, x, z, h', rfl, hr, v, e, post⟩ := hw
  simp only [convop] at e
  obtain ⟨e, rfl⟩ := R.of_eq_ok e
  obtain ⟨ys, ex, e⟩ := Option.bind_eq_some_iff.mp e
  obtain ⟨m, em, rfl⟩ := Option.map_eq_some_iff.mp e
  obtain ⟨ns, en, em⟩ := Option.bind_eq_some_iff.mp em
  obtain ⟨a, vs, rfl, h1, h2⟩ := v.list hr ex
  cases h2.ints en
  refine cr_min hc pins s σ H _ us Q I r ⟨a, ns, rfl, sqr h1, ?_, fun k k1 k2 => ?_⟩
  · cases ns with
    | nil => cases em
    | cons _ _ => exact Nat.succ_pos _
  · rw [minI_is em k1 k2]; exact post.int hr
end
end HW
/-! HwJ: dict(pairs). -/
namespace HW
open PySem PySem.Spec PyProof.Rows L2

theorem keyVT {p : PV} (h1 : keyV p = true) (h2 : keyT p = true) : False := by
  obtain ⟨_, _, rfl, _⟩ := keyT_toN h2
  simp [keyV] at h1
theorem dPut_all {f : PV → Bool} {es : List (PV × PV)} {k v : PV} (h : (es.all fun e => f e.1) = true) (hk : f k = true) : ((dPut es k v).all fun e => f e.1) = true := by
  unfold dPut
  split
  · rw [List.all_map]
    refine List.all_eq_true.mpr fun e he => ?_
    have := List.all_eq_true.mp h e he
    simp only [Function.comp_def]
    split <;> exact this
  · rw [List.all_append, h]
    simp [hk]
theorem putAll_v : ∀ {ps es es' : List (PV × PV)}, putAll es ps = some es' → es ≠ [] → (es.all fun e => keyV e.1) = true → (ps.all fun e => keyV e.1) = true
  | [], _, _, _, _, _ => rfl
  | (k, v) :: r, es, es', h, h0, h1 => by
    rw [putAll] at h
    split at h
    · rename_i hc
      rw [Bool.and_eq_true] at hc
      have hk : keyV k = true := by
        have := hc.1
        unfold keyOk at this
        rw [Bool.or_eq_true, Bool.and_eq_true, Bool.and_eq_true] at this
        rcases this with ⟨a, _⟩ | ⟨_, b⟩
        · exact a
        · cases es with
          | nil => exact absurd rfl h0
          | cons e es =>
            rw [List.all_cons, Bool.and_eq_true] at h1 b
            exact (keyVT h1.1 b.1).elim
      rw [List.all_cons, hk, putAll_v h (dPut_ne _ _ _) (dPut_all (f := keyV) h1 hk)]
      rfl
    · cases h
theorem putAll_t : ∀ {ps es es' : List (PV × PV)}, putAll es ps = some es' → es ≠ [] → (es.all fun e => keyT e.1) = true → (ps.all fun e => keyT e.1) = true
  | [], _, _, _, _, _ => rfl
  | (k, v) :: r, es, es', h, h0, h1 => by
    rw [putAll] at h
    split at h
    · rename_i hc
      rw [Bool.and_eq_true] at hc
      have hk : keyT k = true := by
        have := hc.1
        unfold keyOk at this
        rw [Bool.or_eq_true, Bool.and_eq_true, Bool.and_eq_true] at this
        rcases this with ⟨_, b⟩ | ⟨a, _⟩
        · cases es with
          | nil => exact absurd rfl h0
          | cons e es =>
            rw [List.all_cons, Bool.and_eq_true] at h1 b
            exact (keyVT b.1 h1.1).elim
        · exact a
      rw [List.all_cons, hk, putAll_t h (dPut_ne _ _ _) (dPut_all (f := keyT) h1 hk)]
      rfl
    · cases h
theorem putAll_cases {ps es' : List (PV × PV)} (h : putAll [] ps = some es') : (ps.all fun e => keyV e.1) = true ∨ ((ps.all fun e => keyT e.1) = true ∧ ps ≠ []) := by
  cases ps with
  | nil => exact .inl rfl
  | cons e r =>
    obtain ⟨k, v⟩ := e
    rw [putAll] at h
    split at h
    · rename_i hc
      rw [Bool.and_eq_true] at hc
      have := hc.1
      unfold keyOk at this
      rw [Bool.or_eq_true, Bool.and_eq_true, Bool.and_eq_true] at this
      rcases this with ⟨a, _⟩ | ⟨a, _⟩
      · refine .inl ?_
        rw [List.all_cons, a, putAll_v h (dPut_ne _ _ _) (dPut_all (f := keyV) rfl a)]
        rfl
      · refine .inr ⟨?_, by simp⟩
        rw [List.all_cons, a, putAll_t h (dPut_ne _ _ _) (dPut_all (f := keyT) rfl a)]
        rfl
    · cases h
theorem putAll_fold : ∀ {ps es es' : List (PV × PV)}, putAll es ps = some es' → es' = ps.foldl (fun e p => dPut e p.1 p.2) es
  | [], _, _, h => by rw [putAll] at h; cases h; rfl
  | (k, v) :: r, es, es', h => by
    rw [putAll] at h
    split at h
    · rw [List.foldl_cons]; exact putAll_fold h
    · cases h
theorem foldPut_ne : ∀ (ps es : List (PV × PV)), es ≠ [] → ps.foldl (fun e p => dPut e p.1 p.2) es ≠ []
  | [], _, h => h
  | p :: r, es, _ => by rw [List.foldl_cons]; exact foldPut_ne r _ (dPut_ne _ _ _)
section
variable {Z : Wd} {L : List Addr} {H : Hp}
theorem pks_fold {ps : List (PV × PV)} {qs : List (L2.Key × V)} (r : PKs Z L H ps qs) : ∀ {es : List (PV × PV)} {kvs : List (L2.Key × V)}, PKs Z L H es kvs → PKs Z L H (ps.foldl (fun e p => dPut e p.1 p.2) es) (mergeK kvs qs) := by
  induction r with
  | nil => exact fun h => h
  | cons h1 _ ih =>
    intro es kvs h
    rw [List.foldl_cons]
    show PKs Z L H _ (mergeK (putK kvs _ _) _)
    refine ih ?_
    rw [h1.1]
    exact h.put _ h1.2
def foldT (xs qs : List (NestedKey × Addr × V)) : List (NestedKey × Addr × V) := qs.foldl (fun a q => storedT a q.1 q.2.1 q.2.2) xs
theorem pts_fold {ps : List (PV × PV)} {qs : List (NestedKey × Addr × V)} (r : PTs_ Z L H ps qs) : ∀ {es : List (PV × PV)} {xs : List (NestedKey × Addr × V)}, PTs_ Z L H es xs → PTs_ Z L H (ps.foldl (fun e p => dPut e p.1 p.2) es) (foldT xs qs) := by
  induction r with
  | nil => exact fun h => h
  | cons h1 _ ih =>
    intro es xs h
    rw [List.foldl_cons]
    unfold foldT
    rw [List.foldl_cons]
    exact ih (h.put h1.1 h1.2.1 h1.2.2.1 h1.2.2.2)
theorem xy_fold {qs : List (NestedKey × Addr × V)} {rs : List (NestedKey × Addr × Value)} (r : XY qs rs) : ∀ {xs : List (NestedKey × Addr × V)} {ys : List (NestedKey × Addr × Value)}, XY xs ys → XY (foldT xs qs) (storedAllH ys rs) := by
  induction r with
  | nil => exact fun h => h
  | cons h1 _ ih =>
    intro xs ys h
    unfold foldT storedAllH
    rw [List.foldl_cons, List.foldl_cons]
    refine ih ?_
    rw [h1.1, h1.2.1]
    exact stored_ys h _ _ h1.2.2
theorem foldT_len : ∀ (qs xs : List (NestedKey × Addr × V)), (foldT xs qs).length ≤ xs.length + qs.length
  | [], _ => Nat.le_refl _
  | q :: qs, xs => by
    unfold foldT
    rw [List.foldl_cons]
    have h1 := foldT_len qs (storedT xs q.1 q.2.1 q.2.2)
    have h2 := storedT_len xs q.1 q.2.1 q.2.2
    unfold foldT at h1
    rw [List.length_cons]
    omega
end
/-- the pairs that a list or tuple holds -/
structure PrR (Z : Wd) (L : List Addr) (H : Hp) (g : Heap) (p : PV × PV) (q : Addr × (V × Value) × (V × Value)) : Prop where
  k : VR Z L H p.1 q.2.1.1
  v : VR Z L H p.2 q.2.2.1
  rk : RelV q.2.1.1 q.2.1.2
  rv : RelV q.2.2.1 q.2.2.2
  at_ : PairAt g q.1 q.2.1.2 q.2.2.2
section
variable {X : Cx} {pins : List (Addr × Obj)} {σ : L2.St} {H : Hp} {s : Shared} {L : List Addr}
theorem pairs_at (I : Inv X pins σ H s) : ∀ {xs : List PV} {ps : List (PV × PV)} {vs : List V} {us : List Value}, xs.mapM pairOf = some ps → VRs (wd X) L H xs vs → Vals vs us →
    ∃ qs, us = qs.map (fun q => Value.ref q.1) ∧ Paired (PrR (wd X) L H s.heap) ps qs
  | [], _, _, _, e, .nil, .nil => by
    cases e
    exact ⟨[], rfl, .nil⟩
  | x :: xs, ps, _, _, e, .cons h1 h2, .cons r1 r2 => by
    rw [List.mapM_cons] at e
    obtain ⟨p, e1, e⟩ := Option.bind_eq_some_iff.mp e
    obtain ⟨ps', e2, e⟩ := Option.bind_eq_some_iff.mp e
    cases e
    obtain ⟨qs, rfl, q2⟩ := pairs_at I e2 h2 r2
    unfold pairOf at e1
    split at e1
    · cases e1
      cases h1 with
      | tup t1 t2 t3 =>
        cases r1
        obtain ⟨its, rv, ⟨o, ho, hc, n, hd⟩, _⟩ := I.tuple t1.sq
        obtain ⟨a, b, rfl, va, vb⟩ := vrs2 t3
        obtain ⟨u, w, rfl, ra, rb⟩ := rv.two
        exact ⟨(_, (a, u), (b, w)) :: qs, rfl, .cons ⟨va, vb, ra, rb, .inl ⟨o, ho, hc, n, hd⟩⟩ q2⟩
    · cases e1
theorem keysK : ∀ {ps : List (PV × PV)} {qs : List (Addr × (V × Value) × (V × Value))}, (ps.all fun e => keyV e.1) = true → Paired (PrR (wd X) L H s.heap) ps qs →
    ∃ (kvs : List (L2.Key × V)) (rs : List (L2.Key × Value)), PKs (wd X) L H ps kvs ∧ KV kvs rs ∧ rs.length = qs.length ∧ ∀ (i : Nat) (key v : Value), (qs.map fun q => (q.2.1.2, q.2.2.2))[i]? = some (key, v) → ∃ k, rs[i]? = some (k, v) ∧ (mixKind X.prog X.w).is k key = true
  | _, _, _, .nil => ⟨[], [], .nil, .nil, rfl, fun i key v e => by simp at e⟩
  | p :: ps, q :: qs, h, .cons h1 h2 => by
    rw [List.all_cons, Bool.and_eq_true] at h
    obtain ⟨kvs, rs, g1, g2, g3, g4⟩ := keysK h.2 h2
    obtain ⟨k, ek⟩ := keyV_kP h.1
    have hk := h1.k
    have hr := h1.rk
    rw [ek] at hk
    have e1 : q.2.1.1 = kV k := by
      generalize q.2.1.1 = y at hk
      cases k <;> (cases hk; rfl)
    rw [e1] at hr
    refine ⟨(k, q.2.2.1) :: kvs, (k, q.2.2.2) :: rs, .cons ⟨ek, h1.v⟩ g1, .cons ⟨rfl, h1.rv⟩ g2, by simp [g3], fun i key v e => ?_⟩
    cases i with
    | zero =>
      simp only [List.map_cons, List.getElem?_cons_zero, Option.some.injEq, Prod.mk.injEq] at e
      obtain ⟨rfl, rfl⟩ := e
      exact ⟨k, rfl, kV_is hr⟩
    | succ i =>
      simp only [List.map_cons, List.getElem?_cons_succ] at e ⊢
      exact g4 i key v e
theorem keysT (I : Inv X pins σ H s) : ∀ {ps : List (PV × PV)} {qs : List (Addr × (V × Value) × (V × Value))}, (ps.all fun e => keyT e.1) = true → Paired (PrR (wd X) L H s.heap) ps qs →
    ∃ (xs : List (NestedKey × Addr × V)) (ys : List (NestedKey × Addr × Value)), PTs_ (wd X) L H ps xs ∧ XY xs ys ∧ ys.length = qs.length ∧ ∀ (i : Nat) (key v : Value), (qs.map fun q => (q.2.1.2, q.2.2.2))[i]? = some (key, v) → ∃ (k : NestedKey) (b : Addr), ys[i]? = some (k, b, v) ∧ key = Value.ref b
  | _, _, _, .nil => ⟨[], [], .nil, .nil, rfl, fun i key v e => by simp at e⟩
  | p :: ps, q :: qs, h, .cons h1 h2 => by
    rw [List.all_cons, Bool.and_eq_true] at h
    obtain ⟨kvs, rs, g1, g2, g3, g4⟩ := keysT I h.2 h2
    obtain ⟨zs, k, ek, hk, hd⟩ := keyT_toN h.1
    have hv := h1.k
    have hr := h1.rk
    rw [ek] at hv
    obtain ⟨b, e1⟩ : ∃ b, q.2.1.1 = V.ref b := by
      generalize q.2.1.1 = y at hv
      cases hv
      exact ⟨_, rfl⟩
    rw [e1] at hr hv
    have e2 : q.2.1.2 = .ref b := hr
    refine ⟨(k, b, q.2.2.1) :: kvs, (k, b, q.2.2.2) :: rs, .cons ⟨h.1, hk, by rw [ek]; exact hv, h1.v⟩ g1, .cons ⟨rfl, rfl, h1.rv⟩ g2, by simp [g3], fun i key v e => ?_⟩
    cases i with
    | zero =>
      simp only [List.map_cons, List.getElem?_cons_zero, Option.some.injEq, Prod.mk.injEq] at e
      obtain ⟨rfl, rfl⟩ := e
      exact ⟨k, b, rfl, e2⟩
    | succ i =>
      simp only [List.map_cons, List.getElem?_cons_succ] at e ⊢
      exact g4 i key v e
/-- a new dict, live or fixed -/
theorem ep_dict {X : Cx} {pins : List (Addr × Obj)} {σ : L2.St} {s : Shared} {H : Hp} {L : List Addr} {h h' : PHeap} {al : Bool} {es : List (PV × PV)} {r : PV} {Q : VK} {h2 : Heap} {tk : Nat} {o : HO} (I : Inv X pins σ H s) (e : mkDict al es h = .ok r h') (post : Post (wd X) L H r h' Q) (hr : HR (wd X) L h H)
    (k2 : ∀ b o, s.heap.get? b = some o → h2.get? b = some o) (hob : ∃ ob, h2.get? s.heap.objs.size = some ob) (new : ∀ H', ObjOk X.prog X.w H' h2 s.heap.objs.size o)
    (d : ∀ L' o', Ext L H L' (upd H s.heap.objs.size o') → ∀ W : HO → Prop, W o → DP (wd X) L' (upd H s.heap.objs.size o') s.heap.objs.size W es) : EP X pins σ Q (.ref s.heap.objs.size) { s with heap := h2, toks := tk } := by
  have hn : H s.heap.objs.size = none := I.hok.fresh (Nat.le_refl _)
  unfold mkDict at e
  cases al with
  | false =>
    simp only [Bool.false_eq_true, if_false, R.ok.injEq] at e
    obtain ⟨rfl, rfl⟩ := e
    obtain ⟨ob, hob⟩ := hob
    refine ⟨.ref s.heap.objs.size, _, I.laid (t' := tk) k2 (Nat.le_refl _) (o := .frz ob o) ⟨hob, new _⟩, rfl, ?_⟩
    refine post _ _ _ (ext_new hn) (hr.new hn) ?_
    cases d L (.frz ob o) (ext_new hn) (FzAt (upd H s.heap.objs.size (.frz ob o)) s.heap.objs.size) ⟨ob, upd_same⟩ with
    | k h1 h2 h3 => exact .dctK h1 (hr.free hn) h2 h3
    | t h1 h0 h2 h3 h4 h5 => exact .dctT h1 (hr.free hn) h0 h2 h3 h4 h5
  | true =>
    simp only [if_true, R.ok.injEq] at e
    obtain ⟨rfl, rfl⟩ := e
    refine ⟨.ref s.heap.objs.size, _, I.laid (t' := tk) k2 (Nat.le_refl _) (o := o) (new _), rfl, ?_⟩
    refine post _ _ _ (ext_live hn) (hr.live hn (d _ _ (ext_live hn) _ upd_same)) (.ref ?_)
    rw [← hr.len]
    simp
theorem pairItems {g : Heap} {ps : List (PV × PV)} {qs : List (Addr × (V × Value) × (V × Value))} (r : Paired (PrR (wd X) L H g) ps qs) : PairItems g (qs.map (fun q => Value.ref q.1)).toArray (fun j => (qs[j]?.map (·.1)).getD 0) (qs.map fun q => (q.2.1.2, q.2.2.2)) := by
  refine ⟨by simp, fun j k v e => ?_⟩
  rw [List.getElem?_map] at e
  obtain ⟨q, hq, e2⟩ := Option.map_eq_some_iff.mp e
  cases e2
  refine ⟨by simp [hq], ?_⟩
  dsimp only
  rw [hq]
  have : ∀ {ps : List (PV × PV)} {qs : List (Addr × (V × Value) × (V × Value))} {j : Nat}, Paired (PrR (wd X) L H g) ps qs → qs[j]? = some q → PairAt g q.1 q.2.1.2 q.2.2.2 := by
    intro ps qs j r
    induction r generalizing j with
    | nil => intro e; simp at e
    | cons h1 _ ih =>
      intro e
      cases j with
      | zero => simp only [List.getElem?_cons_zero, Option.some.injEq] at e; subst e; exact h1.at_
      | succ j => exact ih (by simpa using e)
  exact this r hq
theorem dict_of (hc : X.calm = true) (hu : Um X) (I : Inv X pins σ H s) {T : String} {a : Addr} {fp : List Addr} {OK : Heap → Prop} {ps es : List (PV × PV)} {qs : List (Addr × (V × Value) × (V × Value))} {Q : VK} {h h' : PHeap} {al : Bool} {z : PV} (hr : HR (wd X) L h H)
    (P : PairArg X.prog X.w T a fp [] (qs.map fun q => (q.2.1.2, q.2.2.2)).length (PairRel (qs.map fun q => (q.2.1.2, q.2.2.2))) OK) (ok : OK s.heap) (r : Paired (PrR (wd X) L H s.heap) ps qs) (hl : qs.length ≤ sizeLine)
    (e : putAll [] ps = some es) (e2 : mkDict al es h = .ok z h') (post : Post (wd X) L H z h' Q) : wpAny (model X.prog X.w) X.A (call (.type "dict") [.ref a]) (EP X pins σ Q) X.xe s := by
  have hh := I.ok.hd hc
  have ef := putAll_fold e
  have hn : H s.heap.objs.size = none := I.hok.fresh (Nat.le_refl _)
  have hs : (s.heap.objs.size == sysModules) = false := by
    rw [beq_eq_false_iff_ne]
    exact Nat.ne_of_gt I.big
  rcases putAll_cases e with hk | ⟨hk, h0⟩
  · obtain ⟨kvs, rs, g1, g2, g3, g4⟩ := keysK hk r
    have e3 : kvs.length = rs.length := Paired.length g2
    refine call_dict_pairs (knd := mixKind X.prog X.w) (kvs := rs) P hh ok ⟨by rw [g3, List.length_map], g4⟩ (by rw [List.length_map]; exact hl) fun h2 tk dd kk => ?_
    have k2 : ∀ b o, s.heap.get? b = some o → h2.get? b = some o := fun b o x => kk b o (by simp) x
    have hz : (mergeK [] kvs).length ≤ sizeLine := by
      have := length_mergeK kvs []
      simp only [List.length_nil, Nat.zero_add] at this
      omega
    refine ep_dict I e2 post hr k2 (let ⟨q, _, _, hq, _⟩ := id dd; ⟨q, hq⟩) (fun _ => dk_new hz hs (KV.merge g2 (.nil : KV ([] : List (L2.Key × V)) [])) dd) fun L' o' ex W hW => ?_
    rw [ef]
    exact DP.ofK hW (Paired.mapP (pks_fold g1 (.nil)) fun a b ⟨q1, q2⟩ => ⟨q1, q2.mono ex⟩)
  · obtain ⟨xs, ys, g1, g2, g3, g4⟩ := keysT I hk r
    have e3 : xs.length = ys.length := Paired.length g2
    have room : (nestedKind X.prog X.w).room X.A.in1.in1 := by
      show X.A.in1.in1.units + 8 < cLine
      rw [Around.in1_units, Around.in1_units]
      have : X.A.units + 100 < cLine := hu
      omega
    have keys := ys_keys I g1 g2
    refine call_dict_pairsH (knd := nestedKind X.prog X.w) (ps := ys) P hh room ok ⟨by rw [g3, List.length_map], g4⟩ (fun g hg x hx => ?_) (by rw [List.length_map]; exact hl) fun h2 tk dd kk => ?_
    · refine nestedKind_stays.stays (fun b o vs n ho hd => hg b o (fun z => ?_) (by simp) ho) (keys x hx)
      rw [z] at ho
      exact absurd (Heap.lt_size ho) (Nat.lt_irrefl _)
    · have k2 : ∀ b o, s.heap.get? b = some o → h2.get? b = some o := fun b o x => kk b o (by simp) x
      have hz : (foldT [] xs).length ≤ sizeLine := by
        have := foldT_len xs []
        simp only [List.length_nil, Nat.zero_add] at this
        omega
      refine ep_dict I e2 post hr k2 (let ⟨q, _, _, hq, _⟩ := id dd; ⟨q, hq⟩) (fun _ => dictB_ok (X := X) (xy_fold g2 .nil) hz hs dd) fun L' o' ex W hW => ?_
      have hne : es ≠ [] := by
        rw [ef]
        cases ps with
        | nil => exact absurd rfl h0
        | cons p ps => rw [List.foldl_cons]; exact foldPut_ne _ _ (dPut_ne _ _ _)
      refine DP.ofT hW hne ?_
      rw [ef]
      exact Paired.mapP (pts_fold g1 .nil) fun a b ⟨q1, q2, q3, q4⟩ => ⟨q1, q2, q3.mono ex, q4.mono ex⟩
theorem cr_dict (hc : X.calm = true) (hu : Um X) (al : Bool) : CallR X (.type "dict") (rConv X .dict al) := by
  intro pins s σ H xs us Q I r hw
  obtain ⟨L, h, p, x, z, h', rfl, hr, v, e, post⟩ := hw
  simp only [convop] at e
  obtain ⟨es, e1, e2⟩ := R.of_bind e
  obtain ⟨ys, ey, e1⟩ := Option.bind_eq_some_iff.mp e1
  obtain ⟨ps, ep, e1⟩ := Option.bind_eq_some_iff.mp e1
  obtain ⟨a, vs, rfl, h1, h2⟩ := v.seq hr ey
  obtain ⟨u, rfl, ru⟩ := r.one
  cases ru
  rcases h1 with h1 | ⟨o, h1, hd⟩
  · obtain ⟨its, rv, ⟨o, n, ho, hc', hd, hdat⟩, hz⟩ := I.list (sqr h1)
    obtain ⟨qs, rfl, hq⟩ := pairs_at I ep h2 rv
    have hl := rv.length
    rw [List.length_map] at hl
    exact dict_of hc hu I hr (PairArg.list a _ _ _) ⟨⟨o, n, ho, hc', hd, hdat⟩, pairItems hq⟩ hq (by omega) e1 e2 post
  · obtain ⟨ho, hz, its, rv, ⟨o', ho', hc', n, hdat⟩⟩ := I.hok a _ h1
    rw [ho] at ho'; cases ho'
    obtain ⟨qs, rfl, hq⟩ := pairs_at I ep h2 rv
    have hl := rv.length
    rw [List.length_map] at hl
    exact dict_of hc hu I hr (PairArg.tuple a _ _ _) ⟨⟨o, n, ho, hc', hd, hdat⟩, pairItems hq⟩ hq (by omega) e1 e2 post
end
end HW
/-! HwK: sets, made and sorted at once. -/
namespace HW
open PySem PySem.Spec PyProof.Rows L2

/-- a set that was just made -/
abbrev setO (w : World) : Obj := { cls := .type "set", dict := none, data := .set #[] 0 (.fresh 0 0 (!w.params.followText "set-order")) }
section
variable {P : Program} {w : World} {A : Around} {E : Value → Shared → Prop} {s : Shared}
/-- what the filling of a new set must come to: from the state s1, the set at S empty, the items walked at I -/
def SetLoop (P : Program) (w : World) (A : Around) (s : Shared) (l : Addr) (items : Array Value) (Good : Heap → Prop) : Prop :=
  ∀ (I : Addr) (St : Nat → Heap → Prop) (s1 : Shared) (R : Result → Shared → Prop), I = s.heap.objs.size + 1 → Walks P w A.in1.in1.in1 I [I, l] [I] items.size (fun i v => items[i]? = some v) St → St 0 s1.heap →
    (∀ b o, s.heap.get? b = some o → s1.heap.get? b = some o) → s1.heap.get? s.heap.objs.size = some (setO w) → (∀ s', Moved (s.heap.objs.size :: [I]) (fun a b => b = a) s1 s' → Good s'.heap → R (.ok (.ret .none)) s') →
    codeAny (model P w) A.in1.in1 (.builtin "set.update.loop" ⟨[.ref s.heap.objs.size, .ref I], []⟩) R s1
set_option maxHeartbeats 3200000 in
theorem set_made {l : Addr} {items : Array Value} {Good : Heap → Prop} {Q : Value → Shared → Prop} (hh : A.handled = none) (src : s.heap.IsList l items ∨ s.heap.IsTuple l items) (loop : SetLoop P w A s l items Good)
    (h : ∀ (h' : Heap) (tk : Nat), Good h' → (∀ b o, s.heap.get? b = some o → h'.get? b = some o) → Q (.ref s.heap.objs.size) { s with heap := h', toks := tk }) :
    wpAny (model P w) A (call (.type "set") [.ref l]) Q E s := by
  obtain ⟨c, tl, hmro⟩ := PySem.F.called_set.mro
  have hmade := PySem.F.called_set.made
  have hsub := PySem.F.called_set.sub
  refine wpAny_call (codeAny_of_tree ?_)
  show wpAny _ _ (callAny (.type "set") _) _ _ _
  refine wpAny_pure ⟨Code.quiet_builtin _ (by decide +kernel), codeAny_builtin PySem.F.entry_type_call ?_⟩
  rw [Around.under_plain (weight_type_call_type "set" [.ref l] []) rfl]
  have h1 := PySem.F.called_set.notType
  have h2 := PySem.F.called_set.canCreate
  have hct := PySem.F.typeCall_set_1 (.ref l)
  repeat (any_goals (first | assumption | wp_step))
  refine codeAny_mono (code_set_led1 (.ref l) (E := E) (Q₁ := fun obj s₁ => obj = .ref s.heap.objs.size ∧ s₁ = { s with heap := s.heap.push (setO w) }) ⟨rfl, rfl⟩) fun r s₁ hr => ?_
  cases r with
  | error e => exact hr
  | ok fl =>
    cases fl with
    | ret obj =>
      obtain ⟨rfl, rfl⟩ := hr
      have new : (s.heap.push (setO w)).get? s.heap.objs.size = some (setO w) := Heap.get?_push_size _ rfl
      have hT : Shared.TypeIs { s with heap := s.heap.push (setO w) } (.ref s.heap.objs.size) "set" := ⟨_, new, rfl⟩
      have hli := PySem.F.called_set.init.lookup
      have hbi := PySem.F.called_set.init.bind (.ref s.heap.objs.size)
      repeat (any_goals (first | assumption | wp_step))
      refine codeAny_mono (codeAny_call_builtin (R := wants (fun r s₂ => r = .none ∧ ∃ h' tk, s₂ = { s with heap := h', toks := tk } ∧ Good h' ∧ (∀ b o, s.heap.get? b = some o → h'.get? b = some o)) E)
        PySem.F.called_set.init.plain PySem.F.entry_set_init (check_set_init_1 hT ?_)) fun r₂ s₂ hr₂ => ?_
      · rcases src with src | src
        · obtain ⟨ol, hol, hcl, nl, hdl⟩ := src
          obtain ⟨ocls, odict, odata, oslots⟩ := ol
          simp only at hcl hdl
          subst hcl
          subst hdl
          have hol' : (s.heap.push (setO w)).get? l = some { cls := .type "list", dict := odict, data := .seq items nl, slots := oslots } := Heap.get?_push_of_some _ hol
          have hsls := PySem.F.sub_list_set
          have hslf := PySem.F.sub_list_frozenset
          have hne : (Value.type "list" == Value.type "dict") = false := by decide
          have hl1 : (s.heap.push (setO w)).IsList l items := ⟨_, hol', rfl, nl, rfl⟩
          unfold Builtin.«set.__init__» noKeywords Builtin.Frozenset.updateFrom
          generalize hPI : pyIter = PI
          wp_walk
          subst hPI
          refine wpAny_pyIter_list hl1 ?_
          refine wpAny_bind (wpAny_runValue ?_)
          have hlS : l < s.heap.objs.size := Heap.lt_size hol
          have hh3 : A.in1.in1.in1.handled = none := by simp [hh]
          have hz1 : (s.heap.push (setO w)).objs.size = s.heap.objs.size + 1 := Heap.size_push ..
          have hneI : l ≠ (s.heap.push (setO w)).objs.size := by
            rw [hz1]
            exact Nat.ne_of_lt (Nat.lt_succ_of_lt hlS)
          refine loop _ _ _ _ hz1 (Walks.list hh3 _ l hneI items) ⟨⟨_, Heap.get?_push_size _ rfl, rfl, rfl⟩, hl1.push _⟩ (fun b o e => Heap.get?_push_of_some _ (Heap.get?_push_of_some _ e)) (Heap.get?_push_of_some _ new) fun s' hm hg => ?_
          obtain ⟨h', g2, d', tk', os'⟩ := s'
          have eg : g2 = s.gens := hm.gens
          have ed : d' = s.drawn := hm.drawn
          have eo : os' = s.os := hm.os
          subst eg
          subst ed
          subst eo
          show wpAny _ _ _ _ _ _
          refine wpAny_pure ?_
          show wpAny _ _ (ret Value.none) _ _ _
          refine wpAny_pure ⟨rfl, h', tk', rfl, hg, fun b o e => ?_⟩
          have hb0 : b < s.heap.objs.size := Heap.lt_size e
          refine hm.heap b o ?_ (Heap.get?_push_of_some _ (Heap.get?_push_of_some _ e))
          simp only [List.mem_cons, List.mem_singleton, List.not_mem_nil, or_false, not_or]
          exact ⟨Nat.ne_of_lt hb0, by rw [hz1]; exact Nat.ne_of_lt (Nat.lt_succ_of_lt hb0)⟩
        · obtain ⟨ol, hol, hcl, nl, hdl⟩ := src
          obtain ⟨ocls, odict, odata, oslots⟩ := ol
          simp only at hcl hdl
          subst hcl
          subst hdl
          have hol' : (s.heap.push (setO w)).get? l = some { cls := .type "tuple", dict := odict, data := .seq items nl, slots := oslots } := Heap.get?_push_of_some _ hol
          have hsls := PySem.F.sub_tuple_set
          have hslf := PySem.F.sub_tuple_frozenset
          have hne : (Value.type "tuple" == Value.type "dict") = false := by decide
          have hl1 : (s.heap.push (setO w)).IsTuple l items := ⟨_, hol', rfl, nl, rfl⟩
          unfold Builtin.«set.__init__» noKeywords Builtin.Frozenset.updateFrom
          generalize hPI : pyIter = PI
          wp_walk
          subst hPI
          refine wpAny_pyIter_tuple hl1 ?_
          refine wpAny_bind (wpAny_runValue ?_)
          have hlS : l < s.heap.objs.size := Heap.lt_size hol
          have hh3 : A.in1.in1.in1.handled = none := by simp [hh]
          have hz1 : (s.heap.push (setO w)).objs.size = s.heap.objs.size + 1 := Heap.size_push ..
          have hneI : l ≠ (s.heap.push (setO w)).objs.size := by
            rw [hz1]
            exact Nat.ne_of_lt (Nat.lt_succ_of_lt hlS)
          refine loop _ _ _ _ hz1 (Walks.tuple hh3 _ l hneI items) ⟨⟨_, Heap.get?_push_size _ rfl, rfl, rfl⟩, hl1.push _⟩ (fun b o e => Heap.get?_push_of_some _ (Heap.get?_push_of_some _ e)) (Heap.get?_push_of_some _ new) fun s' hm hg => ?_
          obtain ⟨h', g2, d', tk', os'⟩ := s'
          have eg : g2 = s.gens := hm.gens
          have ed : d' = s.drawn := hm.drawn
          have eo : os' = s.os := hm.os
          subst eg
          subst ed
          subst eo
          show wpAny _ _ _ _ _ _
          refine wpAny_pure ?_
          show wpAny _ _ (ret Value.none) _ _ _
          refine wpAny_pure ⟨rfl, h', tk', rfl, hg, fun b o e => ?_⟩
          have hb0 : b < s.heap.objs.size := Heap.lt_size e
          refine hm.heap b o ?_ (Heap.get?_push_of_some _ (Heap.get?_push_of_some _ e))
          simp only [List.mem_cons, List.mem_singleton, List.not_mem_nil, or_false, not_or]
          exact ⟨Nat.ne_of_lt hb0, by rw [hz1]; exact Nat.ne_of_lt (Nat.lt_succ_of_lt hb0)⟩
      · cases r₂ with
        | error e => exact hr₂
        | ok fl₂ =>
          cases fl₂ with
          | ret r =>
            obtain ⟨rfl, h', tk, rfl, hg, hk'⟩ := hr₂
            repeat (any_goals (first | assumption | wp_step))
            exact h _ _ hg hk'
          | _ => exact hr₂.elim
    | _ => exact hr.elim
end
end HW
/-! HwL: readings by the evaluator; plain expressions. -/
namespace HW
open PySem PySem.Spec PyProof.Rows L2

def rE (X : Cx) (f : Env → PHeap → R PV) : TE := fun σ H Q => ∃ L h env v h', HR (wd X) L h H ∧ ER (wd X) L H env σ ∧ f env h = .ok v h' ∧ Post (wd X) L H v h' Q
def rT (X : Cx) (f : Env → PHeap → R Bool) : TT := fun σ H Q => ∃ L h env b h', HR (wd X) L h H ∧ ER (wd X) L H env σ ∧ f env h = .ok b h' ∧ PostH (wd X) L H h' (Q b)
def rA (X : Cx) (f : Env → PHeap → R (List PV)) : TA := fun σ H Q => ∃ L h env vs h', HR (wd X) L h H ∧ ER (wd X) L H env σ ∧ f env h = .ok vs h' ∧ ∀ xs L' H', Ext L H L' H' → HR (wd X) L' h' H' → VRs (wd X) L' H' vs xs → Q xs H'
def rO (X : Cx) (f : Env → PHeap → R (Option Int)) : TO := fun σ H Q => ∃ L h env o h', HR (wd X) L h H ∧ ER (wd X) L H env σ ∧ f env h = .ok o h' ∧ PostH (wd X) L H h' (Q o)
theorem imE {X : Cx} {e : Expr} {t t' : TE} (h : PE X e t) (i : ∀ σ H Q, t' σ H Q → t σ H Q) : PE X e t' := ⟨fun pins s σ H Q I q => h.run pins s σ H Q I (i σ H Q q)⟩
theorem imT {X : Cx} {e : Expr} {t t' : TT} (h : PT X e t) (i : ∀ σ H Q, t' σ H Q → t σ H Q) : PT X e t' := ⟨fun pins s σ H Q I q => h.run pins s σ H Q I (i σ H Q q)⟩
theorem imW {X : Cx} {e : Expr} {t t' : TT} (h : PW X e t) (i : ∀ σ H Q, t' σ H Q → t σ H Q) : PW X e t' := ⟨fun wh pins s σ H Q I q => h.run wh pins s σ H Q I (i σ H Q q)⟩
theorem imA {X : Cx} {e : List Expr} {t t' : TA} (h : PA X e t) (i : ∀ σ H Q, t' σ H Q → t σ H Q) : PA X e t' := ⟨fun pos pins s σ H Q I q => h.run pos pins s σ H Q I (i σ H Q q)⟩
theorem imO {X : Cx} {e : Option Expr} {t t' : TO} (h : PO X e t) (i : ∀ σ H Q, t' σ H Q → t σ H Q) : PO X e t' := ⟨fun pins s σ H Q I q => h.run pins s σ H Q I (i σ H Q q)⟩
section
variable {Z : Wd} {L L' : List Addr} {H H' : Hp} {h h' : PHeap}
theorem Post.aft {v : PV} {Q : VK} (p : Post Z L H v h' Q) (r : HR Z L h H) (e : Ext L H L' H') : Post Z L' H' v h' Q := fun x L2 H2 e2 r2 v2 => p x L2 H2 (e.tr r e2) r2 v2
theorem PostH.aft {Q : Hp → Prop} (p : PostH Z L H h' Q) (r : HR Z L h H) (e : Ext L H L' H') : PostH Z L' H' h' Q := fun L2 H2 e2 r2 => p L2 H2 (e.tr r e2) r2
end
section
variable {X : Cx} {σ : L2.St} {H : Hp} {Q : VK} {f g k : Env → PHeap → R PV}
/-- one, two, three values in a row -/
theorem rE1 {F : PV → PHeap → R PV} {k : V → Hp → Prop} (q : rE X (fun env h => (f env h).bind F) σ H Q)
    (hk : ∀ x L H h p r h', HR (wd X) L h H → VR (wd X) L H p x → F p h = .ok r h' → Post (wd X) L H r h' Q → k x H) : rE X f σ H k := by
  obtain ⟨L, h, env, v, h', hr, er, e, post⟩ := q
  obtain ⟨p, h1, e1, e2⟩ := R.bind_eq_ok e
  exact ⟨L, h, env, p, h1, hr, er, e1, fun x L1 H1 x1 hr1 v1 => hk x L1 H1 h1 p v h' hr1 v1 e2 (post.aft hr x1)⟩
theorem rE2 {F : PV → PV → PHeap → R PV} {k : V → V → Hp → Prop} (q : rE X (fun env h => (f env h).bind fun x h => (g env h).bind fun y h => F x y h) σ H Q)
    (hk : ∀ x y L H h p p' r h', HR (wd X) L h H → VR (wd X) L H p x → VR (wd X) L H p' y → F p p' h = .ok r h' → Post (wd X) L H r h' Q → k x y H) : rE X f σ H fun x H1 => rE X g σ H1 fun y H2 => k x y H2 := by
  obtain ⟨L, h, env, v, h', hr, er, e, post⟩ := q
  obtain ⟨p, h1, e1, e2⟩ := R.bind_eq_ok e
  obtain ⟨p', h2, e3, e4⟩ := R.bind_eq_ok e2
  exact ⟨L, h, env, p, h1, hr, er, e1, fun x L1 H1 x1 hr1 v1 => ⟨L1, h1, env, p', h2, hr1, er.mono x1, e3, fun y L2 H2 x2 hr2 v2 => hk x y L2 H2 h2 p p' v h' hr2 (v1.mono x2) v2 e4 (post.aft hr (x1.tr hr x2))⟩⟩
end
section
variable {X : Cx} {a b c : Expr} {f g k : Env → PHeap → R PV} {fs : Env → PHeap → R (List PV)} {pos : Pos}
theorem se_var {i : Nat} {x : Str} (hN : X.N[i]? = some x) (hv : Vis X.env.scope x) (hd : (x == ("__debug__" : Str)) = false) (hcd : (x == ("__classdict__" : Str)) = false) : PE X (.Name x pos) (rE X fun env h => match env[i]? with
    | some (some v) => .ok v h
    | _ => .bad) := imE (pe_var hN hv hd hcd) fun σ H Q ⟨L, h, env, v, h', hr, er, e, post⟩ => by
  dsimp only at e
  split at e
  · rename_i u hu
    cases e
    obtain ⟨x, h1, h2⟩ := er.at_ _ _ hu
    exact ⟨x, h1, post.same hr h2⟩
  · cases e
/-- a constant's value -/
def cOk : PV → Option V
  | .non => some .non
  | .bl b => some (.bl b)
  | .int i => some (.int i)
  | .str s => some (.str s)
  | _ => none
theorem cOk_vr {Z : Wd} {L : List Addr} {H : Hp} {p : PV} {v : V} (h : cOk p = some v) : VR Z L H p v := by
  cases p <;> simp [cOk] at h <;> subst h <;> constructor
theorem se_c {p : PV} {v : V} (hc : cOk p = some v) (h : PE X a (tC v)) : PE X a (rE X fun _ h => .ok p h) := imE h fun σ H Q ⟨L, h, env, v', h', hr, er, e, post⟩ => by
  cases e
  exact post.same hr (cOk_vr hc)
theorem se_bin {op : BOp} (ha : PE X a (rE X f)) (hb : PE X b (rE X g)) : PE X (.BinOp a (pyB op) b pos) (rE X fun env h => (f env h).bind fun x h => (g env h).bind fun y h => R.of (binop op x y h) h) :=
  imE (pe_op (op_bin op) ha hb) fun σ H Q q => rE2 q fun x y L H h p p' r h' hr v1 v2 e post => by
    obtain ⟨e, rfl⟩ := R.of_eq_ok e
    exact ⟨L, _, p, p', r, hr, v1, v2, e, post⟩
theorem se_neg (ha : PE X a (rE X f)) : PE X (.UnaryOp .USub a pos) (rE X fun env h => (f env h).bind fun x h => R.of ((intOf x).map fun i => .int (-i)) h) :=
  imE (pe_un (op := .USub) (r := rU fun i => .int (-i)) (fun pins s σ H x v Q I rx h => by
    obtain ⟨i, rfl, q⟩ := h
    obtain ⟨t, rfl⟩ := rx
    exact neg_int ⟨.int (-i), H, I.tok _, ⟨_, rfl⟩, q⟩) ha) fun σ H Q q => rE1 q fun x L H h p r h' hr v1 e post => by
    obtain ⟨e, rfl⟩ := R.of_eq_ok e
    cases v1 with
    | int i =>
      cases e
      exact ⟨i, rfl, post.int hr⟩
    | _ => simp [intOf] at e
theorem se_cmp (hu : Um X) {op : COp} (ha : PE X a (rE X f)) (hb : PE X b (rE X g)) (hm : behindInMarks (pyC op) b = false) : PE X (.Compare a [pyC op] [b] pos) (rE X fun env h => (f env h).bind fun x h => (g env h).bind fun y h => R.of ((cmpop op x y h).map .bl) h) := by
  refine ⟨fun pins s σ H Q I q => wpAny_Compare1 ?_ hm⟩
  refine binT (R := fun x y H => rCmp X op x y H Q) ha hb I (rE2 q fun x y L H h p p' r h' hr v1 v2 e post => ?_) fun v u s2 x y H2 I2 rx ry q => op_cmp hu op pins s2 σ H2 x y v u Q I2 rx ry q
  obtain ⟨e, rfl⟩ := R.of_eq_ok e
  obtain ⟨t, e9, rfl⟩ := Option.map_eq_some_iff.mp e
  exact ⟨L, _, p, p', t, hr, v1, v2, e9, post⟩
theorem se_ix (ha : PE X a (rE X f)) (hb : PE X b (rE X g)) (hs : PlainIx b) (hu : Um X) : PE X (.Subscript a b pos) (rE X fun env h => (f env h).bind fun x h => (g env h).bind fun y h => R.of (itemOf h x y) h) :=
  imE (pe_ix (ix_item hu) ha hb hs) fun σ H Q q => rE2 q fun x y L H h p p' r h' hr v1 v2 e post => by
    obtain ⟨e, rfl⟩ := R.of_eq_ok e
    exact ⟨L, _, p, p', r, hr, v1, v2, e, post⟩
/-- the truth of a value -/
def dTr (f : Env → PHeap → R PV) (env : Env) (h : PHeap) : R Bool := (f env h).bind fun v h => R.of (tru h v) h
theorem st_plain (hu : Um X) (ha : PE X a (rE X f)) (he : ∀ whole, isTrue a X.env whole = (do let v ← whole; standAt a.pos; holding [v] (truthy v))) : PT X a (rT X (dTr f)) := by
  refine ⟨fun pins s σ H Q I q => isTrue_plain ?_ (he _)⟩
  obtain ⟨L, h, env, b, h', hr, er, e, post⟩ := q
  obtain ⟨p, h1, e1, e2⟩ := R.bind_eq_ok e
  obtain ⟨e3, rfl⟩ := R.of_eq_ok e2
  refine thn (ha.run pins s σ H (fun x H1 => ∃ L1, HR (wd X) L1 h' H1 ∧ VR (wd X) L1 H1 p x ∧ PostH (wd X) L1 H1 h' (Q b)) I ⟨L, h, env, p, h', hr, er, e1, fun x L1 H1 x1 hr1 v1 => ⟨L1, hr1, v1, post.aft hr x1⟩⟩) fun v s1 ⟨x, H1, I1, r1, L1, hr1, v1, q1⟩ => ?_
  exact tru_okP hu pins s1 σ H1 x v Q I1 r1 ⟨L1, h', p, b, hr1, v1, e3, q1 _ _ Ext.refl hr1⟩
theorem tru_bl (h : PHeap) (b : Bool) : tru h (.bl b) = some b := rfl
/-- a bool's truth -/
theorem rT_val {t : TE} (i : ∀ σ H Q, rE X f σ H Q → t σ H Q) (hb : ∀ env h v h', f env h = .ok v h' → ∃ c, v = .bl c) : ∀ σ H Q, rT X (dTr f) σ H Q → tB t σ H Q := fun σ H Q ⟨L, h, env, b, h', hr, er, e, post⟩ => by
  obtain ⟨p, h1, e1, e2⟩ := R.bind_eq_ok e
  obtain ⟨e3, rfl⟩ := R.of_eq_ok e2
  obtain ⟨c, rfl⟩ := hb _ _ _ _ e1
  refine i σ H _ ⟨L, h, env, _, _, hr, er, e1, fun x L1 H1 x1 hr1 v1 => ?_⟩
  cases v1
  rw [tru_bl] at e3
  cases e3
  exact ⟨_, rfl, post _ _ x1 hr1⟩
theorem st_cmp (hu : Um X) {op : COp} (ha : PE X a (rE X f)) (hb : PE X b (rE X g)) (hm : behindInMarks (pyC op) b = false) : PT X (.Compare a [pyC op] [b] pos) (rT X (dTr fun env h => (f env h).bind fun x h => (g env h).bind fun y h => R.of ((cmpop op x y h).map .bl) h)) := by
  have hp : PC X (pyC op) a b (rE X fun env h => (f env h).bind fun x h => (g env h).bind fun y h => R.of ((cmpop op x y h).map .bl) h) := by
    refine ⟨fun pins s σ H Q I q => ?_⟩
    refine binT (R := fun x y H => rCmp X op x y H Q) ha hb I (rE2 q fun x y L H h p p' r h' hr v1 v2 e post => ?_) fun v u s2 x y H2 I2 rx ry q => op_cmp hu op pins s2 σ H2 x y v u Q I2 rx ry q
    obtain ⟨e, rfl⟩ := R.of_eq_ok e
    obtain ⟨t, e9, rfl⟩ := Option.map_eq_some_iff.mp e
    exact ⟨L, _, p, p', t, hr, v1, v2, e9, post⟩
  refine imT (pt_cmp hp hm) (rT_val (fun _ _ _ q => q) fun env h v h' e => ?_)
  obtain ⟨p, h1, e1, e⟩ := R.bind_eq_ok e
  obtain ⟨p', h2, e2, e⟩ := R.bind_eq_ok e
  obtain ⟨e, _⟩ := R.of_eq_ok e
  obtain ⟨t, _, e⟩ := Option.map_eq_some_iff.mp e
  exact ⟨t, e.symm⟩
/-! ### and, or, not, if -/
def andF (f g : Env → PHeap → R PV) : Env → PHeap → R PV := fun env h => (f env h).bind fun x h => (R.of (tru h x) h).bind fun t h => if t then g env h else .ok x h
def orF (f g : Env → PHeap → R PV) : Env → PHeap → R PV := fun env h => (f env h).bind fun x h => (R.of (tru h x) h).bind fun t h => if t then .ok x h else g env h
theorem dTr_ok {f : Env → PHeap → R PV} {env : Env} {h h' : PHeap} {b : Bool} : dTr f env h = .ok b h' ↔ ∃ v, f env h = .ok v h' ∧ tru h' v = some b := by
  constructor
  · intro e
    obtain ⟨p, h1, e1, e2⟩ := R.bind_eq_ok e
    obtain ⟨e3, rfl⟩ := R.of_eq_ok e2
    exact ⟨p, e1, e3⟩
  · rintro ⟨v, e1, e2⟩
    show (f env h).bind _ = _
    rw [e1, R.bind_ok, e2]
    rfl
theorem andF_ok {env : Env} {h h' : PHeap} {v : PV} (e : andF f g env h = .ok v h') : ∃ x h1 t, f env h = .ok x h1 ∧ tru h1 x = some t ∧ if t = true then g env h1 = .ok v h' else x = v ∧ h1 = h' := by
  obtain ⟨x, h1, e1, e⟩ := R.bind_eq_ok e
  obtain ⟨t, e2, e⟩ := R.of_bind e
  refine ⟨x, h1, t, e1, e2, ?_⟩
  cases t with
  | true => exact e
  | false => simp only [Bool.false_eq_true, if_false, R.ok.injEq] at e ⊢; exact e
theorem orF_ok {env : Env} {h h' : PHeap} {v : PV} (e : orF f g env h = .ok v h') : ∃ x h1 t, f env h = .ok x h1 ∧ tru h1 x = some t ∧ if t = true then x = v ∧ h1 = h' else g env h1 = .ok v h' := by
  obtain ⟨x, h1, e1, e⟩ := R.bind_eq_ok e
  obtain ⟨t, e2, e⟩ := R.of_bind e
  refine ⟨x, h1, t, e1, e2, ?_⟩
  cases t with
  | true => simp only [if_true, R.ok.injEq] at e ⊢; exact e
  | false => simpa using e
variable {rest : List Expr}
theorem sw_and (ha : PT X a (rT X (dTr f))) (hb : PW X (.BoolOp .And (b :: rest) pos) (rT X (dTr g))) : PW X (.BoolOp .And (a :: b :: rest) pos) (rT X (dTr (andF f g))) :=
  imW (pw_and ha hb) fun σ H Q ⟨L, h, env, t, h', hr, er, e, post⟩ => by
    obtain ⟨v, e1, e2⟩ := dTr_ok.mp e
    obtain ⟨x, h1, c, e3, e4, e5⟩ := andF_ok e1
    refine ⟨L, h, env, c, h1, hr, er, dTr_ok.mpr ⟨x, e3, e4⟩, fun L1 H1 x1 hr1 => ?_⟩
    cases c with
    | true =>
      simp only [if_true] at e5 ⊢
      exact ⟨L1, h1, env, t, h', hr1, er.mono x1, dTr_ok.mpr ⟨v, e5, e2⟩, post.aft hr x1⟩
    | false =>
      simp only [Bool.false_eq_true, if_false] at e5 ⊢
      obtain ⟨rfl, rfl⟩ := e5
      rw [e4] at e2
      cases e2
      exact post _ _ x1 hr1
theorem sw_or (ha : PT X a (rT X (dTr f))) (hb : PW X (.BoolOp .Or (b :: rest) pos) (rT X (dTr g))) : PW X (.BoolOp .Or (a :: b :: rest) pos) (rT X (dTr (orF f g))) :=
  imW (pw_or ha hb) fun σ H Q ⟨L, h, env, t, h', hr, er, e, post⟩ => by
    obtain ⟨v, e1, e2⟩ := dTr_ok.mp e
    obtain ⟨x, h1, c, e3, e4, e5⟩ := orF_ok e1
    refine ⟨L, h, env, c, h1, hr, er, dTr_ok.mpr ⟨x, e3, e4⟩, fun L1 H1 x1 hr1 => ?_⟩
    cases c with
    | true =>
      simp only [if_true] at e5 ⊢
      obtain ⟨rfl, rfl⟩ := e5
      rw [e4] at e2
      cases e2
      exact post _ _ x1 hr1
    | false =>
      simp only [Bool.false_eq_true, if_false] at e5 ⊢
      exact ⟨L1, h1, env, t, h', hr1, er.mono x1, dTr_ok.mpr ⟨v, e5, e2⟩, post.aft hr x1⟩
theorem se_and (hu : Um X) (ha : PE X a (rE X f)) (hb : PE X (.BoolOp .And (b :: rest) pos) (rE X g)) : PE X (.BoolOp .And (a :: b :: rest) pos) (rE X (andF f g)) := by
  refine ⟨fun pins s σ H Q I ⟨L, h, env, v, h', hr, er, e, post⟩ => ?_⟩
  obtain ⟨x, h1, c, e3, e4, e5⟩ := andF_ok e
  refine BoolOp_and (thn (ha.run pins s σ H (fun y H1 => ∃ L1, Ext L H L1 H1 ∧ HR (wd X) L1 h1 H1 ∧ VR (wd X) L1 H1 x y) I ⟨L, h, env, x, h1, hr, er, e3, fun y L1 H1 x1 hr1 v1 => ⟨L1, x1, hr1, v1⟩⟩) fun u s1 ⟨y, H1, I1, r1, L1, x1, hr1, v1⟩ => ?_)
  refine thn (tru_okP hu pins s1 σ H1 y u (fun c' H2 => c' = c ∧ H2 = H1) I1 r1 ⟨L1, h1, x, c, hr1, v1, e4, rfl, rfl⟩) fun c' s2 ⟨H2, I2, q1, q2⟩ => ?_
  subst q1 q2
  cases c' with
  | true => exact hb.run pins s2 σ H2 Q I2 ⟨L1, h1, env, v, h', hr1, er.mono x1, by simpa using e5, post.aft hr x1⟩
  | false =>
    simp only [Bool.false_eq_true, if_false] at e5
    obtain ⟨rfl, rfl⟩ := e5
    exact ⟨y, H2, I2, r1, post _ _ _ x1 hr1 v1⟩
theorem se_or (hu : Um X) (ha : PE X a (rE X f)) (hb : PE X (.BoolOp .Or (b :: rest) pos) (rE X g)) : PE X (.BoolOp .Or (a :: b :: rest) pos) (rE X (orF f g)) := by
  refine ⟨fun pins s σ H Q I ⟨L, h, env, v, h', hr, er, e, post⟩ => ?_⟩
  obtain ⟨x, h1, c, e3, e4, e5⟩ := orF_ok e
  refine BoolOp_or (thn (ha.run pins s σ H (fun y H1 => ∃ L1, Ext L H L1 H1 ∧ HR (wd X) L1 h1 H1 ∧ VR (wd X) L1 H1 x y) I ⟨L, h, env, x, h1, hr, er, e3, fun y L1 H1 x1 hr1 v1 => ⟨L1, x1, hr1, v1⟩⟩) fun u s1 ⟨y, H1, I1, r1, L1, x1, hr1, v1⟩ => ?_)
  refine thn (tru_okP hu pins s1 σ H1 y u (fun c' H2 => c' = c ∧ H2 = H1) I1 r1 ⟨L1, h1, x, c, hr1, v1, e4, rfl, rfl⟩) fun c' s2 ⟨H2, I2, q1, q2⟩ => ?_
  subst q1 q2
  cases c' with
  | true =>
    simp only [if_true] at e5
    obtain ⟨rfl, rfl⟩ := e5
    exact ⟨y, H2, I2, r1, post _ _ _ x1 hr1 v1⟩
  | false => exact hb.run pins s2 σ H2 Q I2 ⟨L1, h1, env, v, h', hr1, er.mono x1, by simpa using e5, post.aft hr x1⟩
def notF (f : Env → PHeap → R PV) : Env → PHeap → R PV := fun env h => (f env h).bind fun x h => R.of ((tru h x).map fun c => .bl (!c)) h
theorem notF_ok {env : Env} {h h' : PHeap} {v : PV} (e : notF f env h = .ok v h') : ∃ x c, f env h = .ok x h' ∧ tru h' x = some c ∧ v = .bl (!c) := by
  obtain ⟨x, h1, e1, e⟩ := R.bind_eq_ok e
  obtain ⟨e2, rfl⟩ := R.of_eq_ok e
  obtain ⟨t, e3, e4⟩ := Option.map_eq_some_iff.mp e2
  exact ⟨x, t, e1, e3, e4.symm⟩
theorem st_not (ha : PT X a (rT X (dTr f))) : PT X (.UnaryOp .Not a pos) (rT X (dTr (notF f))) := imT (pt_not ha) fun σ H Q ⟨L, h, env, t, h', hr, er, e, post⟩ => by
  obtain ⟨v, e1, e2⟩ := dTr_ok.mp e
  obtain ⟨x, c, e3, e4, rfl⟩ := notF_ok e1
  rw [tru_bl] at e2
  cases e2
  exact ⟨L, h, env, c, h', hr, er, dTr_ok.mpr ⟨x, e3, e4⟩, fun L1 H1 x1 hr1 => post _ _ x1 hr1⟩
theorem se_not (hu : Um X) (ha : PE X a (rE X f)) : PE X (.UnaryOp .Not a pos) (rE X (notF f)) := by
  refine ⟨fun pins s σ H Q I ⟨L, h, env, v, h', hr, er, e, post⟩ => ?_⟩
  obtain ⟨x, c, e3, e4, rfl⟩ := notF_ok e
  refine UnaryOp_ (thn (ha.run pins s σ H (fun y H1 => ∃ L1, Ext L H L1 H1 ∧ HR (wd X) L1 h' H1 ∧ VR (wd X) L1 H1 x y) I ⟨L, h, env, x, h', hr, er, e3, fun y L1 H1 x1 hr1 v1 => ⟨L1, x1, hr1, v1⟩⟩) fun u s1 ⟨y, H1, I1, r1, L1, x1, hr1, v1⟩ => ?_)
  exact not_of (thn (tru_okP hu pins s1 σ H1 y u (fun c' H2 => Q (.bl (!c')) H2) I1 r1 ⟨L1, h', x, c, hr1, v1, e4, post _ _ _ x1 hr1 (.bl _)⟩) fun c s2 ⟨H2, I2, q2⟩ => ⟨.bl (!c), H2, I2, rfl, q2⟩)
def ifeF (t : Env → PHeap → R PV) (f g : Env → PHeap → R PV) : Env → PHeap → R PV := fun env h => (t env h).bind fun x h => (R.of (tru h x) h).bind fun t h => if t then f env h else g env h
theorem ifeF_ok {env : Env} {h h' : PHeap} {v : PV} (e : ifeF k f g env h = .ok v h') : ∃ t h1, dTr k env h = .ok t h1 ∧ (if t = true then f env h1 else g env h1) = .ok v h' := by
  obtain ⟨x, h1, e1, e⟩ := R.bind_eq_ok e
  obtain ⟨t, e2, e⟩ := R.of_bind e
  exact ⟨t, h1, dTr_ok.mpr ⟨x, e1, e2⟩, e⟩
theorem se_ife (hc : PT X c (rT X (dTr k))) (ha : PE X a (rE X f)) (hb : PE X b (rE X g)) : PE X (.IfExp c a b pos) (rE X (ifeF k f g)) := imE (pe_ifExp hc ha hb) fun σ H Q ⟨L, h, env, v, h', hr, er, e, post⟩ => by
  obtain ⟨t, h1, e1, e2⟩ := ifeF_ok e
  refine ⟨L, h, env, t, h1, hr, er, e1, fun L1 H1 x1 hr1 => ?_⟩
  cases t with
  | true => exact ⟨L1, h1, env, v, h', hr1, er.mono x1, e2, post.aft hr x1⟩
  | false => exact ⟨L1, h1, env, v, h', hr1, er.mono x1, e2, post.aft hr x1⟩
theorem st_ife (hc : PT X c (rT X (dTr k))) (ha : PT X a (rT X (dTr f))) (hb : PT X b (rT X (dTr g))) : PT X (.IfExp c a b pos) (rT X (dTr (ifeF k f g))) := by
  refine ⟨fun pins s σ H Q I ⟨L, h, env, b', h', hr, er, e, post⟩ => isTrue_IfExp ?_⟩
  obtain ⟨v, e1, e2⟩ := dTr_ok.mp e
  obtain ⟨t, h1, e3, e4⟩ := ifeF_ok e1
  refine thn (hc.run pins s σ H (fun c' H1 => ∃ L1, c' = t ∧ Ext L H L1 H1 ∧ HR (wd X) L1 h1 H1) I ⟨L, h, env, t, h1, hr, er, e3, fun L1 H1 x1 hr1 => ⟨L1, rfl, x1, hr1⟩⟩) fun c' s1 ⟨H1, I1, L1, q, x1, hr1⟩ => ?_
  subst q
  cases c' with
  | true => exact ha.run pins s1 σ H1 Q I1 ⟨L1, h1, env, b', h', hr1, er.mono x1, dTr_ok.mpr ⟨v, e4, e2⟩, post.aft hr x1⟩
  | false => exact hb.run pins s1 σ H1 Q I1 ⟨L1, h1, env, b', h', hr1, er.mono x1, dTr_ok.mpr ⟨v, e4, e2⟩, post.aft hr x1⟩
/-! ### a op b op' c -/
def cmp2F (op op' : COp) (f g k : Env → PHeap → R PV) : Env → PHeap → R PV := fun env h => (f env h).bind fun x h => (g env h).bind fun y h => (R.of (cmpop op x y h) h).bind fun t h =>
      if t then (k env h).bind fun z h => R.of ((cmpop op' y z h).map .bl) h else .ok (.bl false) h
theorem cmp2_le {op op' : COp} : ∀ σ H Q, rE X (cmp2F op op' f g k) σ H Q → tChain (rCmp X op) (rCmp X op') (rE X f) (rE X g) (rE X k) σ H Q := fun σ H Q ⟨L, h, env, v, h', hr, er, e, post⟩ => by
  obtain ⟨p, h1, e1, e⟩ := R.bind_eq_ok e
  obtain ⟨p', h2, e2, e⟩ := R.bind_eq_ok e
  obtain ⟨t, e3, e⟩ := R.of_bind e
  refine ⟨L, h, env, p, h1, hr, er, e1, fun x L1 H1 x1 hr1 v1 => ⟨L1, h1, env, p', h2, hr1, er.mono x1, e2, fun y L2 H2 x2 hr2 v2 => ?_⟩⟩
  refine ⟨L2, h2, p, p', t, hr2, v1.mono x2, v2, e3, fun z L3 H3 x3 hr3 v3 => ?_⟩
  cases v3
  refine ⟨t, rfl, ?_⟩
  have xx := (x1.tr hr x2).tr hr x3
  cases t with
  | true =>
    simp only [if_true] at e ⊢
    obtain ⟨q, h3, e4, e5⟩ := R.bind_eq_ok e
    obtain ⟨e5, rfl⟩ := R.of_eq_ok e5
    obtain ⟨c, e9, rfl⟩ := Option.map_eq_some_iff.mp e5
    refine ⟨L3, h2, env, q, h', hr3, er.mono xx, e4, fun w L4 H4 x4 hr4 v4 => ?_⟩
    exact ⟨L4, h', p', q, c, hr4, (v2.mono x3).mono x4, v4, e9, post.aft hr (xx.tr hr x4)⟩
  | false =>
    simp only [Bool.false_eq_true, if_false, R.ok.injEq] at e ⊢
    obtain ⟨rfl, rfl⟩ := e
    exact post _ _ _ xx hr3 (.bl _)
theorem se_cmp2 (hu : Um X) {op op' : COp} (ha : PE X a (rE X f)) (hb : PE X b (rE X g)) (hc : PE X c (rE X k)) (hm : lastMarks [pyC op, pyC op'] [b, c] = false) : PE X (.Compare a [pyC op, pyC op'] [b, c] pos) (rE X (cmp2F op op' f g k)) :=
  imE (pe_chain (op_cmp hu op) (op_cmp hu op') ha hb hc hm) cmp2_le
theorem st_cmp2 (hu : Um X) {op op' : COp} (ha : PE X a (rE X f)) (hb : PE X b (rE X g)) (hc : PE X c (rE X k)) (hm : lastMarks [pyC op, pyC op'] [b, c] = false) : PT X (.Compare a [pyC op, pyC op'] [b, c] pos) (rT X (dTr (cmp2F op op' f g k))) :=
  imT (pt_chain (op_cmp hu op) (op_cmp hu op') ha hb hc hm) (rT_val cmp2_le fun env h v h' e => by
    obtain ⟨p, h1, e1, e⟩ := R.bind_eq_ok e
    obtain ⟨p', h2, e2, e⟩ := R.bind_eq_ok e
    obtain ⟨t, e3, e⟩ := R.of_bind e
    cases t with
    | true =>
      obtain ⟨q, h3, e4, e5⟩ := R.bind_eq_ok e
      obtain ⟨e5, _⟩ := R.of_eq_ok e5
      obtain ⟨c, _, e6⟩ := Option.map_eq_some_iff.mp e5
      exact ⟨c, e6.symm⟩
    | false => cases e; exact ⟨_, rfl⟩)
end
end HW
/-! HwM: lists of expressions, displays, slices, calls. -/
namespace HW
open PySem PySem.Spec PyProof.Rows L2 C8

def okArg : Expr → Bool
  | .Starred .. => false
  | _ => true
def okIx : Expr → Bool
  | .Slice .. => false
  | _ => true
def okTest : Expr → Bool
  | .UnaryOp .. => false
  | .BoolOp .. => false
  | .IfExp .. => false
  | .Compare .. => false
  | _ => true
def okBase : Expr → Bool
  | .Call _ (_ :: _) _ _ => true
  | .Call .. => false
  | _ => true
theorem star_ok {e : Expr} (h : okArg e = true) (es : List Expr) (env : PySem.Env) : starEach (e :: es) env = (false, eval e env) :: starEach es env := by
  cases e <;> first | rfl | cases h
theorem ix_ok {e : Expr} (h : okIx e = true) : PlainIx e := fun o i => by
  cases e <;> first | rfl | cases h
theorem test_ok {e : Expr} (h : okTest e = true) (env : PySem.Env) : ∀ whole, isTrue e env whole = (do let v ← whole; standAt e.pos; holding [v] (truthy v)) := fun whole => by
  cases e <;> first | rfl | cases h
theorem base_ok {e : Expr} (h : okBase e = true) (attr : Str) (env : PySem.Env) (whole : PySem.Sem Value) : attributeBase e attr env whole = whole := by
  cases e <;> first | rfl | skip
  rename_i f args kws p
  cases args with
  | nil => cases h
  | cons a as =>
    unfold attributeBase
    split
    · rename_i q
      cases q
    · rfl
theorem plain_all {pos : Pos} {env : PySem.Env} : ∀ {es : List Expr}, es.all okArg = true → (backTo pos (starEach es env)).any (·.1) = false
  | [], _ => rfl
  | e :: es, h => by
    rw [List.all_cons, Bool.and_eq_true] at h
    rw [star_ok h.1]
    have ih := plain_all (pos := pos) (env := env) h.2
    show (false || (backTo pos (starEach es env)).any (·.1)) = false
    rw [ih]
    rfl
section
variable {X : Cx} {a b c : Expr} {es : List Expr} {f g k : Env → PHeap → R PV} {fs : Env → PHeap → R (List PV)} {pos : Pos}
def nilF : Env → PHeap → R (List PV) := fun _ h => .ok [] h
def consF (f : Env → PHeap → R PV) (fs : Env → PHeap → R (List PV)) : Env → PHeap → R (List PV) := fun env h => (f env h).bind fun v h => (fs env h).bind fun vs h => .ok (v :: vs) h
theorem sa_nil : PA X [] (rA X nilF) := imA pa_nil fun σ H Q ⟨L, h, env, vs, h', hr, er, e, post⟩ => by
  cases e
  exact post [] _ _ Ext.refl hr .nil
theorem sa_cons (ha : PE X a (rE X f)) (hs : PA X es (rA X fs)) (ho : okArg a = true) : PA X (a :: es) (rA X (consF f fs)) := imA (pa_cons ha hs (star_ok ho _ _)) fun σ H Q ⟨L, h, env, vs, h', hr, er, e, post⟩ => by
  obtain ⟨p, h1, e1, e⟩ := R.bind_eq_ok e
  obtain ⟨ps, h2, e2, e⟩ := R.bind_eq_ok e
  cases e
  refine ⟨L, h, env, p, h1, hr, er, e1, fun x L1 H1 x1 hr1 v1 => ⟨L1, h1, env, ps, h', hr1, er.mono x1, e2, fun xs L2 H2 x2 hr2 v2 => ?_⟩⟩
  exact post (x :: xs) L2 H2 (x1.tr hr x2) hr2 (.cons (v1.mono x2) v2)
/-- a written tuple -/
theorem se_tup {x1 : Nat} (hs : PA X es (rA X fs)) (hl : ∀ env h vs h', fs env h = .ok vs h' → vs.length ≤ sizeLine) : PE X (.Tuple es x1 pos) (rE X fun env h => (fs env h).bind fun vs h => .ok (.tup vs) h) := by
  refine ⟨fun pins s σ H Q I ⟨L, h, env, v, h', hr, er, e, post⟩ => ?_⟩
  obtain ⟨ps, h1, e1, e⟩ := R.bind_eq_ok e
  cases e
  refine wpAny_Tuple_spliced (thn (hs.run pos pins s σ H (fun xs H1 => ∃ L1, Ext L H L1 H1 ∧ HR (wd X) L1 h' H1 ∧ VRs (wd X) L1 H1 ps xs) I ⟨L, h, env, ps, h', hr, er, e1, fun xs L1 H1 x1 hr1 v1 => ⟨L1, x1, hr1, v1⟩⟩) fun us s1 ⟨xs, H1, I1, r, L1, x1, hr1, v1⟩ => ?_)
  have z : xs.length ≤ sizeLine := by rw [v1.length]; exact hl _ _ _ _ e1
  refine ⟨by rw [← r.length]; exact z, ?_⟩
  exact tup_ep I1 hr1 (post.aft hr x1) v1 r z s1.toks
theorem se_lst {al : Bool} (hs : PA X es (rA X fs)) (hl : ∀ env h vs h', fs env h = .ok vs h' → vs.length ≤ sizeLine) : PE X (.List es pos) (rE X fun env h => (fs env h).bind fun vs h => mkList al vs h) := 
  ⟨fun pins s σ H Q I ⟨L, h, env, v, h', hr, er, e, post⟩ => by
  obtain ⟨ps, h1, e1, e⟩ := R.bind_eq_ok e
  refine thn ((pe_lst hs).run pins s σ H (fun x H' => ∃ L1 H1 xs p, Ext L H L1 H1 ∧ HR (wd X) L1 h1 H1 ∧ VRs (wd X) L1 H1 ps xs ∧ x = .ref p ∧ H1 p = none ∧ H' = upd H1 p (.lst xs)) I ⟨L, h, env, ps, h1, hr, er, e1, fun xs L1 H1 x1 hr1 v1 => ⟨by rw [v1.length]; exact hl _ _ _ _ e1, fun p hp => ⟨L1, H1, xs, p, x1, hr1, v1, rfl, hp, rfl⟩⟩⟩) fun u s' ⟨x, H', I', rx, L1, H1, xs, p, x1, hr1, v1, ex, hp, eH⟩ => ?_
  subst ex eH
  cases rx
  exact mk_ep I' hp e (post.aft hr x1) hr1 v1⟩
/-! ### slices -/
def noF : Env → PHeap → R (Option Int) := fun _ h => .ok none h
def someF (f : Env → PHeap → R PV) : Env → PHeap → R (Option Int) := fun env h => (f env h).bind fun v h => (R.of (intOf v) h).bind fun i h => .ok (some i) h
theorem so_none : PO X none (rO X noF) := imO po_none fun σ H Q ⟨L, h, env, o, h', hr, er, e, post⟩ => by
  cases e
  exact post _ _ Ext.refl hr
theorem so_some (ha : PE X a (rE X f)) : PO X (some a) (rO X (someF f)) := imO (po_some ha) fun σ H Q ⟨L, h, env, o, h', hr, er, e, post⟩ => by
  obtain ⟨p, h1, e1, e⟩ := R.bind_eq_ok e
  obtain ⟨i, e2, e⟩ := R.of_bind e
  cases e
  refine ⟨L, h, env, p, _, hr, er, e1, fun x L1 H1 x1 hr1 v1 => ?_⟩
  cases p with
  | int j =>
    cases e2
    cases v1
    exact ⟨_, rfl, post _ _ x1 hr1⟩
  | _ => cases e2
variable {lo hi : Option Expr} {fl fu : Env → PHeap → R (Option Int)} {p2 : Pos}
theorem se_sl (ha : PE X a (rE X f)) (hl : PO X lo (rO X fl)) (hu : PO X hi (rO X fu)) : PE X (.Subscript a (.Slice lo hi none p2) pos) (rE X fun env h => (f env h).bind fun x h => (fl env h).bind fun l h => (fu env h).bind fun u h => R.of (sliceOf h x l u) h) :=
  imE (pe_slice sl_ok ha hl hu) fun σ H Q ⟨L, h, env, v, h', hr, er, e, post⟩ => by
  obtain ⟨p, h1, e1, e⟩ := R.bind_eq_ok e
  obtain ⟨o, h2, e2, e⟩ := R.bind_eq_ok e
  obtain ⟨o', h3, e3, e⟩ := R.bind_eq_ok e
  obtain ⟨e, rfl⟩ := R.of_eq_ok e
  refine ⟨L, h, env, p, h1, hr, er, e1, fun x L1 H1 x1 hr1 v1 => ⟨L1, h1, env, o, h2, hr1, er.mono x1, e2, fun L2 H2 x2 hr2 => ⟨L2, h2, env, o', _, hr2, er.mono (x1.tr hr x2), e3, fun L3 H3 x3 hr3 => ?_⟩⟩⟩
  exact ⟨L3, _, p, v, hr3, (v1.mono x2).mono x3, e, post.aft hr ((x1.tr hr x2).tr hr x3)⟩
/-! ### calls of built-ins -/
variable {x : Str} {id T : String} {r : List V → Hp → VK → Prop} {p : Pos}
theorem calls {F : List PV → PHeap → R PV} {σ : L2.St} {H : Hp} {Q : VK} {k : List V → Hp → VK → Prop} (q : rE X (fun env h => (fs env h).bind F) σ H Q)
    (hk : ∀ xs L H h ps r h', HR (wd X) L h H → VRs (wd X) L H ps xs → F ps h = .ok r h' → Post (wd X) L H r h' Q → k xs H Q) : tCB k (rA X fs) σ H Q := by
  obtain ⟨L, h, env, v, h', hr, er, e, post⟩ := q
  obtain ⟨ps, h1, e1, e2⟩ := R.bind_eq_ok e
  exact ⟨L, h, env, ps, h1, hr, er, e1, fun xs L1 H1 x1 hr1 v1 => hk xs L1 H1 h1 ps v h' hr1 v1 e2 (post.aft hr x1)⟩
theorem se_blt {B : Blt} (hc : CallR X (.builtin id) (rBlt X B)) (hg : Gl X x) (hm : X.mg x = none) (hv : bootBuiltins x = some (.builtin id)) (hn : x ≠ "__name__") (hd : (x == ("__debug__" : Str)) = false) (hs : PA X (a :: es) (rA X fs)) (ho : (a :: es).all okArg = true) :
    PE X (.Call (.Name x p) (a :: es) [] pos) (rE X fun env h => (fs env h).bind fun vs h => R.of (bltop B vs h) h) := by
  rw [List.all_cons, Bool.and_eq_true] at ho
  refine imE (pe_callB hc hg hm hv hs hn hd (star_ok ho.1 _ _) (plain_all ho.2)) fun σ H Q q => calls q fun xs L H h ps r h' hr v1 e post => ?_
  obtain ⟨e, rfl⟩ := R.of_eq_ok e
  exact ⟨L, _, ps, r, hr, v1, e, post⟩
theorem se_bltT {B : Blt} (hc : CallR X (.type T) (rBlt X B)) (hg : Gl X x) (hm : X.mg x = none) (hv : bootBuiltins x = some (.type T)) (hn : x ≠ "__name__") (hd : (x == ("__debug__" : Str)) = false) (hs : PA X (a :: es) (rA X fs)) (ho : (a :: es).all okArg = true) :
    PE X (.Call (.Name x p) (a :: es) [] pos) (rE X fun env h => (fs env h).bind fun vs h => R.of (bltop B vs h) h) := by
  rw [List.all_cons, Bool.and_eq_true] at ho
  refine imE (pe_callTy hc hg hm hv hs hn hd (star_ok ho.1 _ _) (plain_all ho.2)) fun σ H Q q => calls q fun xs L H h ps r h' hr v1 e post => ?_
  obtain ⟨e, rfl⟩ := R.of_eq_ok e
  exact ⟨L, _, ps, r, hr, v1, e, post⟩
theorem one_arg (ha : PE X a (rE X f)) (ho : okArg a = true) : PA X [a] (rA X (consF f nilF)) := sa_cons ha sa_nil ho
theorem conv1 {C : Cnv} {al : Bool} : ∀ σ H Q, rE X (fun env h => (f env h).bind fun v h => convop C al v h) σ H Q → tCB (rConv X C al) (rA X (consF f nilF)) σ H Q := fun σ H Q ⟨L, h, env, v, h', hr, er, e, post⟩ => by
  obtain ⟨p, h1, e1, e2⟩ := R.bind_eq_ok e
  refine ⟨L, h, env, [p], h1, hr, er, by unfold consF nilF; rw [e1]; rfl, fun xs L1 H1 x1 hr1 v1 => ?_⟩
  cases v1 with
  | cons v1 v2 =>
    cases v2
    exact ⟨L1, h1, p, _, v, h', rfl, hr1, v1, e2, post.aft hr x1⟩
theorem se_cnv {C : Cnv} {al : Bool} (hc : CallR X (.builtin id) (rConv X C al)) (hg : Gl X x) (hm : X.mg x = none) (hv : bootBuiltins x = some (.builtin id)) (hn : x ≠ "__name__") (hd : (x == ("__debug__" : Str)) = false) (ha : PE X a (rE X f)) (ho : okArg a = true) :
    PE X (.Call (.Name x p) [a] [] pos) (rE X fun env h => (f env h).bind fun v h => convop C al v h) :=
  imE (pe_callB hc hg hm hv (one_arg ha ho) hn hd (star_ok ho _ _) rfl) conv1
theorem se_cnvT {C : Cnv} {al : Bool} (hc : CallR X (.type T) (rConv X C al)) (hg : Gl X x) (hm : X.mg x = none) (hv : bootBuiltins x = some (.type T)) (hn : x ≠ "__name__") (hd : (x == ("__debug__" : Str)) = false) (ha : PE X a (rE X f)) (ho : okArg a = true) :
    PE X (.Call (.Name x p) [a] [] pos) (rE X fun env h => (f env h).bind fun v h => convop C al v h) :=
  imE (pe_callTy hc hg hm hv (one_arg ha ho) hn hd (star_ok ho _ _) rfl) conv1
/-- isinstance(e, T) -/
theorem se_isi {TN : Str} {p' : Pos} (hg : Gl X "isinstance") (hm : X.mg "isinstance" = none) (hg' : Gl X TN) (hm' : X.mg TN = none) (hv' : bootBuiltins TN = some (.type T)) (hn' : TN ≠ "__name__") (hd' : (TN == ("__debug__" : Str)) = false) (ha : PE X a (rE X f)) (ho : okArg a = true) :
    PE X (.Call (.Name "isinstance" p) [a, .Name TN p'] [] pos) (rE X fun env h => (consF f nilF env h).bind fun vs h => R.of (bltop (.isi T) vs h) h) := by
  have h2 : PE X (.Name TN p') (tC (.ty T)) := pe_bltn hg' hm' hv' rfl hn' hd'
  refine imE (pe_callB (cr_isi T) hg hm rfl (pa_cons ha (pa_cons h2 pa_nil) (star_ok ho _ _)) (by decide) (by decide) (star_ok ho _ _) rfl) fun σ H Q ⟨L, h, env, v, h', hr, er, e, post⟩ => ?_
  obtain ⟨ps, h1, e1, e2⟩ := R.bind_eq_ok e
  obtain ⟨q, h3, e3, e4⟩ := R.bind_eq_ok e1
  cases e4
  obtain ⟨e2, rfl⟩ := R.of_eq_ok e2
  exact ⟨L, h, env, q, _, hr, er, e3, fun x L1 H1 x1 hr1 v1 => ⟨x, rfl, L1, _, [q], v, hr1, .cons v1 .nil, e2, post.aft hr x1⟩⟩
/-- isinstance(e, (T, ..)) -/
theorem tys_pa : ∀ {es : List Expr} {ts : List String}, Paired (fun e T => okArg e = true ∧ PE X e (tC (.ty T))) es ts → PA X es (fun _ H Q => Q (ts.map V.ty) H)
  | [], [], _ => pa_nil
  | _ :: _, _ :: _, .cons h1 h2 => imA (pa_cons h1.2 (tys_pa h2) (star_ok h1.1 _ _)) fun _ _ _ q => q
theorem se_isiT {ts : List String} {p' : Pos} {kk : Nat} (hg : Gl X "isinstance") (hm : X.mg "isinstance" = none) (ht : Paired (fun e T => okArg e = true ∧ PE X e (tC (.ty T))) es ts) (hl : ts.length ≤ 100) (ha : PE X a (rE X f)) (ho : okArg a = true) :
    PE X (.Call (.Name "isinstance" p) [a, .Tuple es kk p'] [] pos) (rE X fun env h => (consF f nilF env h).bind fun vs h => R.of (bltop (.isiT ts) vs h) h) := by
  have h2 : PE X (.Tuple es kk p') (tTup fun _ H Q => Q (ts.map V.ty) H) := pe_tup (tys_pa ht)
  refine imE (pe_callB (cr_isiT ts) hg hm rfl (pa_cons ha (pa_cons h2 pa_nil) (star_ok ho _ _)) (by decide) (by decide) (star_ok ho _ _) rfl) fun σ H Q ⟨L, h, env, v, h', hr, er, e, post⟩ => ?_
  obtain ⟨ps, h1, e1, e2⟩ := R.bind_eq_ok e
  obtain ⟨q, h3, e3, e4⟩ := R.bind_eq_ok e1
  cases e4
  obtain ⟨e2, rfl⟩ := R.of_eq_ok e2
  refine ⟨L, h, env, q, _, hr, er, e3, fun x L1 H1 x1 hr1 v1 => ⟨by rw [List.length_map, sizeLine_eq]; omega, fun tp hp => ?_⟩⟩
  have x2 : Ext L1 H1 L1 (upd H1 tp (.tup (ts.map V.ty))) := ext_new hp
  exact ⟨x, tp, rfl, upd_same, L1, _, [q], v, hr1.new hp, .cons (v1.mono x2) .nil, e2, post.aft hr (x1.tr hr x2)⟩
/-! ### calls of defs -/
/-- what a def promises, by its meaning -/
def spS (Z : Wd) (n : Nat) (sem : Sem) : Sp := fun vs H Q _ => ∃ L h ps r h', HR Z L h H ∧ VRs Z L H ps vs ∧ ps.length = n ∧ sem ps h = .ok r h' ∧ Post Z L H r h' Q
theorem se_call {j k n : Nat} {sem : Sem} (cc : Cal X.prog X.w X.K X.mg X.base k x (spS (wd X) n sem) []) (hr : Room j X.A) (hk : k ≤ j) (hg : Gl X x) (hd : (x == ("__debug__" : Str)) = false) (hs : PA X (a :: es) (rA X fs)) (ho : (a :: es).all okArg = true)
    (hl : ∀ env h vs h', fs env h = .ok vs h' → vs.length = n) : PE X (.Call (.Name x p) (a :: es) [] pos) (rE X fun env h => (fs env h).bind fun vs h => sem vs h) := by
  rw [List.all_cons, Bool.and_eq_true] at ho
  refine imE (pe_c cc hr hk hg hs hd (star_ok ho.1 _ _) (plain_all ho.2)) fun σ H Q ⟨L, h, env, v, h', hr, er, e, post⟩ => ?_
  obtain ⟨ps, h1, e1, e2⟩ := R.bind_eq_ok e
  refine ⟨L, h, env, ps, h1, hr, er, e1, fun xs L1 H1 x1 hr1 v1 => ?_⟩
  show spS (wd X) n sem (xs ++ []) H1 Q _
  rw [List.append_nil]
  exact ⟨L1, h1, ps, v, h', hr1, v1, hl _ _ _ _ e1, e2, post.aft hr x1⟩
theorem se_call0 {j k : Nat} {sem : Sem} (cc : Cal X.prog X.w X.K X.mg X.base k x (spS (wd X) 0 sem) []) (hr : Room j X.A) (hk : k ≤ j) (hg : Gl X x) (hd : (x == ("__debug__" : Str)) = false) : PE X (.Call (.Name x p) [] [] pos) (rE X fun env h => sem [] h) := by
  obtain ⟨f, fd, ps, ds, F, hm, kp, b, d⟩ := cc.ex
  refine imE (pe_call0 (E := C8.E0) F (hr.mono hk) hg hm kp b d C8.pass0 hd) fun σ H Q ⟨L, h, env, v, h', hr, er, e, post⟩ => ?_
  exact ⟨L, h, [], v, h', hr, .nil, rfl, e, post⟩
end
end HW
/-! HwN: methods, dict displays, reversed slices. -/
namespace HW
open PySem PySem.Spec PyProof.Rows L2 C8

def rMth (X : Cx) (m : Mth) : V → List V → Hp → VK → Prop := fun x xs H Q => ∃ L h p ps r h', HR (wd X) L h H ∧ VR (wd X) L H p x ∧ VRs (wd X) L H ps xs ∧ methop m p ps h = .ok r h' ∧ Post (wd X) L H r h' Q
section
variable {X : Cx}
theorem live_lst {L : List Addr} {H : Hp} {h : PHeap} {Z : Wd} (hr : HR Z L h H) {n : Nat} {x : V} {xs : List PV} (v : VR Z L H (.ref n) x) (hc : h[n]? = some (.lst xs)) : ∃ a vs, x = .ref a ∧ L[n]? = some a ∧ a ∈ L ∧ H a = some (.lst vs) ∧ VRs Z L H xs vs := by
  cases v with
  | ref hn =>
    obtain ⟨vs, h1, h2⟩ := hr.cell _ _ _ hc hn
    exact ⟨_, vs, rfl, hn, List.mem_of_getElem? hn, h1, h2⟩
theorem Post.wr {L : List Addr} {H : Hp} {h : PHeap} {Z : Wd} {Q : VK} {r : PV} {y : V} {n : Nat} {a : Addr} {o : HO} {c : Cell} (hr : HR Z L h H) (hn : L[n]? = some a) (hf : NF H a) (post : Post Z L H r (h.set n c) Q) (cr : CR Z L (upd H a o) a c) (v : VR Z L H r y) : Q y (upd H a o) :=
  post _ _ _ (ext_write (List.mem_of_getElem? hn) hf) (hr.write hn hf cr) (v.mono (ext_write (List.mem_of_getElem? hn) hf))
theorem mt_app : MtR X "list.append" (rMth X .lapp) := by
  intro pins s σ H x xs v us Q I rx rs ⟨L, h, p, ps, r, h', hr, vp, vs, e, post⟩
  replace e : mApp p ps h = .ok r h' := e
  unfold mApp at e
  split at e
  rotate_left
  · cases e
  rename_i n z
  split at e
  · rename_i ys hc
    split at e
    · rename_i hz
      cases e
      obtain ⟨a, vs', rfl, hn, hm, h1, h2⟩ := live_lst hr vp hc
      obtain ⟨y, rfl, vy⟩ := vrs1 vs
      refine mt_append pins s σ H (.ref a) [y] v us Q I rx rs ⟨a, vs', y, rfl, rfl, h1, by rw [h2.length, ← lim]; exact hz, ?_⟩
      exact Post.wr hr hn (nf_lst h1) post ⟨_, upd_same, (h2.snoc vy).mono (ext_write hm (nf_lst h1))⟩ .non
    · cases e
  · cases e
theorem mt_extR : MtR X "list.extend" (fun x zs H Q => ∃ a b us ws, x = .ref a ∧ zs = [.ref b] ∧ H a = some (.lst us) ∧ Rd H b (.lst ws) ∧ us.length + ws.length ≤ sizeLine ∧ Q .non (upd H a (.lst (us ++ ws)))) := by
  rintro pins s σ H x zs v vs Q I rx rz ⟨a, b, us, ws, rfl, rfl, ka, kb, few, q⟩
  cases rx
  obtain ⟨u, rfl, ru⟩ := rz.one
  cases ru
  obtain ⟨_, as, na, ra, la, ga⟩ := lst_rd I (.inl ka)
  obtain ⟨_, bs, nb, rb, lb, gb⟩ := lst_rd I kb
  have few' : as.toArray.size + bs.toArray.size ≤ sizeLine := by simp only [List.size_toArray]; omega
  have long : ¬ (!as.toArray.isEmpty && Builtin.List.listTooLong (as.toArray.size + bs.toArray.size)) = true := by rw [notLongL few', Bool.and_false]; decide
  refine call_meets F.slot_list_extend ⟨_, ga, rfl⟩ F.entry_list_extend (F.args_list_extend_2 _ _)
    (AutoSeq1.list_extend_list_list_0 a as.toArray na b bs.toArray nb long (by simp only [List.size_toArray] at few' ⊢; omega) (by omega)) ⟨ga, gb, ?_⟩
  exact ⟨.non, _, I.lset (its' := as ++ bs) ka ga (by simp) (ra.append rb) (by simp only [List.length_append]; omega), rfl, q⟩
theorem mt_ext : MtR X "list.extend" (rMth X .lext) := by
  intro pins s σ H x xs v us Q I rx rs ⟨L, h, p, ps, r, h', hr, vp, vs, e, post⟩
  replace e : mExt p ps h = .ok r h' := e
  unfold mExt at e
  split at e
  rotate_left
  · cases e
  rename_i n z
  split at e
  · rename_i ys zs hc hc2
    split at e
    · rename_i hz
      cases e
      obtain ⟨a, vs', rfl, hn, hm, h1, h2⟩ := live_lst hr vp hc
      obtain ⟨y, rfl, vy⟩ := vrs1 vs
      obtain ⟨b, vs2, rfl, h3, h4⟩ := vy.list hr hc2
      refine mt_extR pins s σ H (.ref a) [.ref b] v us Q I rx rs ⟨a, b, vs', vs2, rfl, rfl, h1, h3, by rw [h2.length, h4.length, ← lim]; exact hz, ?_⟩
      exact Post.wr hr hn (nf_lst h1) post ⟨_, upd_same, (h2.append h4).mono (ext_write hm (nf_lst h1))⟩ .non
    · cases e
  · cases e
theorem mt_popL : MtR X "list.pop" (rMth X .lpop) := by
  intro pins s σ H x xs v us Q I rx rs ⟨L, h, p, ps, r, h', hr, vp, vs, e, post⟩
  replace e : mPop p ps h = .ok r h' := e
  unfold mPop at e
  split at e
  rotate_left
  · cases e
  rename_i n
  split at e
  · rename_i ys hc
    split at e
    · rename_i y hy
      cases e
      obtain ⟨a, vs', rfl, hn, hm, h1, h2⟩ := live_lst hr vp hc
      cases vs
      obtain ⟨z, h3, h4⟩ := h2.get' hy
      refine mt_pop pins s σ H (.ref a) [] v us Q I rx rs ⟨a, vs', z, rfl, rfl, h1, by rw [h2.length]; exact h3, ?_⟩
      exact Post.wr hr hn (nf_lst h1) post ⟨_, upd_same, h2.dropLast.mono (ext_write hm (nf_lst h1))⟩ h4
    · cases e
  · cases e
theorem wide63 {i : Int} (h : wide62 i = true) : -(2 ^ 63) ≤ i ∧ i < 2 ^ 63 := by
  have := of_decide_eq_true h
  omega
theorem mt_popAtL : MtR X "list.pop" (rMth X .lpopAt) := by
  intro pins s σ H x xs v us Q I rx rs ⟨L, h, p, ps, r, h', hr, vp, vs, e, post⟩
  replace e : mPopAt p ps h = .ok r h' := e
  unfold mPopAt at e
  split at e
  rotate_left
  · cases e
  rename_i n i
  split at e
  · rename_i ys hc
    split at e
    · rename_i hw
      split at e
      · rename_i k hk
        split at e
        · rename_i y hy
          cases e
          obtain ⟨a, vs', rfl, hn, hm, h1, h2⟩ := live_lst hr vp hc
          obtain ⟨q, rfl, vq⟩ := vrs1 vs
          cases vq
          obtain ⟨z, h3, h4⟩ := h2.get' hy
          obtain ⟨w1, w2⟩ := wide63 hw
          refine mt_popAt pins s σ H (.ref a) [.int i] v us Q I rx rs ⟨a, vs', i, k, z, rfl, rfl, h1, w1, w2, by rw [h2.length]; exact hk, h3, ?_⟩
          exact Post.wr hr hn (nf_lst h1) post ⟨_, upd_same, (h2.eraseIdx k).mono (ext_write hm (nf_lst h1))⟩ h4
        · cases e
      · cases e
    · cases e
  · cases e
theorem mt_idx (hu : Um X) : MtR X "list.index" (rMth X .lidx) := by
  intro pins s σ H x xs v us Q I rx rs ⟨L, h, p, ps, r, h', hr, vp, vs, e, post⟩
  replace e : mIdx p ps h = .ok r h' := e
  unfold mIdx at e
  split at e
  rotate_left
  · cases e
  rename_i k
  split at e
  · rename_i ys hc
    split at e
    · rename_i ds d e1 e2
      split at e
      · rename_i hsh
        rw [Bool.and_eq_true] at hsh
        split at e
        · rename_i j hj
          cases e
          obtain ⟨a, vs', rfl, h1, h2⟩ := vp.list hr hc
          obtain ⟨y, rfl, vy⟩ := vrs1 vs
          obtain ⟨hlt, p1, p2⟩ := List.findIdx?_eq_some_iff_getElem.mp hj
          refine mt_indexD (um65 hu) pins s σ H (.ref a) [y] v us Q I rx rs ⟨a, y, d, ds, j, ds[j], rfl, rfl, .lst (sqr h1) (VRs.dp _ _ _ h2 e1), vy.resDp hr e2, hsh.1, hsh.2, List.getElem?_eq_getElem hlt, p1, fun m z' hm hz => ?_, post.same hr (.int _)⟩
          obtain ⟨hm2, rfl⟩ := List.getElem?_eq_some_iff.mp hz
          have := p2 m hm
          simpa using this
        · cases e
      · cases e
    · cases e
  · cases e
theorem mt_getD (hu : Um X) : MtR X "dict.get" (rMth X .dget) := by
  intro pins s σ H x xs v us Q I rx rs ⟨L, h, p, ps, r, h', hr, vp, vs, e, post⟩
  replace e : mGet p ps h = .ok r h' := e
  unfold mGet at e
  split at e
  rotate_left
  · cases e
  rename_i k z
  split at e
  · rename_i es hc
    split at e
    · rename_i ok
      cases e
      obtain ⟨a, rfl, d⟩ := vp.dict hr hc
      cases rx
      cases vs with
      | cons v1 v2 =>
        obtain ⟨y, rfl, vy⟩ := vrs1 v2
        cases rs with
        | cons r1 r2 =>
          cases r2 with
          | cons r2 r3 =>
            cases r3
            exact dict_getD hu I d ok v1 r1 vy r2 fun y' w' s' I' vy' rw' => ⟨y', H, I', rw', post.same hr vy'⟩
    · cases e
  · cases e
theorem mt_getD1 (hu : Um X) : MtR X "dict.get" (rMth X .dget1) := by
  intro pins s σ H x xs v us Q I rx rs ⟨L, h, p, ps, r, h', hr, vp, vs, e, post⟩
  replace e : mGet1 p ps h = .ok r h' := e
  unfold mGet1 at e
  split at e
  rotate_left
  · cases e
  rename_i k
  split at e
  · rename_i es hc
    split at e
    · rename_i ok
      cases e
      obtain ⟨a, rfl, d⟩ := vp.dict hr hc
      cases rx
      cases vs with
      | cons v1 v2 =>
        cases v2
        cases rs with
        | cons r1 r2 =>
          cases r2
          exact dict_get1 hu I d ok v1 r1 fun y' w' s' I' vy' rw' => ⟨y', H, I', rw', post.same hr vy'⟩
    · cases e
  · cases e
variable {o a : Expr} {es : List Expr} {f : Env → PHeap → R PV} {fs : Env → PHeap → R (List PV)} {name : Str} {apos cpos : Pos} {T id : String} {m : Mth}
def methF (m : Mth) (f : Env → PHeap → R PV) (fs : Env → PHeap → R (List PV)) : Env → PHeap → R PV := fun env h => (f env h).bind fun x h => if recv m h x then (fs env h).bind fun vs h => methop m x vs h else .bad
/-- of that type, with no dict of its own -/
def OfT (m : Mth) (T : String) : Prop := ∀ {X : Cx} {pins : List (Addr × Obj)} {σ : L2.St} {H : Hp} {s : Shared} {L : List Addr} {h : PHeap} {p : PV} {x : V} {v : Value}, Inv X pins σ H s → HR (wd X) L h H → VR (wd X) L H p x → RelV x v → recv m h p = true →
  s.TypeIs v T ∧ ∀ a, v = .ref a → ∃ ob, s.heap.get? a = some ob ∧ ob.dict = none
theorem ofT_dict {m : Mth} (hm : ∀ h p, recv m h p = true → (asDict h p).isSome = true) : OfT m "dict" := fun {X pins σ H s L h p x v} I hr vp rx e => by
  obtain ⟨es, e1⟩ := Option.isSome_iff_exists.mp (hm _ _ e)
  obtain ⟨a, rfl, d⟩ := vp.dict hr e1
  cases rx
  obtain ⟨h1, h2⟩ := dict_typ I d
  exact ⟨h1, fun b eb => by cases eb; exact h2⟩
theorem ofT_list {m : Mth} (hm : ∀ h p, recv m h p = true → (asList h p).isSome = true) : OfT m "list" := fun {X pins σ H s L h p x v} I hr vp rx e => by
  obtain ⟨es, e1⟩ := Option.isSome_iff_exists.mp (hm _ _ e)
  obtain ⟨a, vs, rfl, h1, h2⟩ := vp.list hr e1
  exact tyV_is I rx (.inl ⟨rfl, vs, .inl h1⟩)
theorem se_meth (tyOk : OfT m T) (pa : PlainAttrs T) (slot : Slot T name id) (hty : typeOf (.builtin id) = pure (.type "method_descriptor")) (hm : MtR X id (rMth X m)) (ho : PE X o (rE X f)) (ha : PA X (a :: es) (rA X fs)) (hok : (a :: es).all okArg = true) (hl : (a :: es).length < 30)
    (hbase : okBase o = true) (hline : (apos.endLine == cpos.line) = true) : PE X (.Call (.Attribute o name apos) (a :: es) [] cpos) (rE X (methF m f fs)) := by
  have hall : ∀ (l : List Expr), l.all okArg = true → (backTo cpos (starEach l X.env)).all (fun x => !x.1) = true := fun l hl => by
    have := plain_all (pos := cpos) (env := X.env) hl
    rw [List.any_eq_false] at this
    rw [List.all_eq_true]
    intro x hx
    simpa using this x hx
  have hfew : ((backTo cpos (starEach (a :: es) X.env)).all (fun x => !x.1) && (backToKw cpos (keywordEach [] X.env)).all (fun x => x.1.isSome)
      && decide ((a :: es).length + ([] : List Keyword).length + (if ([] : List Keyword).isEmpty then 0 else 1) < 30)) = true := by
    rw [hall _ hok]
    have : (a :: es).length + ([] : List Keyword).length + (if ([] : List Keyword).isEmpty then 0 else 1) < 30 := by simpa using hl
    rw [decide_eq_true this]
    rfl
  rw [List.all_cons, Bool.and_eq_true] at hok
  have hs := star_ok hok.1 es X.env
  have hplain := plain_all (pos := cpos) (env := X.env) hok.2
  refine ⟨fun pins s σ H Q I ⟨L, h, env, v, h', hr, er, e, post⟩ => ?_⟩
  obtain ⟨p, h1, e1, e2⟩ := R.bind_eq_ok e
  split at e2
  · rename_i hrec
    obtain ⟨ps, h2, e3, e4⟩ := R.bind_eq_ok e2
    refine wpAny_Call_method_late (base_ok hbase _ _ _) hfew hline rfl (thn (ho.run pins s σ H (fun x H1 => ∃ L1, Ext L H L1 H1 ∧ HR (wd X) L1 h1 H1 ∧ VR (wd X) L1 H1 p x) I ⟨L, h, env, p, h1, hr, er, e1, fun x L1 H1 x1 hr1 v1 => ⟨L1, x1, hr1, v1⟩⟩) fun u s1 ⟨x, H1, I1, r1, L1, x1, hr1, v1⟩ => ?_)
    obtain ⟨t1, t2⟩ := tyOk I1 hr1 v1 r1 hrec
    refine ⟨T, id, pa, slot, hty, t1, t2, ?_⟩
    have hA := ha.run cpos pins s1 σ H1 (fun xs H2 => ∃ L2, Ext L1 H1 L2 H2 ∧ HR (wd X) L2 h2 H2 ∧ VRs (wd X) L2 H2 ps xs) I1 ⟨L1, h1, env, ps, h2, hr1, er.mono x1, e3, fun xs L2 H2 x2 hr2 v2 => ⟨L2, x2, hr2, v2⟩⟩
    rw [hs] at hA ⊢
    refine Calls.callWith_builtin (by show (false || (backTo cpos (starEach es X.env)).any (·.1)) = false; rw [hplain]; rfl) (Calls.evalArgs_plain ?_)
    refine thn hA fun us s2 ⟨xs, H2, I2, r2, L2, x2, hr2, v2⟩ => hm pins s2 σ H2 x xs u us Q I2 r1 r2 ⟨L2, h2, p, ps, v, h', hr2, v1.mono x2, v2, e4, post.aft hr (x1.tr hr x2)⟩
  · cases e2
theorem se_meth0 (tyOk : OfT m T) (pa : PlainAttrs T) (slot : Slot T name id) (hty : typeOf (.builtin id) = pure (.type "method_descriptor")) (hm : MtR X id (rMth X m)) (ho : PE X o (rE X f))
    (hbase : okBase o = true) (hline : (apos.endLine == cpos.line) = true) : PE X (.Call (.Attribute o name apos) [] [] cpos) (rE X (methF m f nilF)) := by
  refine ⟨fun pins s σ H Q I ⟨L, h, env, v, h', hr, er, e, post⟩ => ?_⟩
  obtain ⟨p, h1, e1, e2⟩ := R.bind_eq_ok e
  split at e2
  · rename_i hrec
    obtain ⟨ps, h2, e3, e4⟩ := R.bind_eq_ok e2
    cases e3
    refine wpAny_Call_method0_late (base_ok hbase _ _ _) hline (thn (ho.run pins s σ H (fun x H1 => ∃ L1, Ext L H L1 H1 ∧ HR (wd X) L1 h1 H1 ∧ VR (wd X) L1 H1 p x) I ⟨L, h, env, p, h1, hr, er, e1, fun x L1 H1 x1 hr1 v1 => ⟨L1, x1, hr1, v1⟩⟩) fun u s1 ⟨x, H1, I1, r1, L1, x1, hr1, v1⟩ => ?_)
    obtain ⟨t1, t2⟩ := tyOk I1 hr1 v1 r1 hrec
    exact ⟨T, id, pa, slot, hty, t1, t2, Calls.callWith_builtin rfl (PySem.evalArgs_none (hm pins s1 σ H1 x [] u [] Q I1 r1 .nil ⟨L1, h1, p, [], v, h', hr1, v1, .nil, e4, post.aft hr x1⟩))⟩
  · cases e2
end
end HW
/-! HwO: reversed slices, the empty dict. -/
namespace HW
open PySem PySem.Spec PyProof.Rows L2 C8 HT

theorem adjust_rev (n : Nat) : Builtin.Slice.sliceAdjust none none (-1) (n : Int) = ((n : Int) - 1, -1) := by
  unfold Builtin.Slice.sliceAdjust
  simp
theorem places_rev (n : Nat) : Builtin.Slice.slicePlaces ((n : Int) - 1) (-1) (-1) = n := by
  unfold Builtin.Slice.slicePlaces
  have h1 : ¬ ((-1 : Int) > 0) := by omega
  simp only [h1, if_false]
  split
  · rw [show (- -1 : Int) = 1 by decide, Int.ediv_one]; omega
  · omega
theorem pick_rev (xs : Array Value) : ((List.range xs.size).filterMap fun (m : Nat) => xs[(((xs.size : Nat) : Int) - 1 + (m : Int) * (-1)).toNat]?).toArray = xs.toList.reverse.toArray := by
  congr 1
  apply List.ext_getElem?
  intro i
  have key : ((List.range xs.size).filterMap fun (m : Nat) => xs[(((xs.size : Nat) : Int) - 1 + (m : Int) * (-1)).toNat]?) = (List.range xs.size).pmap (fun m (h : m < xs.size) => xs[xs.size - 1 - m]'(by omega)) (fun m hm => List.mem_range.mp hm) := by
    have : ∀ (l : List Nat) (h : ∀ m ∈ l, m < xs.size), (l.filterMap fun (m : Nat) => xs[(((xs.size : Nat) : Int) - 1 + (m : Int) * (-1)).toNat]?) = l.pmap (fun m (h : m < xs.size) => xs[xs.size - 1 - m]'(by omega)) h := by
      intro l h
      induction l with
      | nil => rfl
      | cons m l ih =>
        have hm := h m (by simp)
        have e : (((xs.size : Nat) : Int) - 1 + (m : Int) * (-1)).toNat = xs.size - 1 - m := by omega
        rw [List.filterMap_cons, e, Array.getElem?_eq_getElem (by omega), List.pmap_cons, ih fun m hm => h m (by simp [hm])]
    exact this _ fun m hm => List.mem_range.mp hm
  rw [key]
  by_cases hi : i < xs.size
  · rw [List.getElem?_pmap]
    rw [List.getElem?_reverse (by simpa using hi)]
    simp [hi]
  · rw [List.getElem?_eq_none (by simpa using hi), List.getElem?_eq_none (by simpa using hi)]
section
variable {prog : Program} {w : World} {A : Around} {E : Value → Shared → Prop} {s : Shared}
theorem sliceApplied_rev {sl : Addr} {vl vu vs : Value} {n : Nat} {Q : Int × Int × Nat → Shared → Prop} (hs : s.heap.IsSliceOf sl vl vu vs) (pl : IsPart vl none) (pu : IsPart vu none) (ps : IsPart vs (some (-1)))
    (h : Q ((n : Int) - 1, -1, n) s) : wpAny (model prog w) A (Builtin.Slice.sliceApplied (.ref sl) (pure (n : Int))) Q E s := by
  obtain ⟨os, hos, hcs, hds⟩ := id hs
  unfold Builtin.Slice.sliceApplied Builtin.Slice.sliceFields
  refine wpAny_bind (wpAny_bind (wpAny_field hos hds (x := vl) rfl (wpAny_bind (wpAny_field hos hds (x := vu) rfl (wpAny_bind (wpAny_field hos hds (x := vs) rfl (wpAny_pure ?_)))))))
  refine wpAny_bind (slicePart_ ps ?_)
  show wpAny _ _ (if ((-1 : Int) == 0) = true then _ else _) _ _ s
  rw [if_neg (by decide)]
  refine wpAny_bind (slicePart_ pl (wpAny_bind (slicePart_ pu (wpAny_bind (wpAny_pure ?_)))))
  show wpAny _ _ (match Builtin.Slice.sliceAdjust none none (-1) (n : Int) with | (lo, hi) => pure (lo, (-1 : Int), Builtin.Slice.slicePlaces lo hi (-1))) _ _ s
  rw [adjust_rev n]
  show wpAny _ _ (pure (((n : Int) - 1), (-1 : Int), Builtin.Slice.slicePlaces ((n : Int) - 1) (-1) (-1))) _ _ s
  rw [places_rev]
  exact wpAny_pure h
theorem getItem_tuple_rev {t sl : Addr} {items : Array Value} {vl vu vs : Value} {Q : Value → Shared → Prop} (ht : IsTup s.heap t items) (hs : s.heap.IsSliceOf sl vl vu vs) (pl : IsPart vl none) (pu : IsPart vu none) (ps : IsPart vs (some (-1)))
    (h : Q (.ref s.heap.objs.size) { s with heap := s.heap.push { cls := .type "tuple", data := .seq items.toList.reverse.toArray } })
    (hsz : items.size ≤ sizeLine) : wpAny (model prog w) A (getItem (.ref t) (.ref sl)) Q E s := by
  have htake : sizeOk (.seq items.toList.reverse.toArray) := by
    show items.toList.reverse.toArray.size ≤ sizeLine
    rw [List.size_toArray, List.length_reverse, Array.length_toList]
    exact hsz
  obtain ⟨os, hos, hcs, hds⟩ := id hs
  have hTs : s.TypeIs (.ref sl) "slice" := ⟨os, hos, hcs⟩
  unfold getItem
  try with_reducible refine wpAny_holding ?_
  first | refine wpAny_bind (wpAny_pure ?_) | skip
  refine wpAny_bind (wpAny_sequenceKey ht.typeIs (by decide) ?_)
  refine wpAny_bind (wpAny_callSpecial?_slot (name := Str.ofString "__getitem__") ht.typeIs PyProof.Rows.slot_tuple_getitem
    (wpAny_call_entry PyProof.Rows.slot_tuple_getitem ht.typeIs entry_tuple_getitem ?_ (args_tuple_getitem _ _)))
  show wpAny _ _ (Builtin.Tuple.tupleItemsOf (.ref t) >>= _) _ _ s
  refine wpAny_bind (tupleItemsOf_ ht ?_)
  refine wpAny_bind (wpAny_typeOf hTs ?_)
  rw [if_pos (by decide)]
  refine wpAny_bind (sliceApplied_rev hs pl pu ps ?_)
  have hno : ¬ ((((items.size : Nat) : Int) - 1 == 0 && (-1 : Int) == 1 && (items.size == items.size)) = true) := by simp
  show wpAny _ _ (if (((items.size : Nat) : Int) - 1 == 0 && (-1 : Int) == 1 && (items.size == items.size)) = true then _ else _) _ _ s
  rw [if_neg hno, pick_rev]
  first
    | exact wpAny_bind (m := Builtin.Tuple.tupleExact _) (wpAny_newObj_type (wpAny_pure ⟨_, rfl, wpAny_pure h⟩) htake)
    | exact wpAny_bind (m := Builtin.Tuple.tupleExact _) (wpAny_newObj_type (wpAny_bind (wpAny_pure (wpAny_pure ⟨_, rfl, wpAny_pure h⟩))) htake)
    | exact wpAny_bind (wpAny_bind (m := Builtin.Tuple.tupleExact _) (wpAny_newObj_type (wpAny_pure (wpAny_pure ⟨_, rfl, wpAny_pure h⟩)) htake))
    | exact wpAny_bind (wpAny_bind (m := Builtin.Tuple.tupleExact _) (wpAny_newObj_type (wpAny_pure ⟨_, rfl, wpAny_pure h⟩) htake))
end
section
variable {X : Cx} {a st : Expr} {f g : Env → PHeap → R PV} {pos p3 : Pos}
def revF (f g : Env → PHeap → R PV) : Env → PHeap → R PV := fun env h => (f env h).bind fun x h => (g env h).bind fun y h => R.of (if y = .int (-1) then revOf h x else none) h
theorem se_rev (ha : PE X a (rE X f)) (hs : PE X st (rE X g)) : PE X (.Subscript a (.Slice none none (some st) p3) pos) (rE X (revF f g)) := by
  refine ⟨fun pins s σ H Q I ⟨L, h, env, v, h', hr, er, e, post⟩ => ?_⟩
  obtain ⟨p, h1, e1, e⟩ := R.bind_eq_ok e
  obtain ⟨y, h2, e2, e⟩ := R.bind_eq_ok e
  obtain ⟨e9, rfl⟩ := R.of_eq_ok e
  clear e
  split at e9
  · rename_i hy
    subst hy
    refine Subscript_ (thn (ha.run pins s σ H (fun x H1 => ∃ L1, Ext L H L1 H1 ∧ HR (wd X) L1 h1 H1 ∧ VR (wd X) L1 H1 p x) I ⟨L, h, env, p, h1, hr, er, e1, fun x L1 H1 x1 hr1 v1 => ⟨L1, x1, hr1, v1⟩⟩) fun u s1 ⟨x, H1, I1, r1, L1, x1, hr1, v1⟩ => ?_)
    have hst := so_some hs
    refine wpAny_Slice (thn (po_none.run pins s1 σ H1 (fun o H2 => o = none ∧ H2 = H1) I1 ⟨rfl, rfl⟩) fun vl s2 ⟨l, H2, I2, pl, el, e2'⟩ => ?_)
    subst el e2'
    refine thn (po_none.run pins s2 σ H2 (fun o H3 => o = none ∧ H3 = H2) I2 ⟨rfl, rfl⟩) fun vu s3 ⟨u', H3, I3, pu, eu, e3⟩ => ?_
    subst eu e3
    refine thn (hst.run pins s3 σ H3 (fun o H4 => o = some (-1) ∧ ∃ L4, Ext L1 H3 L4 H4 ∧ HR (wd X) L4 h' H4) I3 ⟨L1, h1, env, some (-1), h', hr1, er.mono x1, by unfold someF; rw [e2]; rfl, fun L4 H4 x4 hr4 => ⟨rfl, L4, x4, hr4⟩⟩) fun vs s4 ⟨o, H4, I4, ps, eo, L4, x4, hr4⟩ => ?_
    subst eo
    have xx := x1.tr hr x4
    have v4 := v1.mono x4
    have I5 : Inv X pins σ H4 { s4 with heap := s4.heap.push { cls := .type "slice", data := .fields #[vl, vu, vs] } } := I4.kept (t' := s4.toks) fun b ob q => Heap.get?_push_of_some _ q
    show wpAny (model X.prog X.w) X.A (subscriptTail a (.Slice none none (some st) p3) u (.ref s4.heap.objs.size)) (EP X pins σ Q) X.xe { s4 with heap := s4.heap.push { cls := .type "slice", data := .fields #[vl, vu, vs] } }
    unfold revOf at e9
    split at e9
    · cases e9
      cases v4 with
      | tup h1 h2 h3 =>
        cases r1
        obtain ⟨its, r, ht, hz⟩ := I5.tuple (TupAt.sq h1)
        have hlen := r.length
        refine tail_any (T := "tuple") (id := "tuple.__getitem__") (ops := [.ref _, .ref s4.heap.objs.size]) ht.typeIs (PyProof.Rows.slot_tuple_getitem.lookup) ?_ (by with_unfolding_all rfl)
        refine getItem_tuple_rev ht (Heap.IsSliceOf.new _ vl vu vs) pl pu ps ?_ (by rw [List.size_toArray]; omega)
        exact tup_ep I5 hr4 (post.aft hr xx) h3.reverse r.reverse (by rw [List.length_reverse]; exact hz) s4.toks
    · obtain ⟨xs, ex, rfl⟩ := Option.map_eq_some_iff.mp e9
      obtain ⟨a', vs', rfl, h1, h2⟩ := v4.list hr4 ex
      cases r1
      obtain ⟨its, r, ht, hz⟩ := I5.list (sqr h1)
      have hlen := r.length
      refine tail_any (ops := [.ref _, .ref s4.heap.objs.size]) ht.isList.typeIs (PySem.slot_list_getitem.lookup) ?_ (by with_unfolding_all rfl)
      refine wpAny_getItem_list_slice ht.isList (Heap.IsSliceOf.new _ vl vu vs) pl pu ps (by decide) ?_ (by rw [List.size_toArray]; omega)
      rw [PySem.W.krv_pick]
      refine mk_ep (al := false) (I5.laid (t' := s4.toks) (o := .lst vs'.reverse) (fun b ob q => Heap.get?_push_of_some _ q) (Nat.le_refl _) ?_) (I5.hok.fresh (Nat.le_refl _)) rfl (post.aft hr xx) hr4 h2.reverse
      exact ⟨by rw [List.length_reverse]; exact hz, _, 0, r.reverse, Heap.get?_push_size _ rfl⟩
  · cases e9
/-- {} -/
theorem se_dct0 {al : Bool} : PE X (.Dict [] [] pos) (rE X fun env h => mkDict al [] h) := by
  refine ⟨fun pins s σ H Q I ⟨L, h, env, v, h', hr, er, e, post⟩ => ?_⟩
  have hs : (s.heap.objs.size == sysModules) = false := by
    rw [beq_eq_false_iff_ne]
    exact Nat.ne_of_gt I.big
  refine wpAny_Dict_empty ?_
  have dd : (s.heap.push { cls := .type "dict", data := .dict #[] }).DictOf (mixKind X.prog X.w) s.heap.objs.size [] := Heap.DictOf.new ..
  exact ep_dict (tk := s.toks) I e post hr (fun b o q => Heap.get?_push_of_some _ q) ⟨_, Heap.get?_push_size _ rfl⟩ (fun _ => dk_new (Nat.zero_le _) hs .nil dd) fun L' o' ex W hW => DP.ofK hW .nil
end
end HW
/-! HwP: what is walked. -/
namespace HW
open PySem PySem.Spec PyProof.Rows L2 C8 RZ

/-- what is fixed stays *)-/
structure ExtW (L : List Addr) (H : Hp) (L' : List Addr) (H' : Hp) : Prop where
  pre : ∃ M, L' = L ++ M ∧ ∀ a ∈ M, ∀ o u, H a ≠ some (.frz o u)
  frz : ∀ a o u, H a = some (.frz o u) → H' a = some (.frz o u)
section
variable {Z : Wd} {L L' L'' : List Addr} {H H' H'' : Hp}
theorem Ext.w (e : Ext L H L' H') : ExtW L H L' H' := ⟨let ⟨M, h1, h2⟩ := e.pre; ⟨M, h1, fun a ha o u q => by rw [h2 a ha] at q; cases q⟩, e.frz⟩
theorem ExtW.refl : ExtW L H L H := (Ext.refl : Ext L H L H).w
theorem ExtW.trE (e : ExtW L H L' H') (f : Ext L' H' L'' H'') : ExtW L H L'' H'' := by
  obtain ⟨M, rfl, hM⟩ := e.pre
  obtain ⟨N, rfl, hN⟩ := f.pre
  refine ⟨⟨M ++ N, by simp, fun a ha o u q => ?_⟩, fun a o u q => f.frz _ _ _ (e.frz _ _ _ q)⟩
  rcases List.mem_append.mp ha with x | x
  · exact hM a x o u q
  · have := e.frz _ _ _ q
    rw [hN a x] at this
    cases this
theorem ExtW.touch {D : Addr} {o : HO} (e : ExtW L H L' H') (hf : NF H' D) : ExtW L H L' (upd H' D o) := ⟨e.pre, fun a o' u q => by
  have := e.frz _ _ _ q
  rw [upd_ne fun x => hf o' u (by rw [← x]; exact this)]
  exact this⟩
theorem ExtW.mem (e : ExtW L H L' H') {a : Addr} {o : Obj} {u : HO} (hn : a ∉ L) (ho : H a = some (.frz o u)) : a ∉ L' := by
  obtain ⟨M, rfl, hM⟩ := e.pre
  intro q
  rcases List.mem_append.mp q with q | q
  · exact hn q
  · exact hM a q o u ho
theorem ExtW.get (e : ExtW L H L' H') {n : Nat} {a : Addr} (x : L[n]? = some a) : L'[n]? = some a := by
  obtain ⟨M, rfl, hM⟩ := e.pre
  obtain ⟨hl, rfl⟩ := List.getElem?_eq_some_iff.mp x
  rw [List.getElem?_append_left hl]
  exact x
theorem ExtW.tup (e : ExtW L H L' H') {a : Addr} {vs : List V} (hn : a ∉ L) (x : TupAt H a vs) : TupAt H' a vs ∧ a ∉ L' := by
  obtain ⟨o, h1, h2⟩ := x
  exact ⟨⟨o, e.frz _ _ _ h1, h2⟩, e.mem hn h1⟩
theorem ExtW.fz (e : ExtW L H L' H') {a : Addr} {u : HO} (hn : a ∉ L) (x : FzAt H a u) : FzAt H' a u ∧ a ∉ L' := let ⟨o, h⟩ := x; ⟨⟨o, e.frz _ _ _ h⟩, e.mem hn h⟩
mutual
theorem VR.monW (e : ExtW L H L' H') : ∀ {p : PV} {v : V}, VR Z L H p v → VR Z L' H' p v
  | _, _, .non => .non
  | _, _, .bl b => .bl b
  | _, _, .int b => .int b
  | _, _, .str b => .str b
  | _, _, .tup h1 h2 h3 => .tup (e.tup h2 h1).1 (e.tup h2 h1).2 (VRs.monW e h3)
  | _, _, .lst h1 h2 h3 => .lst (e.fz h2 h1).1 (e.fz h2 h1).2 (VRs.monW e h3)
  | _, _, .scr h1 h2 => .scr (e.fz h2 h1).1 (e.fz h2 h1).2
  | _, _, .scrK h1 => .scrK h1
  | _, _, .dctK h1 h2 h3 h4 => .dctK (e.fz h2 h1).1 (e.fz h2 h1).2 h3 (VRs.monW e h4)
  | _, _, .dctT h1 h2 h0 h3 h4 h5 h6 => .dctT (e.fz h2 h1).1 (e.fz h2 h1).2 h0 h3 h4 (VRs.monW e h5) (VRs.monW e h6)
  | _, _, .ref h1 => .ref (e.get h1)
theorem VRs.monW (e : ExtW L H L' H') : ∀ {p : List PV} {v : List V}, VRs Z L H p v → VRs Z L' H' p v
  | _, _, .nil => .nil
  | _, _, .cons h1 h2 => .cons (VR.monW e h1) (VRs.monW e h2)
end
theorem ER.monW {env : Env} {σ : L2.St} (e : ExtW L H L' H') (x : ER Z L H env σ) : ER Z L' H' env σ := ⟨x.len, fun i v h1 => let ⟨y, h2, h3⟩ := x.at_ i v h1; ⟨y, h2, h3.monW e⟩⟩
end
/-- what a walk gives: any value, or a tuple that is only taken apart -/
def YR (Z : Wd) (L : List Addr) (H : Hp) (t : Bool) (p : PV) (x : V) : Prop := match t with
  | false => VR Z L H p x
  | true => ∃ ys a vs, (p = .tup ys ∧ SqT Z.K H a vs ∨ p = .lst ys ∧ SqL Z.K H a vs) ∧ x = .ref a ∧ VRs Z L H ys vs
def WalkOk (Z : Wd) (t : Bool) (L : List Addr) (H : Hp) (J : It) (xs : List PV) (chk : Chk) : Prop :=
  ∀ i L' H' g, ExtW L H L' H' → HR Z L' g H' → chk g = true →
    (i = xs.length → J.stop i H') ∧ ∀ p, xs[i]? = some p → J.go i H' ∧ ∀ v H'', J.yld i H' v H'' → Ext L' H' L' H'' ∧ HR Z L' g H'' ∧ YR Z L' H'' t p v
def rI (X : Cx) (t : Bool) (f : Env → PHeap → R (List PV × Chk)) : TI := fun σ H R => ∃ L h env p h', HR (wd X) L h H ∧ ER (wd X) L H env σ ∧ f env h = .ok p h' ∧ ∀ J L' H', Ext L H L' H' → HR (wd X) L' h' H' → WalkOk (wd X) t L' H' J p.1 p.2 → R J H'
theorem imI {X : Cx} {tg it : Expr} {t t' : TI} (h : PI X tg it t) (i : ∀ σ H R, t' σ H R → t σ H R) : PI X tg it t' := ⟨fun pins s σ H R I q => h.run pins s σ H R I (i σ H R q)⟩
section
variable {Z : Wd} {L : List Addr} {H : Hp} {xs : List PV} {chk : Chk}
theorem walk_tup {a : Addr} {vs : List V} (h1 : TupAt H a vs) (hn : a ∉ L) (v : VRs Z L H xs vs) : WalkOk Z false L H (Itt Z.K a) xs chk := fun i L' H' g ex hr _ => by
  have h2 := (ex.tup hn h1).1
  have v' := v.monW ex
  refine ⟨fun e => ⟨vs, h2.sq, by rw [v'.length]; omega⟩, fun p hp => ?_⟩
  obtain ⟨x, hx, vx⟩ := v'.get' hp
  refine ⟨⟨vs, x, h2.sq, hx⟩, fun u H'' y => ?_⟩
  obtain ⟨rfl, y⟩ := y
  have := y vs h2.sq
  rw [hx] at this
  cases this
  exact ⟨Ext.refl, hr, vx⟩
/-- a list that is known to be there as long as chk holds -/
theorem walk_lst {a : Addr} (hk : ∀ L' H' g, ExtW L H L' H' → HR Z L' g H' → chk g = true → ∃ vs, Rd H' a (.lst vs) ∧ VRs Z L' H' xs vs) : WalkOk Z false L H (Itl Z.K a) xs chk := fun i L' H' g ex hr hc => by
  obtain ⟨vs, h2, v'⟩ := hk L' H' g ex hr hc
  refine ⟨fun e => ⟨vs, sqr h2, by rw [v'.length]; omega⟩, fun p hp => ?_⟩
  obtain ⟨x, hx, vx⟩ := v'.get' hp
  refine ⟨⟨vs, x, sqr h2, hx⟩, fun u H'' y => ?_⟩
  obtain ⟨rfl, y⟩ := y
  have := y vs (sqr h2)
  rw [hx] at this
  cases this
  exact ⟨Ext.refl, hr, vx⟩
/-- the list that stands behind a source -/
theorem list_at {h : PHeap} {p : PV} {x : V} (hr : HR Z L h H) (v : VR Z L H p x) (e : listSrc h p = some (xs, chk)) :
    ∃ a vs, x = .ref a ∧ Rd H a (.lst vs) ∧ ∀ L' H' g, ExtW L H L' H' → HR Z L' g H' → chk g = true → ∃ vs, Rd H' a (.lst vs) ∧ VRs Z L' H' xs vs := by
  unfold listSrc at e
  split at e
  · cases e
    cases v with
    | lst h1 h2 h3 => exact ⟨_, _, rfl, .inr h1, fun L' H' g ex _ _ => ⟨_, .inr (ex.fz h2 h1).1, h3.monW ex⟩⟩
  · rename_i n
    split at e
    · rename_i ys hc
      cases e
      obtain ⟨a, vs, rfl, hn, hm, h1, h2⟩ := live_lst hr v hc
      refine ⟨a, vs, rfl, .inl h1, fun L' H' g ex hr' ck => ?_⟩
      obtain ⟨vs', g1, g2⟩ := hr'.cell _ _ _ (of_decide_eq_true ck) (ex.get hn)
      exact ⟨vs', .inl g1, g2⟩
    · cases e
  · cases e
/-! ### the keys, the values, the pairs of a fixed dict -/
def ItK (d : Addr) (o : Obj) (ks : List V) : It := ⟨fun i H => (∃ u, H d = some (.frz o u)) ∧ i < ks.length, fun i H x H' => H' = H ∧ ks[i]? = some x, fun i H => (∃ u, H d = some (.frz o u)) ∧ ks.length ≤ i⟩
def ItP (d : Addr) (o : Obj) (ks vs : List V) : It := ⟨fun i H => (∃ u, H d = some (.frz o u)) ∧ i < ks.length ∧ i < vs.length,
  fun i H x H' => ∃ T k v, ks[i]? = some k ∧ vs[i]? = some v ∧ x = .ref T ∧ H T = none ∧ H' = upd H T (.tup [k, v]), fun i H => (∃ u, H d = some (.frz o u)) ∧ ks.length ≤ i⟩
theorem walk_keys {d : Addr} {o : Obj} {u : HO} {ks : List V} (h1 : H d = some (.frz o u)) (v : VRs Z L H xs ks) : WalkOk Z false L H (ItK d o ks) xs chk := fun i L' H' g ex hr _ => by
  have h2 := ex.frz _ _ _ h1
  have v' := v.monW ex
  refine ⟨fun e => ⟨⟨_, h2⟩, by rw [v'.length]; omega⟩, fun p hp => ?_⟩
  obtain ⟨x, hx, vx⟩ := v'.get' hp
  refine ⟨⟨⟨_, h2⟩, (List.getElem?_eq_some_iff.mp hx).1⟩, fun u H'' y => ?_⟩
  obtain ⟨rfl, y⟩ := y
  rw [hx] at y
  cases y
  exact ⟨Ext.refl, hr, vx⟩
theorem yr_pair {L' : List Addr} {H' : Hp} {g : PHeap} {T : Addr} {x y : V} {p q : PV} (hr : HR Z L' g H') (hT : H' T = none) (v1 : VR Z L' H' p x) (v2 : VR Z L' H' q y) :
    Ext L' H' L' (upd H' T (.tup [x, y])) ∧ HR Z L' g (upd H' T (.tup [x, y])) ∧ YR Z L' (upd H' T (.tup [x, y])) true (.tup [p, q]) (.ref T) :=
  ⟨ext_new hT, hr.new hT, [p, q], T, [x, y], .inl ⟨rfl, SqT.of upd_same⟩, rfl, .cons (v1.mono (ext_new hT)) (.cons (v2.mono (ext_new hT)) .nil)⟩
theorem walk_pairs {d : Addr} {o : Obj} {u : HO} {ks vs : List V} {es : List (PV × PV)} (h1 : H d = some (.frz o u)) (v : VRs Z L H (es.map (·.1)) ks) (w : VRs Z L H (es.map (·.2)) vs) : WalkOk Z true L H (ItP d o ks vs) (es.map fun e => .tup [e.1, e.2]) chk := fun i L' H' g ex hr _ => by
  have h2 := ex.frz _ _ _ h1
  have v' := v.monW ex
  have w' := w.monW ex
  refine ⟨fun e => ⟨⟨_, h2⟩, by rw [v'.length]; simpa using Nat.le_of_eq e.symm⟩, fun p hp => ?_⟩
  rw [List.getElem?_map] at hp
  obtain ⟨e, he, rfl⟩ := Option.map_eq_some_iff.mp hp
  obtain ⟨x, hx, vx⟩ := v'.get' (i := i) (y := e.1) (by rw [List.getElem?_map, he]; rfl)
  obtain ⟨y, hy, vy⟩ := w'.get' (i := i) (y := e.2) (by rw [List.getElem?_map, he]; rfl)
  refine ⟨⟨⟨_, h2⟩, (List.getElem?_eq_some_iff.mp hx).1, (List.getElem?_eq_some_iff.mp hy).1⟩, fun u H'' yl => ?_⟩
  obtain ⟨T, k, z, e1, e2, rfl, hT, rfl⟩ := yl
  rw [hx] at e1
  rw [hy] at e2
  cases e1
  cases e2
  exact yr_pair hr hT vx vy
theorem walk_enum {a : Addr} (hk : ∀ L' H' g, ExtW L H L' H' → HR Z L' g H' → chk g = true → ∃ vs, Rd H' a (.lst vs) ∧ VRs Z L' H' xs vs) : WalkOk Z true L H (Ite Z.K a) (enumOf xs) chk := fun i L' H' g ex hr hc => by
  obtain ⟨vs, h2, v'⟩ := hk L' H' g ex hr hc
  unfold enumOf
  refine ⟨fun e => ⟨vs, sqr h2, by rw [v'.length]; simpa using Nat.le_of_eq e.symm⟩, fun p hp => ?_⟩
  rw [List.getElem?_mapIdx] at hp
  obtain ⟨q, hq, rfl⟩ := Option.map_eq_some_iff.mp hp
  obtain ⟨x, hx, vx⟩ := v'.get' hq
  refine ⟨⟨vs, x, sqr h2, hx⟩, fun u H'' y => ?_⟩
  obtain ⟨T, x', rfl, hT, rfl, y⟩ := y
  have := y vs (sqr h2)
  rw [hx] at this
  cases this
  exact yr_pair hr hT (.int _) vx
theorem zip_get {xs ys : List PV} {i : Nat} {p : PV} (h : (zipOf xs ys)[i]? = some p) : ∃ x y, xs[i]? = some x ∧ ys[i]? = some y ∧ p = .tup [x, y] := by
  unfold zipOf at h
  rw [List.getElem?_zipWith] at h
  cases hx : xs[i]? with
  | none => rw [hx] at h; cases h
  | some x =>
    cases hy : ys[i]? with
    | none => rw [hx, hy] at h; cases h
    | some y => rw [hx, hy] at h; cases h; exact ⟨x, y, rfl, rfl, rfl⟩
theorem zip_len (xs ys : List PV) : (zipOf xs ys).length = min xs.length ys.length := by unfold zipOf; exact List.length_zipWith
theorem walk_zip {a b : Addr} {ys : List PV} {c c' : Chk} (hk : ∀ L' H' g, ExtW L H L' H' → HR Z L' g H' → c g = true → ∃ vs, Rd H' a (.lst vs) ∧ VRs Z L' H' xs vs)
    (hk' : ∀ L' H' g, ExtW L H L' H' → HR Z L' g H' → c' g = true → ∃ vs, Rd H' b (.lst vs) ∧ VRs Z L' H' ys vs) (hc : ∀ g, chk g = true → c g = true ∧ c' g = true) : WalkOk Z true L H (Itz Z.K a b) (zipOf xs ys) chk := fun i L' H' g ex hr ck => by
  obtain ⟨vs, h2, v'⟩ := hk L' H' g ex hr (hc g ck).1
  obtain ⟨ws, h3, w'⟩ := hk' L' H' g ex hr (hc g ck).2
  refine ⟨fun e => ⟨vs, ws, sqr h2, sqr h3, by rw [v'.length, w'.length, e, zip_len]; omega⟩, fun p hp => ?_⟩
  obtain ⟨q, q', h4, h5, rfl⟩ := zip_get hp
  obtain ⟨x, hx, vx⟩ := v'.get' h4
  obtain ⟨y, hy, vy⟩ := w'.get' h5
  refine ⟨⟨vs, ws, x, y, sqr h2, sqr h3, hx, hy⟩, fun u H'' yl => ?_⟩
  obtain ⟨T, x', y', rfl, hT, rfl, e1, e2⟩ := yl
  have e1 := e1 vs (sqr h2)
  have e2 := e2 ws (sqr h3)
  rw [hx] at e1
  rw [hy] at e2
  cases e1
  cases e2
  exact yr_pair hr hT vx vy
theorem walk_zipT {a b : Addr} {ys : List PV} {vs ws : List V} (h1 : TupAt H a vs) (n1 : a ∉ L) (v : VRs Z L H xs vs) (h2 : TupAt H b ws) (n2 : b ∉ L) (w : VRs Z L H ys ws) : WalkOk Z true L H (ItzT Z.K a b) (zipOf xs ys) chk := fun i L' H' g ex hr ck => by
  have h2' := (ex.tup n1 h1).1.sq (K := Z.K)
  have h3' := (ex.tup n2 h2).1.sq (K := Z.K)
  have v' := v.monW ex
  have w' := w.monW ex
  refine ⟨fun e => ⟨vs, ws, h2', h3', by rw [v'.length, w'.length, e, zip_len]; omega⟩, fun p hp => ?_⟩
  obtain ⟨q, q', h4, h5, rfl⟩ := zip_get hp
  obtain ⟨x, hx, vx⟩ := v'.get' h4
  obtain ⟨y, hy, vy⟩ := w'.get' h5
  refine ⟨⟨vs, ws, x, y, h2', h3', hx, hy⟩, fun u H'' yl => ?_⟩
  obtain ⟨T, x', y', rfl, hT, rfl, e1, e2⟩ := yl
  have e1 := e1 vs h2'
  have e2 := e2 ws h3'
  rw [hx] at e1
  rw [hy] at e2
  cases e1
  cases e2
  exact yr_pair hr hT vx vy
theorem walk_rng {lo hi : Int} (e : rangeOf lo hi = some xs) : WalkOk Z false L H (Itr lo (hi - lo).toNat) xs chk := fun i L' H' g ex hr ck => by
  unfold rangeOf at e
  split at e
  · cases e
    refine ⟨fun e => (show (hi - lo).toNat ≤ i by rw [e, List.length_map, List.length_range]; exact Nat.le_refl _), fun p hp => ?_⟩
    rw [List.getElem?_map] at hp
    obtain ⟨q, hq, rfl⟩ := Option.map_eq_some_iff.mp hp
    obtain ⟨hl, e2⟩ := List.getElem?_eq_some_iff.mp hq
    rw [List.getElem_range] at e2
    subst e2
    refine ⟨(show i < (hi - lo).toNat by rw [List.length_range] at hl; exact hl), fun u H'' y => ?_⟩
    obtain ⟨rfl, rfl⟩ := y
    exact ⟨Ext.refl, hr, .int _⟩
  · cases e
end
/-! ### the iterators -/
section
variable {P : Program} {w : World} {K : PySem.W.Frag} {tg : Expr} {d : Addr} {o : Obj} {es : Array DictEntry} {ep : Nat}
theorem raw_of {X : Cx} {pins : List (Addr × Obj)} {σ : L2.St} {H : Hp} {s : Shared} {u : HO} (I : Inv X pins σ H s) (h : H d = some (.frz o u)) (hod : o.data = .dict es ep) (hx : o.ExactDict) : s.heap.DictRaw d es ep :=
  ⟨o, (I.hok d _ h).1, hx, hod⟩
theorem turn_rkeys {ks : List V} (it : Addr) (hod : o.data = .dict es ep) (hx : o.ExactDict) (hk : Vals ks (es.toList.map (·.key))) : Turn P w K tg (ItK d o ks) [it] it (fun i h => h.IsKeyIter it d i es.size ep) where
  mem := by simp
  obj := fun i h st b hb => by
    have e : b = it := by simpa using hb
    subst e
    obtain ⟨oi, e, c, dd⟩ := st
    exact ⟨oi, e, fun v z => by rw [dd] at z; cases z⟩
  keep := fun i h h' st k => st.at fun oi e => k it (by simp) oi e
  item := by
    intro X hP hw hK hc i pins s σ H E I hf st hg
    subst hP hw hK
    obtain ⟨⟨u, hd⟩, hi⟩ := hg
    obtain ⟨f0, f1, f2, f3, f4, f5⟩ := hf it (by simp)
    have hl : ks.length = es.size := by rw [hk.length, List.length_map, Array.length_toList]
    have hi' : i < es.size := by omega
    obtain ⟨uk, hu, ru⟩ := hk.get (List.getElem?_eq_getElem hi)
    have hu' : uk = es[i].key := by
      rw [List.getElem?_map, Array.getElem?_toList, Array.getElem?_eq_getElem hi'] at hu
      exact (Option.some.inj hu).symm
    subst hu'
    refine wpAny_pyNext_keys_item_raw st (raw_of I hd hod hx) hi' fun h' st' sb => ?_
    have I1 : Inv X pins σ H { s with heap := h' } := I.turned (t' := s.toks) (fun b ob hb e => (sb.2 b hb).trans e) f0 f1 f3 f4 f5
    obtain ⟨oi, e, c, dd⟩ := id st'
    exact ⟨es[i].key, rfl, go_of (s := { s with heap := h' }) e c dd (by decide) ⟨ks[i], H, I1, ru, ⟨rfl, List.getElem?_eq_getElem hi⟩, st', fun b hb => (hf b hb).1⟩⟩
  done := by
    intro X hP hw hK hc i pins s σ H E I hf st hg
    subst hP hw hK
    obtain ⟨⟨u, hd⟩, hi⟩ := hg
    obtain ⟨f0, f1, f2, f3, f4, f5⟩ := hf it (by simp)
    have hl : ks.length = es.size := by rw [hk.length, List.length_map, Array.length_toList]
    exact wpAny_pyNext_keys_end_raw (I.ok.hd hc) st (raw_of I hd hod hx) (by omega) fun h' eb => ⟨rfl, I.turned (t' := s.toks) (fun b ob hb e => eb b ob hb e) f0 f1 f3 f4 f5⟩
  self := fun A i s Q E st h => wpAny_pyIter_keyiter st h
theorem turn_rvals {ks : List V} (it : Addr) (hod : o.data = .dict es ep) (hx : o.ExactDict) (hk : Vals ks (es.toList.map (·.val))) : Turn P w K tg (ItK d o ks) [it] it (fun i h => h.IsValIter it d i es.size ep) where
  mem := by simp
  obj := fun i h st b hb => by
    have e : b = it := by simpa using hb
    subst e
    obtain ⟨oi, e, c, dd⟩ := st
    exact ⟨oi, e, fun v z => by rw [dd] at z; cases z⟩
  keep := fun i h h' st k => st.at fun oi e => k it (by simp) oi e
  item := by
    intro X hP hw hK hc i pins s σ H E I hf st hg
    subst hP hw hK
    obtain ⟨⟨u, hd⟩, hi⟩ := hg
    obtain ⟨f0, f1, f2, f3, f4, f5⟩ := hf it (by simp)
    have hl : ks.length = es.size := by rw [hk.length, List.length_map, Array.length_toList]
    have hi' : i < es.size := by omega
    obtain ⟨uk, hu, ru⟩ := hk.get (List.getElem?_eq_getElem hi)
    have hu' : uk = es[i].val := by
      rw [List.getElem?_map, Array.getElem?_toList, Array.getElem?_eq_getElem hi'] at hu
      exact (Option.some.inj hu).symm
    subst hu'
    refine wpAny_pyNext_values_item_raw st (raw_of I hd hod hx) hi' fun h' st' sb => ?_
    have I1 : Inv X pins σ H { s with heap := h' } := I.turned (t' := s.toks) (fun b ob hb e => (sb.2 b hb).trans e) f0 f1 f3 f4 f5
    obtain ⟨oi, e, c, dd⟩ := id st'
    exact ⟨es[i].val, rfl, go_of (s := { s with heap := h' }) e c dd (by decide) ⟨ks[i], H, I1, ru, ⟨rfl, List.getElem?_eq_getElem hi⟩, st', fun b hb => (hf b hb).1⟩⟩
  done := by
    intro X hP hw hK hc i pins s σ H E I hf st hg
    subst hP hw hK
    obtain ⟨⟨u, hd⟩, hi⟩ := hg
    obtain ⟨f0, f1, f2, f3, f4, f5⟩ := hf it (by simp)
    have hl : ks.length = es.size := by rw [hk.length, List.length_map, Array.length_toList]
    exact wpAny_pyNext_values_end_raw (I.ok.hd hc) st (raw_of I hd hod hx) (by omega) fun h' eb => ⟨rfl, I.turned (t' := s.toks) (fun b ob hb e => eb b ob hb e) f0 f1 f3 f4 f5⟩
  self := fun A i s Q E st h => wpAny_pyIter_valiter st h
theorem turn_rpairs {ks vs : List V} {elts : List Expr} {kk : Nat} {tpos : Pos} (it : Addr) (hod : o.data = .dict es ep) (hx : o.ExactDict) (hk : Vals ks (es.toList.map (·.key))) (hv : Vals vs (es.toList.map (·.val))) :
    Turn P w K (.Tuple elts kk tpos) (ItP d o ks vs) [it] it (fun i h => ∃ ok ov, IsItemIter h it d i es.size ep ok ov) where
  mem := by simp
  obj := fun i h st b hb => by
    have e : b = it := by simpa using hb
    subst e
    obtain ⟨ok, ov, e⟩ := st
    exact ⟨_, e, fun v z => nomatch z⟩
  keep := fun i h h' st k => let ⟨ok, ov, e⟩ := st; ⟨ok, ov, k it (by simp) _ e⟩
  item := by
    intro X hP hw hK hc i pins s σ H E I hf st hg
    subst hP hw hK
    obtain ⟨⟨u0, hd⟩, hi, hiv⟩ := hg
    have hl : ks.length = es.size := by rw [hk.length, List.length_map, Array.length_toList]
    have hi' : i < es.size := by omega
    obtain ⟨uk, hu, ru⟩ := hk.get (List.getElem?_eq_getElem hi)
    obtain ⟨uv, hw, rw'⟩ := hv.get (List.getElem?_eq_getElem hiv)
    have hu' : uk = es[i].key := by
      rw [List.getElem?_map, Array.getElem?_toList, Array.getElem?_eq_getElem hi'] at hu
      exact (Option.some.inj hu).symm
    have hw' : uv = es[i].val := by
      rw [List.getElem?_map, Array.getElem?_toList, Array.getElem?_eq_getElem hi'] at hw
      exact (Option.some.inj hw).symm
    subst hu' hw'
    obtain ⟨ok, ov, he⟩ := st
    have hlt : it < s.heap.objs.size := Heap.lt_size he
    refine wpAny_pyNext_items_item_raw he (raw_of I hd hod hx) hi' fun h' ho hT hz hk' => ?_
    refine ⟨_, rfl, wpAny_letOwnedTupleGo_items (s := { s with heap := h' }) ho fun h'' he' sb => ?_⟩
    have hT2 : h''.get? s.heap.objs.size = some { cls := .type "tuple", data := .seq #[es[i].key, es[i].val] } := (sb.2 _ (Nat.ne_of_gt hlt)).trans hT
    have new : ObjOk X.prog X.w (upd H s.heap.objs.size (.tup [ks[i], vs[i]])) h'' s.heap.objs.size (.tup [ks[i], vs[i]]) :=
      ⟨by show 2 ≤ sizeLine; decide, [es[i].key, es[i].val], .cons ru (.cons rw' .nil), ⟨_, hT2, rfl, _, rfl⟩⟩
    have I1 : Inv X pins σ (upd H s.heap.objs.size (.tup [ks[i], vs[i]])) { s with heap := h'' } :=
      I.turnedNew (t' := s.toks) (ch := [it]) (fun b ob hb e => (sb.2 b (by simpa using hb)).trans (hk' b ob (by simpa using hb) e)) hf (Nat.le_refl _) new
    refine ⟨.ref s.heap.objs.size, _, I1, rfl, ⟨_, ks[i], vs[i], List.getElem?_eq_getElem hi, List.getElem?_eq_getElem hiv, rfl, I.hok.fresh (Nat.le_refl _), rfl⟩, ⟨_, _, he'⟩, fun b hb => ?_⟩
    have e : b = it := by simpa using hb
    rw [e, upd_ne (Nat.ne_of_lt hlt)]
    exact (hf it (by simp)).1
  done := by
    intro X hP hw hK hc i pins s σ H E I hf st hg
    subst hP hw hK
    obtain ⟨⟨u0, hd⟩, hi⟩ := hg
    have hl : ks.length = es.size := by rw [hk.length, List.length_map, Array.length_toList]
    obtain ⟨f0, f1, f2, f3, f4, f5⟩ := hf it (by simp)
    obtain ⟨ok, ov, he⟩ := st
    exact wpAny_pyNext_items_end_raw (I.ok.hd hc) he (raw_of I hd hod hx) (by omega) fun h' eb => ⟨rfl, I.turned (t' := s.toks) (fun b o hb e => eb b o hb e) f0 f1 f3 f4 f5⟩
  self := fun A i s Q E st h => let ⟨_, _, e⟩ := st; PySem.W.kcp_self e h
end
end HW
/-! HwQ: iterators by the evaluator; targets. -/
namespace HW
open PySem PySem.Spec PyProof.Rows L2 C8 RZ

section
variable {X : Cx} {tg a b : Expr} {f g : Env → PHeap → R PV} {pos p apos cpos tpos : Pos} {elts : List Expr} {kk : Nat}
/-- a fixed dict, its entries -/
theorem fix_raw {pins : List (Addr × Obj)} {σ : L2.St} {H : Hp} {s : Shared} {L : List Addr} {d : Addr} {es : List (PV × PV)} (I : Inv X pins σ H s) (dl : DL (wd X) L H d es) :
    ∃ o u rs ep, H d = some (.frz o u) ∧ s.heap.get? d = some o ∧ o.ExactDict ∧ o.data = .dict rs ep ∧ RawD (wd X) L H s d es rs ep := by
  obtain ⟨rs, ep, r⟩ := dict_raw I (DP.rdL dl)
  have : ∃ u o, H d = some (.frz o u) := by
    cases dl with
    | k h1 _ _ => obtain ⟨o, h⟩ := h1; exact ⟨_, o, h⟩
    | t h1 _ _ _ _ _ => obtain ⟨o, h⟩ := h1; exact ⟨_, o, h⟩
  obtain ⟨u, o, h⟩ := this
  obtain ⟨o', h1, h2, h3⟩ := r.raw
  have h4 : s.heap.get? d = some o := (I.hok d _ h).1
  rw [h1] at h4
  cases h4
  exact ⟨o, u, rs, ep, h, h1, h2, h3, r⟩
theorem vals_len {α : Type} {ks : List V} {rs : Array DictEntry} {g : DictEntry → Value} (h : Vals ks (rs.toList.map g)) : ks.length = rs.size := by rw [h.length, List.length_map, Array.length_toList]
/-- for .. in e -/
theorem si_ex (ha : PE X a (rE X f)) : PI X tg a (rI X false fun env h => (f env h).bind fun v h => R.of (walkSrc h v) h) := by
  refine ⟨fun pins s σ H W I ⟨L, h, env, q, h', hr, er, e, post⟩ => ?_⟩
  obtain ⟨p, h1, e1, e2⟩ := R.bind_eq_ok e
  obtain ⟨e3, rfl⟩ := R.of_eq_ok e2
  refine thn (ha.run pins s σ H (fun x H1 => ∃ L1, Ext L H L1 H1 ∧ HR (wd X) L1 h' H1 ∧ VR (wd X) L1 H1 p x) I ⟨L, h, env, p, h', hr, er, e1, fun x L1 H1 x1 hr1 v1 => ⟨L1, x1, hr1, v1⟩⟩) fun u s1 ⟨x, H1, I1, r1, L1, x1, hr1, v1⟩ => ?_
  have lst : ∀ {xs : List PV} {chk : Chk}, listSrc h' p = some (xs, chk) → q = (xs, chk) → wpAny (model X.prog X.w) X.A (pyIter u) (PIE X pins σ tg W) X.xe s1 := fun {xs chk} e4 e5 => by
    subst e5
    obtain ⟨d, vs, rfl, h5, h6⟩ := list_at hr1 v1 e4
    cases r1
    obtain ⟨its, rv, pl, hz⟩ := I1.list (sqr h5)
    refine wpAny_pyIter_list pl.isList ?_
    exact pi_one (tk := s1.toks) I1 _ (turn_list d _) ⟨_, Heap.get?_push_size _ rfl, rfl, rfl⟩ (post _ L1 H1 x1 hr1 (walk_lst h6))
  have keys : ∀ {d : Addr} {es : List (PV × PV)}, x = .ref d → DL (wd X) L1 H1 d es → q.1 = es.map (·.1) → wpAny (model X.prog X.w) X.A (pyIter u) (PIE X pins σ tg W) X.xe s1 := fun {d es} ex dl e5 => by
    subst ex
    cases r1
    obtain ⟨o, u', rs, ep, g1, g2, g3, g4, r⟩ := fix_raw I1 dl
    obtain ⟨ks, k1, k2⟩ := r.keys
    refine wpAny_pyIter_dict_raw r.sys r.raw ?_
    refine pi_one (tk := s1.toks) I1 _ (turn_rkeys _ g4 g3 k1) ⟨_, Heap.get?_push_size _ rfl, rfl, rfl⟩ (post _ L1 H1 x1 hr1 ?_)
    rw [e5]
    exact walk_keys g1 k2
  unfold walkSrc at e3
  split at e3
  · cases e3
    cases v1 with
    | tup h1 h2 h3 =>
      cases r1
      obtain ⟨its, rv, pl, hz⟩ := I1.tuple (TupAt.sq h1)
      refine wpAny_pyIter_tuple (show s1.heap.IsTuple _ its.toArray from pl) ?_
      exact pi_one (tk := s1.toks) I1 _ (turn_tuple _ _) ⟨_, Heap.get?_push_size _ rfl, rfl, rfl⟩ (post _ L1 H1 x1 hr1 (walk_tup h1 h2 h3))
  · cases e3
    exact lst rfl rfl
  · cases e3
    cases v1 with
    | dctK h1 h2 h3 h4 => exact keys rfl (.k h1 h3 h4) rfl
    | dctT h1 h2 h0 h3 h4 h5 h6 => exact keys rfl (.t h1 h0 h3 h4 h5 h6) rfl
  · rename_i n
    split at e3
    · rename_i xs hc
      cases e3
      exact lst (by unfold listSrc; simp only [hc]) rfl
    · rename_i es hc
      cases e3
      cases v1 with
      | ref hn => exact keys rfl (hr1.cell _ _ _ hc hn) rfl
    · cases e3
  · cases e3
/-- range -/
theorem int_of {p : PV} {j : Int} (h : intOf p = some j) : p = .int j := by
  cases p <;> simp [intOf] at h
  rw [h]
theorem wide62_ {i : Int} (h : wide62 i = true) : -(2 ^ 62) ≤ i ∧ i < 2 ^ 62 := of_decide_eq_true h
theorem range_w {lo hi : Int} {xs : List PV} (h : rangeOf lo hi = some xs) : wide62 lo = true ∧ wide62 hi = true := by
  unfold rangeOf at h
  split at h
  · rename_i q
    rw [Bool.and_eq_true] at q
    exact q
  · cases h
theorem si_rng1 (hg : Gl X "range") (hm : X.mg "range" = none) (ha : PE X a (rE X f)) (ho : okArg a = true) :
    PI X tg (.Call (.Name "range" p) [a] [] pos) (rI X false fun env h => (f env h).bind fun v h => (R.of ((intOf v).bind (rangeOf 0)) h).bind fun xs h => .ok (xs, fun _ => true) h) :=
  imI (pi_range1 hg hm (one_arg ha ho) (star_ok ho _ _)) fun σ H W ⟨L, h, env, q, h', hr, er, e, post⟩ => by
  obtain ⟨v, h1, e1, e⟩ := R.bind_eq_ok e
  obtain ⟨xs, e2, e⟩ := R.of_bind e
  cases e
  obtain ⟨j, e3, e4⟩ := Option.bind_eq_some_iff.mp e2
  obtain rfl := int_of e3
  obtain ⟨w1, w2⟩ := range_w e4
  obtain ⟨w3, w4⟩ := wide62_ w2
  refine ⟨L, h, env, [.int j], h', hr, er, by unfold consF nilF; rw [e1]; rfl, fun zs L1 H1 x1 hr1 v1 => ?_⟩
  cases v1 with
  | cons v1 v2 =>
    cases v2
    cases v1
    refine ⟨j, rfl, w3, w4, post _ _ _ x1 hr1 ?_⟩
    have := walk_rng (Z := wd X) (L := L1) (H := H1) (chk := fun _ => true) e4
    rw [Int.sub_zero] at this
    exact this
theorem two_args (ha : PE X a (rE X f)) (hb : PE X b (rE X g)) (ho : okArg a = true) (ho' : okArg b = true) : PA X [a, b] (rA X (consF f (consF g nilF))) := sa_cons ha (sa_cons hb sa_nil ho') ho
theorem si_rng2 (hg : Gl X "range") (hm : X.mg "range" = none) (ha : PE X a (rE X f)) (hb : PE X b (rE X g)) (ho : okArg a = true) (ho' : okArg b = true) :
    PI X tg (.Call (.Name "range" p) [a, b] [] pos) (rI X false fun env h => (f env h).bind fun v h => (g env h).bind fun w h => (R.of ((intOf v).bind fun i => (intOf w).bind (rangeOf i)) h).bind fun xs h => .ok (xs, fun _ => true) h) :=
  imI (pi_range2 hg hm (two_args ha hb ho ho') (by rw [star_ok ho, star_ok ho']; rfl) (star_ok ho' _ _)) fun σ H W ⟨L, h, env, q, h', hr, er, e, post⟩ => by
  obtain ⟨v, h1, e1, e⟩ := R.bind_eq_ok e
  obtain ⟨w, h2, e1', e⟩ := R.bind_eq_ok e
  obtain ⟨xs, e2, e⟩ := R.of_bind e
  cases e
  obtain ⟨i, e3, e4⟩ := Option.bind_eq_some_iff.mp e2
  obtain ⟨j, e5, e6⟩ := Option.bind_eq_some_iff.mp e4
  obtain rfl := int_of e3
  obtain rfl := int_of e5
  obtain ⟨w1, w2⟩ := range_w e6
  refine ⟨L, h, env, [.int i, .int j], h', hr, er, by unfold consF nilF; rw [e1, R.bind_ok, e1']; rfl, fun zs L1 H1 x1 hr1 v1 => ?_⟩
  cases v1 with
  | cons v1 v2 =>
    cases v2 with
    | cons v2 v3 =>
      cases v3
      cases v1
      cases v2
      exact ⟨i, j, rfl, ⟨(wide62_ w1).1, (wide62_ w1).2, (wide62_ w2).1, (wide62_ w2).2⟩, post _ _ _ x1 hr1 (walk_rng e6)⟩
theorem si_enum (hg : Gl X "enumerate") (hm : X.mg "enumerate" = none) (ha : PE X a (rE X f)) (ho : okArg a = true) :
    PI X (.Tuple elts kk tpos) (.Call (.Name "enumerate" p) [a] [] pos) (rI X true fun env h => (f env h).bind fun v h => (R.of (listSrc h v) h).bind fun p h => .ok (enumOf p.1, p.2) h) :=
  imI (pi_enum hg hm (one_arg ha ho) (star_ok ho _ _)) fun σ H W ⟨L, h, env, q, h', hr, er, e, post⟩ => by
  obtain ⟨v, h1, e1, e⟩ := R.bind_eq_ok e
  obtain ⟨pp, e2, e⟩ := R.of_bind e
  cases e
  refine ⟨L, h, env, [v], h', hr, er, by unfold consF nilF; rw [e1]; rfl, fun zs L1 H1 x1 hr1 v1 => ?_⟩
  cases v1 with
  | cons v1 v2 =>
    cases v2
    obtain ⟨d, vs, rfl, h5, h6⟩ := list_at (xs := pp.1) (chk := pp.2) hr1 v1 e2
    exact ⟨d, vs, rfl, sqr h5, post _ _ _ x1 hr1 (walk_enum h6)⟩
theorem si_zip (hg : Gl X "zip") (hm : X.mg "zip" = none) (ha : PE X a (rE X f)) (hb : PE X b (rE X g)) (ho : okArg a = true) (ho' : okArg b = true) :
    PI X (.Tuple elts kk tpos) (.Call (.Name "zip" p) [a, b] [] pos) (rI X true fun env h => (f env h).bind fun v h => (g env h).bind fun w h => (R.of (zipSrc h v w) h).bind fun p h => .ok (zipOf p.1.1 p.1.2, p.2) h) :=
  imI (pi_zipA hg hm (two_args ha hb ho ho') (star_ok ho _ _) (by rw [star_ok ho']; rfl)) fun σ H W ⟨L, h, env, q, h', hr, er, e, post⟩ => by
  obtain ⟨v, h1, e1, e⟩ := R.bind_eq_ok e
  obtain ⟨w, h2, e1', e⟩ := R.bind_eq_ok e
  obtain ⟨pp, e2, e⟩ := R.of_bind e
  cases e
  refine ⟨L, h, env, [v, w], h', hr, er, by unfold consF nilF; rw [e1, R.bind_ok, e1']; rfl, fun zs L1 H1 x1 hr1 v1 => ?_⟩
  cases v1 with
  | cons v1 v2 =>
    cases v2 with
    | cons v2 v3 =>
      cases v3
      unfold zipSrc at e2
      split at e2
      · cases e2
        cases v1 with
        | tup g1 g2 g3 =>
          cases v2 with
          | tup k1 k2 k3 => exact ⟨_, _, _, _, rfl, .inr ⟨TupAt.sq g1, TupAt.sq k1, post _ _ _ x1 hr1 (walk_zipT g1 g2 g3 k1 k2 k3)⟩⟩
      · split at e2
        · rename_i c c' h4 h5
          cases e2
          obtain ⟨d, vs, rfl, h6, h7⟩ := list_at (xs := c.1) (chk := c.2) hr1 v1 h4
          obtain ⟨d', vs', rfl, h8, h9⟩ := list_at (xs := c'.1) (chk := c'.2) hr1 v2 h5
          refine ⟨d, d', vs, vs', rfl, .inl ⟨sqr h6, sqr h8, post _ _ _ x1 hr1 (walk_zip h7 h9 fun g hg => ?_)⟩⟩
          exact (Bool.and_eq_true _ _).mp hg
        · cases e2
/-- d.items(), d.values() -/
theorem dict_at {L : List Addr} {H : Hp} {h : PHeap} {Z : Wd} {p : PV} {x : V} {es : List (PV × PV)} {chk : Chk} (hr : HR Z L h H) (v : VR Z L H p x) (e : dictSrc h p = some (es, chk)) : ∃ d, x = .ref d ∧ DL Z L H d es := by
  unfold dictSrc at e
  split at e
  · cases e
    cases v with
    | dctK h1 h2 h3 h4 => exact ⟨_, rfl, .k h1 h3 h4⟩
    | dctT h1 h2 h0 h3 h4 h5 h6 => exact ⟨_, rfl, .t h1 h0 h3 h4 h5 h6⟩
  · rename_i n
    split at e
    · rename_i es' hc
      cases e
      cases v with
      | ref hn => exact ⟨_, rfl, hr.cell _ _ _ hc hn⟩
    · cases e
  · cases e
theorem si_items (ha : PE X a (rE X f)) (hbase : okBase a = true) (hline : (apos.endLine == cpos.line) = true) :
    PI X (.Tuple elts kk tpos) (.Call (.Attribute a "items" apos) [] [] cpos) (rI X true fun env h => (f env h).bind fun v h => (R.of (dictSrc h v) h).bind fun p h => .ok (p.1.map fun e => .tup [e.1, e.2], p.2) h) := by
  refine ⟨fun pins s σ H W I ⟨L, h, env, q, h', hr, er, e, post⟩ => ?_⟩
  obtain ⟨p, h1, e1, e⟩ := R.bind_eq_ok e
  obtain ⟨pp, e2, e⟩ := R.of_bind e
  cases e
  refine wpAny_Call_method (T := "dict") (id := "dict.items") (base_ok hbase _ _ _) rfl hline F.plainAttrs_dict F.slot_dict_items F.type_dict_items (thn (ha.run pins s σ H (fun x H1 => ∃ L1, Ext L H L1 H1 ∧ HR (wd X) L1 h' H1 ∧ VR (wd X) L1 H1 p x) I ⟨L, h, env, p, h', hr, er, e1, fun x L1 H1 x1 hr1 v1 => ⟨L1, x1, hr1, v1⟩⟩) fun u s1 ⟨x, H1, I1, r1, L1, x1, hr1, v1⟩ => ?_)
  obtain ⟨d, rfl, dl⟩ := dict_at (es := pp.1) (chk := pp.2) hr1 v1 e2
  cases r1
  obtain ⟨o, u', rs, ep, g1, g2, g3, g4, r⟩ := fix_raw I1 dl
  obtain ⟨ks, k1, k2⟩ := r.keys
  obtain ⟨vs, k3, k4⟩ := r.vals
  refine ⟨r.raw.typeIs, fun b eb => by cases eb; exact ⟨o, g2, g3.2.1⟩, ?_⟩
  have I2 : Inv X pins σ H1 { s1 with heap := s1.heap.push { cls := .type "dict_items", data := .fields #[.ref d] } } := I1.kept (t' := s1.toks) fun b ob q => Heap.get?_push_of_some _ q
  have fin : wpAny (model X.prog X.w) X.A (pyIter (.ref s1.heap.objs.size)) (PIE X pins σ (.Tuple elts kk tpos) W) X.xe { s1 with heap := s1.heap.push { cls := .type "dict_items", data := .fields #[.ref d] } } := by
    refine wpAny_pyIter_items_raw (d := d) ⟨_, Heap.get?_push_size _ rfl, rfl, rfl⟩ (raw_of I2 g1 g4 g3) (pi_one (tk := s1.toks) I2 _ (turn_rpairs _ g4 g3 k1 k3) ⟨.none, .none, Heap.get?_push_size _ rfl⟩ (post _ L1 H1 x1 hr1 (walk_pairs g1 k2 k4)))
  show wpAny _ _ (callWith cpos (.builtin "dict.items") [.ref d] [] []) _ X.xe s1
  exact method_meetsIn F.slot_dict_items F.entry_dict_items rfl (PySem.evalArgs_none ⟨rfl, r.raw.typeIs, F.args_dict_items_1 _, _, meets_dict_items_raw d r.sys, ⟨_, _, r.raw⟩, fin⟩)
theorem si_values (ha : PE X a (rE X f)) (hbase : okBase a = true) (hline : (apos.endLine == cpos.line) = true) :
    PI X tg (.Call (.Attribute a "values" apos) [] [] cpos) (rI X false fun env h => (f env h).bind fun v h => (R.of (dictSrc h v) h).bind fun p h => .ok (p.1.map (·.2), p.2) h) := by
  refine ⟨fun pins s σ H W I ⟨L, h, env, q, h', hr, er, e, post⟩ => ?_⟩
  obtain ⟨p, h1, e1, e⟩ := R.bind_eq_ok e
  obtain ⟨pp, e2, e⟩ := R.of_bind e
  cases e
  refine wpAny_Call_method (T := "dict") (id := "dict.values") (base_ok hbase _ _ _) rfl hline F.plainAttrs_dict F.slot_dict_values F.type_dict_values (thn (ha.run pins s σ H (fun x H1 => ∃ L1, Ext L H L1 H1 ∧ HR (wd X) L1 h' H1 ∧ VR (wd X) L1 H1 p x) I ⟨L, h, env, p, h', hr, er, e1, fun x L1 H1 x1 hr1 v1 => ⟨L1, x1, hr1, v1⟩⟩) fun u s1 ⟨x, H1, I1, r1, L1, x1, hr1, v1⟩ => ?_)
  obtain ⟨d, rfl, dl⟩ := dict_at (es := pp.1) (chk := pp.2) hr1 v1 e2
  cases r1
  obtain ⟨o, u', rs, ep, g1, g2, g3, g4, r⟩ := fix_raw I1 dl
  obtain ⟨vs, k3, k4⟩ := r.vals
  refine ⟨r.raw.typeIs, fun b eb => by cases eb; exact ⟨o, g2, g3.2.1⟩, ?_⟩
  have I2 : Inv X pins σ H1 { s1 with heap := s1.heap.push { cls := .type "dict_values", data := .fields #[.ref d] } } := I1.kept (t' := s1.toks) fun b ob q => Heap.get?_push_of_some _ q
  have fin : wpAny (model X.prog X.w) X.A (pyIter (.ref s1.heap.objs.size)) (PIE X pins σ tg W) X.xe { s1 with heap := s1.heap.push { cls := .type "dict_values", data := .fields #[.ref d] } } := by
    refine wpAny_pyIter_values_raw (d := d) ⟨_, Heap.get?_push_size _ rfl, rfl, rfl⟩ (raw_of I2 g1 g4 g3) (pi_one (tk := s1.toks) I2 _ (turn_rvals _ g4 g3 k3) ⟨_, Heap.get?_push_size _ rfl, rfl, rfl⟩ (post _ L1 H1 x1 hr1 (walk_keys g1 k4)))
  show wpAny _ _ (callWith cpos (.builtin "dict.values") [.ref d] [] []) _ X.xe s1
  exact method_meetsIn F.slot_dict_values F.entry_dict_values rfl (PySem.evalArgs_none ⟨rfl, r.raw.typeIs, F.args_dict_values_1 _, _, meets_dict_values_raw d r.sys, ⟨_, _, r.raw⟩, fin⟩)
/-! ### targets -/
def isTp : Tg → Bool
  | .nm _ => false
  | .tp _ => true
mutual
def tgIx : Tg → List Nat
  | .nm i => [i]
  | .tp ts => tgIxs ts
def tgIxs : List Tg → List Nat
  | [] => []
  | t :: ts => tgIx t ++ tgIxs ts
end
def rG (X : Cx) (t : Tg) : TG := fun v σ H Q => ∃ L h env p env', HR (wd X) L h H ∧ ER (wd X) L H env σ ∧ YR (wd X) L H (isTp t) p v ∧ tgSet t p env = some env' ∧ ∀ σ', ER (wd X) L H env' σ' → (∀ vs, (∀ i ∈ tgIx t, i ∈ vs) → L2.wipe σ' vs = L2.wipe σ vs) → Q σ' H
def rGs (X : Cx) (ts : List Tg) : TGs := fun vs σ H Q => ∃ L h env ps env', HR (wd X) L h H ∧ ER (wd X) L H env σ ∧ VRs (wd X) L H ps vs ∧ ps.length = ts.length ∧ tgSets ts ps env = some env' ∧ ∀ σ', ER (wd X) L H env' σ' → (∀ vs, (∀ i ∈ tgIxs ts, i ∈ vs) → L2.wipe σ' vs = L2.wipe σ vs) → Q σ' H
theorem imG {t t' : TG} {e : Expr} (h : PG X e t) (i : ∀ v σ H Q, t' v σ H Q → t v σ H Q) : PG X e t' := ⟨fun pins s σ H v u Q I r q => h.run pins s σ H v u Q I r (i v σ H Q q)⟩
theorem imGs {t t' : TGs} {e : List Expr} (h : PGs X e t) (i : ∀ v σ H Q, t' v σ H Q → t v σ H Q) : PGs X e t' := ⟨fun pins s σ H v u Q I r q => h.run pins s σ H v u Q I r (i v σ H Q q)⟩
theorem wipe_get {σ : L2.St} : ∀ {vs : List Nat} {i : Nat}, (L2.wipe σ vs)[i]? = if i ∈ vs ∧ i < σ.length then some none else σ[i]?
  | [], i => by simp [L2.wipe]
  | v :: vs, i => by
    rw [L2.wipe, List.getElem?_set, wipe_get (vs := vs), L2.wipe_length]
    by_cases hv : v = i
    · subst hv
      by_cases hl : v < σ.length
      · simp [hl]
      · simp [hl]
    · have hv' : ¬ i = v := fun e => hv e.symm
      simp [hv, hv']
theorem wipe_set {σ : L2.St} {x : Option V} {i : Nat} {vs : List Nat} (h : i ∈ vs) : L2.wipe (σ.set i x) vs = L2.wipe σ vs := by
  apply List.ext_getElem?
  intro j
  rw [wipe_get, wipe_get, List.length_set, List.getElem?_set]
  by_cases hj : j ∈ vs ∧ j < σ.length
  · rw [if_pos hj, if_pos hj]
  · rw [if_neg hj, if_neg hj]
    by_cases e : i = j
    · subst e
      rw [if_pos rfl]
      have hl : ¬ i < σ.length := fun q => hj ⟨h, q⟩
      rw [if_neg hl, List.getElem?_eq_none (by omega)]
    · rw [if_neg e]
theorem sg_nm (hN : X.N.Nodup) {i : Nat} {x : Str} (hi : X.N[i]? = some x) (hx : X.env.scope.names.lookup x = some .local) : PG X (.Name x pos) (rG X (.nm i)) :=
  imG (pg_name hN hi (.inl hx) (.inr hx)) fun v σ H Q ⟨L, h, env, p, env', hr, er, y, e, q⟩ => by
  rw [tgSet] at e
  split at e
  · cases e
    exact q _ (er.set y) fun vs hv => wipe_set (hv i (by simp [tgIx]))
  · cases e
theorem sgs_nil : PGs X [] (rGs X []) := imGs pgs_nil fun v σ H Q ⟨L, h, env, ps, env', hr, er, y, hl, e, q⟩ => by
  cases ps with
  | cons _ _ => cases hl
  | nil =>
    cases y
    rw [tgSets] at e
    cases e
    exact ⟨rfl, q σ er fun _ _ => rfl⟩
theorem yr_of {Z : Wd} {L : List Addr} {H : Hp} {p : PV} {x : V} {t : Tg} {env env' : Env} (v : VR Z L H p x) (e : tgSet t p env = some env') : YR Z L H (isTp t) p x := by
  cases t with
  | nm i => exact v
  | tp ts =>
    cases v with
    | tup h1 h2 h3 => exact ⟨_, _, _, .inl ⟨rfl, TupAt.sq h1⟩, rfl, h3⟩
    | lst h1 h2 h3 => exact ⟨_, _, _, .inr ⟨rfl, sqr (.inr h1)⟩, rfl, h3⟩
    | _ => simp [tgSet] at e
theorem yr_fix {Z : Wd} {L : List Addr} {H : Hp} {p : PV} {x : V} {t : Tg} {env env' : Env} {fl : Bool} (hf : fl = true → isTp t = true) (y : YR Z L H fl p x) (e : tgSet t p env = some env') : YR Z L H (isTp t) p x := by
  cases fl with
  | false => exact yr_of y e
  | true => rw [hf rfl]; exact y
theorem assign_star {e : Expr} (h : okArg e = true) (es : List Expr) (env : PySem.Env) : assignEach (e :: es) env = (false, assign e env) :: assignEach es env := by
  cases e <;> first | rfl | cases h
theorem sgs_cons {t : Tg} {ts : List Tg} {es : List Expr} (h1 : PG X a (rG X t)) (h2 : PGs X es (rGs X ts)) (ho : okArg a = true) : PGs X (a :: es) (rGs X (t :: ts)) :=
  imGs (pgs_cons h1 h2 (by rw [assign_star ho]; rfl)) fun v σ H Q ⟨L, h, env, ps, env', hr, er, y, hl, e, q⟩ => by
  cases ps with
  | nil => cases hl
  | cons p ps =>
    cases y with
    | cons y1 y2 =>
      rw [tgSets] at e
      split at e
      · rename_i env1 e1
        refine ⟨_, _, rfl, L, h, env, p, env1, hr, er, yr_of y1 e1, e1, fun σ' er' w1 => ⟨L, h, env1, ps, env', hr, er', y2, by simpa using hl, e, fun σ2 er2 w2 => q σ2 er2 fun vs hv => ?_⟩⟩
        rw [w2 vs fun i hi => hv i (by simp [tgIxs, hi]), w1 vs fun i hi => hv i (by simp [tgIxs, hi])]
      · cases e
theorem assign_len {env : PySem.Env} : ∀ {es : List Expr}, es.all okArg = true → (assignEach es env).length = es.length ∧ (assignEach es env).findIdx? (·.1) = none
  | [], _ => ⟨rfl, rfl⟩
  | e :: es, h => by
    rw [List.all_cons, Bool.and_eq_true] at h
    obtain ⟨h1, h2⟩ := assign_len (env := env) h.2
    rw [assign_star h.1]
    refine ⟨by simp [h1], ?_⟩
    rw [List.findIdx?_cons]
    simp [h2]
theorem sg_tp (hc : X.calm = true) {ts : List Tg} (h : PGs X elts (rGs X ts)) (ho : elts.all okArg = true) (hl : elts.length = ts.length) : PG X (.Tuple elts kk tpos) (rG X (.tp ts)) := by
  refine ⟨fun pins s σ H v u Q I r hw => ?_⟩
  obtain ⟨L, hh, env, p, env', hr, er, y, e, q⟩ := hw
  obtain ⟨ys, a, vs, y1, rfl, y2⟩ := y
  rcases y1 with ⟨rfl, y1⟩ | ⟨rfl, y1⟩
  · refine (pg_tup (pos := tpos) (k := kk) hc h (assign_len ho).1 (assign_len ho).2).run pins s σ H _ u Q I r ?_
    rw [tgSet] at e
    split at e
    · rename_i hl3
      exact ⟨a, vs, rfl, y1, by rw [y2.length, hl3, hl], L, hh, env, _, env', hr, er, y2, hl3, e, fun σ' er' w => q σ' er' fun vs hv => w vs fun i hi => hv i (by rw [tgIx]; exact hi)⟩
    · cases e
  · refine (pg_unl (pos := tpos) (k := kk) hc h (assign_len ho).1 (assign_len ho).2).run pins s σ H _ u Q I r ?_
    rw [tgSet] at e
    split at e
    · rename_i hl3
      exact ⟨a, vs, rfl, y1, by rw [y2.length, hl3, hl], L, hh, env, _, env', hr, er, y2, hl3, e, fun σ' er' w => q σ' er' fun vs hv => w vs fun i hi => hv i (by rw [tgIx]; exact hi)⟩
    · cases e
end
end HW
/-! HwR: list comprehensions. -/
namespace HW
open PySem PySem.Spec PyProof.Rows L2 C8

section
variable {Z : Wd} {L L' : List Addr} {H H' : Hp} {h : PHeap} {D : Addr}
/-- what is fixed there is fixed here *)-/
def Agr (H H' : Hp) : Prop := ∀ a o u, H a = some (.frz o u) → H' a = some (.frz o u)
theorem FzAt.agr (h : Agr H H') {a : Addr} {u : HO} (x : FzAt H a u) : FzAt H' a u := let ⟨o, e⟩ := x; ⟨o, h _ _ _ e⟩
mutual
theorem VR.agr (e : Agr H H') : ∀ {p : PV} {v : V}, VR Z L H p v → VR Z L H' p v
  | _, _, .non => .non
  | _, _, .bl b => .bl b
  | _, _, .int b => .int b
  | _, _, .str b => .str b
  | _, _, .tup ⟨o, h1, h1'⟩ h2 h3 => .tup ⟨o, e _ _ _ h1, h1'⟩ h2 (VRs.agr e h3)
  | _, _, .lst h1 h2 h3 => .lst (h1.agr e) h2 (VRs.agr e h3)
  | _, _, .scr h1 h2 => .scr (h1.agr e) h2
  | _, _, .scrK h1 => .scrK h1
  | _, _, .dctK h1 h2 h3 h4 => .dctK (h1.agr e) h2 h3 (VRs.agr e h4)
  | _, _, .dctT h1 h2 h0 h3 h4 h5 h6 => .dctT (h1.agr e) h2 h0 h3 h4 (VRs.agr e h5) (VRs.agr e h6)
  | _, _, .ref h1 => .ref h1
theorem VRs.agr (e : Agr H H') : ∀ {p : List PV} {v : List V}, VRs Z L H p v → VRs Z L H' p v
  | _, _, .nil => .nil
  | _, _, .cons h1 h2 => .cons (VR.agr e h1) (VRs.agr e h2)
end
theorem DP.map {a : Addr} {W W' : HO → Prop} {es : List (PV × PV)} (x : DP Z L H a W es) (hv : ∀ p v, VRs Z L H p v → VRs Z L' H' p v) (hw : ∀ u, W u → W' u) : DP Z L' H' a W' es := by
  cases x with
  | k h1 h2 h3 => exact .k (hw _ h1) h2 (hv _ _ h3)
  | t h1 h0 h2 h3 h4 h5 => exact .t (hw _ h1) h0 h2 h3 (hv _ _ h4) (hv _ _ h5)
theorem CR.map {a : Addr} {c : Cell} (x : CR Z L H a c) (hv : ∀ p v, VRs Z L H p v → VRs Z L' H' p v) (ha : H' a = H a) : CR Z L' H' a c := by
  cases c with
  | lst xs => obtain ⟨vs, h1, h2⟩ := x; exact ⟨vs, by rw [ha]; exact h1, hv _ _ h2⟩
  | dct es => exact DP.map x hv fun u e => by rw [ha]; exact e
  | dctL es => exact DP.map x hv fun u ⟨o, e⟩ => ⟨o, by rw [ha]; exact e⟩
  | obj _ _ => exact x
/-- a thing that is built, not yet seen -/
theorem agr_upd {o : HO} (hf : NF H D) : Agr H (upd H D o) := fun a o' u e => by
  rw [upd_ne fun q => hf o' u (by rw [← q]; exact e)]
  exact e
theorem HR.touch {o : HO} (r : HR Z L h H) (hD : D ∉ L) (hf : NF H D) : HR Z L h (upd H D o) :=
  ⟨r.len, r.nd, fun n c a h1 h2 => (r.cell n c a h1 h2).map (fun _ _ => VRs.agr (agr_upd hf)) (upd_ne fun q => hD (by rw [← q]; exact List.mem_of_getElem? h2))⟩
theorem Ext.touch {o : HO} (e : Ext L H L' H') (hD : H D = none) : Ext L H L' (upd H' D o) := by
  refine ⟨e.pre, fun a u hn ha => ?_, fun a ha => ?_, fun a o' u ha => ?_⟩
  · rw [upd_ne (ne_of_none ha hD)]; exact e.keep a u hn ha
  · unfold upd; split
    · simp
    · exact e.dom a ha
  · rw [upd_ne (ne_of_none ha hD)]; exact e.frz a o' u ha
theorem ER.agr {env : Env} {σ : L2.St} (e : Agr H H') (x : ER Z L H env σ) : ER Z L H' env σ := ⟨x.len, fun i v h1 => let ⟨y, h2, h3⟩ := x.at_ i v h1; ⟨y, h2, h3.agr e⟩⟩
/-- it becomes live -/
theorem notin_snoc {a : Addr} {o : Obj} {u : HO} (ha : a ∉ L) (e : H a = some (.frz o u)) (hf : NF H D) : a ∉ L ++ [D] := fun q => by
  rcases List.mem_append.mp q with q | q
  · exact ha q
  · have : a = D := by simpa using q
    subst this
    exact hf _ _ e
mutual
theorem VR.grow (hf : NF H D) : ∀ {p : PV} {v : V}, VR Z L H p v → VR Z (L ++ [D]) H p v
  | _, _, .non => .non
  | _, _, .bl b => .bl b
  | _, _, .int b => .int b
  | _, _, .str b => .str b
  | _, _, .tup ⟨o, h1, h1'⟩ h2 h3 => .tup ⟨o, h1, h1'⟩ (notin_snoc h2 h1 hf) (VRs.grow hf h3)
  | _, _, .lst ⟨o, h1⟩ h2 h3 => .lst ⟨o, h1⟩ (notin_snoc h2 h1 hf) (VRs.grow hf h3)
  | _, _, .scr ⟨o, h1⟩ h2 => .scr ⟨o, h1⟩ (notin_snoc h2 h1 hf)
  | _, _, .scrK h1 => .scrK h1
  | _, _, .dctK ⟨o, h1⟩ h2 h3 h4 => .dctK ⟨o, h1⟩ (notin_snoc h2 h1 hf) h3 (VRs.grow hf h4)
  | _, _, .dctT ⟨o, h1⟩ h2 h0 h3 h4 h5 h6 => .dctT ⟨o, h1⟩ (notin_snoc h2 h1 hf) h0 h3 h4 (VRs.grow hf h5) (VRs.grow hf h6)
  | _, _, .ref h1 => .ref (by rw [List.getElem?_append_left (List.getElem?_eq_some_iff.mp h1).1]; exact h1)
theorem VRs.grow (hf : NF H D) : ∀ {p : List PV} {v : List V}, VRs Z L H p v → VRs Z (L ++ [D]) H p v
  | _, _, .nil => .nil
  | _, _, .cons h1 h2 => .cons (VR.grow hf h1) (VRs.grow hf h2)
end
theorem HR.grow (r : HR Z L h H) (hD : D ∉ L) (hf : NF H D) {c : Cell} (x : CR Z (L ++ [D]) H D c) : HR Z (L ++ [D]) (h ++ [c]) H := by
  refine ⟨by simp [r.len], ?_, fun n c' a h1 h2 => ?_⟩
  · rw [List.nodup_append]
    refine ⟨r.nd, by simp, fun a ha b hb => ?_⟩
    simp only [List.mem_singleton] at hb
    subst hb
    intro e
    subst e
    exact hD ha
  · have hrl := r.len
    by_cases hn : n < L.length
    · rw [List.getElem?_append_left (by omega)] at h1
      rw [List.getElem?_append_left hn] at h2
      exact (r.cell n c' a h1 h2).map (fun _ _ => VRs.grow hf) rfl
    · have hl : n < (L ++ [D]).length := (List.getElem?_eq_some_iff.mp h2).1
      have en : n = L.length := by simp at hl; omega
      have en' : n = h.length := by omega
      rw [en'] at h1
      rw [en] at h2
      simp at h1 h2
      subst h1 h2
      exact x
theorem Ext.grow (e : Ext L H L' H') (hD : H D = none) : Ext L H (L' ++ [D]) H' := by
  obtain ⟨M, rfl, hM⟩ := e.pre
  refine ⟨⟨M ++ [D], by simp, fun a ha => ?_⟩, e.keep, e.dom, e.frz⟩
  rcases List.mem_append.mp ha with q | q
  · exact hM a q
  · have : a = D := by simpa using q
    subst this
    exact hD
end
section
variable {X : Cx} {pins : List (Addr × Obj)} {σ : L2.St}
/-- the list at D is ready -/
theorem made_ep {s : Shared} {H H' : Hp} {L L2 : List Addr} {h h' : PHeap} {al : Bool} {xs : List PV} {vs : List V} {r : PV} {D : Addr} {Q : VK} (I : Inv X pins σ H' s) (hD : H' D = some (.lst vs)) (hn : D ∉ L2) (h0 : H D = none) (ex : Ext L H L2 H') (hr : HR (wd X) L2 h H') (v : VRs (wd X) L2 H' xs vs)
    (e : mkList al xs h = .ok r h') (post : Post (wd X) L H r h' Q) : EP X pins σ Q (.ref D) s := by
  have hf := nf_lst hD
  unfold mkList at e
  cases al with
  | false =>
    simp only [Bool.false_eq_true, if_false, R.ok.injEq] at e
    obtain ⟨rfl, rfl⟩ := e
    obtain ⟨od, I1⟩ := I.lock hD trivial
    exact ⟨.ref D, _, I1, rfl, post _ _ _ (ex.touch h0) (hr.touch hn hf) (.lst ⟨od, upd_same⟩ hn (v.agr (agr_upd hf)))⟩
  | true =>
    simp only [if_true, R.ok.injEq] at e
    obtain ⟨rfl, rfl⟩ := e
    refine ⟨.ref D, _, I, rfl, post _ _ _ (ex.grow h0) (hr.grow hn hf ⟨vs, hD, v.grow hf⟩) (.ref ?_)⟩
    rw [← hr.len]
    simp
theorem wipe_wipe (σ : L2.St) (vs : List Nat) : L2.wipe (L2.wipe σ vs) vs = L2.wipe σ vs := by
  apply List.ext_getElem?
  intro j
  rw [wipe_get, wipe_get, L2.wipe_length]
  split <;> rfl
def compF (al : Bool) (fI : Env → PHeap → R (List PV × Chk)) (tg : Tg) (fT : Env → PHeap → R Bool) (fE : Env → PHeap → R PV) (vs : List Nat) : Env → PHeap → R PV := fun env h => (fI env h).bind fun p h =>
  (compGo p.2 (tgSet tg) fT fE (wipeE env vs) p.1 h []).bind fun acc h => mkList al acc h
end
/-! ### locks -/
section
variable {Z : Wd} {L L' : List Addr} {H H' : Hp} {h : PHeap} {d : Addr}
theorem ne_mem {a : Addr} (ha : a ∉ L) (hd : d ∈ L) : a ≠ d := fun e => ha (by rw [e]; exact hd)
theorem FzAt.away {o : HO} {a : Addr} {u : HO} (hd : d ∈ L) (ha : a ∉ L) (x : FzAt H a u) : FzAt (upd H d o) a u := let ⟨b, e⟩ := x; ⟨b, by rw [upd_ne (ne_mem ha hd)]; exact e⟩
mutual
theorem VR.away {o : HO} (hd : d ∈ L) : ∀ {p : PV} {v : V}, VR Z L H p v → VR Z L (upd H d o) p v
  | _, _, .non => .non
  | _, _, .bl b => .bl b
  | _, _, .int b => .int b
  | _, _, .str b => .str b
  | _, _, .tup ⟨b, h1, h1'⟩ h2 h3 => .tup ⟨b, by rw [upd_ne (ne_mem h2 hd)]; exact h1, h1'⟩ h2 (VRs.away hd h3)
  | _, _, .lst h1 h2 h3 => .lst (h1.away hd h2) h2 (VRs.away hd h3)
  | _, _, .scr h1 h2 => .scr (h1.away hd h2) h2
  | _, _, .scrK h1 => .scrK h1
  | _, _, .dctK h1 h2 h3 h4 => .dctK (h1.away hd h2) h2 h3 (VRs.away hd h4)
  | _, _, .dctT h1 h2 h0 h3 h4 h5 h6 => .dctT (h1.away hd h2) h2 h0 h3 h4 (VRs.away hd h5) (VRs.away hd h6)
  | _, _, .ref h1 => .ref h1
theorem VRs.away {o : HO} (hd : d ∈ L) : ∀ {p : List PV} {v : List V}, VRs Z L H p v → VRs Z L (upd H d o) p v
  | _, _, .nil => .nil
  | _, _, .cons h1 h2 => .cons (VR.away hd h1) (VRs.away hd h2)
end
theorem HR.away {o : HO} {n : Nat} {c : Cell} (r : HR Z L h H) (hp : L[n]? = some d) (x : CR Z L (upd H d o) d c) : HR Z L (h.set n c) (upd H d o) := by
  have hm : d ∈ L := List.mem_of_getElem? hp
  refine ⟨by simp [r.len], r.nd, fun m c' a h1 h2 => ?_⟩
  by_cases hmn : m = n
  · subst hmn
    rw [hp] at h2; cases h2
    have hn : m < h.length := by have := r.len; have := (List.getElem?_eq_some_iff.mp hp).1; omega
    rw [List.getElem?_set_self hn] at h1
    cases h1
    exact x
  · rw [List.getElem?_set_ne (Ne.symm hmn)] at h1
    have hap : a ≠ d := fun e => by
      subst e
      exact hmn ((List.getElem?_inj (List.getElem?_eq_some_iff.mp h2).1 r.nd).mp (h2.trans hp.symm))
    exact (r.cell m c' a h1 h2).map (fun _ _ => VRs.away hm) (upd_ne hap)
theorem ER.away {o : HO} {env : Env} {σ : L2.St} (hd : d ∈ L) (x : ER Z L H env σ) : ER Z L (upd H d o) env σ := ⟨x.len, fun i v h1 => let ⟨y, h2, h3⟩ := x.at_ i v h1; ⟨y, h2, h3.away hd⟩⟩
theorem dx_mut {es : List (PV × PV)} (x : DX Z L H d es) : ∃ u, H d = some u ∧ Mut (some u) ∧ (∀ W : HO → Prop, W u → DP Z L H d W es) ∧ NF H d := by
  have nf := nf_dx x
  cases x with
  | k h1 h2 h3 => exact ⟨_, h1, trivial, fun W w => .k w h2 h3, nf⟩
  | t h1 h0 h2 h3 h4 h5 => exact ⟨_, h1, trivial, fun W w => .t w h0 h2 h3 h4 h5, nf⟩
theorem dl_u {es : List (PV × PV)} (x : DL Z L H d es) : ∃ od u, H d = some (.frz od u) ∧ ∀ W : HO → Prop, W u → DP Z L H d W es := by
  cases x with
  | k h1 h2 h3 => obtain ⟨od, h⟩ := h1; exact ⟨od, _, h, fun W w => .k w h2 h3⟩
  | t h1 h0 h2 h3 h4 h5 => obtain ⟨od, h⟩ := h1; exact ⟨od, _, h, fun W w => .t w h0 h2 h3 h4 h5⟩
theorem ext_lock {od : Obj} {u u' : HO} (hd : d ∈ L) (nf : NF H d) (hH : H d = some u) (e : Ext L (upd H d (.frz od u)) L' H') : Ext L H L' (upd H' d u') := by
  obtain ⟨M, rfl, hM⟩ := e.pre
  refine ⟨⟨M, rfl, fun a ha => ?_⟩, fun a o hn ha => ?_, fun a ha => ?_, fun a o v ha => ?_⟩
  · have := hM a ha
    by_cases q : a = d
    · subst q; rw [upd_same] at this; cases this
    · rw [upd_ne q] at this; exact this
  · have q := ne_mem hn hd
    rw [upd_ne q]
    exact e.keep a o hn (by rw [upd_ne q]; exact ha)
  · unfold upd; split
    · simp
    · rename_i q
      exact e.dom a (by rw [upd_ne q]; exact ha)
  · have q : a ≠ d := fun z => nf o v (by rw [← z]; exact ha)
    rw [upd_ne q]
    exact e.frz a o v (by rw [upd_ne q]; exact ha)
end
section
variable {X : Cx} {pins : List (Addr × Obj)} {σ : L2.St} {s : Shared} {H : Hp} {L : List Addr} {h : PHeap}
/-- a cell is locked -/
theorem lock_in {n : Nat} {es : List (PV × PV)} (I : Inv X pins σ H s) (hr : HR (wd X) L h H) (hc : h[n]? = some (.dct es)) : ∃ d u od, L[n]? = some d ∧ H d = some u ∧ NF H d ∧ (∀ o' u', X.H_0 d ≠ some (.frz o' u')) ∧ Inv X pins σ (upd H d (.frz od u)) s ∧ HR (wd X) L (h.set n (.dctL es)) (upd H d (.frz od u)) := by
  obtain ⟨d, hn, cr⟩ := hr.addr hc
  obtain ⟨u, hu, mu, mk, nf⟩ := dx_mut cr
  obtain ⟨od, I1⟩ := I.lock hu mu
  refine ⟨d, u, od, hn, hu, nf, I.nofrz hu mu, I1, hr.away hn ?_⟩
  exact DP.map (mk (FzAt (upd H d (.frz od u)) d) ⟨od, upd_same⟩) (fun _ _ => VRs.away (List.mem_of_getElem? hn)) fun _ x => x
/-- .. unlocked -/
theorem lock_out {n : Nat} {d : Addr} {es : List (PV × PV)} (I : Inv X pins σ H s) (hr : HR (wd X) L h H) (hn : L[n]? = some d) (hf : ∀ o' u', X.H_0 d ≠ some (.frz o' u')) (hc : h[n]? = some (.dctL es)) : ∃ u, Inv X pins σ (upd H d u) s ∧ HR (wd X) L (h.set n (.dct es)) (upd H d u) := by
  obtain ⟨od, u, hu, mk⟩ := dl_u (hr.cell _ _ _ hc hn)
  refine ⟨u, I.unlock hu hf, hr.away hn ?_⟩
  exact DP.map (mk (fun v => upd H d u d = some v) upd_same) (fun _ _ => VRs.away (List.mem_of_getElem? hn)) fun _ x => x
theorem withLock_ok {α : Type} {n : Nat} {F : PHeap → R α} {h h' : PHeap} {v : α} (e : withLock (some n) F h = .ok v h') : ∃ es g, h[n]? = some (.dct es) ∧ F (h.set n (.dctL es)) = .ok v g ∧ g[n]? = some (.dctL es) ∧ h' = g.set n (.dct es) := by
  unfold withLock at e
  dsimp only at e
  split at e
  · rename_i es hc
    obtain ⟨r, g, e1, e2⟩ := R.bind_eq_ok e
    split at e2
    · rename_i hg
      cases e2
      exact ⟨es, g, hc, e1, hg, rfl⟩
    · cases e2
  · cases e
def lkF (it : II) (F : Env → PHeap → R PV) : Env → PHeap → R PV := fun env h => withLock (lockI it env h) (F env) h
theorem se_lock {it : II} {F : Env → PHeap → R PV} {e : Expr} (pe : PE X e (rE X F)) : PE X e (rE X (lkF it F)) := ⟨fun pins s σ H Q I ⟨L, h, env, v, h', hr, er, eq, post⟩ => by
  unfold lkF at eq
  cases hl : lockI it env h with
  | none => rw [hl] at eq; exact pe.run pins s σ H Q I ⟨L, h, env, v, h', hr, er, eq, post⟩
  | some n =>
    rw [hl] at eq
    obtain ⟨es, g, hc, e1, hg, rfl⟩ := withLock_ok eq
    obtain ⟨d, u, od, hn, hu, nf, hf, I1, hr1⟩ := lock_in I hr hc
    have hm := List.mem_of_getElem? hn
    refine thn (pe.run pins s σ _ (fun x H1 => ∃ L1, Ext L (upd H d (.frz od u)) L1 H1 ∧ HR (wd X) L1 g H1 ∧ VR (wd X) L1 H1 v x) I1 ⟨L, _, env, v, g, hr1, er.away hm, e1, fun x L1 H1 x1 hr1 v1 => ⟨L1, x1, hr1, v1⟩⟩) fun w s1 ⟨x, H1, I2, rx, L1, x1, hr2, v1⟩ => ?_
    obtain ⟨u', I3, hr3⟩ := lock_out I2 hr2 (x1.get hn) hf hg
    exact ⟨x, _, I3, rx, post x L1 _ (ext_lock hm nf hu x1) hr3 (v1.away (List.mem_of_getElem? (x1.get hn)))⟩⟩
end
end HW
/-! HwS: statements. -/
namespace HW
open PySem PySem.Spec PyProof.Rows L2 C8

/-- how a statement's end is read -/
def OutP (Z : Wd) (L : List Addr) (H : Hp) (D : Ends) : Out → Prop
  | .nx e => ∀ σ, ER Z L H e σ → D.nx σ H
  | .bk e => ∀ σ, ER Z L H e σ → D.bk σ H
  | .ct e => ∀ σ, ER Z L H e σ → D.ct σ H
  | .rt v => ∀ x, VR Z L H v x → D.rt x H
def PostS (Z : Wd) (L : List Addr) (H : Hp) (D : Ends) (o : Out) (h' : PHeap) : Prop := ∀ L' H', Ext L H L' H' → HR Z L' h' H' → OutP Z L' H' D o
def rS (X : Cx) (f : Env → PHeap → R Out) : TS := fun D σ H => ∃ L h env o h', HR (wd X) L h H ∧ ER (wd X) L H env σ ∧ f env h = .ok o h' ∧ PostS (wd X) L H D o h'
theorem imS {X : Cx} {e : Stmt} {t t' : TS} (h : PS X e t) (i : ∀ D σ H, t' D σ H → t D σ H) : PS X e t' := ⟨fun pins s σ H D I q => h.run pins s σ H D I (i D σ H q)⟩
theorem imSs {X : Cx} {e : List Stmt} {t t' : TS} (h : PSs X e t) (i : ∀ D σ H, t' D σ H → t D σ H) : PSs X e t' := ⟨fun pins s σ H D I q => h.run pins s σ H D I (i D σ H q)⟩
theorem PostS.aft {Z : Wd} {L L' : List Addr} {H H' : Hp} {h h' : PHeap} {D : Ends} {o : Out} (p : PostS Z L H D o h') (r : HR Z L h H) (e : Ext L H L' H') : PostS Z L' H' D o h' := fun L2 H2 e2 r2 => p L2 H2 (e.tr r e2) r2
def okNoComp : Expr → Bool
  | .ListComp .. => false
  | .SetComp .. => false
  | .DictComp .. => false
  | _ => true
def okNoTup : Expr → Bool
  | .Tuple .. => false
  | _ => true
theorem swaps_no {e : Expr} (h : okNoComp e = true) (t : Option Expr) (l : Nat) (env : PySem.Env) : swapsWith e t l env = pure false := by
  cases e <;> first | rfl | cases h
theorem sole_no {e : Expr} (h : okNoComp e = true) (t : Expr) (l : Nat) (env : PySem.Env) : swapsWithSole [t] e l env = pure false := swaps_no h _ _ _
theorem swapped_no {e : Expr} (h : okNoTup e = true) (t : Expr) (env : PySem.Env) : swappedStores [t] e env = pure none := by
  cases e <;> first | (cases t <;> rfl) | cases h
section
variable {X : Cx} {a b c : Expr} {st : Stmt} {rest : List Stmt} {f g k : Env → PHeap → R PV} {fs gs : Env → PHeap → R Out} {pos p tpos : Pos}
def nxF : Env → PHeap → R Out := fun env h => .ok (.nx env) h
theorem ss_next {t : Stmt} (h : PS X t tNext) : PS X t (rS X nxF) := imS h fun D σ H ⟨L, h, env, o, h', hr, er, e, post⟩ => by
  cases e
  exact post _ _ Ext.refl hr σ er
theorem ss_brk : PS X (.Break pos) (rS X fun env h => .ok (.bk env) h) := imS ps_break fun D σ H ⟨L, h, env, o, h', hr, er, e, post⟩ => by
  cases e
  exact post _ _ Ext.refl hr σ er
theorem ss_cont : PS X (.Continue pos) (rS X fun env h => .ok (.ct env) h) := imS ps_continue fun D σ H ⟨L, h, env, o, h', hr, er, e, post⟩ => by
  cases e
  exact post _ _ Ext.refl hr σ er
theorem ss_expr (ha : PE X a (rE X f)) (ho : okNoComp a = true) : PS X (.Expr a pos) (rS X fun env h => (f env h).bind fun _ h => .ok (.nx env) h) := imS (ps_expr ha (swaps_no ho _ _ _)) fun D σ H ⟨L, h, env, o, h', hr, er, e, post⟩ => by
  obtain ⟨v, h1, e1, e2⟩ := R.bind_eq_ok e
  cases e2
  exact ⟨L, h, env, v, h', hr, er, e1, fun x L1 H1 x1 hr1 v1 => post _ _ x1 hr1 σ (er.mono x1)⟩
theorem ss_ret (ha : PE X a (rE X f)) : PS X (.Return (some a) pos) (rS X fun env h => (f env h).bind fun v h => .ok (.rt v) h) := imS (ps_ret ha) fun D σ H ⟨L, h, env, o, h', hr, er, e, post⟩ => by
  obtain ⟨v, h1, e1, e2⟩ := R.bind_eq_ok e
  cases e2
  exact ⟨L, h, env, v, h', hr, er, e1, fun x L1 H1 x1 hr1 v1 => post _ _ x1 hr1 x v1⟩
theorem ss_retN : PS X (.Return none pos) (rS X fun _ h => .ok (.rt .non) h) := imS ps_retN fun D σ H ⟨L, h, env, o, h', hr, er, e, post⟩ => by
  cases e
  exact post _ _ Ext.refl hr _ .non
/-- name = e -/
def setF (i : Nat) (f : Env → PHeap → R PV) : Env → PHeap → R Out := fun env h => (f env h).bind fun v h => (R.of (tgSet (.nm i) v env) h).bind fun env h => .ok (.nx env) h
theorem setF_ok {i : Nat} {env : Env} {h h' : PHeap} {o : Out} (e : setF i f env h = .ok o h') : ∃ v, f env h = .ok v h' ∧ o = .nx (env.set i (some v)) := by
  obtain ⟨v, h1, e1, e2⟩ := R.bind_eq_ok e
  obtain ⟨env', e3, e4⟩ := R.of_bind e2
  rw [tgSet] at e3
  split at e3
  · cases e3
    cases e4
    exact ⟨v, e1, rfl⟩
  · cases e3
theorem ss_set (hN : X.N.Nodup) {i : Nat} {x : Str} (hi : X.N[i]? = some x) (hx : X.env.scope.names.lookup x = some .local) (ha : PE X a (rE X f)) (ho : okNoComp a = true) : PS X (.Assign [.Name x p] a pos) (rS X (setF i f)) :=
  imS (ps_set hN hi (.inl hx) ha (swaps_no ho _ _ _) (.inr hx)) fun D σ H ⟨L, h, env, o, h', hr, er, e, post⟩ => by
  obtain ⟨v, e1, rfl⟩ := setF_ok e
  exact ⟨L, h, env, v, h', hr, er, e1, fun x L1 H1 x1 hr1 v1 => post _ _ x1 hr1 _ ((er.mono x1).set v1)⟩
/-- o[i] = e -/
def subF (f : Env → PHeap → R PV) (fo fi : Env → PHeap → R PV) : Env → PHeap → R Out := fun env h => (f env h).bind fun v h => ((fo env h).bind fun x h => (fi env h).bind fun y h => match putItem h x y v with
    | some h' => .ok env h'
    | none => .bad).bind fun env h => .ok (.nx env) h
theorem assign_sub {o i : Expr} (h : okIx i = true) (env : PySem.Env) : ∀ v, assign (.Subscript o i pos) env v = (do
      let ov ← holding [v] (eval o env)
      let iv ← holding [v, ov] (eval i env)
      standAt pos
      holding [v, ov, iv] (setItem ov iv v)
      release [v, ov, iv] []) := fun v => by
  cases i <;> first | rfl | cases h
theorem ss_sub (hu : Um X) (ha : PE X a (rE X f)) (hb : PE X b (rE X g)) (hc : PE X c (rE X k)) (ho : okNoComp a = true) (ht : okNoTup a = true) (hi : okIx c = true) : PS X (.Assign [.Subscript b c tpos] a pos) (rS X (subF f g k)) :=
  imS (ps_asg ha (pg_sub hb hc (set_item hu) (assign_sub hi _)) (sole_no ho _ _ _) (swapped_no ht _ _)) fun D σ H ⟨L, h, env, o, h', hr, er, e, post⟩ => by
  obtain ⟨v, h1, e1, e⟩ := R.bind_eq_ok e
  obtain ⟨env', h2, e2, e⟩ := R.bind_eq_ok e
  cases e
  obtain ⟨x, h3, e3, e2⟩ := R.bind_eq_ok e2
  obtain ⟨y, h4, e4, e2⟩ := R.bind_eq_ok e2
  split at e2
  · rename_i h5 hp
    cases e2
    refine ⟨L, h, env, v, h1, hr, er, e1, fun w L1 H1 x1 hr1 v1 => ⟨L1, h1, env, x, h3, hr1, er.mono x1, e3, fun w2 L2 H2 x2 hr2 v2 => ⟨L2, h3, env, y, h4, hr2, er.mono (x1.tr hr x2), e4, fun w3 L3 H3 x3 hr3 v3 => ?_⟩⟩⟩
    have xx := (x1.tr hr x2).tr hr x3
    exact ⟨L3, h4, x, y, v, h', hr3, v2.mono x3, v3, (v1.mono x2).mono x3, hp, fun L4 H4 x4 hr4 => post _ _ (xx.tr hr x4) hr4 σ (er.mono (xx.tr hr x4))⟩
  · cases e2
/-- a tuple of targets = e -/
def tgF (t : Tg) (f : Env → PHeap → R PV) : Env → PHeap → R Out := fun env h => (f env h).bind fun v h => (R.of (tgSet t v env) h).bind fun env h => .ok (.nx env) h
theorem ss_tg {t : Tg} {tge : Expr} (ha : PE X a (rE X f)) (hg : PG X tge (rG X t)) (ho : okNoComp a = true) (ht : okNoTup a = true) (h1 : (assignEach [tge] X.env).map (·.2) = [assign tge X.env]) : PS X (.Assign [tge] a pos) (rS X (tgF t f)) :=
  imS (ps_asg ha hg (sole_no ho _ _ _) (swapped_no ht _ _) h1) fun D σ H ⟨L, h, env, o, h', hr, er, e, post⟩ => by
  obtain ⟨v, h1, e1, e⟩ := R.bind_eq_ok e
  obtain ⟨env', e2, e⟩ := R.of_bind e
  cases e
  exact ⟨L, h, env, v, h', hr, er, e1, fun x L1 H1 x1 hr1 v1 => ⟨L1, h', env, v, env', hr1, er.mono x1, yr_of v1 e2, e2, fun σ' er' _ => post _ _ x1 hr1 σ' er'⟩⟩
/-- name += e -/
def augF (i : Nat) (op : BOp) (f : Env → PHeap → R PV) : Env → PHeap → R Out := fun env h => match env[i]? with
  | some (some x) => (f env h).bind fun y h => (R.of (match x, y with
        | .int _, .int _ => binop op x y h
        | _, _ => none) h).bind fun z h => .ok (.nx (env.set i (some z))) h
  | _ => .bad
theorem ss_aug {g : Int → Int → Int} {op : BOp} {i : Nat} {x : Str} (hN : X.N.Nodup) (hi : X.N[i]? = some x) (hx : Loc X.env.scope x) (hf : X.fn x = true ∨ X.env.scope.names.lookup x = some .local) (ha : PE X a (rE X f)) (hp : PIp X (pyB op) (ipI g)) (hg : ∀ (a b : Int) h, binop op (.int a) (.int b) h = some (.int (g a b))) :
    PS X (.AugAssign (.Name x p) (pyB op) a pos) (rS X (augF i op f)) :=
  imS (ps_aug hN hi hx ha hp hf) fun D σ H ⟨L, h, env, o, h', hr, er, e, post⟩ => by
  unfold augF at e
  split at e
  · rename_i xv hx1
    obtain ⟨y, h1, e1, e2⟩ := R.bind_eq_ok e
    obtain ⟨z, e3, e4⟩ := R.of_bind e2
    cases e4
    split at e3
    · rename_i ia ib
      rw [hg] at e3
      cases e3
      obtain ⟨w, w1, w2⟩ := er.at_ i _ hx1
      cases w2
      refine ⟨.int ia, w1, L, h, env, _, h', hr, er, e1, fun yv L1 H1 x1 hr1 v1 => ?_⟩
      cases v1
      exact ⟨ia, ib, rfl, rfl, post _ _ x1 hr1 _ ((er.mono x1).set (.int _))⟩
    · cases e3
  · cases e
/-! ### blocks, if, for, while -/
def seqF (f g : Env → PHeap → R Out) : Env → PHeap → R Out := fun env h => (f env h).bind fun o h => match o with
    | .nx env => g env h
    | o => .ok o h
theorem sss_nil : PSs X [] (rS X nxF) := imSs pss_nil fun D σ H ⟨L, h, env, o, h', hr, er, e, post⟩ => by
  cases e
  exact post _ _ Ext.refl hr σ er
theorem sss_cons (h1 : PS X st (rS X fs)) (h2 : PSs X rest (rS X gs)) : PSs X (st :: rest) (rS X (seqF fs gs)) := imSs (pss_cons h1 h2) fun D σ H ⟨L, h, env, o, h', hr, er, e, post⟩ => by
  obtain ⟨o1, h1, e1, e2⟩ := R.bind_eq_ok e
  refine ⟨L, h, env, o1, h1, hr, er, e1, fun L1 H1 x1 hr1 => ?_⟩
  cases o1 with
  | nx env1 => exact fun σ1 er1 => ⟨L1, h1, env1, o, h', hr1, er1, e2, post.aft hr x1⟩
  | bk e => cases e2; exact post _ _ x1 hr1
  | ct e => cases e2; exact post _ _ x1 hr1
  | rt v => cases e2; exact post _ _ x1 hr1
def ifF (t : Env → PHeap → R Bool) (f g : Env → PHeap → R Out) : Env → PHeap → R Out := fun env h => (t env h).bind fun t h => if t then f env h else g env h
theorem ss_if {ft : Env → PHeap → R Bool} {xs ys : List Stmt} (hc : PT X c (rT X ft)) (h1 : PSs X xs (rS X fs)) (h2 : PSs X ys (rS X gs)) : PS X (.If c xs ys pos) (rS X (ifF ft fs gs)) := imS (ps_if hc h1 h2) fun D σ H ⟨L, h, env, o, h', hr, er, e, post⟩ => by
  obtain ⟨t, h1, e1, e2⟩ := R.bind_eq_ok e
  refine ⟨L, h, env, t, h1, hr, er, e1, fun L1 H1 x1 hr1 => ?_⟩
  cases t with
  | true => exact ⟨L1, h1, env, o, h', hr1, er.mono x1, e2, post.aft hr x1⟩
  | false => exact ⟨L1, h1, env, o, h', hr1, er.mono x1, e2, post.aft hr x1⟩
def forF (fI : Env → PHeap → R (List PV × Chk)) (t : Tg) (fb : Env → PHeap → R Out) : Env → PHeap → R Out := fun env h => (fI env h).bind fun p h => forGo p.2 (tgSet t) fb p.1 env h
theorem ss_for {fl : Bool} {fI : Env → PHeap → R (List PV × Chk)} {t : Tg} {tge iter : Expr} {body : List Stmt} (hp : PassesOwn (model X.prog X.w) X.A X.env X.xe) (hc : X.calm = true) (hi : PI X tge iter (rI X fl fI)) (hfl : fl = true → isTp t = true) (hg : PG X tge (rG X t)) (hb : PSs X body (rS X fs))
    (hs : ∀ x, foldedSetIterable iter X.env x = pure x) : PS X (.For tge iter body [] pos) (rS X (forF fI t fs)) := imS (ps_for hp hc hi hg hb hs) fun D σ H ⟨L, h, env, o, h', hr, er, e, post⟩ => by
  obtain ⟨⟨xs, chk⟩, h1, e1, e2⟩ := R.bind_eq_ok e
  refine ⟨L, h, env, (xs, chk), h1, hr, er, e1, fun J L1 H1 x1 hr1 walk => ?_⟩
  refine ⟨fun i m σc Hc => m = xs.length - i ∧ i ≤ xs.length ∧ ∃ Lc gc ec, Ext L1 H1 Lc Hc ∧ HR (wd X) Lc gc Hc ∧ ER (wd X) Lc Hc ec σc ∧ forGo chk (tgSet t) fs (xs.drop i) ec gc = .ok o h',
    ⟨xs.length, rfl, Nat.zero_le _, L1, h1, env, Ext.refl, hr1, er.mono x1, e2⟩, ?_⟩
  rintro i m σc Hc ⟨rfl, hile, Lc, gc, ec, xc, hrc, erc, eq⟩
  by_cases hlt : i < xs.length
  · right
    obtain ⟨p, hp⟩ : ∃ p, xs[i]? = some p := ⟨xs[i], List.getElem?_eq_getElem hlt⟩
    have hdrop : xs.drop i = p :: xs.drop (i + 1) := by
      rw [List.drop_eq_getElem_cons hlt]
      have := List.getElem?_eq_some_iff.mp hp
      rw [this.2]
    rw [hdrop] at eq
    unfold forGo at eq
    split at eq
    · rename_i hck
      split at eq
      · rename_i env1 ht1
        obtain ⟨o1, g1, eb, eq2⟩ := R.bind_eq_ok eq
        obtain ⟨go, yl⟩ := (walk i Lc Hc gc xc.w hrc hck).2 p hp
        refine ⟨go, fun σ' H' => ∃ Lc gc ec, Ext L1 H1 Lc H' ∧ HR (wd X) Lc gc H' ∧ ER (wd X) Lc H' ec σ' ∧ forGo chk (tgSet t) fs (xs.drop (i + 1)) ec gc = .ok o h',
          fun σ' H' q => ⟨_, by omega, rfl, hlt, q⟩, fun x H' y => ?_⟩
        obtain ⟨xy, hry, yr⟩ := yl x H' y
        have xx := xc.tr hr1 xy
        refine ⟨Lc, gc, ec, p, env1, hry, erc.mono xy, yr_fix hfl yr ht1, ht1, fun σ' er' _ => ⟨Lc, gc, env1, o1, g1, hry, er', eb, fun L3 H3 x3 hr3 => ?_⟩⟩
        have xx3 := xx.tr hr1 x3
        cases o1 with
        | nx e' => exact fun σ3 er3 => ⟨L3, g1, e', xx3, hr3, er3, eq2⟩
        | ct e' => exact fun σ3 er3 => ⟨L3, g1, e', xx3, hr3, er3, eq2⟩
        | bk e' => cases eq2; exact post _ _ (x1.tr hr xx3) hr3
        | rt v => cases eq2; exact post _ _ (x1.tr hr xx3) hr3
      · cases eq
    · cases eq
  · left
    have hi2 : i = xs.length := by omega
    subst hi2
    rw [List.drop_length] at eq
    unfold forGo at eq
    split at eq
    · rename_i hck
      cases eq
      exact ⟨(walk _ Lc Hc h' xc.w hrc hck).1 rfl, post _ _ (x1.tr hr xc) hrc σc erc⟩
    · cases eq
theorem ss_while {ft : Env → PHeap → R Bool} {n : Nat} {body : List Stmt} (hp : PassesOwn (model X.prog X.w) X.A X.env X.xe) (hc : PT X c (rT X ft)) (hb : PSs X body (rS X fs)) : PS X (.While c body [] pos) (rS X (whileGo ft fs n)) := imS (ps_while hp hc hb) fun D σ H ⟨L, h, env, o, h', hr, er, e, post⟩ => by
  refine ⟨fun m σc Hc => ∃ Lc gc ec, Ext L H Lc Hc ∧ HR (wd X) Lc gc Hc ∧ ER (wd X) Lc Hc ec σc ∧ whileGo ft fs m ec gc = .ok o h', ⟨n, L, h, env, Ext.refl, hr, er, e⟩, ?_⟩
  rintro m σc Hc ⟨Lc, gc, ec, xc, hrc, erc, eq⟩
  cases m with
  | zero => cases eq
  | succ m =>
    unfold whileGo at eq
    obtain ⟨t, g1, e1, e2⟩ := R.bind_eq_ok eq
    refine ⟨Lc, gc, ec, t, g1, hrc, erc, e1, fun L1 H1 x1 hr1 => ?_⟩
    have xx := xc.tr hr x1
    cases t with
    | true =>
      simp only [if_true] at e2 ⊢
      obtain ⟨o1, g2, e3, e4⟩ := R.bind_eq_ok e2
      refine ⟨fun σ' H' => ∃ Lc gc ec, Ext L H Lc H' ∧ HR (wd X) Lc gc H' ∧ ER (wd X) Lc H' ec σ' ∧ whileGo ft fs m ec gc = .ok o h', fun σ' H' q => ⟨m, Nat.lt_succ_self m, q⟩, L1, g1, ec, o1, g2, hr1, erc.mono x1, e3, fun L3 H3 x3 hr3 => ?_⟩
      have xx3 := xx.tr hr x3
      cases o1 with
      | nx e' => exact fun σ3 er3 => ⟨L3, g2, e', xx3, hr3, er3, e4⟩
      | ct e' => exact fun σ3 er3 => ⟨L3, g2, e', xx3, hr3, er3, e4⟩
      | bk e' => cases e4; exact post _ _ xx3 hr3
      | rt v => cases e4; exact post _ _ xx3 hr3
    | false =>
      simp only [Bool.false_eq_true, if_false] at e2 ⊢
      cases e2
      exact post _ _ xx hr1 σc (erc.mono x1)
/-! ### targets of a general kind -/
section
variable {ctx : List Sem} {elts : List Expr} {kk : Nat}
def rTI (X : Cx) (ctx : List Sem) (t : ITgt) : TG := fun v σ H Q => ∃ L h env p env' h', HR (wd X) L h H ∧ ER (wd X) L H env σ ∧ VR (wd X) L H p v ∧ dTg ctx t p env h = .ok env' h' ∧ ∀ σ' L' H', Ext L H L' H' → HR (wd X) L' h' H' → ER (wd X) L' H' env' σ' → Q σ' H'
def rTIs (X : Cx) (ctx : List Sem) (ts : List ITgt) : TGs := fun vs σ H Q => ∃ L h env ps env' h', HR (wd X) L h H ∧ ER (wd X) L H env σ ∧ VRs (wd X) L H ps vs ∧ ps.length = ts.length ∧ dTgs ctx ts ps env h = .ok env' h' ∧ ∀ σ' L' H', Ext L H L' H' → HR (wd X) L' h' H' → ER (wd X) L' H' env' σ' → Q σ' H'
theorem sg_nmI (hN : X.N.Nodup) {i : Nat} {x : Str} (hi : X.N[i]? = some x) (hx : Loc X.env.scope x) (hf : X.fn x = true ∨ X.env.scope.names.lookup x = some .local) : PG X (.Name x pos) (rTI X ctx (.tg (.nm i))) :=
  imG (pg_name hN hi hx hf) fun v σ H Q ⟨L, h, env, p, env', h', hr, er, y, e, q⟩ => by
  obtain ⟨e1, rfl⟩ := R.of_eq_ok (show R.of (tgSet (.nm i) p env) h = .ok env' h' from e)
  rw [tgSet] at e1
  split at e1
  · cases e1
    exact q _ _ _ Ext.refl hr (er.set y)
  · cases e1
theorem sg_subI (hu : Um X) {fo fi : IE} {o i : Expr} (hb : PE X o (rE X (dE ctx fo))) (hc : PE X i (rE X (dE ctx fi))) (hi : okIx i = true) : PG X (.Subscript o i tpos) (rTI X ctx (.sub fo fi)) :=
  imG (pg_sub hb hc (set_item hu) (assign_sub hi _)) fun v σ H Q ⟨L, h, env, p, env', h', hr, er, vp, e, q⟩ => by
  obtain ⟨x, h3, e3, e2⟩ := R.bind_eq_ok (show ((dE ctx fo env h).bind fun x h => (dE ctx fi env h).bind fun y h => match putItem h x y p with
    | some h' => .ok env h'
    | none => .bad) = .ok env' h' from e)
  obtain ⟨y, h4, e4, e2⟩ := R.bind_eq_ok e2
  split at e2
  · rename_i h5 hp
    cases e2
    refine ⟨L, h, env, x, h3, hr, er, e3, fun w2 L2 H2 x2 hr2 v2 => ⟨L2, h3, env, y, h4, hr2, er.mono x2, e4, fun w3 L3 H3 x3 hr3 v3 => ?_⟩⟩
    have xx := x2.tr hr x3
    exact ⟨L3, h4, x, y, p, h', hr3, v2.mono x3, v3, (vp.mono x2).mono x3, hp, fun L4 H4 x4 hr4 => q σ _ _ (xx.tr hr x4) hr4 (er.mono (xx.tr hr x4))⟩
  · cases e2
theorem sgsI_nil : PGs X [] (rTIs X ctx []) := imGs pgs_nil fun v σ H Q ⟨L, h, env, ps, env', h', hr, er, y, hl, e, q⟩ => by
  cases ps with
  | cons _ _ => cases hl
  | nil =>
    cases y
    cases e
    exact ⟨rfl, q σ _ _ Ext.refl hr er⟩
theorem sgsI_cons {t : ITgt} {ts : List ITgt} {es : List Expr} (h1 : PG X a (rTI X ctx t)) (h2 : PGs X es (rTIs X ctx ts)) (ho : okArg a = true) : PGs X (a :: es) (rTIs X ctx (t :: ts)) :=
  imGs (pgs_cons h1 h2 (by rw [assign_star ho]; rfl)) fun v σ H Q ⟨L, h, env, ps, env', h', hr, er, y, hl, e, q⟩ => by
  cases ps with
  | nil => cases hl
  | cons p ps =>
    cases y with
    | cons y1 y2 =>
      obtain ⟨env1, h1', e1, e2⟩ := R.bind_eq_ok (show ((dTg ctx t p env h).bind fun env h => dTgs ctx ts ps env h) = .ok env' h' from e)
      exact ⟨_, _, rfl, L, h, env, p, env1, h1', hr, er, y1, e1, fun σ' L' H' x hr' er' => ⟨L', h1', env1, ps, env', h', hr', er', y2.mono x, by simpa using hl, e2, fun σ2 L2 H2 x2 hr2 er2 => q σ2 L2 H2 (x.tr hr x2) hr2 er2⟩⟩
theorem dTgs_len : ∀ {ts : List ITgt} {vs : List PV} {env env' : Env} {h h' : PHeap}, dTgs ctx ts vs env h = .ok env' h' → vs.length = ts.length
  | [], [], _, _, _, _, _ => rfl
  | [], _ :: _, _, _, _, _, e => by cases e
  | _ :: _, [], _, _, _, _, e => by cases e
  | t :: ts, v :: vs, env, env', h, h', e => by
    obtain ⟨env1, h1, e1, e2⟩ := R.bind_eq_ok (show ((dTg ctx t v env h).bind fun env h => dTgs ctx ts vs env h) = .ok env' h' from e)
    simp [dTgs_len e2]
theorem ss_parG {tes ves : List Expr} {k k2 : Nat} {pt p2 : Pos} {ts : List ITgt} {fa : Env → PHeap → R (List PV)} (hc : X.calm = true) (ha : PA X ves (rA X fa)) (hl : ∀ env h vs h', fa env h = .ok vs h' → vs.length ≤ sizeLine) (hg : PGs X tes (rTIs X ctx ts)) (ho : tes.all okArg = true) (hlen : tes.length = ts.length)
    (hw : swappedStores [.Tuple tes k pt] (.Tuple ves k2 p2) X.env = pure none) : PS X (.Assign [.Tuple tes k pt] (.Tuple ves k2 p2) pos) (rS X fun env h => (fa env h).bind fun vs h => (dTgs ctx ts vs env h).bind fun env h => .ok (.nx env) h) :=
  imS (ps_asg (se_tup (pos := p2) (x1 := k2) ha hl) (pg_tup (pos := pt) (k := k) hc hg (assign_len ho).1 (assign_len ho).2) (sole_no rfl _ _ _) hw rfl) fun D σ H ⟨L, h, env, o, h', hr, er, e, post⟩ => by
  obtain ⟨vs, h1, e1, e⟩ := R.bind_eq_ok e
  obtain ⟨env', h2, e2, e⟩ := R.bind_eq_ok e
  cases e
  refine ⟨L, h, env, .tup vs, h1, hr, er, by show ((fa env h).bind fun vs h => R.ok (PV.tup vs) h) = _; rw [e1]; rfl, fun x L1 H1 x1 hr1 v1 => ?_⟩
  cases v1 with
  | tup g1 g2 g3 =>
    have l2 := dTgs_len e2
    exact ⟨_, _, rfl, TupAt.sq g1, by rw [g3.length, l2, hlen], L1, h1, env, vs, env', h', hr1, er.mono x1, g3, l2, e2, fun σ' L' H' x2 hr2 er2 => post _ _ (x1.tr hr x2) hr2 σ' er2⟩
end
/-! ### several names at once -/
theorem ss_par2 {es : List Expr} {fa : Env → PHeap → R (List PV)} {i j : Nat} {x y : Str} {px py pt pt2 : Pos} {kt k2 : Nat} (hc : X.calm = true) (hN : X.N.Nodup) (hi : X.N[i]? = some x) (hj : X.N[j]? = some y) (hij : i ≠ j)
    (hx : X.env.scope.names.lookup x = some .local) (hy : X.env.scope.names.lookup y = some .local) (ha : PA X [a, b] (rA X fa)) (hw : swappedStores [.Tuple [.Name x px, .Name y py] kt pt] (.Tuple [a, b] k2 pt2) X.env = pure (some [x, y])) :
    PS X (.Assign [.Tuple [.Name x px, .Name y py] kt pt] (.Tuple [a, b] k2 pt2) pos) (rS X fun env h => (fa env h).bind fun vs h => match vs with
      | [v, w] => .ok (.nx ((env.set i (some v)).set j (some w))) h
      | _ => .bad) := imS (ps_par hc hN hi hj hij hx hy ha hw (sole_no rfl _ _ _)) fun D σ H ⟨L, h, env, o, h', hr, er, e, post⟩ => by
  obtain ⟨vs, h1, e1, e2⟩ := R.bind_eq_ok e
  split at e2
  · rename_i v w
    cases e2
    refine ⟨L, h, env, _, h', hr, er, e1, fun xs L1 H1 x1 hr1 v1 => ?_⟩
    cases v1 with
    | cons v1 v2 =>
      cases v2 with
      | cons v2 v3 =>
        cases v3
        exact ⟨_, _, rfl, post _ _ x1 hr1 _ (((er.mono x1).set v1).set v2)⟩
  · cases e2
theorem ss_par3 {es : List Expr} {fa : Env → PHeap → R (List PV)} {i j l : Nat} {x y z : Str} {px py pz pt pt2 : Pos} {kt k2 : Nat} (hc : X.calm = true) (hN : X.N.Nodup) (hi : X.N[i]? = some x) (hj : X.N[j]? = some y) (hl : X.N[l]? = some z) (hij : i ≠ j) (hil : i ≠ l) (hjl : j ≠ l)
    (hx : X.env.scope.names.lookup x = some .local) (hy : X.env.scope.names.lookup y = some .local) (hz : X.env.scope.names.lookup z = some .local) (ha : PA X [a, b, c] (rA X fa)) (hw : swappedStores [.Tuple [.Name x px, .Name y py, .Name z pz] kt pt] (.Tuple [a, b, c] k2 pt2) X.env = pure (some [x, y, z])) :
    PS X (.Assign [.Tuple [.Name x px, .Name y py, .Name z pz] kt pt] (.Tuple [a, b, c] k2 pt2) pos) (rS X fun env h => (fa env h).bind fun vs h => match vs with
      | [u, v, w] => .ok (.nx (((env.set i (some u)).set j (some v)).set l (some w))) h
      | _ => .bad) := imS (ps_par3 hc hN hi hj hl hij hil hjl hx hy hz ha hw (sole_no rfl _ _ _)) fun D σ H ⟨L, h, env, o, h', hr, er, e, post⟩ => by
  obtain ⟨vs, h1, e1, e2⟩ := R.bind_eq_ok e
  split at e2
  · rename_i u v w
    cases e2
    refine ⟨L, h, env, _, h', hr, er, e1, fun xs L1 H1 x1 hr1 v1 => ?_⟩
    cases v1 with
    | cons v1 v2 =>
      cases v2 with
      | cons v2 v3 =>
        cases v3 with
        | cons v3 v4 =>
          cases v4
          exact ⟨_, _, _, rfl, post _ _ x1 hr1 _ ((((er.mono x1).set v1).set v2).set v3)⟩
  · cases e2
/-! ### a dict that is walked -/
def lkS (it : II) (F : Env → PHeap → R Out) : Env → PHeap → R Out := fun env h => withLock (lockI it env h) (F env) h
theorem ss_lock {it : II} {F : Env → PHeap → R Out} (ps : PS X st (rS X F)) : PS X st (rS X (lkS it F)) := ⟨fun pins s σ H D I ⟨L, h, env, o, h', hr, er, eq, post⟩ => by
  unfold lkS at eq
  cases hl : lockI it env h with
  | none => rw [hl] at eq; exact ps.run pins s σ H D I ⟨L, h, env, o, h', hr, er, eq, post⟩
  | some n =>
    rw [hl] at eq
    obtain ⟨es, g, hc, e1, hg, rfl⟩ := withLock_ok eq
    obtain ⟨d, u, od, hn, hu, nf, hf, I1, hr1⟩ := lock_in I hr hc
    have hm := List.mem_of_getElem? hn
    have back : ∀ {σ1 : L2.St} {s1 : Shared} {L1 : List Addr} {H1 : Hp}, Inv X pins σ1 H1 s1 → Ext L (upd H d (.frz od u)) L1 H1 → HR (wd X) L1 g H1 → ∃ u', Inv X pins σ1 (upd H1 d u') s1 ∧ HR (wd X) L1 (g.set n (.dct es)) (upd H1 d u') ∧ Ext L H L1 (upd H1 d u') ∧ d ∈ L1 := fun {σ1 s1 L1 H1} I2 x1 hr2 => by
      obtain ⟨u', I3, hr3⟩ := lock_out I2 hr2 (x1.get hn) hf hg
      exact ⟨u', I3, hr3, ext_lock hm nf hu x1, List.mem_of_getElem? (x1.get hn)⟩
    let D' : Ends := ⟨fun σ1 H1 => ∃ L1 e, o = .nx e ∧ Ext L (upd H d (.frz od u)) L1 H1 ∧ HR (wd X) L1 g H1 ∧ ER (wd X) L1 H1 e σ1, fun x H1 => ∃ L1 v, o = .rt v ∧ Ext L (upd H d (.frz od u)) L1 H1 ∧ HR (wd X) L1 g H1 ∧ VR (wd X) L1 H1 v x,
      fun σ1 H1 => ∃ L1 e, o = .bk e ∧ Ext L (upd H d (.frz od u)) L1 H1 ∧ HR (wd X) L1 g H1 ∧ ER (wd X) L1 H1 e σ1, fun σ1 H1 => ∃ L1 e, o = .ct e ∧ Ext L (upd H d (.frz od u)) L1 H1 ∧ HR (wd X) L1 g H1 ∧ ER (wd X) L1 H1 e σ1⟩
    refine thn (ps.run pins s σ _ D' I1 ⟨L, _, env, o, g, hr1, er.away hm, e1, fun L1 H1 x1 hr1' => ?_⟩) fun fl s1 q => ?_
    · cases o with
      | nx e => exact fun σ1 er1 => ⟨L1, e, rfl, x1, hr1', er1⟩
      | bk e => exact fun σ1 er1 => ⟨L1, e, rfl, x1, hr1', er1⟩
      | ct e => exact fun σ1 er1 => ⟨L1, e, rfl, x1, hr1', er1⟩
      | rt v => exact fun x v1 => ⟨L1, v, rfl, x1, hr1', v1⟩
    · cases fl with
      | next =>
        obtain ⟨σ1, H1, I2, L1, e, rfl, x1, hr2, er2⟩ := q
        obtain ⟨u', I3, hr3, x2, hm2⟩ := back I2 x1 hr2
        exact ⟨σ1, _, I3, post _ _ x2 hr3 σ1 (er2.away hm2)⟩
      | brk =>
        obtain ⟨σ1, H1, I2, L1, e, rfl, x1, hr2, er2⟩ := q
        obtain ⟨u', I3, hr3, x2, hm2⟩ := back I2 x1 hr2
        exact ⟨σ1, _, I3, post _ _ x2 hr3 σ1 (er2.away hm2)⟩
      | cont =>
        obtain ⟨σ1, H1, I2, L1, e, rfl, x1, hr2, er2⟩ := q
        obtain ⟨u', I3, hr3, x2, hm2⟩ := back I2 x1 hr2
        exact ⟨σ1, _, I3, post _ _ x2 hr3 σ1 (er2.away hm2)⟩
      | ret w =>
        obtain ⟨x, σ1, H1, I2, rx, L1, v, rfl, x1, hr2, v2⟩ := q
        obtain ⟨u', I3, hr3, x2, hm2⟩ := back I2 x1 hr2
        exact ⟨x, σ1, _, I3, rx, post _ _ x2 hr3 x (v2.away hm2)⟩⟩
end
end HW
/-! HwT: dict comprehensions with any keys; comprehensions that are named. -/
namespace HW
open PySem PySem.Spec PyProof.Rows L2 C8

/-- d[k] = v within a comprehension, by values -/
abbrev TDs := Addr → V → V → Hp → (Hp → Prop) → Prop
def PDs (X : Cx) (ts : TDs) : Prop := ∀ (pins : List (Addr × Obj)) (s : Shared) (σ : L2.St) (H : Hp) (D : Addr) (y z : V) (u r : Value) (Q : Hp → Prop) (E : Value → Shared → Prop), Inv X pins σ H s → RelV y u → RelV z r → ts D y z H Q →
  wpAny (model X.prog X.w) X.A (dictSet D u r) (fun _ s' => ∃ H', Inv X pins σ H' s' ∧ Q H') E s
def tDcP (wi : TI) (g : TG) (tt : TT) (tk tv : TE) (ts : TDs) (vs : List Nat) : TE := fun σ H Q => wi σ H fun J H1 => ∀ D, H1 D = none → ∃ W : Nat → Nat → Hp → Prop, (∃ m, W 0 m (upd H1 D (.dK []))) ∧ ∀ i m H, W i m H →
  (J.stop i H ∧ Q (.ref D) H) ∨ (J.go i H ∧ ∃ Nx : Hp → Prop, (∀ H', Nx H' → ∃ m', m' < m ∧ W (i + 1) m' H') ∧ ∀ x H', J.yld i H x H' → g x (wipe σ vs) H' fun σ2 H2 => wipe σ2 vs = wipe σ vs ∧ tt σ2 H2 fun b H3 =>
    if b = true then tk σ2 H3 fun y H4 => tv σ2 H4 fun z H5 => ts D y z H5 Nx else Nx H3)
section
variable {X : Cx}
theorem dcP_core {pins : List (Addr × Obj)} {s : Shared} {σ : L2.St} {H : Hp} {Q : VK} {kx vx tg iter : Expr} {ifs : List Expr} {sco : Scope} {ow : List (Str × Nat)} {pos pos' : Pos} {wi : TI} {g : TG} {tt : TT} {tk tv : TE} {ts : TDs} {use : Option (Value → PySem.Sem Unit)} {Qf : Value → Shared → Prop}
    (hc : X.calm = true) (hN : X.N.Nodup) (I : Inv X pins σ H s) (hi : PI X tg iter wi) (ok : BlkOk X.N X.env.scope sco ow)
    (hg : ∀ (s : Shared) (H : Hp) (C : Addr) (cl : List (Str × Addr)) (fq : List Addr), PG (X.blk s H sco (compEnvC sco cl C X.env) fq) tg g) (ht : ∀ (s : Shared) (H : Hp) (C : Addr) (cl : List (Str × Addr)) (fq : List Addr), PTs (X.blk s H sco (compEnvC sco cl C X.env) fq) ifs tt)
    (hk : ∀ (s : Shared) (H : Hp) (C : Addr) (cl : List (Str × Addr)) (fq : List Addr), PE (X.blk s H sco (compEnvC sco cl C X.env) fq) kx tk)
    (he : ∀ (s : Shared) (H : Hp) (C : Addr) (cl : List (Str × Addr)) (fq : List Addr), PE (X.blk s H sco (compEnvC sco cl C X.env) fq) vx tv) (hs : ∀ x, foldedSetIterable iter X.env x = pure x)
    (hstep : ∀ (s : Shared) (H : Hp) (C : Addr) (cl : List (Str × Addr)) (fq : List Addr), PDs (X.blk s H sco (compEnvC sco cl C X.env) fq) ts)
    (h : tDcP wi g tt tk tv ts (ow.map (·.2)) σ H Q)
    (hEnd : ∀ N0 C s' m H', Inv X pins σ H' s' → Q (.ref N0) H' → s'.heap.Ns C m → FpOk X pins H' C → compPost (model X.prog X.w) X.A X.xe use Qf (.ref N0) C (.ok .next) s') :
    wpAny (model X.prog X.w) X.A (comprehension (.DictComp kx vx [⟨tg, iter, ifs, 0⟩] sco pos) sco X.env pos' newDict false (eval iter X.env) use) Qf X.xe s := by
  have hfr : ∀ y ∈ sco.names, y.2 = .free → ∃ c, X.env.cells.lookup y.1 = some c := fun y hy e => by
    rcases ok.free y hy e with k | k
    · exact I.ok.has _ (.inl k)
    · exact I.ok.has _ (.inr k)
  refine wpAny_comprehension_free (use := use) rfl hs (closure_ok hfr) ok.kind (fun y hy e => by rw [ok.uniq y hy, e])
    (thn (hi.run pins s σ H _ I h) fun xv z1 hx => thn hx fun itv z2 h2 => ?_)
  obtain ⟨itr, fq, tn, J, G2, e, J2, Tn, ut2, e2_, q⟩ := h2
  subst e
  refine wpAny_newObj_type (newEnv_comp ?_)
  generalize hN0 : z2.heap.objs.size = N0
  have hNn : G2 N0 = none := J2.hok.fresh (Nat.le_of_eq hN0)
  obtain ⟨Wn, ⟨k0, v0⟩, turns⟩ := q N0 hNn
  -- the new list
  generalize ht3 : ({ z2 with heap := z2.heap.push { cls := .type "dict", data := .dict #[] } } : Shared) = z3
  have J3 : Inv X pins σ (upd G2 N0 (.dK [])) z3 := by
    rw [← ht3]
    refine J2.laid (t' := z2.toks) (fun b o e => Heap.get?_push_of_some _ e) (Nat.le_of_eq hN0) ?_
    rw [← hN0]
    exact dk_empty z2.heap J2.big
  have k3 : z3.heap = z2.heap.push { cls := .type "dict", data := .dict #[] } := by rw [← ht3]
  have szs : ∀ b ∈ fq, b < z2.heap.objs.size := fun b hb => by
    obtain ⟨o, e, _⟩ := Tn.obj _ _ ut2 b hb
    exact Heap.lt_size e
  have e3_ : ∀ b ∈ fq, FpOk X pins (upd G2 N0 (.dK [])) b ∧ b < z3.heap.objs.size := fun b hb => by
    have hlt := szs b hb
    refine ⟨⟨?_, (e2_ b hb).2⟩, by rw [k3, Heap.size_push]; exact Nat.lt_succ_of_lt hlt⟩
    rw [upd_ne (by rw [← hN0]; exact Nat.ne_of_lt hlt)]
    exact (e2_ b hb).1
  have ut3 : tn 0 z3.heap := Tn.keep _ _ _ ut2 fun b _ o e => by rw [k3]; exact Heap.get?_push_of_some _ e
  have J4 := block_start J3 ok hN e3_
  have pg := hg z3 (upd G2 N0 (.dK [])) z3.heap.objs.size (cellsFrom (z3.heap.objs.size + 1) sco.names (cloFrom X.env.cells sco.names [])) fq
  have pt := ht z3 (upd G2 N0 (.dK [])) z3.heap.objs.size (cellsFrom (z3.heap.objs.size + 1) sco.names (cloFrom X.env.cells sco.names [])) fq
  have pk := hk z3 (upd G2 N0 (.dK [])) z3.heap.objs.size (cellsFrom (z3.heap.objs.size + 1) sco.names (cloFrom X.env.cells sco.names [])) fq
  have pd := hstep z3 (upd G2 N0 (.dK [])) z3.heap.objs.size (cellsFrom (z3.heap.objs.size + 1) sco.names (cloFrom X.env.cells sco.names [])) fq
  have pe := he z3 (upd G2 N0 (.dK [])) z3.heap.objs.size (cellsFrom (z3.heap.objs.size + 1) sco.names (cloFrom X.env.cells sco.names [])) fq
  show codeAny _ _ (.compStart (.DictComp kx vx [⟨tg, iter, ifs, 0⟩] sco pos) 0 (.ref itr) (.ref N0) (compEnvC sco (cellsFrom (z3.heap.objs.size + 1) sco.names (cloFrom X.env.cells sco.names [])) z3.heap.objs.size X.env)) (compPost (model X.prog X.w) X.A X.xe use Qf (.ref N0) z3.heap.objs.size) { z3 with heap := pushCells (z3.heap.push { cls := .type "dict", data := .dict #[] }) sco.names }
  have nfq : ∀ b ∈ fq, (upd G2 N0 (.dK [])) b = none := fun b hb => (e3_ b hb).1.1
  generalize hbe : compEnvC sco (cellsFrom (z3.heap.objs.size + 1) sco.names (cloFrom X.env.cells sco.names [])) z3.heap.objs.size X.env = be at J4 pg pt pk pd pe ⊢
  have bL : be.locals = z3.heap.objs.size := by subst hbe; rfl
  generalize hG3 : upd G2 N0 (.dK []) = G3 at J3 J4 pg pt pk pd pe v0 nfq e3_
  generalize ht4 : ({ z3 with heap := pushCells (z3.heap.push { cls := .type "dict", data := .dict #[] }) sco.names } : Shared) = z4 at J4 ⊢
  have ut4 : tn 0 z4.heap := Tn.keep _ _ _ ut3 fun b _ o e => by rw [← ht4]; exact pushCells_keeps _ _ _ _ (Heap.get?_push_of_some _ e)
  have stays : ∀ {σ' : L2.St} {H' : Hp} {s' : Shared}, Inv (X.blk z3 G3 sco be fq) [] σ' H' s' → (∀ b ∈ fq, H' b = none) → ∀ b ∈ fq, FpOk (X.blk z3 G3 sco be fq) [] H' b := fun {σ' H' s'} I' hn b hb =>
    ⟨hn b hb, (I'.ok.exf b hb).1, I'.ok.exfs b hb, .inl hb, fun x c e => (I'.ok.exf b hb).2 x c e, fun p hp => absurd (show p ∈ ([] : List (Addr × Obj)) ++ [] from hp) (by simp)⟩
  have goes : codeAny (model X.prog X.w) X.A (.compLoop (.DictComp kx vx [⟨tg, iter, ifs, 0⟩] sco pos) 0 (.ref itr) (.ref N0) be) (compPost (model X.prog X.w) X.A X.xe use Qf (.ref N0) z3.heap.objs.size) z4 := by
    refine compLoop_anyD (fun n s' => ∃ i H', Inv (X.blk z3 G3 sco be fq) [] (wipe σ (ow.map (·.2))) H' s' ∧ tn i s'.heap ∧ (∀ b ∈ fq, H' b = none) ∧ Wn i n H') ?_ k0 ⟨0, G3, J4, ut4, nfq, v0⟩
    rintro n z5 ⟨i, G5, J5, ut5, n5, w5⟩
    rcases turns i n G5 w5 with ⟨stop, qq⟩ | ⟨go, Ny, hNy, step⟩
    · have td := Tn.done (X.blk z3 G3 sco be fq) rfl rfl rfl hc i [] z5 _ G5 (fun _ _ => False) J5 (stays J5 n5) ut5 stop
      refine thnF td fun r z6 ⟨hr, J6⟩ => ?_
      subst hr
      -- back in the def's context
      have J7 : Inv X pins σ G5 z6 := J3.call' (ch := fq) J6.os J6.base J6.hok J6.bare fun b hb => ⟨(e3_ b hb).1.2.2.2.1, (e3_ b hb).1.2.1, (e3_ b hb).1.2.2.2.2.1, (e3_ b hb).1.2.2.2.2.2⟩
      have nC : G5 z3.heap.objs.size = none := by
        have zz : G5 be.locals = none := J6.free
        rw [bL] at zz
        exact zz
      obtain ⟨m, hn, _⟩ := J6.loc
      have hn : z6.heap.Ns be.locals m := hn
      rw [bL] at hn
      exact hEnd N0 z3.heap.objs.size z6 m G5 J7 qq hn (J3.fpOk (Nat.le_refl _) nC)
    · have ti := Tn.item (X.blk z3 G3 sco be fq) rfl rfl rfl hc i [] z5 _ G5 (fun _ _ => False) J5 (stays J5 n5) ut5 go
      refine thnF ti fun r z6 ⟨u, hr, h6⟩ => ?_
      subst hr
      refine thnF h6 fun _ z7 ⟨x, G7, J7, r7, y7, ut7, n7⟩ => ?_
      have I7' := J7.pinned (stays J7 n7) (Tn.obj _ _ ut7)
      refine thnF (pg.run _ z7 _ G7 x u _ I7' r7 (step x G7 y7)) fun _ z8 ⟨σ8, G8, J8, hw8, q8⟩ => ?_
      refine thnF (pt.run _ z8 σ8 G8 _ J8 q8) fun b z9 ⟨G9, J9, q9⟩ => ?_
      -- the turn's end
      have ends : ∀ {s' : Shared} {H' : Hp}, Inv (X.blk z3 G3 sco be fq) ([] ++ pinsAt fq z7.heap) σ8 H' s' → Ny H' → ∃ m, m < n ∧ ∃ i H', Inv (X.blk z3 G3 sco be fq) [] (wipe σ (ow.map (·.2))) H' s' ∧ tn i s'.heap ∧ (∀ b ∈ fq, H' b = none) ∧ Wn i m H' := fun {s' H'} I' nx => by
        obtain ⟨m', hm, w'⟩ := hNy H' nx
        have pinned' : ∀ b ∈ fq, ∀ o, z7.heap.get? b = some o → s'.heap.get? b = some o ∧ H' b = none := fun b hb o e =>
          let zz := I'.pin (b, o) (List.mem_append_right _ (List.mem_append_right _ (mem_pinsAt hb e)))
          ⟨zz.1, zz.2.1⟩
        have hl : (wipe σ (ow.map (·.2))).length = σ8.length := by rw [← hw8, wipe_length]
        refine ⟨m', hm, i + 1, H', (I'.unpinned (pins := [])).weak hl (fun j v e => ?_), Tn.keep _ _ _ ut7 fun b hb o e => (pinned' b hb o e).1, fun b hb => ?_, w'⟩
        · rw [← hw8] at e
          exact (wipe_some e).1
        · obtain ⟨o, e, _⟩ := Tn.obj _ _ ut7 b hb
          exact (pinned' b hb o e).2
      cases b with
      | false =>
        simp only [Bool.false_eq_true, if_false] at q9 ⊢
        exact ends J9 q9
      | true =>
        simp only [if_true] at q9 ⊢
        refine thnF (pk.run _ z9 σ8 G9 _ J9 q9) fun zz z10 ⟨yk, G10, J10, r10, q10⟩ => ?_
        refine thnF (pe.run _ z10 σ8 G10 _ J10 q10) fun zw z11 ⟨yv, G11, J11, r11, nx⟩ => ?_
        exact thnF (pd _ z11 σ8 G11 N0 yk yv zz zw _ (fun _ _ => False) J11 r10 r11 nx) fun _ z12 ⟨G12, J12, n12⟩ => ends J12 n12
  exact codeAny_compStart_dict goes (Tn.self X.A 0 _ _ _ ut4 goes)

theorem pe_dcP {kx vx tg iter : Expr} {ifs : List Expr} {sco : Scope} {ow : List (Str × Nat)} {pos : Pos} {wi : TI} {g : TG} {tt : TT} {tk tv : TE} {ts : TDs} (hc : X.calm = true) (hN : X.N.Nodup) (hi : PI X tg iter wi) (ok : BlkOk X.N X.env.scope sco ow)
    (hg : ∀ (s : Shared) (H : Hp) (C : Addr) (cl : List (Str × Addr)) (fq : List Addr), PG (X.blk s H sco (compEnvC sco cl C X.env) fq) tg g) (ht : ∀ (s : Shared) (H : Hp) (C : Addr) (cl : List (Str × Addr)) (fq : List Addr), PTs (X.blk s H sco (compEnvC sco cl C X.env) fq) ifs tt)
    (hk : ∀ (s : Shared) (H : Hp) (C : Addr) (cl : List (Str × Addr)) (fq : List Addr), PE (X.blk s H sco (compEnvC sco cl C X.env) fq) kx tk)
    (he : ∀ (s : Shared) (H : Hp) (C : Addr) (cl : List (Str × Addr)) (fq : List Addr), PE (X.blk s H sco (compEnvC sco cl C X.env) fq) vx tv) (hs : ∀ x, foldedSetIterable iter X.env x = pure x)
    (hstep : ∀ (s : Shared) (H : Hp) (C : Addr) (cl : List (Str × Addr)) (fq : List Addr), PDs (X.blk s H sco (compEnvC sco cl C X.env) fq) ts) :
    PE X (.DictComp kx vx [⟨tg, iter, ifs, 0⟩] sco pos) (tDcP wi g tt tk tv ts (ow.map (·.2))) := ⟨fun pins s σ H Q I h => by
  rw [arm_eval_DictComp]
  refine dcP_core hc hN I hi ok hg ht hk he hs hstep h fun N0 C s' m H' J q hn f => ⟨m, hn, fun h'' sb => ?_⟩
  exact ⟨.ref N0, H', J.turned (t' := s'.toks) (fun b o hb e => (sb.2 b hb).trans e) f.1 f.2.1 f.2.2.2.1 f.2.2.2.2.1 f.2.2.2.2.2, rfl, q⟩⟩
/-- name = {..} on one line *)-/
theorem ps_setDcP {i : Nat} {y : Str} {py : Pos} {kx vx tg iter : Expr} {ifs : List Expr} {sco : Scope} {ow : List (Str × Nat)} {pos spos : Pos} {wi : TI} {g : TG} {tt : TT} {tk tv : TE} {ts : TDs} (hc : X.calm = true) (hN : X.N.Nodup) (hy : X.N[i]? = some y) (hyl : X.env.scope.names.lookup y = some .local)
    (hsw : swapsWith (.DictComp kx vx [⟨tg, iter, ifs, 0⟩] sco pos) (some (.Name y py)) spos.line X.env = pure true) (hi : PI X tg iter wi) (ok : BlkOk X.N X.env.scope sco ow)
    (hg : ∀ (s : Shared) (H : Hp) (C : Addr) (cl : List (Str × Addr)) (fq : List Addr), PG (X.blk s H sco (compEnvC sco cl C X.env) fq) tg g) (ht : ∀ (s : Shared) (H : Hp) (C : Addr) (cl : List (Str × Addr)) (fq : List Addr), PTs (X.blk s H sco (compEnvC sco cl C X.env) fq) ifs tt)
    (hk : ∀ (s : Shared) (H : Hp) (C : Addr) (cl : List (Str × Addr)) (fq : List Addr), PE (X.blk s H sco (compEnvC sco cl C X.env) fq) kx tk)
    (he : ∀ (s : Shared) (H : Hp) (C : Addr) (cl : List (Str × Addr)) (fq : List Addr), PE (X.blk s H sco (compEnvC sco cl C X.env) fq) vx tv) (hs : ∀ x, foldedSetIterable iter X.env x = pure x)
    (hstep : ∀ (s : Shared) (H : Hp) (C : Addr) (cl : List (Str × Addr)) (fq : List Addr), PDs (X.blk s H sco (compEnvC sco cl C X.env) fq) ts) :
    PS X (.Assign [.Name y py] (.DictComp kx vx [⟨tg, iter, ifs, 0⟩] sco pos) spos) (tAsg (tDcP wi g tt tk tv ts (ow.map (·.2))) (gName i)) := ⟨fun pins s σ H D I h => by
  rw [exec_Assign_Name_used _ _ _ _ hsw]
  refine wpAny_bind (wpAny_standAt (wpAny_bind ?_))
  show wpAny _ X.A (do let _ ← comprehension (.DictComp kx vx [⟨tg, iter, ifs, 0⟩] sco pos) sco X.env (firstIterPos [⟨tg, iter, ifs, 0⟩] pos) newDict false (eval iter X.env) (some (assign (.Name y py) X.env))) _ _ s
  have hq : tDcP wi g tt tk tv ts (ow.map (·.2)) σ H (fun x H1 => gName i x σ H1 D.nx) := h
  refine wpAny_bind (thn (dcP_core (Qf := fun _ s' => SP X pins D .next s') hc hN I hi ok hg ht hk he hs hstep hq fun N0 C s' m H' J q hn f => ?_) fun _ s' hq => wpAny_pure (wpAny_pure hq))
  show wpAny _ _ (assign (.Name y py) X.env (.ref N0)) _ _ _
  refine wpAny_assign_Name (store_ok2 (v := V.ref N0) J hN hy (.inl hyl) rfl (fun z2 J2 ⟨a, sb, ha⟩ => ?_) (.inr hyl))
  have apart : C ≠ a := by
    rcases ha with z | z
    · rw [z]; exact f.2.1
    · exact fun e => f.2.2.2.2.1 y a z e.symm
  refine ⟨m, hn.sameBut sb apart, fun h3 sb3 => ?_⟩
  exact ⟨_, H', J2.turned (t' := z2.toks) (fun b o hb e => (sb3.2 b hb).trans e) f.1 f.2.1 f.2.2.2.1 f.2.2.2.2.1 f.2.2.2.2.2, q⟩⟩
/-- d[k] = v, by the evaluator -/
def rDset (X : Cx) : TDs := fun D y z H Q => ∃ L es p q, DX (wd X) L H D es ∧ VR (wd X) L H p y ∧ VR (wd X) L H q z ∧ keyOk es p = true ∧ es.length < LIM ∧
  ∀ o, (∀ (L' : List Addr) (H' : Hp), (∀ p x, VR (wd X) L H p x → VR (wd X) L' H' p x) → H' D = some o → DX (wd X) L' H' D (dPut es p q)) → Q (upd H D o)
theorem pds_ok (hu : Um X) : PDs X (rDset X) := fun pins s σ H D y z u r Q E I ry rz ⟨L, es, p, q, d, vp, vq, ok, hl, post⟩ => by
  rw [lim] at hl
  rcases dict_case (W := fun u => H D = some u) I (fun _ => .inl) d ok vp ry with ⟨kvs, k, ha, hp, rfl, rfl⟩ | ⟨xs, ys, k, b, hp, hy, h1, h2, h3, h4, h5, h6, rfl, rfl, h7⟩
  · refine d_dictSet I ha (by rw [← Paired.length hp]; exact hl) ry rz fun s' I' => ⟨_, I', post _ fun L' H' up e => DP.ofK e ?_⟩
    exact Paired.mapP (hp.put k vq) fun a b ⟨q1, q2⟩ => ⟨q1, up _ _ q2⟩
  · have hxl : xs.length < sizeLine := by rw [← Paired.length hp]; exact hl
    have hz : ys.length ≤ sizeLine := by rw [← Paired.length hy]; omega
    have room : (nestedKind X.prog X.w).room X.A := by
      show X.A.units + 8 < cLine
      have : X.A.units + 100 < cLine := hu
      omega
    refine wpAny_dictSet_heap (hsz := hz) room h6 h3 fun h' dd' hs => ?_
    have hxl2 := storedT_len xs k b z
    refine ⟨upd H D (dictB X.prog X.w D (storedT xs k b z)), ?_, post _ fun L' H' up e => DP.ofT e (dPut_ne _ _ _) ?_⟩
    · exact d_write I (mut_of h7) hs (let ⟨q, _, _, hq, _⟩ := dd'; ⟨q, hq⟩) (dictB_ok (stored_ys hy k b rz) (by omega) h2 dd')
    · exact Paired.mapP (hp.put h4 h5 vp vq) fun a b ⟨q1, q2, q3, q4⟩ => ⟨q1, q2, up _ _ q3, up _ _ q4⟩
/-- the dict at D is ready -/
theorem made_epD {pins : List (Addr × Obj)} {σ : L2.St} {s : Shared} {H H' : Hp} {L L2 : List Addr} {h h' : PHeap} {al : Bool} {es : List (PV × PV)} {r : PV} {D : Addr} {Q : VK} (I : Inv X pins σ H' s) (d : DX (wd X) L2 H' D es) (hn : D ∉ L2) (h0 : H D = none) (ex : Ext L H L2 H') (hr : HR (wd X) L2 h H')
    (e : mkDict al es h = .ok r h') (post : Post (wd X) L H r h' Q) : EP X pins σ Q (.ref D) s := by
  obtain ⟨u, hu, mu, mk, hf⟩ := dx_mut d
  unfold mkDict at e
  cases al with
  | false =>
    simp only [Bool.false_eq_true, if_false, R.ok.injEq] at e
    obtain ⟨rfl, rfl⟩ := e
    obtain ⟨od, I1⟩ := I.lock hu mu
    refine ⟨.ref D, _, I1, rfl, post _ _ _ (ex.touch h0) (hr.touch hn hf) ?_⟩
    have := DP.map (mk (FzAt (upd H' D (.frz od u)) D) ⟨od, upd_same⟩) (L' := L2) (H' := upd H' D (.frz od u)) (fun _ _ => VRs.agr (agr_upd hf)) fun _ x => x
    cases this with
    | k h1 h2 h3 => exact .dctK h1 hn h2 h3
    | t h1 h0 h2 h3 h4 h5 => exact .dctT h1 hn h0 h2 h3 h4 h5
  | true =>
    simp only [if_true, R.ok.injEq] at e
    obtain ⟨rfl, rfl⟩ := e
    refine ⟨.ref D, _, I, rfl, post _ _ _ (ex.grow h0) (hr.grow hn hf (DP.map d (fun _ _ => VRs.grow hf) fun _ x => x)) (.ref ?_)⟩
    rw [← hr.len]
    simp
/-- {k: v} -/
theorem se_dct1 {X : Cx} {a b : Expr} {pos : Pos} {al : Bool} {fk fv : Env → PHeap → R PV} (hk : PE X a (rE X fk)) (hv : PE X b (rE X fv)) :
    PE X (.Dict [some a] [b] pos) (rE X fun env h => (fk env h).bind fun k h => (fv env h).bind fun v h => if keyV k then mkDict al [(k, v)] h else .bad) := ⟨fun pins s σ H Q I ⟨L, h, env, r, h', hr, er, e, post⟩ => by
  obtain ⟨k, h1, e1, e⟩ := R.bind_eq_ok e
  obtain ⟨v, h2, e2, e⟩ := R.bind_eq_ok e
  split at e
  rotate_left
  · cases e
  rename_i hkey
  refine thn ((pe_disp (pos := pos) (trs := [(rE X fk, rE X fv)]) (pps_cons hk hv pps_nil) rfl rfl (by simp) (by simp)).run pins s σ H (fun x H' => ∃ D L2, x = .ref D ∧ DX (wd X) L2 H' D [(k, v)] ∧ D ∉ L2 ∧ H D = none ∧ Ext L H L2 H' ∧ HR (wd X) L2 h2 H') I ?_) fun u s1 ⟨x, H1, I1, r1, D, L2, q1, q2, q3, q4, q5, q6⟩ => ?_
  · intro p hp
    have hn := hr.free hp
    refine ⟨L, h, env, k, h1, hr.new hp, er.mono (ext_new hp), e1, fun x L1 H1 x1 hr1 v1 => ⟨L1, h1, env, v, h2, hr1, (er.mono (ext_new hp)).mono x1, e2, fun y L2 H2 x2 hr2 v2 => ?_⟩⟩
    have hD1 := x1.keep p _ hn upd_same
    have hn1 := x1.mem hn upd_same
    have hD2 := x2.keep p _ hn1 hD1
    have hn2 := x2.mem hn1 hD1
    have nf : NF H2 p := fun o u q => by rw [hD2] at q; cases q
    have key : ∃ kk : Key, x = kV kk ∧ k = kP kk := by
      cases k <;> simp [keyV] at hkey
      · cases v1
        exact ⟨.inl _, rfl, rfl⟩
      · cases v1
        exact ⟨.inr _, rfl, rfl⟩
    obtain ⟨kk, rfl, rfl⟩ := key
    refine ⟨hD2, [(kk, y)], rfl, by simp, p, L2, rfl, ?_, hn2, hp, (((ext_new hp).tr hr x1).tr hr x2).touch hp, hr2.touch hn2 nf⟩
    exact .k (kvs := [(kk, y)]) upd_same rfl (.cons (v2.agr (agr_upd nf)) .nil)
  · subst q1
    cases r1
    exact made_epD I1 q2 q3 q4 q5 q6 e post⟩
def dcompF (al : Bool) (fI : Env → PHeap → R (List PV × Chk)) (tg : Tg) (fT : Env → PHeap → R Bool) (fK fV : Env → PHeap → R PV) (vs : List Nat) : Env → PHeap → R PV := fun env h => (fI env h).bind fun p h =>
  (dcompGo p.2 (tgSet tg) fT fK fV (wipeE env vs) p.1 h []).bind fun acc h => mkDict al acc h
section
variable {al fl : Bool} {fI : Env → PHeap → R (List PV × Chk)} {tg : Tg} {fT : Env → PHeap → R Bool} {fE fK fV : Env → PHeap → R PV} {vs : List Nat} {σ : L2.St} {H : Hp} {Q : VK}
theorem dcomp_core (hown : ∀ i ∈ tgIx tg, i ∈ vs) (hfl : fl = true → isTp tg = true) : rE X (dcompF al fI tg fT fK fV vs) σ H Q → ∃ Q' : VK, (∀ Q'' : VK, (∀ x H', Q' x H' → Q'' x H') → tDcP (rI X fl fI) (rG X tg) (rT X fT) (rE X fK) (rE X fV) (rDset X) vs σ H Q'') ∧ (∀ x H', Q' x H' → ∃ D, x = .ref D) ∧
    ∀ pins σ1 s u, EP X pins σ1 Q' u s → EP X pins σ1 Q u s := fun ⟨L, h, env, v, h', hr, er, e, post⟩ => by
  obtain ⟨⟨xs, chk⟩, h1, e1, e⟩ := R.bind_eq_ok e
  obtain ⟨accF, h2, e2, e3⟩ := R.bind_eq_ok e
  refine ⟨fun x H' => ∃ D L2, x = .ref D ∧ DX (wd X) L2 H' D accF ∧ D ∉ L2 ∧ H D = none ∧ Ext L H L2 H' ∧ HR (wd X) L2 h2 H', fun Q'' hQ => ?_, fun x H' ⟨D, _, e, _⟩ => ⟨D, e⟩, fun pins σ1 s u ⟨x, H', I, rx, D, L2, q1, q2, q3, q4, q5, q6⟩ => ?_⟩
  · refine ⟨L, h, env, (xs, chk), h1, hr, er, e1, fun J L1 H1 x1 hr1 walk D hD => ?_⟩
    have hD0 : H D = none := by
      cases hh : H D with
      | none => rfl
      | some o => exact absurd hD (x1.dom D (by rw [hh]; simp))
    have er1 := (er.mono x1).wipe vs
    refine ⟨fun i m Hc => m = xs.length - i ∧ i ≤ xs.length ∧ ∃ Lc gc acc, Ext L1 H1 Lc Hc ∧ DX (wd X) Lc Hc D acc ∧ D ∉ Lc ∧ HR (wd X) Lc gc Hc ∧ dcompGo chk (tgSet tg) fT fK fV (wipeE env vs) (xs.drop i) gc acc = .ok accF h2,
      ⟨xs.length, rfl, Nat.zero_le _, L1, h1, [], ext_new hD, DP.ofK upd_same .nil, hr1.free hD, hr1.new hD, e2⟩, ?_⟩
    rintro i m Hc ⟨rfl, hile, Lc, gc, acc, xc, dc, hnc, hrc, ec⟩
    obtain ⟨uc, hDc, _, _, _⟩ := dx_mut dc
    by_cases hlt : i < xs.length
    · right
      obtain ⟨p, hp⟩ : ∃ p, xs[i]? = some p := ⟨xs[i], List.getElem?_eq_getElem hlt⟩
      have hdrop : xs.drop i = p :: xs.drop (i + 1) := by
        rw [List.drop_eq_getElem_cons hlt]
        have := List.getElem?_eq_some_iff.mp hp
        rw [this.2]
      rw [hdrop] at ec
      unfold dcompGo at ec
      split at ec
      · rename_i hck
        split at ec
        · rename_i env1 ht1
          obtain ⟨b, g1, ec1, ec2⟩ := R.bind_eq_ok ec
          obtain ⟨go, yl⟩ := (walk i Lc Hc gc xc.w hrc hck).2 p hp
          refine ⟨go, fun H' => ∃ Lc gc acc, Ext L1 H1 Lc H' ∧ DX (wd X) Lc H' D acc ∧ D ∉ Lc ∧ HR (wd X) Lc gc H' ∧ dcompGo chk (tgSet tg) fT fK fV (wipeE env vs) (xs.drop (i + 1)) gc acc = .ok accF h2,
            fun H' q => ⟨_, by omega, rfl, hlt, q⟩, fun x H' y => ?_⟩
          obtain ⟨xy, hry, yr⟩ := yl x H' y
          have xx := xc.tr hr1 xy
          have hD' := xy.keep D _ hnc hDc
          have dy := DP.mono xy (W' := fun u => H' D = some u) (fun u hu => xy.keep D u hnc hu) dc
          refine ⟨Lc, gc, _, p, env1, hry, er1.mono xx, yr_fix hfl yr ht1, ht1, fun σ' er' w => ⟨(w _ hown).trans (wipe_wipe _ _), Lc, gc, env1, b, g1, hry, er', ec1, fun L3 H3 x3 hr3 => ?_⟩⟩
          have xx3 := xx.tr hr1 x3
          have hD3 := x3.keep D _ hnc hD'
          have hn3 := x3.mem hnc hD'
          have d3 := DP.mono x3 (W' := fun u => H3 D = some u) (fun u hu => x3.keep D u hnc hu) dy
          cases b with
          | true =>
            simp only [if_true] at ec2 ⊢
            obtain ⟨k', g2, ec3, ec4⟩ := R.bind_eq_ok ec2
            obtain ⟨v', g3, ec5, ec6⟩ := R.bind_eq_ok ec4
            split at ec6
            · rename_i hck2
              rw [Bool.and_eq_true, decide_eq_true_eq] at hck2
              refine ⟨L3, g1, env1, k', g2, hr3, er'.mono x3, ec3, fun w1 L4 H4 x4 hr4 v4 => ⟨L4, g2, env1, v', g3, hr4, er'.mono (x3.tr hry x4), ec5, fun w2 L5 H5 x5 hr5 v5 => ?_⟩⟩
              have hD4 := x4.keep D _ hn3 hD3
              have hn4 := x4.mem hn3 hD3
              have hn5 := x5.mem hn4 hD4
              have d4 := DP.mono x4 (W' := fun u => H4 D = some u) (fun u hu => x4.keep D u hn3 hu) d3
              have d5 := DP.mono x5 (W' := fun u => H5 D = some u) (fun u hu => x5.keep D u hn4 hu) d4
              have hf5 := nf_dx d5
              refine ⟨L5, acc, k', v', d5, v4.mono x5, v5, hck2.1, hck2.2, fun o mk => ?_⟩
              exact ⟨L5, g3, dPut acc k' v', ((xx3.tr hr1 x4).tr hr1 x5).touch hD, mk L5 _ (fun _ _ => VR.agr (agr_upd hf5)) upd_same, hn5, hr5.touch hn5 hf5, ec6⟩
            · cases ec6
          | false =>
            simp only [Bool.false_eq_true, if_false] at ec2 ⊢
            exact ⟨L3, g1, acc, xx3, d3, hn3, hr3, ec2⟩
        · cases ec
      · cases ec
    · left
      have hi2 : i = xs.length := by omega
      subst hi2
      rw [List.drop_length] at ec
      unfold dcompGo at ec
      split at ec
      · rename_i hck
        cases ec
        exact ⟨(walk _ Lc Hc h2 xc.w hrc hck).1 rfl, hQ _ _ ⟨D, Lc, rfl, dc, hnc, hD0, x1.tr hr xc, hrc⟩⟩
      · cases ec
  · subst q1
    cases rx
    exact made_epD I q2 q3 q4 q5 q6 e3 post
theorem comp_core (hown : ∀ i ∈ tgIx tg, i ∈ vs) (hfl : fl = true → isTp tg = true) : rE X (compF al fI tg fT fE vs) σ H Q → ∃ Q' : VK, (∀ Q'' : VK, (∀ x H', Q' x H' → Q'' x H') → tLc (rI X fl fI) (rG X tg) (rT X fT) (rE X fE) vs σ H Q'') ∧ (∀ x H', Q' x H' → ∃ D, x = .ref D) ∧
    ∀ pins σ1 s u, EP X pins σ1 Q' u s → EP X pins σ1 Q u s := fun ⟨L, h, env, v, h', hr, er, e, post⟩ => by
  obtain ⟨⟨xs, chk⟩, h1, e1, e⟩ := R.bind_eq_ok e
  obtain ⟨accF, h2, e2, e3⟩ := R.bind_eq_ok e
  refine ⟨fun x H' => ∃ D L2 us, x = .ref D ∧ H' D = some (.lst us) ∧ D ∉ L2 ∧ H D = none ∧ Ext L H L2 H' ∧ HR (wd X) L2 h2 H' ∧ VRs (wd X) L2 H' accF us, fun Q'' hQ => ?_, fun x H' ⟨D, _, _, e, _⟩ => ⟨D, e⟩, fun pins σ1 s u ⟨x, H', I, rx, D, L2, us, q1, q2, q3, q4, q5, q6, q7⟩ => ?_⟩
  · refine ⟨L, h, env, (xs, chk), h1, hr, er, e1, fun J L1 H1 x1 hr1 walk D hD => ?_⟩
    have hD0 : H D = none := by
      cases hh : H D with
      | none => rfl
      | some o => exact absurd hD (x1.dom D (by rw [hh]; simp))
    have er1 := (er.mono x1).wipe vs
    refine ⟨fun i m Hc => m = xs.length - i ∧ i ≤ xs.length ∧ ∃ Lc gc acc accV, Ext L1 H1 Lc Hc ∧ Hc D = some (.lst accV) ∧ D ∉ Lc ∧ HR (wd X) Lc gc Hc ∧ VRs (wd X) Lc Hc acc accV ∧ compGo chk (tgSet tg) fT fE (wipeE env vs) (xs.drop i) gc acc = .ok accF h2,
      ⟨xs.length, rfl, Nat.zero_le _, L1, h1, [], [], ext_new hD, upd_same, hr1.free hD, hr1.new hD, .nil, e2⟩, ?_⟩
    rintro i m Hc ⟨rfl, hile, Lc, gc, acc, accV, xc, hDc, hnc, hrc, vc, ec⟩
    by_cases hlt : i < xs.length
    · right
      obtain ⟨p, hp⟩ : ∃ p, xs[i]? = some p := ⟨xs[i], List.getElem?_eq_getElem hlt⟩
      have hdrop : xs.drop i = p :: xs.drop (i + 1) := by
        rw [List.drop_eq_getElem_cons hlt]
        have := List.getElem?_eq_some_iff.mp hp
        rw [this.2]
      rw [hdrop] at ec
      unfold compGo at ec
      split at ec
      · rename_i hck
        split at ec
        · rename_i env1 ht1
          obtain ⟨b, g1, ec1, ec2⟩ := R.bind_eq_ok ec
          obtain ⟨go, yl⟩ := (walk i Lc Hc gc xc.w hrc hck).2 p hp
          refine ⟨go, fun H' => ∃ Lc gc acc accV, Ext L1 H1 Lc H' ∧ H' D = some (.lst accV) ∧ D ∉ Lc ∧ HR (wd X) Lc gc H' ∧ VRs (wd X) Lc H' acc accV ∧ compGo chk (tgSet tg) fT fE (wipeE env vs) (xs.drop (i + 1)) gc acc = .ok accF h2,
            fun H' q => ⟨_, by omega, rfl, hlt, q⟩, fun x H' y => ?_⟩
          obtain ⟨xy, hry, yr⟩ := yl x H' y
          have xx := xc.tr hr1 xy
          have hD' := xy.keep D _ hnc hDc
          refine ⟨Lc, gc, _, p, env1, hry, er1.mono xx, yr_fix hfl yr ht1, ht1, fun σ' er' w => ⟨(w _ hown).trans (wipe_wipe _ _), Lc, gc, env1, b, g1, hry, er', ec1, fun L3 H3 x3 hr3 => ?_⟩⟩
          have xx3 := xx.tr hr1 x3
          have hD3 := x3.keep D _ hnc hD'
          have hn3 := x3.mem hnc hD'
          have v3 := (vc.mono xy).mono x3
          cases b with
          | true =>
            simp only [if_true] at ec2 ⊢
            obtain ⟨y', g2, ec3, ec4⟩ := R.bind_eq_ok ec2
            split at ec4
            · rename_i hlen
              refine ⟨L3, g1, env1, y', g2, hr3, er'.mono x3, ec3, fun w' L4 H4 x4 hr4 v4 => ?_⟩
              have hD4 := x4.keep D _ hn3 hD3
              have hn4 := x4.mem hn3 hD3
              have hf4 := nf_lst hD4
              refine ⟨accV, hD4, by rw [vc.length, ← lim]; exact hlen, L4, g2, acc ++ [y'], accV ++ [w'], (xx3.tr hr1 x4).touch hD, upd_same, hn4, hr4.touch hn4 hf4, ?_, ec4⟩
              exact ((v3.mono x4).snoc v4).agr (agr_upd hf4)
            · cases ec4
          | false =>
            simp only [Bool.false_eq_true, if_false] at ec2 ⊢
            exact ⟨L3, g1, acc, accV, xx3, hD3, hn3, hr3, v3, ec2⟩
        · cases ec
      · cases ec
    · left
      have hi2 : i = xs.length := by omega
      subst hi2
      rw [List.drop_length] at ec
      unfold compGo at ec
      split at ec
      · rename_i hck
        cases ec
        exact ⟨(walk _ Lc Hc h2 xc.w hrc hck).1 rfl, hQ _ _ ⟨D, Lc, accV, rfl, hDc, hnc, hD0, x1.tr hr xc, hrc, vc⟩⟩
      · cases ec
  · subst q1
    cases rx
    exact made_ep I q2 q3 q4 q5 q6 q7 e3 post
def comp2F (al : Bool) (fI : Env → PHeap → R (List PV × Chk)) (tg : Tg) (fT : Env → PHeap → R Bool) (fI1 : Env → PHeap → R (List PV × Chk)) (tg1 : Tg) (fT1 : Env → PHeap → R Bool) (fE : Env → PHeap → R PV) (vs1 vs : List Nat) : Env → PHeap → R PV := fun env h => (fI env h).bind fun p h =>
  (comp2Go p.2 (tgSet tg) fT fI1 (tgSet tg1) fT1 fE vs1 (wipeE env vs) p.1 h []).bind fun acc h => mkList al acc h
theorem comp2_core {fI1 : Env → PHeap → R (List PV × Chk)} {tg1 : Tg} {fT1 : Env → PHeap → R Bool} {vs1 : List Nat} (hown : ∀ i ∈ tgIx tg, i ∈ vs) (hown1 : ∀ i ∈ tgIx tg1, i ∈ vs1) (hfl : fl = true → isTp tg = true) : rE X (comp2F al fI tg fT fI1 tg1 fT1 fE vs1 vs) σ H Q → ∃ Q' : VK,
    tLc2 (rI X fl fI) (rG X tg) (rT X fT) (rI X false fI1) (rG X tg1) (rT X fT1) (rE X fE) vs vs1 σ H Q' ∧ ∀ pins σ1 s u, EP X pins σ1 Q' u s → EP X pins σ1 Q u s := fun ⟨L, h, env, v, h', hr, er, e, post⟩ => by
  obtain ⟨⟨xs, chk⟩, h1, e1, e⟩ := R.bind_eq_ok e
  obtain ⟨accF, h2, e2, e3⟩ := R.bind_eq_ok e
  refine ⟨fun x H' => ∃ D L2 us, x = .ref D ∧ H' D = some (.lst us) ∧ D ∉ L2 ∧ H D = none ∧ Ext L H L2 H' ∧ HR (wd X) L2 h2 H' ∧ VRs (wd X) L2 H' accF us, ?_, fun pins σ1 s u ⟨x, H', I, rx, D, L2, us, q1, q2, q3, q4, q5, q6, q7⟩ => ?_⟩
  · refine ⟨L, h, env, (xs, chk), h1, hr, er, e1, fun J L1 H1 x1 hr1 walk D hD => ?_⟩
    have hD0 : H D = none := by
      cases hh : H D with
      | none => rfl
      | some o => exact absurd hD (x1.dom D (by rw [hh]; simp))
    have er1 := (er.mono x1).wipe vs
    refine ⟨fun i m Hc => m = xs.length - i ∧ i ≤ xs.length ∧ ∃ Lc gc acc accV, Ext L1 H1 Lc Hc ∧ Hc D = some (.lst accV) ∧ D ∉ Lc ∧ HR (wd X) Lc gc Hc ∧ VRs (wd X) Lc Hc acc accV ∧ comp2Go chk (tgSet tg) fT fI1 (tgSet tg1) fT1 fE vs1 (wipeE env vs) (xs.drop i) gc acc = .ok accF h2,
      ⟨xs.length, rfl, Nat.zero_le _, L1, h1, [], [], ext_new hD, upd_same, hr1.free hD, hr1.new hD, .nil, e2⟩, ?_⟩
    rintro i m Hc ⟨rfl, hile, Lc, gc, acc, accV, xc, hDc, hnc, hrc, vc, ec⟩
    by_cases hlt : i < xs.length
    · right
      obtain ⟨p, hp⟩ : ∃ p, xs[i]? = some p := ⟨xs[i], List.getElem?_eq_getElem hlt⟩
      have hdrop : xs.drop i = p :: xs.drop (i + 1) := by
        rw [List.drop_eq_getElem_cons hlt]
        have := List.getElem?_eq_some_iff.mp hp
        rw [this.2]
      rw [hdrop] at ec
      unfold comp2Go at ec
      split at ec
      · rename_i hck
        split at ec
        · rename_i env1 ht1
          obtain ⟨b, g1, ec1, ec2⟩ := R.bind_eq_ok ec
          obtain ⟨go, yl⟩ := (walk i Lc Hc gc xc.w hrc hck).2 p hp
          refine ⟨go, fun H' => ∃ Lc gc acc accV, Ext L1 H1 Lc H' ∧ H' D = some (.lst accV) ∧ D ∉ Lc ∧ HR (wd X) Lc gc H' ∧ VRs (wd X) Lc H' acc accV ∧ comp2Go chk (tgSet tg) fT fI1 (tgSet tg1) fT1 fE vs1 (wipeE env vs) (xs.drop (i + 1)) gc acc = .ok accF h2,
            fun H' q => ⟨_, by omega, rfl, hlt, q⟩, fun x H' y => ?_⟩
          obtain ⟨xy, hry, yr⟩ := yl x H' y
          have xx := xc.tr hr1 xy
          have hD' := xy.keep D _ hnc hDc
          refine ⟨Lc, gc, _, p, env1, hry, er1.mono xx, yr_fix hfl yr ht1, ht1, fun σ' er' w => ⟨(w _ hown).trans (wipe_wipe _ _), Lc, gc, env1, b, g1, hry, er', ec1, fun L3 H3 x3 hr3 => ?_⟩⟩
          have xx3 := xx.tr hr1 x3
          have hD3 := x3.keep D _ hnc hD'
          have hn3 := x3.mem hnc hD'
          have v3 := (vc.mono xy).mono x3
          cases b with
          | true =>
            simp only [if_true] at ec2 ⊢
            obtain ⟨⟨ys, chk1⟩, g2, ec3, ec4⟩ := R.bind_eq_ok ec2
            obtain ⟨accM, g3, ec5, ec6⟩ := R.bind_eq_ok ec4
            refine ⟨L3, g1, env1, (ys, chk1), g2, hr3, er'.mono x3, ec3, fun J1 L4 H4 x4 hr4 walk1 => ?_⟩
            have xx4 := xx3.tr hr1 x4
            have hD4 := x4.keep D _ hn3 hD3
            have hn4 := x4.mem hn3 hD3
            have er4 := ((er'.mono x3).mono x4).wipe vs1
            refine ⟨fun j k Hc => k = ys.length - j ∧ j ≤ ys.length ∧ ∃ Lc gc acc accV, ExtW L4 H4 Lc Hc ∧ Ext L1 H1 Lc Hc ∧ Hc D = some (.lst accV) ∧ D ∉ Lc ∧ HR (wd X) Lc gc Hc ∧ VRs (wd X) Lc Hc acc accV ∧ compGo chk1 (tgSet tg1) fT1 fE (wipeE env1 vs1) (ys.drop j) gc acc = .ok accM g3,
              ⟨ys.length, rfl, Nat.zero_le _, L4, g2, acc, accV, ExtW.refl, xx4, hD4, hn4, hr4, v3.mono x4, ec5⟩, ?_⟩
            rintro j k Hd ⟨rfl, hjle, Ld, gd, acd, acdV, xd, sd, hDd, hnd, hrd, vd, ed⟩
            by_cases hlt1 : j < ys.length
            · right
              obtain ⟨p1, hp1⟩ : ∃ p, ys[j]? = some p := ⟨ys[j], List.getElem?_eq_getElem hlt1⟩
              have hdrop1 : ys.drop j = p1 :: ys.drop (j + 1) := by
                rw [List.drop_eq_getElem_cons hlt1]
                have := List.getElem?_eq_some_iff.mp hp1
                rw [this.2]
              rw [hdrop1] at ed
              unfold compGo at ed
              split at ed
              · rename_i hck1
                split at ed
                · rename_i env2 ht2
                  obtain ⟨b1, d1, ed1, ed2⟩ := R.bind_eq_ok ed
                  obtain ⟨go1, yl1⟩ := (walk1 j Ld Hd gd xd hrd hck1).2 p1 hp1
                  refine ⟨go1, fun H' => ∃ Lc gc acc accV, ExtW L4 H4 Lc H' ∧ Ext L1 H1 Lc H' ∧ H' D = some (.lst accV) ∧ D ∉ Lc ∧ HR (wd X) Lc gc H' ∧ VRs (wd X) Lc H' acc accV ∧ compGo chk1 (tgSet tg1) fT1 fE (wipeE env1 vs1) (ys.drop (j + 1)) gc acc = .ok accM g3,
                    fun H' q => ⟨_, by omega, rfl, hlt1, q⟩, fun x H' y => ?_⟩
                  obtain ⟨xy1, hry1, yr1⟩ := yl1 x H' y
                  have xxd := xd.trE xy1
                  have sxd := sd.tr hr1 xy1
                  have hDd' := xy1.keep D _ hnd hDd
                  refine ⟨Ld, gd, _, p1, env2, hry1, er4.monW xxd, yr_of yr1 ht2, ht2, fun σ2 er2 w2 => ⟨(w2 _ hown1).trans (wipe_wipe _ _), Ld, gd, env2, b1, d1, hry1, er2, ed1, fun L5 H5 x5 hr5 => ?_⟩⟩
                  have xx5 := xxd.trE x5
                  have sx5 := sxd.tr hr1 x5
                  have hD5 := x5.keep D _ hnd hDd'
                  have hn5 := x5.mem hnd hDd'
                  have v5 := (vd.mono xy1).mono x5
                  cases b1 with
                  | true =>
                    simp only [if_true] at ed2 ⊢
                    obtain ⟨y', d2, ed3, ed4⟩ := R.bind_eq_ok ed2
                    split at ed4
                    · rename_i hlen
                      refine ⟨L5, d1, env2, y', d2, hr5, er2.mono x5, ed3, fun w' L6 H6 x6 hr6 v6 => ?_⟩
                      have hD6 := x6.keep D _ hn5 hD5
                      have hn6 := x6.mem hn5 hD5
                      have hf6 := nf_lst hD6
                      refine ⟨acdV, hD6, by rw [vd.length, ← lim]; exact hlen, L6, d2, acd ++ [y'], acdV ++ [w'], (xx5.trE x6).touch hf6, (sx5.tr hr1 x6).touch hD, upd_same, hn6, hr6.touch hn6 hf6, ?_, ed4⟩
                      exact ((v5.mono x6).snoc v6).agr (agr_upd hf6)
                    · cases ed4
                  | false =>
                    simp only [Bool.false_eq_true, if_false] at ed2 ⊢
                    exact ⟨L5, d1, acd, acdV, xx5, sx5, hD5, hn5, hr5, v5, ed2⟩
                · cases ed
              · cases ed
            · left
              have hj2 : j = ys.length := by omega
              subst hj2
              rw [List.drop_length] at ed
              unfold compGo at ed
              split at ed
              · rename_i hck1
                cases ed
                exact ⟨(walk1 _ Ld Hd g3 xd hrd hck1).1 rfl, Ld, g3, accM, acdV, sd, hDd, hnd, hrd, vd, ec6⟩
              · cases ed
          | false =>
            simp only [Bool.false_eq_true, if_false] at ec2 ⊢
            exact ⟨L3, g1, acc, accV, xx3, hD3, hn3, hr3, v3, ec2⟩
        · cases ec
      · cases ec
    · left
      have hi2 : i = xs.length := by omega
      subst hi2
      rw [List.drop_length] at ec
      unfold comp2Go at ec
      split at ec
      · rename_i hck
        cases ec
        exact ⟨(walk _ Lc Hc h2 xc.w hrc hck).1 rfl, ⟨D, Lc, accV, rfl, hDc, hnc, hD0, x1.tr hr xc, hrc, vc⟩⟩
      · cases ec
  · subst q1
    cases rx
    exact made_ep I q2 q3 q4 q5 q6 q7 e3 post
end
/-- what is asked of a comprehension's block -/
abbrev BG (X : Cx) (sco : Scope) (e : Expr) (t : TG) : Prop := ∀ (s : Shared) (H : Hp) (C : Addr) (cl : List (Str × Addr)) (fq : List Addr), PG (X.blk s H sco (compEnvC sco cl C X.env) fq) e t
abbrev BTs (X : Cx) (sco : Scope) (e : List Expr) (t : TT) : Prop := ∀ (s : Shared) (H : Hp) (C : Addr) (cl : List (Str × Addr)) (fq : List Addr), PTs (X.blk s H sco (compEnvC sco cl C X.env) fq) e t
abbrev BE (X : Cx) (sco : Scope) (e : Expr) (t : TE) : Prop := ∀ (s : Shared) (H : Hp) (C : Addr) (cl : List (Str × Addr)) (fq : List Addr), PE (X.blk s H sco (compEnvC sco cl C X.env) fq) e t
section
variable {al fl : Bool} {fI : Env → PHeap → R (List PV × Chk)} {tg : Tg} {fT : Env → PHeap → R Bool} {fE fK fV : Env → PHeap → R PV} {elt kx vx tge iter : Expr} {ifs : List Expr} {sco : Scope} {ow : List (Str × Nat)} {pos py spos : Pos} {i : Nat} {y : Str}
theorem se_comp (hc : X.calm = true) (hN : X.N.Nodup) (hi : PI X tge iter (rI X fl fI)) (ok : BlkOk X.N X.env.scope sco ow) (hg : BG X sco tge (rG X tg)) (ht : BTs X sco ifs (rT X fT)) (he : BE X sco elt (rE X fE)) (hs : ∀ x, foldedSetIterable iter X.env x = pure x) (hown : ∀ i ∈ tgIx tg, i ∈ ow.map (·.2)) (hfl : fl = true → isTp tg = true) :
    PE X (.ListComp elt [⟨tge, iter, ifs, 0⟩] sco pos) (rE X (compF al fI tg fT fE (ow.map (·.2)))) := ⟨fun pins s σ H Q I q => by
  obtain ⟨Q', h1, h2, h3⟩ := comp_core hown hfl q
  exact thn ((pe_lc hc hN hi ok hg ht he hs).run pins s σ H Q' I (h1 _ fun _ _ q => q)) fun u s' h => h3 pins σ s' u h⟩
abbrev BI (X : Cx) (sco : Scope) (tg e : Expr) (t : TI) : Prop := ∀ (s : Shared) (H : Hp) (C : Addr) (cl : List (Str × Addr)) (fq : List Addr), PI (X.blk s H sco (compEnvC sco cl C X.env) fq) tg e t
theorem se_comp2 {fI1 : Env → PHeap → R (List PV × Chk)} {tg1 : Tg} {fT1 : Env → PHeap → R Bool} {vs1 : List Nat} {tge1 iter1 : Expr} {ifs1 : List Expr} (hc : X.calm = true) (hN : X.N.Nodup) (hi : PI X tge iter (rI X fl fI)) (ok : BlkOk X.N X.env.scope sco ow) (hv : ∀ i ∈ vs1, i ∈ ow.map (·.2)) (hg : BG X sco tge (rG X tg)) (ht : BTs X sco ifs (rT X fT)) (hi1 : BI X sco tge1 iter1 (rI X false fI1)) (hg1 : BG X sco tge1 (rG X tg1)) (ht1 : BTs X sco ifs1 (rT X fT1)) (he : BE X sco elt (rE X fE)) (hs : ∀ x, foldedSetIterable iter X.env x = pure x) (hs1 : ∀ env x, foldedSetIterable iter1 env x = pure x) (hown : ∀ i ∈ tgIx tg, i ∈ ow.map (·.2)) (hown1 : ∀ i ∈ tgIx tg1, i ∈ vs1) (hfl : fl = true → isTp tg = true) :
    PE X (.ListComp elt [⟨tge, iter, ifs, 0⟩, ⟨tge1, iter1, ifs1, 0⟩] sco pos) (rE X (comp2F al fI tg fT fI1 tg1 fT1 fE vs1 (ow.map (·.2)))) := ⟨fun pins s σ H Q I q => by
  obtain ⟨Q', h1, h3⟩ := comp2_core hown hown1 hfl q
  exact thn ((pe_lc2 hc hN hi ok hv hg ht hi1 hg1 ht1 he hs hs1).run pins s σ H Q' I h1) fun u s' h => h3 pins σ s' u h⟩
theorem se_dcomp (hu : Um X) (hc : X.calm = true) (hN : X.N.Nodup) (hi : PI X tge iter (rI X fl fI)) (ok : BlkOk X.N X.env.scope sco ow) (hg : BG X sco tge (rG X tg)) (ht : BTs X sco ifs (rT X fT)) (hk : BE X sco kx (rE X fK)) (he : BE X sco vx (rE X fV)) (hs : ∀ x, foldedSetIterable iter X.env x = pure x) (hown : ∀ i ∈ tgIx tg, i ∈ ow.map (·.2)) (hfl : fl = true → isTp tg = true) :
    PE X (.DictComp kx vx [⟨tge, iter, ifs, 0⟩] sco pos) (rE X (dcompF al fI tg fT fK fV (ow.map (·.2)))) := ⟨fun pins s σ H Q I q => by
  obtain ⟨Q', h1, h2, h3⟩ := dcomp_core hown hfl q
  exact thn ((pe_dcP hc hN hi ok hg ht hk he hs fun s H C cl fq => pds_ok (X := X.blk s H sco (compEnvC sco cl C X.env) fq) hu).run pins s σ H Q' I (h1 _ fun _ _ q => q)) fun u s' h => h3 pins σ s' u h⟩
theorem named {F : Env → PHeap → R PV} {st : Stmt} {t : TE} (ps : PS X st (tAsg t (gName i))) (core : ∀ σ H Q, rE X F σ H Q → ∃ Q' : VK, (∀ Q'' : VK, (∀ x H', Q' x H' → Q'' x H') → t σ H Q'') ∧ (∀ x H', Q' x H' → ∃ D, x = .ref D) ∧ ∀ pins σ1 s u, EP X pins σ1 Q' u s → EP X pins σ1 Q u s) :
    PS X st (rS X (setF i F)) := ⟨fun pins s σ H D I ⟨L, h, env, o, h', hr, er, e, post⟩ => by
  obtain ⟨v, e1, rfl⟩ := setF_ok e
  obtain ⟨Q', h1, h2, h3⟩ := core σ H (fun x H1 => D.nx (σ.set i (some x)) H1) ⟨L, h, env, v, h', hr, er, e1, fun x L1 H1 x1 hr1 v1 => post _ _ x1 hr1 _ ((er.mono x1).set v1)⟩
  refine thn (ps.run pins s σ H ⟨fun σ1 H1 => ∃ x, σ1 = σ.set i (some x) ∧ Q' x H1, fun _ _ => False, fun _ _ => False, fun _ _ => False⟩ I (h1 _ fun x H' q => ⟨x, rfl, q⟩)) fun fl s1 q => ?_
  cases fl with
  | next =>
    obtain ⟨σ1, H1, I1, x, rfl, q⟩ := q
    obtain ⟨D0, rfl⟩ := h2 _ _ q
    obtain ⟨w, H2, I2, rw', q2⟩ := h3 pins _ s1 (.ref D0) ⟨.ref D0, H1, I1, rfl, q⟩
    obtain rfl := RelV.inj rw' (show RelV (.ref D0) (.ref D0) from rfl)
    exact ⟨_, H2, I2, q2⟩
  | brk => obtain ⟨_, _, _, q⟩ := q; exact q.elim
  | cont => obtain ⟨_, _, _, q⟩ := q; exact q.elim
  | ret w => obtain ⟨_, _, _, _, _, q⟩ := q; exact q.elim⟩
theorem ss_setLc (hc : X.calm = true) (hN : X.N.Nodup) (hy : X.N[i]? = some y) (hyl : X.env.scope.names.lookup y = some .local) (hsw : swapsWith (.ListComp elt [⟨tge, iter, ifs, 0⟩] sco pos) (some (.Name y py)) spos.line X.env = pure true)
    (hi : PI X tge iter (rI X fl fI)) (ok : BlkOk X.N X.env.scope sco ow) (hg : BG X sco tge (rG X tg)) (ht : BTs X sco ifs (rT X fT)) (he : BE X sco elt (rE X fE)) (hs : ∀ x, foldedSetIterable iter X.env x = pure x) (hown : ∀ i ∈ tgIx tg, i ∈ ow.map (·.2)) (hfl : fl = true → isTp tg = true) :
    PS X (.Assign [.Name y py] (.ListComp elt [⟨tge, iter, ifs, 0⟩] sco pos) spos) (rS X (setF i (compF al fI tg fT fE (ow.map (·.2))))) :=
  named (ps_setLc hc hN hy hyl hsw hi ok hg ht he hs) fun _ _ _ => comp_core hown hfl
theorem ss_setDc (hu : Um X) (hc : X.calm = true) (hN : X.N.Nodup) (hy : X.N[i]? = some y) (hyl : X.env.scope.names.lookup y = some .local) (hsw : swapsWith (.DictComp kx vx [⟨tge, iter, ifs, 0⟩] sco pos) (some (.Name y py)) spos.line X.env = pure true)
    (hi : PI X tge iter (rI X fl fI)) (ok : BlkOk X.N X.env.scope sco ow) (hg : BG X sco tge (rG X tg)) (ht : BTs X sco ifs (rT X fT)) (hk : BE X sco kx (rE X fK)) (he : BE X sco vx (rE X fV)) (hs : ∀ x, foldedSetIterable iter X.env x = pure x) (hown : ∀ i ∈ tgIx tg, i ∈ ow.map (·.2)) (hfl : fl = true → isTp tg = true) :
    PS X (.Assign [.Name y py] (.DictComp kx vx [⟨tge, iter, ifs, 0⟩] sco pos) spos) (rS X (setF i (dcompF al fI tg fT fK fV (ow.map (·.2))))) :=
  named (ps_setDcP hc hN hy hyl hsw hi ok hg ht hk he hs fun s H C cl fq => pds_ok (X := X.blk s H sco (compEnvC sco cl C X.env) fq) hu) fun _ _ _ => dcomp_core hown hfl
end
end
end HW
/-! HwU: sorted sets, the sizes of sets. -/
namespace HW
open PySem PySem.Spec PyProof.Rows L2 C8

/-! ### the order of whole numbers and of tuples of them -/
abbrev tI (k : List Int) : PV := .tup (k.map .int)
theorem toD_ints : ∀ k : List Int, toDs (k.map .int) = some (k.map .int)
  | [] => rfl
  | i :: k => by rw [List.map_cons, toDs, toD, toD_ints k]; rfl
theorem dOf_tI (k : List Int) : dOf (tI k) = .tuple (k.map .int) := by
  unfold dOf tI
  rw [toD, toD_ints]
  rfl
theorem dataLt_tup (a b : List Int) : PySem.W.dataLt (.tuple (a.map .int)) (.tuple (b.map .int)) = decide (a < b) := PySem.W.dataLt_ints a b
theorem le_int (a b : Int) : PySem.W.dataLe false dOf (.int a) (.int b) = decide (a ≤ b) := by
  show (!PySem.W.dataLt (.int b) (.int a)) = _
  rw [PySem.W.dataLt_int]
  exact PySem.W.not_lt_int a b
theorem le_tI (a b : List Int) : PySem.W.dataLe false dOf (tI a) (tI b) = decide (a ≤ b) := by
  show (!PySem.W.dataLt (dOf (tI b)) (dOf (tI a))) = _
  rw [dOf_tI, dOf_tI, dataLt_tup]
  by_cases h : b < a
  · have h' : ¬ a ≤ b := fun r => List.not_lt.mpr r h
    simp [h, h']
  · have h' : a ≤ b := List.not_lt.mp h
    simp [h, h']
def leI (a b : Int) : Bool := decide (a ≤ b)
def leR (a b : List Int) : Bool := decide (a ≤ b)
theorem sortV_ints (ns : List Int) : sortV (ns.map .int) = (ns.mergeSort leI).map .int := by
  unfold sortV
  rw [List.map_mergeSort]
  intro a _ b _
  exact (le_int a b).symm
theorem sortV_tups (ks : List (List Int)) : sortV (ks.map tI) = (ks.mergeSort leR).map tI := by
  unfold sortV
  rw [List.map_mergeSort]
  intro a _ b _
  exact (le_tI a b).symm
theorem leI_trans (a b c : Int) : leI a b = true → leI b c = true → leI a c = true := by unfold leI; simp only [decide_eq_true_eq]; omega
theorem leI_total (a b : Int) : (leI a b || leI b a) = true := by unfold leI; simp only [Bool.or_eq_true, decide_eq_true_eq]; omega
theorem leR_trans (a b c : List Int) : leR a b = true → leR b c = true → leR a c = true := by
  unfold leR; simp only [decide_eq_true_eq]; exact List.le_trans
theorem leR_total (a b : List Int) : (leR a b || leR b a) = true := by
  unfold leR; simp only [Bool.or_eq_true, decide_eq_true_eq]; exact List.le_total a b
/-- what is in order is the sorted one -/
theorem sortI_eq {a l : List Int} (hp : a.Perm l) (ha : a.Pairwise (· ≤ ·)) : a = l.mergeSort leI := by
  refine List.Perm.eq_of_pairwise (le := (· ≤ ·)) (fun x y _ _ h1 h2 => Int.le_antisymm h1 h2) ha ?_ (hp.trans (List.mergeSort_perm l leI).symm)
  exact (List.pairwise_mergeSort leI_trans leI_total l).imp fun h => of_decide_eq_true h
theorem sortR_eq {a l : List (List Int)} (hp : a.Perm l) (ha : a.Pairwise (· ≤ ·)) : a = l.mergeSort leR := by
  refine List.Perm.eq_of_pairwise (le := (· ≤ ·)) (fun x y _ _ h1 h2 => List.le_antisymm h1 h2) ha ?_ (hp.trans (List.mergeSort_perm l leR).symm)
  exact (List.pairwise_mergeSort leR_trans leR_total l).imp fun h => of_decide_eq_true h
/-! ### the first ones -/
theorem mem_dedup {x : PV} : ∀ {xs : List PV}, x ∈ dedup xs ↔ x ∈ xs
  | [] => Iff.rfl
  | y :: ys => by
    rw [dedup, List.mem_cons, List.mem_cons, List.mem_filter, mem_dedup (xs := ys)]
    by_cases h : x = y
    · simp [h]
    · simp [h]
theorem dedup_nodup : ∀ xs : List PV, (dedup xs).Nodup
  | [] => List.nodup_nil
  | x :: xs => by
    rw [dedup, List.nodup_cons]
    refine ⟨fun h => ?_, (dedup_nodup xs).filter _⟩
    rw [List.mem_filter] at h
    simp at h
theorem plain_cases {xs : List PV} (h : plainSet xs = true) : (∃ ns : List Int, xs = ns.map .int) ∨ ∃ ks : List (List Int), xs = ks.map tI := by
  unfold plainSet at h
  rw [Bool.or_eq_true] at h
  rcases h with h | h
  · left
    induction xs with
    | nil => exact ⟨[], rfl⟩
    | cons x xs ih =>
      rw [List.all_cons, Bool.and_eq_true] at h
      obtain ⟨ns, rfl⟩ := ih h.2
      cases x with
      | int i => exact ⟨i :: ns, rfl⟩
      | _ => simp at h
  · right
    induction xs with
    | nil => exact ⟨[], rfl⟩
    | cons x xs ih =>
      rw [List.all_cons, Bool.and_eq_true] at h
      obtain ⟨ks, rfl⟩ := ih h.2
      cases x with
      | tup ys =>
        obtain ⟨ns, hn⟩ := Option.isSome_iff_exists.mp h.1
        have : ∀ {ys : List PV} {ns : List Int}, asInts ys = some ns → ys = ns.map .int := by
          intro ys
          induction ys with
          | nil => intro ns e; rw [asInts] at e; cases e; rfl
          | cons y ys ih =>
            intro ns e
            cases y with
            | int i =>
              rw [asInts] at e
              obtain ⟨ms, e1, rfl⟩ := Option.map_eq_some_iff.mp e
              rw [ih e1]; rfl
            | _ => simp [asInts] at e
        exact ⟨ns :: ks, by rw [List.map_cons, tI, ← this hn]⟩
      | _ => simp at h
theorem int_inj : ∀ {a b : Int}, PV.int a = PV.int b → a = b := fun e => by cases e; rfl
theorem tI_inj {a b : List Int} (e : tI a = tI b) : a = b := by
  unfold tI at e
  injection e with e
  exact (List.map_inj_right fun x y h => int_inj h).mp e
/-- a list with the same ones, each once -/
theorem perm_dedup {α : Type} {f : α → PV} (hf : ∀ a b, f a = f b → a = b) {ys xs : List α} (hn : ys.Nodup) (hm : ∀ k, k ∈ ys ↔ k ∈ xs) : (ys.map f).Perm (dedup (xs.map f)) := by
  refine (List.perm_ext_iff_of_nodup (List.pairwise_map.mpr (hn.imp fun h e => h (hf _ _ e))) (dedup_nodup _)).mpr fun z => ?_
  rw [mem_dedup, List.mem_map, List.mem_map]
  exact ⟨fun ⟨a, h1, h2⟩ => ⟨a, (hm a).mp h1, h2⟩, fun ⟨a, h1, h2⟩ => ⟨a, (hm a).mpr h1, h2⟩⟩
/-! ### filling a new set -/
section
variable {X : Cx} {pins : List (Addr × Obj)} {σ : L2.St} {H : Hp} {s : Shared} {L : List Addr}
theorem none_of {h : Heap} {b : Addr} (hb : h.objs.size ≤ b) : h.get? b = none := by
  cases q : h.get? b with
  | none => rfl
  | some o => exact absurd (Nat.lt_of_lt_of_le (Heap.lt_size q) hb) (Nat.lt_irrefl _)
theorem loop_ints {P : Program} {w : World} {A : Around} {l : Addr} {us : List Value} {ns : List Int} (hh : A.handled = none) (hl : l < s.heap.objs.size) (hi : IntsAre us ns) (hb : ns.length < 64) :
    SetLoop P w A s l us.toArray (fun h' => ∃ c, c ≤ ns.length ∧ SetR w h' s.heap.objs.size (fun j => decide (j ∈ ns)) c) := fun I St s1 R eI W st hk hS hR => by
  have hlen : us.length = ns.length := hi.length
  subst eI
  have hSf : s.heap.objs.size ∉ [s.heap.objs.size + 1, l] := by
    simp only [List.mem_cons, List.not_mem_nil, or_false, not_or]
    exact ⟨Nat.ne_of_lt (Nat.lt_succ_self _), Nat.ne_of_gt hl⟩
  refine set_update_ints (A := A.in1.in1) W.toS s.heap.objs.size hSf ns (by simpa using hlen) (by unfold scanBound; omega) (fun i v hv => ?_) _ 0 s1 rfl (Nat.zero_le _) st ⟨0, Nat.le_refl 0, setR_new_at hS⟩ fun s' c hm hc hq => hR s' hm ⟨c, by rw [← hlen]; simpa using hc, hq⟩
  have hi' : i < ns.length := by rw [← hlen]; simpa using (Array.getElem?_eq_some_iff.mp hv).1
  obtain ⟨t, e⟩ := IntsAre.int_at hi i v (by simpa using hv)
  refine ⟨ns[i], t, List.getElem?_eq_getElem hi', ?_⟩
  rw [e, List.getD_eq_getElem?_getD, List.getElem?_eq_getElem hi']
  rfl
theorem loop_tups {P : Program} {w : World} {A : Around} {l : Addr} {us : List Value} {ks : List (Addr × List Int)} (hu : A.units + 3 < cLine) (hl : l < s.heap.objs.size) (hit : us = ks.map fun p => Value.ref p.1) (hk0 : ∀ p ∈ ks, IsT P w s.heap p.2 p.1) (hb : ks.length < 64) :
    SetLoop P w A s l us.toArray (fun h' => ∃ L es ep t, SetTR P w h' s.heap.objs.size L es ep t ∧ Got ks ks.length L) := fun I St s1 R eI W st hk hS hR => by
  subst eI
  subst hit
  have hSf : s.heap.objs.size ∉ [s.heap.objs.size + 1, l] := by
    simp only [List.mem_cons, List.not_mem_nil, or_false, not_or]
    exact ⟨Nat.ne_of_lt (Nat.lt_succ_self _), Nat.ne_of_gt hl⟩
  have hn : (ks.map fun p => Value.ref p.1).toArray.size = ks.length := by simp
  refine set_update_tups (A := A.in1.in1) W.toS s.heap.objs.size hSf ks hn hb (fun i v hv => ?_) s.heap hk0 (none_of (Nat.le_refl _)) (fun b hb => none_of ?_) (by show A.units + 3 < cLine; exact hu) _ 0 s1 rfl (Nat.zero_le _) st hk ⟨[], #[], 0, _, setTR_fresh hS, Got.zero ks⟩
    fun s' L es ep t hm hq g _ => hR s' hm ⟨L, es, ep, t, hq, by rw [← hn]; exact g⟩
  · simp only [List.getElem?_toArray, List.getElem?_map] at hv
    obtain ⟨p, h1, rfl⟩ := Option.map_eq_some_iff.mp hv
    exact ⟨p, h1, rfl⟩
  · rw [List.mem_singleton.mp hb]
    omega
/-- the tuples of ints that a list holds -/
theorem tups_at (I : Inv X pins σ H s) : ∀ {ks : List (List Int)} {vs : List V} {us : List Value}, VRs (wd X) L H (ks.map tI) vs → Vals vs us → ∃ ps : List (Addr × List Int), ps.map (·.2) = ks ∧ us = ps.map (fun p => Value.ref p.1) ∧ vs = ps.map (fun p => V.ref p.1) ∧
    (∀ p ∈ ps, IsT X.prog X.w s.heap p.2 p.1) ∧ ∀ p ∈ ps, VR (wd X) L H (tI p.2) (.ref p.1)
  | [], _, _, .nil, .nil => ⟨[], rfl, rfl, rfl, (by simp), (by simp)⟩
  | k :: ks, _, _, .cons v1 v2, .cons r1 r2 => by
    obtain ⟨ps, h1, h2, h3, h4, h5⟩ := tups_at I v2 r2
    have v0 := v1
    cases v1 with
    | @tup a _ ws t1 t2 t3 =>
      cases r1
      obtain ⟨its, rv, ⟨o, ho, hc, n, hd⟩, hz⟩ := I.tuple (TupAt.sq (K := X.K) t1)
      have e : ws = k.map V.int := t3.ints (by
        have : ∀ k : List Int, asInts (k.map .int) = some k := by
          intro k
          induction k with
          | nil => rfl
          | cons i k ih => rw [List.map_cons, asInts, ih]; rfl
        exact this k)
      subst e
      have items : ∀ {k : List Int} {us : List Value}, Vals (k.map V.int) us → ItemsAre (PySem.intKind X.prog X.w) k us := by
        intro k
        induction k with
        | nil => intro us r; cases r; exact .nil
        | cons i k ih =>
          intro us r
          cases r with
          | cons r1 r2 =>
            obtain ⟨t, rfl⟩ := r1
            exact .cons (show Value.isInt i (.int i t) = true by simp [Value.isInt]) (ih r2)
      have it : IsT X.prog X.w s.heap k a := ⟨o, its.toArray, n, ho, hc, hd, by simpa using items rv⟩
      refine ⟨(a, k) :: ps, by rw [List.map_cons, h1], by rw [List.map_cons, h2], by rw [List.map_cons, h3], fun p hp => ?_, fun p hp => ?_⟩
      · rcases List.mem_cons.mp hp with rfl | hp
        · exact it
        · exact h4 p hp
      · rcases List.mem_cons.mp hp with rfl | hp
        · exact v0
        · exact h5 p hp
end
end HW
/-! HwV: sorted(set(..)), len(set(..)). -/
namespace HW
open PySem PySem.Spec PyProof.Rows L2 C8

section
variable {X : Cx} {pins : List (Addr × Obj)} {σ : L2.St} {H : Hp} {s : Shared} {L : List Addr}
theorem inv_at (I : Inv X pins σ H s) {s1 : Shared} (k : ∀ b o, s.heap.get? b = some o → s1.heap.get? b = some o) (g : s1.gens = s.gens) (o : s1.os = s.os) : Inv X pins σ H s1 :=
  I.call' (ch := []) o (Un.kept k) (I.hok.kept k) (by rw [g]; exact I.bare) fun b hb => absurd hb (by simp)
/-- sorted(v), v anything that gives some of xs in some order -/
theorem sorted_colX (hc : X.calm = true) (hu : Um X) (I : Inv X pins σ H s) {v : Value} {xs zs : List PV} (ok : sortOk xs = true)
    (col : ∀ (A : Around) (E : Value → Shared → Prop) (R : List Value → Shared → Prop), A.handled = none →
      (∀ s1 acc vs ys, (∀ b o, s.heap.get? b = some o → s1.heap.get? b = some o) → s1.gens = s.gens → s1.os = s.os → Vals vs acc → VRs (wd X) L H ys vs → acc.length ≤ sizeLine → (∀ y ∈ ys, y ∈ xs) → sortV ys = zs → R acc s1) → wpAny (model X.prog X.w) A (collect v) R E s)
    {Q : VK} (hf : ∀ s1 p vs, Inv X pins σ (upd H p (.lst vs)) s1 → H p = none → VRs (wd X) L H zs vs → EP X pins σ Q (.ref p) s1) :
    wpAny (model X.prog X.w) X.A (call (.builtin "sorted") [v]) (EP X pins σ Q) X.xe s := by
  obtain ⟨hD, hA, hS, hDp⟩ := sortOk_facts ok
  refine Calls.call_function_entry kind_sorted plain_sorted entry_sorted (args_sorted1 _) ?_
  unfold Builtin.«sorted»
  refine wpAny_bind (m := checkCount "sorted" 1 1 _) (wpAny_pure ?_)
  have hh : X.A.in1.handled = none := I.ok.hd hc
  refine wpAny_bind (col X.A.in1 _ _ hh fun s1 acc vs ys hk hg hos rv vv hl sub ez => ?_)
  refine wpAny_bind (wpAny_newList ?_ hl)
  have I1 := inv_at I hk hg hos
  have hk2 : ∀ b o, s1.heap.get? b = some o → (s1.heap.push { cls := .type "list", data := .seq acc.toArray }).get? b = some o := fun b o e => Heap.get?_push_of_some _ e
  have e1 := each_of vv rv
  have hn : H s1.heap.objs.size = none := I1.hok.fresh (Nat.le_refl _)
  have hat : (s1.heap.push { cls := .type "list", data := .seq acc.toArray }).get? s1.heap.objs.size = some (seqObj "list" acc.toArray 0) := Heap.get?_push_size _ rfl
  have subM : ∀ d ∈ ys.map dOf, d ∈ xs.map dOf := fun d hd => by
    obtain ⟨y, hy, rfl⟩ := List.mem_map.mp hd
    exact List.mem_map.mpr ⟨y, sub y hy, rfl⟩
  have hS' : PySem.W.Sortable (ys.map dOf) := by
    rcases hS with h | h
    · exact .inl fun d hd => h d (subM d hd)
    · exact .inr fun d hd => h d (subM d hd)
  refine wpAny_bind (wpAny_holding (PySem.W.list_sort_data (A := X.A.in1) (s := { s1 with heap := s1.heap.push { cls := .type "list", data := .seq acc.toArray } }) hat e1 (each_reads I1 hk2 (fun p hp => hD p (sub p hp)) e1 (Nat.le_refl _)) (fun d hd d' hd' => hA d (subM d hd) d' (subM d' hd')) hS' (by rw [← vv.length, rv.length]; exact hl) (fun p hp => ?_) fun out ho eo => ?_))
  · have h1 := hDp p (sub p hp)
    have h2 : X.A.units + 100 < cLine := hu
    rw [Around.in1_units]
    omega
  · refine wpAny_pure ⟨_, rfl, ?_⟩
    obtain ⟨ws, rw1, rw2⟩ := of_each eo
    obtain ⟨e', he'⟩ := PyProof.Rows.sortedHeap_at (vs := acc) (out := out.toArray) hat
    have hlen : ws.length ≤ sizeLine := by rw [rw1.length, ho, ← vv.length, rv.length]; exact hl
    have rw2' : VRs (wd X) L H zs ws := by rw [← ez]; exact rw2
    refine hf _ s1.heap.objs.size ws (I1.laid (t' := s1.toks) (fun b o e => ?_) (Nat.le_refl _) ⟨hlen, out, e', rw1, he'⟩) hn rw2'
    have hb : b < s1.heap.objs.size := Heap.lt_size e
    rw [PyProof.Rows.sortedHeap_old (Nat.ne_of_lt hb) (Heap.lt_size (hk2 b o e))]
    exact hk2 b o e
/-- back from PVs -/
def toI : PV → Option Int
  | .int i => some i
  | _ => none
def toR : PV → Option (List Int)
  | .tup ys => asInts ys
  | _ => none
theorem asInts_map : ∀ k : List Int, asInts (k.map .int) = some k
  | [] => rfl
  | i :: k => by rw [List.map_cons, asInts, asInts_map k]; rfl
theorem toI_map (ns : List Int) : (ns.map PV.int).filterMap toI = ns := by
  induction ns with
  | nil => rfl
  | cons n ns ih => rw [List.map_cons, List.filterMap_cons]; show n :: _ = _; rw [ih]
theorem toR_map (ks : List (List Int)) : (ks.map tI).filterMap toR = ks := by
  induction ks with
  | nil => rfl
  | cons n ns ih =>
    rw [List.map_cons, List.filterMap_cons]
    have : toR (tI n) = some n := asInts_map n
    rw [this, ih]
theorem dedup_ints (ns : List Int) : ∃ ms : List Int, dedup (ns.map .int) = ms.map .int ∧ (∀ k, k ∈ ms ↔ k ∈ ns) ∧ ms.Nodup := by
  have h : plainSet (dedup (ns.map .int)) = true ∧ ∀ x ∈ dedup (ns.map PV.int), ∃ i, x = .int i := by
    have : ∀ x ∈ dedup (ns.map PV.int), ∃ i, x = .int i := fun x hx => by
      obtain ⟨i, _, rfl⟩ := List.mem_map.mp (mem_dedup.mp hx)
      exact ⟨i, rfl⟩
    refine ⟨?_, this⟩
    unfold plainSet
    rw [Bool.or_eq_true]
    left
    rw [List.all_eq_true]
    intro x hx
    obtain ⟨i, rfl⟩ := this x hx
    rfl
  have g : ∀ xs : List PV, (∀ x ∈ xs, ∃ i, x = PV.int i) → ∃ ms : List Int, xs = ms.map .int := by
    intro xs
    induction xs with
    | nil => intro _; exact ⟨[], rfl⟩
    | cons x xs ih =>
      intro h
      obtain ⟨i, rfl⟩ := h x (by simp)
      obtain ⟨ms, rfl⟩ := ih fun y hy => h y (by simp [hy])
      exact ⟨i :: ms, rfl⟩
  obtain ⟨ms, e⟩ := g _ h.2
  refine ⟨ms, e, fun k => ?_, ?_⟩
  · have h1 : PV.int k ∈ dedup (ns.map PV.int) ↔ PV.int k ∈ ns.map PV.int := mem_dedup
    rw [e] at h1
    simpa using h1
  · have := dedup_nodup (ns.map PV.int)
    rw [e] at this
    exact (List.pairwise_map.mp this).imp fun h z => h (by rw [z])
theorem dedup_tups (ks : List (List Int)) : ∃ ms : List (List Int), dedup (ks.map tI) = ms.map tI ∧ (∀ k, k ∈ ms ↔ k ∈ ks) ∧ ms.Nodup := by
  have h : ∀ x ∈ dedup (ks.map tI), ∃ i, x = tI i := fun x hx => by
    obtain ⟨i, _, rfl⟩ := List.mem_map.mp (mem_dedup.mp hx)
    exact ⟨i, rfl⟩
  have g : ∀ xs : List PV, (∀ x ∈ xs, ∃ i, x = tI i) → ∃ ms : List (List Int), xs = ms.map tI := by
    intro xs
    induction xs with
    | nil => intro _; exact ⟨[], rfl⟩
    | cons x xs ih =>
      intro h
      obtain ⟨i, rfl⟩ := h x (by simp)
      obtain ⟨ms, rfl⟩ := ih fun y hy => h y (by simp [hy])
      exact ⟨i :: ms, rfl⟩
  obtain ⟨ms, e⟩ := g _ h
  refine ⟨ms, e, fun k => ?_, ?_⟩
  · have h1 : tI k ∈ dedup (ks.map tI) ↔ tI k ∈ ks.map tI := mem_dedup
    rw [e, List.mem_map, List.mem_map] at h1
    exact ⟨fun hk => let ⟨a, h2, h3⟩ := h1.mp ⟨k, hk, rfl⟩; tI_inj h3 ▸ h2, fun hk => let ⟨a, h2, h3⟩ := h1.mpr ⟨k, hk, rfl⟩; tI_inj h3 ▸ h2⟩
  · have := dedup_nodup (ks.map tI)
    rw [e] at this
    exact (List.pairwise_map.mp this).imp fun h z => h (by rw [z])
/-- what a set of xs is -/
theorem seq_src (I : Inv X pins σ H s) {a : Addr} {vs : List V} (h : Rd H a (.lst vs) ∨ TupAt H a vs) : ∃ us : List Value, Vals vs us ∧ (s.heap.IsList a us.toArray ∨ s.heap.IsTuple a us.toArray) ∧ a < s.heap.objs.size := by
  rcases h with h | h
  · obtain ⟨us, rv, p, _⟩ := I.list (sqr (K := X.K) h)
    exact ⟨us, rv, .inl p.isList, let ⟨_, e, _⟩ := p.isList; Heap.lt_size e⟩
  · obtain ⟨us, rv, p, _⟩ := I.tuple (h.sq (K := X.K))
    exact ⟨us, rv, .inr p, let ⟨_, e, _⟩ := p; Heap.lt_size e⟩
theorem sort_set (hc : X.calm = true) (hu : Um X) (I : Inv X pins σ H s) {h h' : PHeap} (hr : HR (wd X) L h H) {a : Addr} {vs : List V} {xs : List PV} {al : Bool} {r : PV} {Q : VK} (src : Rd H a (.lst vs) ∨ TupAt H a vs) (v : VRs (wd X) L H xs vs) (pl : plainSet xs = true) (ok : sortOk xs = true) (hb : xs.length < 64)
    (e : mkList al (sortV (dedup xs)) h = .ok r h') (post : Post (wd X) L H r h' Q) :
    wpAny (model X.prog X.w) X.A (call (.type "set") [.ref a]) (fun u s1 => wpAny (model X.prog X.w) X.A (call (.builtin "sorted") [u]) (EP X pins σ Q) X.xe s1) X.xe s := by
  obtain ⟨us, rv, src', hl⟩ := seq_src I src
  have hh := I.ok.hd hc
  rcases plain_cases pl with ⟨ns, rfl⟩ | ⟨ks, rfl⟩
  · have e1 : vs = ns.map V.int := v.ints (asInts_map ns)
    subst e1
    have hi := intsAre_of rv
    rw [List.length_map] at hb
    refine set_made hh src' (loop_ints hh hl hi hb) fun h1 tk ⟨c, hc1, R⟩ kk => ?_
    have I1 : Inv X pins σ H { s with heap := h1, toks := tk } := I.kept kk
    refine sorted_set R hh (by omega) fun s' p out c' ns' k g o hz at_ ia pw mem hlen => ?_
    have hn : H p = none := I1.hok.fresh hz
    obtain ⟨ms, em, mm, mn⟩ := dedup_ints ns
    have nd : ns'.Nodup := pw.imp fun h e => by omega
    have pm : ns'.Perm ms := (List.perm_ext_iff_of_nodup nd mn).mpr fun z => by rw [mem z, mm z]; simp
    have es : sortV (dedup (ns.map .int)) = ns'.map .int := by
      rw [em, sortV_ints, ← sortI_eq pm (pw.imp fun h => by omega)]
    rw [es] at e
    have k0 : ∀ b o, s.heap.get? b = some o → s'.heap.get? b = some o := fun b o e => k b o (kk b o e)
    have new : ObjOk X.prog X.w (upd H p (.lst (ns'.map V.int))) s'.heap p (.lst (ns'.map V.int)) := by
      refine ⟨?_, out.toList, c', vals_of_ints ia, by simpa using at_⟩
      rw [List.length_map, hlen, sizeLine_eq]; omega
    have I2 : Inv X pins σ (upd H p (.lst (ns'.map V.int))) s' :=
      I1.call' (ch := []) o (Un.laid k hz hn) (I1.hok.laid k hz new) (by rw [g]; exact I.bare) fun b hb => absurd hb (by simp)
    exact mk_ep I2 hn e post hr (VRs.ofInts ns')
  · obtain ⟨ps, h1, rfl, rfl, h4, h5⟩ := tups_at I v rv
    subst h1
    rw [List.length_map, List.length_map] at hb
    have hu3 : X.A.units + 3 < cLine := by have : X.A.units + 100 < cLine := hu; omega
    refine set_made hh src' (loop_tups hu3 hl rfl h4 hb) fun hp tk ⟨Ls, es, ep, t, R, g⟩ kk => ?_
    have I1 : Inv X pins σ H { s with heap := hp, toks := tk } := I.kept kk
    obtain ⟨o, ho, hex, hd⟩ := R.ob
    have hsz : es.size = Ls.length := by
      have := congrArg List.length R.rows
      unfold rowsOf at this
      simpa using this
    have hvals : es.toList.map (·.2) = Ls.map fun q => Value.ref q.1 := by
      rw [R.rows]
      unfold rowsOf
      rw [List.map_map]
      rfl
    have sub : ∀ q ∈ Ls, q ∈ ps := fun q hq => List.mem_of_mem_take (g.sub q hq)
    have one : ∀ q ∈ Ls, ∀ r ∈ Ls, q.1 = r.1 → q = r := fun q hq r hr' e => by
      have a1 := R.tup q hq
      have a2 := R.tup r hr'
      rw [e] at a1
      exact Prod.ext e (a1.inj a2)
    obtain ⟨ms, em, mm, mn⟩ := dedup_tups (ps.map (·.2))
    have pm : (Ls.map (·.2)).Perm ms := (List.perm_ext_iff_of_nodup R.nd mn).mpr fun z => by
      rw [mm z]
      constructor
      · intro hz
        obtain ⟨q, hq, rfl⟩ := List.mem_map.mp hz
        exact List.mem_map.mpr ⟨q, sub q hq, rfl⟩
      · intro hz
        obtain ⟨q, hq, rfl⟩ := List.mem_map.mp hz
        exact g.all q (by rw [List.take_length]; exact hq)
    refine sorted_colX hc hu I1 (xs := (ps.map (·.2)).map tI) (zs := sortV (dedup ((ps.map (·.2)).map tI))) ok (fun A E W hA hW => ?_) fun s1 p vs I2 hn vz => mk_ep I2 hn e post hr vz
    refine collect_set (A := A) hA ⟨o, ho, hex.1, hd⟩ (SetTR.fits (s := { s with heap := hp, toks := tk }) R) (by unfold scanBound; have := R.few; omega) R.tab.ris R.led fun s1 out k1 hz g1 o1 pmv => ?_
    rw [hvals] at pmv
    have ord : ∀ out : List Value, (∀ v ∈ out, ∃ q ∈ Ls, v = Value.ref q.1) → ∃ L1 : List (Addr × List Int), out = L1.map (fun q => Value.ref q.1) ∧ ∀ q ∈ L1, q ∈ Ls := by
      intro out
      induction out with
      | nil => intro _; exact ⟨[], rfl, fun q hq => by cases hq⟩
      | cons v out ih =>
        intro hv
        obtain ⟨q, hq, rfl⟩ := hv v (by simp)
        obtain ⟨L1, rfl, hs⟩ := ih fun u hu => hv u (by simp [hu])
        refine ⟨q :: L1, rfl, fun r hr' => ?_⟩
        rcases List.mem_cons.mp hr' with rfl | z
        · exact hq
        · exact hs r z
    obtain ⟨L1, e9, hs⟩ := ord out fun v hv => by
      obtain ⟨q, hq, rfl⟩ := List.mem_map.mp (pmv.mem_iff.mp hv)
      exact ⟨q, hq, rfl⟩
    subst e9
    have nL : Ls.Nodup := nodup_of_map R.nd
    have nref : (Ls.map fun q => Value.ref q.1).Nodup := List.pairwise_map.mpr (nL.imp_of_mem fun {q r} hq hr' hne e => hne (one q hq r hr' (by injection e)))
    have n1 : L1.Nodup := nodup_of_map (pmv.nodup_iff.mpr nref)
    have pL : L1.Perm Ls := (List.perm_ext_iff_of_nodup n1 nL).mpr fun q => ⟨hs q, fun hq => by
      obtain ⟨r, hr', e⟩ := List.mem_map.mp (pmv.mem_iff.mpr (List.mem_map.mpr ⟨q, hq, rfl⟩))
      have : r.1 = q.1 := by injection e
      rw [← one r (hs r hr') q hq this]
      exact hr'⟩
    have rels : ∀ L1 : List (Addr × List Int), (∀ q ∈ L1, q ∈ Ls) → Vals (L1.map fun q => V.ref q.1) (L1.map fun q => Value.ref q.1) ∧ VRs (wd X) L H ((L1.map (·.2)).map tI) (L1.map fun q => V.ref q.1) := by
      intro L1
      induction L1 with
      | nil => intro _; exact ⟨.nil, .nil⟩
      | cons q L1 ih =>
        intro hs
        obtain ⟨i1, i2⟩ := ih fun r hr' => hs r (by simp [hr'])
        exact ⟨.cons rfl i1, .cons (h5 q (sub q (hs q (by simp)))) i2⟩
    obtain ⟨r1, r2⟩ := rels L1 hs
    refine hW s1 _ _ _ k1 g1 o1 r1 r2 ?_ (fun y hy => ?_) ?_
    · have := pL.length_eq
      have := R.few
      rw [List.length_map, sizeLine_eq]; omega
    · obtain ⟨z, hz', rfl⟩ := List.mem_map.mp hy
      obtain ⟨q, hq, rfl⟩ := List.mem_map.mp hz'
      exact List.mem_map.mpr ⟨q.2, List.mem_map.mpr ⟨q, sub q (hs q hq), rfl⟩, rfl⟩
    · rw [em, sortV_tups, sortV_tups]
      congr 1
      refine sortR_eq ((List.mergeSort_perm _ _).trans ((pL.map (·.2)).trans pm)) ?_
      exact (List.pairwise_mergeSort leR_trans leR_total _).imp fun h => of_decide_eq_true h
end
end HW
/-! HwW: list(range), tuple(range), sorted(set) as expressions. -/
namespace HW
open PySem PySem.Spec PyProof.Rows L2 C8

section
variable {X : Cx} {a b e : Expr} {f g : Env → PHeap → R PV} {p q pos pos2 : Pos}
def rR (X : Cx) (g : Env → PHeap → R (Int × Int)) : L2.St → Hp → (Int → Int → Hp → Prop) → Prop := fun σ H Q => ∃ L h env p h', HR (wd X) L h H ∧ ER (wd X) L H env σ ∧ g env h = .ok p h' ∧ PostH (wd X) L H h' (Q p.1 p.2)
def g1 (f : Env → PHeap → R PV) : Env → PHeap → R (Int × Int) := fun env h => (f env h).bind fun v h => (R.of (intOf v) h).bind fun i h => .ok (0, i) h
def g2 (f g : Env → PHeap → R PV) : Env → PHeap → R (Int × Int) := fun env h => (f env h).bind fun v h => (g env h).bind fun w h => (R.of (intOf v) h).bind fun i h => (R.of (intOf w) h).bind fun j h => .ok (i, j) h
theorem sr_1 (hg : Gl X "range") (hm : X.mg "range" = none) (ha : PE X a (rE X f)) (ho : okArg a = true) : PRg X (.Call (.Name "range" p) [a] [] pos) (rR X (g1 f)) := fun pins s σ H Q I ⟨L, h, env, pp, h', hr, er, e, post⟩ => by
  obtain ⟨v, h1, e1, e⟩ := R.bind_eq_ok e
  obtain ⟨i, e2, e⟩ := R.of_bind e
  cases e
  obtain rfl := int_of e2
  exact prg_1 hg hm ha (star_ok ho _ _) pins s σ H Q I ⟨L, h, env, _, _, hr, er, e1, fun x L1 H1 x1 hr1 v1 => by cases v1; exact ⟨_, rfl, post _ _ x1 hr1⟩⟩
theorem sr_2 (hg : Gl X "range") (hm : X.mg "range" = none) (ha : PE X a (rE X f)) (hb : PE X b (rE X g)) (ho : okArg a = true) (ho' : okArg b = true) : PRg X (.Call (.Name "range" p) [a, b] [] pos) (rR X (g2 f g)) := fun pins s σ H Q I ⟨L, h, env, pp, h', hr, er, e, post⟩ => by
  obtain ⟨v, h1, e1, e⟩ := R.bind_eq_ok e
  obtain ⟨w, h2, e2, e⟩ := R.bind_eq_ok e
  obtain ⟨i, e3, e⟩ := R.of_bind e
  obtain ⟨j, e4, e⟩ := R.of_bind e
  cases e
  obtain rfl := int_of e3
  obtain rfl := int_of e4
  exact prg_2 hg hm ha hb (star_ok ho _ _) (star_ok ho' _ _) (by rw [star_ok ho']; rfl) pins s σ H Q I ⟨L, h, env, _, _, hr, er, e1, fun x L1 H1 x1 hr1 v1 => ⟨L1, h1, env, _, _, hr1, er.mono x1, e2, fun y L2 H2 x2 hr2 v2 => by
    cases v1; cases v2; exact ⟨_, _, rfl, rfl, post _ _ (x1.tr hr x2) hr2⟩⟩⟩
theorem rg_vrs {Z : Wd} {L : List Addr} {H : Hp} (lo hi : Int) : VRs Z L H ((List.range (hi - lo).toNat).map fun (i : Nat) => PV.int (lo + i)) (rgV lo hi) := by
  unfold rgV
  have : ∀ l : List Nat, VRs Z L H (l.map fun (i : Nat) => PV.int (lo + i)) (l.map fun (i : Nat) => V.int (lo + i)) := by
    intro l
    induction l with
    | nil => exact .nil
    | cons x l ih => exact .cons (.int _) ih
  exact this _
theorem rangeOf_ok {lo hi : Int} {xs : List PV} (h : rangeOf lo hi = some xs) (hl : xs.length ≤ LIM) : RgOk lo hi ∧ xs = (List.range (hi - lo).toNat).map fun (i : Nat) => PV.int (lo + i) := by
  have w := range_w h
  obtain ⟨w1, w2⟩ := wide62_ w.1
  obtain ⟨w3, w4⟩ := wide62_ w.2
  unfold rangeOf at h
  split at h
  · cases h
    rw [List.length_map, List.length_range] at hl
    exact ⟨⟨w1, w2, w3, w4, hl⟩, rfl⟩
  · cases h
variable {g : Env → PHeap → R (Int × Int)}
theorem se_listRg {al : Bool} (hc : X.calm = true) (hg : Gl X "list") (hm : X.mg "list" = none) (he : PRg X e (rR X g)) (ho : okArg e = true) : PE X (.Call (.Name "list" p) [e] [] pos) (rE X fun env h => (g env h).bind fun p h => (R.of (rangeOf p.1 p.2) h).bind fun xs h => convI .list al xs h) := ⟨fun pins s σ H Q I ⟨L, h, env, v, h', hr, er, e0, post⟩ => by
  obtain ⟨pp, h1, e1, e0⟩ := R.bind_eq_ok e0
  obtain ⟨xs, e2, e0⟩ := R.of_bind e0
  simp only [convI] at e0
  split at e0
  · rename_i hl
    obtain ⟨ok, rfl⟩ := rangeOf_ok e2 hl
    refine thn ((pe_listRg hc hg hm he (star_ok ho _ _)).run pins s σ H (fun x H' => ∃ L1 H1 p, Ext L H L1 H1 ∧ HR (wd X) L1 h1 H1 ∧ x = .ref p ∧ H1 p = none ∧ H' = upd H1 p (.lst (rgV pp.1 pp.2))) I ⟨L, h, env, pp, h1, hr, er, e1, fun L1 H1 x1 hr1 => ⟨ok, fun p hp => ⟨L1, H1, p, x1, hr1, rfl, hp, rfl⟩⟩⟩) fun u s' ⟨x, H', I', rx, L1, H1, p, x1, hr1, ex, hp, eH⟩ => ?_
    subst ex eH
    cases rx
    exact mk_ep I' hp e0 (post.aft hr x1) hr1 (rg_vrs _ _)
  · cases e0⟩
theorem se_tupRg {al : Bool} (hc : X.calm = true) (hg : Gl X "tuple") (hm : X.mg "tuple" = none) (he : PRg X e (rR X g)) (ho : okArg e = true) : PE X (.Call (.Name "tuple" p) [e] [] pos) (rE X fun env h => (g env h).bind fun p h => (R.of (rangeOf p.1 p.2) h).bind fun xs h => convI .tuple al xs h) := ⟨fun pins s σ H Q I ⟨L, h, env, v, h', hr, er, e0, post⟩ => by
  obtain ⟨pp, h1, e1, e0⟩ := R.bind_eq_ok e0
  obtain ⟨xs, e2, e0⟩ := R.of_bind e0
  simp only [convI] at e0
  split at e0
  · rename_i hl
    cases e0
    obtain ⟨ok, rfl⟩ := rangeOf_ok e2 hl
    refine Call_ (ld_blt I hg hm boot_tuple (PyProof.Rows.callWith_type1 (args_cons (thn (he pins s σ H (fun lo hi H' => lo = pp.1 ∧ hi = pp.2 ∧ ∃ L1, Ext L H L1 H' ∧ HR (wd X) L1 h' H') I ⟨L, h, env, pp, h', hr, er, e1, fun L1 H1 x1 hr1 => ⟨rfl, rfl, L1, x1, hr1⟩⟩) fun x z1 ⟨r, lo, hi, t, u, v, H1, ex, hrr, I1, e3, e4, L1, x1, hr1⟩ => args_nil ?_) (star_ok ho _ _)) (star_ok ho _ _)))
    subst ex e3 e4
    obtain ⟨b1, b2, b3, b4, b5⟩ := ok
    refine call_tuple_range (n := (pp.2 - pp.1).toNat) (I1.ok.hd hc) hrr (small_one b1 b2 b3 b4) (rangeSize_nat pp.1 pp.2) b5 fun h2 tk acc hk hi => ?_
    have J2 : Inv X pins σ H1 { z1 with heap := h2, toks := tk } := I1.kept hk
    have := tup_ep J2 hr1 (post.aft hr x1) (rg_vrs pp.1 pp.2) (vals_rg hi) (by rw [rgV_length, sizeLine_eq]; omega) tk
    rw [show acc = acc.toList.toArray by simp]
    exact this
  · cases e0⟩
/-- sorted(set(e)) -/
theorem se_sortSet {al : Bool} (hc : X.calm = true) (hu : Um X) (hg : Gl X "sorted") (hm : X.mg "sorted" = none) (hg2 : Gl X "set") (hm2 : X.mg "set" = none) (ha : PE X a (rE X f)) (ho : okArg a = true) :
    PE X (.Call (.Name "sorted" p) [.Call (.Name "set" q) [a] [] pos2] [] pos) (rE X fun env h => (f env h).bind fun v h => convop .sortedSet al v h) := ⟨fun pins s σ H Q I ⟨L, h, env, v, h', hr, er, e0, post⟩ => by
  obtain ⟨pv, h1, e1, e0⟩ := R.bind_eq_ok e0
  simp only [convop] at e0
  obtain ⟨xs, e2, e0⟩ := R.of_bind e0
  split at e0
  · rename_i ok
    simp only [Bool.and_eq_true, decide_eq_true_eq] at ok
    refine wpAny_Call_Name_kw (ld_blt I hg hm rfl ?_)
    refine callWith_builtin1 (args_cons ?_ (star_ok rfl _ _)) (star_ok rfl _ _)
    refine Call_ (ld_blt I hg2 hm2 rfl (PyProof.Rows.callWith_type1 (args_cons (thn (ha.run pins s σ H (fun x H1 => ∃ L1, Ext L H L1 H1 ∧ HR (wd X) L1 h1 H1 ∧ VR (wd X) L1 H1 pv x) I ⟨L, h, env, pv, h1, hr, er, e1, fun x L1 H1 x1 hr1 v1 => ⟨L1, x1, hr1, v1⟩⟩) fun u s1 ⟨x, H1, I1, rx, L1, x1, hr1, v1⟩ => args_nil ?_) (star_ok ho _ _)) (star_ok ho _ _)))
    obtain ⟨d, vs, rfl, h3, h4⟩ := v1.seq hr1 e2
    cases rx
    exact thn (sort_set hc hu I1 hr1 h3 h4 ok.1.1 ok.1.2 ok.2 e0 (post.aft hr x1)) fun w s2 hw => args_nil hw
  · cases e0⟩
end
end HW
/-! HwX: how a def ends: its own cells are fixed. -/
namespace HW
open PySem PySem.Spec PyProof.Rows L2 C8

theorem belowp_maps {n : Nat} : ∀ {es : List (PV × PV)}, belowp n es = true → belows n (es.map (·.1)) = true ∧ belows n (es.map (·.2)) = true
  | [], _ => ⟨rfl, rfl⟩
  | (x, y) :: es, h => by
    rw [belowp, Bool.and_eq_true, Bool.and_eq_true] at h
    obtain ⟨h1, h2⟩ := belowp_maps h.2
    rw [List.map_cons, List.map_cons, belows, belows, Bool.and_eq_true, Bool.and_eq_true]
    exact ⟨⟨h.1.1, h1⟩, h.1.2, h2⟩
theorem belows_maps {n : Nat} : ∀ {es : List (PV × PV)}, belows n (es.map (·.1)) = true → belows n (es.map (·.2)) = true → belowp n es = true
  | [], _, _ => rfl
  | (x, y) :: es, h, h' => by
    rw [List.map_cons, belows, Bool.and_eq_true] at h h'
    rw [belowp, Bool.and_eq_true, Bool.and_eq_true]
    exact ⟨⟨h.1, h'.1⟩, belows_maps h.2 h'.2⟩
theorem kP_bel (n : Nat) : ∀ (es : List (PV × PV)) (kvs : List (L2.Key × V)), es.map (·.1) = kvs.map (fun p => kP p.1) → belows n (es.map (·.1)) = true
  | [], _, _ => rfl
  | e :: es, kvs, h => by
    cases kvs with
    | nil => cases h
    | cons q kvs =>
      rw [List.map_cons, List.map_cons] at h
      injection h with h5 h6
      rw [List.map_cons, belows, Bool.and_eq_true]
      exact ⟨by rw [h5]; cases q.1 <;> rfl, kP_bel n es kvs h6⟩
section
variable {Z : Wd} {L M : List Addr} {H H' : Hp} {h : PHeap}
mutual
/-- what names live cells of L alone -/
theorem VR.bel : ∀ {p : PV} {v : V}, VR Z L H p v → below L.length p = true
  | _, _, .non => rfl
  | _, _, .bl b => rfl
  | _, _, .int b => rfl
  | _, _, .str b => rfl
  | _, _, .tup _ _ h3 => by rw [HW.below]; exact VRs.bel h3
  | _, _, .lst _ _ h3 => by rw [HW.below]; exact VRs.bel h3
  | _, _, .scr _ _ => rfl
  | _, _, .scrK _ => rfl
  | _, _, .dctK _ _ h3 h4 => by rw [HW.below]; exact belows_maps (kP_bel _ _ _ h3) (VRs.bel h4)
  | _, _, .dctT _ _ _ _ _ h5 h6 => by rw [HW.below]; exact belows_maps (VRs.bel h5) (VRs.bel h6)
  | _, _, .ref h1 => by rw [HW.below, decide_eq_true_eq]; exact (List.getElem?_eq_some_iff.mp h1).1
theorem VRs.bel : ∀ {p : List PV} {v : List V}, VRs Z L H p v → belows L.length p = true
  | _, _, .nil => rfl
  | _, _, .cons h1 h2 => by rw [belows, Bool.and_eq_true]; exact ⟨VR.bel h1, VRs.bel h2⟩
end
mutual
/-- .. may be said of L alone -/
theorem VR.trim : ∀ {p : PV} {v : V}, VR Z (L ++ M) H p v → below L.length p = true → VR Z L H p v
  | _, _, .non, _ => .non
  | _, _, .bl b, _ => .bl b
  | _, _, .int b, _ => .int b
  | _, _, .str b, _ => .str b
  | _, _, .tup h1 h2 h3, hb => .tup h1 (fun q => h2 (List.mem_append_left _ q)) (VRs.trim h3 (by rw [HW.below] at hb; exact hb))
  | _, _, .lst h1 h2 h3, hb => .lst h1 (fun q => h2 (List.mem_append_left _ q)) (VRs.trim h3 (by rw [HW.below] at hb; exact hb))
  | _, _, .scr h1 h2, _ => .scr h1 (fun q => h2 (List.mem_append_left _ q))
  | _, _, .scrK h1, _ => .scrK h1
  | _, _, .dctK h1 h2 h3 h4, hb => .dctK h1 (fun q => h2 (List.mem_append_left _ q)) h3 (VRs.trim h4 (belowp_maps (by rw [HW.below] at hb; exact hb)).2)
  | _, _, .dctT h1 h2 h0 h3 h4 h5 h6, hb => .dctT h1 (fun q => h2 (List.mem_append_left _ q)) h0 h3 h4 (VRs.trim h5 (belowp_maps (by rw [HW.below] at hb; exact hb)).1) (VRs.trim h6 (belowp_maps (by rw [HW.below] at hb; exact hb)).2)
  | _, _, .ref h1, hb => .ref (by rw [HW.below, decide_eq_true_eq] at hb; rw [List.getElem?_append_left hb] at h1; exact h1)
theorem VRs.trim : ∀ {p : List PV} {v : List V}, VRs Z (L ++ M) H p v → belows L.length p = true → VRs Z L H p v
  | _, _, .nil, _ => .nil
  | _, _, .cons h1 h2, hb => by
    rw [belows, Bool.and_eq_true] at hb
    exact .cons (VR.trim h1 hb.1) (VRs.trim h2 hb.2)
end
theorem DP.bel {a : Addr} {W : HO → Prop} {es : List (PV × PV)} (x : DP Z L H a W es) : belowp L.length es = true := by
  cases x with
  | k h1 h2 h3 => exact belows_maps (kP_bel _ _ _ h2) (VRs.bel h3)
  | t h1 h0 h2 h3 h4 h5 => exact belows_maps (VRs.bel h4) (VRs.bel h5)
theorem CR.bel {a : Addr} {c : Cell} (x : CR Z L H a c) : belowC L.length c = true := by
  cases c with
  | lst xs => obtain ⟨vs, _, h2⟩ := x; exact VRs.bel h2
  | dct es => exact DP.bel x
  | dctL es => exact DP.bel x
  | obj _ _ => exact x.elim
theorem DP.trim {a : Addr} {W W' : HO → Prop} {es : List (PV × PV)} (x : DP Z (L ++ M) H a W es) (hb : belowp L.length es = true) (ag : Agr H H') (hw : ∀ u, W u → W' u) : DP Z L H' a W' es := by
  have hb' := belowp_maps hb
  cases x with
  | k h1 h2 h3 => exact .k (hw _ h1) h2 ((VRs.trim h3 hb'.2).agr ag)
  | t h1 h0 h2 h3 h4 h5 => exact .t (hw _ h1) h0 h2 h3 ((VRs.trim h4 hb'.1).agr ag) ((VRs.trim h5 hb'.2).agr ag)
theorem CR.trim {a : Addr} {c : Cell} (x : CR Z (L ++ M) H a c) (hb : belowC L.length c = true) (ag : Agr H H') (ha : H' a = H a) : CR Z L H' a c := by
  cases c with
  | lst xs => obtain ⟨vs, h1, h2⟩ := x; exact ⟨vs, by rw [ha]; exact h1, (VRs.trim h2 hb).agr ag⟩
  | dct es => exact DP.trim x hb ag fun u e => by rw [ha]; exact e
  | dctL es => exact DP.trim x hb ag fun u ⟨o, e⟩ => ⟨o, by rw [ha]; exact e⟩
  | obj _ _ => exact x.elim
/-- what leaves, its cells fixed -/
structure Fixed (H H2 : Hp) (M : List Addr) : Prop where
  out : ∀ a, a ∉ M → H2 a = H a
  fz : ∀ a ∈ M, ∀ u, H a = some u → Mut (some u) → FzAt H2 a u
  agr : Agr H H2
  dom : ∀ a, H a ≠ none → H2 a ≠ none
mutual
theorem frz_ok {H2 : Hp} (r : HR Z (L ++ M) h H) (fx : Fixed H H2 M) : ∀ (k : Nat) {p q : PV} {v : V}, VR Z (L ++ M) H p v → frz h L.length k p = some q → VR Z L H2 q v
  | 0, _, _, _, _, e => by cases e
  | k + 1, p, q, v, vp, e => by
    unfold frz at e
    split at e
    · rename_i hb
      cases e
      exact (VR.trim vp hb).agr fx.agr
    · rename_i hb
      split at e
      · rename_i m
        cases vp with
        | @ref _ a hm =>
          have hml : L.length ≤ m := by
            rw [HW.below, decide_eq_true_eq] at hb
            omega
          have hM : a ∈ M := by
            rw [List.getElem?_append_right hml] at hm
            exact List.mem_of_getElem? hm
          have hL : a ∉ L := fun q => (List.nodup_append.mp r.nd).2.2 a q a hM rfl
          split at e
          · rename_i xs hc
            obtain ⟨ys, e1, rfl⟩ := Option.map_eq_some_iff.mp e
            obtain ⟨vs, h1, h2⟩ := r.cell _ _ _ hc hm
            exact .lst (fx.fz a hM _ h1 trivial) hL (frzs_ok r fx k h2 e1)
          · rename_i es hc
            split at e
            · rename_i hk
              obtain ⟨ys, e1, rfl⟩ := Option.map_eq_some_iff.mp e
              have len : ys.length = es.length := by
                have : ∀ (k : Nat) (xs ys : List PV), frzs h L.length k xs = some ys → ys.length = xs.length := by
                  intro k xs ys e
                  cases k with
                  | zero => cases e
                  | succ k =>
                    rw [frzs] at e
                    clear e1
                    induction xs generalizing ys with
                    | nil => cases e; rfl
                    | cons x xs ih =>
                      rw [List.mapM_cons] at e
                      obtain ⟨z, _, e⟩ := Option.bind_eq_some_iff.mp e
                      obtain ⟨zs, e3, e⟩ := Option.bind_eq_some_iff.mp e
                      cases e
                      rw [List.length_cons, List.length_cons, ih _ e3]
                rw [this _ _ _ e1, List.length_map]
              have f1 : ((es.map (·.1)).zip ys).map (·.1) = es.map (·.1) := List.map_fst_zip (by rw [List.length_map]; omega)
              have f2 : ((es.map (·.1)).zip ys).map (·.2) = ys := List.map_snd_zip (by rw [List.length_map]; omega)
              have cr : DX Z (L ++ M) H a es := r.cell _ _ _ hc hm
              cases cr with
              | k h1 h2 h3 => exact .dctK (fx.fz a hM _ h1 trivial) hL (by rw [f1]; exact h2) (by rw [f2]; exact frzs_ok r fx k h3 e1)
              | t h1 h0 h2 h3 h4 h5 =>
                refine .dctT (fx.fz a hM _ h1 trivial) hL (fun z => ?_) (by rw [f1]; exact h2) ?_ (by rw [f1]; exact (VRs.trim h4 hk).agr fx.agr) (by rw [f2]; exact frzs_ok r fx k h5 e1)
                · have := congrArg List.length f1
                  rw [z] at this
                  simp at this
                  exact h0 (List.length_eq_zero_iff.mp this.symm)
                · have g : ∀ l : List (PV × PV), (l.all fun e => keyT e.1) = (l.map (·.1)).all keyT := fun l => by rw [List.all_map]; rfl
                  rw [g, f1, ← g]
                  exact h3
            · cases e
          · cases e
      · rename_i xs
        obtain ⟨ys, e1, rfl⟩ := Option.map_eq_some_iff.mp e
        cases vp with
        | tup h1 h2 h3 =>
          obtain ⟨o, t1, t2⟩ := h1
          exact .tup ⟨o, fx.agr _ _ _ t1, t2⟩ (fun q => h2 (List.mem_append_left _ q)) (frzs_ok r fx k h3 e1)
      · rename_i xs
        obtain ⟨ys, e1, rfl⟩ := Option.map_eq_some_iff.mp e
        cases vp with
        | lst h1 h2 h3 => exact .lst (h1.agr fx.agr) (fun q => h2 (List.mem_append_left _ q)) (frzs_ok r fx k h3 e1)
      · cases e
theorem frzs_ok {H2 : Hp} (r : HR Z (L ++ M) h H) (fx : Fixed H H2 M) : ∀ (k : Nat) {p q : List PV} {v : List V}, VRs Z (L ++ M) H p v → frzs h L.length k p = some q → VRs Z L H2 q v
  | 0, _, _, _, _, e => by cases e
  | k + 1, p, q, v, vp, e => by
    rw [frzs] at e
    have go : ∀ {p q : List PV} {v : List V}, VRs Z (L ++ M) H p v → p.mapM (frz h L.length k) = some q → VRs Z L H2 q v := by
      intro p
      induction p with
      | nil => intro q v vp e; cases vp; cases e; exact .nil
      | cons x p ih =>
        intro q v vp e
        rw [List.mapM_cons] at e
        obtain ⟨z, e2, e⟩ := Option.bind_eq_some_iff.mp e
        obtain ⟨zs, e3, e⟩ := Option.bind_eq_some_iff.mp e
        cases e
        cases vp with
        | cons v1 v2 => exact .cons (frz_ok r fx k v1 e2) (ih v2 e3)
    exact go vp e
end
/-- the cells that stood ahead -/
theorem outer_ok {H0 H2 : Hp} {h0 : PHeap} (r0 : HR Z L h0 H0) (r : HR Z (L ++ M) h H) (fx : Fixed H H2 M) (ok : okOuter h0 h = true) (hl : h0.length ≤ h.length) : HR Z L (h.take h0.length) H2 := by
  have e0 := r0.len
  refine ⟨by rw [List.length_take]; omega, (List.nodup_append.mp r.nd).1, fun n c a h1 h2 => ?_⟩
  have hn : n < L.length := (List.getElem?_eq_some_iff.mp h2).1
  have h1' : h[n]? = some c := by
    rw [List.getElem?_take] at h1
    split at h1
    · exact h1
    · cases h1
  have h2' : (L ++ M)[n]? = some a := by rw [List.getElem?_append_left hn]; exact h2
  have hM : a ∉ M := fun q => (List.nodup_append.mp r.nd).2.2 a (List.mem_of_getElem? h2) a q rfl
  refine CR.trim (r.cell n c a h1' h2') ?_ fx.agr (fx.out a hM)
  unfold okOuter at ok
  have := List.all_eq_true.mp ok n (List.mem_range.mpr (by omega))
  rw [Bool.or_eq_true] at this
  rcases this with q | q
  · have q := of_decide_eq_true q
    rw [h1'] at q
    exact (r0.cell n c a q.symm h2).bel
  · rw [h1'] at q
    rw [e0]
    exact q
end
section
variable {X : Cx} {pins : List (Addr × Obj)} {σ : L2.St} {s : Shared} {L : List Addr}
/-- all of M are fixed -/
theorem fix_all : ∀ (M : List Addr) {H : Hp}, Inv X pins σ H s → ∃ H2, Inv X pins σ H2 s ∧ Fixed H H2 M
  | [], H, I => ⟨H, I, fun _ _ => rfl, (by simp), fun _ _ _ e => e, fun _ e => e⟩
  | a :: M, H, I => by
    by_cases hm : ∃ u, H a = some u ∧ Mut (some u)
    · obtain ⟨u, hu, mu⟩ := hm
      obtain ⟨od, I1⟩ := I.lock hu mu
      obtain ⟨H2, I2, fx⟩ := fix_all M I1
      have hfr : ∀ o v, H a ≠ some (.frz o v) := fun o v e => by rw [hu] at e; cases e; exact mu
      refine ⟨H2, I2, fun b hb => ?_, fun b hb v hv mv => ?_, fun b o v e => fx.agr b o v ?_, fun b e => fx.dom b ?_⟩
      · rw [fx.out b fun q => hb (List.mem_cons_of_mem _ q), upd_ne fun q => hb (by rw [q]; exact List.mem_cons_self)]
      · by_cases q : b = a
        · subst q
          rw [hu] at hv
          cases hv
          exact ⟨od, fx.agr _ _ _ upd_same⟩
        · refine fx.fz b ((List.mem_cons.mp hb).resolve_left q) v ?_ mv
          rw [upd_ne q]
          exact hv
      · rw [upd_ne fun q => hfr o v (by rw [← q]; exact e)]
        exact e
      · unfold upd; split
        · simp
        · exact e
    · obtain ⟨H2, I2, fx⟩ := fix_all M I
      refine ⟨H2, I2, fun b hb => fx.out b fun q => hb (List.mem_cons_of_mem _ q), fun b hb v hv mv => ?_, fx.agr, fx.dom⟩
      rcases List.mem_cons.mp hb with q | q
      · subst q
        exact absurd ⟨v, hv, mv⟩ hm
      · exact fx.fz b q v hv mv
/-- a def's end -/
theorem finish_ok {keep : Bool} {H H1 : Hp} {L1 : List Addr} {h h1 h' : PHeap} {v r : PV} {x : V} (hr : HR (wd X) L h H) (I : Inv X pins σ H1 s) (ex : Ext L H L1 H1) (hr1 : HR (wd X) L1 h1 H1) (vx : VR (wd X) L1 H1 v x) (e : finish keep h v h1 = .ok r h') :
    ∃ L' H', Inv X pins σ H' s ∧ Ext L H L' H' ∧ HR (wd X) L' h' H' ∧ VR (wd X) L' H' r x := by
  unfold finish at e
  split at e
  · cases e
    exact ⟨L1, H1, I, ex, hr1, vx⟩
  · split at e
    · rename_i hk
      rw [Bool.and_eq_true, decide_eq_true_eq] at hk
      split at e
      · rename_i v' hv
        cases e
        obtain ⟨M, rfl, hM⟩ := ex.pre
        obtain ⟨H2, I2, fx⟩ := fix_all M I
        rw [← hr.len] at hv
        refine ⟨L, H2, I2, ⟨⟨[], by simp, by simp⟩, fun a o hn ho => ?_, fun a ha => fx.dom a (ex.dom a ha), fun a o u ho => fx.agr _ _ _ (ex.frz _ _ _ ho)⟩, outer_ok hr hr1 fx hk.1 hk.2, frz_ok hr1 fx 12 vx hv⟩
        rw [fx.out a fun q => by rw [hM a q] at ho; cases ho]
        exact ex.keep a o hn ho
      · cases e
    · cases e
def finF (keep : Bool) (f : Env → PHeap → R Out) : Env → PHeap → R PV := fun env h => (f env h).bind fun o h1 => match o with
  | .rt v => finish keep h v h1
  | .nx _ => finish keep h .non h1
  | _ => .bad
/-- a body's reading -/
def rF (X : Cx) (keep : Bool) (f : Env → PHeap → R Out) : TS := fun D σ H => ∃ L h env r h', HR (wd X) L h H ∧ ER (wd X) L H env σ ∧ finF keep f env h = .ok r h' ∧ ∀ x L' H', Ext L H L' H' → HR (wd X) L' h' H' → VR (wd X) L' H' r x → D.rt x H' ∧ (x = .non → ∀ σ, D.nx σ H')
theorem ss_fin {body : List Stmt} {keep : Bool} {f : Env → PHeap → R Out} (ps : PSs X body (rS X f)) : PSs X body (rF X keep f) := ⟨fun pins s σ H D I ⟨L, h, env, r, h', hr, er, e, post⟩ => by
  obtain ⟨o, h1, e1, e2⟩ := R.bind_eq_ok e
  refine thn (ps.run pins s σ H ⟨fun σ1 H1 => ∃ L1 ev, o = .nx ev ∧ Ext L H L1 H1 ∧ HR (wd X) L1 h1 H1, fun x H1 => ∃ L1 v, o = .rt v ∧ Ext L H L1 H1 ∧ HR (wd X) L1 h1 H1 ∧ VR (wd X) L1 H1 v x, fun _ _ => False, fun _ _ => False⟩ I ⟨L, h, env, o, h1, hr, er, e1, fun L1 H1 x1 hr1 => ?_⟩) fun fl s1 q => ?_
  · cases o with
    | nx ev => exact fun σ1 _ => ⟨L1, ev, rfl, x1, hr1⟩
    | rt v => exact fun x vx => ⟨L1, v, rfl, x1, hr1, vx⟩
    | bk e => cases e2
    | ct e => cases e2
  · cases fl with
    | next =>
      obtain ⟨σ1, H1, I1, L1, ev, rfl, x1, hr1⟩ := q
      obtain ⟨L', H', I2, x2, hr2, v2⟩ := finish_ok hr I1 x1 hr1 .non e2
      exact ⟨σ1, H', I2, (post _ L' H' x2 hr2 v2).2 rfl σ1⟩
    | ret w =>
      obtain ⟨x, σ1, H1, I1, rx, L1, v, rfl, x1, hr1, v1⟩ := q
      obtain ⟨L', H', I2, x2, hr2, v2⟩ := finish_ok hr I1 x1 hr1 v1 e2
      exact ⟨x, σ1, H', I2, rx, (post _ L' H' x2 hr2 v2).1⟩
    | brk => obtain ⟨_, _, _, q⟩ := q; exact q.elim
    | cont => obtain ⟨_, _, _, q⟩ := q; exact q.elim⟩
end
end HW
/-! HwY: a look at the text: that a term of the small language is what is written. -/
namespace HW
open PySem PySem.Spec PyProof.Rows L2 C8

structure Ck where
  N : List Str
  fns : List (Str × Nat)
  glb : List (Str × PV) := []
def visC (sc : Scope) (x : Str) : Bool := match sc.names.lookup x with
  | some .local => true
  | some .cell => true
  | some .free => true
  | _ => false
def glC (sc : Scope) (x : Str) : Bool := match sc.names.lookup x with
  | some .globalImplicit => true
  | _ => false
/-- a name that may be stored: cl, where its own cells are told -/
def locC (sc cl : Scope) (x : Str) : Bool := match sc.names.lookup x with
  | some .local => true
  | some .cell => match cl.names.lookup x with
    | some .cell => true
    | _ => false
  | _ => false
def okNm (x : Str) : Bool := !(x == ("__debug__" : Str)) && !(x == ("__classdict__" : Str)) && !decide (x = ("__name__" : Str))
def cstC (v : PV) (x : Expr) : Bool := match v, x with
  | .non, .Constant .none _ _ => true
  | .bl b, .Constant (.bool c) _ _ => b == c
  | .int i, .Constant (.int j) _ _ => decide (i = j)
  | .str s, .Constant (.str t) _ _ => decide (s = t)
  | _, _ => false
def okSet : Expr → Bool
  | .Set .. => false
  | _ => true
def isTup : Expr → Bool
  | .Tuple .. => true
  | _ => false
def bltNm : List Str := ["len", "abs", "max", "min", "int", "isinstance", "sorted", "list", "tuple", "sum", "all", "any", "dict", "set", "range", "enumerate", "zip", "bool", "str"]
def bNm : Blt → Str
  | .len => "len" | .abs => "abs" | .max2 => "max" | .min2 => "min" | .int => "int" | _ => ""
def cNm : Cnv → Str
  | .list => "list" | .tuple => "tuple" | .sorted => "sorted" | .sum => "sum" | .all => "all" | .any => "any" | .max => "max" | .min => "min" | .dict => "dict" | _ => ""
def mNm : Mth → Str
  | .dget => "get" | .dget1 => "get" | .lapp => "append" | .lext => "extend" | .lpop => "pop" | .lpopAt => "pop" | .lidx => "index" | _ => ""
/-- a built-in's name at this place *)-/
def bC (sc : Scope) (n m : Str) : Bool := decide (n = m) && glC sc n && bltNm.contains n
def tysC (sc : Scope) : List Expr → List String → Bool
  | [], [] => true
  | .Name n _ :: es, T :: ts => decide (n = Str.ofString T) && bC sc n n && tyNames.contains T && tysC sc es ts
  | _, _ => false
def ownP (N : List Str) : List Nat → Option (List (Str × Nat))
  | [] => some []
  | i :: r => match N[i]?, ownP N r with
    | some x, some l => some ((x, i) :: l)
    | _, _ => none
mutual
def kTg (N : List Str) (sc cl : Scope) : Tg → Expr → Bool
  | .nm i, .Name x _ => decide (N[i]? = some x) && locC sc cl x
  | .tp ts, .Tuple es _ _ => es.all okArg && decide (es.length = ts.length) && kTgs N sc cl ts es
  | _, _ => false
def kTgs (N : List Str) (sc cl : Scope) : List Tg → List Expr → Bool
  | [], [] => true
  | t :: ts, e :: es => kTg N sc cl t e && kTgs N sc cl ts es
  | _, _ => false
end
mutual
def kE (G : Ck) (t : IE) (sc : Scope) (x : Expr) : Bool := match t with
  | .var i => match x with
    | .Name n _ => decide (G.N[i]? = some n) && visC sc n && okNm n
    | _ => false
  | .cst v => cstC v x
  | .glob g v => match x with
    | .Name n _ => decide (g = n) && glC sc n && okNm n && G.glb.any (fun p => decide (p.1 = n) && decide (p.2 = v))
    | _ => false
  | .tup es => match x with
    | .Tuple xs _ _ => decide (xs.length ≤ 1000) && kEs G es sc xs
    | _ => false
  | .lst _ es => match x with
    | .List xs _ => decide (xs.length ≤ 1000) && kEs G es sc xs
    | _ => false
  | .dct _ kvs => match kvs, x with
    | .nil, .Dict [] [] _ => true
    | .cons k (.cons v .nil), .Dict [some a] [b] _ => kE G k sc a && kE G v sc b
    | _, _ => false
  | .bin op a b => match x with
    | .BinOp l o r _ => decide (o = pyB op) && kE G a sc l && kE G b sc r
    | _ => false
  | .neg a => match x with
    | .UnaryOp .USub l _ => kE G a sc l
    | _ => false
  | .not a => match x with
    | .UnaryOp .Not l _ => kE G a sc l
    | _ => false
  | .cmp op a b => match x with
    | .Compare l [o] [r] _ => decide (o = pyC op) && !behindInMarks o r && kE G a sc l && kE G b sc r
    | _ => false
  | .cmp2 op op' a b c => match x with
    | .Compare l [o, o'] [m, r] _ => decide (o = pyC op) && decide (o' = pyC op') && !lastMarks [o, o'] [m, r] && kE G a sc l && kE G b sc m && kE G c sc r
    | _ => false
  | .and a b => match x with
    | .BoolOp .And (l :: r :: rest) p => kE G a sc l && (if rest.isEmpty then kE G b sc r else kE G b sc (.BoolOp .And (r :: rest) p))
    | _ => false
  | .or a b => match x with
    | .BoolOp .Or (l :: r :: rest) p => kE G a sc l && (if rest.isEmpty then kE G b sc r else kE G b sc (.BoolOp .Or (r :: rest) p))
    | _ => false
  | .ife c a b => match x with
    | .IfExp t l r _ => kE G c sc t && kE G a sc l && kE G b sc r
    | _ => false
  | .sub a i => match x with
    | .Subscript l j _ => okIx j && kE G a sc l && kE G i sc j
    | _ => false
  | .slice a lo hi => match x with
    | .Subscript l (.Slice u v none _) _ => kE G a sc l && kO G lo sc u && kO G hi sc v
    | _ => false
  | .rev a st => match x with
    | .Subscript l (.Slice none none (some y) _) _ => kE G a sc l && kE G st sc y
    | _ => false
  | .call f es => match x with
    | .Call (.Name n _) args [] _ => (match G.fns[f]? with
        | some (m, k) => decide (m = n) && decide (args.length = k)
        | none => false) && glC sc n && okNm n && args.all okArg && kEs G es sc args
    | _ => false
  | .blt f es => match f with
    | .isi T => match es, x with
      | .cons e .nil, .Call (.Name n _) [a, .Name m _] [] _ => bC sc n "isinstance" && decide (m = Str.ofString T) && bC sc m m && tyNames.contains T && okArg a && kE G e sc a
      | _, _ => false
    | .isiT ts => match es, x with
      | .cons e .nil, .Call (.Name n _) [a, .Tuple tys _ _] [] _ => bC sc n "isinstance" && tysC sc tys ts && decide (ts.length ≤ 100) && okArg a && kE G e sc a
      | _, _ => false
    | .repr => false
    | f => match x with
      | .Call (.Name n _) (a :: args) [] _ => bC sc n (bNm f) && (a :: args).all okArg && kEs G es sc (a :: args)
      | _ => false
  | .meth m o es => match x with
    | .Call (.Attribute l nm ap) args [] cp => decide (nm = mNm m) && decide (mNm m ≠ "") && okBase l && (ap.endLine == cp.line) && args.all okArg && decide (args.length < 30) && kE G o sc l && kEs G es sc args
    | _ => false
  | .conv k _ e => match k with
    | .sortedSet => match x with
      | .Call (.Name n _) [.Call (.Name m _) [a] [] _] [] _ => bC sc n "sorted" && bC sc m "set" && okArg a && kE G e sc a
      | _ => false
    | .lenSet => false
    | k => match x with
      | .Call (.Name n _) [a] [] _ => bC sc n (cNm k) && okArg a && kE G e sc a
      | _ => false
  | .convI k _ it => match it, x with
    | .rng1 e, .Call (.Name n _) [.Call (.Name m _) [a] [] _] [] _ => (decide (k = .list) || decide (k = .tuple)) && bC sc n (cNm k) && bC sc m "range" && okArg a && kE G e sc a
    | .rng2 e e', .Call (.Name n _) [.Call (.Name m _) [a, b] [] _] [] _ => (decide (k = .list) || decide (k = .tuple)) && bC sc n (cNm k) && bC sc m "range" && okArg a && okArg b && kE G e sc a && kE G e' sc b
    | _, _ => false
  | .comp _ own tg it ifs elt => match x with
    | .ListComp e [⟨tge, iter, ifs', 0⟩] scope _ => kI G it sc (isTp tg) tge iter && (match ownP G.N own with
        | some ow => blkC G.N sc scope ow
        | none => false) && (tgIx tg).all (own.contains ·) && kTg G.N (relS scope sc) scope tg tge && kIfs G ifs (relS scope sc) ifs' && kE G elt (relS scope sc) e
    | _ => false
  | .comp2 _ own tg it ifs own1 tg1 it1 ifs1 elt => match it1, x with
    | .ex e1, .ListComp e [⟨tge, iter, ifs', 0⟩, ⟨tge1, iter1, ifs1', 0⟩] scope _ => kI G it sc (isTp tg) tge iter && (match ownP G.N own with
        | some ow => blkC G.N sc scope ow
        | none => false) && (tgIx tg).all (own.contains ·) && kTg G.N (relS scope sc) scope tg tge && kIfs G ifs (relS scope sc) ifs' && own1.all (own.contains ·) && (tgIx tg1).all (own1.contains ·) &&
        okSet iter1 && kE G e1 (relS scope sc) iter1 && kTg G.N (relS scope sc) scope tg1 tge1 && kIfs G ifs1 (relS scope sc) ifs1' && kE G elt (relS scope sc) e
    | .rng1 e1, .ListComp e [⟨tge, iter, ifs', 0⟩, ⟨tge1, .Call (.Name n np) [a1] [] cp, ifs1', 0⟩] scope _ => kI G it sc (isTp tg) tge iter && (match ownP G.N own with
        | some ow => blkC G.N sc scope ow
        | none => false) && (tgIx tg).all (own.contains ·) && kTg G.N (relS scope sc) scope tg tge && kIfs G ifs (relS scope sc) ifs' && own1.all (own.contains ·) && (tgIx tg1).all (own1.contains ·) &&
        bC (relS scope sc) n "range" && okArg a1 && kE G e1 (relS scope sc) a1 && kTg G.N (relS scope sc) scope tg1 tge1 && kIfs G ifs1 (relS scope sc) ifs1' && kE G elt (relS scope sc) e
    | _, _ => false
  | .dcomp _ own tg it ifs k v => match x with
    | .DictComp e e' [⟨tge, iter, ifs', 0⟩] scope _ => kI G it sc (isTp tg) tge iter && (match ownP G.N own with
        | some ow => blkC G.N sc scope ow
        | none => false) && (tgIx tg).all (own.contains ·) && kTg G.N (relS scope sc) scope tg tge && kIfs G ifs (relS scope sc) ifs' && kE G k (relS scope sc) e && kE G v (relS scope sc) e'
    | _ => false
def kEs (G : Ck) (ts : IEs) (sc : Scope) (xs : List Expr) : Bool := match ts, xs with
  | .nil, [] => true
  | .cons t ts, x :: xs => okArg x && kE G t sc x && kEs G ts sc xs
  | _, _ => false
def kIfs (G : Ck) (ts : IEs) (sc : Scope) (xs : List Expr) : Bool := match ts, xs with
  | .nil, [] => true
  | .cons t .nil, [x] => kE G t sc x
  | _, _ => false
def kO (G : Ck) (t : IO) (sc : Scope) (x : Option Expr) : Bool := match t, x with
  | .none, none => true
  | .some t, some x => kE G t sc x
  | _, _ => false
def kI (G : Ck) (t : II) (sc : Scope) (tp : Bool) (tge x : Expr) : Bool := match t with
  | .ex e => okSet x && kE G e sc x
  | .rng1 e => match x with
    | .Call (.Name n _) [a] [] _ => bC sc n "range" && okArg a && kE G e sc a
    | _ => false
  | .rng2 e e' => match x with
    | .Call (.Name n _) [a, b] [] _ => bC sc n "range" && okArg a && okArg b && kE G e sc a && kE G e' sc b
    | _ => false
  | .enum e => match x with
    | .Call (.Name n _) [a] [] _ => tp && isTup tge && bC sc n "enumerate" && okArg a && kE G e sc a
    | _ => false
  | .zip e e' => match x with
    | .Call (.Name n _) [a, b] [] _ => tp && isTup tge && bC sc n "zip" && okArg a && okArg b && kE G e sc a && kE G e' sc b
    | _ => false
  | .items e => match x with
    | .Call (.Attribute l nm ap) [] [] cp => tp && isTup tge && decide (nm = "items") && okBase l && (ap.endLine == cp.line) && kE G e sc l
    | _ => false
  | .values e => match x with
    | .Call (.Attribute l nm ap) [] [] cp => decide (nm = "values") && okBase l && (ap.endLine == cp.line) && kE G e sc l
    | _ => false
end
end HW
/-! HwZ: the look is right: expressions. -/
namespace HW
open PySem PySem.Spec PyProof.Rows L2 C8

structure Gd (G : Ck) (ctx : List Sem) (X : Cx) : Prop where
  hN : X.N = G.N
  nd : X.N.Nodup
  calm : X.calm = true
  um : Um X
  pass : PassesOwn (model X.prog X.w) X.A X.env X.xe
  fns : ∀ (f : Nat) (n : Str) (k : Nat), G.fns[f]? = some (n, k) → ∃ (j m : Nat) (sem : Sem), ctx[f]? = some sem ∧ Room j X.A ∧ m ≤ j ∧ Cal X.prog X.w X.K X.mg X.base m n (spS (wd X) k sem) []
  blt : ∀ x ∈ bltNm, X.mg x = none
  glb : ∀ x v, (x, v) ∈ G.glb → ∃ u w, X.mg x = some u ∧ cOk v = some w ∧ RelV w u
theorem Gd.blk {G : Ck} {ctx : List Sem} {X : Cx} (g : Gd G ctx X) (s : Shared) (H : Hp) (sco : Scope) (cenv : PySem.Env) (fp : List Addr) : Gd G ctx (X.blk s H sco cenv fp) :=
  ⟨g.hN, g.nd, g.calm, g.um, PassesOwn.never, g.fns, g.blt, g.glb⟩
def isBO : Expr → Bool
  | .BoolOp .. => true
  | _ => false
/-- what is known of an expression that was looked at -/
structure OkX (X : Cx) (x : Expr) (f : Env → PHeap → R PV) : Prop where
  e : PE X x (rE X f)
  t : PT X x (rT X (dTr f))
  w : isBO x = true → PW X x (rT X (dTr f))
section
variable {G : Ck} {ctx : List Sem} {X : Cx} {x : Expr} {f : Env → PHeap → R PV}
theorem OkX.plain (hu : Um X) (pe : PE X x (rE X f)) (ho : okTest x = true) : OkX X x f := ⟨pe, st_plain hu pe (test_ok ho _), fun h => by cases x <;> simp [isBO, okTest] at h ho⟩
theorem visC_ok {sc : Scope} {n : Str} (h : visC sc n = true) : Vis sc n := by
  unfold visC at h
  split at h
  · rename_i q; exact .inl q
  · rename_i q; exact .inr (.inl q)
  · rename_i q; exact .inr (.inr q)
  · cases h
theorem glC_ok {n : Str} (h : glC X.env.scope n = true) : Gl X n := by
  unfold glC at h
  split at h
  · rename_i q; exact q
  · cases h
theorem okNm_ok {n : Str} (h : okNm n = true) : (n == ("__debug__" : Str)) = false ∧ (n == ("__classdict__" : Str)) = false ∧ n ≠ "__name__" := by
  unfold okNm at h
  simp only [Bool.and_eq_true, Bool.not_eq_true', decide_eq_false_iff_not] at h
  exact ⟨h.1.1, h.1.2, h.2⟩
theorem cstC_ok {v : PV} (h : cstC v x = true) : PE X x (rE X fun _ h => .ok v h) ∧ okTest x = true := by
  unfold cstC at h
  split at h
  · exact ⟨se_c rfl pe_non, rfl⟩
  · have := eq_of_beq h; subst this; exact ⟨se_c rfl pe_bl, rfl⟩
  · have := of_decide_eq_true h; subst this; exact ⟨se_c rfl pe_int, rfl⟩
  · have := of_decide_eq_true h; subst this; exact ⟨se_c rfl pe_str, rfl⟩
  · cases h
theorem bltNm_ok : ∀ n ∈ bltNm, okNm n = true := by decide +kernel
theorem bC_ok (g : Gd G ctx X) {n m : Str} (h : bC X.env.scope n m = true) : n = m ∧ Gl X n ∧ X.mg n = none ∧ (n == ("__debug__" : Str)) = false ∧ n ≠ "__name__" := by
  unfold bC at h
  simp only [Bool.and_eq_true, decide_eq_true_eq] at h
  have hm : n ∈ bltNm := by simpa using h.2
  have := okNm_ok (bltNm_ok n hm)
  exact ⟨h.1.1, glC_ok h.1.2, g.blt n hm, this.1, this.2.2⟩
theorem ty_boot : ∀ T ∈ tyNames, bootBuiltins (Str.ofString T) = some (.type T) := by
  intro T hT
  simp only [tyNames, List.mem_cons, List.not_mem_nil, or_false] at hT
  rcases hT with rfl | rfl | rfl | rfl | rfl | rfl | rfl <;> rfl
theorem tysC_ok (g : Gd G ctx X) : ∀ {es : List Expr} {ts : List String}, tysC X.env.scope es ts = true → Paired (fun e T => okArg e = true ∧ PE X e (tC (.ty T))) es ts
  | [], [], _ => .nil
  | [], _ :: _, h => by simp [tysC] at h
  | e :: es, [], h => by cases e <;> simp [tysC] at h
  | e :: es, T :: ts, h => by
    cases e <;> try (simp [tysC] at h; done)
    rename_i n p
    rw [tysC] at h
    simp only [Bool.and_eq_true, decide_eq_true_eq] at h
    obtain ⟨⟨⟨h1, h2⟩, h3⟩, h4⟩ := h
    obtain ⟨_, b1, b2, b3, b4⟩ := bC_ok g h2
    refine .cons ⟨rfl, pe_bltn b1 b2 (by rw [h1]; exact ty_boot T (by simpa using h3)) rfl b4 b3⟩ (tysC_ok g h4)
theorem ownP_ok {N : List Str} : ∀ {own : List Nat} {ow : List (Str × Nat)}, ownP N own = some ow → ow.map (·.2) = own
  | [], ow, h => by cases h; rfl
  | i :: r, ow, h => by
    rw [ownP] at h
    split at h
    · rename_i y l h1 h2
      cases h
      rw [List.map_cons, ownP_ok h2]
    · cases h
theorem fold_ok (h : okSet x = true) (env : PySem.Env) : ∀ v, foldedSetIterable x env v = pure v := fun v => by
  cases x <;> first | rfl | cases h
theorem ofT_get : OfT .dget "dict" := ofT_dict (m := .dget) fun _ _ h => h
theorem ofT_get1 : OfT .dget1 "dict" := ofT_dict (m := .dget1) fun _ _ h => h
theorem ofT_app : OfT .lapp "list" := ofT_list (m := .lapp) fun _ _ h => h
theorem ofT_ext : OfT .lext "list" := ofT_list (m := .lext) fun _ _ h => h
theorem ofT_pop : OfT .lpop "list" := ofT_list (m := .lpop) fun _ _ h => h
theorem ofT_idx : OfT .lidx "list" := ofT_list (m := .lidx) fun _ _ h => h
theorem ofT_popAt : OfT .lpopAt "list" := ofT_list (m := .lpopAt) fun _ _ h => h
/-- a method -/
theorem meth_ok (g : Gd G ctx X) {m : Mth} {fs : Env → PHeap → R (List PV)} {o : Expr} {es : List Expr} {ap cp : Pos} (hm : mNm m ≠ "") (ho : PE X o (rE X f)) (ha : PA X es (rA X fs)) (hok : es.all okArg = true) (hl : es.length < 30) (hbase : okBase o = true) (hline : (ap.endLine == cp.line) = true)
    (h0 : es = [] → fs = nilF) : PE X (.Call (.Attribute o (mNm m) ap) es [] cp) (rE X (methF m f fs)) := by
  have hu := g.um
  have go : ∀ {T id : String} (tyOk : OfT m T) (pa : PlainAttrs T) (slot : Slot T (mNm m) id) (hty : typeOf (.builtin id) = pure (.type "method_descriptor")) (hm : MtR X id (rMth X m)), PE X (.Call (.Attribute o (mNm m) ap) es [] cp) (rE X (methF m f fs)) := by
    intro T id tyOk pa slot hty hm
    cases es with
    | nil => rw [h0 rfl]; exact se_meth0 tyOk pa slot hty hm ho hbase hline
    | cons a es => exact se_meth tyOk pa slot hty hm ho ha hok hl hbase hline
  cases m with
  | dget => exact go ofT_get PySem.F.plainAttrs_dict PySem.F.slot_dict_get PySem.F.type_dict_get (mt_getD hu)
  | dget1 => exact go ofT_get1 PySem.F.plainAttrs_dict PySem.F.slot_dict_get PySem.F.type_dict_get (mt_getD1 hu)
  | lapp => exact go ofT_app PySem.F.plainAttrs_list PySem.F.slot_list_append PySem.F.type_list_append mt_app
  | lext => exact go ofT_ext PySem.F.plainAttrs_list PySem.F.slot_list_extend PySem.F.type_list_extend mt_ext
  | lpop => exact go ofT_pop PySem.F.plainAttrs_list PySem.F.slot_list_pop PySem.F.type_list_pop mt_popL
  | lpopAt => exact go ofT_popAt PySem.F.plainAttrs_list PySem.F.slot_list_pop PySem.F.type_list_pop mt_popAtL
  | lidx => exact go ofT_idx PySem.F.plainAttrs_list PySem.F.slot_list_index PySem.F.type_list_index (mt_idx hu)
  | _ => exact absurd rfl hm
end
end HW
/-! HxA: the look is right: expressions, the one theorem. -/
namespace HW
open PySem PySem.Spec PyProof.Rows L2 C8

section
variable {G : Ck} {ctx : List Sem} {X : Cx} {x : Expr} {f : Env → PHeap → R PV}
theorem sg_nmL (hN : X.N.Nodup) {i : Nat} {n : Str} {pos : Pos} (hi : X.N[i]? = some n) (hx : Loc X.env.scope n) (hf : X.fn n = true ∨ X.env.scope.names.lookup n = some .local) : PG X (.Name n pos) (rG X (.nm i)) :=
  imG (pg_name hN hi hx hf) fun v σ H Q ⟨L, h, env, p, env', hr, er, y, e, q⟩ => by
  rw [tgSet] at e
  split at e
  · cases e
    exact q _ (er.set y) fun vs hv => wipe_set (hv i (by simp [tgIx]))
  · cases e
theorem locC_ok {sc cl : Scope} {n : Str} (h : locC sc cl n = true) : Loc sc n ∧ (cl.names.lookup n = some .cell ∨ sc.names.lookup n = some .local) := by
  unfold locC at h
  split at h
  · rename_i q; exact ⟨.inl q, .inr q⟩
  · rename_i q
    split at h
    · rename_i q2; exact ⟨.inr q, .inl q2⟩
    · cases h
  · cases h
mutual
theorem kTg_ok {cl : Scope} (hc : X.calm = true) (hN : X.N.Nodup) (hcl : ∀ n, cl.names.lookup n = some .cell → X.fn n = true) : ∀ (t : Tg) {e : Expr}, kTg X.N X.env.scope cl t e = true → PG X e (rG X t)
  | .nm i, e, h => by
    cases e <;> try (simp [kTg] at h; done)
    simp only [kTg, Bool.and_eq_true, decide_eq_true_eq] at h
    obtain ⟨l1, l2⟩ := locC_ok h.2
    exact sg_nmL hN h.1 l1 (l2.imp (hcl _) id)
  | .tp ts, e, h => by
    cases e <;> try (simp [kTg] at h; done)
    simp only [kTg, Bool.and_eq_true, decide_eq_true_eq] at h
    exact sg_tp hc (kTgs_ok hc hN hcl ts h.2 h.1.1) h.1.1 h.1.2
theorem kTgs_ok {cl : Scope} (hc : X.calm = true) (hN : X.N.Nodup) (hcl : ∀ n, cl.names.lookup n = some .cell → X.fn n = true) : ∀ (ts : List Tg) {es : List Expr}, kTgs X.N X.env.scope cl ts es = true → es.all okArg = true → PGs X es (rGs X ts)
  | [], es, h, _ => by
    cases es with
    | nil => exact sgs_nil
    | cons e es => simp [kTgs] at h
  | t :: ts, es, h, ho => by
    cases es with
    | nil => simp [kTgs] at h
    | cons e es =>
      simp only [kTgs, Bool.and_eq_true] at h
      rw [List.all_cons, Bool.and_eq_true] at ho
      exact sgs_cons (kTg_ok hc hN hcl t h.1) (kTgs_ok hc hN hcl ts h.2 ho.2) ho.1
end
theorem dEs_len (ctx : List Sem) : ∀ (ts : IEs) {env : Env} {h h' : PHeap} {vs : List PV} {sc : Scope} {xs : List Expr}, kEs G ts sc xs = true → dEs ctx ts env h = .ok vs h' → vs.length = xs.length
  | .nil, env, h, h', vs, sc, xs, k, e => by
    cases xs with
    | nil => cases e; rfl
    | cons _ _ => simp [kEs] at k
  | .cons t ts, env, h, h', vs, sc, xs, k, e => by
    cases xs with
    | nil => simp [kEs] at k
    | cons x xs =>
      simp only [kEs, Bool.and_eq_true] at k
      obtain ⟨v, h1, _, e⟩ := R.bind_eq_ok e
      obtain ⟨ws, h2, e2, e⟩ := R.bind_eq_ok e
      cases e
      rw [List.length_cons, List.length_cons, dEs_len ctx ts k.2 e2]
theorem kEs_nil (ctx : List Sem) {ts : IEs} {sc : Scope} (k : kEs G ts sc [] = true) : dEs ctx ts = nilF := by
  cases ts with
  | nil => rfl
  | cons _ _ => simp [kEs] at k
theorem okArgs_of {sc : Scope} : ∀ {ts : IEs} {xs : List Expr}, kEs G ts sc xs = true → xs.all okArg = true
  | .nil, [], _ => rfl
  | .nil, _ :: _, k => by simp [kEs] at k
  | .cons _ _, [], k => by simp [kEs] at k
  | .cons t ts, x :: xs, k => by
    simp only [kEs, Bool.and_eq_true] at k
    rw [List.all_cons, Bool.and_eq_true]
    exact ⟨k.1.1, okArgs_of k.2⟩
/-- one test, or none -/
def ifsF (ctx : List Sem) (ts : IEs) : Env → PHeap → R Bool := dIfs ctx ts
theorem if1 (t : IE) : dIfs ctx (.cons t .nil) = dTr (dE ctx t) := by
  funext env h
  show (dE ctx t env h).bind (fun v h => (R.of (tru h v) h).bind fun b h => if b = true then R.ok true h else .ok false h) = (dE ctx t env h).bind fun v h => R.of (tru h v) h
  congr 1
  funext v h
  cases tru h v with
  | none => rfl
  | some b => cases b <;> rfl
theorem isTup_ok (h : isTup x = true) : ∃ es k p, x = .Tuple es k p := by
  cases x <;> first | exact ⟨_, _, _, rfl⟩ | cases h
/-- list(range), tuple(range) as they are told -/
theorem rE_of {f g : Env → PHeap → R PV} (i : ∀ env h v h', f env h = .ok v h' → g env h = .ok v h') {σ : L2.St} {H : Hp} {Q : VK} : rE X f σ H Q → rE X g σ H Q := fun ⟨L, h, env, v, h', hr, er, e, post⟩ => ⟨L, h, env, v, h', hr, er, i _ _ _ _ e, post⟩
theorem conv_rng {k : Cnv} {al : Bool} {g : Env → PHeap → R (Int × Int)} {F : Env → PHeap → R PV} (h : ∀ env h v h', F env h = .ok v h' → ((g env h).bind fun p h => (R.of (rangeOf p.1 p.2) h).bind fun xs h => convI k al xs h) = .ok v h')
    (pe : PE X x (rE X fun env h => (g env h).bind fun p h => (R.of (rangeOf p.1 p.2) h).bind fun xs h => convI k al xs h)) : PE X x (rE X F) :=
  imE pe fun σ H Q ⟨L, hh, env, v, h', hr, er, e, post⟩ => ⟨L, hh, env, v, h', hr, er, h _ _ _ _ e, post⟩
theorem rng1_eq {al : Bool} {k : Cnv} {e : IE} {env : Env} {h h' : PHeap} {v : PV} (eq : dE ctx (.convI k al (.rng1 e)) env h = .ok v h') : ((g1 (dE ctx e) env h).bind fun p h => (R.of (rangeOf p.1 p.2) h).bind fun xs h => convI k al xs h) = .ok v h' := by
  obtain ⟨p, h1, e1, e2⟩ := R.bind_eq_ok (show ((dI ctx (.rng1 e) env h).bind fun p h => convI k al p.1 h) = .ok v h' from eq)
  obtain ⟨w, h2, e3, e4⟩ := R.bind_eq_ok e1
  obtain ⟨xs, e5, e6⟩ := R.of_bind e4
  cases e6
  obtain ⟨j, e7, e8⟩ := Option.bind_eq_some_iff.mp e5
  unfold g1
  rw [e3]
  simp only [R.bind_ok, e7, R.of_some]
  rw [e8]
  exact e2
theorem rng2_eq {al : Bool} {k : Cnv} {e e' : IE} {env : Env} {h h' : PHeap} {v : PV} (eq : dE ctx (.convI k al (.rng2 e e')) env h = .ok v h') : ((g2 (dE ctx e) (dE ctx e') env h).bind fun p h => (R.of (rangeOf p.1 p.2) h).bind fun xs h => convI k al xs h) = .ok v h' := by
  obtain ⟨p, h1, e1, e2⟩ := R.bind_eq_ok (show ((dI ctx (.rng2 e e') env h).bind fun p h => convI k al p.1 h) = .ok v h' from eq)
  obtain ⟨w, h2, e3, e4⟩ := R.bind_eq_ok e1
  obtain ⟨w', h3, e3', e4⟩ := R.bind_eq_ok e4
  obtain ⟨xs, e5, e6⟩ := R.of_bind e4
  cases e6
  obtain ⟨i, e7, e8⟩ := Option.bind_eq_some_iff.mp e5
  obtain ⟨j, e9, e10⟩ := Option.bind_eq_some_iff.mp e8
  unfold g2
  rw [e3]
  simp only [R.bind_ok]
  rw [e3']
  simp only [R.bind_ok, e7, e9, R.of_some]
  rw [e10]
  exact e2
set_option maxHeartbeats 4000000 in
mutual
theorem okE : ∀ (t : IE) {X : Cx} {x : Expr}, Gd G ctx X → kE G t X.env.scope x = true → OkX X x (dE ctx t)
  | .var i, X, x, g, h => by
    unfold kE at h
    split at h
    · simp only [Bool.and_eq_true, decide_eq_true_eq] at h
      have n3 := okNm_ok h.2
      exact .plain g.um (se_var (by rw [g.hN]; exact h.1.1) (visC_ok h.1.2) n3.1 n3.2.1) rfl
    · cases h
  | .cst v, X, x, g, h => by
    unfold kE at h
    obtain ⟨h1, h2⟩ := cstC_ok (X := X) h
    exact .plain g.um h1 h2
  | .glob gn v, X, x, g, h => by
    unfold kE at h
    split at h
    · simp only [Bool.and_eq_true, decide_eq_true_eq, List.any_eq_true] at h
      obtain ⟨⟨⟨rfl, h2⟩, h3⟩, ⟨p, hp, h4, h5⟩⟩ := h
      have n3 := okNm_ok h3
      obtain ⟨u, w, m1, m2, m3⟩ := g.glb p.1 p.2 hp
      rw [h4] at m1
      rw [h5] at m2
      exact .plain g.um (se_c m2 (pe_glob (glC_ok h2) m1 m3 n3.1)) rfl
    · cases h
  | .tup es, X, x, g, h => by
    unfold kE at h
    split at h
    · simp only [Bool.and_eq_true, decide_eq_true_eq] at h
      exact .plain g.um (se_tup (okEs es g h.2) fun env hh vs h' e => by rw [dEs_len ctx es h.2 e, sizeLine_eq]; omega) rfl
    · cases h
  | .lst al es, X, x, g, h => by
    unfold kE at h
    split at h
    · simp only [Bool.and_eq_true, decide_eq_true_eq] at h
      exact .plain g.um (se_lst (okEs es g h.2) fun env hh vs h' e => by rw [dEs_len ctx es h.2 e, sizeLine_eq]; omega) rfl
    · cases h
  | .dct al kvs, X, x, g, h => by
    unfold kE at h
    split at h
    · exact .plain g.um se_dct0 rfl
    · rename_i k v a b pos
      rw [Bool.and_eq_true] at h
      refine .plain g.um (imE (se_dct1 (al := al) (okE k g h.1).e (okE v g h.2).e) fun σ H Q => rE_of fun env h r h' e => ?_) rfl
      obtain ⟨vs, h1, e1, e2⟩ := R.bind_eq_ok (show ((dEs ctx (.cons k (.cons v .nil)) env h).bind fun vs h => (R.of ((pairUp vs).bind dispOf) h).bind fun es h => mkDict al es h) = .ok r h' from e)
      obtain ⟨x, h2, e3, e4⟩ := R.bind_eq_ok (show ((dE ctx k env h).bind fun x h => (dEs ctx (.cons v .nil) env h).bind fun vs h => .ok (x :: vs) h) = .ok vs h1 from e1)
      obtain ⟨ws, h3, e5, e6⟩ := R.bind_eq_ok e4
      obtain ⟨y, h4, e7, e8⟩ := R.bind_eq_ok (show ((dE ctx v env h2).bind fun x h => (dEs ctx .nil env h).bind fun vs h => .ok (x :: vs) h) = .ok ws h3 from e5)
      cases e8
      cases e6
      obtain ⟨es, q1, q2⟩ := R.of_bind e2
      rw [e3, R.bind_ok, e7, R.bind_ok]
      simp only [pairUp, Option.map_some, Option.bind_some, dispOf, List.all_cons, List.all_nil, Bool.and_true] at q1
      split at q1
      · rename_i kv
        rw [putAll] at q1
        split at q1
        · cases q1
          rw [if_pos kv]
          exact q2
        · cases q1
      · cases q1
    · cases h
  | .bin op a b, X, x, g, h => by
    unfold kE at h
    split at h
    · simp only [Bool.and_eq_true, decide_eq_true_eq] at h
      obtain ⟨⟨rfl, h1⟩, h2⟩ := h
      exact .plain g.um (se_bin (okE a g h1).e (okE b g h2).e) rfl
    · cases h
  | .neg a, X, x, g, h => by
    unfold kE at h
    split at h
    · rename_i l p
      have pe := se_neg (pos := p) (okE a g h).e
      exact ⟨pe, st_plain g.um pe fun _ => rfl, fun q => by cases q⟩
    · cases h
  | .not a, X, x, g, h => by
    unfold kE at h
    split at h
    · exact ⟨se_not g.um (okE a g h).e, st_not (okE a g h).t, fun q => by cases q⟩
    · cases h
  | .cmp op a b, X, x, g, h => by
    unfold kE at h
    split at h
    · simp only [Bool.and_eq_true, decide_eq_true_eq, Bool.not_eq_true'] at h
      obtain ⟨⟨⟨rfl, h0⟩, h1⟩, h2⟩ := h
      exact ⟨se_cmp g.um (okE a g h1).e (okE b g h2).e h0, st_cmp g.um (okE a g h1).e (okE b g h2).e h0, fun q => by cases q⟩
    · cases h
  | .cmp2 op op' a b c, X, x, g, h => by
    unfold kE at h
    split at h
    · simp only [Bool.and_eq_true, decide_eq_true_eq, Bool.not_eq_true'] at h
      obtain ⟨⟨⟨⟨⟨rfl, rfl⟩, h0⟩, h1⟩, h2⟩, h3⟩ := h
      exact ⟨se_cmp2 g.um (okE a g h1).e (okE b g h2).e (okE c g h3).e h0, st_cmp2 g.um (okE a g h1).e (okE b g h2).e (okE c g h3).e h0, fun q => by cases q⟩
    · cases h
  | .and a b, X, x, g, h => by
    unfold kE at h
    split at h
    · rename_i l r rest p
      rw [Bool.and_eq_true] at h
      have ha := okE a g h.1
      have hb : PE X (.BoolOp .And (r :: rest) p) (rE X (dE ctx b)) ∧ PW X (.BoolOp .And (r :: rest) p) (rT X (dTr (dE ctx b))) := by
        cases rest with
        | nil => have := okE b g (by simpa using h.2); exact ⟨pe_one this.e, pw_and1 this.t⟩
        | cons z zs => have := okE b g (by simpa using h.2); exact ⟨this.e, this.w rfl⟩
      have w := sw_and ha.t hb.2
      exact ⟨se_and g.um ha.e hb.1, w.pt, fun _ => w⟩
    · cases h
  | .or a b, X, x, g, h => by
    unfold kE at h
    split at h
    · rename_i l r rest p
      rw [Bool.and_eq_true] at h
      have ha := okE a g h.1
      have hb : PE X (.BoolOp .Or (r :: rest) p) (rE X (dE ctx b)) ∧ PW X (.BoolOp .Or (r :: rest) p) (rT X (dTr (dE ctx b))) := by
        cases rest with
        | nil => have := okE b g (by simpa using h.2); exact ⟨pe_one this.e, pw_or1 this.t⟩
        | cons z zs => have := okE b g (by simpa using h.2); exact ⟨this.e, this.w rfl⟩
      have w := sw_or ha.t hb.2
      exact ⟨se_or g.um ha.e hb.1, w.pt, fun _ => w⟩
    · cases h
  | .ife c a b, X, x, g, h => by
    unfold kE at h
    split at h
    · simp only [Bool.and_eq_true] at h
      exact ⟨se_ife (okE c g h.1.1).t (okE a g h.1.2).e (okE b g h.2).e, st_ife (okE c g h.1.1).t (okE a g h.1.2).t (okE b g h.2).t, fun q => by cases q⟩
    · cases h
  | .sub a i, X, x, g, h => by
    unfold kE at h
    split at h
    · simp only [Bool.and_eq_true] at h
      exact .plain g.um (se_ix (okE a g h.1.2).e (okE i g h.2).e (ix_ok h.1.1) g.um) rfl
    · cases h
  | .slice a lo hi, X, x, g, h => by
    unfold kE at h
    split at h
    · simp only [Bool.and_eq_true] at h
      exact .plain g.um (se_sl (okE a g h.1.1).e (okO lo g h.1.2) (okO hi g h.2)) rfl
    · cases h
  | .rev a st, X, x, g, h => by
    unfold kE at h
    split at h
    · simp only [Bool.and_eq_true] at h
      exact .plain g.um (se_rev (okE a g h.1).e (okE st g h.2).e) rfl
    · cases h
  | .call f es, X, x, g, h => by
    unfold kE at h
    split at h
    · rename_i n p args pos
      simp only [Bool.and_eq_true] at h
      obtain ⟨⟨⟨⟨h1, h2⟩, h3⟩, h4⟩, h5⟩ := h
      have n3 := okNm_ok h3
      split at h1
      · rename_i m k hf
        simp only [Bool.and_eq_true, decide_eq_true_eq] at h1
        obtain ⟨rfl, hk⟩ := h1
        obtain ⟨j, lv, sem, hs, hr, hj, cc⟩ := g.fns f m k hf
        have hd : dE ctx (.call f es) = fun env h => (dEs ctx es env h).bind fun vs h => sem vs h := by
          funext env h
          show ((dEs ctx es env h).bind fun vs h => (ctx.getD f fun _ _ => .bad) vs h) = _
          rw [List.getD_eq_getElem?_getD, hs]
          rfl
        rw [hd]
        cases args with
        | cons a args => exact .plain g.um (se_call cc hr hj (glC_ok h2) n3.1 (okEs es g h5) h4 fun env hh vs h' e => by rw [dEs_len ctx es h5 e]; exact hk) rfl
        | nil =>
          have e0 : k = 0 := by rw [← hk]; rfl
          subst e0
          rw [kEs_nil ctx h5]
          exact .plain g.um (se_call0 cc hr hj (glC_ok h2) n3.1) rfl
      · cases h1
    · cases h
  | .blt f es, X, x, g, h => by
    unfold kE at h
    cases f with
    | isi T =>
      dsimp only at h
      split at h
      · rename_i e n p a m p' pos
        simp only [Bool.and_eq_true, decide_eq_true_eq] at h
        obtain ⟨⟨⟨⟨⟨h1, rfl⟩, h3⟩, h4⟩, h5⟩, h6⟩ := h
        obtain ⟨rfl, b1, b2, _, _⟩ := bC_ok g h1
        obtain ⟨_, c1, c2, c3, c4⟩ := bC_ok g h3
        exact .plain g.um (se_isi b1 b2 c1 c2 (ty_boot T (by simpa using h4)) c4 c3 (okE e g h6).e h5) rfl
      · cases h
    | isiT ts =>
      dsimp only at h
      split at h
      · rename_i e n p a tys kk p' pos
        simp only [Bool.and_eq_true, decide_eq_true_eq] at h
        obtain ⟨⟨⟨⟨h1, h2⟩, h3⟩, h5⟩, h6⟩ := h
        obtain ⟨rfl, b1, b2, _, _⟩ := bC_ok g h1
        exact .plain g.um (se_isiT b1 b2 (tysC_ok g h2) h3 (okE e g h6).e h5) rfl
      · cases h
    | repr => cases h
    | len =>
      dsimp only at h
      split at h
      · simp only [Bool.and_eq_true] at h
        obtain ⟨⟨h1, h2⟩, h3⟩ := h
        obtain ⟨rfl, b1, b2, b3, b4⟩ := bC_ok g h1
        exact .plain g.um (se_blt (cr_len g.um) b1 b2 rfl b4 b3 (okEs es g h3) h2) rfl
      · cases h
    | abs =>
      dsimp only at h
      split at h
      · simp only [Bool.and_eq_true] at h
        obtain ⟨⟨h1, h2⟩, h3⟩ := h
        obtain ⟨rfl, b1, b2, b3, b4⟩ := bC_ok g h1
        exact .plain g.um (se_blt cr_abs b1 b2 rfl b4 b3 (okEs es g h3) h2) rfl
      · cases h
    | max2 =>
      dsimp only at h
      split at h
      · simp only [Bool.and_eq_true] at h
        obtain ⟨⟨h1, h2⟩, h3⟩ := h
        obtain ⟨rfl, b1, b2, b3, b4⟩ := bC_ok g h1
        exact .plain g.um (se_blt (cr_max2 g.calm) b1 b2 rfl b4 b3 (okEs es g h3) h2) rfl
      · cases h
    | min2 =>
      dsimp only at h
      split at h
      · simp only [Bool.and_eq_true] at h
        obtain ⟨⟨h1, h2⟩, h3⟩ := h
        obtain ⟨rfl, b1, b2, b3, b4⟩ := bC_ok g h1
        exact .plain g.um (se_blt (cr_min2 g.calm) b1 b2 rfl b4 b3 (okEs es g h3) h2) rfl
      · cases h
    | int =>
      dsimp only at h
      split at h
      · simp only [Bool.and_eq_true] at h
        obtain ⟨⟨h1, h2⟩, h3⟩ := h
        obtain ⟨rfl, b1, b2, b3, b4⟩ := bC_ok g h1
        exact .plain g.um (se_bltT cr_int b1 b2 rfl b4 b3 (okEs es g h3) h2) rfl
      · cases h
  | .meth m o es, X, x, g, h => by
    unfold kE at h
    split at h
    · rename_i l nm ap args cp
      simp only [Bool.and_eq_true, decide_eq_true_eq] at h
      obtain ⟨⟨⟨⟨⟨⟨⟨rfl, h2⟩, h3⟩, h4⟩, h5⟩, h6⟩, h7⟩, h8⟩ := h
      refine .plain g.um (meth_ok g h2 (okE o g h7).e (okEs es g h8) h5 h6 h3 h4 fun e => ?_) rfl
      subst e
      exact kEs_nil ctx h8
    · cases h
  | .conv k al e, X, x, g, h => by
    unfold kE at h
    cases k with
    | sortedSet =>
      dsimp only at h
      split at h
      · simp only [Bool.and_eq_true] at h
        obtain ⟨⟨⟨h1, h2⟩, h3⟩, h4⟩ := h
        obtain ⟨rfl, b1, b2, _, _⟩ := bC_ok g h1
        obtain ⟨rfl, c1, c2, _, _⟩ := bC_ok g h2
        exact .plain g.um (se_sortSet g.calm g.um b1 b2 c1 c2 (okE e g h4).e h3) rfl
      · cases h
    | lenSet => cases h
    | list =>
      dsimp only at h
      split at h
      · simp only [Bool.and_eq_true] at h
        obtain ⟨⟨h1, h2⟩, h3⟩ := h
        obtain ⟨rfl, b1, b2, b3, b4⟩ := bC_ok g h1
        exact .plain g.um (se_cnvT (cr_list g.calm al) b1 b2 rfl b4 b3 (okE e g h3).e h2) rfl
      · cases h
    | tuple =>
      dsimp only at h
      split at h
      · simp only [Bool.and_eq_true] at h
        obtain ⟨⟨h1, h2⟩, h3⟩ := h
        obtain ⟨rfl, b1, b2, b3, b4⟩ := bC_ok g h1
        exact .plain g.um (se_cnvT (cr_tuple al) b1 b2 rfl b4 b3 (okE e g h3).e h2) rfl
      · cases h
    | dict =>
      dsimp only at h
      split at h
      · simp only [Bool.and_eq_true] at h
        obtain ⟨⟨h1, h2⟩, h3⟩ := h
        obtain ⟨rfl, b1, b2, b3, b4⟩ := bC_ok g h1
        exact .plain g.um (se_cnvT (cr_dict g.calm g.um al) b1 b2 rfl b4 b3 (okE e g h3).e h2) rfl
      · cases h
    | sorted =>
      dsimp only at h
      split at h
      · simp only [Bool.and_eq_true] at h
        obtain ⟨⟨h1, h2⟩, h3⟩ := h
        obtain ⟨rfl, b1, b2, b3, b4⟩ := bC_ok g h1
        exact .plain g.um (se_cnv (cr_sortedP g.calm g.um al) b1 b2 rfl b4 b3 (okE e g h3).e h2) rfl
      · cases h
    | sum =>
      dsimp only at h
      split at h
      · simp only [Bool.and_eq_true] at h
        obtain ⟨⟨h1, h2⟩, h3⟩ := h
        obtain ⟨rfl, b1, b2, b3, b4⟩ := bC_ok g h1
        exact .plain g.um (se_cnv (cr_sumP g.calm al) b1 b2 rfl b4 b3 (okE e g h3).e h2) rfl
      · cases h
    | all =>
      dsimp only at h
      split at h
      · simp only [Bool.and_eq_true] at h
        obtain ⟨⟨h1, h2⟩, h3⟩ := h
        obtain ⟨rfl, b1, b2, b3, b4⟩ := bC_ok g h1
        exact .plain g.um (se_cnv (cr_allP g.calm al) b1 b2 rfl b4 b3 (okE e g h3).e h2) rfl
      · cases h
    | any =>
      dsimp only at h
      split at h
      · simp only [Bool.and_eq_true] at h
        obtain ⟨⟨h1, h2⟩, h3⟩ := h
        obtain ⟨rfl, b1, b2, b3, b4⟩ := bC_ok g h1
        exact .plain g.um (se_cnv (cr_anyP g.calm al) b1 b2 rfl b4 b3 (okE e g h3).e h2) rfl
      · cases h
    | max =>
      dsimp only at h
      split at h
      · simp only [Bool.and_eq_true] at h
        obtain ⟨⟨h1, h2⟩, h3⟩ := h
        obtain ⟨rfl, b1, b2, b3, b4⟩ := bC_ok g h1
        exact .plain g.um (se_cnv (cr_maxP g.calm al) b1 b2 rfl b4 b3 (okE e g h3).e h2) rfl
      · cases h
    | min =>
      dsimp only at h
      split at h
      · simp only [Bool.and_eq_true] at h
        obtain ⟨⟨h1, h2⟩, h3⟩ := h
        obtain ⟨rfl, b1, b2, b3, b4⟩ := bC_ok g h1
        exact .plain g.um (se_cnv (cr_minP g.calm al) b1 b2 rfl b4 b3 (okE e g h3).e h2) rfl
      · cases h
  | .convI k al it, X, x, g, h => by
    unfold kE at h
    split at h
    · rename_i e n p m p' a pos pos'
      simp only [Bool.and_eq_true, Bool.or_eq_true, decide_eq_true_eq] at h
      obtain ⟨⟨⟨⟨h0, h1⟩, h2⟩, h3⟩, h4⟩ := h
      obtain ⟨rfl, c1, c2, _, _⟩ := bC_ok g h2
      have pr := sr_1 (p := p') (pos := pos) c1 c2 (okE e g h4).e h3
      rcases h0 with rfl | rfl
      · obtain ⟨rfl, b1, b2, _, _⟩ := bC_ok g h1
        exact .plain g.um (conv_rng (fun _ _ _ _ => rng1_eq) (se_listRg g.calm b1 b2 pr rfl)) rfl
      · obtain ⟨rfl, b1, b2, _, _⟩ := bC_ok g h1
        exact .plain g.um (conv_rng (fun _ _ _ _ => rng1_eq) (se_tupRg g.calm b1 b2 pr rfl)) rfl
    · rename_i e e' n p m p' a b pos pos'
      simp only [Bool.and_eq_true, Bool.or_eq_true, decide_eq_true_eq] at h
      obtain ⟨⟨⟨⟨⟨⟨h0, h1⟩, h2⟩, h3⟩, h3'⟩, h4⟩, h5⟩ := h
      obtain ⟨rfl, c1, c2, _, _⟩ := bC_ok g h2
      have pr := sr_2 (p := p') (pos := pos) c1 c2 (okE e g h4).e (okE e' g h5).e h3 h3'
      rcases h0 with rfl | rfl
      · obtain ⟨rfl, b1, b2, _, _⟩ := bC_ok g h1
        exact .plain g.um (conv_rng (fun _ _ _ _ => rng2_eq) (se_listRg g.calm b1 b2 pr rfl)) rfl
      · obtain ⟨rfl, b1, b2, _, _⟩ := bC_ok g h1
        exact .plain g.um (conv_rng (fun _ _ _ _ => rng2_eq) (se_tupRg g.calm b1 b2 pr rfl)) rfl
    · cases h
  | .comp al own tg it ifs elt, X, x, g, h => by
    unfold kE at h
    split at h
    · rename_i e tge iter ifs' scope pos
      simp only [Bool.and_eq_true] at h
      obtain ⟨⟨⟨⟨⟨h1, h2⟩, h3⟩, h4⟩, h5⟩, h6⟩ := h
      split at h2
      · rename_i ow how
        obtain ⟨fl, hfl, pi, hs⟩ := okI it g h1
        have bo : BlkOk X.N X.env.scope scope ow := blkOk_by (by rw [g.hN]; exact h2)
        have ho := ownP_ok how
        have hown : ∀ i ∈ tgIx tg, i ∈ ow.map (·.2) := fun i hi => by
          rw [ho]
          have := List.all_eq_true.mp h3 i hi
          simpa using this
        have pe := se_lock (it := it) (se_comp (pos := pos) (al := al) g.calm g.nd pi bo
          (fun s H C cl fq => kTg_ok (X := X.blk s H scope (compEnvC scope cl C X.env) fq) (cl := scope) g.calm g.nd (fun n hn => by show (scope.names.lookup n == some .cell) = true; rw [hn]; rfl) tg (by rw [show (X.blk s H scope (compEnvC scope cl C X.env) fq).N = G.N from g.hN]; exact h4))
          (fun s H C cl fq => okIfs ifs (g.blk s H scope (compEnvC scope cl C X.env) fq) h5)
          (fun s H C cl fq => (okE elt (g.blk s H scope (compEnvC scope cl C X.env) fq) h6).e) hs hown hfl)
        rw [ho] at pe
        exact .plain g.um pe rfl
      · cases h2
    · cases h
  | .comp2 al own tg it ifs own1 tg1 it1 ifs1 elt, X, x, g, h => by
    unfold kE at h
    split at h
    · rename_i e1 e tge iter ifs' tge1 iter1 ifs1' scope pos
      simp only [Bool.and_eq_true] at h
      obtain ⟨⟨⟨⟨⟨⟨⟨⟨⟨⟨⟨h1, h2⟩, h3⟩, h4⟩, h5⟩, h6⟩, h7⟩, h8⟩, h9⟩, h10⟩, h11⟩, h12⟩ := h
      split at h2
      · rename_i ow how
        obtain ⟨fl, hfl, pi, hs⟩ := okI it g h1
        have bo : BlkOk X.N X.env.scope scope ow := blkOk_by (by rw [g.hN]; exact h2)
        have ho := ownP_ok how
        have hown : ∀ i ∈ tgIx tg, i ∈ ow.map (·.2) := fun i hi => by
          rw [ho]
          have := List.all_eq_true.mp h3 i hi
          simpa using this
        have hv : ∀ i ∈ own1, i ∈ ow.map (·.2) := fun i hi => by
          rw [ho]
          have := List.all_eq_true.mp h6 i hi
          simpa using this
        have hown1 : ∀ i ∈ tgIx tg1, i ∈ own1 := fun i hi => by
          have := List.all_eq_true.mp h7 i hi
          simpa using this
        have pe := se_lock (it := it) (se_comp2 (pos := pos) (al := al) g.calm g.nd pi bo hv
          (fun s H C cl fq => kTg_ok (X := X.blk s H scope (compEnvC scope cl C X.env) fq) (cl := scope) g.calm g.nd (fun n hn => by show (scope.names.lookup n == some .cell) = true; rw [hn]; rfl) tg (by rw [show (X.blk s H scope (compEnvC scope cl C X.env) fq).N = G.N from g.hN]; exact h4))
          (fun s H C cl fq => okIfs ifs (g.blk s H scope (compEnvC scope cl C X.env) fq) h5)
          (fun s H C cl fq => si_ex (okE e1 (g.blk s H scope (compEnvC scope cl C X.env) fq) h9).e)
          (fun s H C cl fq => kTg_ok (X := X.blk s H scope (compEnvC scope cl C X.env) fq) (cl := scope) g.calm g.nd (fun n hn => by show (scope.names.lookup n == some .cell) = true; rw [hn]; rfl) tg1 (by rw [show (X.blk s H scope (compEnvC scope cl C X.env) fq).N = G.N from g.hN]; exact h10))
          (fun s H C cl fq => okIfs ifs1 (g.blk s H scope (compEnvC scope cl C X.env) fq) h11)
          (fun s H C cl fq => (okE elt (g.blk s H scope (compEnvC scope cl C X.env) fq) h12).e) hs (fun env => fold_ok h8 env) hown hown1 hfl)
        rw [ho] at pe
        exact .plain g.um pe rfl
      · cases h2
    · rename_i e1 e tge iter ifs' tge1 n np a1 cp ifs1' scope pos
      simp only [Bool.and_eq_true] at h
      obtain ⟨⟨⟨⟨⟨⟨⟨⟨⟨⟨⟨⟨h1, h2⟩, h3⟩, h4⟩, h5⟩, h6⟩, h7⟩, h8⟩, h8b⟩, h9⟩, h10⟩, h11⟩, h12⟩ := h
      split at h2
      · rename_i ow how
        obtain ⟨fl, hfl, pi, hs⟩ := okI it g h1
        have bo : BlkOk X.N X.env.scope scope ow := blkOk_by (by rw [g.hN]; exact h2)
        have ho := ownP_ok how
        have hown : ∀ i ∈ tgIx tg, i ∈ ow.map (·.2) := fun i hi => by
          rw [ho]
          have := List.all_eq_true.mp h3 i hi
          simpa using this
        have hv : ∀ i ∈ own1, i ∈ ow.map (·.2) := fun i hi => by
          rw [ho]
          have := List.all_eq_true.mp h6 i hi
          simpa using this
        have hown1 : ∀ i ∈ tgIx tg1, i ∈ own1 := fun i hi => by
          have := List.all_eq_true.mp h7 i hi
          simpa using this
        have hnr : n = "range" := by
          unfold bC at h8
          simp only [Bool.and_eq_true, decide_eq_true_eq] at h8
          exact h8.1.1
        subst hnr
        have pe := se_lock (it := it) (se_comp2 (pos := pos) (al := al) g.calm g.nd pi bo hv
          (fun s H C cl fq => kTg_ok (X := X.blk s H scope (compEnvC scope cl C X.env) fq) (cl := scope) g.calm g.nd (fun n hn => by show (scope.names.lookup n == some .cell) = true; rw [hn]; rfl) tg (by rw [show (X.blk s H scope (compEnvC scope cl C X.env) fq).N = G.N from g.hN]; exact h4))
          (fun s H C cl fq => okIfs ifs (g.blk s H scope (compEnvC scope cl C X.env) fq) h5)
          (fun s H C cl fq => by
            have g' := g.blk s H scope (compEnvC scope cl C X.env) fq
            obtain ⟨_, b1, b2, _, _⟩ := bC_ok g' h8
            exact si_rng1 (tg := tge1) (p := np) (pos := cp) b1 b2 (okE e1 g' h9).e h8b)
          (fun s H C cl fq => kTg_ok (X := X.blk s H scope (compEnvC scope cl C X.env) fq) (cl := scope) g.calm g.nd (fun n hn => by show (scope.names.lookup n == some .cell) = true; rw [hn]; rfl) tg1 (by rw [show (X.blk s H scope (compEnvC scope cl C X.env) fq).N = G.N from g.hN]; exact h10))
          (fun s H C cl fq => okIfs ifs1 (g.blk s H scope (compEnvC scope cl C X.env) fq) h11)
          (fun s H C cl fq => (okE elt (g.blk s H scope (compEnvC scope cl C X.env) fq) h12).e) hs (fun _ _ => rfl) hown hown1 hfl)
        rw [ho] at pe
        exact .plain g.um pe rfl
      · cases h2
    · cases h
  | .dcomp al own tg it ifs k v, X, x, g, h => by
    unfold kE at h
    split at h
    · rename_i e e' tge iter ifs' scope pos
      simp only [Bool.and_eq_true] at h
      obtain ⟨⟨⟨⟨⟨⟨h1, h2⟩, h3⟩, h4⟩, h5⟩, h6⟩, h7⟩ := h
      split at h2
      · rename_i ow how
        obtain ⟨fl, hfl, pi, hs⟩ := okI it g h1
        have bo : BlkOk X.N X.env.scope scope ow := blkOk_by (by rw [g.hN]; exact h2)
        have ho := ownP_ok how
        have hown : ∀ i ∈ tgIx tg, i ∈ ow.map (·.2) := fun i hi => by
          rw [ho]
          have := List.all_eq_true.mp h3 i hi
          simpa using this
        have pe := se_lock (it := it) (se_dcomp (pos := pos) (al := al) g.um g.calm g.nd pi bo
          (fun s H C cl fq => kTg_ok (X := X.blk s H scope (compEnvC scope cl C X.env) fq) (cl := scope) g.calm g.nd (fun n hn => by show (scope.names.lookup n == some .cell) = true; rw [hn]; rfl) tg (by rw [show (X.blk s H scope (compEnvC scope cl C X.env) fq).N = G.N from g.hN]; exact h4))
          (fun s H C cl fq => okIfs ifs (g.blk s H scope (compEnvC scope cl C X.env) fq) h5)
          (fun s H C cl fq => (okE k (g.blk s H scope (compEnvC scope cl C X.env) fq) h6).e)
          (fun s H C cl fq => (okE v (g.blk s H scope (compEnvC scope cl C X.env) fq) h7).e) hs hown hfl)
        rw [ho] at pe
        exact .plain g.um pe rfl
      · cases h2
    · cases h
theorem okEs : ∀ (ts : IEs) {X : Cx} {xs : List Expr}, Gd G ctx X → kEs G ts X.env.scope xs = true → PA X xs (rA X (dEs ctx ts))
  | .nil, X, xs, g, h => by
    cases xs with
    | nil => exact sa_nil
    | cons _ _ => simp [kEs] at h
  | .cons t ts, X, xs, g, h => by
    cases xs with
    | nil => simp [kEs] at h
    | cons x xs =>
      simp only [kEs, Bool.and_eq_true] at h
      exact sa_cons (okE t g h.1.2).e (okEs ts g h.2) h.1.1
theorem okIfs : ∀ (ts : IEs) {X : Cx} {xs : List Expr}, Gd G ctx X → kIfs G ts X.env.scope xs = true → PTs X xs (rT X (dIfs ctx ts))
  | .nil, X, xs, g, h => by
    cases xs with
    | nil => exact ⟨fun pins s σ H Q I ⟨L, hh, env, b, h', hr, er, e, post⟩ => pts_nil.run pins s σ H Q I (by cases e; exact post _ _ Ext.refl hr)⟩
    | cons _ _ => simp [kIfs] at h
  | .cons t .nil, X, xs, g, h => by
    match xs with
    | [] => simp [kIfs] at h
    | [x] =>
      simp only [kIfs] at h
      rw [if1]
      exact pts_one (okE t g h).t
    | _ :: _ :: _ => simp [kIfs] at h
  | .cons _ (.cons _ _), X, xs, g, h => by
    match xs with
    | [] => simp [kIfs] at h
    | [x] => simp [kIfs] at h
    | _ :: _ :: _ => simp [kIfs] at h
theorem okO : ∀ (t : IO) {X : Cx} {x : Option Expr}, Gd G ctx X → kO G t X.env.scope x = true → PO X x (rO X (dO ctx t))
  | .none, X, x, g, h => by
    cases x with
    | none => exact so_none
    | some _ => simp [kO] at h
  | .some t, X, x, g, h => by
    cases x with
    | none => simp [kO] at h
    | some x =>
      simp only [kO] at h
      exact so_some (okE t g h).e
theorem okI : ∀ (t : II) {X : Cx} {tp : Bool} {tge x : Expr}, Gd G ctx X → kI G t X.env.scope tp tge x = true → ∃ fl : Bool, (fl = true → tp = true) ∧ PI X tge x (rI X fl (dI ctx t)) ∧ ∀ v, foldedSetIterable x X.env v = pure v
  | .ex e, X, tp, tge, x, g, h => by
    simp only [kI, Bool.and_eq_true] at h
    exact ⟨false, (fun q => by cases q), si_ex (okE e g h.2).e, fold_ok h.1 _⟩
  | .rng1 e, X, tp, tge, x, g, h => by
    unfold kI at h
    split at h
    · simp only [Bool.and_eq_true] at h
      obtain ⟨rfl, b1, b2, _, _⟩ := bC_ok g h.1.1
      exact ⟨false, (fun q => by cases q), si_rng1 b1 b2 (okE e g h.2).e h.1.2, fun _ => rfl⟩
    · cases h
  | .rng2 e e', X, tp, tge, x, g, h => by
    unfold kI at h
    split at h
    · simp only [Bool.and_eq_true] at h
      obtain ⟨⟨⟨⟨h1, h2⟩, h3⟩, h4⟩, h5⟩ := h
      obtain ⟨rfl, b1, b2, _, _⟩ := bC_ok g h1
      exact ⟨false, (fun q => by cases q), si_rng2 b1 b2 (okE e g h4).e (okE e' g h5).e h2 h3, fun _ => rfl⟩
    · cases h
  | .enum e, X, tp, tge, x, g, h => by
    unfold kI at h
    split at h
    · simp only [Bool.and_eq_true] at h
      obtain ⟨⟨⟨⟨h1, h2⟩, h3⟩, h4⟩, h5⟩ := h
      obtain ⟨es, k, p, rfl⟩ := isTup_ok h2
      obtain ⟨rfl, b1, b2, _, _⟩ := bC_ok g h3
      exact ⟨true, (fun _ => h1), si_enum b1 b2 (okE e g h5).e h4, fun _ => rfl⟩
    · cases h
  | .zip e e', X, tp, tge, x, g, h => by
    unfold kI at h
    split at h
    · simp only [Bool.and_eq_true] at h
      obtain ⟨⟨⟨⟨⟨⟨h1, h2⟩, h3⟩, h4⟩, h5⟩, h6⟩, h7⟩ := h
      obtain ⟨es, k, p, rfl⟩ := isTup_ok h2
      obtain ⟨rfl, b1, b2, _, _⟩ := bC_ok g h3
      exact ⟨true, (fun _ => h1), si_zip b1 b2 (okE e g h6).e (okE e' g h7).e h4 h5, fun _ => rfl⟩
    · cases h
  | .items e, X, tp, tge, x, g, h => by
    unfold kI at h
    split at h
    · simp only [Bool.and_eq_true, decide_eq_true_eq] at h
      obtain ⟨⟨⟨⟨⟨h1, h2⟩, h3⟩, h4⟩, h5⟩, h6⟩ := h
      obtain ⟨es, k, p, rfl⟩ := isTup_ok h2
      subst h3
      exact ⟨true, (fun _ => h1), si_items (okE e g h6).e h4 h5, fun _ => rfl⟩
    · cases h
  | .values e, X, tp, tge, x, g, h => by
    unfold kI at h
    split at h
    · simp only [Bool.and_eq_true, decide_eq_true_eq] at h
      obtain ⟨⟨⟨h3, h4⟩, h5⟩, h6⟩ := h
      subst h3
      exact ⟨false, (fun q => by cases q), si_values (okE e g h6).e h4 h5, fun _ => rfl⟩
    · cases h
end
end
end HW
/-! HxB: the look at statements. -/
namespace HW
open PySem PySem.Spec PyProof.Rows L2 C8

/-- a comprehension's value that is swapped with the name on its line -/
def swB (sc : Scope) (n : Str) (p : Pos) (v : Expr) : Bool := match v with
  | .ListComp _ _ s _ => decide (sc.names.lookup n = some .local) && (p.line == v.pos.line) && !(s.names.any fun (m, k) => m == n && (k == .local || k == .cell))
  | .DictComp _ _ _ s _ => decide (sc.names.lookup n = some .local) && (p.line == v.pos.line) && !(s.names.any fun (m, k) => m == n && (k == .local || k == .cell))
  | _ => false
def okNoSet : Expr → Bool
  | .SetComp .. => false
  | _ => true
/-- a comprehension is told as one *)-/
def compC (e : IE) (v : Expr) : Bool := match v with
  | .ListComp .. => match e with
    | .comp .. => true
    | _ => false
  | .DictComp .. => match e with
    | .dcomp .. => true
    | _ => false
  | _ => true
def locL (sc : Scope) (n : Str) : Bool := match sc.names.lookup n with
  | some .local => true
  | _ => false
/-- targets of a general kind -/
def kITs (G : Ck) (sc : Scope) : List ITgt → List Expr → Bool
  | [], [] => true
  | .tg (.nm i) :: ts, .Name n _ :: es => decide (G.N[i]? = some n) && locC sc sc n && kITs G sc ts es
  | .sub o i :: ts, .Subscript l j _ :: es => okIx j && kE G o sc l && kE G i sc j && kITs G sc ts es
  | _, _ => false
def notLoc (sc : Scope) : Expr → Bool
  | .Name n _ => !locL sc n
  | _ => true
def kParG (G : Ck) (ts : List ITgt) (es : IEs) (sc : Scope) (x : Stmt) : Bool := match x with
  | .Assign [.Tuple tes _ _] (.Tuple ves _ _) _ => tes.all okArg && decide (tes.length = ts.length) && decide (ves.length ≤ 1000) && tes.any (notLoc sc) && kITs G sc ts tes && kEs G es sc ves
  | _ => false
mutual
def kS (G : Ck) (t : IS) (sc : Scope) (x : Stmt) : Bool := match t with
  | .expr e => match x with
    | .Expr v _ => okNoComp v && kE G e sc v
    | _ => false
  | .asg tg e => match tg, x with
    | .tg (.nm i), .Assign [.Name n _] v _ => decide (G.N[i]? = some n) && locC sc sc n && okNoSet v && compC e v && kE G e sc v
    | .tg (.tp ts), .Assign [.Tuple es k p] v _ => okNoComp v && okNoTup v && kTg G.N sc sc (.tp ts) (.Tuple es k p) && kE G e sc v
    | .sub o i, .Assign [.Subscript l j _] v _ => okNoComp v && okNoTup v && okIx j && kE G o sc l && kE G i sc j && kE G e sc v
    | _, _ => false
  | .par ts es => kParG G ts es sc x || match ts, x with
    | [.tg (.nm i), .tg (.nm j)], .Assign [.Tuple [.Name n p, .Name m q] _ _] (.Tuple [a, b] _ _) _ => decide (G.N[i]? = some n) && decide (G.N[j]? = some m) && decide (i ≠ j) && locL sc n && locL sc m && decide (n ≠ m) && (p.line == q.line) &&
        !([a, b].all (foldedForSure 8)) && !([a, b].all (constantsAlone 8)) && kEs G es sc [a, b]
    | [.tg (.nm i), .tg (.nm j), .tg (.nm l)], .Assign [.Tuple [.Name n p, .Name m q, .Name o r] _ _] (.Tuple [a, b, c] _ _) _ => decide (G.N[i]? = some n) && decide (G.N[j]? = some m) && decide (G.N[l]? = some o) && decide (i ≠ j) && decide (i ≠ l) && decide (j ≠ l) &&
        locL sc n && locL sc m && locL sc o && decide (n ≠ m) && decide (n ≠ o) && decide (m ≠ o) && (p.line == q.line) && (p.line == r.line) && !([a, b, c].all (foldedForSure 8)) && !([a, b, c].all (constantsAlone 8)) && kEs G es sc [a, b, c]
    | _, _ => false
  | .aug i op e => match x with
    | .AugAssign (.Name n _) o v _ => decide (G.N[i]? = some n) && locC sc sc n && decide (o = pyB op) && (decide (op = .add) || decide (op = .sub)) && kE G e sc v
    | _ => false
  | .ret e => match x with
    | .Return (some v) _ => kE G e sc v
    | _ => false
  | .retN => match x with
    | .Return none _ => true
    | _ => false
  | .pass => match x with
    | .Pass _ => true
    | .Expr (.Constant (.str _) _ _) _ => true
    | _ => false
  | .brk => match x with
    | .Break _ => true
    | _ => false
  | .cont => match x with
    | .Continue _ => true
    | _ => false
  | .ifs c a b => match x with
    | .If t xs ys _ => kE G c sc t && kSs G a sc xs && kSs G b sc ys
    | _ => false
  | .for_ tg it b => match x with
    | .For tge iter body [] _ => kI G it sc (isTp tg) tge iter && kTg G.N sc sc tg tge && kSs G b sc body
    | _ => false
  | .while_ _ c b => match x with
    | .While t body [] _ => kE G c sc t && kSs G b sc body
    | _ => false
  | _ => false
def kSs (G : Ck) (ts : ISs) (sc : Scope) (xs : List Stmt) : Bool := match ts, xs with
  | .nil, [] => true
  | .cons t ts, x :: xs => kS G t sc x && kSs G ts sc xs
  | _, _ => false
end
section
variable {G : Ck} {ctx : List Sem} {X : Cx}
theorem blk_fn (hk : X.env.scope.kind = .function) : X.env.blockKind = .function := by unfold Env.blockKind; rw [hk]; rfl
theorem swB_ok (hk : X.env.scope.kind = .function) {n : Str} {p : Pos} {v : Expr} {l : Nat} (h : okNoSet v = true) : swapsWith v (some (.Name n p)) l X.env = pure (swB X.env.scope n p v) := by
  have hb := blk_fn hk
  cases v <;> first | rfl | skip
  · rename_i elt gs s pos
    unfold swapsWith swB
    simp only [hb]
    show pure (_ && (X.env.kindOf n == some .local) && _ && _) = pure _
    congr 1
    have : (X.env.kindOf n == some .local) = decide (X.env.scope.names.lookup n = some .local) := by
      unfold Env.kindOf
      by_cases q : X.env.scope.names.lookup n = some .local
      · rw [decide_eq_true q, q]; rfl
      · rw [decide_eq_false q]; exact beq_eq_false_iff_ne.mpr q
    rw [this]
    rfl
  · cases h
  · rename_i k v gs s pos
    unfold swapsWith swB
    simp only [hb]
    show pure (_ && (X.env.kindOf n == some .local) && _ && _) = pure _
    congr 1
    have : (X.env.kindOf n == some .local) = decide (X.env.scope.names.lookup n = some .local) := by
      unfold Env.kindOf
      by_cases q : X.env.scope.names.lookup n = some .local
      · rw [decide_eq_true q, q]; rfl
      · rw [decide_eq_false q]; exact beq_eq_false_iff_ne.mpr q
    rw [this]
    rfl
theorem ss_setL {a : Expr} {f : Env → PHeap → R PV} {p pos : Pos} (hN : X.N.Nodup) {i : Nat} {x : Str} (hi : X.N[i]? = some x) (hx : Loc X.env.scope x) (hf : X.fn x = true ∨ X.env.scope.names.lookup x = some .local) (ha : PE X a (rE X f)) (hs : swapsWith a (some (.Name x p)) pos.line X.env = pure false) : PS X (.Assign [.Name x p] a pos) (rS X (setF i f)) :=
  imS (ps_set hN hi hx ha hs hf) fun D σ H ⟨L, h, env, o, h', hr, er, e, post⟩ => by
  obtain ⟨v, e1, rfl⟩ := setF_ok e
  exact ⟨L, h, env, v, h', hr, er, e1, fun x L1 H1 x1 hr1 v1 => post _ _ x1 hr1 _ ((er.mono x1).set v1)⟩
/-- the lock about the value is one about the statement -/
theorem setF_lock {i : Nat} {it : II} {F : Env → PHeap → R PV} {env : Env} {h h' : PHeap} {o : Out} (e : setF i (lkF it F) env h = .ok o h') : lkS it (setF i F) env h = .ok o h' := by
  obtain ⟨v, e1, e2⟩ := setF_ok e
  have hi : i < env.length := by
    obtain ⟨w, h1, q1, q2⟩ := R.bind_eq_ok e
    obtain ⟨env', q3, _⟩ := R.of_bind q2
    rw [tgSet] at q3
    split at q3
    · rename_i q; exact q
    · cases q3
  subst e2
  have mk : ∀ {h h' : PHeap}, F env h = .ok v h' → setF i F env h = .ok (.nx (env.set i (some v))) h' := fun {h h'} q => by
    unfold setF
    rw [q]
    simp only [R.bind_ok, tgSet, hi, if_true, R.of_some]
  unfold lkF at e1
  unfold lkS
  cases hl : lockI it env h with
  | none => rw [hl] at e1; exact mk e1
  | some n =>
    rw [hl] at e1
    obtain ⟨es, g, hc, e3, hg, rfl⟩ := withLock_ok e1
    unfold withLock
    simp only [hc, mk e3, R.bind_ok, hg, if_true]
theorem rS_of {st : Stmt} {f g : Env → PHeap → R Out} (h : PS X st (rS X g)) (i : ∀ env h o h', f env h = .ok o h' → g env h = .ok o h') : PS X st (rS X f) := imS h fun D σ H ⟨L, hh, env, o, h', hr, er, e, post⟩ => ⟨L, hh, env, o, h', hr, er, i _ _ _ _ e, post⟩
theorem locL_ok {sc : Scope} {n : Str} (h : locL sc n = true) : sc.names.lookup n = some .local := by
  unfold locL at h
  split at h
  · rename_i q; exact q
  · cases h
theorem any_no {es : List Expr} {g : Expr → Bool} (h : es.all okArg = true) (hg : ∀ e, okArg e = true → g e = false) : es.any g = false := by
  rw [List.any_eq_false]
  intro e he
  rw [hg e (List.all_eq_true.mp h e he)]
  decide
theorem swap2 (hk : X.env.scope.kind = .function) {n m : Str} {p q pt pt2 : Pos} {a b : Expr} {kt k2 : Nat} (hn : X.env.scope.names.lookup n = some .local) (hm : X.env.scope.names.lookup m = some .local) (hnm : n ≠ m) (hl : (p.line == q.line) = true) (ho : [a, b].all okArg = true)
    (hf : [a, b].all (foldedForSure 8) = false) (hc : [a, b].all (constantsAlone 8) = false) : swappedStores [.Tuple [.Name n p, .Name m q] kt pt] (.Tuple [a, b] k2 pt2) X.env = pure (some [n, m]) := by
  have hb := blk_fn hk
  have k1 : X.env.kindOf n = some .local := hn
  have k2' : X.env.kindOf m = some .local := hm
  have hl' : q.line = p.line := (eq_of_beq hl).symm
  unfold swappedStores
  dsimp only
  rw [any_no ho (fun e he => by cases e <;> first | rfl | cases he)]
  simp only [hb, hf, hc, k1, k2', hl', List.filterMap_cons, List.filterMap_nil, List.head?_cons, Option.map_some, Option.getD_some, Expr.pos, List.length_cons, List.length_nil]
  have e1 : (m == n) = false := beq_eq_false_iff_ne.mpr (Ne.symm hnm)
  simp [List.eraseDups, List.eraseDupsBy, List.eraseDupsBy.loop, e1]
theorem swap3 (hk : X.env.scope.kind = .function) {n m o : Str} {p q r pt pt2 : Pos} {a b c : Expr} {kt k2 : Nat} (hn : X.env.scope.names.lookup n = some .local) (hm : X.env.scope.names.lookup m = some .local) (h3 : X.env.scope.names.lookup o = some .local) (hnm : n ≠ m) (hno : n ≠ o) (hmo : m ≠ o) (hl : (p.line == q.line) = true) (hl2 : (p.line == r.line) = true) (ho : [a, b, c].all okArg = true)
    (hf : [a, b, c].all (foldedForSure 8) = false) (hc : [a, b, c].all (constantsAlone 8) = false) : swappedStores [.Tuple [.Name n p, .Name m q, .Name o r] kt pt] (.Tuple [a, b, c] k2 pt2) X.env = pure (some [n, m, o]) := by
  have hb := blk_fn hk
  have k1 : X.env.kindOf n = some .local := hn
  have k2' : X.env.kindOf m = some .local := hm
  have k3 : X.env.kindOf o = some .local := h3
  have hl' : q.line = p.line := (eq_of_beq hl).symm
  have hl2' : r.line = p.line := (eq_of_beq hl2).symm
  unfold swappedStores
  dsimp only
  rw [any_no ho (fun e he => by cases e <;> first | rfl | cases he)]
  simp only [hb, hf, hc, k1, k2', k3, hl', hl2', List.filterMap_cons, List.filterMap_nil, List.head?_cons, Option.map_some, Option.getD_some, Expr.pos, List.length_cons, List.length_nil]
  have e1 : (m == n) = false := beq_eq_false_iff_ne.mpr (Ne.symm hnm)
  have e2 : (o == n) = false := beq_eq_false_iff_ne.mpr (Ne.symm hno)
  have e3 : (o == m) = false := beq_eq_false_iff_ne.mpr (Ne.symm hmo)
  simp [List.eraseDups, List.eraseDupsBy, List.eraseDupsBy.loop, e1, e2, e3]
theorem fm_short {α β : Type} (f : α → Option β) : ∀ l : List α, l.any (fun e => (f e).isNone) = true → (l.filterMap f).length < l.length
  | [], h => by simp at h
  | a :: l, h => by
    have le := List.length_filterMap_le f l
    rw [List.filterMap_cons]
    cases q : f a with
    | none =>
      simp only [List.length_cons]
      omega
    | some b =>
      rw [List.any_cons, q] at h
      have := fm_short f l (by simpa using h)
      simp only [List.length_cons]
      omega
theorem swapped_gen {tes ves : List Expr} {k k2 : Nat} {p p2 : Pos} (h : tes.any (notLoc X.env.scope) = true) : swappedStores [.Tuple tes k p] (.Tuple ves k2 p2) X.env = pure none := by
  unfold swappedStores
  dsimp only
  split
  · rfl
  · split
    · rfl
    · have lt := fm_short (fun (e : Expr) => match e with
        | .Name id pos => if X.env.kindOf id == some .local && pos.line == (tes.head?.map (·.pos.line)).getD 0 then some id else none
        | _ => none) tes (by
          rw [List.any_eq_true] at h ⊢
          obtain ⟨e, h1, h2⟩ := h
          refine ⟨e, h1, ?_⟩
          cases e <;> first | rfl | skip
          rename_i n q
          replace h2 : (!locL X.env.scope n) = true := h2
          unfold locL at h2
          have : ¬ X.env.kindOf n = some .local := by
            intro e
            have e' : X.env.scope.names.lookup n = some .local := e
            rw [e'] at h2
            simp at h2
          have e3 : (X.env.kindOf n == some .local) = false := beq_eq_false_iff_ne.mpr this
          simp [e3])
      split
      · rfl
      · rename_i q
        exfalso
        apply q
        simp only [Bool.or_eq_true, bne_iff_ne, ne_eq]
        left
        exact Nat.ne_of_lt lt
section
variable {G : Ck} {ctx : List Sem}
theorem okITs {X : Cx} (g : Gd G ctx X) (hfn : ∀ n, X.fn n = true) : ∀ {ts : List ITgt} {es : List Expr}, kITs G X.env.scope ts es = true → es.all okArg = true → PGs X es (rTIs X ctx ts)
  | [], [], _, _ => sgsI_nil
  | [], _ :: _, h, _ => by simp [kITs] at h
  | t :: ts, [], h, _ => by
    cases t with
    | tg t => cases t <;> simp [kITs] at h
    | sub _ _ => simp [kITs] at h
  | t :: ts, e :: es, h, ho => by
    rw [List.all_cons, Bool.and_eq_true] at ho
    cases t with
    | tg t =>
      cases t with
      | tp _ => simp [kITs] at h
      | nm i =>
        cases e <;> try (simp [kITs] at h; done)
        rename_i n p
        simp only [kITs, Bool.and_eq_true, decide_eq_true_eq] at h
        exact sgsI_cons (sg_nmI g.nd (by rw [g.hN]; exact h.1.1) (locC_ok h.1.2).1 (.inl (hfn n))) (okITs g hfn h.2 ho.2) ho.1
    | sub o i =>
      cases e <;> try (simp [kITs] at h; done)
      rename_i l j p
      simp only [kITs, Bool.and_eq_true] at h
      exact sgsI_cons (sg_subI g.um (okE o g h.1.1.2).e (okE i g h.1.2).e h.1.1.1) (okITs g hfn h.2 ho.2) ho.1
theorem parG_ok {X : Cx} {ts : List ITgt} {es : IEs} {x : Stmt} (g : Gd G ctx X) (hfn : ∀ n, X.fn n = true) (h : kParG G ts es X.env.scope x = true) : PS X x (rS X (dS ctx (.par ts es))) := by
  unfold kParG at h
  split at h
  · rename_i tes k p ves k2 p2 pos
    simp only [Bool.and_eq_true, decide_eq_true_eq] at h
    obtain ⟨⟨⟨⟨⟨h1, h2⟩, h3⟩, h4⟩, h5⟩, h6⟩ := h
    exact rS_of (ss_parG g.calm (okEs es g h6) (fun env hh vs h' e => by rw [dEs_len ctx es h6 e, sizeLine_eq]; omega) (okITs g hfn h5 h1) h1 h2 (swapped_gen h4)) fun env h o h' e => e
  · cases h
/-- one name, any value -/
theorem named_ok {X : Cx} (g : Gd G ctx X) (hk : X.env.scope.kind = .function) (hfn : ∀ n, X.fn n = true) {i : Nat} {e : IE} {n : Str} {p pos : Pos} {v : Expr} (hi : X.N[i]? = some n) (hl : locC X.env.scope X.env.scope n = true) (hv : okNoSet v = true) (hcc : compC e v = true) (h : kE G e X.env.scope v = true) :
    PS X (.Assign [.Name n p] v pos) (rS X (setF i (dE ctx e))) := by
  have sw := swB_ok hk (n := n) (p := p) (l := pos.line) hv
  have pe := (okE e g h).e
  cases hb : swB X.env.scope n p v with
  | false =>
    rw [hb] at sw
    exact ss_setL g.nd hi (locC_ok hl).1 (.inl (hfn n)) pe sw
  | true =>
    rw [hb] at sw
    unfold swB at hb
    split at hb
    · rename_i elt gs s vp
      simp only [Bool.and_eq_true, decide_eq_true_eq] at hb
      have hloc := hb.1.1
      cases e <;> try (simp [compC] at hcc; done)
      unfold kE at h
      · rename_i al own tg it ifs elt'
        split at h
        · rename_i e tge iter ifs' scope pos2 heq
          cases heq
          simp only [Bool.and_eq_true] at h
          obtain ⟨⟨⟨⟨⟨h1, h2⟩, h3⟩, h4⟩, h5⟩, h6⟩ := h
          split at h2
          · rename_i ow how
            obtain ⟨fl, hfl, pi, hs⟩ := okI it g h1
            have bo : BlkOk X.N X.env.scope s ow := blkOk_by (by rw [g.hN]; exact h2)
            have ho := ownP_ok how
            have hown : ∀ i ∈ tgIx tg, i ∈ ow.map (·.2) := fun i hi => by
              rw [ho]
              have := List.all_eq_true.mp h3 i hi
              simpa using this
            have ps := ss_setLc (al := al) g.calm g.nd hi hloc sw pi bo
              (fun z H C cl fq => kTg_ok (X := X.blk z H s (compEnvC s cl C X.env) fq) (cl := s) g.calm g.nd (fun n hn => by show (s.names.lookup n == some .cell) = true; rw [hn]; rfl) tg (by rw [show (X.blk z H s (compEnvC s cl C X.env) fq).N = G.N from g.hN]; exact h4))
              (fun z H C cl fq => okIfs ifs (g.blk z H s (compEnvC s cl C X.env) fq) h5)
              (fun z H C cl fq => (okE elt' (g.blk z H s (compEnvC s cl C X.env) fq) h6).e) hs hown hfl
            rw [ho] at ps
            exact rS_of (ss_lock (it := it) ps) fun env h o h' => setF_lock
          · cases h2
        · cases h
    · rename_i ek ev gs s vp
      simp only [Bool.and_eq_true, decide_eq_true_eq] at hb
      have hloc := hb.1.1
      cases e <;> try (simp [compC] at hcc; done)
      unfold kE at h
      · rename_i al own tg it ifs k' v'
        split at h
        · rename_i e e' tge iter ifs' scope pos2 heq
          cases heq
          simp only [Bool.and_eq_true] at h
          obtain ⟨⟨⟨⟨⟨⟨h1, h2⟩, h3⟩, h4⟩, h5⟩, h6⟩, h7⟩ := h
          split at h2
          · rename_i ow how
            obtain ⟨fl, hfl, pi, hs⟩ := okI it g h1
            have bo : BlkOk X.N X.env.scope s ow := blkOk_by (by rw [g.hN]; exact h2)
            have ho := ownP_ok how
            have hown : ∀ i ∈ tgIx tg, i ∈ ow.map (·.2) := fun i hi => by
              rw [ho]
              have := List.all_eq_true.mp h3 i hi
              simpa using this
            have ps := ss_setDc (al := al) g.um g.calm g.nd hi hloc sw pi bo
              (fun z H C cl fq => kTg_ok (X := X.blk z H s (compEnvC s cl C X.env) fq) (cl := s) g.calm g.nd (fun n hn => by show (s.names.lookup n == some .cell) = true; rw [hn]; rfl) tg (by rw [show (X.blk z H s (compEnvC s cl C X.env) fq).N = G.N from g.hN]; exact h4))
              (fun z H C cl fq => okIfs ifs (g.blk z H s (compEnvC s cl C X.env) fq) h5)
              (fun z H C cl fq => (okE k' (g.blk z H s (compEnvC s cl C X.env) fq) h6).e)
              (fun z H C cl fq => (okE v' (g.blk z H s (compEnvC s cl C X.env) fq) h7).e) hs hown hfl
            rw [ho] at ps
            exact rS_of (ss_lock (it := it) ps) fun env h o h' => setF_lock
          · cases h2
        · cases h
    · cases hb
end
end
end HW
/-! HxC: the look at statements is right; a def by its body. -/
namespace HW
open PySem PySem.Spec PyProof.Rows L2 C8

section
variable {G : Ck} {ctx : List Sem}
theorem nm_ok {i : Nat} {v : PV} {env env' : Env} {h h' : PHeap} (e : dTg ctx (.tg (.nm i)) v env h = .ok env' h') : env' = env.set i (some v) ∧ h' = h := by
  obtain ⟨e1, rfl⟩ := R.of_eq_ok (show R.of (tgSet (.nm i) v env) h = .ok env' h' from e)
  rw [tgSet] at e1
  split at e1
  · cases e1; exact ⟨rfl, rfl⟩
  · cases e1
theorem par2_eq {i j : Nat} {es : IEs} {env : Env} {h h' : PHeap} {o : Out} (e : dS ctx (.par [.tg (.nm i), .tg (.nm j)] es) env h = .ok o h') : ((dEs ctx es env h).bind fun vs h => match vs with
      | [v, w] => .ok (.nx ((env.set i (some v)).set j (some w))) h
      | _ => .bad) = R.ok o h' := by
  obtain ⟨vs, h1, e1, e2⟩ := R.bind_eq_ok (show ((dEs ctx es env h).bind fun vs h => (dTgs ctx [.tg (.nm i), .tg (.nm j)] vs env h).bind fun env h => R.ok (.nx env) h) = .ok o h' from e)
  obtain ⟨env', h2, e3, e4⟩ := R.bind_eq_ok e2
  cases e4
  rw [e1]
  match vs with
  | [] => cases e3
  | [v] =>
    obtain ⟨env1, h3, e5, e6⟩ := R.bind_eq_ok (show ((dTg ctx (.tg (.nm i)) v env h1).bind fun env h => dTgs ctx [.tg (.nm j)] [] env h) = .ok env' h' from e3)
    cases e6
  | [v, w] =>
    obtain ⟨env1, h3, e5, e6⟩ := R.bind_eq_ok (show ((dTg ctx (.tg (.nm i)) v env h1).bind fun env h => dTgs ctx [.tg (.nm j)] [w] env h) = .ok env' h' from e3)
    obtain ⟨env2, h4, e7, e8⟩ := R.bind_eq_ok (show ((dTg ctx (.tg (.nm j)) w env1 h3).bind fun env h => dTgs ctx [] [] env h) = .ok env' h' from e6)
    obtain ⟨rfl, rfl⟩ := nm_ok e5
    obtain ⟨rfl, rfl⟩ := nm_ok e7
    cases e8
    rfl
  | v :: w :: z :: r =>
    obtain ⟨env1, h3, e5, e6⟩ := R.bind_eq_ok (show ((dTg ctx (.tg (.nm i)) v env h1).bind fun env h => dTgs ctx [.tg (.nm j)] (w :: z :: r) env h) = .ok env' h' from e3)
    obtain ⟨env2, h4, e7, e8⟩ := R.bind_eq_ok (show ((dTg ctx (.tg (.nm j)) w env1 h3).bind fun env h => dTgs ctx [] (z :: r) env h) = .ok env' h' from e6)
    cases e8
theorem par3_eq {i j l : Nat} {es : IEs} {env : Env} {h h' : PHeap} {o : Out} (e : dS ctx (.par [.tg (.nm i), .tg (.nm j), .tg (.nm l)] es) env h = .ok o h') : ((dEs ctx es env h).bind fun vs h => match vs with
      | [u, v, w] => .ok (.nx (((env.set i (some u)).set j (some v)).set l (some w))) h
      | _ => .bad) = R.ok o h' := by
  obtain ⟨vs, h1, e1, e2⟩ := R.bind_eq_ok (show ((dEs ctx es env h).bind fun vs h => (dTgs ctx [.tg (.nm i), .tg (.nm j), .tg (.nm l)] vs env h).bind fun env h => R.ok (.nx env) h) = .ok o h' from e)
  obtain ⟨env', h2, e3, e4⟩ := R.bind_eq_ok e2
  cases e4
  rw [e1]
  have step : ∀ {k : Nat} {ts : List ITgt} {ws : List PV} {env env' : Env} {h h' : PHeap}, dTgs ctx (.tg (.nm k) :: ts) ws env h = .ok env' h' → ∃ v r, ws = v :: r ∧ dTgs ctx ts r (env.set k (some v)) h = .ok env' h' := by
    intro k ts ws env env' h h' e
    cases ws with
    | nil => cases e
    | cons v r =>
      obtain ⟨env1, h3, e5, e6⟩ := R.bind_eq_ok (show ((dTg ctx (.tg (.nm k)) v env h).bind fun env h => dTgs ctx ts r env h) = .ok env' h' from e)
      obtain ⟨rfl, rfl⟩ := nm_ok e5
      exact ⟨v, r, rfl, e6⟩
  obtain ⟨u, r1, rfl, f1⟩ := step e3
  obtain ⟨v, r2, rfl, f2⟩ := step f1
  obtain ⟨w, r3, rfl, f3⟩ := step f2
  cases r3 with
  | nil => cases f3; rfl
  | cons _ _ => cases f3
set_option maxHeartbeats 4000000 in
mutual
theorem okS : ∀ (t : IS) {X : Cx} {x : Stmt}, Gd G ctx X → X.env.scope.kind = .function → (∀ n, X.fn n = true) → kS G t X.env.scope x = true → PS X x (rS X (dS ctx t))
  | .expr e, X, x, g, hk, hf, h => by
    unfold kS at h
    split at h
    · simp only [Bool.and_eq_true] at h
      exact ss_expr (okE e g h.2).e h.1
    · cases h
  | .asg tg e, X, x, g, hk, hf, h => by
    unfold kS at h
    split at h
    · rename_i i n p v pos
      simp only [Bool.and_eq_true, decide_eq_true_eq] at h
      obtain ⟨⟨⟨⟨h1, h2⟩, h3⟩, h4⟩, h5⟩ := h
      exact named_ok g hk hf (by rw [g.hN]; exact h1) h2 h3 h4 h5
    · rename_i ts es k p v pos
      simp only [Bool.and_eq_true] at h
      obtain ⟨⟨⟨h1, h2⟩, h3⟩, h4⟩ := h
      exact ss_tg (t := .tp ts) (okE e g h4).e (kTg_ok (cl := X.env.scope) g.calm g.nd (fun n _ => hf n) (.tp ts) (by rw [g.hN]; exact h3)) h1 h2 rfl
    · rename_i o i l j p v pos
      simp only [Bool.and_eq_true] at h
      obtain ⟨⟨⟨⟨⟨h1, h2⟩, h3⟩, h4⟩, h5⟩, h6⟩ := h
      exact ss_sub g.um (okE e g h6).e (okE o g h4).e (okE i g h5).e h1 h2 h3
    · cases h
  | .par ts es, X, x, g, hk, hf, h => by
    unfold kS at h
    rw [Bool.or_eq_true] at h
    rcases h with h | h
    · exact parG_ok g hf h
    split at h
    · rename_i i j n p m q kt pt a b k2 pt2 pos
      simp only [Bool.and_eq_true, decide_eq_true_eq, Bool.not_eq_true'] at h
      obtain ⟨⟨⟨⟨⟨⟨⟨⟨⟨h1, h2⟩, h3⟩, h4⟩, h5⟩, h6⟩, h7⟩, h8⟩, h9⟩, h10⟩ := h
      exact rS_of (ss_par2 (es := []) g.calm g.nd (by rw [g.hN]; exact h1) (by rw [g.hN]; exact h2) h3 (locL_ok h4) (locL_ok h5) (okEs es g h10) (swap2 hk (locL_ok h4) (locL_ok h5) h6 h7 (okArgs_of h10) h8 h9)) fun env h o h' => par2_eq
    · rename_i i j l n p m q o r kt pt a b c k2 pt2 pos
      simp only [Bool.and_eq_true, decide_eq_true_eq, Bool.not_eq_true'] at h
      obtain ⟨⟨⟨⟨⟨⟨⟨⟨⟨⟨⟨⟨⟨⟨⟨⟨h1, h2⟩, h3⟩, h4⟩, h5⟩, h6⟩, h7⟩, h8⟩, h9⟩, h10⟩, h11⟩, h12⟩, h13⟩, h14⟩, h15⟩, h16⟩, h17⟩ := h
      exact rS_of (ss_par3 (es := []) g.calm g.nd (by rw [g.hN]; exact h1) (by rw [g.hN]; exact h2) (by rw [g.hN]; exact h3) h4 h5 h6 (locL_ok h7) (locL_ok h8) (locL_ok h9) (okEs es g h17) (swap3 hk (locL_ok h7) (locL_ok h8) (locL_ok h9) h10 h11 h12 h13 h14 (okArgs_of h17) h15 h16)) fun env h o h' => par3_eq
    · cases h
  | .aug i op e, X, x, g, hk, hf, h => by
    unfold kS at h
    split at h
    · rename_i n p o v pos
      simp only [Bool.and_eq_true, Bool.or_eq_true, decide_eq_true_eq] at h
      obtain ⟨⟨⟨⟨h1, h2⟩, rfl⟩, h4⟩, h5⟩ := h
      have go : ∀ {fi : Int → Int → Int}, PIp X (pyB op) (ipI fi) → (∀ (a b : Int) h, binop op (.int a) (.int b) h = some (.int (fi a b))) → PS X (.AugAssign (.Name n p) (pyB op) v pos) (rS X (dS ctx (.aug i op e))) := fun hp hg =>
        rS_of (ss_aug g.nd (by rw [g.hN]; exact h1) (locC_ok h2).1 (.inl (hf n)) (okE e g h5).e hp hg) fun env h o h' q => by
          unfold dS at q
          exact q
      rcases h4 with rfl | rfl
      · exact go ip_add fun _ _ _ => rfl
      · exact go ip_sub fun _ _ _ => rfl
    · cases h
  | .ret e, X, x, g, hk, hf, h => by
    unfold kS at h
    split at h
    · exact ss_ret (okE e g h).e
    · cases h
  | .retN, X, x, g, hk, hf, h => by
    unfold kS at h
    split at h
    · exact ss_retN
    · cases h
  | .pass, X, x, g, hk, hf, h => by
    unfold kS at h
    split at h
    · exact ss_next ps_pass
    · exact ss_next ps_doc
    · cases h
  | .brk, X, x, g, hk, hf, h => by
    unfold kS at h
    split at h
    · exact ss_brk
    · cases h
  | .cont, X, x, g, hk, hf, h => by
    unfold kS at h
    split at h
    · exact ss_cont
    · cases h
  | .ifs c a b, X, x, g, hk, hf, h => by
    unfold kS at h
    split at h
    · simp only [Bool.and_eq_true] at h
      exact ss_if (okE c g h.1.1).t (okSs a g hk hf h.1.2) (okSs b g hk hf h.2)
    · cases h
  | .for_ tg it b, X, x, g, hk, hf, h => by
    unfold kS at h
    split at h
    · simp only [Bool.and_eq_true] at h
      obtain ⟨fl, hfl, pi, hs⟩ := okI it g h.1.1
      exact ss_lock (it := it) (ss_for g.pass g.calm pi hfl (kTg_ok (cl := X.env.scope) g.calm g.nd (fun n _ => hf n) tg (by rw [g.hN]; exact h.1.2)) (okSs b g hk hf h.2) hs)
    · cases h
  | .while_ n c b, X, x, g, hk, hf, h => by
    unfold kS at h
    split at h
    · simp only [Bool.and_eq_true] at h
      exact ss_while g.pass (okE c g h.1).t (okSs b g hk hf h.2)
    · cases h
  | .augS _ _ _ _, X, x, g, hk, hf, h => by unfold kS at h; cases h
  | .raise_ _, X, x, g, hk, hf, h => by unfold kS at h; cases h
theorem okSs : ∀ (ts : ISs) {X : Cx} {xs : List Stmt}, Gd G ctx X → X.env.scope.kind = .function → (∀ n, X.fn n = true) → kSs G ts X.env.scope xs = true → PSs X xs (rS X (dSs ctx ts))
  | .nil, X, xs, g, hk, hf, h => by
    cases xs with
    | nil => exact sss_nil
    | cons _ _ => simp [kSs] at h
  | .cons t ts, X, xs, g, hk, hf, h => by
    cases xs with
    | nil => simp [kSs] at h
    | cons x xs =>
      simp only [kSs, Bool.and_eq_true] at h
      exact sss_cons (okS t g hk hf h.1) (okSs ts g hk hf h.2)
end
end
/-! ### a def -/
/-- what is looked at of a def's text: its names, its parameters, its body -/
def kF (G : Ck) (f : IFun) (st : Stmt) (ps : List Str) : Bool := scC G.N ps (fnScope st) && kSs G f.body (fnScope st) (fnBody st) && decide (f.n = G.N.length) && decide (f.np = ps.length)
section
variable {P : Program} {w : World} {K : PySem.W.Frag} {mg : Str → Option Value} {base : Heap}
/-- the world that a def's names are looked up in -/
structure Gl0 (P : Program) (w : World) (K : PySem.W.Frag) (mg : Str → Option Value) (base : Heap) (G : Ck) (ctx : List Sem) (k : Nat) : Prop where
  fns : ∀ (f : Nat) (n : Str) (a : Nat), G.fns[f]? = some (n, a) → ∃ (m : Nat) (sem : Sem), ctx[f]? = some sem ∧ m ≤ k ∧ Cal P w K mg base m n (spS ⟨P, w, K⟩ a sem) []
  blt : ∀ x ∈ bltNm, mg x = none
  glb : ∀ x v, (x, v) ∈ G.glb → ∃ u w, mg x = some u ∧ cOk v = some w ∧ RelV w u
theorem start_er {Z : Wd} {L : List Addr} {H : Hp} {N : List Str} {ps : List PV} {vs : List V} (v : VRs Z L H ps vs) (hl : ps.length ≤ N.length) : ER Z L H (ps.map some ++ List.replicate (N.length - ps.length) none) (L2.start N vs) := by
  have e := v.length
  unfold L2.start
  refine ⟨by simp [e], fun i p h1 => ?_⟩
  by_cases hi : i < ps.length
  · rw [List.getElem?_append_left (by simpa using hi), List.getElem?_map] at h1
    obtain ⟨q, h2, h3⟩ := Option.map_eq_some_iff.mp h1
    cases h3
    obtain ⟨x, h4, h5⟩ := v.get' h2
    refine ⟨x, ?_, h5⟩
    rw [List.getElem?_append_left (by simpa [e] using hi), List.getElem?_map, h4]
    rfl
  · rw [List.getElem?_append_right (by simpa using hi), List.getElem?_replicate] at h1
    split at h1 <;> cases h1
theorem def_ok {x : Str} {st : Stmt} {fa : Addr} {fd : FuncData} {ps : List Str} {k : Nat} {G : Ck} {ctx : List Sem} {f : IFun} (F : Def K mg x st fa fd) (b : Binds K fd ps []) (gl : Gl0 P w K mg base G ctx k) (h : kF G f st ps = true) :
    Cal P w K mg base (k + 1) x (spS ⟨P, w, K⟩ ps.length (runFn f ctx)) [] := by
  unfold kF at h
  simp only [Bool.and_eq_true, decide_eq_true_eq] at h
  obtain ⟨⟨⟨h1, h2⟩, h3⟩, h4⟩ := h
  have S := fnScope_by h1
  refine cal0 F b .nil S (fun vs H Q E ⟨L, hh, p, r, h', hr, v, e, _⟩ => by rw [v.length, e]) fun cdv A outer s H vs Q E room ⟨L, hh, p, r, h', hr, v, hn, e, post⟩ => ?_
  let X : Cx := (cxOf C8.CX0 P w K mg base G.N x (fnScope st) fa cdv A outer s H E).nox
  have um : Um X := by
    have := room.un
    show (A.deeper (envOfC x (fnScope st) s.heap.objs.size fa cdv)).units + 100 < cLine
    omega
  have g : Gd G ctx X := ⟨rfl, S.nd, rfl, um, PassesOwn.never, fun f n a q => by
    obtain ⟨m, sem, q1, q2, q3⟩ := gl.fns f n a q
    exact ⟨k, m, sem, q1, room, q2, q3⟩, gl.blt, gl.glb⟩
  have ps' := ss_fin (keep := f.keep) (okSs f.body g S.kind (fun _ => rfl) h2)
  refine ⟨_, ps', L, hh, p.map some ++ List.replicate (G.N.length - p.length) none, r, h', hr, start_er v ?_, ?_, fun x L' H' e' r' v' => ⟨post x L' H' e' r' v', fun ex σ => by subst ex; exact post _ L' H' e' r' v'⟩⟩
  · rw [hn, ← S.pre, List.length_take]
    exact Nat.min_le_right _ _
  · unfold runFn at e
    rw [if_pos (by rw [hn, h4])] at e
    rw [h3, h4, ← hn] at e
    exact e
end
end HW
/-! HxD: a law's defs, all together. -/
namespace HW
open PySem PySem.Spec PyProof.Rows L2 C8

section
variable {P : Program} {w : World} {K : PySem.W.Frag} {mg : Str → Option Value} {base : Heap}
theorem mkDef {h : Heap} (X : K.In h) (G : h.Ns mainGlobals mg) {x : Str} {st : Stmt} {ps : List Str} {f : Addr} {od an : Option Addr} {osl : Array (Option Value)} {oc kV doc pm cdv ct : Value}
    (hb : ∀ (kV doc pm : Value) (an : Option Addr) (cdv ct : Value) (us : List Value), us.length = ps.length → bindArgs (PySem.W.fnOf x x (C8.fnArgs st) (C8.fnBody st) (C8.fnScope st) .none kV doc pm an cdv ct) ⟨us, []⟩ = pure (ps.zip us))
    (a : PySem.W.nsIn K mainGlobals x = some (some (.ref f))) (l : K.lookup f = some ⟨oc, od, .func (PySem.W.fnOf x x (C8.fnArgs st) (C8.fnBody st) (C8.fnScope st) .none kV doc pm an cdv ct), osl⟩) (c : PySem.W.codeIn K cdv x = true) (k : PySem.W.keepIn K (.ref f) = true) :
    ∃ f fd, C8.Def K mg x st f fd ∧ L2.Binds K fd ps [] := by
  have F : C8.Fun K x x st f (PySem.W.fnOf x x (C8.fnArgs st) (C8.fnBody st) (C8.fnScope st) .none kV doc pm an cdv ct) := ⟨oc, od, .none, kV, doc, pm, an, cdv, ct, osl, rfl, l, c⟩
  exact ⟨f, _, ⟨F, PySem.W.mg_of X G a, k⟩, F.binds rfl hb⟩
theorem mkGlb {h : Heap} (X : K.In h) (G : h.Ns mainGlobals mg) {x : Str} {u : Value} {v : V} (a : PySem.W.nsIn K mainGlobals x = some (some u)) (r : RelV v u) : ∃ u, mg x = some u ∧ RelV v u := ⟨u, PySem.W.mg_of X G a, r⟩
/-- the callees, each at a level *)-/
abbrev FnsAt (P : Program) (w : World) (K : PySem.W.Frag) (mg : Str → Option Value) (base : Heap) (k : Nat) : List (Str × Nat) → List Sem → Prop := Paired fun p sem => ∃ m, m ≤ k ∧ Cal P w K mg base m p.1 (spS ⟨P, w, K⟩ p.2 sem) []
theorem fns_get {k : Nat} : ∀ {l : List (Str × Nat)} {ctx : List Sem}, FnsAt P w K mg base k l ctx → ∀ (f : Nat) (n : Str) (a : Nat), l[f]? = some (n, a) → ∃ (m : Nat) (sem : Sem), ctx[f]? = some sem ∧ m ≤ k ∧ Cal P w K mg base m n (spS ⟨P, w, K⟩ a sem) []
  | _, _, .nil, f, n, a, h => by simp at h
  | _, _, .cons h1 h2, 0, n, a, h => by
    simp only [List.getElem?_cons_zero, Option.some.injEq] at h
    subst h
    obtain ⟨m, q1, q2⟩ := h1
    exact ⟨m, _, rfl, q1, q2⟩
  | _, _, .cons h1 h2, f + 1, n, a, h => by
    obtain ⟨m, sem, q1, q2, q3⟩ := fns_get h2 f n a (by simpa using h)
    exact ⟨m, sem, by simpa using q1, q2, q3⟩
abbrev GlbAt (mg : Str → Option Value) (l : List (Str × PV)) : Prop := ∀ p ∈ l, ∃ u w, mg p.1 = some u ∧ cOk p.2 = some w ∧ RelV w u
theorem GlbAt.nil : GlbAt mg [] := fun p hp => by cases hp
theorem GlbAt.cons {x : Str} {v : PV} {y : V} {l : List (Str × PV)} (h1 : ∃ u, mg x = some u ∧ RelV y u) (hc : cOk v = some y) (h2 : GlbAt mg l) : GlbAt mg ((x, v) :: l) := fun p hp => by
  rcases List.mem_cons.mp hp with rfl | hp
  · obtain ⟨u, q1, q2⟩ := h1
    exact ⟨u, y, q1, hc, q2⟩
  · exact h2 p hp
theorem cal_def {x : Str} {st : Stmt} {ps : List Str} {k : Nat} {G : Ck} {ctx : List Sem} {f : IFun} (F : ∃ fa fd, C8.Def K mg x st fa fd ∧ L2.Binds K fd ps []) (b : ∀ x ∈ bltNm, mg x = none) (fs : FnsAt P w K mg base k G.fns ctx) (gs : GlbAt mg G.glb) (h : kF G f st ps = true) :
    Cal P w K mg base (k + 1) x (spS ⟨P, w, K⟩ ps.length (runFn f ctx)) [] := by
  obtain ⟨fa, fd, F, bb⟩ := F
  exact def_ok F bb ⟨fns_get fs, b, fun x v hp => gs (x, v) hp⟩ h
/-- what never answers may be called by any def's name -/
theorem cal_bad {x : Str} {st : Stmt} {ps : List Str} {k : Nat} {N : List Str} (F : ∃ fa fd, C8.Def K mg x st fa fd ∧ L2.Binds K fd ps []) (S : scC N ps (C8.fnScope st) = true) : Cal P w K mg base (k + 1) x (spS ⟨P, w, K⟩ ps.length fun _ _ => .bad) [] := by
  obtain ⟨fa, fd, F, bb⟩ := F
  exact cal0 F bb .nil (fnScope_by S) (fun vs H Q E ⟨_, _, p, _, _, _, v, e, _⟩ => by rw [v.length, e]) fun cdv A outer s H vs Q E room ⟨_, _, _, _, _, _, _, _, e, _⟩ => by cases e
end
end HW
/-! HxE: the law's own head. -/
namespace HW
open PySem PySem.Spec PyProof.Rows L2 C8

section
variable {P : Program} {w : World} {K : PySem.W.Frag} {mg : Str → Option Value} {base : Heap}
/-- def_ok, of the function object that is known -/
theorem def_fn {x : Str} {st : Stmt} {fa : Addr} {fd : FuncData} {ps : List Str} {k : Nat} {G : Ck} {ctx : List Sem} {f : IFun} (F : C8.Def K mg x st fa fd) (gl : Gl0 P w K mg base G ctx k) (h : kF G f st ps = true) :
    FnOk P w K mg base C8.CX0 (k + 1) fa fd ps (spS ⟨P, w, K⟩ ps.length (runFn f ctx)) := by
  unfold kF at h
  simp only [Bool.and_eq_true, decide_eq_true_eq] at h
  obtain ⟨⟨⟨h1, h2⟩, h3⟩, h4⟩ := h
  have S := fnScope_by h1
  refine fn0 F.fn S (fun vs H Q E ⟨L, hh, p, r, h', hr, v, e, _⟩ => by rw [v.length, e]) fun cdv A outer s H vs Q E room ⟨L, hh, p, r, h', hr, v, hn, e, post⟩ => ?_
  let X : Cx := (cxOf C8.CX0 P w K mg base G.N x (fnScope st) fa cdv A outer s H E).nox
  have um : Um X := by
    have := room.un
    show (A.deeper (envOfC x (fnScope st) s.heap.objs.size fa cdv)).units + 100 < cLine
    omega
  have g : Gd G ctx X := ⟨rfl, S.nd, rfl, um, PassesOwn.never, fun f n a q => by
    obtain ⟨m, sem, q1, q2, q3⟩ := gl.fns f n a q
    exact ⟨k, m, sem, q1, room, q2, q3⟩, gl.blt, gl.glb⟩
  have ps' := ss_fin (keep := f.keep) (okSs f.body g S.kind (fun _ => rfl) h2)
  refine ⟨_, ps', L, hh, p.map some ++ List.replicate (G.N.length - p.length) none, r, h', hr, start_er v ?_, ?_, fun x L' H' e' r' v' => ⟨post x L' H' e' r' v', fun ex σ => by subst ex; exact post _ L' H' e' r' v'⟩⟩
  · rw [hn, ← S.pre, List.length_take]
    exact Nat.min_le_right _ _
  · unfold runFn at e
    rw [if_pos (by rw [hn, h4])] at e
    rw [h3, h4, ← hn] at e
    exact e
abbrev LawAt (K : PySem.W.Frag) (mg : Str → Option Value) (st : Stmt) (x : Str) : Prop := ∃ fa fd, C8.Def K mg "law" st fa fd ∧ ∀ (s : Shared) (u : Value), BindsTo s fd ⟨[u], []⟩ [(x, u)]
theorem mkLaw {h : Heap} (X : K.In h) (G : h.Ns mainGlobals mg) {st : Stmt} {y : Str} {f : Addr} {od an : Option Addr} {osl : Array (Option Value)} {oc kV doc pm cdv ct : Value}
    (hb : ∀ (kV doc pm : Value) (an : Option Addr) (cdv ct : Value) (u : Value), bindArgs (PySem.W.fnOf "law" "law" (C8.fnArgs st) (C8.fnBody st) (C8.fnScope st) .none kV doc pm an cdv ct) ⟨[u], []⟩ = pure [(y, u)])
    (a : PySem.W.nsIn K mainGlobals "law" = some (some (.ref f))) (l : K.lookup f = some ⟨oc, od, .func (PySem.W.fnOf "law" "law" (C8.fnArgs st) (C8.fnBody st) (C8.fnScope st) .none kV doc pm an cdv ct), osl⟩) (c : PySem.W.codeIn K cdv "law" = true) (k : PySem.W.keepIn K (.ref f) = true) :
    LawAt K mg st y := by
  have F : C8.Fun K "law" "law" st f (PySem.W.fnOf "law" "law" (C8.fnArgs st) (C8.fnBody st) (C8.fnScope st) .none kV doc pm an cdv ct) := ⟨oc, od, .none, kV, doc, pm, an, cdv, ct, osl, rfl, l, c⟩
  exact ⟨f, _, ⟨F, PySem.W.mg_of X G a, k⟩, fun s u => .of_eq (hb _ _ _ _ _ _ _)⟩
theorem law_fn {st : Stmt} {x : Str} {fa : Addr} {k : Nat} {G : Ck} {ctx : List Sem} {f : IFun} (F : LawAt K mg st x) (hmg : mg "law" = some (.ref fa)) (b : ∀ x ∈ bltNm, mg x = none) (fs : ∀ base, FnsAt P w K mg base k G.fns ctx) (gs : GlbAt mg G.glb) (h : kF G f st [x] = true) :
    ∃ fd : FuncData, (∀ (s : Shared) (u : Value), BindsTo s fd ⟨[u], []⟩ [(x, u)]) ∧ ∀ base : Heap, K.In base → base.Ns mainGlobals mg → FnOk P w K mg base L2.CX0 (k + 1) fa fd [x] (spS ⟨P, w, K⟩ 1 (runFn f ctx)) := by
  obtain ⟨fa', fd, F, bb⟩ := F
  have e := hmg.symm.trans F.mgf
  cases e
  exact ⟨fd, bb, fun base _ _ => def_fn F ⟨fns_get (fs base), b, fun x v hp => gs (x, v) hp⟩ h⟩
end
/-- the law answers True of every script: the promise that the head asks for -/
theorem law_sp {Z : Wd} {H : Hp} {a : Addr} {ns : List Int} {sem : Sem} (hO : Only H) (hS : SqL Z.K H a (ns.map V.int)) {E : XK} {h' : PHeap} (m : sem [.scr ns] [] = .ok (.bl true) h') : spS Z 1 sem [.ref a] H (fun v _ => v = .bl true) E := by
  have nil : HR Z [] [] H := ⟨rfl, .nil, fun n c a h => by simp at h⟩
  have v : VR Z [] H (.scr ns) (.ref a) := by
    rcases hS with h | h
    · rcases h with h | h
      · rcases hO a with q | ⟨o, xs, q⟩
        · rw [q] at h; cases h
        · rw [q] at h; cases h
      · exact .scr h (by simp)
    · exact .scrK fun G => .inr h
  exact ⟨[], [], _, _, _, nil, .cons v .nil, rfl, m, fun x L' H' _ _ v => by cases v; rfl⟩
end HW
namespace K12
open PySem HW
def topS (i : Nat) : Stmt := PySem.Challenge.pw_hollowstead_k12_parts_and_ways.main.body.getD i (.Pass ⟨0, 0, 0, 0⟩)
def if_is_integer : IFun := ⟨1, 1, (.cons (.ret (.and (.blt (.isi "int") (.cons (.var 0) .nil)) (.not (.blt (.isi "bool") (.cons (.var 0) .nil))))) .nil), false⟩
def ck_is_integer : Ck := ⟨["value"], [], []⟩
theorem kf_is_integer : kF ck_is_integer if_is_integer (topS 1) ["value"] = true := by decide +kernel
def if_is_face : IFun := ⟨1, 3, (.cons (.ifs (.or (.not (.blt (.isi "tuple") (.cons (.var 0) .nil))) (.or (.cmp .eq (.blt .len (.cons (.var 0) .nil)) (.cst (.int 0))) (.not (.conv .all false (.comp false [1] (.nm 1) (.ex (.var 0)) .nil (.and (.call 0 (.cons (.var 1) .nil)) (.cmp .ge (.var 1) (.cst (.int 0))))))))) (.cons (.ret (.cst (.bl false))) .nil) .nil) (.cons (.ret (.conv .all false (.comp false [1, 2] (.tp [(.nm 1), (.nm 2)]) (.zip (.var 0) (.slice (.var 0) (.some (.cst (.int 1))) .none)) .nil (.cmp .lt (.var 1) (.var 2))))) .nil)), false⟩
def ck_is_face : Ck := ⟨["value", "one", "two"], [("is_integer", 1)], []⟩
theorem kf_is_face : kF ck_is_face if_is_face (topS 2) ["value"] = true := by decide +kernel
def if_is_within : IFun := ⟨2, 3, (.cons (.ret (.conv .all false (.comp false [2] (.nm 2) (.ex (.var 0)) .nil (.cmp .isin (.var 2) (.var 1))))) .nil), false⟩
def ck_is_within : Ck := ⟨["face", "other", "corner"], [], []⟩
theorem kf_is_within : kF ck_is_within if_is_within (topS 3) ["face", "other"] = true := by decide +kernel
def if_corners_of : IFun := ⟨1, 4, (.cons (.asg (.tg (.nm 1)) (.dct true .nil)) (.cons (.for_ (.nm 2) (.ex (.var 0)) (.cons (.for_ (.nm 3) (.ex (.var 2)) (.cons (.asg (.sub (.var 1) (.var 3)) (.cst (.bl true))) .nil)) .nil)) (.cons (.ret (.conv .sorted false (.var 1))) .nil))), false⟩
def ck_corners_of : Ck := ⟨["faces", "found", "face", "corner"], [], []⟩
theorem kf_corners_of : kF ck_corners_of if_corners_of (topS 4) ["faces"] = true := by decide +kernel
def if_parts_of_face : IFun := ⟨1, 4, (.cons (.asg (.tg (.nm 1)) (.lst false (.cons (.tup .nil) .nil))) (.cons (.for_ (.nm 2) (.ex (.var 0)) (.cons (.asg (.tg (.nm 1)) (.bin .add (.var 1) (.comp false [3] (.nm 3) (.ex (.var 1)) .nil (.bin .add (.var 3) (.tup (.cons (.var 2) .nil)))))) .nil)) (.cons (.ret (.slice (.var 1) (.some (.cst (.int 1))) .none)) .nil))), false⟩
def ck_parts_of_face : Ck := ⟨["face", "found", "corner", "one"], [], []⟩
theorem kf_parts_of_face : kF ck_parts_of_face if_parts_of_face (topS 5) ["face"] = true := by decide +kernel
def if_all_faces : IFun := ⟨1, 4, (.cons (.asg (.tg (.nm 1)) (.dct true .nil)) (.cons (.for_ (.nm 2) (.ex (.var 0)) (.cons (.for_ (.nm 3) (.ex (.call 0 (.cons (.var 2) .nil))) (.cons (.asg (.sub (.var 1) (.var 3)) (.cst (.bl true))) .nil)) .nil)) (.cons (.ret (.var 1)) .nil))), false⟩
def ck_all_faces : Ck := ⟨["greatest", "found", "face", "one"], [("parts_of_face", 1)], []⟩
theorem kf_all_faces : kF ck_all_faces if_all_faces (topS 6) ["greatest"] = true := by decide +kernel
def if_faces_of : IFun := ⟨2, 3, (.cons (.ret (.conv .tuple false (.conv .sorted false (.comp false [2] (.nm 2) (.ex (.call 0 (.cons (.var 0) .nil))) (.cons (.cmp .eq (.blt .len (.cons (.var 2) .nil)) (.bin .add (.var 1) (.cst (.int 1)))) .nil) (.var 2))))) .nil), false⟩
def ck_faces_of : Ck := ⟨["shape", "d", "face"], [("all_faces", 1)], []⟩
theorem kf_faces_of : kF ck_faces_of if_faces_of (topS 7) ["shape", "d"] = true := by decide +kernel
def if_greatest_of : IFun := ⟨1, 5, (.cons (.asg (.tg (.nm 1)) (.dct true .nil)) (.cons (.for_ (.nm 2) (.ex (.var 0)) (.cons (.asg (.sub (.var 1) (.var 2)) (.cst (.bl true))) .nil)) (.cons (.asg (.tg (.nm 3)) (.dct true .nil)) (.cons (.for_ (.nm 2) (.ex (.var 1)) (.cons (.for_ (.nm 4) (.ex (.call 0 (.cons (.var 2) .nil))) (.cons (.ifs (.cmp .ne (.var 4) (.var 2)) (.cons (.asg (.sub (.var 3) (.var 4)) (.cst (.bl true))) .nil) .nil) .nil)) .nil)) (.cons (.ret (.conv .tuple false (.conv .sorted false (.comp false [2] (.nm 2) (.ex (.var 1)) (.cons (.cmp .notin (.var 2) (.var 3)) .nil) (.var 2))))) .nil))))), false⟩
def ck_greatest_of : Ck := ⟨["faces", "rows", "face", "inner", "one"], [("parts_of_face", 1)], []⟩
theorem kf_greatest_of : kF ck_greatest_of if_greatest_of (topS 8) ["faces"] = true := by decide +kernel
def if_star : IFun := ⟨2, 3, (.cons (.ret (.conv .tuple false (.comp false [2] (.nm 2) (.ex (.var 0)) (.cons (.call 0 (.cons (.var 1) (.cons (.var 2) .nil))) .nil) (.var 2)))) .nil), false⟩
def ck_star : Ck := ⟨["shape", "face", "one"], [("is_within", 2)], []⟩
theorem kf_star : kF ck_star if_star (topS 10) ["shape", "face"] = true := by decide +kernel
def if_link : IFun := ⟨2, 5, (.cons (.asg (.tg (.nm 2)) (.comp false [3] (.nm 3) (.ex (.call 0 (.cons (.var 0) (.cons (.var 1) .nil)))) .nil (.conv .tuple false (.comp false [4] (.nm 4) (.ex (.var 3)) (.cons (.cmp .notin (.var 4) (.var 1)) .nil) (.var 4))))) (.cons (.ret (.call 1 (.cons (.comp false [3] (.nm 3) (.ex (.var 2)) (.cons (.var 3) .nil) (.var 3)) .nil))) .nil)), false⟩
def ck_link : Ck := ⟨["shape", "face", "rest", "one", "corner"], [("star", 2), ("greatest_of", 1)], []⟩
theorem kf_link : kF ck_link if_link (topS 11) ["shape", "face"] = true := by decide +kernel
def if_without : IFun := ⟨2, 3, (.cons (.ret (.call 0 (.cons (.comp false [2] (.nm 2) (.ex (.call 1 (.cons (.var 0) .nil))) (.cons (.cmp .notin (.var 1) (.var 2)) .nil) (.var 2)) .nil))) .nil), false⟩
def ck_without : Ck := ⟨["shape", "corner", "face"], [("greatest_of", 1), ("all_faces", 1)], []⟩
theorem kf_without : kF ck_without if_without (topS 12) ["shape", "corner"] = true := by decide +kernel
def if_skeleton : IFun := ⟨2, 3, (.cons (.ret (.call 0 (.cons (.comp false [2] (.nm 2) (.ex (.call 1 (.cons (.var 0) .nil))) (.cons (.cmp .le (.blt .len (.cons (.var 2) .nil)) (.bin .add (.var 1) (.cst (.int 1)))) .nil) (.var 2)) .nil))) .nil), false⟩
def ck_skeleton : Ck := ⟨["shape", "d", "face"], [("greatest_of", 1), ("all_faces", 1)], []⟩
theorem kf_skeleton : kF ck_skeleton if_skeleton (topS 13) ["shape", "d"] = true := by decide +kernel
def if_made_of : IFun := ⟨1, 7, (.cons (.asg (.tg (.nm 1)) (.call 0 (.cons (.var 0) .nil))) (.cons (.asg (.tg (.nm 2)) (.dcomp false [5, 6] (.tp [(.nm 5), (.nm 6)]) (.enum (.var 1)) .nil (.var 6) (.var 5))) (.cons (.asg (.tg (.nm 3)) (.comp false [4] (.nm 4) (.ex (.var 0)) .nil (.conv .tuple false (.comp false [6] (.nm 6) (.ex (.var 4)) .nil (.sub (.var 2) (.var 6)))))) (.cons (.ret (.tup (.cons (.conv .tuple false (.conv .sorted false (.var 3))) (.cons (.conv .tuple false (.var 1)) .nil)))) .nil)))), false⟩
def ck_made_of : Ck := ⟨["part", "corners", "numbers", "faces", "face", "k", "corner"], [("corners_of", 1)], []⟩
theorem kf_made_of : kF ck_made_of if_made_of (topS 14) ["part"] = true := by decide +kernel
def if_both_parts : IFun := ⟨2, 4, (.cons (.asg (.tg (.nm 2)) (.call 0 (.cons (.var 1) .nil))) (.cons (.ret (.call 1 (.cons (.comp false [3] (.nm 3) (.ex (.call 0 (.cons (.var 0) .nil))) (.cons (.cmp .isin (.var 3) (.var 2)) .nil) (.var 3)) .nil))) .nil)), false⟩
def ck_both_parts : Ck := ⟨["first", "second", "known", "face"], [("all_faces", 1), ("greatest_of", 1)], []⟩
theorem kf_both_parts : kF ck_both_parts if_both_parts (topS 15) ["first", "second"] = true := by decide +kernel
def if_either_part : IFun := ⟨2, 2, (.cons (.ret (.call 0 (.cons (.bin .add (.conv .list false (.var 0)) (.conv .list false (.var 1))) .nil))) .nil), false⟩
def ck_either_part : Ck := ⟨["first", "second"], [("greatest_of", 1)], []⟩
theorem kf_either_part : kF ck_either_part if_either_part (topS 16) ["first", "second"] = true := by decide +kernel
def if_neighbours : IFun := ⟨1, 6, (.cons (.asg (.tg (.nm 1)) (.dcomp true [4] (.nm 4) (.ex (.call 0 (.cons (.var 0) .nil))) .nil (.var 4) (.lst true .nil))) (.cons (.for_ (.tp [(.nm 2), (.nm 3)]) (.ex (.call 1 (.cons (.var 0) (.cons (.cst (.int 1)) .nil)))) (.cons (.expr (.meth .lapp (.sub (.var 1) (.var 2)) (.cons (.var 3) .nil))) (.cons (.expr (.meth .lapp (.sub (.var 1) (.var 3)) (.cons (.var 2) .nil))) .nil))) (.cons (.ret (.dcomp false [4, 5] (.tp [(.nm 4), (.nm 5)]) (.items (.var 1)) .nil (.var 4) (.conv .sorted false (.var 5)))) .nil))), false⟩
def ck_neighbours : Ck := ⟨["shape", "found", "i", "j", "corner", "row"], [("corners_of", 1), ("faces_of", 2)], []⟩
theorem kf_neighbours : kF ck_neighbours if_neighbours (topS 17) ["shape"] = true := by decide +kernel
def if_ways_from : IFun := ⟨2, 7, (.cons (.asg (.tg (.nm 2)) (.call 0 (.cons (.var 0) .nil))) (.cons (.asg (.tg (.nm 3)) (.dct true (.cons (.var 1) (.cons (.tup (.cons (.var 1) .nil)) .nil)))) (.cons (.asg (.tg (.nm 4)) (.lst true (.cons (.var 1) .nil))) (.cons (.asg (.tg (.nm 5)) (.cst (.int 0))) (.cons (.while_ 1000 (.cmp .lt (.var 5) (.blt .len (.cons (.var 4) .nil))) (.cons (.for_ (.nm 6) (.ex (.sub (.var 2) (.sub (.var 4) (.var 5)))) (.cons (.ifs (.cmp .notin (.var 6) (.var 3)) (.cons (.asg (.sub (.var 3) (.var 6)) (.bin .add (.sub (.var 3) (.sub (.var 4) (.var 5))) (.tup (.cons (.var 6) .nil)))) (.cons (.expr (.meth .lapp (.var 4) (.cons (.var 6) .nil))) .nil)) .nil) .nil)) (.cons (.aug 5 .add (.cst (.int 1))) .nil))) (.cons (.ret (.var 3)) .nil)))))), false⟩
def ck_ways_from : Ck := ⟨["shape", "i", "near", "found", "order", "at", "corner"], [("neighbours", 1)], []⟩
theorem kf_ways_from : kF ck_ways_from if_ways_from (topS 18) ["shape", "i"] = true := by decide +kernel
def if_way_paper : IFun := ⟨3, 4, (.cons (.asg (.tg (.nm 3)) (.call 0 (.cons (.var 0) (.cons (.var 1) .nil)))) (.cons (.ret (.ife (.cmp .isin (.var 2) (.var 3)) (.tup (.cons (.cst (.str (Str.ofString "way"))) (.cons (.sub (.var 3) (.var 2)) .nil))) (.tup (.cons (.cst (.str (Str.ofString "apart"))) (.cons (.conv .tuple false (.conv .sorted false (.var 3))) .nil))))) .nil)), false⟩
def ck_way_paper : Ck := ⟨["shape", "i", "j", "found"], [("ways_from", 2)], []⟩
theorem kf_way_paper : kF ck_way_paper if_way_paper (topS 19) ["shape", "i", "j"] = true := by decide +kernel
def if_judge_way : IFun := ⟨4, 9, (.cons (.ifs (.or (.not (.blt (.isi "tuple") (.cons (.var 3) .nil))) (.or (.cmp .ne (.blt .len (.cons (.var 3) .nil)) (.cst (.int 2))) (.not (.blt (.isi "str") (.cons (.sub (.var 3) (.cst (.int 0))) .nil))))) (.cons (.ret (.cst (.bl false))) .nil) .nil) (.cons (.asg (.tg (.nm 4)) (.sub (.var 3) (.cst (.int 1)))) (.cons (.ifs (.or (.not (.blt (.isi "tuple") (.cons (.var 4) .nil))) (.or (.cmp .eq (.blt .len (.cons (.var 4) .nil)) (.cst (.int 0))) (.not (.conv .all false (.comp false [8] (.nm 8) (.ex (.var 4)) .nil (.call 0 (.cons (.var 8) .nil))))))) (.cons (.ret (.cst (.bl false))) .nil) .nil) (.cons (.asg (.tg (.nm 5)) (.call 1 (.cons (.var 0) .nil))) (.cons (.ifs (.not (.conv .all false (.comp false [8] (.nm 8) (.ex (.var 4)) .nil (.cmp .isin (.var 8) (.var 5))))) (.cons (.ret (.cst (.bl false))) .nil) .nil) (.cons (.ifs (.cmp .eq (.sub (.var 3) (.cst (.int 0))) (.cst (.str (Str.ofString "way")))) (.cons (.ret (.and (.cmp .eq (.sub (.var 4) (.cst (.int 0))) (.var 1)) (.and (.cmp .eq (.sub (.var 4) (.neg (.cst (.int 1)))) (.var 2)) (.conv .all false (.comp false [6, 7] (.tp [(.nm 6), (.nm 7)]) (.zip (.var 4) (.slice (.var 4) (.some (.cst (.int 1))) .none)) .nil (.cmp .isin (.var 7) (.sub (.var 5) (.var 6)))))))) .nil) .nil) (.cons (.ifs (.or (.cmp .ne (.sub (.var 3) (.cst (.int 0))) (.cst (.str (Str.ofString "apart")))) (.or (.not (.call 2 (.cons (.var 4) .nil))) (.or (.cmp .notin (.var 1) (.var 4)) (.cmp .isin (.var 2) (.var 4))))) (.cons (.ret (.cst (.bl false))) .nil) .nil) (.cons (.ret (.conv .all false (.comp2 false [6, 7] (.nm 6) (.ex (.var 4)) .nil [7] (.nm 7) (.ex (.sub (.var 5) (.var 6))) .nil (.cmp .isin (.var 7) (.var 4))))) .nil)))))))), false⟩
def ck_judge_way : Ck := ⟨["shape", "i", "j", "value", "row", "near", "one", "two", "corner"], [("is_integer", 1), ("neighbours", 1), ("is_face", 1)], []⟩
theorem kf_judge_way : kF ck_judge_way if_judge_way (topS 20) ["shape", "i", "j", "value"] = true := by decide +kernel
def if_parts_of : IFun := ⟨1, 3, (.cons (.asg (.tg (.nm 1)) (.dct true .nil)) (.cons (.for_ (.nm 2) (.ex (.call 0 (.cons (.var 0) .nil))) (.cons (.asg (.sub (.var 1) (.conv .tuple false (.conv .sorted false (.call 1 (.cons (.var 0) (.cons (.var 2) .nil)))))) (.cst (.bl true))) .nil)) (.cons (.ret (.conv .tuple false (.conv .sorted false (.var 1)))) .nil))), false⟩
def ck_parts_of : Ck := ⟨["shape", "found", "corner"], [("corners_of", 1), ("ways_from", 2)], []⟩
theorem kf_parts_of : kF ck_parts_of if_parts_of (topS 21) ["shape"] = true := by decide +kernel
def if__law_start : IFun := ⟨1, 2, (.cons (.ret (.lst true (.cons (.comp false [1] (.nm 1) (.ex (.slice (.var 0) .none (.some (.cst (.int 63))))) .nil (.blt .int (.cons (.var 1) .nil))) (.cons (.cst (.int 0)) (.cons (.cst (.int 0)) (.cons (.cst (.int 0)) (.cons (.cst (.int 20)) .nil))))))) .nil), true⟩
def ck__law_start : Ck := ⟨["script", "cell"], [], []⟩
theorem kf__law_start : kF ck__law_start if__law_start (topS 23) ["script"] = true := by decide +kernel
def if__law_fill : IFun := ⟨1, 2, (.cons (.asg (.sub (.var 0) (.cst (.int 3))) (.bin .add (.sub (.var 0) (.cst (.int 3))) (.cst (.int 1)))) (.cons (.asg (.tg (.nm 1)) (.bin .add (.bin .mul (.sub (.var 0) (.cst (.int 3))) (.cst (.int 69621))) (.cst (.int 12345)))) (.cons (.ifs (.cmp .lt (.sub (.var 0) (.cst (.int 1))) (.blt .len (.cons (.sub (.var 0) (.cst (.int 0))) .nil))) (.cons (.asg (.tg (.nm 1)) (.sub (.sub (.var 0) (.cst (.int 0))) (.sub (.var 0) (.cst (.int 1))))) (.cons (.asg (.sub (.var 0) (.cst (.int 1))) (.bin .add (.sub (.var 0) (.cst (.int 1))) (.cst (.int 1)))) (.cons (.ifs (.cmp .lt (.var 1) (.cst (.int 0))) (.cons (.asg (.tg (.nm 1)) (.bin .sub (.bin .sub (.cst (.int 0)) (.cst (.int 1))) (.var 1))) .nil) .nil) (.cons (.ifs (.cmp .ge (.var 1) (.bin .pow (.cst (.int 10)) (.cst (.int 18)))) (.cons (.ret (.var 1)) .nil) .nil) .nil)))) .nil) (.cons (.ifs (.and (.sub (.var 0) (.cst (.int 0))) (.cmp .ge (.sub (.var 0) (.cst (.int 1))) (.blt .len (.cons (.sub (.var 0) (.cst (.int 0))) .nil)))) (.cons (.asg (.tg (.nm 1)) (.bin .add (.var 1) (.bin .mod (.blt .int (.cons (.sub (.sub (.var 0) (.cst (.int 0))) (.neg (.cst (.int 1)))) .nil)) (.cst (.int 1000003))))) .nil) .nil) (.cons (.asg (.tg (.nm 1)) (.bin .mod (.blt .int (.cons (.bin .add (.bin .mul (.var 1) (.cst (.int 48271))) (.bin .mul (.sub (.var 0) (.cst (.int 3))) (.cst (.int 69621)))) .nil)) (.cst (.int 2147483647)))) (.cons (.ret (.bin .add (.bin .fdiv (.blt .int (.cons (.bin .add (.bin .add (.bin .mul (.var 1) (.var 1)) (.bin .mul (.sub (.var 0) (.cst (.int 3))) (.cst (.int 7919)))) (.cst (.int 11))) .nil)) (.cst (.int 64))) (.cst (.int 36028797018963968)))) .nil)))))), false⟩
def ck__law_fill : Ck := ⟨["c", "number"], [], []⟩
theorem kf__law_fill : kF ck__law_fill if__law_fill (topS 24) ["c"] = true := by decide +kernel
def if__law_take : IFun := ⟨2, 3, (.cons (.ifs (.cmp .lt (.sub (.var 0) (.cst (.int 2))) (.var 1)) (.cons (.asg (.sub (.var 0) (.cst (.int 2))) (.call 0 (.cons (.var 0) .nil))) .nil) .nil) (.cons (.asg (.tg (.nm 2)) (.bin .mod (.blt .int (.cons (.sub (.var 0) (.cst (.int 2))) .nil)) (.var 1))) (.cons (.asg (.sub (.var 0) (.cst (.int 2))) (.bin .fdiv (.sub (.var 0) (.cst (.int 2))) (.var 1))) (.cons (.ret (.var 2)) .nil)))), false⟩
def ck__law_take : Ck := ⟨["c", "many", "digit"], [("_law_fill", 1)], []⟩
theorem kf__law_take : kF ck__law_take if__law_take (topS 25) ["c", "many"] = true := by decide +kernel
def if__law_is_int : IFun := ⟨1, 1, (.cons (.ret (.and (.blt (.isi "int") (.cons (.var 0) .nil)) (.not (.blt (.isi "bool") (.cons (.var 0) .nil))))) .nil), false⟩
def ck__law_is_int : Ck := ⟨["value"], [], []⟩
theorem kf__law_is_int : kF ck__law_is_int if__law_is_int (topS 26) ["value"] = true := by decide +kernel
def if__law_alike : IFun := ⟨2, 3, (.cons (.ifs (.blt (.isi "tuple") (.cons (.var 1) .nil)) (.cons (.ret (.and (.blt (.isi "tuple") (.cons (.var 0) .nil)) (.and (.cmp .eq (.blt .len (.cons (.var 0) .nil)) (.blt .len (.cons (.var 1) .nil))) (.conv .all false (.comp false [2] (.nm 2) (.rng1 (.blt .len (.cons (.var 1) .nil))) .nil (.call 0 (.cons (.sub (.var 0) (.var 2)) (.cons (.sub (.var 1) (.var 2)) .nil)))))))) .nil) .nil) (.cons (.ifs (.cmp .is (.var 1) (.cst .non)) (.cons (.ret (.cmp .is (.var 0) (.cst .non))) .nil) .nil) (.cons (.ifs (.or (.blt (.isi "bool") (.cons (.var 0) .nil)) (.cmp .ne (.blt (.isi "str") (.cons (.var 0) .nil)) (.blt (.isi "str") (.cons (.var 1) .nil)))) (.cons (.ret (.cst (.bl false))) .nil) .nil) (.cons (.ret (.and (.blt (.isiT ["int", "str"]) (.cons (.var 0) .nil)) (.cmp .eq (.var 0) (.var 1)))) .nil)))), false⟩
def ck__law_alike : Ck := ⟨["value", "due", "k"], [("_law_alike", 2)], []⟩
theorem kf__law_alike : kF ck__law_alike if__law_alike (topS 27) ["value", "due"] = true := by decide +kernel
def if__law_spoilt : IFun := ⟨2, 3, (.cons (.ifs (.blt (.isi "str") (.cons (.var 1) .nil)) (.cons (.ret (.sub (.lst false (.cons (.cst (.str (Str.ofString ""))) (.cons (.cst (.str (Str.ofString "way"))) (.cons (.cst (.str (Str.ofString "apart"))) (.cons (.cst (.str (Str.ofString "open"))) (.cons (.cst (.str (Str.ofString "turned"))) (.cons (.cst (.str (Str.ofString "cycle"))) (.cons (.cst (.str (Str.ofString "smith"))) (.cons (.cst (.str (Str.ofString "holes"))) (.cons (.cst (.str (Str.ofString "fills"))) (.cons (.cst (.str (Str.ofString "bars"))) (.cons (.cst (.str (Str.ofString "comes"))) .nil)))))))))))) (.call 0 (.cons (.var 0) (.cons (.cst (.int 11)) .nil))))) .nil) .nil) (.cons (.ifs (.not (.blt (.isi "tuple") (.cons (.var 1) .nil))) (.cons (.ret (.sub (.lst false (.cons (.cst (.int 0)) (.cons (.cst (.int 1)) (.cons (.cst (.int 2)) (.cons (.neg (.cst (.int 1))) (.cons (.cst (.bl true)) (.cons (.cst .non) (.cons (.cst (.int 3)) .nil)))))))) (.call 0 (.cons (.var 0) (.cons (.cst (.int 7)) .nil))))) .nil) .nil) (.cons (.ifs (.or (.not (.var 1)) (.cmp .eq (.call 0 (.cons (.var 0) (.cons (.cst (.int 5)) .nil))) (.cst (.int 0)))) (.cons (.ret (.sub (.lst false (.cons (.slice (.var 1) (.some (.cst (.int 1))) .none) (.cons (.slice (.var 1) .none (.some (.neg (.cst (.int 1))))) (.cons (.bin .add (.var 1) (.slice (.var 1) (.some (.neg (.cst (.int 1)))) .none)) (.cons (.rev (.var 1) (.neg (.cst (.int 1)))) (.cons (.conv .list false (.var 1)) (.cons (.bin .add (.var 1) (.tup (.cons (.cst (.int 0)) .nil))) (.cons (.tup .nil) (.cons (.tup (.cons (.cst (.int 1)) (.cons (.cst (.int 0)) .nil))) .nil))))))))) (.call 0 (.cons (.var 0) (.cons (.cst (.int 8)) .nil))))) .nil) .nil) (.cons (.asg (.tg (.nm 2)) (.call 0 (.cons (.var 0) (.cons (.blt .len (.cons (.var 1) .nil)) .nil)))) (.cons (.ret (.bin .add (.bin .add (.slice (.var 1) .none (.some (.var 2))) (.tup (.cons (.call 1 (.cons (.var 0) (.cons (.sub (.var 1) (.var 2)) .nil))) .nil))) (.slice (.var 1) (.some (.bin .add (.var 2) (.cst (.int 1)))) .none))) .nil))))), false⟩
def ck__law_spoilt : Ck := ⟨["c", "value", "k"], [("_law_take", 2), ("_law_spoilt", 2)], []⟩
theorem kf__law_spoilt : kF ck__law_spoilt if__law_spoilt (topS 28) ["c", "value"] = true := by decide +kernel
def if__law_bent : IFun := ⟨3, 4, (.cons (.for_ (.nm 3) (.rng1 (.bin .mul (.blt .int (.cons (.cmp .gt (.var 2) (.cst (.int 0))) .nil)) (.bin .add (.cst (.int 1)) (.call 0 (.cons (.var 0) (.cons (.cst (.int 2)) .nil)))))) (.cons (.asg (.tg (.nm 1)) (.call 1 (.cons (.var 0) (.cons (.var 1) .nil)))) .nil)) (.cons (.ret (.var 1)) .nil)), false⟩
def ck__law_bent : Ck := ⟨["c", "value", "turn", "k"], [("_law_take", 2), ("_law_spoilt", 2)], []⟩
theorem kf__law_bent : kF ck__law_bent if__law_bent (topS 29) ["c", "value", "turn"] = true := by decide +kernel
def if__law_parts_of : IFun := ⟨1, 4, (.cons (.asg (.tg (.nm 1)) (.lst false (.cons (.tup .nil) .nil))) (.cons (.for_ (.nm 2) (.ex (.var 0)) (.cons (.asg (.tg (.nm 1)) (.bin .add (.var 1) (.comp false [3] (.nm 3) (.ex (.var 1)) .nil (.bin .add (.var 3) (.tup (.cons (.var 2) .nil)))))) .nil)) (.cons (.ret (.comp false [3] (.nm 3) (.ex (.var 1)) (.cons (.var 3) .nil) (.var 3))) .nil))), false⟩
def ck__law_parts_of : Ck := ⟨["face", "found", "corner", "one"], [], []⟩
theorem kf__law_parts_of : kF ck__law_parts_of if__law_parts_of (topS 30) ["face"] = true := by decide +kernel
def if__law_faces : IFun := ⟨1, 4, (.cons (.asg (.tg (.nm 1)) (.dct true .nil)) (.cons (.for_ (.nm 2) (.ex (.var 0)) (.cons (.for_ (.nm 3) (.ex (.call 0 (.cons (.var 2) .nil))) (.cons (.asg (.sub (.var 1) (.var 3)) (.cst (.bl true))) .nil)) .nil)) (.cons (.ret (.conv .sorted false (.var 1))) .nil))), false⟩
def ck__law_faces : Ck := ⟨["shape", "found", "face", "one"], [("_law_parts_of", 1)], []⟩
theorem kf__law_faces : kF ck__law_faces if__law_faces (topS 31) ["shape"] = true := by decide +kernel
def if__law_level : IFun := ⟨2, 3, (.cons (.ret (.comp false [2] (.nm 2) (.ex (.call 0 (.cons (.var 0) .nil))) (.cons (.cmp .eq (.blt .len (.cons (.var 2) .nil)) (.bin .add (.var 1) (.cst (.int 1)))) .nil) (.var 2))) .nil), false⟩
def ck__law_level : Ck := ⟨["shape", "d", "face"], [("_law_faces", 1)], []⟩
theorem kf__law_level : kF ck__law_level if__law_level (topS 32) ["shape", "d"] = true := by decide +kernel
def if__law_inside : IFun := ⟨2, 3, (.cons (.ret (.conv .all false (.comp false [2] (.nm 2) (.ex (.var 0)) .nil (.cmp .isin (.var 2) (.var 1))))) .nil), false⟩
def ck__law_inside : Ck := ⟨["one", "two", "k"], [], []⟩
theorem kf__law_inside : kF ck__law_inside if__law_inside (topS 33) ["one", "two"] = true := by decide +kernel
def if__law_greatest : IFun := ⟨1, 4, (.cons (.asg (.tg (.nm 1)) (.conv .sortedSet false (.var 0))) (.cons (.ret (.conv .tuple false (.comp false [2] (.nm 2) (.ex (.var 1)) (.cons (.not (.conv .any false (.comp false [3] (.nm 3) (.ex (.var 1)) .nil (.and (.cmp .ne (.var 2) (.var 3)) (.call 0 (.cons (.var 2) (.cons (.var 3) .nil))))))) .nil) (.var 2)))) .nil)), false⟩
def ck__law_greatest : Ck := ⟨["faces", "rows", "one", "two"], [("_law_inside", 2)], []⟩
theorem kf__law_greatest : kF ck__law_greatest if__law_greatest (topS 34) ["faces"] = true := by decide +kernel
def if__law_plane : IFun := ⟨0, 0, (.cons (.ret (.tup (.cons (.tup (.cons (.cst (.int 0)) (.cons (.cst (.int 1)) (.cons (.cst (.int 4)) .nil)))) (.cons (.tup (.cons (.cst (.int 0)) (.cons (.cst (.int 1)) (.cons (.cst (.int 5)) .nil)))) (.cons (.tup (.cons (.cst (.int 0)) (.cons (.cst (.int 2)) (.cons (.cst (.int 3)) .nil)))) (.cons (.tup (.cons (.cst (.int 0)) (.cons (.cst (.int 2)) (.cons (.cst (.int 5)) .nil)))) (.cons (.tup (.cons (.cst (.int 0)) (.cons (.cst (.int 3)) (.cons (.cst (.int 4)) .nil)))) (.cons (.tup (.cons (.cst (.int 1)) (.cons (.cst (.int 2)) (.cons (.cst (.int 3)) .nil)))) (.cons (.tup (.cons (.cst (.int 1)) (.cons (.cst (.int 2)) (.cons (.cst (.int 4)) .nil)))) (.cons (.tup (.cons (.cst (.int 1)) (.cons (.cst (.int 3)) (.cons (.cst (.int 5)) .nil)))) (.cons (.tup (.cons (.cst (.int 2)) (.cons (.cst (.int 4)) (.cons (.cst (.int 5)) .nil)))) (.cons (.tup (.cons (.cst (.int 3)) (.cons (.cst (.int 4)) (.cons (.cst (.int 5)) .nil)))) .nil)))))))))))) .nil), false⟩
def ck__law_plane : Ck := ⟨[], [], []⟩
theorem kf__law_plane : kF ck__law_plane if__law_plane (topS 35) [] = true := by decide +kernel
def if__law_shape : IFun := ⟨1, 6, (.cons (.asg (.tg (.nm 1)) (.call 0 (.cons (.var 0) (.cons (.cst (.int 8)) .nil)))) (.cons (.ifs (.cmp .eq (.var 1) (.cst (.int 0))) (.cons (.ret (.call 1 .nil)) .nil) .nil) (.cons (.ifs (.cmp .eq (.var 1) (.cst (.int 1))) (.cons (.ret (.tup (.cons (.tup (.cons (.cst (.int 0)) (.cons (.cst (.int 1)) (.cons (.cst (.int 2)) .nil)))) (.cons (.tup (.cons (.cst (.int 0)) (.cons (.cst (.int 1)) (.cons (.cst (.int 3)) .nil)))) (.cons (.tup (.cons (.cst (.int 0)) (.cons (.cst (.int 2)) (.cons (.cst (.int 3)) .nil)))) (.cons (.tup (.cons (.cst (.int 1)) (.cons (.cst (.int 2)) (.cons (.cst (.int 3)) .nil)))) .nil)))))) .nil) .nil) (.cons (.asg (.tg (.nm 2)) (.bin .add (.cst (.int 1)) (.call 0 (.cons (.var 0) (.cons (.cst (.int 5)) .nil))))) (.cons (.asg (.tg (.nm 3)) (.comp true [5] (.nm 5) (.rng1 (.var 2)) .nil (.tup (.cons (.var 5) .nil)))) (.cons (.for_ (.nm 4) (.ex (.call 2 (.cons (.convI .tuple false (.rng1 (.var 2))) .nil))) (.cons (.ifs (.and (.cmp2 .lt .lt (.cst (.int 1)) (.blt .len (.cons (.var 4) .nil)) (.cst (.int 5))) (.cmp .eq (.call 0 (.cons (.var 0) (.cons (.sub (.lst false (.cons (.cst (.int 3)) (.cons (.cst (.int 2)) (.cons (.cst (.int 3)) (.cons (.cst (.int 4)) (.cons (.cst (.int 4)) .nil)))))) (.blt .len (.cons (.var 4) .nil))) .nil))) (.cst (.int 0)))) (.cons (.expr (.meth .lapp (.var 3) (.cons (.var 4) .nil))) .nil) .nil) .nil)) (.cons (.ret (.call 3 (.cons (.var 3) .nil))) .nil))))))), false⟩
def ck__law_shape : Ck := ⟨["c", "kind", "n", "faces", "face", "k"], [("_law_take", 2), ("_law_plane", 0), ("_law_parts_of", 1), ("_law_greatest", 1)], []⟩
theorem kf__law_shape : kF ck__law_shape if__law_shape (topS 36) ["c"] = true := by decide +kernel
def if__law_sides : IFun := ⟨1, 2, (.cons (.ifs (.cmp .eq (.blt .len (.cons (.var 0) .nil)) (.cst (.int 1))) (.cons (.ret (.lst false .nil)) .nil) .nil) (.cons (.ret (.comp false [1] (.nm 1) (.rng1 (.blt .len (.cons (.var 0) .nil))) .nil (.tup (.cons (.bin .add (.slice (.var 0) .none (.some (.var 1))) (.slice (.var 0) (.some (.bin .add (.var 1) (.cst (.int 1)))) .none)) (.cons (.bin .sub (.cst (.int 1)) (.bin .mul (.cst (.int 2)) (.bin .mod (.var 1) (.cst (.int 2))))) .nil))))) .nil)), false⟩
def ck__law_sides : Ck := ⟨["face", "k"], [], []⟩
theorem kf__law_sides : kF ck__law_sides if__law_sides (topS 37) ["face"] = true := by decide +kernel
def if__law_chain : IFun := ⟨1, 2, (.cons (.ret (.conv .tuple false (.conv .sorted false (.comp false [1] (.nm 1) (.ex (.var 0)) (.cons (.cmp .ne (.sub (.var 0) (.var 1)) (.cst (.int 0))) .nil) (.tup (.cons (.var 1) (.cons (.sub (.var 0) (.var 1)) .nil))))))) .nil), false⟩
def ck__law_chain : Ck := ⟨["table", "face"], [], []⟩
theorem kf__law_chain : kF ck__law_chain if__law_chain (topS 38) ["table"] = true := by decide +kernel
def if__law_boundary : IFun := ⟨1, 6, (.cons (.asg (.tg (.nm 1)) (.dct true .nil)) (.cons (.for_ (.tp [(.nm 2), (.nm 3)]) (.ex (.var 0)) (.cons (.for_ (.tp [(.nm 4), (.nm 5)]) (.ex (.call 0 (.cons (.var 2) .nil))) (.cons (.asg (.sub (.var 1) (.var 4)) (.bin .add (.meth .dget (.var 1) (.cons (.var 4) (.cons (.cst (.int 0)) .nil))) (.bin .mul (.var 5) (.var 3)))) .nil)) .nil)) (.cons (.ret (.call 1 (.cons (.var 1) .nil))) .nil))), false⟩
def ck__law_boundary : Ck := ⟨["chain", "found", "face", "n", "side", "sign"], [("_law_sides", 1), ("_law_chain", 1)], []⟩
theorem kf__law_boundary : kF ck__law_boundary if__law_boundary (topS 39) ["chain"] = true := by decide +kernel
def if__law_value : IFun := ⟨2, 5, (.cons (.asg (.tg (.nm 2)) (.conv .dict false (.var 0))) (.cons (.ret (.conv .sum false (.comp false [3, 4] (.tp [(.nm 3), (.nm 4)]) (.ex (.var 1)) .nil (.bin .mul (.meth .dget (.var 2) (.cons (.var 3) (.cons (.cst (.int 0)) .nil))) (.var 4))))) .nil)), false⟩
def ck__law_value : Ck := ⟨["cochain", "chain", "table", "face", "n"], [], []⟩
theorem kf__law_value : kF ck__law_value if__law_value (topS 40) ["cochain", "chain"] = true := by decide +kernel
def if__law_coboundary : IFun := ⟨2, 4, (.cons (.asg (.tg (.nm 2)) (.dct true .nil)) (.cons (.ifs (.var 1) (.cons (.for_ (.nm 3) (.ex (.call 0 (.cons (.var 0) (.cons (.blt .len (.cons (.sub (.sub (.var 1) (.cst (.int 0))) (.cst (.int 0))) .nil)) .nil)))) (.cons (.asg (.sub (.var 2) (.var 3)) (.call 1 (.cons (.var 1) (.cons (.call 2 (.cons (.tup (.cons (.tup (.cons (.var 3) (.cons (.cst (.int 1)) .nil))) .nil)) .nil)) .nil)))) .nil)) .nil) .nil) (.cons (.ret (.call 3 (.cons (.var 2) .nil))) .nil))), false⟩
def ck__law_coboundary : Ck := ⟨["shape", "cochain", "found", "face"], [("_law_level", 2), ("_law_value", 2), ("_law_boundary", 1), ("_law_chain", 1)], []⟩
theorem kf__law_coboundary : kF ck__law_coboundary if__law_coboundary (topS 41) ["shape", "cochain"] = true := by decide +kernel
def if__law_some : IFun := ⟨2, 3, (.cons (.ret (.call 0 (.cons (.conv .dict false (.comp false [2] (.nm 2) (.ex (.var 1)) .nil (.tup (.cons (.var 2) (.cons (.bin .sub (.call 1 (.cons (.var 0) (.cons (.cst (.int 5)) .nil))) (.cst (.int 2))) .nil))))) .nil))) .nil), false⟩
def ck__law_some : Ck := ⟨["c", "faces", "face"], [("_law_chain", 1), ("_law_take", 2)], []⟩
theorem kf__law_some : kF ck__law_some if__law_some (topS 42) ["c", "faces"] = true := by decide +kernel
def if__law_way : IFun := ⟨3, 10, (.cons (.par [(.tg (.nm 4)), (.tg (.nm 5))] (.cons (.lst false (.cons (.tup (.cons (.var 1) .nil)) .nil)) (.cons (.lst false (.cons (.var 1) .nil)) .nil))) (.cons (.for_ (.nm 3) (.rng1 (.cst (.int 12))) (.cons (.asg (.tg (.nm 6)) (.conv .sorted false (.comp false [8] (.nm 8) (.ex (.var 4)) (.cons (.cmp .eq (.sub (.var 8) (.neg (.cst (.int 1)))) (.var 2)) .nil) (.var 8)))) (.cons (.ifs (.var 6) (.cons (.ret (.tup (.cons (.cst (.str (Str.ofString "way"))) (.cons (.sub (.var 6) (.cst (.int 0))) .nil)))) .nil) .nil) (.cons (.asg (.tg (.nm 7)) (.lst false .nil)) (.cons (.for_ (.nm 8) (.ex (.conv .sorted false (.var 4))) (.cons (.asg (.tg (.nm 7)) (.bin .add (.var 7) (.comp false [9] (.nm 9) (.rng1 (.cst (.int 12))) (.cons (.and (.cmp .notin (.var 9) (.var 5)) (.cmp .isin (.tup (.cons (.blt .min2 (.cons (.var 9) (.cons (.sub (.var 8) (.neg (.cst (.int 1)))) .nil))) (.cons (.blt .max2 (.cons (.var 9) (.cons (.sub (.var 8) (.neg (.cst (.int 1)))) .nil))) .nil))) (.var 0))) .nil) (.bin .add (.var 8) (.tup (.cons (.var 9) .nil)))))) .nil)) (.cons (.asg (.tg (.nm 5)) (.bin .add (.var 5) (.comp false [8] (.nm 8) (.ex (.var 7)) .nil (.sub (.var 8) (.neg (.cst (.int 1))))))) (.cons (.asg (.tg (.nm 4)) (.var 7)) .nil))))))) (.cons (.ret (.tup (.cons (.cst (.str (Str.ofString "apart"))) (.cons (.conv .tuple false (.conv .sortedSet false (.var 5))) .nil)))) .nil))), false⟩
def ck__law_way : Ck := ⟨["edges", "i", "j", "turn", "level", "seen", "fits", "more", "way", "k"], [], []⟩
theorem kf__law_way : kF ck__law_way if__law_way (topS 43) ["edges", "i", "j"] = true := by decide +kernel
def if__law_is_way : IFun := ⟨4, 13, (.cons (.par [(.tg (.nm 5)), (.tg (.nm 6))] (.cons (.comp false [8] (.nm 8) (.ex (.call 0 (.cons (.var 0) (.cons (.cst (.int 0)) .nil)))) .nil (.sub (.var 8) (.cst (.int 0)))) (.cons (.call 0 (.cons (.var 0) (.cons (.cst (.int 1)) .nil))) .nil))) (.cons (.ifs (.or (.not (.blt (.isi "tuple") (.cons (.var 3) .nil))) (.or (.cmp .ne (.blt .len (.cons (.var 3) .nil)) (.cst (.int 2))) (.not (.blt (.isi "str") (.cons (.sub (.var 3) (.cst (.int 0))) .nil))))) (.cons (.ret (.cst (.bl false))) .nil) .nil) (.cons (.asg (.tg (.nm 4)) (.sub (.var 3) (.cst (.int 1)))) (.cons (.ifs (.or (.not (.blt (.isi "tuple") (.cons (.var 4) .nil))) (.or (.not (.var 4)) (.not (.conv .all false (.comp false [9] (.nm 9) (.ex (.var 4)) .nil (.and (.call 1 (.cons (.var 9) .nil)) (.cmp .isin (.var 9) (.var 5)))))))) (.cons (.ret (.cst (.bl false))) .nil) .nil) (.cons (.ifs (.cmp .eq (.sub (.var 3) (.cst (.int 0))) (.cst (.str (Str.ofString "way")))) (.cons (.asg (.tg (.nm 7)) (.comp false [9] (.nm 9) (.rng2 (.cst (.int 1)) (.blt .len (.cons (.var 4) .nil))) .nil (.tup (.cons (.blt .min2 (.cons (.sub (.var 4) (.bin .sub (.var 9) (.cst (.int 1)))) (.cons (.sub (.var 4) (.var 9)) .nil))) (.cons (.blt .max2 (.cons (.sub (.var 4) (.bin .sub (.var 9) (.cst (.int 1)))) (.cons (.sub (.var 4) (.var 9)) .nil))) .nil))))) (.cons (.ret (.and (.cmp .eq (.sub (.var 4) (.cst (.int 0))) (.var 1)) (.and (.cmp .eq (.sub (.var 4) (.neg (.cst (.int 1)))) (.var 2)) (.conv .all false (.comp false [10] (.nm 10) (.ex (.var 7)) .nil (.cmp .isin (.var 10) (.var 6))))))) .nil)) .nil) (.cons (.ifs (.or (.cmp .ne (.sub (.var 3) (.cst (.int 0))) (.cst (.str (Str.ofString "apart")))) (.or (.cmp .ne (.conv .list false (.var 4)) (.conv .sortedSet false (.var 4))) (.or (.cmp .notin (.var 1) (.var 4)) (.cmp .isin (.var 2) (.var 4))))) (.cons (.ret (.cst (.bl false))) .nil) .nil) (.cons (.ret (.not (.conv .any false (.comp false [11, 12] (.tp [(.nm 11), (.nm 12)]) (.ex (.var 6)) .nil (.cmp .ne (.cmp .isin (.var 11) (.var 4)) (.cmp .isin (.var 12) (.var 4))))))) .nil))))))), false⟩
def ck__law_is_way : Ck := ⟨["shape", "i", "j", "value", "row", "corners", "edges", "steps", "face", "k", "step", "a", "b"], [("_law_level", 2), ("_law_is_int", 1)], []⟩
theorem kf__law_is_way : kF ck__law_is_way if__law_is_way (topS 44) ["shape", "i", "j", "value"] = true := by decide +kernel
def if_law : IFun := ⟨1, 25, (.cons (.asg (.tg (.nm 1)) (.call 0 (.cons (.var 0) .nil))) (.cons (.asg (.tg (.nm 2)) (.call 1 (.cons (.var 1) .nil))) (.cons (.asg (.tg (.nm 3)) (.call 2 (.cons (.var 2) .nil))) (.cons (.par [(.tg (.nm 13)), (.tg (.nm 14))] (.cons (.comp false [4] (.nm 4) (.ex (.call 3 (.cons (.var 2) (.cons (.cst (.int 0)) .nil)))) .nil (.sub (.var 4) (.cst (.int 0)))) (.cons (.call 3 (.cons (.var 2) (.cons (.cst (.int 1)) .nil))) .nil))) (.cons (.asg (.tg (.nm 4)) (.sub (.var 3) (.call 4 (.cons (.var 1) (.cons (.blt .len (.cons (.var 3) .nil)) .nil))))) (.cons (.asg (.tg (.nm 5)) (.comp false [17] (.nm 17) (.ex (.var 3)) (.cons (.call 5 (.cons (.var 4) (.cons (.var 17) .nil))) .nil) (.var 17))) (.cons (.ifs (.not (.call 6 (.cons (.call 7 (.cons (.var 2) (.cons (.var 4) .nil))) (.cons (.call 8 (.cons (.var 5) .nil)) .nil)))) (.cons (.ret (.cst (.bl false))) .nil) .nil) (.cons (.asg (.tg (.nm 6)) (.comp false [17] (.nm 17) (.ex (.var 5)) .nil (.conv .tuple false (.comp false [23] (.nm 23) (.ex (.var 17)) (.cons (.cmp .notin (.var 23) (.var 4)) .nil) (.var 23))))) (.cons (.ifs (.not (.call 6 (.cons (.call 9 (.cons (.var 2) (.cons (.var 4) .nil))) (.cons (.call 8 (.cons (.comp false [17] (.nm 17) (.ex (.var 6)) (.cons (.var 17) .nil) (.var 17)) .nil)) .nil)))) (.cons (.ret (.cst (.bl false))) .nil) .nil) (.cons (.par [(.tg (.nm 15)), (.tg (.nm 16))] (.cons (.sub (.var 13) (.call 4 (.cons (.var 1) (.cons (.blt .len (.cons (.var 13) .nil)) .nil)))) (.cons (.call 4 (.cons (.var 1) (.cons (.cst (.int 4)) .nil))) .nil))) (.cons (.ifs (.not (.call 6 (.cons (.call 10 (.cons (.var 2) (.cons (.var 15) .nil))) (.cons (.call 8 (.cons (.comp false [17] (.nm 17) (.ex (.var 3)) (.cons (.cmp .notin (.var 15) (.var 17)) .nil) (.var 17)) .nil)) .nil)))) (.cons (.ret (.cst (.bl false))) .nil) .nil) (.cons (.ifs (.not (.call 6 (.cons (.call 11 (.cons (.var 2) (.cons (.var 16) .nil))) (.cons (.call 8 (.cons (.comp false [17] (.nm 17) (.ex (.var 3)) (.cons (.cmp .le (.blt .len (.cons (.var 17) .nil)) (.bin .add (.var 16) (.cst (.int 1)))) .nil) (.var 17)) .nil)) .nil)))) (.cons (.ret (.cst (.bl false))) .nil) .nil) (.cons (.asg (.tg (.nm 7)) (.lst true .nil)) (.cons (.for_ (.nm 8) (.rng1 (.cst (.int 2))) (.cons (.expr (.meth .lapp (.var 7) (.cons (.call 8 (.cons (.comp false [23] (.nm 23) (.rng1 (.bin .add (.cst (.int 1)) (.call 4 (.cons (.var 1) (.cons (.cst (.int 4)) .nil))))) .nil (.sub (.var 3) (.call 4 (.cons (.var 1) (.cons (.blt .len (.cons (.var 3) .nil)) .nil))))) .nil)) .nil))) .nil)) (.cons (.par [(.tg (.nm 17)), (.tg (.nm 18))] (.cons (.call 2 (.cons (.sub (.var 7) (.cst (.int 0))) .nil)) (.cons (.call 2 (.cons (.sub (.var 7) (.cst (.int 1))) .nil)) .nil))) (.cons (.ifs (.not (.call 6 (.cons (.call 12 (.cons (.sub (.var 7) (.cst (.int 0))) (.cons (.sub (.var 7) (.cst (.int 1))) .nil))) (.cons (.call 8 (.cons (.comp false [24] (.nm 24) (.ex (.var 17)) (.cons (.cmp .isin (.var 24) (.var 18)) .nil) (.var 24)) .nil)) .nil)))) (.cons (.ret (.cst (.bl false))) .nil) .nil) (.cons (.ifs (.not (.call 6 (.cons (.call 13 (.cons (.sub (.var 7) (.cst (.int 0))) (.cons (.sub (.var 7) (.cst (.int 1))) .nil))) (.cons (.call 8 (.cons (.bin .add (.var 17) (.var 18)) .nil)) .nil)))) (.cons (.ret (.cst (.bl false))) .nil) .nil) (.cons (.asg (.tg (.nm 9)) (.conv .sortedSet false (.comp false [24] (.nm 24) (.ex (.var 17)) (.cons (.cmp .eq (.blt .len (.cons (.var 24) .nil)) (.cst (.int 1))) .nil) (.sub (.var 24) (.cst (.int 0)))))) (.cons (.asg (.tg (.nm 10)) (.conv .tuple false (.conv .sorted false (.comp false [24] (.nm 24) (.ex (.sub (.var 7) (.cst (.int 0)))) .nil (.conv .tuple false (.comp false [23] (.nm 23) (.ex (.var 24)) .nil (.meth .lidx (.var 9) (.cons (.var 23) .nil)))))))) (.cons (.ifs (.not (.call 6 (.cons (.call 14 (.cons (.sub (.var 7) (.cst (.int 0))) .nil)) (.cons (.tup (.cons (.var 10) (.cons (.conv .tuple false (.var 9)) .nil))) .nil)))) (.cons (.ret (.cst (.bl false))) .nil) .nil) (.cons (.par [(.tg (.nm 19)), (.tg (.nm 20))] (.cons (.sub (.var 13) (.call 4 (.cons (.var 1) (.cons (.blt .len (.cons (.var 13) .nil)) .nil)))) (.cons (.sub (.var 13) (.call 4 (.cons (.var 1) (.cons (.blt .len (.cons (.var 13) .nil)) .nil)))) .nil))) (.cons (.asg (.tg (.nm 11)) (.call 15 (.cons (.var 2) (.cons (.var 19) (.cons (.var 20) .nil))))) (.cons (.ifs (.not (.call 6 (.cons (.var 11) (.cons (.call 16 (.cons (.var 14) (.cons (.var 19) (.cons (.var 20) .nil)))) .nil)))) (.cons (.ret (.cst (.bl false))) .nil) .nil) (.cons (.for_ (.nm 8) (.rng1 (.cst (.int 7))) (.cons (.asg (.tg (.nm 21)) (.call 17 (.cons (.var 1) (.cons (.var 11) (.cons (.var 8) .nil))))) (.cons (.asg (.tg (.nm 22)) (.call 18 (.cons (.var 2) (.cons (.var 19) (.cons (.var 20) (.cons (.var 21) .nil)))))) (.cons (.ifs (.or (.not (.blt (.isi "bool") (.cons (.var 22) .nil))) (.cmp .ne (.var 22) (.call 19 (.cons (.var 2) (.cons (.var 19) (.cons (.var 20) (.cons (.var 21) .nil))))))) (.cons (.ret (.cst (.bl false))) .nil) .nil) .nil)))) (.cons (.asg (.tg (.nm 12)) (.comp false [23] (.nm 23) (.ex (.var 13)) .nil (.sub (.call 16 (.cons (.var 14) (.cons (.var 23) (.cons (.cst (.int 99)) .nil)))) (.cst (.int 1))))) (.cons (.ret (.call 6 (.cons (.call 20 (.cons (.var 2) .nil)) (.cons (.conv .tuple false (.conv .sortedSet false (.var 12))) .nil)))) .nil)))))))))))))))))))))))))), false⟩
def ck_law : Ck := ⟨["script", "c", "shape", "faces", "face", "around", "rest", "parts", "turn", "own", "due", "paper", "comes", "corners", "edges", "corner", "d", "one", "two", "i", "j", "bent", "told", "k", "part"], [("_law_start", 1), ("_law_shape", 1), ("_law_faces", 1), ("_law_level", 2), ("_law_take", 2), ("_law_inside", 2), ("_law_alike", 2), ("star", 2), ("_law_greatest", 1), ("link", 2), ("without", 2), ("skeleton", 2), ("both_parts", 2), ("either_part", 2), ("made_of", 1), ("way_paper", 3), ("_law_way", 3), ("_law_bent", 3), ("judge_way", 4), ("_law_is_way", 4), ("parts_of", 1)], []⟩
theorem kf_law : kF ck_law if_law (topS 45) ["script"] = true := by decide +kernel
end K12
namespace K12
open PySem PySem.Spec PyProof.Rows L2 C8 HW
abbrev DefAt (K : PySem.W.Frag) (mg : Str → Option Value) (x : Str) (st : Stmt) (ps : List Str) : Prop := ∃ fa fd, C8.Def K mg x st fa fd ∧ L2.Binds K fd ps []
structure Top (K : PySem.W.Frag) (mg : Str → Option Value) : Prop where
  d_is_integer : DefAt K mg "is_integer" (topS 1) ["value"]
  d_is_face : DefAt K mg "is_face" (topS 2) ["value"]
  d_is_within : DefAt K mg "is_within" (topS 3) ["face", "other"]
  d_corners_of : DefAt K mg "corners_of" (topS 4) ["faces"]
  d_parts_of_face : DefAt K mg "parts_of_face" (topS 5) ["face"]
  d_all_faces : DefAt K mg "all_faces" (topS 6) ["greatest"]
  d_faces_of : DefAt K mg "faces_of" (topS 7) ["shape", "d"]
  d_greatest_of : DefAt K mg "greatest_of" (topS 8) ["faces"]
  d_star : DefAt K mg "star" (topS 10) ["shape", "face"]
  d_link : DefAt K mg "link" (topS 11) ["shape", "face"]
  d_without : DefAt K mg "without" (topS 12) ["shape", "corner"]
  d_skeleton : DefAt K mg "skeleton" (topS 13) ["shape", "d"]
  d_made_of : DefAt K mg "made_of" (topS 14) ["part"]
  d_both_parts : DefAt K mg "both_parts" (topS 15) ["first", "second"]
  d_either_part : DefAt K mg "either_part" (topS 16) ["first", "second"]
  d_neighbours : DefAt K mg "neighbours" (topS 17) ["shape"]
  d_ways_from : DefAt K mg "ways_from" (topS 18) ["shape", "i"]
  d_way_paper : DefAt K mg "way_paper" (topS 19) ["shape", "i", "j"]
  d_judge_way : DefAt K mg "judge_way" (topS 20) ["shape", "i", "j", "value"]
  d_parts_of : DefAt K mg "parts_of" (topS 21) ["shape"]
  d__law_start : DefAt K mg "_law_start" (topS 23) ["script"]
  d__law_fill : DefAt K mg "_law_fill" (topS 24) ["c"]
  d__law_take : DefAt K mg "_law_take" (topS 25) ["c", "many"]
  d__law_is_int : DefAt K mg "_law_is_int" (topS 26) ["value"]
  d__law_alike : DefAt K mg "_law_alike" (topS 27) ["value", "due"]
  d__law_spoilt : DefAt K mg "_law_spoilt" (topS 28) ["c", "value"]
  d__law_bent : DefAt K mg "_law_bent" (topS 29) ["c", "value", "turn"]
  d__law_parts_of : DefAt K mg "_law_parts_of" (topS 30) ["face"]
  d__law_faces : DefAt K mg "_law_faces" (topS 31) ["shape"]
  d__law_level : DefAt K mg "_law_level" (topS 32) ["shape", "d"]
  d__law_inside : DefAt K mg "_law_inside" (topS 33) ["one", "two"]
  d__law_greatest : DefAt K mg "_law_greatest" (topS 34) ["faces"]
  d__law_plane : DefAt K mg "_law_plane" (topS 35) []
  d__law_shape : DefAt K mg "_law_shape" (topS 36) ["c"]
  d__law_way : DefAt K mg "_law_way" (topS 43) ["edges", "i", "j"]
  d__law_is_way : DefAt K mg "_law_is_way" (topS 44) ["shape", "i", "j", "value"]
  d_law : DefAt K mg "law" (topS 45) ["script"]
  b : ∀ x ∈ bltNm, mg x = none
section
variable {P : Program} {w : World} {K : PySem.W.Frag} {mg : Str → Option Value} {base : Heap}
def s_is_integer : Sem := runFn if_is_integer []
theorem c_is_integer (T : Top K mg) : Cal P w K mg base 1 "is_integer" (spS ⟨P, w, K⟩ 1 s_is_integer) [] := cal_def (G := ck_is_integer) T.d_is_integer T.b .nil .nil kf_is_integer
def s_is_face : Sem := runFn if_is_face [s_is_integer]
theorem c_is_face (T : Top K mg) : Cal P w K mg base 2 "is_face" (spS ⟨P, w, K⟩ 1 s_is_face) [] := cal_def (G := ck_is_face) T.d_is_face T.b (.cons ⟨_, (by decide), (c_is_integer T)⟩ .nil) .nil kf_is_face
def s_is_within : Sem := runFn if_is_within []
theorem c_is_within (T : Top K mg) : Cal P w K mg base 1 "is_within" (spS ⟨P, w, K⟩ 2 s_is_within) [] := cal_def (G := ck_is_within) T.d_is_within T.b .nil .nil kf_is_within
def s_corners_of : Sem := runFn if_corners_of []
theorem c_corners_of (T : Top K mg) : Cal P w K mg base 1 "corners_of" (spS ⟨P, w, K⟩ 1 s_corners_of) [] := cal_def (G := ck_corners_of) T.d_corners_of T.b .nil .nil kf_corners_of
def s_parts_of_face : Sem := runFn if_parts_of_face []
theorem c_parts_of_face (T : Top K mg) : Cal P w K mg base 1 "parts_of_face" (spS ⟨P, w, K⟩ 1 s_parts_of_face) [] := cal_def (G := ck_parts_of_face) T.d_parts_of_face T.b .nil .nil kf_parts_of_face
def s_all_faces : Sem := runFn if_all_faces [s_parts_of_face]
theorem c_all_faces (T : Top K mg) : Cal P w K mg base 2 "all_faces" (spS ⟨P, w, K⟩ 1 s_all_faces) [] := cal_def (G := ck_all_faces) T.d_all_faces T.b (.cons ⟨_, (by decide), (c_parts_of_face T)⟩ .nil) .nil kf_all_faces
def s_faces_of : Sem := runFn if_faces_of [s_all_faces]
theorem c_faces_of (T : Top K mg) : Cal P w K mg base 3 "faces_of" (spS ⟨P, w, K⟩ 2 s_faces_of) [] := cal_def (G := ck_faces_of) T.d_faces_of T.b (.cons ⟨_, (by decide), (c_all_faces T)⟩ .nil) .nil kf_faces_of
def s_greatest_of : Sem := runFn if_greatest_of [s_parts_of_face]
theorem c_greatest_of (T : Top K mg) : Cal P w K mg base 2 "greatest_of" (spS ⟨P, w, K⟩ 1 s_greatest_of) [] := cal_def (G := ck_greatest_of) T.d_greatest_of T.b (.cons ⟨_, (by decide), (c_parts_of_face T)⟩ .nil) .nil kf_greatest_of
def s_star : Sem := runFn if_star [s_is_within]
theorem c_star (T : Top K mg) : Cal P w K mg base 2 "star" (spS ⟨P, w, K⟩ 2 s_star) [] := cal_def (G := ck_star) T.d_star T.b (.cons ⟨_, (by decide), (c_is_within T)⟩ .nil) .nil kf_star
def s_link : Sem := runFn if_link [s_star, s_greatest_of]
theorem c_link (T : Top K mg) : Cal P w K mg base 3 "link" (spS ⟨P, w, K⟩ 2 s_link) [] := cal_def (G := ck_link) T.d_link T.b (.cons ⟨_, (by decide), (c_star T)⟩ (.cons ⟨_, (by decide), (c_greatest_of T)⟩ .nil)) .nil kf_link
def s_without : Sem := runFn if_without [s_greatest_of, s_all_faces]
theorem c_without (T : Top K mg) : Cal P w K mg base 3 "without" (spS ⟨P, w, K⟩ 2 s_without) [] := cal_def (G := ck_without) T.d_without T.b (.cons ⟨_, (by decide), (c_greatest_of T)⟩ (.cons ⟨_, (by decide), (c_all_faces T)⟩ .nil)) .nil kf_without
def s_skeleton : Sem := runFn if_skeleton [s_greatest_of, s_all_faces]
theorem c_skeleton (T : Top K mg) : Cal P w K mg base 3 "skeleton" (spS ⟨P, w, K⟩ 2 s_skeleton) [] := cal_def (G := ck_skeleton) T.d_skeleton T.b (.cons ⟨_, (by decide), (c_greatest_of T)⟩ (.cons ⟨_, (by decide), (c_all_faces T)⟩ .nil)) .nil kf_skeleton
def s_made_of : Sem := runFn if_made_of [s_corners_of]
theorem c_made_of (T : Top K mg) : Cal P w K mg base 2 "made_of" (spS ⟨P, w, K⟩ 1 s_made_of) [] := cal_def (G := ck_made_of) T.d_made_of T.b (.cons ⟨_, (by decide), (c_corners_of T)⟩ .nil) .nil kf_made_of
def s_both_parts : Sem := runFn if_both_parts [s_all_faces, s_greatest_of]
theorem c_both_parts (T : Top K mg) : Cal P w K mg base 3 "both_parts" (spS ⟨P, w, K⟩ 2 s_both_parts) [] := cal_def (G := ck_both_parts) T.d_both_parts T.b (.cons ⟨_, (by decide), (c_all_faces T)⟩ (.cons ⟨_, (by decide), (c_greatest_of T)⟩ .nil)) .nil kf_both_parts
def s_either_part : Sem := runFn if_either_part [s_greatest_of]
theorem c_either_part (T : Top K mg) : Cal P w K mg base 3 "either_part" (spS ⟨P, w, K⟩ 2 s_either_part) [] := cal_def (G := ck_either_part) T.d_either_part T.b (.cons ⟨_, (by decide), (c_greatest_of T)⟩ .nil) .nil kf_either_part
def s_neighbours : Sem := runFn if_neighbours [s_corners_of, s_faces_of]
theorem c_neighbours (T : Top K mg) : Cal P w K mg base 4 "neighbours" (spS ⟨P, w, K⟩ 1 s_neighbours) [] := cal_def (G := ck_neighbours) T.d_neighbours T.b (.cons ⟨_, (by decide), (c_corners_of T)⟩ (.cons ⟨_, (by decide), (c_faces_of T)⟩ .nil)) .nil kf_neighbours
def s_ways_from : Sem := runFn if_ways_from [s_neighbours]
theorem c_ways_from (T : Top K mg) : Cal P w K mg base 5 "ways_from" (spS ⟨P, w, K⟩ 2 s_ways_from) [] := cal_def (G := ck_ways_from) T.d_ways_from T.b (.cons ⟨_, (by decide), (c_neighbours T)⟩ .nil) .nil kf_ways_from
def s_way_paper : Sem := runFn if_way_paper [s_ways_from]
theorem c_way_paper (T : Top K mg) : Cal P w K mg base 6 "way_paper" (spS ⟨P, w, K⟩ 3 s_way_paper) [] := cal_def (G := ck_way_paper) T.d_way_paper T.b (.cons ⟨_, (by decide), (c_ways_from T)⟩ .nil) .nil kf_way_paper
def s_judge_way : Sem := runFn if_judge_way [s_is_integer, s_neighbours, s_is_face]
theorem c_judge_way (T : Top K mg) : Cal P w K mg base 5 "judge_way" (spS ⟨P, w, K⟩ 4 s_judge_way) [] := cal_def (G := ck_judge_way) T.d_judge_way T.b (.cons ⟨_, (by decide), (c_is_integer T)⟩ (.cons ⟨_, (by decide), (c_neighbours T)⟩ (.cons ⟨_, (by decide), (c_is_face T)⟩ .nil))) .nil kf_judge_way
def s_parts_of : Sem := runFn if_parts_of [s_corners_of, s_ways_from]
theorem c_parts_of (T : Top K mg) : Cal P w K mg base 6 "parts_of" (spS ⟨P, w, K⟩ 1 s_parts_of) [] := cal_def (G := ck_parts_of) T.d_parts_of T.b (.cons ⟨_, (by decide), (c_corners_of T)⟩ (.cons ⟨_, (by decide), (c_ways_from T)⟩ .nil)) .nil kf_parts_of
def s__law_start : Sem := runFn if__law_start []
theorem c__law_start (T : Top K mg) : Cal P w K mg base 1 "_law_start" (spS ⟨P, w, K⟩ 1 s__law_start) [] := cal_def (G := ck__law_start) T.d__law_start T.b .nil .nil kf__law_start
def s__law_fill : Sem := runFn if__law_fill []
theorem c__law_fill (T : Top K mg) : Cal P w K mg base 1 "_law_fill" (spS ⟨P, w, K⟩ 1 s__law_fill) [] := cal_def (G := ck__law_fill) T.d__law_fill T.b .nil .nil kf__law_fill
def s__law_take : Sem := runFn if__law_take [s__law_fill]
theorem c__law_take (T : Top K mg) : Cal P w K mg base 2 "_law_take" (spS ⟨P, w, K⟩ 2 s__law_take) [] := cal_def (G := ck__law_take) T.d__law_take T.b (.cons ⟨_, (by decide), (c__law_fill T)⟩ .nil) .nil kf__law_take
def s__law_is_int : Sem := runFn if__law_is_int []
theorem c__law_is_int (T : Top K mg) : Cal P w K mg base 1 "_law_is_int" (spS ⟨P, w, K⟩ 1 s__law_is_int) [] := cal_def (G := ck__law_is_int) T.d__law_is_int T.b .nil .nil kf__law_is_int
def r__law_alike : Nat → Sem | 0 => fun _ _ => .bad | n + 1 => runFn if__law_alike [r__law_alike n]
def s__law_alike : Sem := r__law_alike 6
theorem cr__law_alike (T : Top K mg) : ∀ n, Cal P w K mg base (0 + n + 1) "_law_alike" (spS ⟨P, w, K⟩ 2 (r__law_alike n)) []
  | 0 => cal_bad (N := ck__law_alike.N) T.d__law_alike (by decide +kernel)
  | n + 1 => cal_def (G := ck__law_alike) T.d__law_alike T.b (.cons ⟨_, (by omega), (cr__law_alike T n)⟩ .nil) .nil kf__law_alike
theorem c__law_alike (T : Top K mg) : Cal P w K mg base 7 "_law_alike" (spS ⟨P, w, K⟩ 2 s__law_alike) [] := cr__law_alike T 6
def r__law_spoilt : Nat → Sem | 0 => fun _ _ => .bad | n + 1 => runFn if__law_spoilt [s__law_take, r__law_spoilt n]
def s__law_spoilt : Sem := r__law_spoilt 6
theorem cr__law_spoilt (T : Top K mg) : ∀ n, Cal P w K mg base (2 + n + 1) "_law_spoilt" (spS ⟨P, w, K⟩ 2 (r__law_spoilt n)) []
  | 0 => cal_bad (N := ck__law_spoilt.N) T.d__law_spoilt (by decide +kernel)
  | n + 1 => cal_def (G := ck__law_spoilt) T.d__law_spoilt T.b (.cons ⟨_, (by omega), (c__law_take T)⟩ (.cons ⟨_, (by omega), (cr__law_spoilt T n)⟩ .nil)) .nil kf__law_spoilt
theorem c__law_spoilt (T : Top K mg) : Cal P w K mg base 9 "_law_spoilt" (spS ⟨P, w, K⟩ 2 s__law_spoilt) [] := cr__law_spoilt T 6
def s__law_bent : Sem := runFn if__law_bent [s__law_take, s__law_spoilt]
theorem c__law_bent (T : Top K mg) : Cal P w K mg base 10 "_law_bent" (spS ⟨P, w, K⟩ 3 s__law_bent) [] := cal_def (G := ck__law_bent) T.d__law_bent T.b (.cons ⟨_, (by decide), (c__law_take T)⟩ (.cons ⟨_, (by decide), (c__law_spoilt T)⟩ .nil)) .nil kf__law_bent
def s__law_parts_of : Sem := runFn if__law_parts_of []
theorem c__law_parts_of (T : Top K mg) : Cal P w K mg base 1 "_law_parts_of" (spS ⟨P, w, K⟩ 1 s__law_parts_of) [] := cal_def (G := ck__law_parts_of) T.d__law_parts_of T.b .nil .nil kf__law_parts_of
def s__law_faces : Sem := runFn if__law_faces [s__law_parts_of]
theorem c__law_faces (T : Top K mg) : Cal P w K mg base 2 "_law_faces" (spS ⟨P, w, K⟩ 1 s__law_faces) [] := cal_def (G := ck__law_faces) T.d__law_faces T.b (.cons ⟨_, (by decide), (c__law_parts_of T)⟩ .nil) .nil kf__law_faces
def s__law_level : Sem := runFn if__law_level [s__law_faces]
theorem c__law_level (T : Top K mg) : Cal P w K mg base 3 "_law_level" (spS ⟨P, w, K⟩ 2 s__law_level) [] := cal_def (G := ck__law_level) T.d__law_level T.b (.cons ⟨_, (by decide), (c__law_faces T)⟩ .nil) .nil kf__law_level
def s__law_inside : Sem := runFn if__law_inside []
theorem c__law_inside (T : Top K mg) : Cal P w K mg base 1 "_law_inside" (spS ⟨P, w, K⟩ 2 s__law_inside) [] := cal_def (G := ck__law_inside) T.d__law_inside T.b .nil .nil kf__law_inside
def s__law_greatest : Sem := runFn if__law_greatest [s__law_inside]
theorem c__law_greatest (T : Top K mg) : Cal P w K mg base 2 "_law_greatest" (spS ⟨P, w, K⟩ 1 s__law_greatest) [] := cal_def (G := ck__law_greatest) T.d__law_greatest T.b (.cons ⟨_, (by decide), (c__law_inside T)⟩ .nil) .nil kf__law_greatest
def s__law_plane : Sem := runFn if__law_plane []
theorem c__law_plane (T : Top K mg) : Cal P w K mg base 1 "_law_plane" (spS ⟨P, w, K⟩ 0 s__law_plane) [] := cal_def (G := ck__law_plane) T.d__law_plane T.b .nil .nil kf__law_plane
def s__law_shape : Sem := runFn if__law_shape [s__law_take, s__law_plane, s__law_parts_of, s__law_greatest]
theorem c__law_shape (T : Top K mg) : Cal P w K mg base 3 "_law_shape" (spS ⟨P, w, K⟩ 1 s__law_shape) [] := cal_def (G := ck__law_shape) T.d__law_shape T.b (.cons ⟨_, (by decide), (c__law_take T)⟩ (.cons ⟨_, (by decide), (c__law_plane T)⟩ (.cons ⟨_, (by decide), (c__law_parts_of T)⟩ (.cons ⟨_, (by decide), (c__law_greatest T)⟩ .nil)))) .nil kf__law_shape
def s__law_way : Sem := runFn if__law_way []
theorem c__law_way (T : Top K mg) : Cal P w K mg base 1 "_law_way" (spS ⟨P, w, K⟩ 3 s__law_way) [] := cal_def (G := ck__law_way) T.d__law_way T.b .nil .nil kf__law_way
def s__law_is_way : Sem := runFn if__law_is_way [s__law_level, s__law_is_int]
theorem c__law_is_way (T : Top K mg) : Cal P w K mg base 4 "_law_is_way" (spS ⟨P, w, K⟩ 4 s__law_is_way) [] := cal_def (G := ck__law_is_way) T.d__law_is_way T.b (.cons ⟨_, (by decide), (c__law_level T)⟩ (.cons ⟨_, (by decide), (c__law_is_int T)⟩ .nil)) .nil kf__law_is_way
def s_law : Sem := runFn if_law [s__law_start, s__law_shape, s__law_faces, s__law_level, s__law_take, s__law_inside, s__law_alike, s_star, s__law_greatest, s_link, s_without, s_skeleton, s_both_parts, s_either_part, s_made_of, s_way_paper, s__law_way, s__law_bent, s_judge_way, s__law_is_way, s_parts_of]
theorem c_law (T : Top K mg) : Cal P w K mg base 11 "law" (spS ⟨P, w, K⟩ 1 s_law) [] := cal_def (G := ck_law) T.d_law T.b (.cons ⟨_, (by decide), (c__law_start T)⟩ (.cons ⟨_, (by decide), (c__law_shape T)⟩ (.cons ⟨_, (by decide), (c__law_faces T)⟩ (.cons ⟨_, (by decide), (c__law_level T)⟩ (.cons ⟨_, (by decide), (c__law_take T)⟩ (.cons ⟨_, (by decide), (c__law_inside T)⟩ (.cons ⟨_, (by decide), (c__law_alike T)⟩ (.cons ⟨_, (by decide), (c_star T)⟩ (.cons ⟨_, (by decide), (c__law_greatest T)⟩ (.cons ⟨_, (by decide), (c_link T)⟩ (.cons ⟨_, (by decide), (c_without T)⟩ (.cons ⟨_, (by decide), (c_skeleton T)⟩ (.cons ⟨_, (by decide), (c_both_parts T)⟩ (.cons ⟨_, (by decide), (c_either_part T)⟩ (.cons ⟨_, (by decide), (c_made_of T)⟩ (.cons ⟨_, (by decide), (c_way_paper T)⟩ (.cons ⟨_, (by decide), (c__law_way T)⟩ (.cons ⟨_, (by decide), (c__law_bent T)⟩ (.cons ⟨_, (by decide), (c_judge_way T)⟩ (.cons ⟨_, (by decide), (c__law_is_way T)⟩ (.cons ⟨_, (by decide), (c_parts_of T)⟩ .nil))))))))))))))))))))) .nil kf_law
end
-- levels {'is_integer': 1, 'is_face': 2, 'is_within': 1, 'corners_of': 1, 'parts_of_face': 1, 'all_faces': 2, 'faces_of': 3, 'greatest_of': 2, 'star': 2, 'link': 3, 'without': 3, 'skeleton': 3, 'made_of': 2, 'both_parts': 3, 'either_part': 3, 'neighbours': 4, 'ways_from': 5, 'way_paper': 6, 'judge_way': 5, 'parts_of': 6, '_law_start': 1, '_law_fill': 1, '_law_take': 2, '_law_is_int': 1, '_law_alike': 7, '_law_spoilt': 9, '_law_bent': 10, '_law_parts_of': 1, '_law_faces': 2, '_law_level': 3, '_law_inside': 1, '_law_greatest': 2, '_law_plane': 1, '_law_shape': 3, '_law_way': 1, '_law_is_way': 4, 'law': 11}
end K12
namespace K12
open PySem HW
/-- the number box's cell *)-/
def box (ns : List Int) (i left k : Int) : Cell := .lst [.lst (ns.map .int), .int i, .int left, .int k, .int 20]
theorem compGo_ints {ctx : List Sem} {h : PHeap} {tg : PV → HW.Env → Option HW.Env} {env : HW.Env} {elt : HW.Env → PHeap → R PV} (f : Int → PV) (ht : ∀ i, ∃ e1, tg (.int i) env = some e1 ∧ elt e1 h = .ok (f i) h) : ∀ (ns : List Int) (acc : List PV), acc.length + ns.length < LIM →
    compGo (fun _ => true) tg (fun _ h => .ok true h) elt env (ns.map .int) h acc = .ok (acc ++ ns.map f) h
  | [], acc, _ => by simp [compGo]
  | i :: ns, acc, hl => by
    obtain ⟨e1, q1, q2⟩ := ht i
    simp only [List.length_cons] at hl
    have := compGo_ints (ctx := ctx) f ht ns (acc ++ [f i]) (by simp; omega)
    simp only [List.map_cons, compGo, if_true, q1, R.bind_ok, q2]
    rw [if_pos (by omega), this]
    simp
theorem start_ev (ns : List Int) (hl : ns.length ≤ 63) : s__law_start [.scr ns] [] = .ok (.ref 0) [box ns 0 0 0] := by
  have e : sliceOf ([] : PHeap) (.scr ns) none (some 63) = some (.lst (ns.map .int)) := by
    show some (PV.lst (cut _ _ _)) = _
    rw [cut_whole _ _ _ rfl (by simp [HT.sIx]; omega)]
  have hc := compGo_ints (ctx := []) (h := []) (tg := tgSet (.nm 1)) (env := [some (PV.scr ns), none]) (elt := fun (x : HW.Env) x_1 => dE [] (.blt .int (.cons (.var 1) .nil)) x x_1) PV.int (fun i => ⟨_, rfl, by simp [dE, dEs, bltop, bInt]⟩) ns [] (by simp [LIM]; omega)
  simp [s__law_start, runFn, if__law_start, dSs, dS, dE, dEs, dI, lockI, lockE, withLock, dO, intOf, e, walkSrc, mkList, HW.finish, wipeE, dIfs]
  simp [dE, dEs] at hc
  rw [hc]
  simp [box]
theorem belows_ints (n : Nat) : ∀ ns : List Int, belows n (ns.map .int) = true
  | [] => rfl
  | i :: ns => by simp [belows, below, belows_ints n ns]
theorem finish_box {ns : List Int} {i left k i' left' k' : Int} {t : PHeap} {v : PV} (hv : ∀ n, below n v = true) : HW.finish false (box ns i left k :: t) v (box ns i' left' k' :: t) = .ok v (box ns i' left' k' :: t) := by
  have h1 : okOuter (box ns i left k :: t) (box ns i' left' k' :: t) = true := by
    simp only [okOuter, List.all_eq_true, List.mem_range, Bool.or_eq_true, decide_eq_true_eq]
    intro m hm
    cases m with
    | zero => exact .inr (by simp [box, belowC, belows, below, belows_ints])
    | succ m => exact .inl (by simp)
  have h2 : frz (box ns i' left' k' :: t) (box ns i left k :: t).length 12 v = some v := by
    unfold frz
    rw [if_pos (hv _)]
  unfold HW.finish
  rw [h1, h2]
  simp
/-! steps, as rewriting rules -/
section
variable {h : PHeap} {a b : Int}
theorem ev_add : binop .add (.int a) (.int b) h = some (.int (a + b)) := rfl
theorem ev_sub : binop .sub (.int a) (.int b) h = some (.int (a - b)) := rfl
theorem ev_mul (q : small a || small b) : binop .mul (.int a) (.int b) h = some (.int (a * b)) := by
  show (if _ then _ else _) = _
  rw [if_pos q]
theorem ev_mr (q : small b = true) : binop .mul (.int a) (.int b) h = some (.int (a * b)) := ev_mul (by simp [q])
theorem sm1 : small 69621 = true := by decide
theorem sm2 : small 48271 = true := by decide
theorem sm3 : small 7919 = true := by decide
theorem ev_f64 : binop .fdiv (.int a) (.int 64) h = some (.int (a.fdiv 64)) := rfl
theorem ev_m1 : binop .mod (.int a) (.int 1000003) h = some (.int (a.fmod 1000003)) := rfl
theorem ev_m2 : binop .mod (.int a) (.int 2147483647) h = some (.int (a.fmod 2147483647)) := rfl
theorem small_mod : small (a.fmod 2147483647) = true := by
  have h1 := Int.fmod_nonneg_of_pos a (b := 2147483647) (by decide)
  have h2 := Int.fmod_lt_of_pos a (b := 2147483647) (by decide)
  simp only [small, decide_eq_true_eq]
  omega
theorem ev_fdiv (q : b ≠ 0) (q2 : b.natAbs < 1073741824) : binop .fdiv (.int a) (.int b) h = some (.int (a.fdiv b)) := by
  show (if _ then _ else _) = _
  rw [if_pos ⟨q, q2⟩]
theorem ev_mod (q : b ≠ 0) : binop .mod (.int a) (.int b) h = some (.int (a.fmod b)) := by
  show (if _ then _ else _) = _
  rw [if_pos q]
theorem ev_lt : cmpop .lt (.int a) (.int b) h = some (decide (a < b)) := rfl
theorem ev_gt : cmpop .gt (.int a) (.int b) h = some (decide (b < a)) := rfl
theorem ev_le : cmpop .le (.int a) (.int b) h = some (decide (a ≤ b)) := rfl
theorem ev_ge : cmpop .ge (.int a) (.int b) h = some (decide (b ≤ a)) := rfl
theorem ev_bl {c : Bool} : tru h (.bl c) = some c := rfl
theorem ev_lst {xs : List PV} : itemOf h (.lst xs) (.int a) = L2.atI xs a := rfl
theorem ev_tup {xs : List PV} : itemOf h (.tup xs) (.int a) = L2.atI xs a := rfl
theorem ev_trl {xs : List PV} : tru h (.lst xs) = some (!xs.isEmpty) := rfl
theorem ev_trt {xs : List PV} : tru h (.tup xs) = some (!xs.isEmpty) := rfl
theorem ev_ll {xs : List PV} : bltop .len [.lst xs] h = some (.int xs.length) := rfl
theorem ev_lt' {xs : List PV} : bltop .len [.tup xs] h = some (.int xs.length) := rfl
theorem ev_int : bltop .int [.int a] h = some (.int a) := rfl
theorem ev_pow : binop .pow (.int 10) (.int 18) h = some (.int 1000000000000000000) := rfl
end
section
variable {ns : List Int} {i left k : Int} {t : PHeap}
theorem it0 : itemOf (box ns i left k :: t) (.ref 0) (.int 0) = some (.lst (ns.map .int)) := rfl
theorem it1 : itemOf (box ns i left k :: t) (.ref 0) (.int 1) = some (.int i) := rfl
theorem it2 : itemOf (box ns i left k :: t) (.ref 0) (.int 2) = some (.int left) := rfl
theorem it3 : itemOf (box ns i left k :: t) (.ref 0) (.int 3) = some (.int k) := rfl
theorem pt1 {z : Int} : putItem (box ns i left k :: t) (.ref 0) (.int 1) (.int z) = some (box ns z left k :: t) := rfl
theorem pt2 {z : Int} : putItem (box ns i left k :: t) (.ref 0) (.int 2) (.int z) = some (box ns i z k :: t) := rfl
theorem pt3 {z : Int} : putItem (box ns i left k :: t) (.ref 0) (.int 3) (.int z) = some (box ns i left z :: t) := rfl
/-- a take from 0 ≤ .. : what is left after many digits; the digit lies below many -/
theorem take_ev {many : Int} (hm : 1 ≤ many) (hm2 : many < 1073741824) (h : many ≤ left) : s__law_take [.ref 0, .int many] (box ns i left k :: t) = .ok (.int (left.fmod many)) (box ns i (left.fdiv many) k :: t) := by
  have n : ¬ left < many := by omega
  have z : many ≠ 0 := by omega
  have zz : many.natAbs < 1073741824 := by omega
  simp [s__law_take, runFn, if__law_take, dSs, dS, dE, dEs, dT, dTg, it2, pt2, cmpop, pyOrd, n, tru, bltop, bInt, binop, z, zz, tgSet]
  exact finish_box fun _ => by simp [below]
theorem atI_ints {ns : List Int} {j : Int} (h0 : 0 ≤ j) (h1 : j < ns.length) : ∃ z, L2.atI (ns.map PV.int) j = some (.int z) := by
  obtain ⟨n, rfl⟩ : ∃ n : Nat, j = n := ⟨j.toNat, by omega⟩
  have hn : n < ns.length := by omega
  exact ⟨ns[n], L2.atI_nat (by simp [hn])⟩
theorem v_pos {n k : Int} (hk : 0 ≤ k) : 0 ≤ (n.fmod 2147483647 * n.fmod 2147483647 + k * 7919 + 11).fdiv 64 + 36028797018963968 := by
  have h1 := Int.fmod_nonneg_of_pos n (b := 2147483647) (by decide)
  have h3 : 0 ≤ n.fmod 2147483647 * n.fmod 2147483647 := Int.mul_nonneg h1 h1
  have := Int.fdiv_nonneg (a := n.fmod 2147483647 * n.fmod 2147483647 + k * 7919 + 11) (b := 64) (by omega) (by decide)
  omega
theorem fill_ev (h0 : 0 ≤ i) (h1 : i ≤ ns.length) (hk : 0 ≤ k) : ∃ v i' : Int, 0 ≤ v ∧ 0 ≤ i' ∧ i' ≤ ns.length ∧ s__law_fill [.ref 0] (box ns i left k :: t) = .ok (.int v) (box ns i' left (k + 1) :: t) := by
  by_cases hi : i < ns.length
  · obtain ⟨z, hz⟩ := atI_ints h0 hi
    have hn : ns ≠ [] := by
      intro q
      subst q
      simp at hi
      omega
    obtain ⟨l, hl⟩ : ∃ z, L2.atI (ns.map PV.int) (-1) = some (.int z) := by
      have e : ns.map PV.int = ns.dropLast.map PV.int ++ [.int (ns.getLast hn)] := by
        rw [← List.map_singleton, ← List.map_append, List.dropLast_concat_getLast]
      exact ⟨_, by rw [e]; exact L2.atI_last _ _⟩
    by_cases hz0 : z < 0
    · by_cases hb : 1000000000000000000 ≤ -1 - z
      · refine ⟨?w11, i + 1, ?h11, by omega, by omega, ?e11⟩
        case e11 =>
          simp [s__law_fill, runFn, if__law_fill, dSs, dS, dE, dEs, dT, dTg, it0, it1, it3, pt3, pt1, tgSet, hi, hn, hz, hl, hz0, hb, intOf, ev_add, ev_sub, ev_lt, ev_le, ev_ge, ev_gt, ev_bl, ev_lst, ev_trl, ev_ll, ev_int, ev_pow, ev_mr, sm1, sm2, sm3, ev_f64, ev_m1, ev_m2, small_mod]
          exact finish_box (v := .int _) fun _ => rfl
        omega
      · by_cases he : (ns.length : Int) ≤ i + 1
        · refine ⟨?w12, i + 1, ?h12, by omega, by omega, ?e12⟩
          case e12 =>
            simp [s__law_fill, runFn, if__law_fill, dSs, dS, dE, dEs, dT, dTg, it0, it1, it3, pt3, pt1, tgSet, hi, hn, hz, hl, hz0, hb, he, intOf, ev_add, ev_sub, ev_lt, ev_le, ev_ge, ev_gt, ev_bl, ev_lst, ev_trl, ev_ll, ev_int, ev_pow, ev_mr, sm1, sm2, sm3, ev_f64, ev_m1, ev_m2, small_mod]
            exact finish_box (v := .int _) fun _ => rfl
          exact v_pos (by omega)
        · refine ⟨?w13, i + 1, ?h13, by omega, by omega, ?e13⟩
          case e13 =>
            simp [s__law_fill, runFn, if__law_fill, dSs, dS, dE, dEs, dT, dTg, it0, it1, it3, pt3, pt1, tgSet, hi, hn, hz, hl, hz0, hb, he, intOf, ev_add, ev_sub, ev_lt, ev_le, ev_ge, ev_gt, ev_bl, ev_lst, ev_trl, ev_ll, ev_int, ev_pow, ev_mr, sm1, sm2, sm3, ev_f64, ev_m1, ev_m2, small_mod]
            exact finish_box (v := .int _) fun _ => rfl
          exact v_pos (by omega)
    · by_cases hb : 1000000000000000000 ≤ z
      · refine ⟨?w14, i + 1, ?h14, by omega, by omega, ?e14⟩
        case e14 =>
          simp [s__law_fill, runFn, if__law_fill, dSs, dS, dE, dEs, dT, dTg, it0, it1, it3, pt3, pt1, tgSet, hi, hn, hz, hl, hz0, hb, intOf, ev_add, ev_sub, ev_lt, ev_le, ev_ge, ev_gt, ev_bl, ev_lst, ev_trl, ev_ll, ev_int, ev_pow, ev_mr, sm1, sm2, sm3, ev_f64, ev_m1, ev_m2, small_mod]
          exact finish_box (v := .int _) fun _ => rfl
        omega
      · by_cases he : (ns.length : Int) ≤ i + 1
        · refine ⟨?w15, i + 1, ?h15, by omega, by omega, ?e15⟩
          case e15 =>
            simp [s__law_fill, runFn, if__law_fill, dSs, dS, dE, dEs, dT, dTg, it0, it1, it3, pt3, pt1, tgSet, hi, hn, hz, hl, hz0, hb, he, intOf, ev_add, ev_sub, ev_lt, ev_le, ev_ge, ev_gt, ev_bl, ev_lst, ev_trl, ev_ll, ev_int, ev_pow, ev_mr, sm1, sm2, sm3, ev_f64, ev_m1, ev_m2, small_mod]
            exact finish_box (v := .int _) fun _ => rfl
          exact v_pos (by omega)
        · refine ⟨?w16, i + 1, ?h16, by omega, by omega, ?e16⟩
          case e16 =>
            simp [s__law_fill, runFn, if__law_fill, dSs, dS, dE, dEs, dT, dTg, it0, it1, it3, pt3, pt1, tgSet, hi, hn, hz, hl, hz0, hb, he, intOf, ev_add, ev_sub, ev_lt, ev_le, ev_ge, ev_gt, ev_bl, ev_lst, ev_trl, ev_ll, ev_int, ev_pow, ev_mr, sm1, sm2, sm3, ev_f64, ev_m1, ev_m2, small_mod]
            exact finish_box (v := .int _) fun _ => rfl
          exact v_pos (by omega)
  · have hi2 : ns.length ≤ i := by omega
    by_cases hn : ns = []
    · subst hn
      have hz : ¬ i < 0 := by omega
      refine ⟨?w, i, ?h, h0, h1, ?e⟩
      case e =>
        simp [s__law_fill, runFn, if__law_fill, dSs, dS, dE, dEs, dT, dTg, it0, it1, it3, pt3, pt1, tgSet, hi, hz, intOf, ev_add, ev_sub, ev_lt, ev_le, ev_ge, ev_gt, ev_bl, ev_lst, ev_trl, ev_ll, ev_int, ev_pow, ev_mr, sm1, sm2, sm3, ev_f64, ev_m1, ev_m2, small_mod]
        exact finish_box (v := .int _) fun _ => rfl
      exact v_pos (by omega)
    · obtain ⟨z, hz⟩ : ∃ z, L2.atI (ns.map PV.int) (-1) = some (.int z) := by
        have e : ns.map PV.int = ns.dropLast.map PV.int ++ [.int (ns.getLast hn)] := by
          rw [← List.map_singleton, ← List.map_append, List.dropLast_concat_getLast]
        exact ⟨_, by rw [e]; exact L2.atI_last _ _⟩
      refine ⟨?w2, i, ?h2, h0, h1, ?e2⟩
      case e2 =>
        simp [s__law_fill, runFn, if__law_fill, dSs, dS, dE, dEs, dT, dTg, it0, it1, it3, pt3, pt1, tgSet, hi, hi2, hn, hz, intOf, ev_add, ev_sub, ev_lt, ev_le, ev_ge, ev_gt, ev_bl, ev_lst, ev_trl, ev_ll, ev_int, ev_pow, ev_mr, sm1, sm2, sm3, ev_f64, ev_m1, ev_m2, small_mod]
        exact finish_box (v := .int _) fun _ => rfl
      exact v_pos (by omega)
/-- a digit: only its bounds matter *)-/
theorem take_any {many : Int} (h0 : 0 ≤ i) (h1 : i ≤ ns.length) (hk : 0 ≤ k) (hl : 0 ≤ left) (hm : 1 ≤ many) (hm2 : many < 1073741824) :
    ∃ d i' left' k' : Int, 0 ≤ d ∧ d < many ∧ 0 ≤ i' ∧ i' ≤ ns.length ∧ 0 ≤ left' ∧ 0 ≤ k' ∧ s__law_take [.ref 0, .int many] (box ns i left k :: t) = .ok (.int d) (box ns i' left' k' :: t) := by
  by_cases h : left < many
  · obtain ⟨v, i', q1, q2, q3, q4⟩ := fill_ev (left := left) (t := t) h0 h1 hk
    have z : many ≠ 0 := by omega
    have zz : many.natAbs < 1073741824 := by omega
    refine ⟨v.fmod many, i', v.fdiv many, k + 1, Int.fmod_nonneg_of_pos _ (by omega), Int.fmod_lt_of_pos _ (by omega), q2, q3, Int.fdiv_nonneg q1 (by omega), by omega, ?_⟩
    simp [s__law_take, runFn, if__law_take, dSs, dS, dE, dEs, dT, dTg, it2, pt2, cmpop, pyOrd, h, tru, bltop, bInt, binop, z, zz, tgSet, q4]
    exact finish_box fun _ => rfl
  · refine ⟨_, _, _, _, Int.fmod_nonneg_of_pos _ (by omega), Int.fmod_lt_of_pos _ (by omega), h0, h1, Int.fdiv_nonneg hl (by omega), hk, take_ev hm hm2 (by omega)⟩
end
end K12
namespace K12
open PySem HW
/-- a function that leaves the cells as they are *)-/
theorem finish_same {h : PHeap} {v : PV} (hv : below h.length v = true) : HW.finish false h v h = .ok v h := by
  have h1 : okOuter h h = true := by simp [okOuter]
  have h2 : frz h h.length 12 v = some v := by
    unfold frz
    rw [if_pos hv]
  unfold HW.finish
  rw [h1, h2]
  simp
/-- a value of plain data -/
def isI : PV → Bool
  | .int _ => true
  | _ => false
def plainV : PV → Bool
  | .ref _ => false
  | .dct _ => false
  | .scr _ => false
  | _ => true
theorem is_integer_ev {h : PHeap} {v : PV} (hv : plainV v = true) : s_is_integer [v] h = .ok (.bl (isI v)) h := by
  cases v <;> simp [plainV] at hv <;> simp [s_is_integer, runFn, if_is_integer, dSs, dS, dE, dEs, bltop, bIsi, tyOf, tyNames, isTy, isI, tru, asList] <;> exact finish_same rfl
theorem law_is_int_ev {h : PHeap} {v : PV} (hv : plainV v = true) : s__law_is_int [v] h = .ok (.bl (isI v)) h := by
  cases v <;> simp [plainV] at hv <;> simp [s__law_is_int, runFn, if__law_is_int, dSs, dS, dE, dEs, bltop, bIsi, tyOf, tyNames, isTy, isI, tru, asList] <;> exact finish_same rfl
/-- a list comprehension whose turns leave the cells *)-/
theorem comp_gen {h : PHeap} {chk : Chk} {tg : PV → HW.Env → Option HW.Env} {ok : HW.Env → PHeap → R Bool} {elt : HW.Env → PHeap → R PV} {env : HW.Env} (p : PV → Bool) (f : PV → PV) (hc : chk h = true) :
    ∀ (xs acc : List PV), (∀ x ∈ xs, ∃ e1, tg x env = some e1 ∧ ok e1 h = .ok (p x) h ∧ (p x = true → elt e1 h = .ok (f x) h)) → acc.length + xs.length ≤ LIM →
      compGo chk tg ok elt env xs h acc = .ok (acc ++ (xs.filter p).map f) h
  | [], acc, _, _ => by simp [compGo, hc]
  | x :: xs, acc, hx, hl => by
    obtain ⟨e1, q1, q2, q3⟩ := hx x (List.mem_cons_self ..)
    simp only [List.length_cons] at hl
    have r : ∀ y ∈ xs, _ := fun y hy => hx y (List.mem_cons_of_mem _ hy)
    cases hp : p x with
    | true =>
      have ih := comp_gen p f hc xs (acc ++ [f x]) r (by simp; omega)
      simp only [compGo, hc, if_true, q1, q2, hp, R.bind_ok, q3 hp]
      rw [if_pos (by omega), ih]
      simp [hp]
    | false =>
      have ih := comp_gen p f hc xs acc r (by omega)
      simp [compGo, hc, q1, q2, hp, ih]
theorem asBools_map (f : PV → Bool) : ∀ xs : List PV, asBools (xs.map fun x => .bl (f x)) = some (xs.map f)
  | [] => rfl
  | x :: xs => by simp [asBools, asBools_map f xs]
theorem all_map {h : PHeap} {al : Bool} (f : PV → Bool) (xs : List PV) : convop .all al (.lst (xs.map fun x => .bl (f x))) h = .ok (.bl (xs.all f)) h := by
  simp [convop, asList, asBools_map, List.all_map]
theorem any_map {h : PHeap} {al : Bool} (f : PV → Bool) (xs : List PV) : convop .any al (.lst (xs.map fun x => .bl (f x))) h = .ok (.bl (xs.any f)) h := by
  simp [convop, asList, asBools_map, List.any_map]
def isNatV : PV → Bool
  | .int i => decide (0 ≤ i)
  | _ => false
theorem nats_ev {h : PHeap} {env : HW.Env} (he : env.length = 3) {xs : List PV} (hx : ∀ x ∈ xs, plainV x = true) (hl : xs.length ≤ LIM) :
    compGo (fun _ => true) (tgSet (.nm 1)) (dIfs [s_is_integer] .nil) (dE [s_is_integer] (.and (.call 0 (.cons (.var 1) .nil)) (.cmp .ge (.var 1) (.cst (.int 0))))) env xs h [] = .ok (xs.map fun x => .bl (isNatV x)) h := by
  have := comp_gen (h := h) (chk := fun _ => true) (tg := tgSet (.nm 1)) (ok := dIfs [s_is_integer] .nil) (elt := dE [s_is_integer] (.and (.call 0 (.cons (.var 1) .nil)) (.cmp .ge (.var 1) (.cst (.int 0))))) (env := env) (fun _ => true) (fun x => .bl (isNatV x)) rfl xs [] (fun x q => ⟨env.set 1 (some x), by simp [tgSet, he], by simp [dIfs], fun _ => by
    have := hx x q
    simp [dE, dEs, he, is_integer_ev this]
    cases x <;> simp [plainV] at this <;> simp [isI, tru, isNatV, cmpop, pyOrd]⟩) (by simpa using hl)
  rw [this, List.filter_eq_self.mpr (fun _ _ => rfl)]
  rfl
end K12
namespace K12
open PySem HW
def pairLt : PV → Bool
  | .tup [.int a, .int b] => decide (a < b)
  | _ => false
theorem mem_zipOf {xs ys : List PV} {p : PV} (h : p ∈ zipOf xs ys) : ∃ x y, x ∈ xs ∧ y ∈ ys ∧ p = .tup [x, y] := by
  unfold zipOf at h
  rw [← List.map_uncurry_zip_eq_zipWith] at h
  obtain ⟨⟨x, y⟩, h1, rfl⟩ := List.mem_map.mp h
  exact ⟨x, y, (List.of_mem_zip h1).1, (List.of_mem_zip h1).2, rfl⟩
theorem cut_tail (xs : List PV) : cut xs (some 1) none = xs.drop 1 := by
  unfold cut
  have e : HT.sIx xs.length 0 (some 1) = min 1 xs.length := HT.sIx_nat _ _ 1
  rw [e, HT.sIx_none]
  cases xs with
  | nil => rfl
  | cons x xs => simp
def isFaceV : PV → Bool
  | .tup xs => !xs.isEmpty && xs.all isNatV && (zipOf xs (xs.drop 1)).all pairLt
  | _ => false
def plains (xs : List PV) : Prop := ∀ x ∈ xs, plainV x = true
end K12
namespace K12
abbrev Fc := List Int
/-! faces within a face -/
def subsG (acc : List Fc) (f : Fc) : List Fc := f.foldl (fun acc c => acc ++ acc.map (· ++ [c])) acc
def subs (f : Fc) : List Fc := subsG [[]] f
theorem mem_subsG {g : Fc} : ∀ {f : Fc} {acc : List Fc}, g ∈ subsG acc f ↔ ∃ a ∈ acc, ∃ t, t.Sublist f ∧ g = a ++ t
  | [], acc => by
    constructor
    · intro h
      exact ⟨g, h, [], List.Sublist.slnil, by simp⟩
    · rintro ⟨a, h1, t, h2, rfl⟩
      rw [List.sublist_nil.mp h2]
      simpa [subsG] using h1
  | c :: f, acc => by
    show g ∈ subsG (acc ++ acc.map (· ++ [c])) f ↔ _
    rw [mem_subsG]
    constructor
    · rintro ⟨a, h1, t, h2, rfl⟩
      rcases List.mem_append.mp h1 with h | h
      · exact ⟨a, h, t, h2.cons c, rfl⟩
      · obtain ⟨b, h3, rfl⟩ := List.mem_map.mp h
        exact ⟨b, h3, c :: t, h2.cons₂ c, by simp⟩
    · rintro ⟨a, h1, t, h2, rfl⟩
      rcases List.sublist_cons_iff.mp h2 with h | ⟨r, rfl, h⟩
      · exact ⟨a, List.mem_append.mpr (.inl h1), t, h, rfl⟩
      · exact ⟨a ++ [c], List.mem_append.mpr (.inr (List.mem_map.mpr ⟨a, h1, rfl⟩)), r, h, by simp⟩
theorem mem_subs {f g : Fc} : g ∈ subs f ↔ g.Sublist f := by
  unfold subs
  rw [mem_subsG]
  simp
theorem subsG_cons : ∀ (f : Fc) (acc : List Fc), (∀ a ∈ acc, a ≠ []) → ∃ r, subsG ([] :: acc) f = [] :: r ∧ ∀ a ∈ r, a ≠ []
  | [], acc, h => ⟨acc, rfl, h⟩
  | c :: f, acc, h => by
    show ∃ r, subsG (([] :: acc) ++ ([] :: acc).map (· ++ [c])) f = _ ∧ _
    rw [List.cons_append]
    refine subsG_cons f _ fun a ha => ?_
    rcases List.mem_append.mp ha with q | q
    · exact h a q
    · obtain ⟨b, _, rfl⟩ := List.mem_map.mp q
      simp
theorem length_subsG : ∀ (f : Fc) (acc : List Fc), (subsG acc f).length = acc.length * 2 ^ f.length
  | [], acc => by simp [subsG]
  | c :: f, acc => by
    show (subsG (acc ++ acc.map (· ++ [c])) f).length = _
    rw [length_subsG]
    simp [Nat.pow_succ]
    rw [← Nat.mul_two, Nat.mul_assoc, Nat.mul_comm 2]
def parts (f : Fc) : List Fc := (subs f).drop 1
theorem parts_eq (f : Fc) : (subs f).filter (fun g => !g.isEmpty) = parts f := by
  obtain ⟨r, h1, h2⟩ := subsG_cons f [] (by simp)
  unfold parts subs
  rw [h1]
  simp
  intro a ha q
  exact h2 a ha q
theorem mem_parts {f g : Fc} : g ∈ parts f ↔ g ≠ [] ∧ g.Sublist f := by
  rw [← parts_eq, List.mem_filter, mem_subs]
  cases g <;> simp
theorem length_parts (f : Fc) : (parts f).length ≤ 2 ^ f.length := by
  unfold parts subs
  rw [List.length_drop, length_subsG]
  simp
/-! each one once -/
def ins (S : List Fc) (f : Fc) : List Fc := if S.any (fun g => decide (g = f)) then S else S ++ [f]
theorem mem_ins {S : List Fc} {f g : Fc} : g ∈ ins S f ↔ g ∈ S ∨ g = f := by
  unfold ins
  split
  · rename_i h
    obtain ⟨x, h1, h2⟩ := List.any_eq_true.mp h
    have := of_decide_eq_true h2
    subst this
    exact ⟨.inl, fun h => h.elim id (fun e => e ▸ h1)⟩
  · simp
theorem nodup_ins {S : List Fc} {f : Fc} (h : S.Nodup) : (ins S f).Nodup := by
  unfold ins
  split
  · exact h
  · rename_i q
    refine List.nodup_append.mpr ⟨h, by simp, ?_⟩
    rintro a ha b hb rfl
    refine q (List.any_eq_true.mpr ⟨a, ha, ?_⟩)
    simpa using hb
theorem length_ins {S : List Fc} {f : Fc} : (ins S f).length ≤ S.length + 1 := by
  unfold ins
  split <;> simp
def insA (S : List Fc) (fs : List Fc) : List Fc := fs.foldl ins S
theorem mem_insA {g : Fc} : ∀ {fs S : List Fc}, g ∈ insA S fs ↔ g ∈ S ∨ g ∈ fs
  | [], S => by simp [insA]
  | f :: fs, S => by
    show g ∈ insA (ins S f) fs ↔ _
    rw [mem_insA, mem_ins, List.mem_cons, or_assoc]
theorem nodup_insA : ∀ {fs S : List Fc}, S.Nodup → (insA S fs).Nodup
  | [], S, h => h
  | f :: fs, S, h => nodup_insA (fs := fs) (S := ins S f) (nodup_ins h)
theorem length_insA : ∀ {fs S : List Fc}, (insA S fs).length ≤ S.length + fs.length
  | [], S => by simp [insA]
  | f :: fs, S => by
    show (insA (ins S f) fs).length ≤ _
    have := length_insA (fs := fs) (S := ins S f)
    have := length_ins (S := S) (f := f)
    simp only [List.length_cons]
    omega
def allG (S : List Fc) (s : List Fc) : List Fc := s.foldl (fun S f => insA S (parts f)) S
def allF (s : List Fc) : List Fc := allG [] s
theorem mem_allG {g : Fc} : ∀ {s S : List Fc}, g ∈ allG S s ↔ g ∈ S ∨ ∃ f ∈ s, g ∈ parts f
  | [], S => by simp [allG]
  | f :: s, S => by
    show g ∈ allG (insA S (parts f)) s ↔ _
    rw [mem_allG, mem_insA]
    simp [or_assoc]
theorem nodup_allG : ∀ {s S : List Fc}, S.Nodup → (allG S s).Nodup
  | [], S, h => h
  | f :: s, S, h => nodup_allG (s := s) (S := insA S (parts f)) (nodup_insA h)
theorem length_allG {m : Nat} : ∀ {s S : List Fc}, (∀ f ∈ s, f.length ≤ m) → (allG S s).length ≤ S.length + s.length * 2 ^ m
  | [], S, _ => by simp [allG]
  | f :: s, S, h => by
    show (allG (insA S (parts f)) s).length ≤ _
    have h1 := length_allG (s := s) (S := insA S (parts f)) fun g q => h g (List.mem_cons_of_mem _ q)
    have h2 := length_insA (fs := parts f) (S := S)
    have h3 := length_parts f
    have h4 : 2 ^ f.length ≤ 2 ^ m := Nat.pow_le_pow_right (by decide) (h f (List.mem_cons_self ..))
    rw [List.length_cons, Nat.add_mul]
    omega
theorem mem_allF {s : List Fc} {g : Fc} : g ∈ allF s ↔ ∃ f ∈ s, g ≠ [] ∧ g.Sublist f := by
  unfold allF
  rw [mem_allG]
  simp [mem_parts]
theorem nodup_allF (s : List Fc) : (allF s).Nodup := nodup_allG List.nodup_nil
theorem allF_sub {s : List Fc} {g k : Fc} (h : g ∈ allF s) (hk : k.Sublist g) (hn : k ≠ []) : k ∈ allF s := by
  obtain ⟨f, h1, _, h3⟩ := mem_allF.mp h
  exact mem_allF.mpr ⟨f, h1, hn, hk.trans h3⟩
/-! tables -/
abbrev Tb := List (Fc × Int)
def get : Tb → Fc → Int
  | [], _ => 0
  | p :: T, g => if p.1 = g then p.2 else get T g
def put (T : Tb) (f : Fc) (n : Int) : Tb := if T.any (fun e => decide (e.1 = f)) then T.map (fun e => if e.1 = f then (e.1, n) else e) else T ++ [(f, n)]
def nod (T : Tb) : Prop := (T.map (·.1)).Nodup
theorem put_keys (T : Tb) (f : Fc) (n : Int) : (put T f n).map (·.1) = ins (T.map (·.1)) f := by
  unfold put ins
  have e : (T.map (·.1)).any (fun g => decide (g = f)) = T.any (fun e => decide (e.1 = f)) := by
    rw [List.any_map]
    rfl
  rw [e]
  split
  · rw [List.map_map]
    refine List.map_congr_left fun p _ => ?_
    simp only [Function.comp]
    split <;> rfl
  · simp
theorem nod_put {T : Tb} (h : nod T) (f : Fc) (n : Int) : nod (put T f n) := by
  unfold nod
  rw [put_keys]
  exact nodup_ins h
/-- the sum of φ's values, each so many times -/
def lin (φ : Fc → Int) : Tb → Int
  | [] => 0
  | p :: T => φ p.1 * p.2 + lin φ T
theorem lin_append (φ : Fc → Int) : ∀ A B : Tb, lin φ (A ++ B) = lin φ A + lin φ B
  | [], B => by simp [lin]
  | p :: A, B => by simp [lin, lin_append φ A B, Int.add_assoc]
theorem lin_perm (φ : Fc → Int) {A B : Tb} (h : A.Perm B) : lin φ A = lin φ B := by
  induction h with
  | nil => rfl
  | cons x _ ih => simp [lin, ih]
  | swap x y l => simp [lin]; omega
  | trans _ _ ih1 ih2 => rw [ih1, ih2]
theorem lin_congr {φ ψ : Fc → Int} : ∀ {T : Tb}, (∀ p ∈ T, φ p.1 = ψ p.1) → lin φ T = lin ψ T
  | [], _ => rfl
  | p :: T, h => by
    unfold lin
    rw [h p (List.mem_cons_self ..), lin_congr fun q hq => h q (List.mem_cons_of_mem _ hq)]
theorem lin_zero {φ : Fc → Int} {T : Tb} (h : ∀ p ∈ T, φ p.1 = 0) : lin φ T = 0 := by
  induction T with
  | nil => rfl
  | cons p T ih => rw [lin, h p (List.mem_cons_self ..), ih fun q hq => h q (List.mem_cons_of_mem _ hq)]; simp
theorem get_none {f : Fc} : ∀ {T : Tb}, (∀ p ∈ T, p.1 ≠ f) → get T f = 0
  | [], _ => rfl
  | p :: T, h => by
    rw [get, if_neg (h p (List.mem_cons_self ..)), get_none fun q hq => h q (List.mem_cons_of_mem _ hq)]
theorem get_mem {p : Fc × Int} : ∀ {T : Tb}, nod T → p ∈ T → get T p.1 = p.2
  | q :: T, h, hp => by
    unfold nod at h
    rw [List.map_cons, List.nodup_cons] at h
    rcases List.mem_cons.mp hp with e | e
    · subst e
      rw [get, if_pos rfl]
    · rw [get, if_neg, get_mem h.2 e]
      intro x
      exact h.1 (x ▸ List.mem_map.mpr ⟨p, e, rfl⟩)
theorem lin_keys_no (φ : Fc → Int) (f : Fc) (n : Int) : ∀ {T : Tb}, (∀ p ∈ T, p.1 ≠ f) → lin φ (T.map fun e => if e.1 = f then (e.1, n) else e) = lin φ T
  | [], _ => rfl
  | p :: T, h => by
    rw [List.map_cons, if_neg (h p (List.mem_cons_self ..)), lin, lin, lin_keys_no φ f n fun q hq => h q (List.mem_cons_of_mem _ hq)]
theorem lin_put_in (φ : Fc → Int) (f : Fc) (n : Int) : ∀ {T : Tb}, nod T → (∃ p ∈ T, p.1 = f) → lin φ (T.map fun e => if e.1 = f then (e.1, n) else e) = lin φ T + φ f * (n - get T f)
  | p :: T, h, hp => by
    have h' := h
    unfold nod at h'
    rw [List.map_cons, List.nodup_cons] at h'
    by_cases e : p.1 = f
    · have no : ∀ q ∈ T, q.1 ≠ f := fun q hq x => h'.1 (e ▸ x ▸ List.mem_map.mpr ⟨q, hq, rfl⟩)
      rw [List.map_cons, if_pos e, lin, lin, lin_keys_no φ f n no, get, if_pos e, e]
      simp only [Int.mul_sub]
      omega
    · obtain ⟨q, h1, h2⟩ := hp
      have : ∃ p ∈ T, p.1 = f := by
        rcases List.mem_cons.mp h1 with x | x
        · exact absurd (x ▸ h2) e
        · exact ⟨q, x, h2⟩
      rw [List.map_cons, if_neg e, lin, lin, lin_put_in φ f n h'.2 this, get, if_neg e]
      omega
theorem lin_put (φ : Fc → Int) {T : Tb} (h : nod T) (f : Fc) (n : Int) : lin φ (put T f n) = lin φ T + φ f * (n - get T f) := by
  unfold put
  split
  · rename_i q
    obtain ⟨p, h1, h2⟩ := List.any_eq_true.mp q
    exact lin_put_in φ f n h ⟨p, h1, of_decide_eq_true h2⟩
  · rename_i q
    have no : ∀ p ∈ T, p.1 ≠ f := fun p hp e => q (List.any_eq_true.mpr ⟨p, hp, by simpa using e⟩)
    rw [lin_append, get_none no]
    simp [lin]
def upd (T : Tb) (p : Fc × Int) : Tb := put T p.1 (get T p.1 + p.2)
def updA (T L : Tb) : Tb := L.foldl upd T
theorem nod_upd {T : Tb} (h : nod T) (p : Fc × Int) : nod (upd T p) := nod_put h _ _
theorem nod_updA : ∀ {L T : Tb}, nod T → nod (updA T L)
  | [], T, h => h
  | p :: L, T, h => nod_updA (L := L) (nod_upd h p)
theorem lin_updA (φ : Fc → Int) : ∀ {L T : Tb}, nod T → lin φ (updA T L) = lin φ T + lin φ L
  | [], T, h => by simp [updA, lin]
  | p :: L, T, h => by
    show lin φ (updA (upd T p) L) = _
    rw [lin_updA φ (nod_upd h p), upd, lin_put φ h, lin]
    have : get T p.1 + p.2 - get T p.1 = p.2 := by omega
    rw [this]
    omega
def one1 (g : Fc) : Fc → Int := fun f => if f = g then 1 else 0
theorem get_lin (g : Fc) : ∀ {T : Tb}, nod T → get T g = lin (one1 g) T
  | [], _ => rfl
  | p :: T, h => by
    unfold nod at h
    rw [List.map_cons, List.nodup_cons] at h
    rw [get, lin, one1]
    split
    · rename_i e
      have : lin (one1 g) T = 0 := lin_zero fun q hq => by
        unfold one1
        rw [if_neg]
        intro x
        exact h.1 (e ▸ x ▸ List.mem_map.mpr ⟨q, hq, rfl⟩)
      rw [this]
      simp
    · rw [get_lin g (T := T) h.2]
      simp
def nz (p : Fc × Int) : Bool := decide (p.2 ≠ 0)
theorem lin_nz (φ : Fc → Int) : ∀ T : Tb, lin φ (T.filter nz) = lin φ T
  | [] => rfl
  | p :: T => by
    rw [List.filter_cons]
    split
    · rw [lin, lin, lin_nz φ T]
    · rename_i h
      have : p.2 = 0 := by simpa [nz] using h
      rw [lin, this, lin_nz φ T]
      simp
/-! sides -/
def sdA (f : Fc) : Tb := (List.range f.length).map fun k => (f.take k ++ f.drop (k + 1), 1 - 2 * ((k : Int) % 2))
def sd (f : Fc) : Tb := if f.length = 1 then [] else sdA f
def D : (Fc → Int) → Fc → Int
  | _, [] => 0
  | φ, x :: f => φ f - D (fun s => φ (x :: s)) f
theorem lin_map (φ : Fc → Int) (u : Fc → Fc) : ∀ T : Tb, lin φ (T.map fun p => (u p.1, -p.2)) = -lin (fun s => φ (u s)) T
  | [] => rfl
  | p :: T => by
    rw [List.map_cons, lin, lin, lin_map φ u T]
    simp only [Int.mul_neg]
    omega
theorem lin_sdA : ∀ (f : Fc) (φ : Fc → Int), lin φ (sdA f) = D φ f
  | [], φ => rfl
  | x :: f, φ => by
    have e : sdA (x :: f) = (f, 1) :: (sdA f).map fun p => (x :: p.1, -p.2) := by
      unfold sdA
      rw [List.length_cons, List.range_succ_eq_map, List.map_cons, List.map_map, List.map_map]
      congr 1
      refine List.map_congr_left fun k _ => ?_
      simp only [Function.comp, Prod.mk.injEq]
      refine ⟨by simp, ?_⟩
      omega
    rw [e, lin, lin_map, lin_sdA f, D]
    simp
    omega
theorem D_sub (φ ψ : Fc → Int) : ∀ (f : Fc), D (fun s => φ s - ψ s) f = D φ f - D ψ f := by
  intro f
  induction f generalizing φ ψ with
  | nil => rfl
  | cons x f ih =>
    simp only [D]
    rw [ih]
    omega
theorem DD : ∀ (f : Fc) (φ : Fc → Int), D (fun s => D φ s) f = 0
  | [], φ => rfl
  | x :: f, φ => by
    show D φ f - D (fun s => D φ (x :: s)) f = 0
    have e : (fun s => D φ (x :: s)) = fun s => φ s - D (fun t => φ (x :: t)) s := rfl
    rw [e, D_sub φ (fun s => D (fun t => φ (x :: t)) s), DD f]
    omega
theorem D_congr : ∀ {f : Fc} {φ ψ : Fc → Int}, (∀ s, s.length + 1 = f.length → φ s = ψ s) → D φ f = D ψ f
  | [], φ, ψ, _ => rfl
  | x :: f, φ, ψ, h => by
    rw [D, D, h f rfl, D_congr (f := f) (φ := fun s => φ (x :: s)) (ψ := fun s => ψ (x :: s)) fun s hs => h _ (by simp [hs])]
def cutE (φ : Fc → Int) : Fc → Int := fun s => if s = [] then 0 else φ s
theorem lin_sd (f : Fc) (φ : Fc → Int) : lin φ (sd f) = D (cutE φ) f := by
  unfold sd
  split
  · rename_i h
    obtain ⟨x, rfl⟩ := List.length_eq_one_iff.mp h
    rfl
  · rename_i h
    rw [lin_sdA]
    refine D_congr fun s hs => ?_
    rw [cutE, if_neg]
    rintro rfl
    exact h hs.symm
/-- the coboundary of a value -/
def del (φ : Fc → Int) (f : Fc) : Int := lin φ (sd f)
theorem del_del (φ : Fc → Int) (f : Fc) : del (del φ) f = 0 := by
  unfold del
  rw [lin_sd]
  have : cutE (fun f => lin φ (sd f)) = fun s => D (cutE φ) s := by
    funext s
    unfold cutE
    split
    · rename_i h
      subst h
      rfl
    · exact lin_sd s φ
  rw [this, DD]
theorem sd_mem {f : Fc} {p : Fc × Int} (h : p ∈ sd f) : p.1.Sublist f ∧ p.1.length + 1 = f.length ∧ p.1 ≠ [] := by
  unfold sd at h
  split at h
  · cases h
  · rename_i q
    obtain ⟨k, hk, rfl⟩ := List.mem_map.mp h
    have hk := List.mem_range.mp hk
    have l : (f.take k ++ f.drop (k + 1)).length + 1 = f.length := by
      simp
      omega
    refine ⟨?_, l, ?_⟩
    · have : (f.take k ++ f.drop (k + 1)).Sublist (f.take k ++ f.drop k) := List.Sublist.append (List.Sublist.refl _) (by
        rw [← List.drop_drop]
        exact List.drop_sublist _ _)
      rwa [List.take_append_drop] at this
    · intro e
      simp only at e
      rw [e] at l
      exact q l.symm
/-! the boundary -/
def bl (T : Tb) : Tb := T.flatMap fun p => (sd p.1).map fun q => (q.1, q.2 * p.2)
theorem lin_mulr (φ : Fc → Int) (n : Int) : ∀ T : Tb, lin φ (T.map fun q => (q.1, q.2 * n)) = lin φ T * n
  | [] => by simp [lin]
  | p :: T => by
    rw [List.map_cons, lin, lin, lin_mulr φ n T, Int.add_mul, Int.mul_assoc]
theorem lin_bl (φ : Fc → Int) : ∀ T : Tb, lin φ (bl T) = lin (del φ) T
  | [] => rfl
  | p :: T => by
    have e : bl (p :: T) = ((sd p.1).map fun q => (q.1, q.2 * p.2)) ++ bl T := by simp [bl]
    rw [e, lin_append, lin_bl φ T, lin_mulr, lin]
    rfl
def bnd (T : Tb) : Tb := updA [] (bl T)
theorem nod_nil : nod [] := List.nodup_nil
theorem nod_bnd (T : Tb) : nod (bnd T) := nod_updA nod_nil
theorem lin_bnd (φ : Fc → Int) (T : Tb) : lin φ (bnd T) = lin (del φ) T := by
  unfold bnd
  rw [lin_updA φ nod_nil, lin_bl]
  simp [lin]
end K12
namespace K12
open PySem HW
/-! values of data: what their parts are like -/
mutual
def tame : Nat → PV → Bool
  | _, .non => true
  | _, .bl _ => true
  | _, .int _ => true
  | _, .str s => PyData.strOk s
  | n + 1, .tup xs => tames n xs
  | n + 1, .lst xs => tames n xs
  | _, _ => false
def tames : Nat → List PV → Bool
  | _, [] => true
  | n, x :: xs => tame n x && tames n xs
end
mutual
theorem tame_toD : ∀ (n : Nat) (v : PV), tame n v = true → ∃ d, toD v = some d ∧ d.canLay0 = true ∧ d.depth ≤ n
  | n, .non, _ => ⟨.none, rfl, rfl, by simp [PyData.depth]⟩
  | n, .bl b, _ => ⟨.bool b, rfl, rfl, by simp [PyData.depth]⟩
  | n, .int i, _ => ⟨.int i, rfl, rfl, by simp [PyData.depth]⟩
  | n, .str s, h => ⟨.str s, rfl, (by rw [PyData.canLay0]; rw [tame] at h; exact h), by simp [PyData.depth]⟩
  | n + 1, .tup xs, h => by
    rw [tame] at h
    obtain ⟨ds, e, h1, h2⟩ := tames_toD n xs h
    exact ⟨.tuple ds, by rw [toD, e]; rfl, by rw [PyData.canLay0]; exact h1, by rw [PyData.depth]; omega⟩
  | n + 1, .lst xs, h => by
    rw [tame] at h
    obtain ⟨ds, e, h1, h2⟩ := tames_toD n xs h
    exact ⟨.list ds, by rw [toD, e]; rfl, by rw [PyData.canLay0]; exact h1, by rw [PyData.depth]; omega⟩
  | 0, .tup xs, h => by simp [tame] at h
  | 0, .lst xs, h => by simp [tame] at h
  | n, .dct s, h => by simp [tame] at h
  | n, .scr s, h => by simp [tame] at h
  | n, .ref s, h => by simp [tame] at h
theorem tames_toD : ∀ (n : Nat) (xs : List PV), tames n xs = true → ∃ ds, toDs xs = some ds ∧ PyData.canLayAll0 ds = true ∧ PyData.depthAll ds ≤ n
  | n, [], _ => ⟨[], rfl, rfl, by simp [PyData.depthAll]⟩
  | n, x :: xs, h => by
    rw [tames, Bool.and_eq_true] at h
    obtain ⟨d, e1, h1, h2⟩ := tame_toD n x h.1
    obtain ⟨ds, e2, h3, h4⟩ := tames_toD n xs h.2
    exact ⟨d :: ds, by rw [toDs, e1, e2], by rw [PyData.canLayAll0, h1, h3]; rfl, by rw [PyData.depthAll]; omega⟩
end
theorem tames_iff {n : Nat} : ∀ {xs : List PV}, tames n xs = true ↔ ∀ x ∈ xs, tame n x = true
  | [] => by simp [tames]
  | x :: xs => by simp [tames, tames_iff (xs := xs)]
mutual
theorem below_tame (m : Nat) : ∀ (n : Nat) (v : PV), tame n v = true → below m v = true
  | n, .non, _ => rfl
  | n, .bl b, _ => rfl
  | n, .int i, _ => rfl
  | n, .str i, _ => rfl
  | n + 1, .tup xs, h => by
    rw [tame] at h
    rw [below]
    exact belows_tame m n xs h
  | n + 1, .lst xs, h => by
    rw [tame] at h
    rw [below]
    exact belows_tame m n xs h
  | 0, .tup xs, h => by simp [tame] at h
  | 0, .lst xs, h => by simp [tame] at h
  | n, .dct s, h => by simp [tame] at h
  | n, .scr s, h => by simp [tame] at h
  | n, .ref s, h => by simp [tame] at h
theorem belows_tame (m : Nat) : ∀ (n : Nat) (xs : List PV), tames n xs = true → belows m xs = true
  | n, [], _ => rfl
  | n, x :: xs, h => by
    rw [tames, Bool.and_eq_true] at h
    rw [belows, below_tame m n x h.1, belows_tame m n xs h.2]
    rfl
end
theorem tame_plain {n : Nat} {v : PV} (h : tame n v = true) : plainV v = true := by
  cases v <;> simp [tame] at h <;> rfl
theorem tame_res {n : Nat} {v : PV} (h : tame n v = true) (g : PHeap) : res g v = v := by
  cases v <;> simp [tame] at h <;> rfl
theorem tame_mono : ∀ {n m : Nat}, n ≤ m → ∀ {v : PV}, tame n v = true → tame m v = true := by
  intro n
  induction n with
  | zero =>
    intro m hm v h
    cases v <;> simp [tame] at h <;> simp [tame, h]
  | succ n ih =>
    intro m hm v h
    obtain ⟨k, rfl⟩ : ∃ k, m = k + 1 := ⟨m - 1, by omega⟩
    cases v with
    | tup xs =>
      rw [tame] at h ⊢
      exact tames_iff.mpr fun x hx => ih (by omega) (tames_iff.mp h x hx)
    | lst xs =>
      rw [tame] at h ⊢
      exact tames_iff.mpr fun x hx => ih (by omega) (tames_iff.mp h x hx)
    | _ => simp [tame] at h <;> simp [tame, h]
theorem eq_tame {n : Nat} (hn : n ≤ 64) {a b : PV} {g : PHeap} (ha : tame n a = true) (hb : tame n b = true) : ∃ d e, toD a = some d ∧ toD b = some e ∧ pyEq g a b = some (PyData.eqv d e) := by
  obtain ⟨d, d1, d2, d3⟩ := tame_toD n a ha
  obtain ⟨e, e1, e2, e3⟩ := tame_toD n b hb
  refine ⟨d, e, d1, e1, ?_⟩
  unfold pyEq
  rw [tame_res ha, tame_res hb, d1, e1]
  have h1 : SeqAt.shaped d = true := by
    unfold SeqAt.shaped
    rw [d2]
    simp
    omega
  have h2 : SeqAt.shaped e = true := by
    unfold SeqAt.shaped
    rw [e2]
    simp
    omega
  simp [h1, h2]
theorem eq_same {n : Nat} (hn : n ≤ 64) {a : PV} {g : PHeap} (ha : tame n a = true) : pyEq g a a = some true := by
  obtain ⟨d, e, h1, h2, h3⟩ := eq_tame (g := g) hn ha ha
  obtain ⟨d', d1, d2, _⟩ := tame_toD n a ha
  rw [d1] at h1 h2
  cases h1
  cases h2
  rw [h3, SeqAt.eqv_refl _ d2]
theorem tame_ints (n : Nat) (k : List Int) : tames n (k.map .int) = true := tames_iff.mpr fun x hx => by
  obtain ⟨i, _, rfl⟩ := List.mem_map.mp hx
  cases n <;> rfl
theorem tame_tI (n : Nat) (k : Fc) : tame (n + 1) (tI k) = true := by
  unfold tI
  rw [tame]
  exact tame_ints n k
theorem tame_tIs (n : Nat) (ks : List Fc) : tames (n + 1) (ks.map tI) = true := tames_iff.mpr fun x hx => by
  obtain ⟨i, _, rfl⟩ := List.mem_map.mp hx
  exact tame_tI n i
theorem eq_int {g : PHeap} (a b : Int) : pyEq g (.int a) (.int b) = some (decide (a = b)) := by
  obtain ⟨d, e, h1, h2, h3⟩ := eq_tame (n := 0) (g := g) (by omega) (a := .int a) (b := .int b) rfl rfl
  cases h1
  cases h2
  rw [h3]
  simp only [PyData.eqv]
  rfl
theorem eq_bool {g : PHeap} (a b : Bool) : pyEq g (.bl a) (.bl b) = some (decide (a = b)) := by
  obtain ⟨d, e, h1, h2, h3⟩ := eq_tame (n := 0) (g := g) (by omega) (a := .bl a) (b := .bl b) rfl rfl
  cases h1
  cases h2
  rw [h3]
  simp only [PyData.eqv]
  cases a <;> cases b <;> rfl
theorem eqv_ints : ∀ a b : List Int, PyData.eqvAll (a.map .int) (b.map .int) = decide (a = b)
  | [], [] => by simp [PyData.eqvAll]
  | [], _ :: _ => by simp [PyData.eqvAll]
  | _ :: _, [] => by simp [PyData.eqvAll]
  | a :: as, b :: bs => by
    rw [List.map_cons, List.map_cons, PyData.eqvAll, PyData.eqv, eqv_ints as bs]
    show (decide (a = b) && _) = _
    rw [← Bool.decide_and]
    exact decide_eq_decide.mpr (by rw [List.cons.injEq])
theorem any_ints (f : List Int) (c : Int) : ((f.map PyData.int).any fun e => PyData.eqv e (.int c)) = decide (c ∈ f) := by
  rw [List.any_map, Bool.eq_iff_iff, List.any_eq_true, decide_eq_true_eq]
  constructor
  · rintro ⟨y, hy, e⟩
    simp only [Function.comp, PyData.eqv, beq_iff_eq] at e
    exact e ▸ hy
  · intro h
    exact ⟨c, h, by simp [Function.comp, PyData.eqv]⟩
theorem eq_tI {g : PHeap} (a b : Fc) : pyEq g (tI a) (tI b) = some (decide (a = b)) := by
  obtain ⟨d, e, h1, h2, h3⟩ := eq_tame (n := 1) (g := g) (by omega) (tame_tI 0 a) (tame_tI 0 b)
  unfold tI at h1 h2
  rw [toD, toD_ints] at h1 h2
  cases h1
  cases h2
  rw [h3, PyData.eqv, eqv_ints]
theorem eq_ints {g : PHeap} (a b : List Int) : pyEq g (.lst (a.map .int)) (.lst (b.map .int)) = some (decide (a = b)) := by
  obtain ⟨d, e, h1, h2, h3⟩ := eq_tame (n := 1) (g := g) (by omega) (a := .lst (a.map .int)) (b := .lst (b.map .int)) (by rw [tame]; exact tame_ints 0 a) (by rw [tame]; exact tame_ints 0 b)
  rw [toD, toD_ints] at h1 h2
  cases h1
  cases h2
  rw [h3, PyData.eqv, eqv_ints]
theorem toD_tI (k : Fc) : toD (tI k) = some (.tuple (k.map .int)) := by
  unfold tI
  rw [toD, toD_ints]
  rfl
theorem toD_tIs : ∀ ks : List Fc, toDs (ks.map tI) = some (ks.map fun k => .tuple (k.map .int))
  | [] => rfl
  | k :: ks => by rw [List.map_cons, toDs, toD_tI, toD_tIs ks]; rfl
theorem eqv_tIs : ∀ a b : List Fc, PyData.eqvAll (a.map fun k => .tuple (k.map .int)) (b.map fun k => .tuple (k.map .int)) = decide (a = b)
  | [], [] => by simp [PyData.eqvAll]
  | [], _ :: _ => by simp [PyData.eqvAll]
  | _ :: _, [] => by simp [PyData.eqvAll]
  | a :: as, b :: bs => by
    rw [List.map_cons, List.map_cons, PyData.eqvAll, PyData.eqv, eqv_ints, eqv_tIs as bs, ← Bool.decide_and]
    exact decide_eq_decide.mpr (by rw [List.cons.injEq])
theorem eq_tIs {g : PHeap} (a b : List Fc) : pyEq g (.tup (a.map tI)) (.tup (b.map tI)) = some (decide (a = b)) := by
  obtain ⟨d, e, h1, h2, h3⟩ := eq_tame (n := 2) (g := g) (by omega) (a := .tup (a.map tI)) (b := .tup (b.map tI)) (by rw [tame]; exact tame_tIs 0 a) (by rw [tame]; exact tame_tIs 0 b)
  rw [toD, toD_tIs] at h1 h2
  cases h1
  cases h2
  rw [h3, PyData.eqv, eqv_tIs]
theorem shaped_of {n : Nat} (hn : n ≤ 64) {v : PV} {d : PyData} (h : tame n v = true) (e : toD v = some d) : SeqAt.shaped d = true := by
  obtain ⟨d', d1, d2, d3⟩ := tame_toD n v h
  rw [e] at d1
  cases d1
  unfold SeqAt.shaped
  rw [d2]
  simp
  omega
/-- c in face -/
theorem in_tI {g : PHeap} (c : Int) (f : Fc) : isIn g (.int c) (tI f) = some (decide (c ∈ f)) := by
  have h1 : SeqAt.shaped (.int c) = true := shaped_of (n := 0) (by omega) (v := .int c) rfl rfl
  have h2 : SeqAt.shaped (.list (f.map .int)) = true := shaped_of (n := 1) (by omega) (v := .lst (f.map .int)) (by rw [tame]; exact tame_ints 0 f) (by rw [toD, toD_ints]; rfl)
  show (match toD (res g (.int c)), toDs (f.map .int) with
      | some d, some ds => if SeqAt.shaped d && SeqAt.shaped (.list ds) then some (ds.any fun e => PyData.eqv e d) else none
      | _, _ => none) = _
  rw [toD_ints]
  show (if SeqAt.shaped (.int c) && SeqAt.shaped (.list (f.map .int)) then some _ else none) = _
  rw [h1, h2]
  simp only [Bool.and_self, if_true]
  exact congrArg some (any_ints f c)
theorem any_tIs (ks : List Fc) (f : Fc) : ((ks.map fun k => PyData.tuple (k.map .int)).any fun e => PyData.eqv e (.tuple (f.map .int))) = decide (f ∈ ks) := by
  rw [List.any_map, Bool.eq_iff_iff, List.any_eq_true, decide_eq_true_eq]
  constructor
  · rintro ⟨y, hy, e⟩
    simp only [Function.comp, PyData.eqv, eqv_ints, decide_eq_true_eq] at e
    exact e ▸ hy
  · intro h
    exact ⟨f, h, by simp only [Function.comp, PyData.eqv, eqv_ints, decide_true]⟩
/-- face in faces -/
theorem in_tIs {g : PHeap} (f : Fc) (ks : List Fc) : isIn g (tI f) (.lst (ks.map tI)) = some (decide (f ∈ ks)) := by
  have h1 : SeqAt.shaped (.tuple (f.map .int)) = true := shaped_of (n := 1) (by omega) (tame_tI 0 f) (toD_tI f)
  have h2 : SeqAt.shaped (.list (ks.map fun k => .tuple (k.map .int))) = true := shaped_of (n := 2) (by omega) (v := .lst (ks.map tI)) (by rw [tame]; exact tame_tIs 0 ks) (by rw [toD, toD_tIs]; rfl)
  show (match toD (tI f), toDs (ks.map tI) with
      | some d, some ds => if SeqAt.shaped d && SeqAt.shaped (.list ds) then some (ds.any fun e => PyData.eqv e d) else none
      | _, _ => none) = _
  rw [toD_tIs, toD_tI]
  show (if SeqAt.shaped _ && SeqAt.shaped _ then some _ else none) = _
  rw [h1, h2]
  simp only [Bool.and_self, if_true]
  exact congrArg some (any_tIs ks f)
/-! keys -/
theorem toN_ints : ∀ k : List Int, toNs (k.map .int) = some (k.map NestedKey.num)
  | [] => rfl
  | i :: k => by rw [List.map_cons, toNs, toN, toN_ints k]; rfl
theorem depth_nums : ∀ k : List Int, NestedKey.depthAll (k.map NestedKey.num) = 0
  | [] => rfl
  | i :: k => by rw [List.map_cons, NestedKey.depthAll, NestedKey.depth, depth_nums k]; rfl
theorem keyT_tI (f : Fc) : keyT (tI f) = true := by
  unfold tI keyT
  simp [toN, toN_ints, NestedKey.depth, depth_nums]
theorem keyOk_tI {es : List (PV × PV)} (h : ∀ e ∈ es, ∃ f, e.1 = tI f) (f : Fc) : keyOk es (tI f) = true := by
  unfold keyOk
  rw [Bool.or_eq_true]
  right
  rw [keyT_tI, Bool.true_and, List.all_eq_true]
  intro e he
  obtain ⟨k, q⟩ := h e he
  rw [q]
  exact keyT_tI k
theorem keyOk_int {es : List (PV × PV)} (h : ∀ e ∈ es, ∃ f, e.1 = .int f) (f : Int) : keyOk es (.int f) = true := by
  unfold keyOk
  rw [Bool.or_eq_true]
  left
  simp only [keyV, Bool.true_and, List.all_eq_true]
  intro e he
  obtain ⟨k, q⟩ := h e he
  rw [q]
def db (S : List Fc) : List (PV × PV) := S.map fun f => (tI f, .bl true)
theorem db_keys (S : List Fc) : ∀ e ∈ db S, ∃ f, e.1 = tI f := fun e he => by
  obtain ⟨f, _, rfl⟩ := List.mem_map.mp he
  exact ⟨f, rfl⟩
theorem tI_iff {a b : Fc} : tI a = tI b ↔ a = b := ⟨tI_inj, fun e => e ▸ rfl⟩
theorem db_any (S : List Fc) (f : Fc) : (db S).any (fun e => decide (e.1 = tI f)) = S.any (fun g => decide (g = f)) := by
  unfold db
  rw [List.any_map]
  congr 1
  funext g
  simp only [Function.comp, tI_iff]
theorem db_put (S : List Fc) (f : Fc) : dPut (db S) (tI f) (.bl true) = db (ins S f) := by
  unfold dPut ins
  rw [db_any]
  split
  · unfold db
    rw [List.map_map]
    refine List.map_congr_left fun g _ => ?_
    simp only [Function.comp]
    split <;> rfl
  · simp [db]
theorem in_db {g : PHeap} (f : Fc) (S : List Fc) : isIn g (tI f) (.dct (db S)) = some (decide (f ∈ S)) := by
  show (if keyOk (db S) (tI f) then some ((db S).any fun e => decide (e.1 = tI f)) else none) = _
  rw [if_pos (keyOk_tI (db_keys S) f), db_any]
  congr 1
  rw [Bool.eq_iff_iff, List.any_eq_true, decide_eq_true_eq]
  constructor
  · rintro ⟨x, h, e⟩
    exact (of_decide_eq_true e) ▸ h
  · intro h
    exact ⟨f, h, by simp⟩
theorem lt_tI {g : PHeap} (a b : Fc) : pyOrd .lt g (tI a) (tI b) = some (decide (a < b)) := by
  have h1 : SeqAt.shaped (.tuple (a.map .int)) = true := shaped_of (n := 1) (by omega) (tame_tI 0 a) (toD_tI a)
  have h2 : SeqAt.shaped (.tuple (b.map .int)) = true := shaped_of (n := 1) (by omega) (tame_tI 0 b) (toD_tI b)
  show (match toD (tI a), toD (tI b) with
    | some d, some e => if PySem.W.alike d e && !isNone d && SeqAt.shaped d && SeqAt.shaped e then some (ordD .lt d e) else none
    | _, _ => none) = _
  rw [toD_tI, toD_tI]
  have al : ∀ a b : List Int, PySem.W.alikeAll (a.map .int) (b.map .int) = true := by
    intro a
    induction a with
    | nil => intro b; simp [PySem.W.alikeAll]
    | cons x a ih => intro b; cases b <;> simp [PySem.W.alikeAll, PySem.W.alike, ih]
  show (if PySem.W.alike (.tuple (a.map .int)) (.tuple (b.map .int)) && !isNone (.tuple (a.map .int)) && SeqAt.shaped _ && SeqAt.shaped _ then some (PySem.W.dataLt _ _) else none) = _
  rw [h1, h2, dataLt_tup, PySem.W.alike, al]
  rfl
end K12
namespace K12
open PySem HW
/-! the evaluator's steps, as rewriting rules *)-/
def rngV (v : PV) (h : PHeap) : R (List PV) := R.of ((intOf v).bind (rangeOf 0)) h
theorem rangeOf_nat {n : Nat} (hn : n ≤ 16777216) : rangeOf 0 (n : Int) = some ((List.range n).map fun (i : Nat) => PV.int i) := by
  unfold rangeOf wide62
  have h1 : (decide (-(2 ^ 62) ≤ (0 : Int) ∧ (0 : Int) < 2 ^ 62)) = true := by decide
  have h2 : (decide (-(2 ^ 62) ≤ (n : Int) ∧ (n : Int) < 2 ^ 62)) = true := by
    rw [decide_eq_true_eq]
    omega
  rw [h1, h2]
  simp
def rngV2 (v w : PV) (h : PHeap) : R (List PV) := R.of ((intOf v).bind fun i => (intOf w).bind (rangeOf i)) h
theorem rngV_nat {n : Nat} {h : PHeap} (hn : n ≤ 16777216) : rngV (.int n) h = .ok ((List.range n).map fun (i : Nat) => PV.int i) h := by
  unfold rngV
  rw [intOf, Option.bind_some, rangeOf_nat hn, R.of_some]
section
variable {ctx : List Sem} {env : HW.Env} {h : PHeap}
@[simp] theorem x_var {i : Nat} : dE ctx (.var i) env h = match env[i]? with
    | some (some v) => .ok v h
    | _ => .bad := by unfold dE; rfl
@[simp] theorem x_cst {v : PV} : dE ctx (.cst v) env h = .ok v h := by unfold dE; rfl
@[simp] theorem x_glob {x : Str} {v : PV} : dE ctx (.glob x v) env h = .ok v h := by unfold dE; rfl
@[simp] theorem x_tup {es : IEs} : dE ctx (.tup es) env h = (dEs ctx es env h).bind fun vs h => .ok (.tup vs) h := by rw [dE]
@[simp] theorem x_lst {al : Bool} {es : IEs} : dE ctx (.lst al es) env h = (dEs ctx es env h).bind fun vs h => mkList al vs h := by rw [dE]
@[simp] theorem x_dct0 {al : Bool} : dE ctx (.dct al .nil) env h = mkDict al [] h := by rw [dE, dEs]; rfl
@[simp] theorem x_dct1 {al : Bool} {k v : IE} : dE ctx (.dct al (.cons k (.cons v .nil))) env h = (dEs ctx (.cons k (.cons v .nil)) env h).bind fun vs h => (R.of ((pairUp vs).bind dispOf) h).bind fun es h => mkDict al es h := by rw [dE]
@[simp] theorem x_bin {op : BOp} {a b : IE} : dE ctx (.bin op a b) env h = (dE ctx a env h).bind fun x h => (dE ctx b env h).bind fun y h => R.of (binop op x y h) h := by rw [dE]
@[simp] theorem x_neg {a : IE} : dE ctx (.neg a) env h = (dE ctx a env h).bind fun x h => R.of ((intOf x).map fun i => .int (-i)) h := by rw [dE]
@[simp] theorem x_not {a : IE} : dE ctx (.not a) env h = (dE ctx a env h).bind fun x h => R.of ((tru h x).map fun c => .bl (!c)) h := by rw [dE]
@[simp] theorem x_cmp {op : COp} {a b : IE} : dE ctx (.cmp op a b) env h = (dE ctx a env h).bind fun x h => (dE ctx b env h).bind fun y h => R.of ((cmpop op x y h).map .bl) h := by rw [dE]
@[simp] theorem x_cmp2 {op op' : COp} {a b c : IE} : dE ctx (.cmp2 op op' a b c) env h = (dE ctx a env h).bind fun x h => (dE ctx b env h).bind fun y h => (R.of (cmpop op x y h) h).bind fun t h =>
      if t then (dE ctx c env h).bind fun z h => R.of ((cmpop op' y z h).map .bl) h else .ok (.bl false) h := by rw [dE]
@[simp] theorem x_and {a b : IE} : dE ctx (.and a b) env h = (dE ctx a env h).bind fun x h => (R.of (tru h x) h).bind fun t h => if t then dE ctx b env h else .ok x h := by rw [dE]
@[simp] theorem x_or {a b : IE} : dE ctx (.or a b) env h = (dE ctx a env h).bind fun x h => (R.of (tru h x) h).bind fun t h => if t then .ok x h else dE ctx b env h := by rw [dE]
@[simp] theorem x_ife {c a b : IE} : dE ctx (.ife c a b) env h = (dE ctx c env h).bind fun x h => (R.of (tru h x) h).bind fun t h => if t then dE ctx a env h else dE ctx b env h := by rw [dE]
@[simp] theorem x_sub {a i : IE} : dE ctx (.sub a i) env h = (dE ctx a env h).bind fun x h => (dE ctx i env h).bind fun y h => R.of (itemOf h x y) h := by rw [dE]
@[simp] theorem x_slice {a : IE} {lo hi : IO} : dE ctx (.slice a lo hi) env h = (dE ctx a env h).bind fun x h => (dO ctx lo env h).bind fun l h => (dO ctx hi env h).bind fun u h => R.of (sliceOf h x l u) h := by rw [dE]
@[simp] theorem x_rev {a st : IE} : dE ctx (.rev a st) env h = (dE ctx a env h).bind fun x h => (dE ctx st env h).bind fun y h => R.of (if y = .int (-1) then revOf h x else none) h := by rw [dE]
@[simp] theorem x_call {f : Nat} {es : IEs} : dE ctx (.call f es) env h = (dEs ctx es env h).bind fun vs h => (ctx.getD f fun _ _ => .bad) vs h := by rw [dE]
@[simp] theorem x_blt {f : Blt} {es : IEs} : dE ctx (.blt f es) env h = (dEs ctx es env h).bind fun vs h => R.of (bltop f vs h) h := by rw [dE]
@[simp] theorem x_meth {m : Mth} {o : IE} {es : IEs} : dE ctx (.meth m o es) env h = (dE ctx o env h).bind fun x h => if recv m h x then (dEs ctx es env h).bind fun vs h => methop m x vs h else .bad := by rw [dE]
@[simp] theorem x_conv {k : Cnv} {al : Bool} {e : IE} : dE ctx (.conv k al e) env h = (dE ctx e env h).bind fun v h => convop k al v h := by rw [dE]
@[simp] theorem x_convI {k : Cnv} {al : Bool} {it : II} : dE ctx (.convI k al it) env h = withLock (lockI it env h) (fun h => (dI ctx it env h).bind fun p h => convI k al p.1 h) h := by rw [dE]
@[simp] theorem x_comp {al : Bool} {own : List Nat} {tg : Tg} {it : II} {ifs : IEs} {elt : IE} : dE ctx (.comp al own tg it ifs elt) env h = withLock (lockI it env h) (fun h => (dI ctx it env h).bind fun p h =>
      (compGo p.2 (tgSet tg) (dIfs ctx ifs) (dE ctx elt) (wipeE env own) p.1 h []).bind fun acc h => mkList al acc h) h := by rw [dE]
@[simp] theorem x_dcomp {al : Bool} {own : List Nat} {tg : Tg} {it : II} {ifs : IEs} {k v : IE} : dE ctx (.dcomp al own tg it ifs k v) env h = withLock (lockI it env h) (fun h => (dI ctx it env h).bind fun p h =>
      (dcompGo p.2 (tgSet tg) (dIfs ctx ifs) (dE ctx k) (dE ctx v) (wipeE env own) p.1 h []).bind fun acc h => mkDict al acc h) h := by rw [dE]
@[simp] theorem x_nil : dEs ctx .nil env h = .ok [] h := by rw [dEs]
@[simp] theorem x_cons {e : IE} {es : IEs} : dEs ctx (.cons e es) env h = (dE ctx e env h).bind fun v h => (dEs ctx es env h).bind fun vs h => .ok (v :: vs) h := by rw [dEs]
@[simp] theorem x_inil : dIfs ctx .nil env h = .ok true h := by rw [dIfs]
@[simp] theorem x_icons {e : IE} {es : IEs} : dIfs ctx (.cons e es) env h = (dE ctx e env h).bind fun v h => (R.of (tru h v) h).bind fun t h => if t then dIfs ctx es env h else .ok false h := by rw [dIfs]
@[simp] theorem x_onone : dO ctx .none env h = .ok none h := by rw [dO]
@[simp] theorem x_osome {e : IE} : dO ctx (.some e) env h = (dE ctx e env h).bind fun v h => (R.of (intOf v) h).bind fun i h => .ok (some i) h := by rw [dO]
@[simp] theorem x_ex {e : IE} : dI ctx (.ex e) env h = (dE ctx e env h).bind fun v h => R.of (walkSrc h v) h := by rw [dI]
@[simp] theorem x_rng1 {e : IE} : dI ctx (.rng1 e) env h = (dE ctx e env h).bind fun v h => (rngV v h).bind fun xs h => .ok (xs, fun _ => true) h := by rw [dI] <;> rfl
@[simp] theorem x_rng2 {e e' : IE} : dI ctx (.rng2 e e') env h = (dE ctx e env h).bind fun v h => (dE ctx e' env h).bind fun w h => (rngV2 v w h).bind fun xs h => .ok (xs, fun _ => true) h := by rw [dI]; rfl
@[simp] theorem x_enum {e : IE} : dI ctx (.enum e) env h = (dE ctx e env h).bind fun v h => (R.of (listSrc h v) h).bind fun p h => .ok (enumOf p.1, p.2) h := by rw [dI]
@[simp] theorem x_comp2 {al : Bool} {own own1 : List Nat} {tg tg1 : Tg} {it it1 : II} {ifs ifs1 : IEs} {elt : IE} : dE ctx (.comp2 al own tg it ifs own1 tg1 it1 ifs1 elt) env h = withLock (lockI it env h) (fun h => (dI ctx it env h).bind fun p h =>
      (comp2Go p.2 (tgSet tg) (dIfs ctx ifs) (dI ctx it1) (tgSet tg1) (dIfs ctx ifs1) (dE ctx elt) own1 (wipeE env own) p.1 h []).bind fun acc h => mkList al acc h) h := by rw [dE]
@[simp] theorem x_aug {i : Nat} {op : BOp} {e : IE} : dS ctx (.aug i op e) env h = match env[i]? with
    | some (some x) => (dE ctx e env h).bind fun y h => (R.of (match x, y with
        | .int _, .int _ => binop op x y h
        | _, _ => none) h).bind fun z h => .ok (.nx (env.set i (some z))) h
    | _ => .bad := by rw [dS] <;> rfl
@[simp] theorem x_while {n : Nat} {c : IE} {b : ISs} : dS ctx (.while_ n c b) env h = whileGo (dT ctx c) (dSs ctx b) n env h := by rw [dS]
@[simp] theorem x_zip {a b : IE} : dI ctx (.zip a b) env h = (dE ctx a env h).bind fun v h => (dE ctx b env h).bind fun w h => (R.of (zipSrc h v w) h).bind fun p h => .ok (zipOf p.1.1 p.1.2, p.2) h := by rw [dI]
@[simp] theorem x_items {d : IE} : dI ctx (.items d) env h = (dE ctx d env h).bind fun v h => (R.of (dictSrc h v) h).bind fun p h => .ok (p.1.map fun e => .tup [e.1, e.2], p.2) h := by rw [dI]
@[simp] theorem x_tg {t : Tg} {v : PV} : dTg ctx (.tg t) v env h = R.of (tgSet t v env) h := by rw [dTg]
@[simp] theorem x_tsub {o i : IE} {v : PV} : dTg ctx (.sub o i) v env h = (dE ctx o env h).bind fun x h => (dE ctx i env h).bind fun y h => match putItem h x y v with
    | some h' => .ok env h'
    | none => .bad := by rw [dTg] <;> rfl
@[simp] theorem x_tgs0 : dTgs ctx [] [] env h = .ok env h := by rw [dTgs]
@[simp] theorem x_tgs {t : ITgt} {ts : List ITgt} {v : PV} {vs : List PV} : dTgs ctx (t :: ts) (v :: vs) env h = (dTg ctx t v env h).bind fun env h => dTgs ctx ts vs env h := by rw [dTgs]
@[simp] theorem x_expr {e : IE} : dS ctx (.expr e) env h = (dE ctx e env h).bind fun _ h => .ok (.nx env) h := by rw [dS]
@[simp] theorem x_asg {t : ITgt} {e : IE} : dS ctx (.asg t e) env h = (dE ctx e env h).bind fun v h => (dTg ctx t v env h).bind fun env h => .ok (.nx env) h := by rw [dS]
@[simp] theorem x_par {ts : List ITgt} {es : IEs} : dS ctx (.par ts es) env h = (dEs ctx es env h).bind fun vs h => (dTgs ctx ts vs env h).bind fun env h => .ok (.nx env) h := by rw [dS]
@[simp] theorem x_ret {e : IE} : dS ctx (.ret e) env h = (dE ctx e env h).bind fun v h => .ok (.rt v) h := by rw [dS]
@[simp] theorem x_ifs {c : IE} {a b : ISs} : dS ctx (.ifs c a b) env h = (dT ctx c env h).bind fun t h => if t then dSs ctx a env h else dSs ctx b env h := by rw [dS]
@[simp] theorem x_for {tg : Tg} {it : II} {b : ISs} : dS ctx (.for_ tg it b) env h = withLock (lockI it env h) (fun h => (dI ctx it env h).bind fun p h => forGo p.2 (tgSet tg) (dSs ctx b) p.1 env h) h := by rw [dS]
@[simp] theorem x_snil : dSs ctx .nil env h = .ok (.nx env) h := by rw [dSs]
@[simp] theorem x_scons {s : IS} {ss : ISs} : dSs ctx (.cons s ss) env h = (dS ctx s env h).bind fun o h => match o with
    | .nx env => dSs ctx ss env h
    | o => .ok o h := by rw [dSs] <;> rfl
@[simp] theorem x_T {e : IE} : dT ctx e env h = (dE ctx e env h).bind fun v h => R.of (tru h v) h := rfl
@[simp] theorem x_tnm {i : Nat} {v : PV} : tgSet (.nm i) v env = if i < env.length then some (env.set i (some v)) else none := by rw [tgSet]
@[simp] theorem x_ttp {ts : List Tg} {xs : List PV} : tgSet (.tp ts) (.tup xs) env = if xs.length = ts.length then tgSets ts xs env else none := by rw [tgSet]
@[simp] theorem x_tns0 {xs : List PV} : tgSets [] xs env = some env := by rw [tgSets]
@[simp] theorem x_tns {t : Tg} {ts : List Tg} {x : PV} {xs : List PV} : tgSets (t :: ts) (x :: xs) env = match tgSet t x env with
    | some env1 => tgSets ts xs env1
    | none => none := by rw [tgSets] <;> rfl
@[simp] theorem x_w0 : wipeE env [] = env := rfl
@[simp] theorem x_w {v : Nat} {vs : List Nat} : wipeE env (v :: vs) = (wipeE env vs).set v none := rfl
@[simp] theorem x_lk {α : Type} {f : PHeap → R α} : withLock none f h = f h := rfl
@[simp] theorem x_lkv {i : Nat} : lockI (.ex (.var i)) env h = lockV i env h := rfl
@[simp] theorem x_lkr {e : IE} : lockI (.rng1 e) env h = none := rfl
@[simp] theorem x_lkz {a b : IE} : lockI (.zip a b) env h = none := rfl
@[simp] theorem x_lkc {f : Nat} {es : IEs} : lockI (.ex (.call f es)) env h = none := rfl
@[simp] theorem x_lki {i : Nat} : lockI (.items (.var i)) env h = lockV i env h := rfl
@[simp] theorem x_mkf {vs : List PV} : mkList false vs h = .ok (.lst vs) h := rfl
@[simp] theorem x_mkt {vs : List PV} : mkList true vs h = .ok (.ref h.length) (h ++ [.lst vs]) := rfl
@[simp] theorem x_mdf {vs : List (PV × PV)} : mkDict false vs h = .ok (.dct vs) h := rfl
@[simp] theorem x_mdt {vs : List (PV × PV)} : mkDict true vs h = .ok (.ref h.length) (h ++ [.dct vs]) := rfl
@[simp] theorem x_wt {xs : List PV} : walkSrc h (.tup xs) = some (xs, fun _ => true) := rfl
@[simp] theorem x_wl {xs : List PV} : walkSrc h (.lst xs) = some (xs, fun _ => true) := rfl
@[simp] theorem x_wd {es : List (PV × PV)} : walkSrc h (.dct es) = some (es.map (·.1), fun _ => true) := rfl
@[simp] theorem x_wI {f : Fc} : walkSrc h (tI f) = some (f.map .int, fun _ => true) := rfl
@[simp] theorem x_intOf {i : Int} : intOf (.int i) = some i := rfl
@[simp] theorem x_trb {c : Bool} : tru h (.bl c) = some c := rfl
@[simp] theorem x_tri {i : Int} : tru h (.int i) = some (i != 0) := rfl
@[simp] theorem x_trl {xs : List PV} : tru h (.lst xs) = some (!xs.isEmpty) := rfl
@[simp] theorem x_trt {xs : List PV} : tru h (.tup xs) = some (!xs.isEmpty) := rfl
@[simp] theorem x_trI {f : Fc} : tru h (tI f) = some (!f.isEmpty) := by
  show some (!(f.map PV.int).isEmpty) = _
  simp
@[simp] theorem x_eq {a b : PV} : cmpop .eq a b h = pyEq h a b := rfl
@[simp] theorem x_ne {a b : PV} : cmpop .ne a b h = (pyEq h a b).map (!·) := rfl
@[simp] theorem x_lt {a b : PV} : cmpop .lt a b h = pyOrd .lt h a b := rfl
@[simp] theorem x_lti {a b : Int} : pyOrd .lt h (.int a) (.int b) = some (decide (a < b)) := rfl
@[simp] theorem x_lei {a b : Int} : cmpop .le (.int a) (.int b) h = some (decide (a ≤ b)) := rfl
@[simp] theorem x_gti {a b : Int} : cmpop .gt (.int a) (.int b) h = some (decide (b < a)) := rfl
@[simp] theorem x_gei {a b : Int} : cmpop .ge (.int a) (.int b) h = some (decide (b ≤ a)) := rfl
@[simp] theorem x_isin {a b : PV} : cmpop .isin a b h = isIn h a b := rfl
@[simp] theorem x_lenl {xs : List PV} : bltop .len [.lst xs] h = some (.int xs.length) := rfl
@[simp] theorem x_lent {xs : List PV} : bltop .len [.tup xs] h = some (.int xs.length) := rfl
@[simp] theorem x_lenI {f : Fc} : bltop .len [tI f] h = some (.int f.length) := by
  show some (PV.int (f.map PV.int).length) = _
  simp
@[simp] theorem x_add {a b : Int} : binop .add (.int a) (.int b) h = some (.int (a + b)) := rfl
@[simp] theorem x_subi {a b : Int} : binop .sub (.int a) (.int b) h = some (.int (a - b)) := rfl
@[simp] theorem x_in1 {a : Int} : bltop .int [.int a] h = some (.int a) := rfl
@[simp] theorem x_in2 {a : Bool} : bltop .int [.bl a] h = some (.int (if a then 1 else 0)) := rfl
theorem x_isi {T : String} {v : PV} : bltop (.isi T) [v] h = if tyNames.contains T then (tyOf h v).map fun t => .bl (isTy t T) else none := rfl
section
variable {xs : List PV} {i : Int} {c : Bool} {f : Fc}
@[simp] theorem y1 : bltop (.isi "tuple") [.tup xs] h = some (.bl true) := rfl
@[simp] theorem y2 : bltop (.isi "tuple") [.lst xs] h = some (.bl false) := rfl
@[simp] theorem y3 : bltop (.isi "tuple") [.int i] h = some (.bl false) := rfl
@[simp] theorem y4 : bltop (.isi "tuple") [.bl c] h = some (.bl false) := rfl
@[simp] theorem y5 : bltop (.isi "tuple") [.non] h = some (.bl false) := rfl
@[simp] theorem y6 : bltop (.isi "tuple") [tI f] h = some (.bl true) := rfl
@[simp] theorem y7 {s : Str} : bltop (.isi "tuple") [.str s] h = some (.bl false) := rfl
@[simp] theorem z10 {s : Str} : bltop (.isi "str") [.str s] h = some (.bl true) := rfl
@[simp] theorem z11 : bltop (.isi "str") [tI f] h = some (.bl false) := rfl
@[simp] theorem z12 {s : Str} : bltop (.isi "bool") [.str s] h = some (.bl false) := rfl
@[simp] theorem z13 {s : Str} : bltop (.isiT ["int", "str"]) [.str s] h = some (.bl true) := rfl
@[simp] theorem z14 {s : Str} : cmpop .is (.str s) .non h = some false := by simp [cmpop]
@[simp] theorem z1 : bltop (.isi "str") [.tup xs] h = some (.bl false) := rfl
@[simp] theorem z2 : bltop (.isi "str") [.lst xs] h = some (.bl false) := rfl
@[simp] theorem z3 : bltop (.isi "str") [.int i] h = some (.bl false) := rfl
@[simp] theorem z4 : bltop (.isi "str") [.bl c] h = some (.bl false) := rfl
@[simp] theorem z5 : bltop (.isi "str") [.non] h = some (.bl false) := rfl
@[simp] theorem z6 : bltop (.isi "bool") [.int i] h = some (.bl false) := rfl
@[simp] theorem z7 : bltop (.isi "bool") [.bl c] h = some (.bl true) := rfl
@[simp] theorem z8 : bltop (.isiT ["int", "str"]) [.int i] h = some (.bl true) := rfl
@[simp] theorem z9 : cmpop .is (.int i) .non h = some false := by simp [cmpop]
end
theorem x_ibool {c : Bool} : bltop (.isi "bool") [.bl c] h = some (.bl true) := rfl
end
/-! walks *)-/
theorem comp_enc {τ : Type} {enc : τ → PV} {h : PHeap} {chk : Chk} {tg : PV → HW.Env → Option HW.Env} {ok : HW.Env → PHeap → R Bool} {elt : HW.Env → PHeap → R PV} {env : HW.Env} (p : τ → Bool) (f : τ → PV) (hc : chk h = true) :
    ∀ (ts : List τ) (acc : List PV), (∀ t ∈ ts, ∃ e1, tg (enc t) env = some e1 ∧ ok e1 h = .ok (p t) h ∧ (p t = true → elt e1 h = .ok (f t) h)) → acc.length + ts.length ≤ LIM →
      compGo chk tg ok elt env (ts.map enc) h acc = .ok (acc ++ (ts.filter p).map f) h
  | [], acc, _, _ => by simp [compGo, hc]
  | t :: ts, acc, hx, hl => by
    obtain ⟨e1, q1, q2, q3⟩ := hx t (List.mem_cons_self ..)
    simp only [List.length_cons] at hl
    have r : ∀ y ∈ ts, _ := fun y hy => hx y (List.mem_cons_of_mem _ hy)
    rw [List.map_cons]
    cases hp : p t with
    | true =>
      have ih := comp_enc p f hc ts (acc ++ [f t]) r (by simp; omega)
      simp only [compGo, hc, if_true, q1, q2, hp, R.bind_ok, q3 hp]
      rw [if_pos (by omega), ih]
      simp [hp]
    | false =>
      have ih := comp_enc p f hc ts acc r (by omega)
      simp [compGo, hc, q1, q2, hp, ih]
/-- without a test *)-/
theorem comp_map {τ : Type} {enc : τ → PV} {ctx : List Sem} {h : PHeap} {chk : Chk} {tg : PV → HW.Env → Option HW.Env} {elt : HW.Env → PHeap → R PV} {env : HW.Env} (f : τ → PV) (hc : chk h = true) (ts : List τ)
    (hx : ∀ t ∈ ts, ∃ e1, tg (enc t) env = some e1 ∧ elt e1 h = .ok (f t) h) (hl : ts.length ≤ LIM) :
      compGo chk tg (dIfs ctx .nil) elt env (ts.map enc) h [] = .ok (ts.map f) h := by
  rw [comp_enc (fun _ => true) f hc ts [] (fun t ht => let ⟨e1, q1, q2⟩ := hx t ht; ⟨e1, q1, by simp, fun _ => q2⟩) (by simpa using hl), List.filter_eq_self.mpr fun _ _ => rfl]
  rfl
theorem asBools_enc {τ : Type} (f : τ → Bool) : ∀ xs : List τ, asBools (xs.map fun x => .bl (f x)) = some (xs.map f)
  | [] => rfl
  | x :: xs => by simp [asBools, asBools_enc f xs]
theorem all_enc {τ : Type} {h : PHeap} {al : Bool} (f : τ → Bool) (xs : List τ) : convop .all al (.lst (xs.map fun x => .bl (f x))) h = .ok (.bl (xs.all f)) h := by
  simp [convop, asList, asBools_enc, List.all_map]
theorem any_enc {τ : Type} {h : PHeap} {al : Bool} (f : τ → Bool) (xs : List τ) : convop .any al (.lst (xs.map fun x => .bl (f x))) h = .ok (.bl (xs.any f)) h := by
  simp [convop, asList, asBools_enc, List.any_map]
theorem for_inv {τ α : Type} {enc : τ → PV} {chk : Chk} {tg : PV → HW.Env → Option HW.Env} {body : HW.Env → PHeap → R Out} (step : α → τ → α) (I : List τ → α → HW.Env → PHeap → Prop)
    (hc : ∀ ts a env h, I ts a env h → chk h = true)
    (hs : ∀ t ts a env h, I (t :: ts) a env h → ∃ e1, tg (enc t) env = some e1 ∧ ∃ e2 h2, body e1 h = .ok (.nx e2) h2 ∧ I ts (step a t) e2 h2) :
    ∀ ts a env h, I ts a env h → ∃ env' h', forGo chk tg body (ts.map enc) env h = .ok (.nx env') h' ∧ I [] (ts.foldl step a) env' h'
  | [], a, env, h, i => ⟨env, h, by simp [forGo, hc _ _ _ _ i], i⟩
  | t :: ts, a, env, h, i => by
    obtain ⟨e1, q1, e2, h2, q2, i2⟩ := hs t ts a env h i
    obtain ⟨env', h', q3, i3⟩ := for_inv step I hc hs ts (step a t) e2 h2 i2
    exact ⟨env', h', by simp [forGo, hc _ _ _ _ i, q1, q2, q3], i3⟩
/-- a walk that may return: the first one that is bad *)-/
theorem for_all {τ : Type} {enc : τ → PV} {chk : Chk} {tg : PV → HW.Env → Option HW.Env} {body : HW.Env → PHeap → R Out} {h : PHeap} {v : PV} (p : τ → Bool) (I : HW.Env → Prop) (hc : chk h = true)
    (hs : ∀ t env, I env → ∃ e1, tg (enc t) env = some e1 ∧ (p t = false → body e1 h = .ok (.rt v) h) ∧ (p t = true → ∃ e2, body e1 h = .ok (.nx e2) h ∧ I e2)) :
    ∀ (ts : List τ) (env : HW.Env), I env → (ts.all p = false → forGo chk tg body (ts.map enc) env h = .ok (.rt v) h) ∧ (ts.all p = true → ∃ env', forGo chk tg body (ts.map enc) env h = .ok (.nx env') h ∧ I env')
  | [], env, i => ⟨by simp, fun _ => ⟨env, by simp [forGo, hc], i⟩⟩
  | t :: ts, env, i => by
    obtain ⟨e1, q1, q2, q3⟩ := hs t env i
    cases hp : p t with
    | false => exact ⟨fun _ => by simp [forGo, hc, q1, q2 hp], by simp [hp]⟩
    | true =>
      obtain ⟨e2, q4, i2⟩ := q3 hp
      obtain ⟨r1, r2⟩ := for_all p I hc hs ts e2 i2
      refine ⟨fun a => ?_, fun a => ?_⟩
      · simp only [List.all_cons, hp, Bool.true_and] at a
        simp [forGo, hc, q1, q4, r1 a]
      · simp only [List.all_cons, hp, Bool.true_and] at a
        obtain ⟨env', r3, r4⟩ := r2 a
        exact ⟨env', by simp [forGo, hc, q1, q4, r3], r4⟩
/-- a function that has left new cells behind *)-/
theorem finish_ext {h t : PHeap} {v : PV} (hv : below h.length v = true) : HW.finish false h v (h ++ t) = .ok v h := by
  have h1 : okOuter h (h ++ t) = true := by
    unfold okOuter
    rw [List.all_eq_true]
    intro m hm
    rw [List.mem_range] at hm
    rw [List.getElem?_append_left hm]
    simp
  have h2 : frz (h ++ t) h.length 12 v = some v := by
    unfold frz
    rw [if_pos hv]
  unfold HW.finish
  rw [h1, h2]
  simp
end K12
namespace K12
open PySem HW
section
variable {h : PHeap}
theorem x_addl {x y : List PV} (q : x.length + y.length ≤ LIM) : binop .add (.lst x) (.lst y) h = some (.lst (x ++ y)) := by
  show (if x.length + y.length ≤ LIM then some (PV.lst (x ++ y)) else none) = _
  rw [if_pos q]
theorem x_addt {x y : List PV} (q : x.length + y.length ≤ LIM) : binop .add (.tup x) (.tup y) h = some (.tup (x ++ y)) := by
  show (if x.length + y.length ≤ LIM then some (PV.tup (x ++ y)) else none) = _
  rw [if_pos q]
theorem x_addI {f : Fc} {c : Int} (q : f.length < LIM) : binop .add (tI f) (.tup [.int c]) h = some (tI (f ++ [c])) := by
  unfold tI
  rw [x_addt (by simp; exact q)]
  simp
@[simp] theorem x_sl1 {xs : List PV} : sliceOf h (.lst xs) (some 1) none = some (.lst (xs.drop 1)) := by
  show some (PV.lst (cut xs (some 1) none)) = _
  rw [cut_tail]
@[simp] theorem x_st1 {xs : List PV} : sliceOf h (.tup xs) (some 1) none = some (.tup (xs.drop 1)) := by
  show some (PV.tup (cut xs (some 1) none)) = _
  rw [cut_tail]
theorem below_lst_tI (n : Nat) (ks : List Fc) : below n (.lst (ks.map tI)) = true := below_tame n 2 _ (by rw [tame]; exact tame_tIs 0 ks)
theorem below_tup_tI (n : Nat) (ks : List Fc) : below n (.tup (ks.map tI)) = true := below_tame n 2 _ (by rw [tame]; exact tame_tIs 0 ks)
theorem parts_loop {ctx : List Sem} {v : PV} {f : Fc} (hl : f.length ≤ 12) :
    ∃ c, forGo (fun _ => true) (tgSet (.nm 2)) (dSs ctx (.cons (.asg (.tg (.nm 1)) (.bin .add (.var 1) (.comp false [3] (.nm 3) (.ex (.var 1)) .nil (.bin .add (.var 3) (.tup (.cons (.var 2) .nil)))))) .nil)) (f.map .int) [some v, some (.lst [.tup []]), none, none] h =
      .ok (.nx [some v, some (.lst ((subs f).map tI)), c, none]) h := by
  have := for_inv (enc := PV.int) (chk := fun _ => true) (tg := tgSet (.nm 2)) (body := dSs ctx (.cons (.asg (.tg (.nm 1)) (.bin .add (.var 1) (.comp false [3] (.nm 3) (.ex (.var 1)) .nil (.bin .add (.var 3) (.tup (.cons (.var 2) .nil)))))) .nil))
    (step := fun (acc : List Fc) c => acc ++ acc.map (· ++ [c]))
    (I := fun ts acc env g => g = h ∧ (∃ c, env = [some v, some (.lst (acc.map tI)), c, none]) ∧ acc.length * 2 ^ ts.length ≤ 4096 ∧ ∀ a ∈ acc, a.length + ts.length ≤ 12)
    (fun _ _ _ _ _ => rfl) (by
      rintro t ts a env g ⟨rfl, ⟨c, rfl⟩, h1, h2⟩
      have l : a.length * 2 ≤ 4096 := by
        rw [List.length_cons, Nat.pow_succ] at h1
        have : 1 ≤ 2 ^ ts.length := Nat.one_le_two_pow
        have : a.length * 2 ≤ a.length * (2 ^ ts.length * 2) := Nat.mul_le_mul_left _ (by omega)
        omega
      refine ⟨[some v, some (.lst (a.map tI)), some (.int t), none], by simp, [some v, some (.lst ((a ++ a.map (· ++ [t])).map tI)), some (.int t), none], g, ?_, rfl, ⟨_, rfl⟩, ?_, ?_⟩
      · simp [lockV]
        rw [comp_map (fun a => tI (a ++ [t])) rfl _ (fun b hb => ⟨_, by simp; rfl, by
          have := h2 b hb
          simp
          rw [x_addI (by simp [LIM]; omega)]
          rfl⟩) (by simp [LIM]; omega)]
        simp
        rw [x_addl (by simp [LIM]; omega)]
        simp
      · simp only [List.length_append, List.length_map]
        rw [List.length_cons, Nat.pow_succ] at h1
        rw [← Nat.mul_two, Nat.mul_assoc, Nat.mul_comm 2]
        exact h1
      · intro b hb
        rcases List.mem_append.mp hb with q | q
        · have := h2 b q
          simp only [List.length_cons] at this
          omega
        · obtain ⟨d, hd, rfl⟩ := List.mem_map.mp q
          have := h2 d hd
          simp only [List.length_cons] at this
          simp
          omega) f [[]] [some v, some (.lst [.tup []]), none, none] h ⟨rfl, ⟨none, rfl⟩, by
        have : 2 ^ f.length ≤ 2 ^ 12 := Nat.pow_le_pow_right (by decide) hl
        simpa using this, by simpa using hl⟩
  obtain ⟨env', h', q, rfl, ⟨c, rfl⟩, _⟩ := this
  exact ⟨c, q⟩
theorem length_subs (f : Fc) : (subs f).length = 2 ^ f.length := by
  unfold subs
  rw [length_subsG]
  simp
theorem parts_ev {f : Fc} (hl : f.length ≤ 12) : s_parts_of_face [tI f] h = .ok (.lst ((parts f).map tI)) h := by
  obtain ⟨c, q⟩ := parts_loop (ctx := []) (v := tI f) (h := h) hl
  rw [show tI f = .tup (f.map .int) from rfl] at q ⊢
  simp [s_parts_of_face, runFn, if_parts_of_face, lockV]
  rw [q]
  simp
  rw [show ((subs f).map tI).tail = (parts f).map tI from by simp [parts]]
  exact finish_same (below_lst_tI _ _)
theorem law_parts_ev {f : Fc} (hl : f.length ≤ 12) : s__law_parts_of [tI f] h = .ok (.lst ((parts f).map tI)) h := by
  obtain ⟨c, q⟩ := parts_loop (ctx := []) (v := tI f) (h := h) hl
  have l : (subs f).length ≤ 4096 := by
    rw [length_subs]
    exact Nat.pow_le_pow_right (n := 2) (by decide) hl
  rw [show tI f = .tup (f.map .int) from rfl] at q ⊢
  simp [s__law_parts_of, runFn, if__law_parts_of, lockV]
  rw [q]
  simp [lockV]
  rw [comp_enc (fun a : Fc => !a.isEmpty) tI rfl _ _ (fun b hb => ⟨_, by simp; rfl, by simp; cases b <;> simp, fun _ => by simp⟩) (by simp [LIM]; omega)]
  simp [parts_eq]
  exact finish_same (below_lst_tI _ _)
end
end K12
namespace K12
open PySem HW
section
variable {h : PHeap}
@[simp] theorem ite_ok {p : Prop} [Decidable p] : (if p then R.ok true h else R.ok false h) = R.ok (decide p) h := by
  split <;> simp [*]
theorem mapM_frz {g : PHeap} {n k : Nat} : ∀ {xs : List PV}, (∀ x ∈ xs, below n x = true) → xs.mapM (frz g n (k + 1)) = some xs
  | [], _ => rfl
  | x :: xs, hx => by
    rw [List.mapM_cons, mapM_frz (xs := xs) fun y hy => hx y (List.mem_cons_of_mem _ hy)]
    have : frz g n (k + 1) x = some x := by
      unfold frz
      rw [if_pos (hx x (List.mem_cons_self ..))]
    rw [this]
    rfl
theorem belows_all {n : Nat} : ∀ {xs : List PV}, (∀ x ∈ xs, below n x = true) → belows n xs = true
  | [], _ => rfl
  | x :: xs, hx => by
    rw [belows, hx x (List.mem_cons_self ..), belows_all fun y hy => hx y (List.mem_cons_of_mem _ hy)]
    rfl
theorem zip_fst_snd {α β : Type} : ∀ es : List (α × β), (es.map (·.1)).zip (es.map (·.2)) = es
  | [] => rfl
  | e :: es => by simp [zip_fst_snd es]
theorem at_last {c : Cell} : (h ++ [c])[h.length]? = some c := by simp
theorem set_last {c d : Cell} : (h ++ [c]).set h.length d = h ++ [d] := by
  rw [List.set_append_right _ _ (Nat.le_refl _)]
  simp
theorem finish_dct {es : List (PV × PV)} (hk : ∀ e ∈ es, below h.length e.1 = true ∧ below h.length e.2 = true) : HW.finish false h (.ref h.length) (h ++ [.dct es]) = .ok (.dct es) h := by
  have h1 : okOuter h (h ++ [.dct es]) = true := by
    unfold okOuter
    rw [List.all_eq_true]
    intro m hm
    rw [List.mem_range] at hm
    rw [List.getElem?_append_left hm]
    simp
  have h2 : frz (h ++ [.dct es]) h.length 12 (.ref h.length) = some (.dct es) := by
    unfold frz
    have n : below h.length (.ref h.length) = false := by simp [below]
    rw [n]
    simp only [Bool.false_eq_true, if_false, at_last]
    rw [if_pos (belows_all fun x hx => by
      obtain ⟨e, he, rfl⟩ := List.mem_map.mp hx
      exact (hk e he).1)]
    unfold frzs
    rw [mapM_frz (k := 9) fun x hx => by
      obtain ⟨e, he, rfl⟩ := List.mem_map.mp hx
      exact (hk e he).2]
    simp [zip_fst_snd]
  unfold HW.finish
  rw [h1, h2]
  simp
theorem put_dct {es : List (PV × PV)} {k v : PV} (hk : keyOk es k = true) (hl : es.length < LIM) : putItem (h ++ [.dct es]) (.ref h.length) k v = some (h ++ [.dct (dPut es k v)]) := by
  unfold putItem
  simp only [at_last]
  rw [hk]
  simp [hl, set_last]
theorem put_db {S : List Fc} {f : Fc} (hl : S.length < LIM) : putItem (h ++ [.dct (db S)]) (.ref h.length) (tI f) (.bl true) = some (h ++ [.dct (db (ins S f))]) := by
  rw [put_dct (keyOk_tI (db_keys S) f) (by simpa [db] using hl), db_put]
structure Sm (s : List Fc) : Prop where
  n : s.length ≤ 64
  l : ∀ f ∈ s, f.length ≤ 12
theorem ins_inner {ctx : List Sem} {v : PV} {f : Fc} {S fs : List Fc} {d : Option PV} (hl : S.length + fs.length ≤ 1000000) :
    ∃ d', forGo (fun _ => true) (tgSet (.nm 3)) (dSs ctx (.cons (.asg (.sub (.var 1) (.var 3)) (.cst (.bl true))) .nil)) (fs.map tI) [some v, some (.ref h.length), some (tI f), d] (h ++ [.dct (db S)]) =
      .ok (.nx [some v, some (.ref h.length), some (tI f), d']) (h ++ [.dct (db (insA S fs))]) := by
  obtain ⟨e, g, q, rfl, ⟨d', rfl⟩, _⟩ := for_inv (enc := tI) (chk := fun _ => true) (tg := tgSet (.nm 3)) (body := dSs ctx (.cons (.asg (.sub (.var 1) (.var 3)) (.cst (.bl true))) .nil))
    (step := ins) (I := fun ts S env g => g = h ++ [.dct (db S)] ∧ (∃ d, env = [some v, some (.ref h.length), some (tI f), d]) ∧ S.length + ts.length ≤ 1000000)
    (fun _ _ _ _ _ => rfl) (by
      rintro t ts a env g ⟨rfl, ⟨c, rfl⟩, h1⟩
      refine ⟨[some v, some (.ref h.length), some (tI f), some (tI t)], by simp, [some v, some (.ref h.length), some (tI f), some (tI t)], h ++ [.dct (db (ins a t))], ?_, rfl, ⟨_, rfl⟩, ?_⟩
      · simp only [List.length_cons] at h1
        simp [put_db (show a.length < LIM by simp [LIM]; omega)]
      · have := length_ins (S := a) (f := t)
        simp only [List.length_cons] at h1
        omega) fs S [some v, some (.ref h.length), some (tI f), d] _ ⟨rfl, ⟨d, rfl⟩, hl⟩
  exact ⟨d', q⟩
theorem faces_loop {sem : Sem} (hsem : ∀ (f : Fc) (g : PHeap), f.length ≤ 12 → sem [tI f] g = .ok (.lst ((parts f).map tI)) g) {v : PV} {s : List Fc} (hs : Sm s) :
    ∃ c d, forGo (fun _ => true) (tgSet (.nm 2)) (dSs [sem] (.cons (.for_ (.nm 3) (.ex (.call 0 (.cons (.var 2) .nil))) (.cons (.asg (.sub (.var 1) (.var 3)) (.cst (.bl true))) .nil)) .nil)) (s.map tI) [some v, some (.ref h.length), none, none] (h ++ [.dct []]) =
      .ok (.nx [some v, some (.ref h.length), c, d]) (h ++ [.dct (db (allF s))]) := by
  obtain ⟨e, g, q, rfl, ⟨c, d, rfl⟩, _⟩ := for_inv (enc := tI) (chk := fun _ => true) (tg := tgSet (.nm 2)) (body := dSs [sem] (.cons (.for_ (.nm 3) (.ex (.call 0 (.cons (.var 2) .nil))) (.cons (.asg (.sub (.var 1) (.var 3)) (.cst (.bl true))) .nil)) .nil))
    (step := fun S f => insA S (parts f)) (I := fun ts S env g => g = h ++ [.dct (db S)] ∧ (∃ c d, env = [some v, some (.ref h.length), c, d]) ∧ S.length + ts.length * 4096 ≤ 300000 ∧ ∀ f ∈ ts, f.length ≤ 12)
    (fun _ _ _ _ _ => rfl) (by
      rintro t ts a env g ⟨rfl, ⟨c, d, rfl⟩, h1, h2⟩
      have l1 := h2 t (List.mem_cons_self ..)
      have l2 := length_parts t
      have l3 : 2 ^ t.length ≤ 2 ^ 12 := Nat.pow_le_pow_right (by decide) l1
      simp only [List.length_cons, Nat.add_mul] at h1
      obtain ⟨d', q⟩ := ins_inner (h := h) (ctx := [sem]) (v := v) (f := t) (S := a) (fs := parts t) (d := d) (by omega)
      refine ⟨[some v, some (.ref h.length), some (tI t), d], by simp, [some v, some (.ref h.length), some (tI t), d'], h ++ [.dct (db (insA a (parts t)))], ?_, rfl, ⟨_, _, rfl⟩, ?_, fun f hf => h2 f (List.mem_cons_of_mem _ hf)⟩
      · simp [hsem t _ l1, q]
      · have := length_insA (fs := parts t) (S := a)
        omega) s [] [some v, some (.ref h.length), none, none] (h ++ [.dct []]) ⟨rfl, ⟨_, _, rfl⟩, by have := hs.n; simp; omega, hs.l⟩
  exact ⟨c, d, q⟩
theorem below_tI (n : Nat) (f : Fc) : below n (tI f) = true := below_tame n 1 _ (tame_tI 0 f)
theorem all_faces_ev {s : List Fc} (hs : Sm s) : s_all_faces [.tup (s.map tI)] h = .ok (.dct (db (allF s))) h := by
  obtain ⟨c, d, q⟩ := faces_loop (h := h) (sem := s_parts_of_face) (fun f g hl => parts_ev hl) (v := .tup (s.map tI)) hs
  simp [s_all_faces, runFn, if_all_faces, lockV]
  rw [q]
  simp
  exact finish_dct fun e he => by
    obtain ⟨f, _, rfl⟩ := List.mem_map.mp he
    exact ⟨below_tI _ f, rfl⟩
def sortF (l : List Fc) : List Fc := l.mergeSort leR
theorem sortOk_tI {ks : List Fc} (hne : ∀ k ∈ ks, k ≠ []) : sortOk (ks.map tI) = true := by
  have al : ∀ a b : List Int, PySem.W.alikeAll (a.map .int) (b.map .int) = true := by
    intro a
    induction a with
    | nil => intro b; simp [PySem.W.alikeAll]
    | cons x a ih => intro b; cases b <;> simp [PySem.W.alikeAll, PySem.W.alike, ih]
  have dp : ∀ a : List Int, PyData.depthAll (a.map .int) = 0 := by
    intro a
    induction a with
    | nil => simp [PyData.depthAll]
    | cons x a ih => simp [PyData.depthAll, PyData.depth, ih]
  unfold sortOk
  rw [toD_tIs]
  simp only [Bool.and_eq_true, Bool.or_eq_true]
  refine ⟨⟨?_, ?_⟩, .inl ?_⟩
  · simp [List.all_eq_true, PySem.W.alike, al]
  · simp [List.all_eq_true, PyData.depth, dp]
  · simp only [List.all_map, List.all_eq_true]
    intro k hk
    have := hne k hk
    cases k with
    | nil => exact absurd rfl this
    | cons x k => rfl
theorem db_fst (S : List Fc) : (db S).map (·.1) = S.map tI := by simp [db]
theorem allF_ne {s : List Fc} : ∀ k ∈ allF s, k ≠ [] := fun k hk => by
  obtain ⟨_, _, h, _⟩ := mem_allF.mp hk
  exact h
theorem law_faces_ev {s : List Fc} (hs : Sm s) : s__law_faces [.tup (s.map tI)] h = .ok (.lst ((sortF (allF s)).map tI)) h := by
  obtain ⟨c, d, q⟩ := faces_loop (h := h) (sem := s__law_parts_of) (fun f g hl => law_parts_ev hl) (v := .tup (s.map tI)) hs
  simp [s__law_faces, runFn, if__law_faces, lockV]
  rw [q]
  have e : anySrc (h ++ [.dct (db (allF s))]) (.ref h.length) = some ((allF s).map tI) := by
    simp [anySrc, srcOf, db]
  simp [convop, e, sortOk_tI allF_ne, sortV_tups]
  exact finish_ext (below_lst_tI _ _)
theorem mem_sortF {l : List Fc} {f : Fc} : f ∈ sortF l ↔ f ∈ l := List.mem_mergeSort
theorem sortF_perm (l : List Fc) : (sortF l).Perm l := List.mergeSort_perm l leR
def lvl (s : List Fc) (d : Int) : List Fc := (sortF (allF s)).filter fun f => decide ((f.length : Int) = d + 1)
theorem allF_small {s : List Fc} (hs : Sm s) : (allF s).length ≤ 262144 := by
  have := length_allG (m := 12) (s := s) (S := []) hs.l
  have h2 := hs.n
  unfold allF
  simp at this
  omega
theorem eq_int' {g : PHeap} (a b : Int) : pyEq g (.int a) (.int b) = some (decide (a = b)) := eq_int a b
theorem level_ev {s : List Fc} (hs : Sm s) (d : Int) : s__law_level [.tup (s.map tI), .int d] h = .ok (.lst ((lvl s d).map tI)) h := by
  have l := allF_small hs
  simp [s__law_level, runFn, if__law_level, lockV, law_faces_ev hs]
  rw [comp_enc (fun f : Fc => decide ((f.length : Int) = d + 1)) tI rfl _ _ (fun b hb => ⟨_, by simp; rfl, by simp [eq_int], fun _ => by simp⟩) (by
    rw [(sortF_perm _).length_eq]
    simp [LIM]
    omega)]
  simp
  exact finish_same (below_lst_tI _ _)
theorem sortF_filter (p : Fc → Bool) (l : List Fc) : (sortF l).filter p = sortF (l.filter p) := by
  refine sortR_eq ((sortF_perm l).filter p) ?_
  have : (sortF l).Pairwise (· ≤ ·) := (List.pairwise_mergeSort leR_trans leR_total l).imp fun h => of_decide_eq_true h
  exact this.filter p
theorem faces_of_ev {s : List Fc} (hs : Sm s) (d : Int) : s_faces_of [.tup (s.map tI), .int d] h = .ok (.tup ((lvl s d).map tI)) h := by
  have l := allF_small hs
  simp [s_faces_of, runFn, if_faces_of, lockV, all_faces_ev hs]
  rw [show (db (allF s)).map (fun x => x.1) = (allF s).map tI from db_fst _]
  rw [comp_enc (fun f : Fc => decide ((f.length : Int) = d + 1)) tI rfl _ _ (fun b hb => ⟨_, by simp; rfl, by simp [eq_int], fun _ => by simp⟩) (by
    simp [LIM]
    omega)]
  have e : ∀ {x : List PV}, anySrc h (.lst x) = some x := rfl
  have e2 : ∀ {x : List PV}, asSeq h (.lst x) = some x := rfl
  simp [convop, e]
  rw [sortOk_tI (fun k hk => allF_ne k (List.mem_filter.mp hk |>.1)), sortV_tups]
  simp [e2]
  rw [show ((allF s).filter fun f => decide ((f.length : Int) = d + 1)).mergeSort leR = lvl s d from (sortF_filter _ _).symm]
  exact finish_same (below_tup_tI _ _)
end
end K12
namespace K12
open PySem HW
section
variable {h : PHeap}
theorem cut_take (xs : List PV) (k : Nat) : cut xs none (some (k : Int)) = xs.take k := by
  unfold cut
  have e : HT.sIx xs.length xs.length (some (k : Int)) = min k xs.length := HT.sIx_nat _ _ k
  rw [e, HT.sIx_none]
  simp
theorem cut_drop (xs : List PV) (k : Nat) : cut xs (some (k : Int)) none = xs.drop k := by
  unfold cut
  have e : HT.sIx xs.length 0 (some (k : Int)) = min k xs.length := HT.sIx_nat _ _ k
  rw [e, HT.sIx_none]
  by_cases q : k ≤ xs.length
  · rw [Nat.min_eq_left q]
    rw [List.take_of_length_le (by simp)]
  · rw [Nat.min_eq_right (by omega), List.drop_of_length_le (Nat.le_refl _), List.drop_of_length_le (by omega)]
    simp
theorem x_slt {f : Fc} {k : Nat} : sliceOf h (tI f) none (some (k : Int)) = some (tI (f.take k)) := by
  show some (PV.tup (cut _ _ _)) = _
  rw [cut_take, ← List.map_take, tI]
theorem x_sld {f : Fc} {k : Nat} : sliceOf h (tI f) (some ((k : Int) + 1)) none = some (tI (f.drop (k + 1))) := by
  show some (PV.tup (cut _ _ _)) = _
  rw [show (k : Int) + 1 = ((k + 1 : Nat) : Int) by simp, cut_drop, ← List.map_drop, tI]
theorem x_addII {a b : Fc} (q : a.length + b.length ≤ LIM) : binop .add (tI a) (tI b) h = some (tI (a ++ b)) := by
  unfold tI
  rw [x_addt (by simpa using q)]
  simp
@[simp] theorem x_it0 {x : PV} {xs : List PV} : itemOf h (.tup (x :: xs)) (.int 0) = some x := L2.atI_nat (j := 0) rfl
@[simp] theorem x_it0l {x : PV} {xs : List PV} : itemOf h (.lst (x :: xs)) (.int 0) = some x := L2.atI_nat (j := 0) rfl
end
end K12
namespace K12
open PySem HW
/-! what is in order *)-/
theorem incr_iff {α : Type} (r : α → α → Prop) [DecidableRel r] (tr : ∀ a b c, r a b → r b c → r a c) : ∀ l : List α, (l.zip (l.drop 1)).all (fun p => decide (r p.1 p.2)) = true ↔ l.Pairwise r
  | [] => by simp
  | [a] => by simp
  | a :: b :: l => by
    have ih := incr_iff r tr (b :: l)
    simp only [List.drop_succ_cons, List.drop_zero] at ih ⊢
    rw [List.zip_cons_cons, List.all_cons, Bool.and_eq_true, ih, decide_eq_true_eq, List.pairwise_cons (a := a) (l := b :: l)]
    constructor
    · rintro ⟨h1, h2⟩
      refine ⟨fun x hx => ?_, h2⟩
      rcases List.mem_cons.mp hx with e | e
      · exact e ▸ h1
      · exact tr _ _ _ h1 ((List.pairwise_cons.mp h2).1 x e)
    · rintro ⟨h1, h2⟩
      exact ⟨h1 b (List.mem_cons_self ..), h2⟩
def incI (f : Fc) : Bool := (f.zip (f.drop 1)).all fun p => decide (p.1 < p.2)
def incF (ks : List Fc) : Bool := (ks.zip (ks.drop 1)).all fun p => decide (p.1 < p.2)
theorem incI_iff (f : Fc) : incI f = true ↔ f.Pairwise (· < ·) := incr_iff (· < ·) (fun _ _ _ => Int.lt_trans) f
theorem incF_iff (ks : List Fc) : incF ks = true ↔ ks.Pairwise (· < ·) := incr_iff (· < ·) (fun _ _ _ => List.lt_trans) ks
theorem flt_irrefl (a : Fc) : ¬ a < a := List.lt_irrefl a
theorem flt_of {a b : Fc} (h : a ≤ b) (hn : a ≠ b) : a < b := by
  by_cases q : a < b
  · exact q
  · exact absurd (List.le_antisymm h (List.not_lt.mp q)) hn
/-- two rows in order with the same ones are the same *)-/
theorem uniqF {a b : List Fc} (ha : a.Pairwise (· < ·)) (hb : b.Pairwise (· < ·)) (hm : ∀ k, k ∈ a ↔ k ∈ b) : a = b := by
  have ne : ∀ {x y : Fc}, x < y → x ≠ y := fun h e => by
    subst e
    exact flt_irrefl _ h
  have na : a.Nodup := ha.imp ne
  have nb : b.Nodup := hb.imp ne
  refine List.Perm.eq_of_pairwise (le := (· < ·)) (fun x y _ _ h1 h2 => absurd (List.lt_trans h1 h2) (flt_irrefl _)) ha hb ((List.perm_ext_iff_of_nodup na nb).mpr hm)
theorem uniqI {a b : List Int} (ha : a.Pairwise (· < ·)) (hb : b.Pairwise (· < ·)) (hm : ∀ k, k ∈ a ↔ k ∈ b) : a = b := by
  have na : a.Nodup := ha.imp fun h e => by omega
  have nb : b.Nodup := hb.imp fun h e => by omega
  refine List.Perm.eq_of_pairwise (le := (· < ·)) (fun x y _ _ h1 h2 => by omega) ha hb ((List.perm_ext_iff_of_nodup na nb).mpr hm)
theorem sortF_lt {l : List Fc} (hn : l.Nodup) : (sortF l).Pairwise (· < ·) := by
  have h1 : (sortF l).Pairwise (· ≤ ·) := (List.pairwise_mergeSort leR_trans leR_total l).imp fun h => of_decide_eq_true h
  have h2 : (sortF l).Nodup := (sortF_perm l).nodup_iff.mpr hn
  exact (List.Pairwise.and h1 h2).imp fun h => flt_of h.1 h.2
theorem sortI_lt {l : List Int} (hn : l.Nodup) : (l.mergeSort leI).Pairwise (· < ·) := by
  have h1 : (l.mergeSort leI).Pairwise (· ≤ ·) := (List.pairwise_mergeSort leI_trans leI_total l).imp fun h => of_decide_eq_true h
  have h2 : (l.mergeSort leI).Nodup := (List.mergeSort_perm l leI).nodup_iff.mpr hn
  exact (List.Pairwise.and h1 h2).imp fun h => by
    have := h.1
    have := h.2
    omega
/-- sorted(set(..)) *)-/
theorem rows_F (ks : List Fc) : ∃ rows : List Fc, sortV (dedup (ks.map tI)) = rows.map tI ∧ rows.Pairwise (· < ·) ∧ ∀ k, k ∈ rows ↔ k ∈ ks := by
  obtain ⟨ms, h1, h2, h3⟩ := dedup_tups ks
  refine ⟨sortF ms, ?_, sortF_lt h3, fun k => mem_sortF.trans (h2 k)⟩
  rw [h1, sortV_tups]
  rfl
theorem rows_I (ks : List Int) : ∃ rows : List Int, sortV (dedup (ks.map .int)) = rows.map .int ∧ rows.Pairwise (· < ·) ∧ ∀ k, k ∈ rows ↔ k ∈ ks := by
  obtain ⟨ms, h1, h2, h3⟩ := dedup_ints ks
  refine ⟨ms.mergeSort leI, ?_, sortI_lt h3, fun k => List.mem_mergeSort.trans (h2 k)⟩
  rw [h1, sortV_ints]
/-! the greatest ones *)-/
def wit (a b : Fc) : Bool := a.all fun c => decide (c ∈ b)
def top1 (rows : List Fc) (a : Fc) : Bool := !rows.any fun b => decide (a ≠ b) && wit a b
def AGB (ks : List Fc) : Bool := incF ks && ks.all (top1 ks)
theorem AGB_iff {ks rows : List Fc} (hr : rows.Pairwise (· < ·)) (hm : ∀ k, k ∈ rows ↔ k ∈ ks) : AGB ks = decide (ks = rows.filter (top1 rows)) := by
  rw [Bool.eq_iff_iff, decide_eq_true_eq]
  unfold AGB
  rw [Bool.and_eq_true, incF_iff]
  constructor
  · rintro ⟨h1, h2⟩
    have e : ks = rows := uniqF h1 hr fun k => (hm k).symm
    subst e
    rw [List.filter_eq_self.mpr fun a ha => List.all_eq_true.mp h2 a ha]
  · intro e
    have h1 : ks.Pairwise (· < ·) := e ▸ hr.filter _
    refine ⟨h1, List.all_eq_true.mpr fun a ha => ?_⟩
    have e2 : ks = rows := uniqF h1 hr fun k => (hm k).symm
    rw [e] at ha
    have := (List.mem_filter.mp ha).2
    rw [← e2] at this
    exact this
end K12
namespace K12
open PySem HW
def good (m : Nat) : Nat → PV → Bool
  | _, .non => true
  | _, .bl _ => true
  | _, .int _ => true
  | _, .str s => PyData.strOk s
  | n + 1, .tup xs => decide (xs.length ≤ m) && xs.all (good m n)
  | n + 1, .lst xs => decide (xs.length ≤ m) && xs.all (good m n)
  | _, _ => false
theorem good_tame {m : Nat} : ∀ {n : Nat} {v : PV}, good m n v = true → tame n v = true := by
  intro n
  induction n with
  | zero => intro v h; cases v <;> simp [good] at h <;> first | rfl | (rw [tame]; exact h)
  | succ n ih =>
    intro v h
    cases v with
    | tup xs =>
      simp only [good, Bool.and_eq_true, List.all_eq_true] at h
      rw [tame]
      exact tames_iff.mpr fun x hx => ih (h.2 x hx)
    | lst xs =>
      simp only [good, Bool.and_eq_true, List.all_eq_true] at h
      rw [tame]
      exact tames_iff.mpr fun x hx => ih (h.2 x hx)
    | _ => simp [good] at h <;> first | rfl | (rw [tame]; exact h)
theorem good_plain {m n : Nat} {v : PV} (h : good m n v = true) : plainV v = true := tame_plain (good_tame h)
theorem asInts_eq : ∀ {xs : List PV} {f : List Int}, asInts xs = some f → xs = f.map .int
  | [], f, h => by simp [asInts] at h; subst h; rfl
  | x :: xs, f, h => by
    cases x with
    | int i =>
      rw [asInts, Option.map_eq_some_iff] at h
      obtain ⟨g, h1, rfl⟩ := h
      rw [asInts_eq h1]
      rfl
    | _ => simp [asInts] at h
def natI (f : Fc) : Bool := f.all fun x => decide (0 ≤ x)
theorem natA : ∀ {xs : List PV}, xs.all isNatV = true → ∃ f, asInts xs = some f ∧ natI f = true
  | [], _ => ⟨[], rfl, rfl⟩
  | x :: xs, h => by
    rw [List.all_cons, Bool.and_eq_true] at h
    obtain ⟨f, h1, h2⟩ := natA h.2
    cases x with
    | int i => exact ⟨i :: f, by rw [asInts, h1]; rfl, by
        unfold natI at h2 ⊢
        rw [List.all_cons, h2, Bool.and_true]
        exact h.1⟩
    | _ => exact absurd h.1 (by simp [isNatV])
theorem natB {f : Fc} (h : natI f = true) : (f.map PV.int).all isNatV = true := by
  unfold natI at h
  rw [List.all_map, List.all_eq_true]
  exact fun x hx => List.all_eq_true.mp h x hx
def asFace : PV → Option Fc
  | .tup xs => match asInts xs with
    | some f => if !f.isEmpty && natI f && incI f then some f else none
    | none => none
  | _ => none
structure FaceOk (f : Fc) : Prop where
  n : f ≠ []
  p : ∀ x ∈ f, 0 ≤ x
  i : f.Pairwise (· < ·)
theorem asFace_eq {v : PV} {f : Fc} (h : asFace v = some f) : v = tI f ∧ FaceOk f := by
  cases v with
  | tup xs =>
    unfold asFace at h
    cases q : asInts xs with
    | none => simp [q] at h
    | some g =>
      simp only [q] at h
      split at h
      · rename_i c
        cases h
        rw [Bool.and_eq_true, Bool.and_eq_true] at c
        refine ⟨by rw [asInts_eq q, tI], ⟨?_, ?_, (incI_iff f).mp c.2⟩⟩
        · rintro rfl
          simp at c
        · intro x hx
          exact of_decide_eq_true (List.all_eq_true.mp c.1.2 x hx)
      · cases h
  | _ => simp [asFace] at h
theorem for_all2 {τ : Type} {enc : τ → PV} {chk : Chk} {tg : PV → HW.Env → Option HW.Env} {body : HW.Env → PHeap → R Out} {h : PHeap} {v : PV} (p : τ → Bool) (I : HW.Env → Prop) (hc : chk h = true) :
    ∀ (ts : List τ) (env : HW.Env), (∀ t ∈ ts, ∀ env, I env → ∃ e1, tg (enc t) env = some e1 ∧ (p t = false → body e1 h = .ok (.rt v) h) ∧ (p t = true → ∃ e2, body e1 h = .ok (.nx e2) h ∧ I e2)) →
      I env → (ts.all p = false → forGo chk tg body (ts.map enc) env h = .ok (.rt v) h) ∧ (ts.all p = true → ∃ env', forGo chk tg body (ts.map enc) env h = .ok (.nx env') h ∧ I env')
  | [], env, _, i => ⟨by simp, fun _ => ⟨env, by simp [forGo, hc], i⟩⟩
  | t :: ts, env, hs, i => by
    obtain ⟨e1, q1, q2, q3⟩ := hs t (List.mem_cons_self ..) env i
    cases hp : p t with
    | false => exact ⟨fun _ => by simp [forGo, hc, q1, q2 hp], by simp [hp]⟩
    | true =>
      obtain ⟨e2, q4, i2⟩ := q3 hp
      obtain ⟨r1, r2⟩ := for_all2 p I hc ts e2 (fun t ht => hs t (List.mem_cons_of_mem _ ht)) i2
      refine ⟨fun a => ?_, fun a => ?_⟩
      · simp only [List.all_cons, hp, Bool.true_and] at a
        simp [forGo, hc, q1, q4, r1 a]
      · simp only [List.all_cons, hp, Bool.true_and] at a
        obtain ⟨env', r3, r4⟩ := r2 a
        exact ⟨env', by simp [forGo, hc, q1, q4, r3], r4⟩
theorem zip_ints (f : Fc) : zipOf (f.map .int) ((f.map PV.int).drop 1) = (f.zip (f.drop 1)).map fun p => .tup [.int p.1, .int p.2] := by
  unfold zipOf
  rw [← List.map_drop, List.zipWith_map, ← List.map_uncurry_zip_eq_zipWith]
  rfl
theorem zip_faces (f : List Fc) : zipOf (f.map tI) ((f.map tI).drop 1) = (f.zip (f.drop 1)).map fun p => .tup [tI p.1, tI p.2] := by
  unfold zipOf
  rw [← List.map_drop, List.zipWith_map, ← List.map_uncurry_zip_eq_zipWith]
  rfl
section
variable {h : PHeap}
@[simp] theorem x_zt {xs ys : List PV} : zipSrc h (.tup xs) (.tup ys) = some ((xs, ys), fun _ => true) := rfl
theorem nats_comp {sem : Sem} {env : HW.Env} {i : Nat} {xs : List PV} (hi : i < env.length) (hs : ∀ (v : PV), plainV v = true → sem [v] h = .ok (.bl (isI v)) h) (hx : ∀ x ∈ xs, plainV x = true) (hl : xs.length ≤ LIM) :
    compGo (fun _ => true) (tgSet (.nm i)) (dIfs [sem] .nil) (dE [sem] (.and (.call 0 (.cons (.var i) .nil)) (.cmp .ge (.var i) (.cst (.int 0))))) env xs h [] = .ok (xs.map fun x => .bl (isNatV x)) h := by
  rw [comp_gen (fun _ => true) (fun x => .bl (isNatV x)) rfl xs [] (fun x q => ⟨env.set i (some x), by simp [hi], by simp, fun _ => by
    have q := hx x q
    simp [hi, hs x q]
    cases x <;> simp [plainV] at q <;> simp [isI, isNatV]⟩) (by simpa using hl), List.filter_eq_self.mpr (fun _ _ => rfl)]
  rfl
theorem nats_comp2 {sem s2 : Sem} {env : HW.Env} {i : Nat} {xs : List PV} (hi : i < env.length) (hs : ∀ (v : PV), plainV v = true → sem [v] h = .ok (.bl (isI v)) h) (hx : ∀ x ∈ xs, plainV x = true) (hl : xs.length ≤ LIM) :
    compGo (fun _ => true) (tgSet (.nm i)) (dIfs [sem, s2] .nil) (dE [sem, s2] (.and (.call 0 (.cons (.var i) .nil)) (.cmp .ge (.var i) (.cst (.int 0))))) env xs h [] = .ok (xs.map fun x => .bl (isNatV x)) h := by
  rw [comp_gen (fun _ => true) (fun x => .bl (isNatV x)) rfl xs [] (fun x q => ⟨env.set i (some x), by simp [hi], by simp, fun _ => by
    have q := hx x q
    simp [hi, hs x q]
    cases x <;> simp [plainV] at q <;> simp [isI, isNatV]⟩) (by simpa using hl), List.filter_eq_self.mpr (fun _ _ => rfl)]
  rfl
theorem good_items {m n : Nat} {xs : List PV} (hv : good m (n + 1) (.tup xs) = true) : xs.length ≤ m ∧ ∀ x ∈ xs, good m n x = true := by
  simp only [good, Bool.and_eq_true, List.all_eq_true, decide_eq_true_eq] at hv
  exact hv
theorem is_face_ev {m n : Nat} (hm : m ≤ 60) {v : PV} (hv : good m n v = true) : s_is_face [v] h = .ok (.bl (asFace v).isSome) h := by
  cases v with
  | tup xs =>
    cases n with
    | zero => simp [good] at hv
    | succ n =>
      have hx := good_items hv
      have hl : xs.length ≤ LIM := by simp [LIM]; omega
      cases xs with
      | nil =>
        simp [s_is_face, runFn, if_is_face, eq_int]
        exact finish_same (v := .bl false) rfl
      | cons x xs =>
        have nz : ¬ ((xs.length : Int) + 1 = 0) := by omega
        simp [s_is_face, runFn, if_is_face, eq_int, lockV, nz]
        rw [nats_comp (by simp) (fun v => is_integer_ev) (fun y hy => good_plain (hx.2 y hy)) hl]
        simp
        rw [show PV.bl (isNatV x) :: List.map (fun x => PV.bl (isNatV x)) xs = (x :: xs).map fun x => .bl (isNatV x) from rfl, all_enc]
        cases q : (x :: xs).all isNatV with
        | false =>
          have : asFace (.tup (x :: xs)) = none := by
            cases r : asFace (.tup (x :: xs)) with
            | none => rfl
            | some f =>
              obtain ⟨e, ok⟩ := asFace_eq r
              unfold tI at e
              injection e with e
              rw [e, natB (List.all_eq_true.mpr fun y hy => decide_eq_true (ok.p y hy))] at q
              cases q
          simp [this]
          exact finish_same (v := .bl false) rfl
        | true =>
          obtain ⟨f, f1, f2⟩ := natA q
          have e := asInts_eq f1
          have ne : f.isEmpty = false := by
            cases f with
            | nil => cases e
            | cons a f => rfl
          have af : (asFace (.tup (x :: xs))).isSome = incI f := by
            unfold asFace
            simp only [f1, f2, ne]
            cases incI f <;> rfl
          rw [af]
          have e2 : zipOf (x :: xs) xs = (f.zip (f.drop 1)).map fun p => .tup [.int p.1, .int p.2] := by
            rw [← zip_ints, ← e]
            rfl
          have fl : f.length ≤ LIM := by
            have := congrArg List.length e
            simp at this
            simp at hl
            omega
          simp [lockV, e2]
          rw [comp_map (fun p : Int × Int => .bl (decide (p.1 < p.2))) rfl _ (fun p hp => ⟨_, by simp; rfl, by simp⟩) (by simp; omega)]
          simp
          rw [all_enc, ← List.drop_one]
          exact finish_same (v := .bl _) rfl
  | _ =>
    cases n <;> simp [good] at hv <;> simp [s_is_face, runFn, if_is_face] <;> exact finish_same (v := .bl false) rfl
theorem within_ev {a b : Fc} (hl : a.length ≤ LIM) : s_is_within [tI a, tI b] h = .ok (.bl (wit a b)) h := by
  rw [show tI a = .tup (a.map .int) from rfl]
  simp [s_is_within, runFn, if_is_within, lockV]
  rw [comp_map (fun c : Int => .bl (decide (c ∈ b))) rfl _ (fun p hp => ⟨_, by simp; rfl, by simp [in_tI]⟩) hl]
  simp
  rw [all_enc]
  exact finish_same (v := .bl _) rfl
theorem inside_same : s__law_inside = s_is_within := rfl
theorem top_comp {s0 : List Sem} {n : Nat} {env : HW.Env} {i j : Nat} {rows : List Fc} {a : Fc} (hsem : s0.getD n (fun _ _ => .bad) = s_is_within) (hij : j ≠ i) (hi : env[i]? = some (some (tI a))) (hj : j < env.length) (hl : rows.length ≤ LIM) (ha : a.length ≤ LIM) :
    compGo (fun _ => true) (tgSet (.nm j)) (dIfs s0 .nil) (dE s0 (.and (.cmp .ne (.var i) (.var j)) (.call n (.cons (.var i) (.cons (.var j) .nil))))) env (rows.map tI) h [] = .ok (rows.map fun b => .bl (decide (a ≠ b) && wit a b)) h := by
  have g1 : ∀ x, (env.set j x)[i]? = some (some (tI a)) := fun x => by rw [List.getElem?_set_ne hij, hi]
  have g2 : ∀ x, (env.set j x)[j]? = some x := fun x => by rw [List.getElem?_set_self hj]
  rw [comp_map (fun b => .bl (decide (a ≠ b) && wit a b)) rfl _ (fun b hb => ⟨_, by simp [hj]; rfl, by
    simp only [x_and, x_cmp, x_var, g1, g2, R.bind_ok, x_ne, eq_tI, Option.map_some, R.of_some, x_trb, x_call, x_cons, x_nil, hsem, within_ev ha]
    by_cases q : a = b <;> simp [q]⟩) hl]
theorem all_asFace : ∀ {xs : List PV}, (xs.all fun x => (asFace x).isSome) = true → ∃ ks, xs.mapM asFace = some ks ∧ xs = ks.map tI ∧ ∀ f ∈ ks, FaceOk f
  | [], _ => ⟨[], rfl, rfl, by simp⟩
  | x :: xs, h => by
    rw [List.all_cons, Bool.and_eq_true] at h
    obtain ⟨ks, h1, h2, h3⟩ := all_asFace h.2
    obtain ⟨f, hf⟩ := Option.isSome_iff_exists.mp h.1
    obtain ⟨e, ok⟩ := asFace_eq hf
    refine ⟨f :: ks, by rw [List.mapM_cons, hf, h1]; rfl, by rw [List.map_cons, ← e, ← h2], ?_⟩
    intro g hg
    rcases List.mem_cons.mp hg with q | q
    · exact q ▸ ok
    · exact h3 g q
theorem no_asFace : ∀ {xs : List PV}, (xs.all fun x => (asFace x).isSome) = false → xs.mapM asFace = none
  | [], h => by simp at h
  | x :: xs, h => by
    rw [List.mapM_cons]
    cases q : asFace x with
    | none => rfl
    | some f =>
      rw [List.all_cons, q] at h
      rw [no_asFace (by simpa using h)]
      rfl
end
end K12
namespace K12
open PySem HW
theorem plainSet_tI (ks : List Fc) : plainSet (ks.map tI) = true := by
  unfold plainSet
  rw [Bool.or_eq_true]
  right
  rw [List.all_map, List.all_eq_true]
  intro k _
  show (asInts (k.map .int)).isSome = true
  rw [asInts_map]
  rfl
theorem plainSet_ints (ks : List Int) : plainSet (ks.map .int) = true := by
  unfold plainSet
  rw [Bool.or_eq_true]
  left
  rw [List.all_map, List.all_eq_true]
  intro k _
  rfl
theorem sortOk_ints (ks : List Int) : sortOk (ks.map .int) = true := by
  unfold sortOk
  rw [toD_ints]
  simp only [Bool.and_eq_true, Bool.or_eq_true]
  refine ⟨⟨?_, ?_⟩, .inr ?_⟩
  · simp [List.all_eq_true, PySem.W.alike]
  · simp [List.all_eq_true, PyData.depth]
  · simp [List.all_map, List.all_eq_true]
theorem asFace_no {ys : List PV} (q : ys.all isNatV = false) : asFace (.tup ys) = none := by
  cases r : asFace (.tup ys) with
  | none => rfl
  | some f =>
    obtain ⟨e, ok⟩ := asFace_eq r
    unfold tI at e
    injection e with e
    rw [e, natB (List.all_eq_true.mpr fun y hy => decide_eq_true (ok.p y hy))] at q
    cases q
theorem asFace_yes {ys : List PV} (q : ys.all isNatV = true) : ∃ f : Fc, ys = f.map .int ∧ (asFace (.tup ys)).isSome = (!f.isEmpty && incI f) := by
  obtain ⟨f, f1, f2⟩ := natA q
  refine ⟨f, asInts_eq f1, ?_⟩
  unfold asFace
  simp only [f1, f2]
  cases f.isEmpty <;> cases incI f <;> rfl
section
variable {h : PHeap}
theorem law_greatest_ev {v : PV} {ks : List Fc} (hv : asSeq h v = some (ks.map tI)) (hl : ks.length < 64) (hne : ∀ k ∈ ks, k ≠ []) (hf : ∀ k ∈ ks, k.length ≤ LIM) :
    ∃ rows : List Fc, rows.Pairwise (· < ·) ∧ (∀ k, k ∈ rows ↔ k ∈ ks) ∧ rows.length ≤ ks.length ∧ s__law_greatest [v] h = .ok (.tup ((rows.filter (top1 rows)).map tI)) h := by
  obtain ⟨rows, h1, h2, h3⟩ := rows_F ks
  have rl0 : rows.length ≤ ks.length := by
    have nd : rows.Nodup := h2.imp fun {x y} q e => by
      subst e
      exact flt_irrefl _ q
    obtain ⟨ms, m1, m2, m3⟩ := dedup_tups ks
    have e : (sortV (dedup (ks.map tI))).length = rows.length := by rw [h1, List.length_map]
    have e2 : (sortV (dedup (ks.map tI))).length = (dedup (ks.map tI)).length := List.length_mergeSort _
    have e3 : ∀ xs : List PV, (dedup xs).length ≤ xs.length := by
      intro xs
      induction xs with
      | nil => simp [dedup]
      | cons x xs ih =>
        rw [dedup, List.length_cons, List.length_cons]
        have := List.length_filter_le (fun y => !decide (y = x)) (dedup xs)
        omega
    have e4 := e3 (ks.map tI)
    rw [List.length_map] at e4
    omega
  refine ⟨rows, h2, h3, rl0, ?_⟩
  have rl : rows.length ≤ LIM := by
    simp [LIM]
    omega
  have cs : convop .sortedSet false v h = .ok (.lst (rows.map tI)) h := by
    simp only [convop, hv, R.of_some, R.bind_ok]
    rw [plainSet_tI, sortOk_tI hne]
    simp [hl, h1]
  simp [s__law_greatest, runFn, if__law_greatest, cs, lockV]
  rw [comp_enc (top1 rows) tI rfl _ _ (fun a ha => ⟨[some v, some (.lst (rows.map tI)), some (tI a), none], by simp, by
    have al : a.length ≤ LIM := hf a ((h3 a).mp ha)
    simp [lockV]
    rw [top_comp (a := a) (i := 2) (j := 3) (n := 0) rfl (by decide) rfl (by simp) rl al]
    simp only [R.bind_ok, x_mkf]
    rw [any_enc]
    simp
    unfold top1
    simp, fun _ => by simp⟩) (by simpa using rl)]
  have e2 : ∀ {x : List PV}, asSeq h (.lst x) = some x := rfl
  simp [convop, e2]
  exact finish_same (below_tup_tI _ _)
theorem good_fl {m n : Nat} (hm : m ≤ 60) {ks : List Fc} (hx : ∀ x ∈ ks.map tI, good m n x = true) : ∀ f ∈ ks, f.length ≤ 60 := fun f hf => by
  have := hx (tI f) (List.mem_map.mpr ⟨f, hf, rfl⟩)
  cases n with
  | zero => simp [tI, good] at this
  | succ n =>
    have := (good_items this).1
    simp at this ⊢
    omega
end
end K12
namespace K12
open PySem HW
def insZ (S : List Int) (c : Int) : List Int := if S.any (fun g => decide (g = c)) then S else S ++ [c]
theorem mem_insZ {S : List Int} {f g : Int} : g ∈ insZ S f ↔ g ∈ S ∨ g = f := by
  unfold insZ
  split
  · rename_i h
    obtain ⟨x, h1, h2⟩ := List.any_eq_true.mp h
    have := of_decide_eq_true h2
    subst this
    exact ⟨.inl, fun h => h.elim id (fun e => e ▸ h1)⟩
  · simp
theorem nodup_insZ {S : List Int} {f : Int} (h : S.Nodup) : (insZ S f).Nodup := by
  unfold insZ
  split
  · exact h
  · rename_i q
    refine List.nodup_append.mpr ⟨h, by simp, ?_⟩
    rintro a ha b hb rfl
    refine q (List.any_eq_true.mpr ⟨a, ha, ?_⟩)
    simpa using hb
theorem length_insZ {S : List Int} {f : Int} : (insZ S f).length ≤ S.length + 1 := by
  unfold insZ
  split <;> simp
def insAZ (S fs : List Int) : List Int := fs.foldl insZ S
theorem mem_insAZ {g : Int} : ∀ {fs S : List Int}, g ∈ insAZ S fs ↔ g ∈ S ∨ g ∈ fs
  | [], S => by simp [insAZ]
  | f :: fs, S => by
    show g ∈ insAZ (insZ S f) fs ↔ _
    rw [mem_insAZ, mem_insZ, List.mem_cons, or_assoc]
theorem nodup_insAZ : ∀ {fs S : List Int}, S.Nodup → (insAZ S fs).Nodup
  | [], S, h => h
  | f :: fs, S, h => nodup_insAZ (fs := fs) (S := insZ S f) (nodup_insZ h)
theorem length_insAZ : ∀ {fs S : List Int}, (insAZ S fs).length ≤ S.length + fs.length
  | [], S => by simp [insAZ]
  | f :: fs, S => by
    show (insAZ (insZ S f) fs).length ≤ _
    have := length_insAZ (fs := fs) (S := insZ S f)
    have := length_insZ (S := S) (f := f)
    simp only [List.length_cons]
    omega
def crnG (S : List Int) (s : List Fc) : List Int := s.foldl insAZ S
theorem mem_crnG {g : Int} : ∀ {s : List Fc} {S : List Int}, g ∈ crnG S s ↔ g ∈ S ∨ ∃ f ∈ s, g ∈ f
  | [], S => by simp [crnG]
  | f :: s, S => by
    show g ∈ crnG (insAZ S f) s ↔ _
    rw [mem_crnG, mem_insAZ]
    simp [or_assoc]
theorem nodup_crnG : ∀ {s : List Fc} {S : List Int}, S.Nodup → (crnG S s).Nodup
  | [], S, h => h
  | f :: s, S, h => nodup_crnG (s := s) (S := insAZ S f) (nodup_insAZ h)
def cs (ks : List Fc) : List Int := (crnG [] ks).mergeSort leI
theorem cs_lt (ks : List Fc) : (cs ks).Pairwise (· < ·) := sortI_lt (nodup_crnG List.nodup_nil)
theorem mem_cs {ks : List Fc} {c : Int} : c ∈ cs ks ↔ ∃ f ∈ ks, c ∈ f := by
  unfold cs
  rw [List.mem_mergeSort, mem_crnG]
  simp
def di (S : List Int) : List (PV × PV) := S.map fun f => (.int f, .bl true)
theorem di_keys (S : List Int) : ∀ e ∈ di S, ∃ f, e.1 = .int f := fun e he => by
  obtain ⟨f, _, rfl⟩ := List.mem_map.mp he
  exact ⟨f, rfl⟩
theorem di_put (S : List Int) (f : Int) : dPut (di S) (.int f) (.bl true) = di (insZ S f) := by
  have a : (di S).any (fun e => decide (e.1 = .int f)) = S.any (fun g => decide (g = f)) := by
    unfold di
    rw [List.any_map]
    congr 1
    funext g
    simp only [Function.comp, PV.int.injEq]
  unfold dPut insZ
  rw [a]
  split
  · unfold di
    rw [List.map_map]
    refine List.map_congr_left fun g _ => ?_
    simp only [Function.comp]
    split <;> rfl
  · simp [di]
/-- the law's corners *)-/
def rng (n : Nat) : List Int := (List.range n).map fun (i : Nat) => (i : Int)
section
variable {h : PHeap}
theorem crn_inner {ctx : List Sem} {v : PV} {f : Fc} {S fs : List Int} {d : Option PV} (hl : S.length + fs.length ≤ 1000000) :
    ∃ d', forGo (fun _ => true) (tgSet (.nm 3)) (dSs ctx (.cons (.asg (.sub (.var 1) (.var 3)) (.cst (.bl true))) .nil)) (fs.map .int) [some v, some (.ref h.length), some (tI f), d] (h ++ [.dct (di S)]) =
      .ok (.nx [some v, some (.ref h.length), some (tI f), d']) (h ++ [.dct (di (insAZ S fs))]) := by
  obtain ⟨e, g, q, rfl, ⟨d', rfl⟩, _⟩ := for_inv (enc := PV.int) (chk := fun _ => true) (tg := tgSet (.nm 3)) (body := dSs ctx (.cons (.asg (.sub (.var 1) (.var 3)) (.cst (.bl true))) .nil))
    (step := insZ) (I := fun ts S env g => g = h ++ [.dct (di S)] ∧ (∃ d, env = [some v, some (.ref h.length), some (tI f), d]) ∧ S.length + ts.length ≤ 1000000)
    (fun _ _ _ _ _ => rfl) (by
      rintro t ts a env g ⟨rfl, ⟨c, rfl⟩, h1⟩
      refine ⟨[some v, some (.ref h.length), some (tI f), some (.int t)], by simp, _, h ++ [.dct (di (insZ a t))], ?_, rfl, ⟨some (.int t), rfl⟩, ?_⟩
      · simp only [List.length_cons] at h1
        simp
        rw [put_dct (keyOk_int (di_keys a) t) (by simp [di, LIM]; omega), di_put]
        rfl
      · have := length_insZ (S := a) (f := t)
        simp only [List.length_cons] at h1
        omega) fs S [some v, some (.ref h.length), some (tI f), d] _ ⟨rfl, ⟨d, rfl⟩, hl⟩
  exact ⟨d', q⟩
theorem corners_ev {s : List Fc} (hn : s.length ≤ 60) (hf : ∀ f ∈ s, f.length ≤ 60) : s_corners_of [.tup (s.map tI)] h = .ok (.lst ((cs s).map .int)) h := by
  obtain ⟨e, g, q, rfl, ⟨c, d, rfl⟩, _⟩ := for_inv (enc := tI) (chk := fun _ => true) (tg := tgSet (.nm 2)) (body := dSs [] (.cons (.for_ (.nm 3) (.ex (.var 2)) (.cons (.asg (.sub (.var 1) (.var 3)) (.cst (.bl true))) .nil)) .nil))
    (step := insAZ) (I := fun ts S env g => g = h ++ [.dct (di S)] ∧ (∃ c d, env = [some (.tup (s.map tI)), some (.ref h.length), c, d]) ∧ S.length + ts.length * 60 ≤ 3600 ∧ ∀ f ∈ ts, f.length ≤ 60)
    (fun _ _ _ _ _ => rfl) (by
      rintro t ts a env g ⟨rfl, ⟨c, d, rfl⟩, h1, h2⟩
      have l1 := h2 t (List.mem_cons_self ..)
      simp only [List.length_cons, Nat.add_mul] at h1
      obtain ⟨d', q⟩ := crn_inner (h := h) (ctx := []) (v := .tup (s.map tI)) (f := t) (S := a) (fs := t) (d := d) (by omega)
      refine ⟨[some (.tup (s.map tI)), some (.ref h.length), some (tI t), d], by simp, _, h ++ [.dct (di (insAZ a t))], ?_, rfl, ⟨some (tI t), d', rfl⟩, ?_, fun f hf => h2 f (List.mem_cons_of_mem _ hf)⟩
      · have lk : lockV 2 [some (.tup (s.map tI)), some (.ref h.length), some (tI t), d] (h ++ [.dct (di a)]) = none := rfl
        simp [lk, q]
      · have := length_insAZ (fs := t) (S := a)
        omega) s [] [some (.tup (s.map tI)), some (.ref h.length), none, none] (h ++ [.dct (di [])]) ⟨rfl, ⟨_, _, rfl⟩, by simp; omega, hf⟩
  simp [s_corners_of, runFn, if_corners_of, lockV]
  rw [show ([] : List (PV × PV)) = di [] from rfl, q]
  have e : anySrc (h ++ [.dct (di (s.foldl insAZ []))]) (.ref h.length) = some ((crnG [] s).map .int) := by
    simp [anySrc, srcOf, di, crnG]
  simp [convop, e, sortOk_ints, sortV_ints]
  exact finish_ext (below_tame _ 1 _ (by rw [tame]; exact tame_ints 0 _))
theorem rng_map (n : Nat) : (List.range n).map (fun (i : Nat) => PV.int i) = (rng n).map .int := by
  unfold rng
  rw [List.map_map]
  rfl
end
end K12
namespace K12
open PySem HW
section
variable {h : PHeap}
theorem cs_length {ks : List Fc} (h5 : ks.length ≤ 60) (h4 : ∀ f ∈ ks, f.length ≤ 60) : (cs ks).length ≤ 3600 := by
  unfold cs
  rw [(List.mergeSort_perm _ _).length_eq]
  have G : ∀ (s : List Fc) (S : List Int), (∀ f ∈ s, f.length ≤ 60) → (crnG S s).length ≤ S.length + s.length * 60 := by
    intro s
    induction s with
    | nil => intro S _; simp [crnG]
    | cons f s ih =>
      intro S hs
      have i1 := ih (insAZ S f) fun g hg => hs g (List.mem_cons_of_mem _ hg)
      have i2 := length_insAZ (fs := f) (S := S)
      have i3 := hs f (List.mem_cons_self ..)
      show (crnG (insAZ S f) s).length ≤ _
      simp only [List.length_cons, Nat.add_mul]
      omega
  have := G ks [] h4
  simp at this
  omega
/-! parts *)-/
/-! the number box *)-/
def Bx (ns : List Int) (t g : PHeap) : Prop := ∃ i left k : Int, 0 ≤ i ∧ i ≤ ns.length ∧ 0 ≤ left ∧ 0 ≤ k ∧ g = box ns i left k :: t
theorem take_bx {ns : List Int} {t g : PHeap} (b : Bx ns t g) {many : Int} (h1 : 1 ≤ many) (h2 : many < 1073741824) : ∃ d g', 0 ≤ d ∧ d < many ∧ Bx ns t g' ∧ s__law_take [.ref 0, .int many] g = .ok (.int d) g' := by
  obtain ⟨i, left, k, b1, b2, b3, b4, rfl⟩ := b
  obtain ⟨d, i', left', k', q1, q2, q3, q4, q5, q6, q7⟩ := take_any (t := t) b1 b2 b4 b3 h1 h2
  exact ⟨d, _, q1, q2, ⟨i', left', k', q3, q4, q5, q6, rfl⟩, q7⟩
theorem finish_bx {ns : List Int} {t g g' e : PHeap} {v : PV} (b : Bx ns t g) (b' : Bx ns t g') (hv : ∀ n, below n v = true) : HW.finish false g v (g' ++ e) = .ok v g' := by
  obtain ⟨i, left, k, _, _, _, _, rfl⟩ := b
  obtain ⟨i', left', k', _, _, _, _, rfl⟩ := b'
  have h1 : okOuter (box ns i left k :: t) ((box ns i' left' k' :: t) ++ e) = true := by
    simp only [okOuter, List.all_eq_true, List.mem_range, Bool.or_eq_true, decide_eq_true_eq]
    intro m hm
    cases m with
    | zero => exact .inr (by simp [box, belowC, belows, below, belows_ints])
    | succ m =>
      refine .inl ?_
      simp only [List.length_cons] at hm
      simp only [List.cons_append, List.getElem?_cons_succ]
      rw [List.getElem?_append_left (by omega)]
  have h2 : frz ((box ns i' left' k' :: t) ++ e) (box ns i left k :: t).length 12 v = some v := by
    unfold frz
    rw [if_pos (hv _)]
  unfold HW.finish
  rw [h1, h2]
  simp
theorem finish_bx0 {ns : List Int} {t g g' : PHeap} {v : PV} (b : Bx ns t g) (b' : Bx ns t g') (hv : ∀ n, below n v = true) : HW.finish false g v g' = .ok v g' := by
  have := finish_bx (e := []) b b' hv
  rwa [List.append_nil] at this
end
end K12
namespace K12
open PySem HW
/-! ways: by levels, and one place after another *)-/
def lst (w : Fc) : Int := w.getLast?.getD 0
@[simp] theorem lst_snoc (w : Fc) (k : Int) : lst (w ++ [k]) = k := by simp [lst]
/-- the first ones of equal ends, ends in S left out -/
def ddl : List Int → List Fc → List Fc
  | _, [] => []
  | S, w :: ws => if lst w ∈ S then ddl S ws else w :: ddl (S ++ [lst w]) ws
theorem ddl_congr : ∀ (C : List Fc) {S T : List Int}, (∀ k, k ∈ S ↔ k ∈ T) → ddl S C = ddl T C
  | [], _, _, _ => rfl
  | w :: C, S, T, h => by
    rw [ddl, ddl, ddl_congr C h, ddl_congr C (S := S ++ [lst w]) (T := T ++ [lst w]) fun k => by simp [h k]]
    by_cases q : lst w ∈ S
    · rw [if_pos q, if_pos ((h _).mp q)]
    · rw [if_neg q, if_neg fun x => q ((h _).mpr x)]
theorem ddl_append : ∀ (A B : List Fc) (S : List Int), ddl S (A ++ B) = ddl S A ++ ddl (S ++ (ddl S A).map lst) B
  | [], B, S => by simp [ddl]
  | w :: A, B, S => by
    rw [List.cons_append, ddl, ddl]
    split
    · exact ddl_append A B S
    · rw [ddl_append A B]
      simp
theorem mem_ddl_lst {k : Int} : ∀ (C : List Fc) (S : List Int), k ∈ (ddl S C).map lst ↔ k ∈ C.map lst ∧ k ∉ S
  | [], S => by simp [ddl]
  | w :: C, S => by
    rw [ddl]
    split
    · rename_i h
      rw [mem_ddl_lst C S, List.map_cons, List.mem_cons]
      constructor
      · rintro ⟨a, b⟩
        exact ⟨.inr a, b⟩
      · rintro ⟨a | a, b⟩
        · exact absurd (a ▸ h) b
        · exact ⟨a, b⟩
    · rename_i h
      rw [List.map_cons, List.mem_cons, mem_ddl_lst C, List.map_cons, List.mem_cons]
      simp only [List.mem_append, List.mem_singleton, not_or]
      constructor
      · rintro (a | ⟨a, b, c⟩)
        · exact ⟨.inl a, a ▸ h⟩
        · exact ⟨.inr a, b⟩
      · rintro ⟨a | a, b⟩
        · exact .inl a
        · by_cases q : k = lst w
          · exact .inl q
          · exact .inr ⟨a, b, q⟩
theorem nodup_ddl : ∀ (C : List Fc) (S : List Int), ((ddl S C).map lst).Nodup
  | [], S => by simp [ddl]
  | w :: C, S => by
    rw [ddl]
    split
    · exact nodup_ddl C S
    · rw [List.map_cons, List.nodup_cons]
      refine ⟨fun h => ?_, nodup_ddl C _⟩
      have := (mem_ddl_lst C _).mp h
      simp at this
theorem ddl_filter : ∀ (C : List Fc) (S T : List Int), ddl (S ++ T) C = ddl T (C.filter fun w => decide (lst w ∉ S))
  | [], S, T => rfl
  | w :: C, S, T => by
    rw [ddl, List.filter_cons]
    by_cases q : lst w ∈ S
    · simp [q, ddl_filter C S T]
    · by_cases q2 : lst w ∈ T
      · simp [q, q2, ddl, ddl_filter C S T]
      · simp only [List.mem_append, q, q2, or_self, if_false, not_false_eq_true, decide_true, if_true, ddl]
        rw [List.append_assoc, ddl_filter C S (T ++ [lst w])]
theorem ddl_sub : ∀ (C : List Fc) (S : List Int), ∀ w ∈ ddl S C, w ∈ C
  | [], S, w, h => by cases h
  | a :: C, S, w, h => by
    rw [ddl] at h
    split at h
    · exact List.mem_cons_of_mem _ (ddl_sub C S w h)
    · rcases List.mem_cons.mp h with e | e
      · rw [e]
        exact List.mem_cons_self ..
      · exact List.mem_cons_of_mem _ (ddl_sub C _ w e)
/-- the first one with an end is kept -/
theorem ddl_find (j : Int) : ∀ (C : List Fc) (S : List Int), j ∉ S → (ddl S C).find? (fun w => decide (lst w = j)) = C.find? (fun w => decide (lst w = j))
  | [], S, _ => rfl
  | w :: C, S, h => by
    rw [ddl]
    split
    · rename_i q
      have : ¬ lst w = j := fun e => h (e ▸ q)
      rw [ddl_find j C S h, List.find?_cons]
      simp [this]
    · by_cases e : lst w = j
      · simp [List.find?_cons, e]
      · rw [List.find?_cons, List.find?_cons]
        simp only [e, decide_false]
        exact ddl_find j C _ (by simp; exact ⟨h, fun x => e x.symm⟩)
section
variable (nb : Int → List Int)
def cand (w : Fc) : List Fc := (nb (lst w)).map fun k => w ++ [k]
theorem cand_lst (w : Fc) : (cand nb w).map lst = nb (lst w) := by
  unfold cand
  rw [List.map_map]
  conv => rhs; rw [← List.map_id (nb (lst w))]
  refine List.map_congr_left fun k _ => ?_
  simp [Function.comp]
theorem ddl_all : ∀ (C : List Fc) (S : List Int), (∀ k ∈ C.map lst, k ∈ S) → ddl S C = []
  | [], S, _ => rfl
  | w :: C, S, h => by
    rw [ddl, if_pos (h _ (by simp)), ddl_all C S fun k hk => h k (by simp at hk ⊢; exact .inr hk)]
theorem ddl_cand : ∀ (L : List Fc) (T S : List Int), (∀ v ∈ T, ∀ c ∈ nb v, c ∈ S) → ddl S ((ddl T L).flatMap (cand nb)) = ddl S (L.flatMap (cand nb))
  | [], T, S, _ => rfl
  | w :: L, T, S, h => by
    rw [ddl, List.flatMap_cons, ddl_append]
    split
    · rename_i q
      rw [ddl_all (cand nb w) S (by rw [cand_lst]; exact h _ q)]
      simp only [List.map_nil, List.append_nil, List.nil_append]
      exact ddl_cand L T S h
    · rw [List.flatMap_cons, ddl_append]
      congr 1
      refine ddl_cand L _ _ fun v hv c hc => ?_
      rw [List.mem_append, mem_ddl_lst, cand_lst]
      rcases List.mem_append.mp hv with x | x
      · exact .inl (h v x c hc)
      · rw [List.mem_singleton] at x
        subst x
        by_cases q2 : c ∈ S
        · exact .inl q2
        · exact .inr ⟨hc, q2⟩
/-! levels -/
def lv (i : Int) : Nat → List Fc × List Int
  | 0 => ([[i]], [i])
  | t + 1 => let L := ((lv i t).1.flatMap (cand nb)).filter fun w => decide (lst w ∉ (lv i t).2)
    (L, (lv i t).2 ++ L.map lst)
abbrev Fnd := List (Int × Fc)
def enc (w : Fc) : Int × Fc := (lst w, w)
def keys (F : Fnd) : List Int := F.map (·.1)
/-- what is found up to a level -/
def fd (i : Int) : Nat → List Fc
  | 0 => [[i]]
  | t + 1 => fd i t ++ ddl [] (lv nb i (t + 1)).1
theorem fd_keys (i : Int) : ∀ (t : Nat) (k : Int), k ∈ (fd nb i t).map lst ↔ k ∈ (lv nb i t).2
  | 0, k => by simp [fd, lv, lst]
  | t + 1, k => by
    rw [fd, List.map_append, List.mem_append, fd_keys i t, mem_ddl_lst]
    show _ ↔ k ∈ (lv nb i t).2 ++ (lv nb i (t + 1)).1.map lst
    simp
theorem fd_nodup (i : Int) : ∀ t : Nat, ((fd nb i t).map lst).Nodup
  | 0 => by simp [fd]
  | t + 1 => by
    rw [fd, List.map_append, List.nodup_append]
    refine ⟨fd_nodup i t, nodup_ddl _ _, ?_⟩
    rintro a ha b hb rfl
    have h1 := (fd_keys nb i t a).mp ha
    have h2 := ((mem_ddl_lst _ _).mp hb).1
    obtain ⟨w, hw, rfl⟩ := List.mem_map.mp h2
    have := (List.mem_filter.mp hw).2
    simp at this
    exact this h1
/-- the new ones of a level, from the old ones -/
theorem fd_step (i : Int) (t : Nat) (D : List Fc) (hD : ddl [] (lv nb i t).1 = D) : ddl ((fd nb i t).map lst) (D.flatMap (cand nb)) = ddl [] (lv nb i (t + 1)).1 := by
  rw [← hD, ddl_cand nb _ [] _ (by simp)]
  have := ddl_filter ((lv nb i t).1.flatMap (cand nb)) (lv nb i t).2 []
  rw [List.append_nil] at this
  rw [ddl_congr _ (fd_keys nb i t), this]
  rfl
/-! one place after another *)-/
def put1 (F : Fnd) (w : Fc) : Fnd := if lst w ∈ keys F then F else F ++ [enc w]
theorem put_list : ∀ (C : List Fc) (F : Fnd), C.foldl put1 F = F ++ (ddl (keys F) C).map enc
  | [], F => by simp [ddl]
  | w :: C, F => by
    rw [List.foldl_cons, put_list C, ddl, put1]
    split
    · rfl
    · simp [keys, enc]
def visit (F : Fnd) (w : Fc) : Fnd := (cand nb w).foldl put1 F
theorem visit_list : ∀ (Q : List Fc) (F : Fnd), Q.foldl (visit nb) F = F ++ (ddl (keys F) (Q.flatMap (cand nb))).map enc
  | [], F => by simp [ddl]
  | w :: Q, F => by
    rw [List.foldl_cons, visit_list Q, visit, put_list, List.flatMap_cons, ddl_append]
    simp [keys, enc, Function.comp_def]
def bfs : Nat → Fnd → Nat → Fnd
  | 0, F, _ => F
  | m + 1, F, at_ => match F[at_]? with
    | some p => bfs m (visit nb F p.2) (at_ + 1)
    | none => F
theorem visit_pre (F : Fnd) (w : Fc) : ∃ R, visit nb F w = F ++ R := ⟨_, put_list _ _⟩
/-- a stretch of the row is gone through *)-/
theorem bfs_row (m : Nat) : ∀ (Q : List Fc) (P R : List Fc) (F : Fnd), F = (P ++ Q).map enc ++ R.map enc → bfs nb (m + Q.length) F P.length = bfs nb m (Q.foldl (visit nb) F) (P ++ Q).length
  | [], P, R, F, e => by simp
  | w :: Q, P, R, F, e => by
    have g : F[P.length]? = some (enc w) := by
      rw [e]
      simp
    obtain ⟨T, hT⟩ := visit_pre nb F w
    have ht : ∃ T' : List Fc, T = T'.map enc := ⟨_, (List.append_cancel_left (hT.symm.trans (put_list (cand nb w) F)))⟩
    obtain ⟨T', rfl⟩ := ht
    have ih := bfs_row m Q (P ++ [w]) (R ++ T') (visit nb F w) (by rw [hT, e]; simp)
    rw [List.length_cons, ← Nat.add_assoc, bfs, g]
    simp only
    have : (P ++ [w]).length = P.length + 1 := by simp
    rw [← this]
    show bfs nb (m + Q.length) (visit nb F w) _ = _
    rw [ih]
    simp
theorem fd_len_pos (i : Int) : ∀ t : Nat, ddl [] (lv nb i t).1 ≠ [] → t + 1 ≤ (fd nb i t).length
  | 0, _ => by simp [fd]
  | t + 1, h => by
    have h0 : ddl [] (lv nb i t).1 ≠ [] := fun e => by
      have := fd_step nb i t [] e
      simp [ddl] at this
      exact h this
    have ih := fd_len_pos i t h0
    have : 0 < (ddl [] (lv nb i (t + 1)).1).length := List.length_pos_iff.mpr h
    rw [fd, List.length_append]
    omega
theorem ddl_nil : ∀ {L : List Fc}, ddl [] L = [] → L = []
  | [], _ => rfl
  | w :: L, h => by simp [ddl] at h
def fp (i : Int) : Nat → List Fc
  | 0 => []
  | t + 1 => fd nb i t
theorem fd_split (i : Int) (t : Nat) : fd nb i t = fp nb i t ++ ddl [] (lv nb i t).1 := by
  cases t with
  | zero => simp [fd, fp, lv, ddl]
  | succ t => rfl
theorem bfs_level (i : Int) (t m : Nat) : bfs nb (m + (ddl [] (lv nb i t).1).length) ((fd nb i t).map enc) (fp nb i t).length = bfs nb m ((fd nb i (t + 1)).map enc) (fd nb i t).length := by
  have h := bfs_row nb m (ddl [] (lv nb i t).1) (fp nb i t) [] ((fd nb i t).map enc) (by rw [fd_split]; simp)
  rw [h, visit_list, ← fd_split]
  have k : keys ((fd nb i t).map enc) = (fd nb i t).map lst := by simp [keys, enc, Function.comp_def]
  rw [k, fd_step nb i t _ rfl, fd, List.map_append]
theorem bfs_levels (i : Int) : ∀ (t m : Nat), bfs nb (m + (fp nb i t).length) ((fd nb i 0).map enc) 0 = bfs nb m ((fd nb i t).map enc) (fp nb i t).length
  | 0, m => by simp [fp]
  | t + 1, m => by
    have e : (fp nb i (t + 1)).length = (fp nb i t).length + (ddl [] (lv nb i t).1).length := by
      show (fd nb i t).length = _
      rw [fd_split]
      simp
    have ih := bfs_levels i t (m + (ddl [] (lv nb i t).1).length)
    rw [e, show m + ((fp nb i t).length + (ddl [] (lv nb i t).1).length) = (m + (ddl [] (lv nb i t).1).length) + (fp nb i t).length by omega, ih, bfs_level]
    rw [← e]
    rfl
variable {nb}
/-- few corners: all is found *)-/
theorem few {V : List Int} (hV : V.length ≤ 6) (hn : ∀ v, ∀ k ∈ nb v, k ∈ V) {i : Int} (hi : i ∈ V) (t : Nat) : ∀ k ∈ (fd nb i t).map lst, k ∈ V := by
  induction t with
  | zero =>
    intro k hk
    simp [fd, lst] at hk
    rw [hk]
    exact hi
  | succ t ih =>
    intro k hk
    rw [fd, List.map_append, List.mem_append] at hk
    rcases hk with h | h
    · exact ih k h
    · obtain ⟨w, hw, rfl⟩ := List.mem_map.mp ((mem_ddl_lst _ _).mp h).1
      obtain ⟨u, hu, hw2⟩ := List.mem_flatMap.mp (List.mem_filter.mp hw).1
      obtain ⟨k, hk, rfl⟩ := List.mem_map.mp hw2
      rw [lst_snoc]
      exact hn _ k hk
theorem fd_len {V : List Int} (hV : V.length ≤ 6) (hn : ∀ v, ∀ k ∈ nb v, k ∈ V) {i : Int} (hi : i ∈ V) (t : Nat) : (fd nb i t).length ≤ 6 := by
  have nl : ∀ {a b : List Int}, a.Nodup → (∀ x ∈ a, x ∈ b) → a.length ≤ b.length := by
    intro a
    induction a with
    | nil => intro b _ _; simp
    | cons x a ih =>
      intro b hn hs
      rw [List.nodup_cons] at hn
      have hx := hs x (List.mem_cons_self ..)
      have i1 := ih (b := b.erase x) hn.2 fun y hy => by
        refine (List.mem_erase_of_ne ?_).mpr (hs y (List.mem_cons_of_mem _ hy))
        rintro rfl
        exact hn.1 hy
      rw [List.length_erase_of_mem hx] at i1
      have := List.length_pos_of_mem hx
      simp only [List.length_cons]
      omega
  have := nl (fd_nodup nb i t) (few hV hn hi t)
  rw [List.length_map] at this
  omega
theorem lv_end {V : List Int} (hV : V.length ≤ 6) (hn : ∀ v, ∀ k ∈ nb v, k ∈ V) {i : Int} (hi : i ∈ V) {t : Nat} (ht : 6 ≤ t) : (lv nb i t).1 = [] := by
  by_cases h : ddl [] (lv nb i t).1 = []
  · exact ddl_nil h
  · have h1 := fd_len_pos nb i t h
    have h2 := fd_len hV hn hi t
    omega
theorem fd_end {V : List Int} (hV : V.length ≤ 6) (hn : ∀ v, ∀ k ∈ nb v, k ∈ V) {i : Int} (hi : i ∈ V) : ∀ {t : Nat}, 5 ≤ t → fd nb i t = fd nb i 5
  | t, ht => by
    induction t with
    | zero => omega
    | succ t ih =>
      by_cases e : t + 1 = 5
      · rw [e]
      · rw [fd, lv_end hV hn hi (by omega), ih (by omega)]
        simp [ddl]
theorem bfs_end {V : List Int} (hV : V.length ≤ 6) (hn : ∀ v, ∀ k ∈ nb v, k ∈ V) {i : Int} (hi : i ∈ V) {M : Nat} (hM : 10 ≤ M) : bfs nb M [(i, [i])] 0 = (fd nb i 5).map enc := by
  have l := fd_len hV hn hi 5
  have l6 : (fp nb i 6).length = (fd nb i 5).length := rfl
  have h := bfs_levels nb i 6 (M - (fp nb i 6).length)
  rw [show M - (fp nb i 6).length + (fp nb i 6).length = M by omega] at h
  have e0 : (fd nb i 0).map enc = [(i, [i])] := by simp [fd, enc, lst]
  rw [e0] at h
  rw [h, fd_end hV hn hi (t := 6) (by omega)]
  obtain ⟨m, hm⟩ : ∃ m, M - (fp nb i 6).length = m + 1 := ⟨M - (fp nb i 6).length - 1, by omega⟩
  rw [hm, bfs, l6]
  simp
end
end K12
namespace K12
open PySem HW
theorem lex_app : ∀ {a b x y : Fc}, a.length = b.length → a < b → a ++ x < b ++ y
  | [], [], x, y, _, h => absurd h (flt_irrefl _)
  | [], _ :: _, x, y, h, _ => by simp at h
  | _ :: _, [], x, y, h, _ => by simp at h
  | a :: as, b :: bs, x, y, hl, h => by
    rw [List.cons_append, List.cons_append, List.cons_lt_cons_iff]
    rw [List.cons_lt_cons_iff] at h
    rcases h with h | ⟨e, h⟩
    · exact .inl h
    · exact .inr ⟨e, lex_app (by simpa using hl) h⟩
theorem lex_snoc : ∀ (w : Fc) {k l : Int}, k < l → w ++ [k] < w ++ [l]
  | [], k, l, h => by
    rw [List.nil_append, List.nil_append, List.cons_lt_cons_iff]
    exact .inl h
  | a :: w, k, l, h => by
    rw [List.cons_append, List.cons_append, List.cons_lt_cons_iff]
    exact .inr ⟨rfl, lex_snoc w h⟩
section
variable {nb : Int → List Int}
theorem lv_len (i : Int) : ∀ (t : Nat), ∀ w ∈ (lv nb i t).1, w.length = t + 1
  | 0, w, h => by
    simp [lv] at h
    rw [h]
    rfl
  | t + 1, w, h => by
    obtain ⟨u, hu, hw⟩ := List.mem_flatMap.mp (List.mem_filter.mp h).1
    obtain ⟨k, _, rfl⟩ := List.mem_map.mp hw
    rw [List.length_append, lv_len i t u hu]
    rfl
theorem flat_lt (hs : ∀ v, (nb v).Pairwise (· < ·)) : ∀ {L : List Fc} {n : Nat}, (∀ w ∈ L, w.length = n) → L.Pairwise (· < ·) → (L.flatMap (cand nb)).Pairwise (· < ·)
  | [], _, _, _ => by simp
  | w :: L, n, hl, hp => by
    rw [List.pairwise_cons] at hp
    rw [List.flatMap_cons, List.pairwise_append]
    refine ⟨?_, flat_lt hs (fun u hu => hl u (List.mem_cons_of_mem _ hu)) hp.2, ?_⟩
    · unfold cand
      rw [List.pairwise_map]
      exact (hs _).imp fun h => lex_snoc w h
    · intro a ha b hb
      obtain ⟨k, _, rfl⟩ := List.mem_map.mp ha
      obtain ⟨u, hu, hb⟩ := List.mem_flatMap.mp hb
      obtain ⟨l, _, rfl⟩ := List.mem_map.mp hb
      exact lex_app (by rw [hl w (List.mem_cons_self ..), hl u (List.mem_cons_of_mem _ hu)]) (hp.1 u hu)
theorem lv_lt (hs : ∀ v, (nb v).Pairwise (· < ·)) (i : Int) : ∀ t : Nat, (lv nb i t).1.Pairwise (· < ·)
  | 0 => by simp [lv]
  | t + 1 => (flat_lt hs (lv_len i t) (lv_lt hs i t)).filter _
theorem sortF_id {L : List Fc} (h : L.Pairwise (· < ·)) : sortF L = L := by
  have : L = L.mergeSort leR := sortR_eq (List.Perm.refl _) (h.imp fun {a b} q => by
    by_cases x : a ≤ b
    · exact x
    · exact absurd (List.lt_trans q (List.not_le.mp x)) (flt_irrefl _))
  exact this.symm
/-- the law's fits *)-/
def fits (nb : Int → List Int) (i j : Int) (t : Nat) : List Fc := (lv nb i t).1.filter fun w => decide (lst w = j)
theorem fits_sort (hs : ∀ v, (nb v).Pairwise (· < ·)) (i j : Int) (t : Nat) : sortF (fits nb i j t) = fits nb i j t := sortF_id ((lv_lt hs i t).filter _)
theorem lv_flat_small {V : List Int} (hV : V.length ≤ 6) (hs : ∀ v, (nb v).Pairwise (· < ·)) (hn : ∀ v, ∀ k ∈ nb v, k ∈ V) (i : Int) : ∀ (L : List Fc), (L.flatMap (cand nb)).length ≤ L.length * 6
  | [] => by simp
  | w :: L => by
    have ih := lv_flat_small hV hs hn i L
    have h1 : (cand nb w).length ≤ 6 := by
      unfold cand
      rw [List.length_map]
      have nl : ∀ {a b : List Int}, a.Nodup → (∀ x ∈ a, x ∈ b) → a.length ≤ b.length := by
        intro a
        induction a with
        | nil => intro b _ _; simp
        | cons x a ih =>
          intro b hn hs
          rw [List.nodup_cons] at hn
          have hx := hs x (List.mem_cons_self ..)
          have i1 := ih (b := b.erase x) hn.2 fun y hy => by
            refine (List.mem_erase_of_ne ?_).mpr (hs y (List.mem_cons_of_mem _ hy))
            rintro rfl
            exact hn.1 hy
          rw [List.length_erase_of_mem hx] at i1
          have := List.length_pos_of_mem hx
          simp only [List.length_cons]
          omega
      have := nl ((hs (lst w)).imp fun {a b} (h : a < b) => show a ≠ b by omega) (hn (lst w))
      omega
    rw [List.flatMap_cons, List.length_append, List.length_cons]
    omega
theorem lv_small {V : List Int} (hV : V.length ≤ 6) (hs : ∀ v, (nb v).Pairwise (· < ·)) (hn : ∀ v, ∀ k ∈ nb v, k ∈ V) {i : Int} (hi : i ∈ V) (t : Nat) : (lv nb i t).1.length ≤ 46656 := by
  have go : ∀ t : Nat, (lv nb i t).1.length ≤ 6 ^ t := by
    intro t
    induction t with
    | zero => simp [lv]
    | succ t ih =>
      have h1 := lv_flat_small hV hs hn i (lv nb i t).1
      have h2 : (lv nb i (t + 1)).1.length ≤ ((lv nb i t).1.flatMap (cand nb)).length := List.length_filter_le _ _
      rw [Nat.pow_succ]
      omega
  by_cases h : t ≤ 6
  · have := go t
    have h2 : 6 ^ t ≤ 6 ^ 6 := Nat.pow_le_pow_right (by decide) h
    omega
  · rw [lv_end hV hn hi (by omega)]
    simp
theorem sn_small {V : List Int} (hV : V.length ≤ 6) (hs : ∀ v, (nb v).Pairwise (· < ·)) (hn : ∀ v, ∀ k ∈ nb v, k ∈ V) {i : Int} (hi : i ∈ V) (t : Nat) : (lv nb i t).2.length ≤ 1 + t * 46656 := by
  induction t with
  | zero => simp [lv]
  | succ t ih =>
    have h := lv_small hV hs hn hi (t + 1)
    show ((lv nb i t).2 ++ (lv nb i (t + 1)).1.map lst).length ≤ _
    rw [List.length_append, List.length_map]
    omega
/-- what both papers tell *)-/
def way (nb : Int → List Int) (i j : Int) : Option Fc := (fd nb i 5).find? fun w => decide (lst w = j)
theorem fits_nil {i j : Int} {t : Nat} : fits nb i j t = [] ↔ j ∉ (lv nb i t).1.map lst := by
  unfold fits
  rw [List.filter_eq_nil_iff, List.mem_map]
  constructor
  · rintro h ⟨w, h1, h2⟩
    exact h w h1 (by simp [h2])
  · intro h w hw q
    exact h ⟨w, hw, by simpa using q⟩
theorem fd_find_none {i j : Int} : ∀ t : Nat, (∀ s ≤ t, fits nb i j s = []) → (fd nb i t).find? (fun w => decide (lst w = j)) = none
  | t, h => by
    rw [List.find?_eq_none]
    intro w hw q
    have e : lst w = j := by simpa using q
    have hm : j ∈ (fd nb i t).map lst := List.mem_map.mpr ⟨w, hw, e⟩
    have go : ∀ t : Nat, j ∈ (fd nb i t).map lst → ∃ s ≤ t, j ∈ (lv nb i s).1.map lst := by
      intro t
      induction t with
      | zero =>
        intro hj
        exact ⟨0, Nat.le_refl _, by simpa [fd, lv] using hj⟩
      | succ t ih =>
        intro hj
        rw [fd, List.map_append, List.mem_append] at hj
        rcases hj with x | x
        · obtain ⟨s, h1, h2⟩ := ih x
          exact ⟨s, by omega, h2⟩
        · exact ⟨t + 1, Nat.le_refl _, ((mem_ddl_lst _ _).mp x).1⟩
    obtain ⟨s, h1, h2⟩ := go t hm
    exact fits_nil.mp (h s h1) h2
theorem fd_more (i : Int) (t : Nat) : ∀ k : Nat, ∃ R, fd nb i (t + k) = fd nb i t ++ R
  | 0 => ⟨[], by simp⟩
  | k + 1 => by
    obtain ⟨R, h⟩ := fd_more i t k
    refine ⟨R ++ ddl [] (lv nb i (t + k + 1)).1, ?_⟩
    rw [← Nat.add_assoc, fd, h, List.append_assoc]
theorem way_hit {V : List Int} (hV : V.length ≤ 6) (hn : ∀ v, ∀ k ∈ nb v, k ∈ V) {i j : Int} (hi : i ∈ V) {t : Nat} {w : Fc} {r : List Fc} (h0 : ∀ s < t, fits nb i j s = []) (h1 : fits nb i j t = w :: r) : way nb i j = some w := by
  have ht : t ≤ 5 := by
    by_cases q : 6 ≤ t
    · rw [fits, lv_end hV hn hi q] at h1
      simp at h1
    · omega
  unfold way
  obtain ⟨R, hR⟩ := fd_more (nb := nb) i t (5 - t)
  rw [show t + (5 - t) = 5 by omega] at hR
  have fp_none : (fp nb i t).find? (fun w => decide (lst w = j)) = none := by
    cases t with
    | zero => rfl
    | succ t => exact fd_find_none t fun s hs => h0 s (by omega)
  have hd : (ddl [] (lv nb i t).1).find? (fun w => decide (lst w = j)) = some w := by
    rw [ddl_find j _ [] (by simp), ← List.head?_filter]
    show (fits nb i j t).head? = _
    rw [h1]
    rfl
  rw [hR, fd_split, List.append_assoc, List.find?_append, fp_none, List.find?_append, hd]
  rfl
theorem way_miss {V : List Int} {i j : Int} (h0 : ∀ s < 12, fits nb i j s = []) : way nb i j = none := fd_find_none 5 fun s hs => h0 s (by omega)
theorem sn_end {V : List Int} (hV : V.length ≤ 6) (hn : ∀ v, ∀ k ∈ nb v, k ∈ V) {i : Int} (hi : i ∈ V) (k : Int) : k ∈ (lv nb i 12).2 ↔ k ∈ (fd nb i 5).map lst := by
  rw [← fd_keys, fd_end hV hn hi (t := 12) (by omega)]
end
end K12
namespace K12
open PySem HW
theorem mem_cut {xs : List PV} {lo hi : Option Int} {x : PV} (h : x ∈ cut xs lo hi) : x ∈ xs := by
  unfold cut at h
  exact List.mem_of_mem_drop (List.mem_of_mem_take h)
theorem length_cut (xs : List PV) (lo hi : Option Int) : (cut xs lo hi).length ≤ xs.length := by
  unfold cut
  simp
  omega
theorem cut_last (xs : List PV) : (cut xs (some (-1)) none).length ≤ 1 := by
  unfold cut
  rw [HT.sIx_none]
  have e : HT.sIx xs.length 0 (some (-1)) = xs.length - 1 := by
    show (if (-1 : Int) < 0 then ((-1 : Int) + (xs.length : Int)).toNat else min (-1 : Int).toNat xs.length) = _
    rw [if_pos (by decide)]
    omega
  rw [e]
  simp
  omega
theorem good_tup {m n : Nat} {xs : List PV} (h1 : xs.length ≤ m) (h2 : ∀ x ∈ xs, good m n x = true) : good m (n + 1) (.tup xs) = true := by
  simp only [good, Bool.and_eq_true, List.all_eq_true, decide_eq_true_eq]
  exact ⟨h1, h2⟩
theorem good_lst {m n : Nat} {xs : List PV} (h1 : xs.length ≤ m) (h2 : ∀ x ∈ xs, good m n x = true) : good m (n + 1) (.lst xs) = true := by
  simp only [good, Bool.and_eq_true, List.all_eq_true, decide_eq_true_eq]
  exact ⟨h1, h2⟩
theorem good_mono {m m' : Nat} (hm : m ≤ m') : ∀ {n : Nat} {v : PV}, good m n v = true → good m' n v = true := by
  intro n
  induction n with
  | zero => intro v h; cases v <;> simp [good] at h <;> first | rfl | (rw [good]; exact h)
  | succ n ih =>
    intro v h
    cases v with
    | tup xs =>
      simp only [good, Bool.and_eq_true, List.all_eq_true, decide_eq_true_eq] at h
      exact good_tup (by omega) fun x hx => ih (h.2 x hx)
    | lst xs =>
      simp only [good, Bool.and_eq_true, List.all_eq_true, decide_eq_true_eq] at h
      exact good_lst (by omega) fun x hx => ih (h.2 x hx)
    | _ => simp [good] at h <;> first | rfl | (rw [good]; exact h)
theorem good_int (m n : Nat) (i : Int) : good m n (.int i) = true := by cases n <;> rfl
theorem good_bl (m n : Nat) (i : Bool) : good m n (.bl i) = true := by cases n <;> rfl
theorem good_non (m n : Nat) : good m n .non = true := by cases n <;> rfl
theorem good_below {m n : Nat} {v : PV} (h : good m n v = true) (k : Nat) : below k v = true := below_tame k n v (good_tame h)
theorem item_mem {g : PHeap} {xs : List PV} {d : Int} (h0 : 0 ≤ d) (h1 : d < xs.length) : ∃ v ∈ xs, itemOf g (.lst xs) (.int d) = some v := by
  obtain ⟨k, rfl⟩ : ∃ k : Nat, d = k := ⟨d.toNat, by omega⟩
  have hk : k < xs.length := by omega
  exact ⟨xs[k], List.getElem_mem hk, L2.atI_nat (by simp [hk])⟩
theorem good_str (m n : Nat) {s : Str} (h : PyData.strOk s = true) : good m n (.str s) = true := by cases n <;> exact h
theorem spoilt_str {ns : List Int} {t g : PHeap} {m n : Nat} {v : Str} (b : Bx ns t g) :
    ∃ v' g', good (m + 1) n v' = true ∧ Bx ns t g' ∧ r__law_spoilt (n + 1) [.ref 0, .str v] g = .ok v' g' := by
  obtain ⟨d, g', d1, d2, b', e⟩ := take_bx b (many := 11) (by omega) (by omega)
  obtain ⟨v', v1, v2⟩ := item_mem (g := g') (xs := [.str (Str.ofString ""), .str (Str.ofString "way"), .str (Str.ofString "apart"), .str (Str.ofString "open"), .str (Str.ofString "turned"), .str (Str.ofString "cycle"), .str (Str.ofString "smith"), .str (Str.ofString "holes"), .str (Str.ofString "fills"), .str (Str.ofString "bars"), .str (Str.ofString "comes")]) d1 (by simpa using d2)
  have hg : good (m + 1) n v' = true := by
    simp only [List.mem_cons, List.not_mem_nil, or_false] at v1
    rcases v1 with r | r | r | r | r | r | r | r | r | r | r <;> rw [r] <;> exact good_str _ _ (by decide +kernel)
  refine ⟨v', g', hg, b', ?_⟩
  rw [r__law_spoilt]
  simp [runFn, if__law_spoilt, e, v2]
  exact finish_bx0 b b' (good_below hg)
theorem spoilt_other {ns : List Int} {t g : PHeap} {m n : Nat} {v : PV} (b : Bx ns t g) (hv : good m n v = true) (ht : ∀ xs, v ≠ .tup xs) (hs : ∀ s, v ≠ .str s) :
    ∃ v' g', good (m + 1) n v' = true ∧ Bx ns t g' ∧ r__law_spoilt (n + 1) [.ref 0, v] g = .ok v' g' := by
  obtain ⟨d, g', d1, d2, b', e⟩ := take_bx b (many := 7) (by omega) (by omega)
  obtain ⟨v', v1, v2⟩ := item_mem (g := g') (xs := [.int 0, .int 1, .int 2, .int (-1), .bl true, .non, .int 3]) d1 (by simpa using d2)
  have hg : good (m + 1) n v' = true := by
    simp at v1
    rcases v1 with r | r | r | r | r | r | r <;> rw [r] <;> first | exact good_int _ _ _ | exact good_bl _ _ _ | exact good_non _ _
  refine ⟨v', g', hg, b', ?_⟩
  have w1 : bltop (.isi "str") [v] g = some (.bl false) := by
    cases v <;> cases n <;> simp [good] at hv <;> first | rfl | exact absurd rfl (hs _)
  have w2 : bltop (.isi "tuple") [v] g = some (.bl false) := by
    cases v <;> cases n <;> simp [good] at hv <;> first | rfl | exact absurd rfl (ht _)
  rw [r__law_spoilt]
  simp [runFn, if__law_spoilt, w1, w2, e, v2]
  exact finish_bx0 b b' (good_below hg)
@[simp] theorem x_rvt {h : PHeap} {xs : List PV} : revOf h (.tup xs) = some (.tup xs.reverse) := rfl
@[simp] theorem x_slm {h : PHeap} {xs : List PV} {lo hi : Option Int} : sliceOf h (.tup xs) lo hi = some (.tup (cut xs lo hi)) := rfl
@[simp] theorem x_cvl {h : PHeap} {xs : List PV} : convop .list false (.tup xs) h = .ok (.lst xs) h := rfl
theorem spoilt_ev {ns : List Int} {t : PHeap} {m : Nat} (hm : 1 ≤ m) (hm2 : m ≤ 60) : ∀ (n : Nat) (v : PV) (g : PHeap), good m n v = true → Bx ns t g →
    ∃ v' g', good (m + 1) n v' = true ∧ Bx ns t g' ∧ r__law_spoilt (n + 1) [.ref 0, v] g = .ok v' g' := by
  intro n
  induction n with
  | zero =>
    intro v g hv b
    by_cases hs : ∃ s, v = .str s
    · obtain ⟨s, rfl⟩ := hs
      exact spoilt_str b
    exact spoilt_other b hv (fun xs e => by
      subst e
      simp [good] at hv) fun s e => hs ⟨s, e⟩
  | succ n ih =>
    intro v g hv b
    by_cases ht : ∃ xs, v = .tup xs
    · obtain ⟨xs, rfl⟩ := ht
      have hx := good_items hv
      have hx' : ∀ x ∈ xs, good (m + 1) n x = true := fun x q => good_mono (by omega) (hx.2 x q)
      -- the eight
      have eight : ∀ g1 : PHeap, Bx ns t g1 → ∃ v' g', good (m + 1) (n + 1) v' = true ∧ Bx ns t g' ∧ ((s__law_take [.ref 0, .int 8] g1).bind fun y h => R.of (itemOf h (.lst [.tup (cut xs (some 1) none), .tup (cut xs none (some (-1))), .tup (xs ++ cut xs (some (-1)) none), .tup xs.reverse, .lst xs, .tup (xs ++ [.int 0]), .tup [], .tup [.int 1, .int 0]]) y) h) = .ok v' g' := by
        intro g1 b1
        obtain ⟨d, g', d1, d2, b', e⟩ := take_bx b1 (many := 8) (by omega) (by omega)
        obtain ⟨v', v1, v2⟩ := item_mem (g := g') (xs := [.tup (cut xs (some 1) none), .tup (cut xs none (some (-1))), .tup (xs ++ cut xs (some (-1)) none), .tup xs.reverse, .lst xs, .tup (xs ++ [.int 0]), .tup [], .tup [.int 1, .int 0]]) d1 (by simpa using d2)
        refine ⟨v', g', ?_, b', by rw [e]; simp only [R.bind_ok, v2, R.of_some]⟩
        have c1 := length_cut xs (some 1) none
        have c2 := length_cut xs none (some (-1))
        have c3 := cut_last xs
        simp only [List.mem_cons, List.not_mem_nil, or_false] at v1
        rcases v1 with r | r | r | r | r | r | r | r <;> rw [r]
        · exact good_tup (by omega) fun x q => hx' x (mem_cut q)
        · exact good_tup (by omega) fun x q => hx' x (mem_cut q)
        · exact good_tup (by rw [List.length_append]; omega) fun x q => (List.mem_append.mp q).elim (hx' x) fun q => hx' x (mem_cut q)
        · exact good_tup (by rw [List.length_reverse]; omega) fun x q => hx' x (List.mem_reverse.mp q)
        · exact good_lst (by omega) hx'
        · exact good_tup (by rw [List.length_append]; simp; omega) fun x q => (List.mem_append.mp q).elim (hx' x) fun q => by
            rw [List.mem_singleton.mp q]
            exact good_int _ _ _
        · exact good_tup (by simp) (by simp)
        · exact good_tup (by simp; omega) fun x q => by
            simp at q
            rcases q with r | r <;> rw [r] <;> exact good_int _ _ _
      have a1 : ∀ h : PHeap, binop .add (.tup xs) (.tup (cut xs (some (-1)) none)) h = some (.tup (xs ++ cut xs (some (-1)) none)) := fun h => x_addt (by
        have := cut_last xs
        simp [LIM]
        omega)
      have a2 : ∀ h : PHeap, binop .add (.tup xs) (.tup [.int 0]) h = some (.tup (xs ++ [.int 0])) := fun h => x_addt (by
        simp [LIM]
        omega)
      by_cases e0 : xs = []
      · obtain ⟨v', g', q1, q2, q3⟩ := eight g b
        refine ⟨v', g', q1, q2, ?_⟩
        subst e0
        rw [r__law_spoilt]
        simp [runFn, if__law_spoilt, a1, a2, -x_st1]
        simp only [List.reverse_nil, List.nil_append] at q3
        rw [q3]
        simp
        exact finish_bx0 b q2 (good_below q1)
      · have ne : xs.isEmpty = false := by
          cases xs with
          | nil => exact absurd rfl e0
          | cons x xs => rfl
        obtain ⟨d5, g5, d51, d52, b5, e5⟩ := take_bx b (many := 5) (by omega) (by omega)
        by_cases z : d5 = 0
        · obtain ⟨v', g', q1, q2, q3⟩ := eight g5 b5
          refine ⟨v', g', q1, q2, ?_⟩
          rw [r__law_spoilt]
          simp [runFn, if__law_spoilt, a1, a2, ne, e5, eq_int, z, -x_st1]
          rw [q3]
          simp
          exact finish_bx0 b q2 (good_below q1)
        · have lp : 0 < xs.length := by
            cases xs with
            | nil => exact absurd rfl e0
            | cons x xs => simp
          obtain ⟨d, g', d1, d2, b', e⟩ := take_bx b5 (many := xs.length) (by omega) (by omega)
          obtain ⟨k, rfl⟩ : ∃ k : Nat, d = k := ⟨d.toNat, by omega⟩
          have hk : k < xs.length := by omega
          obtain ⟨w, g2, w1, b2, w2⟩ := ih xs[k] g' (hx.2 _ (List.getElem_mem hk)) b'
          have it : itemOf g' (.tup xs) (.int (k : Int)) = some xs[k] := L2.atI_nat (by simp [hk])
          have hg : good (m + 1) (n + 1) (.tup (xs.take k ++ [w] ++ xs.drop (k + 1))) = true := good_tup (by simp; omega) fun x q => by
            rcases List.mem_append.mp q with q | q
            · rcases List.mem_append.mp q with q | q
              · exact hx' x (List.mem_of_mem_take q)
              · rw [List.mem_singleton.mp q]
                exact w1
            · exact hx' x (List.mem_of_mem_drop q)
          have s1 : ∀ h : PHeap, binop .add (.tup (xs.take k)) (.tup [w]) h = some (.tup (xs.take k ++ [w])) := fun h => x_addt (by
            simp [LIM]
            omega)
          have s2 : ∀ h : PHeap, binop .add (.tup (xs.take k ++ [w])) (.tup (xs.drop (k + 1))) h = some (.tup (xs.take k ++ [w] ++ xs.drop (k + 1))) := fun h => x_addt (by
            simp [LIM]
            omega)
          have s3 : cut xs (some ((k : Int) + 1)) none = xs.drop (k + 1) := cut_drop xs (k + 1)
          refine ⟨_, g2, hg, b2, ?_⟩
          rw [r__law_spoilt]
          simp only [runFn, if__law_spoilt]
          simp [ne, e5, eq_int, z, e, it, cut_take, s1, s2, s3, w2, -List.append_assoc]
          exact finish_bx0 b b2 (good_below hg)
    · by_cases hs : ∃ s, v = .str s
      · obtain ⟨s, rfl⟩ := hs
        exact spoilt_str b
      · exact spoilt_other b hv (fun xs e => ht ⟨xs, e⟩) fun s e => hs ⟨s, e⟩
theorem bent_ev {ns : List Int} {t g : PHeap} {m : Nat} (hm : 1 ≤ m) (hm2 : m ≤ 50) {v : PV} {turn : Int} (hv : good m 5 v = true) (b : Bx ns t g) :
    ∃ v' g', good (m + 2) 5 v' = true ∧ Bx ns t g' ∧ s__law_bent [.ref 0, v, .int turn] g = .ok v' g' := by
  obtain ⟨d, g1, d1, d2, b1, e⟩ := take_bx b (many := 2) (by omega) (by omega)
  obtain ⟨k, hk, hk2⟩ : ∃ k : Nat, (if 0 < turn then (1 : Int) else 0) * (1 + d) = k ∧ k ≤ 2 := by
    split
    · exact ⟨(1 + d).toNat, by omega, by omega⟩
    · exact ⟨0, by simp, by omega⟩
  have sm : small (if 0 < turn then (1 : Int) else 0) = true := by
    split <;> decide
  obtain ⟨env', g', q, b', v', x, rfl, hv'⟩ := for_inv (enc := fun (i : Nat) => PV.int i) (chk := fun _ => true) (tg := tgSet (.nm 3)) (body := dSs [s__law_take, s__law_spoilt] (.cons (.asg (.tg (.nm 1)) (.call 1 (.cons (.var 0) (.cons (.var 1) .nil)))) .nil))
    (step := fun (_ : Unit) _ => ()) (I := fun ts _ env g => Bx ns t g ∧ ∃ v x, env = [some (.ref 0), some v, some (.int turn), x] ∧ good (m + 2 - ts.length) 5 v = true ∧ ts.length ≤ 2)
    (fun _ _ _ _ _ => rfl) (by
      rintro i ts _ env g ⟨b, v, x, rfl, hv, hl⟩
      simp only [List.length_cons] at hv hl
      obtain ⟨v', g', q1, q2, q3⟩ := spoilt_ev (ns := ns) (t := t) (m := m + 2 - (ts.length + 1)) (by omega) (by omega) 5 v g hv b
      refine ⟨[some (.ref 0), some v, some (.int turn), some (.int i)], by simp, [some (.ref 0), some v', some (.int turn), some (.int i)], g', ?_, q2, v', some (.int i), rfl, ?_, by omega⟩
      · have q3 : s__law_spoilt [.ref 0, v] g = .ok v' g' := q3
        simp [q3]
      · have : m + 2 - (ts.length + 1) + 1 = m + 2 - ts.length := by omega
        rwa [this] at q1) (List.range k) () [some (.ref 0), some v, some (.int turn), none] g1 ⟨b1, v, none, rfl, good_mono (by simp; omega) hv, by simpa using hk2⟩
  refine ⟨v', g', by simpa using hv'.1, b', ?_⟩
  simp -implicitDefEqProofs [s__law_bent, runFn, if__law_bent, e]
  rw [ev_mul (by simp only [sm, Bool.true_or]), R.of_some, R.bind_ok, hk, rngV_nat (by omega), R.bind_ok, R.bind_ok, q]
  simp -implicitDefEqProofs
  exact finish_bx0 b b' (good_below (by simpa using hv'.1))
/-! shapes *)-/
theorem nodup_len : ∀ {a b : List Int}, a.Nodup → (∀ x ∈ a, x ∈ b) → a.length ≤ b.length
  | [], b, _, _ => by simp
  | x :: a, b, hn, hs => by
    rw [List.nodup_cons] at hn
    have hx := hs x (List.mem_cons_self ..)
    have ih := nodup_len (b := b.erase x) hn.2 fun y hy => by
      refine (List.mem_erase_of_ne ?_).mpr (hs y (List.mem_cons_of_mem _ hy))
      rintro rfl
      exact hn.1 hy
    rw [List.length_erase_of_mem hx] at ih
    have := List.length_pos_of_mem hx
    simp only [List.length_cons]
    omega
theorem sub_eq {a b : Fc} (ha : a.Pairwise (· < ·)) (hb : b.Pairwise (· < ·)) (hs : ∀ x ∈ a, x ∈ b) (hl : b.length ≤ a.length) : a = b := by
  refine uniqI ha hb fun k => ⟨hs k, fun hk => ?_⟩
  by_cases q : k ∈ a
  · exact q
  · exfalso
    have := nodup_len (a := a) (b := b.erase k) (ha.imp fun h e => by omega) fun y hy => by
      refine (List.mem_erase_of_ne ?_).mpr (hs y hy)
      rintro rfl
      exact q hy
    rw [List.length_erase_of_mem hk] at this
    have := List.length_pos_of_mem hk
    omega
theorem longest : ∀ {rows : List Fc}, rows ≠ [] → ∃ a ∈ rows, ∀ b ∈ rows, b.length ≤ a.length
  | [], h => absurd rfl h
  | [a], _ => ⟨a, by simp, by simp⟩
  | a :: c :: rows, _ => by
    obtain ⟨b, h1, h2⟩ := longest (rows := c :: rows) (by simp)
    by_cases q : b.length ≤ a.length
    · refine ⟨a, by simp, fun x hx => ?_⟩
      rcases List.mem_cons.mp hx with e | e
      · rw [e]
        exact Nat.le_refl _
      · have := h2 x e
        omega
    · refine ⟨b, List.mem_cons_of_mem _ h1, fun x hx => ?_⟩
      rcases List.mem_cons.mp hx with e | e
      · rw [e]
        omega
      · exact h2 x e
theorem top_ne {rows : List Fc} (hi : ∀ f ∈ rows, f.Pairwise (· < ·)) (hn : rows ≠ []) : rows.filter (top1 rows) ≠ [] := by
  obtain ⟨a, h1, h2⟩ := longest hn
  refine List.ne_nil_of_mem (a := a) (List.mem_filter.mpr ⟨h1, ?_⟩)
  unfold top1
  rw [Bool.not_eq_true', List.any_eq_false]
  intro b hb
  simp only [Bool.and_eq_true, decide_eq_true_eq, not_and]
  intro ne w
  refine ne (sub_eq (hi a h1) (hi b hb) (fun x hx => of_decide_eq_true (List.all_eq_true.mp w x hx)) (h2 b hb))
theorem rng_lt (n : Nat) : (rng n).Pairwise (· < ·) := by
  unfold rng
  rw [List.pairwise_map]
  exact List.pairwise_lt_range.imp fun h => by omega
theorem rng_len (n : Nat) : (rng n).length = n := by simp [rng]
structure Shp (s : List Fc) : Prop where
  e : s ≠ []
  n : s.length ≤ 40
  f : ∀ f ∈ s, f ≠ [] ∧ f.length ≤ 5
  inc : ∀ f ∈ s, f.Pairwise (· < ·)
  rg : ∀ f ∈ s, ∀ x ∈ f, 0 ≤ x ∧ x < 6
  so : s.Pairwise (· < ·)
  an : ∀ a ∈ s, top1 s a = true
  al : (allF s).length ≤ 31
theorem nodup_lenF : ∀ {a b : List Fc}, a.Nodup → (∀ x ∈ a, x ∈ b) → a.length ≤ b.length
  | [], b, _, _ => by simp
  | x :: a, b, hn, hs => by
    rw [List.nodup_cons] at hn
    have hx := hs x (List.mem_cons_self ..)
    have ih := nodup_lenF (b := b.erase x) hn.2 fun y hy => by
      refine (List.mem_erase_of_ne ?_).mpr (hs y (List.mem_cons_of_mem _ hy))
      rintro rfl
      exact hn.1 hy
    rw [List.length_erase_of_mem hx] at ih
    have := List.length_pos_of_mem hx
    simp only [List.length_cons]
    omega
theorem top1_sub {s rows : List Fc} (h : ∀ x ∈ s, x ∈ rows) {a : Fc} (ha : top1 rows a = true) : top1 s a = true := by
  unfold top1 at ha ⊢
  rw [Bool.not_eq_true', List.any_eq_false] at ha ⊢
  exact fun b hb => ha b (h b hb)
theorem parts_len (f : Fc) : (parts f).length = 2 ^ f.length - 1 := by
  unfold parts
  rw [List.length_drop, length_subs]
theorem Shp.of {n : Nat} (hn2 : n ≤ 5) {rows : List Fc} (h1 : rows.Pairwise (· < ·)) (h2 : rows ≠ []) (h3 : rows.length ≤ 40) (h4 : ∀ f ∈ rows, f ≠ [] ∧ f.length ≤ 5 ∧ f.Sublist (rng n)) : Shp (rows.filter (top1 rows)) := by
  have hr : ∀ f ∈ rows.filter (top1 rows), f ∈ rows := fun f hf => (List.mem_filter.mp hf).1
  refine ⟨top_ne (fun f hf => (rng_lt n).sublist (h4 f hf).2.2) h2, Nat.le_trans (List.length_filter_le _ _) h3, fun f hf => ⟨(h4 f (hr f hf)).1, (h4 f (hr f hf)).2.1⟩, fun f hf => (rng_lt n).sublist (h4 f (hr f hf)).2.2, fun f hf x hx => ?_, h1.filter _, fun a ha => top1_sub hr (List.mem_filter.mp ha).2, ?_⟩
  · have := (h4 f (hr f hf)).2.2.subset hx
    obtain ⟨i, hi, rfl⟩ := List.mem_map.mp this
    have := List.mem_range.mp hi
    omega
  · have h := nodup_lenF (nodup_allF (rows.filter (top1 rows))) (b := parts (rng n)) fun x hx => by
      obtain ⟨f, f1, f2, f3⟩ := mem_allF.mp hx
      exact mem_parts.mpr ⟨f2, f3.trans (h4 f (hr f f1)).2.2⟩
    rw [parts_len, rng_len] at h
    have : 2 ^ n ≤ 2 ^ 5 := Nat.pow_le_pow_right (by decide) hn2
    omega
theorem Shp.sm {s : List Fc} (h : Shp s) : Sm s := ⟨by have := h.n; omega, fun f hf => by have := (h.f f hf).2; omega⟩
theorem Shp.good {s : List Fc} (h : Shp s) : good 40 5 (.tup (s.map tI)) = true := good_tup (by simpa using h.n) fun x hx => by
  obtain ⟨f, hf, rfl⟩ := List.mem_map.mp hx
  refine good_tup (by have := (h.f f hf).2; simp; omega) fun y hy => ?_
  obtain ⟨i, _, rfl⟩ := List.mem_map.mp hy
  exact good_int _ _ _
theorem bx_app {ns : List Int} {t g e : PHeap} (b : Bx ns t g) : Bx ns (t ++ e) (g ++ e) := by
  obtain ⟨i, left, k, b1, b2, b3, b4, rfl⟩ := b
  exact ⟨i, left, k, b1, b2, b3, b4, rfl⟩
theorem bx_split {ns : List Int} {t g e : PHeap} (b : Bx ns (t ++ e) g) : ∃ h, g = h ++ e ∧ Bx ns t h := by
  obtain ⟨i, left, k, b1, b2, b3, b4, rfl⟩ := b
  exact ⟨box ns i left k :: t, rfl, ⟨i, left, k, b1, b2, b3, b4, rfl⟩⟩
theorem bx_len {ns : List Int} {t g : PHeap} (b : Bx ns t g) : g.length = t.length + 1 := by
  obtain ⟨i, left, k, b1, b2, b3, b4, rfl⟩ := b
  simp
def plane : List Fc := [[0, 1, 4], [0, 1, 5], [0, 2, 3], [0, 2, 5], [0, 3, 4], [1, 2, 3], [1, 2, 4], [1, 3, 5], [2, 4, 5], [3, 4, 5]]
def hollow : List Fc := [[0, 1, 2], [0, 1, 3], [0, 2, 3], [1, 2, 3]]
def singles (n : Nat) : List Fc := (List.range n).map fun (i : Nat) => [(i : Int)]
theorem shape_ev {ns : List Int} {t g : PHeap} (b : Bx ns t g) : ∃ s g', Shp s ∧ Bx ns t g' ∧ s__law_shape [.ref 0] g = .ok (.tup (s.map tI)) g' := by
  obtain ⟨kind, g1, k1, k2, b1, e1⟩ := take_bx b (many := 8) (by omega) (by omega)
  by_cases z0 : kind = 0
  · refine ⟨plane, g1, ⟨by decide, by decide, by decide, by decide, by decide, by decide, by decide +kernel, by decide +kernel⟩, b1, ?_⟩
    have e2 : ∀ h : PHeap, s__law_plane [] h = .ok (.tup (plane.map tI)) h := fun h => by
      simp [s__law_plane, runFn, if__law_plane]
      exact finish_same (below_tup_tI _ plane)
    simp [s__law_shape, runFn, if__law_shape, e1, eq_int, z0, e2]
    exact finish_bx0 b b1 fun n => below_tup_tI n plane
  · by_cases z1 : kind = 1
    · refine ⟨hollow, g1, ⟨by decide, by decide, by decide, by decide, by decide, by decide, by decide +kernel, by decide +kernel⟩, b1, ?_⟩
      simp [s__law_shape, runFn, if__law_shape, e1, eq_int, z0, z1]
      exact finish_bx0 b b1 fun n => below_tup_tI n hollow
    · obtain ⟨d, g2, d1, d2, b2, e2⟩ := take_bx b1 (many := 5) (by omega) (by omega)
      obtain ⟨n, hn, hn1, hn2⟩ : ∃ n : Nat, 1 + d = n ∧ 1 ≤ n ∧ n ≤ 5 := ⟨(1 + d).toNat, by omega, by omega, by omega⟩
      have gl := bx_len b2
      have c1 : compGo (fun _ => true) (tgSet (.nm 5)) (dIfs [s__law_take, s__law_plane, s__law_parts_of, s__law_greatest] .nil) (dE [s__law_take, s__law_plane, s__law_parts_of, s__law_greatest] (.tup (.cons (.var 5) .nil))) [some (.ref 0), some (.int kind), some (.int n), none, none, none] ((List.range n).map fun (i : Nat) => PV.int i) g2 [] = .ok ((List.range n).map fun (i : Nat) => tI [(i : Int)]) g2 :=
        comp_map (fun i : Nat => tI [(i : Int)]) rfl _ (fun i hi => ⟨_, by simp; rfl, by simp [tI]⟩) (by simp [LIM]; omega)
      have acc0 : (List.range n).map (fun (i : Nat) => tI [(i : Int)]) = (singles n).map tI := by
        rw [singles, List.map_map]
        rfl
      rw [acc0] at c1
      have pl := length_parts (rng n)
      rw [rng_len] at pl
      have p32 : 2 ^ n ≤ 2 ^ 5 := Nat.pow_le_pow_right (by decide) hn2
      obtain ⟨env', g', q, h', acc, b', rfl, ⟨x, y, rfl⟩, al, a0, af, _⟩ := for_inv (enc := tI) (chk := fun _ => true) (tg := tgSet (.nm 4)) (body := dSs [s__law_take, s__law_plane, s__law_parts_of, s__law_greatest] (.cons (.ifs (.and (.cmp2 .lt .lt (.cst (.int 1)) (.blt .len (.cons (.var 4) .nil)) (.cst (.int 5))) (.cmp .eq (.call 0 (.cons (.var 0) (.cons (.sub (.lst false (.cons (.cst (.int 3)) (.cons (.cst (.int 2)) (.cons (.cst (.int 3)) (.cons (.cst (.int 4)) (.cons (.cst (.int 4)) .nil)))))) (.blt .len (.cons (.var 4) .nil))) .nil))) (.cst (.int 0)))) (.cons (.expr (.meth .lapp (.var 3) (.cons (.var 4) .nil))) .nil) .nil) .nil))
        (step := fun (_ : Unit) _ => ()) (I := fun ts _ env g => ∃ h' acc, Bx ns t h' ∧ g = h' ++ [.lst (acc.map tI)] ∧ (∃ x y, env = [some (.ref 0), some (.int kind), some (.int n), some (.ref g2.length), x, y]) ∧ acc.length + ts.length ≤ 40 ∧ acc ≠ [] ∧ (∀ f ∈ acc, f ≠ [] ∧ f.length ≤ 5 ∧ f.Sublist (rng n)) ∧ ∀ f ∈ ts, f ≠ [] ∧ f.length ≤ 5 ∧ f.Sublist (rng n))
        (fun _ _ _ _ _ => rfl) (by
          rintro f ts _ env g ⟨h', acc, b', rfl, ⟨x, y, rfl⟩, al, a0, af, tf⟩
          have hl : h'.length = g2.length := by rw [bx_len b', gl]
          have tf' : ∀ f ∈ ts, f ≠ [] ∧ f.length ≤ 5 ∧ f.Sublist (rng n) := fun f hf => tf f (List.mem_cons_of_mem _ hf)
          have ff := tf f (List.mem_cons_self ..)
          simp only [List.length_cons] at al
          refine ⟨[some (.ref 0), some (.int kind), some (.int n), some (.ref g2.length), some (tI f), y], by simp, ?_⟩
          by_cases l1 : (1 : Int) < f.length
          · by_cases l2 : (f.length : Int) < 5
            · obtain ⟨w, w1, w2⟩ := item_mem (g := h' ++ [.lst (acc.map tI)]) (xs := [.int 3, .int 2, .int 3, .int 4, .int 4]) (d := f.length) (by omega) (by simpa using l2)
              obtain ⟨m, rfl, m1, m2⟩ : ∃ m : Int, w = .int m ∧ 1 ≤ m ∧ m ≤ 4 := by
                simp at w1
                rcases w1 with r | r | r | r <;> exact ⟨_, r, by omega, by omega⟩
              obtain ⟨d, gg, d1, d2, bb, e⟩ := take_bx (bx_app (e := [.lst (acc.map tI)]) b') (many := m) (by omega) (by omega)
              obtain ⟨h2, rfl, b2⟩ := bx_split bb
              have hl2 : h2.length = g2.length := by rw [bx_len b2, gl]
              by_cases z : d = 0
              · refine ⟨[some (.ref 0), some (.int kind), some (.int n), some (.ref g2.length), some (tI f), y], h2 ++ [.lst ((acc ++ [f]).map tI)], ?_, h2, acc ++ [f], b2, rfl, ⟨_, _, rfl⟩, by simp; omega, by simp, ?_, tf'⟩
                · have lim : acc.length < LIM := by simp [LIM]; omega
                  simp [l1, l2, w2, e, eq_int, z, recv, methop, mApp, asList, ← hl2, lim, set_last]
                · intro k hk
                  rcases List.mem_append.mp hk with r | r
                  · exact af k r
                  · rw [List.mem_singleton.mp r]
                    exact ff
              · refine ⟨[some (.ref 0), some (.int kind), some (.int n), some (.ref g2.length), some (tI f), y], h2 ++ [.lst (acc.map tI)], ?_, h2, acc, b2, rfl, ⟨_, _, rfl⟩, by omega, a0, af, tf'⟩
                simp [l1, l2, w2, e, eq_int, z]
            · refine ⟨[some (.ref 0), some (.int kind), some (.int n), some (.ref g2.length), some (tI f), y], h' ++ [.lst (acc.map tI)], ?_, h', acc, b', rfl, ⟨_, _, rfl⟩, by omega, a0, af, tf'⟩
              simp [l1, l2]
          · refine ⟨[some (.ref 0), some (.int kind), some (.int n), some (.ref g2.length), some (tI f), y], h' ++ [.lst (acc.map tI)], ?_, h', acc, b', rfl, ⟨_, _, rfl⟩, by omega, a0, af, tf'⟩
            simp [l1]) (parts (rng n)) () [some (.ref 0), some (.int kind), some (.int n), some (.ref g2.length), none, none] (g2 ++ [.lst ((singles n).map tI)])
        ⟨g2, _, b2, rfl, ⟨_, _, rfl⟩, by simp [singles]; omega, by
          intro e
          have := congrArg List.length e
          simp [singles] at this
          omega, fun f hf => by
          obtain ⟨i, hi, rfl⟩ := List.mem_map.mp hf
          exact ⟨by simp, by simp, List.singleton_sublist.mpr (List.mem_map.mpr ⟨i, hi, rfl⟩)⟩, fun f hf => by
          obtain ⟨p1, p2⟩ := mem_parts.mp hf
          have := p2.length_le
          rw [rng_len] at this
          exact ⟨p1, by omega, p2⟩⟩
      have hl : h'.length = g2.length := by rw [bx_len b', gl]
      have as : asSeq (h' ++ [.lst (acc.map tI)]) (.ref g2.length) = some (acc.map tI) := by
        simp [asSeq, asList, ← hl]
      have al' : acc.length ≤ 40 := by simpa using al
      obtain ⟨rows, r1, r2, rl0, r3⟩ := law_greatest_ev (h := h' ++ [.lst (acc.map tI)]) (v := .ref g2.length) as (by omega) (fun k hk => (af k hk).1) (fun k hk => by have := (af k hk).2.1; simp [LIM]; omega)
      have rn : rows ≠ [] := by
        obtain ⟨a, ha⟩ := List.exists_mem_of_ne_nil acc a0
        exact List.ne_nil_of_mem ((r2 a).mpr ha)
      have rl : rows.length ≤ 40 := by omega
      refine ⟨rows.filter (top1 rows), h', Shp.of hn2 r1 rn rl (fun f hf => af f ((r2 f).mp hf)), b', ?_⟩
      · have P : s__law_parts_of [.tup ((List.range n).map fun (i : Nat) => PV.int i)] (g2 ++ [.lst ((singles n).map tI)]) = .ok (.lst ((parts (rng n)).map tI)) (g2 ++ [.lst ((singles n).map tI)]) := by
          rw [rng_map]
          exact law_parts_ev (by rw [rng_len]; omega)
        have lim : n ≤ LIM := by simp [LIM]; omega
        simp -implicitDefEqProofs [s__law_shape, runFn, if__law_shape, e1, eq_int, z0, z1, e2]
        rw [hn]
        simp -implicitDefEqProofs [rngV_nat (show n ≤ 16777216 by omega)]
        rw [c1]
        simp -implicitDefEqProofs [convI, lim, rngV_nat (show n ≤ 16777216 by omega)]
        rw [P]
        simp -implicitDefEqProofs
        rw [q]
        simp -implicitDefEqProofs
        rw [r3]
        simp -implicitDefEqProofs
        exact finish_bx b b' (fun n => below_tup_tI n _)
end K12
namespace K12
open PySem HW
/-! the greatest ones of some faces *)-/
theorem sub_of_wit : ∀ {b a : Fc}, a.Pairwise (· < ·) → b.Pairwise (· < ·) → (∀ x ∈ a, x ∈ b) → a.Sublist b
  | [], a, _, _, h => by
    cases a with
    | nil => exact List.Sublist.slnil
    | cons x a => exact absurd (h x (List.mem_cons_self ..)) (by simp)
  | y :: b, [], _, _, _ => List.nil_sublist _
  | y :: b, x :: a, ha, hb, h => by
    rw [List.pairwise_cons] at ha hb
    by_cases e : x = y
    · subst e
      refine (sub_of_wit ha.2 hb.2 fun z hz => ?_).cons₂ x
      rcases List.mem_cons.mp (h z (List.mem_cons_of_mem _ hz)) with q | q
      · have := ha.1 z hz
        omega
      · exact q
    · have hx : x ∈ b := by
        rcases List.mem_cons.mp (h x (List.mem_cons_self ..)) with q | q
        · exact absurd q e
        · exact q
      have hy := hb.1 x hx
      refine (sub_of_wit (List.pairwise_cons.mpr ha) hb.2 fun z hz => ?_).cons y
      rcases List.mem_cons.mp (h z hz) with q | q
      · rcases List.mem_cons.mp hz with q2 | q2
        · omega
        · have := ha.1 z q2
          omega
      · exact q
theorem wit_iff {a b : Fc} (ha : a.Pairwise (· < ·)) (hb : b.Pairwise (· < ·)) : wit a b = true ↔ a.Sublist b := by
  constructor
  · intro h
    exact sub_of_wit ha hb fun x hx => of_decide_eq_true (List.all_eq_true.mp h x hx)
  · intro h
    exact List.all_eq_true.mpr fun x hx => decide_eq_true (h.subset hx)
theorem top1_iff {rows : List Fc} (hi : ∀ f ∈ rows, f.Pairwise (· < ·)) {a : Fc} (ha : a ∈ rows) : top1 rows a = true ↔ ∀ b ∈ rows, a.Sublist b → a = b := by
  unfold top1
  rw [Bool.not_eq_true', List.any_eq_false]
  constructor
  · intro h b hb hs
    by_cases e : a = b
    · exact e
    · exact absurd (show (decide (a ≠ b) && wit a b) = true by simp [e, (wit_iff (hi a ha) (hi b hb)).mpr hs]) (h b hb)
  · intro h b hb q
    simp only [Bool.and_eq_true, decide_eq_true_eq] at q
    exact q.1 (h b hb ((wit_iff (hi a ha) (hi b hb)).mp q.2))
/-- what is told of both *)-/
structure MaxOf (A M : List Fc) : Prop where
  so : M.Pairwise (· < ·)
  m : ∀ x, x ∈ M ↔ x ∈ A ∧ ∀ y ∈ A, x.Sublist y → x = y
theorem max_law {B rows : List Fc} (hi : ∀ f ∈ B, f.Pairwise (· < ·)) (h1 : rows.Pairwise (· < ·)) (h2 : ∀ k, k ∈ rows ↔ k ∈ B) : MaxOf B (rows.filter (top1 rows)) := by
  refine ⟨h1.filter _, fun x => ?_⟩
  rw [List.mem_filter, h2]
  constructor
  · rintro ⟨a, b⟩
    exact ⟨a, fun y hy => (top1_iff (fun f hf => hi f ((h2 f).mp hf)) ((h2 x).mpr a)).mp b y ((h2 y).mpr hy)⟩
  · rintro ⟨a, b⟩
    exact ⟨a, (top1_iff (fun f hf => hi f ((h2 f).mp hf)) ((h2 x).mpr a)).mpr fun y hy => b y ((h2 y).mp hy)⟩
theorem max_same {A B M N : List Fc} (hM : MaxOf A M) (hN : MaxOf B N) (h1 : ∀ a ∈ A, a ∈ B) (h2 : ∀ b ∈ B, ∃ a ∈ A, b.Sublist a) : M = N := by
  refine uniqF hM.so hN.so fun x => ?_
  rw [hM.m, hN.m]
  constructor
  · rintro ⟨a, b⟩
    refine ⟨h1 x a, fun y hy hs => ?_⟩
    obtain ⟨z, z1, z2⟩ := h2 y hy
    have := b z z1 (hs.trans z2)
    subst this
    exact hs.eq_of_length_le z2.length_le
  · rintro ⟨a, b⟩
    obtain ⟨z, z1, z2⟩ := h2 x a
    have := b z (h1 z z1) z2
    subst this
    exact ⟨z1, fun y hy hs => b y (h1 y hy) hs⟩
def innA (T fs : List Fc) (f : Fc) : List Fc := insA T (fs.filter fun g => decide (g ≠ f))
theorem innA_len (T fs : List Fc) (f : Fc) : (innA T fs f).length ≤ T.length + fs.length := by
  have h2 := length_insA (fs := fs.filter fun g => decide (g ≠ f)) (S := T)
  have h3 : (fs.filter fun g => decide (g ≠ f)).length ≤ fs.length := List.length_filter_le _ _
  unfold innA
  omega
def inn (T : List Fc) (R : List Fc) : List Fc := R.foldl (fun T f => innA T (parts f) f) T
theorem mem_inn {x : Fc} : ∀ {R T : List Fc}, x ∈ inn T R ↔ x ∈ T ∨ ∃ f ∈ R, x ∈ parts f ∧ x ≠ f
  | [], T => by simp [inn]
  | f :: R, T => by
    show x ∈ inn (innA T (parts f) f) R ↔ _
    rw [mem_inn]
    unfold innA
    rw [mem_insA, List.mem_filter]
    simp [or_assoc]
theorem length_inn : ∀ {R T : List Fc}, (∀ f ∈ R, f.length ≤ 5) → (inn T R).length ≤ T.length + R.length * 32
  | [], T, _ => by simp [inn]
  | f :: R, T, h => by
    show (inn (innA T (parts f) f) R).length ≤ _
    have h1 := length_inn (R := R) (T := innA T (parts f) f) fun g q => h g (List.mem_cons_of_mem _ q)
    have h2 := length_insA (fs := (parts f).filter fun g => decide (g ≠ f)) (S := T)
    have h3 : ((parts f).filter fun g => decide (g ≠ f)).length ≤ (parts f).length := List.length_filter_le _ _
    have h4 := length_parts f
    have h5 : 2 ^ f.length ≤ 2 ^ 5 := Nat.pow_le_pow_right (by decide) (h f (List.mem_cons_self ..))
    unfold innA at h1
    rw [List.length_cons, Nat.add_mul]
    unfold innA
    omega
section
variable {h : PHeap}
theorem at_mid {c : Cell} {t : PHeap} : (h ++ [c] ++ t)[h.length]? = some c := by
  rw [List.append_assoc, List.getElem?_append_right (Nat.le_refl _)]
  simp
theorem set_mid {c d : Cell} {t : PHeap} : (h ++ [c] ++ t).set h.length d = h ++ [d] ++ t := by
  rw [List.append_assoc, List.set_append_right _ _ (Nat.le_refl _)]
  simp
theorem lock_mid {α : Type} {f : PHeap → R α} {es : List (PV × PV)} {t : PHeap} : withLock (some h.length) f (h ++ [.dct es] ++ t) = (f (h ++ [.dctL es] ++ t)).bind fun r g => if g[h.length]? = some (.dctL es) then .ok r (g.set h.length (.dct es)) else .bad := by
  simp only [withLock, at_mid, set_mid]
theorem rows_loop {ctx : List Sem} {v : PV} {ks : List Fc} (hl : ks.length ≤ 1000) :
    ∃ c, forGo (fun _ => true) (tgSet (.nm 2)) (dSs ctx (.cons (.asg (.sub (.var 1) (.var 2)) (.cst (.bl true))) .nil)) (ks.map tI) [some v, some (.ref h.length), none, none, none] (h ++ [.dct (db [])]) =
      .ok (.nx [some v, some (.ref h.length), c, none, none]) (h ++ [.dct (db (insA [] ks))]) := by
  obtain ⟨e, g, q, rfl, ⟨c, rfl⟩, _⟩ := for_inv (enc := tI) (chk := fun _ => true) (tg := tgSet (.nm 2)) (body := dSs ctx (.cons (.asg (.sub (.var 1) (.var 2)) (.cst (.bl true))) .nil))
    (step := ins) (I := fun ts S env g => g = h ++ [.dct (db S)] ∧ (∃ d, env = [some v, some (.ref h.length), d, none, none]) ∧ S.length + ts.length ≤ 1000)
    (fun _ _ _ _ _ => rfl) (by
      rintro t ts a env g ⟨rfl, ⟨c, rfl⟩, h1⟩
      refine ⟨[some v, some (.ref h.length), some (tI t), none, none], by simp, _, h ++ [.dct (db (ins a t))], ?_, rfl, ⟨some (tI t), rfl⟩, ?_⟩
      · simp only [List.length_cons] at h1
        simp [put_db (show a.length < LIM by simp [LIM]; omega)]
      · have := length_ins (S := a) (f := t)
        simp only [List.length_cons] at h1
        omega) ks [] [some v, some (.ref h.length), none, none, none] _ ⟨rfl, ⟨none, rfl⟩, by simpa using hl⟩
  exact ⟨c, q⟩
theorem inn_inner {ctx : List Sem} {v : PV} {f : Fc} {n : Nat} {T fs : List Fc} {d : Option PV} (hl : T.length + fs.length ≤ 1000000) :
    ∃ d', forGo (fun _ => true) (tgSet (.nm 4)) (dSs ctx (.cons (.ifs (.cmp .ne (.var 4) (.var 2)) (.cons (.asg (.sub (.var 3) (.var 4)) (.cst (.bl true))) .nil) .nil) .nil)) (fs.map tI) [some v, some (.ref n), some (tI f), some (.ref h.length), d] (h ++ [.dct (db T)]) =
      .ok (.nx [some v, some (.ref n), some (tI f), some (.ref h.length), d']) (h ++ [.dct (db (innA T fs f))]) := by
  obtain ⟨e, g, q, rfl, ⟨c, rfl⟩, _⟩ := for_inv (enc := tI) (chk := fun _ => true) (tg := tgSet (.nm 4)) (body := dSs ctx (.cons (.ifs (.cmp .ne (.var 4) (.var 2)) (.cons (.asg (.sub (.var 3) (.var 4)) (.cst (.bl true))) .nil) .nil) .nil))
    (step := fun T g => if decide (g ≠ f) then ins T g else T) (I := fun ts T env g => g = h ++ [.dct (db T)] ∧ (∃ d, env = [some v, some (.ref n), some (tI f), some (.ref h.length), d]) ∧ T.length + ts.length ≤ 1000000)
    (fun _ _ _ _ _ => rfl) (by
      rintro t ts a env g ⟨rfl, ⟨c, rfl⟩, h1⟩
      simp only [List.length_cons] at h1
      by_cases e : t = f
      · refine ⟨[some v, some (.ref n), some (tI f), some (.ref h.length), some (tI t)], by simp, _, h ++ [.dct (db a)], ?_, ?_, ⟨some (tI t), rfl⟩, ?_⟩
        · simp [eq_tI, e]
        · simp [e]
        · simp [e]
          omega
      · refine ⟨[some v, some (.ref n), some (tI f), some (.ref h.length), some (tI t)], by simp, _, h ++ [.dct (db (ins a t))], ?_, ?_, ⟨some (tI t), rfl⟩, ?_⟩
        · simp [eq_tI, e, put_db (show a.length < LIM by simp [LIM]; omega)]
        · simp [e]
        · have := length_ins (S := a) (f := t)
          simp [e]
          omega) fs T [some v, some (.ref n), some (tI f), some (.ref h.length), d] _ ⟨rfl, ⟨d, rfl⟩, hl⟩
  refine ⟨c, ?_⟩
  rw [q]
  congr 4
  unfold innA insA
  rw [List.foldl_filter]
theorem inn_loop {v : PV} {n : Nat} {R : List Fc} (hl : R.length ≤ 1000) (hf : ∀ f ∈ R, f.length ≤ 5) {chk : Chk} (hchk : ∀ T, chk (h ++ [.dct (db T)]) = true) {c0 : Option PV} :
    ∃ c d, forGo chk (tgSet (.nm 2)) (dSs [s_parts_of_face] (.cons (.for_ (.nm 4) (.ex (.call 0 (.cons (.var 2) .nil))) (.cons (.ifs (.cmp .ne (.var 4) (.var 2)) (.cons (.asg (.sub (.var 3) (.var 4)) (.cst (.bl true))) .nil) .nil) .nil)) .nil)) (R.map tI) [some v, some (.ref n), c0, some (.ref h.length), none] (h ++ [.dct (db [])]) =
      .ok (.nx [some v, some (.ref n), c, some (.ref h.length), d]) (h ++ [.dct (db (inn [] R))]) := by
  obtain ⟨e, g, q, rfl, ⟨c, d, rfl⟩, _⟩ := for_inv (enc := tI) (chk := chk) (tg := tgSet (.nm 2)) (body := dSs [s_parts_of_face] (.cons (.for_ (.nm 4) (.ex (.call 0 (.cons (.var 2) .nil))) (.cons (.ifs (.cmp .ne (.var 4) (.var 2)) (.cons (.asg (.sub (.var 3) (.var 4)) (.cst (.bl true))) .nil) .nil) .nil)) .nil))
    (step := fun T f => innA T (parts f) f) (I := fun ts T env g => g = h ++ [.dct (db T)] ∧ (∃ c d, env = [some v, some (.ref n), c, some (.ref h.length), d]) ∧ T.length + ts.length * 32 ≤ 32000 ∧ ∀ f ∈ ts, f.length ≤ 5)
    (fun _ _ _ _ i => by rw [i.1]; exact hchk _) (by
      rintro t ts a env g ⟨rfl, ⟨c, d, rfl⟩, h1, h2⟩
      have l1 := h2 t (List.mem_cons_self ..)
      have l2 := length_parts t
      have l3 : 2 ^ t.length ≤ 2 ^ 5 := Nat.pow_le_pow_right (by decide) l1
      simp only [List.length_cons, Nat.add_mul] at h1
      obtain ⟨d', q⟩ := inn_inner (h := h) (ctx := [s_parts_of_face]) (v := v) (f := t) (n := n) (T := a) (fs := parts t) (d := d) (by omega)
      refine ⟨[some v, some (.ref n), some (tI t), some (.ref h.length), d], by simp, _, h ++ [.dct (db (innA a (parts t) t))], ?_, rfl, ⟨some (tI t), d', rfl⟩, ?_, fun f hf => h2 f (List.mem_cons_of_mem _ hf)⟩
      · simp [parts_ev (show t.length ≤ 12 by omega), q]
      · have h3 := innA_len a (parts t) t
        omega) R [] [some v, some (.ref n), c0, some (.ref h.length), none] (h ++ [.dct (db [])]) ⟨rfl, ⟨_, _, rfl⟩, by simp; omega, hf⟩
  exact ⟨c, d, q⟩
theorem greatest_of_ev {ks : List Fc} (hl : ks.length ≤ 1000) (hf : ∀ f ∈ ks, f ≠ [] ∧ f.length ≤ 5) : ∃ M, MaxOf ks M ∧ s_greatest_of [.lst (ks.map tI)] h = .ok (.tup (M.map tI)) h := by
  have hR : ∀ x, x ∈ insA [] ks ↔ x ∈ ks := fun x => by rw [mem_insA]; simp
  have nd : (insA [] ks).Nodup := nodup_insA List.nodup_nil
  have Rl : (insA [] ks).length ≤ 1000 := by
    have := length_insA (fs := ks) (S := [])
    simp at this
    omega
  have Rf : ∀ f ∈ insA [] ks, f ≠ [] ∧ f.length ≤ 5 := fun f hf' => hf f ((hR f).mp hf')
  refine ⟨sortF ((insA [] ks).filter fun f => decide (f ∉ inn [] (insA [] ks))), ⟨sortF_lt (nd.filter _), fun x => ?_⟩, ?_⟩
  · rw [mem_sortF, List.mem_filter, hR, decide_eq_true_eq, mem_inn]
    constructor
    · rintro ⟨a, b⟩
      refine ⟨a, fun y hy hs => ?_⟩
      by_cases e : x = y
      · exact e
      · exact absurd (.inr ⟨y, (hR y).mpr hy, mem_parts.mpr ⟨(hf x a).1, hs⟩, e⟩) b
    · rintro ⟨a, b⟩
      refine ⟨a, fun q => ?_⟩
      rcases q with q | ⟨f, f1, f2, f3⟩
      · cases q
      · exact f3 (b f ((hR f).mp f1) (mem_parts.mp f2).2)
  · obtain ⟨c, q1⟩ := rows_loop (h := h) (ctx := [s_parts_of_face]) (v := .lst (ks.map tI)) hl
    generalize insA [] ks = Rr at *
    obtain ⟨c', d', q2⟩ := inn_loop (h := h ++ [.dctL (db Rr)]) (v := .lst (ks.map tI)) (n := h.length) (R := Rr) Rl (fun f hf => (Rf f hf).2) (chk := fun g => decide (g[h.length]? = some (.dctL (db Rr)))) (c0 := c) (fun T => by simp [at_mid])
    have lk1 : ∀ {e : Option PV} {d : Option PV} {o : Option PV} {t : PHeap}, lockV 1 [some (.lst (ks.map tI)), some (.ref h.length), e, d, o] (h ++ [.dct (db Rr)] ++ t) = some h.length := fun {e d o t} => by
      unfold lockV
      simp only [List.getElem?_cons_succ, List.getElem?_cons_zero, at_mid]
    have ws : ∀ {t : PHeap}, walkSrc (h ++ [.dctL (db Rr)] ++ t) (.ref h.length) = some (Rr.map tI, fun g => decide (g[h.length]? = some (.dctL (db Rr)))) := fun {t} => by
      unfold walkSrc
      simp only [at_mid]
      rw [db_fst]
    have len1 : (h ++ [Cell.dctL (db Rr)]).length = h.length + 1 := by simp
    have len2 : (h ++ [Cell.dct (db Rr)]).length = h.length + 1 := by simp
    have isn : ∀ f, isIn (h ++ [.dctL (db Rr)] ++ [.dct (db (inn [] Rr))]) (tI f) (.ref (h.length + 1)) = some (decide (f ∈ inn [] Rr)) := fun f => by
      have : asDict (h ++ [.dctL (db Rr)] ++ [.dct (db (inn [] Rr))]) (.ref (h.length + 1)) = some (db (inn [] Rr)) := by
        have g : (h ++ [Cell.dctL (db Rr)] ++ [Cell.dct (db (inn [] Rr))])[h.length + 1]? = some (.dct (db (inn [] Rr))) := by
          rw [← len1]
          exact at_last
        simp only [asDict, g]
      have h2 := in_db (g := h) f (inn [] Rr)
      unfold isIn at h2 ⊢
      rw [this]
      exact h2
    rw [len1] at q2
    have e1 : ∀ {x : List PV} {g : PHeap}, anySrc g (.lst x) = some x := rfl
    have e2 : ∀ {x : List PV} {g : PHeap}, asSeq g (.lst x) = some x := rfl
    have lkl : ∀ {env : HW.Env} {x : List PV} {g : PHeap}, lockV 0 (some (.lst x) :: env) g = none := rfl
    have lim : Rr.length ≤ LIM := by simp [LIM]; omega
    simp only [s_greatest_of, runFn, if_greatest_of]
    simp [lkl]
    rw [show ([] : List (PV × PV)) = db [] from rfl, q1]
    simp only [R.bind_ok, x_scons, x_asg, x_dct0, x_mdt, x_tg, x_tnm]
    simp
    rw [show h ++ [Cell.dct (db Rr), Cell.dct (db [])] = h ++ [.dct (db Rr)] ++ [.dct (db [])] by simp, lk1, lock_mid]
    simp [ws]
    rw [show h ++ [Cell.dctL (db Rr), Cell.dct (db [])] = h ++ [.dctL (db Rr)] ++ [.dct (db [])] by simp, ws]
    simp only [R.of_some, R.bind_ok]
    rw [q2]
    simp only [R.bind_ok, at_mid, if_true, set_mid]
    rw [lk1, lock_mid]
    simp only [List.getElem?_cons_succ, List.getElem?_cons_zero, R.bind_ok, ws, R.of_some, List.set_cons_succ, List.set_cons_zero]
    rw [comp_enc (fun f => !decide (f ∈ inn [] Rr)) tI (by simp only [at_mid, decide_true]) _ _ (fun b hb => ⟨_, by simp; rfl, by
      have i := isn b
      simp only [x_icons, x_inil, x_cmp, x_var, List.getElem?_cons_succ, List.getElem?_cons_zero, R.bind_ok, cmpop, i, Option.map_some, R.of_some, x_trb]
      cases decide (b ∈ inn [] Rr) <;> rfl, fun _ => by simp⟩) (by simpa using lim)]
    simp only [R.bind_ok, at_mid, if_true, set_mid, List.nil_append, convop, e1, R.of_some]
    rw [sortOk_tI (fun k hk => (Rf k (List.mem_filter.mp hk).1).1), sortV_tups]
    simp only [if_true, x_mkf, R.bind_ok, e2, R.of_some]
    have := finish_ext (h := h) (t := [.dct (db Rr)] ++ [.dct (db (inn [] Rr))]) (below_tup_tI h.length (sortF (Rr.filter fun f => !decide (f ∈ inn [] Rr))))
    rw [← List.append_assoc] at this
    exact this
end
end K12
namespace K12
open PySem HW
def minus (f x : Fc) : Fc := x.filter fun c => decide (c ∉ f)
structure Gd (s : List Fc) : Prop where
  n : s.length ≤ 40
  f : ∀ f ∈ s, f ≠ [] ∧ f.length ≤ 5
  inc : ∀ f ∈ s, f.Pairwise (· < ·)
  al : (allF s).length ≤ 31
theorem Shp.gd {s : List Fc} (S : Shp s) : Gd s := ⟨S.n, S.f, S.inc, S.al⟩
theorem Gd.sm {s : List Fc} (h : Gd s) : Sm s := ⟨by have := h.n; omega, fun f hf => by have := (h.f f hf).2; omega⟩
theorem Gd.af {s : List Fc} (S : Gd s) {x : Fc} (h : x ∈ allF s) : x ≠ [] ∧ x.length ≤ 5 ∧ x.Pairwise (· < ·) := by
  obtain ⟨f, f1, f2, f3⟩ := mem_allF.mp h
  have := f3.length_le
  have := (S.f f f1).2
  exact ⟨f2, by omega, (S.inc f f1).sublist f3⟩
theorem minus_sub (f : Fc) {x y : Fc} (h : x.Sublist y) : (minus f x).Sublist (minus f y) := h.filter _
theorem wit_trans {a b c : Fc} (h1 : wit a b = true) (h2 : b.Sublist c) : wit a c = true := List.all_eq_true.mpr fun x hx => decide_eq_true (h2.subset (of_decide_eq_true (List.all_eq_true.mp h1 x hx)))
section
variable {h : PHeap}
theorem ni_tI (c : Int) (f : Fc) : cmpop .notin (.int c) (tI f) h = some (decide (c ∉ f)) := by
  simp [cmpop, in_tI]
theorem star_ev {s : List Fc} (S : Gd s) {face : Fc} (hl : face.length ≤ 12) : s_star [.tup (s.map tI), tI face] h = .ok (.tup ((s.filter (wit face)).map tI)) h := by
  have l := S.n
  simp [s_star, runFn, if_star, lockV]
  rw [comp_enc (wit face) tI rfl _ _ (fun b hb => ⟨_, by simp; rfl, by simp [within_ev (show face.length ≤ LIM by simp [LIM]; omega)], fun _ => by simp⟩) (by simp [LIM]; omega)]
  have e2 : ∀ {x : List PV}, asSeq h (.lst x) = some x := rfl
  simp [convop, e2]
  exact finish_same (below_tup_tI _ _)
theorem minus_comp {ctx : List Sem} {env : HW.Env} {i j : Nat} {f x : Fc} (hij : i ≠ j) (hi : env[j]? = some (some (tI f))) (hl : i < env.length) (hx : x.length ≤ LIM) :
    compGo (fun _ => true) (tgSet (.nm i)) (dIfs ctx (.cons (.cmp .notin (.var i) (.var j)) .nil)) (dE ctx (.var i)) env (x.map .int) h [] = .ok ((minus f x).map .int) h := by
  have g1 : ∀ y, (env.set i y)[j]? = some (some (tI f)) := fun y => by rw [List.getElem?_set_ne hij, hi]
  have g2 : ∀ y, (env.set i y)[i]? = some y := fun y => by rw [List.getElem?_set_self hl]
  rw [comp_enc (fun c : Int => decide (c ∉ f)) PV.int rfl _ _ (fun c hc => ⟨_, by simp [hl]; rfl, by
    simp only [x_icons, x_inil, x_cmp, x_var, g1, g2, R.bind_ok, ni_tI, Option.map_some, R.of_some, x_trb]
    cases decide (c ∉ f) <;> rfl, fun _ => by simp only [x_var, g2]⟩) (by simpa using hx)]
  rfl
theorem link_ev {s : List Fc} (S : Gd s) {face : Fc} (hl : face.length ≤ 12) : ∃ M, MaxOf ((((s.filter (wit face)).map (minus face))).filter fun x => !x.isEmpty) M ∧ s_link [.tup (s.map tI), tI face] h = .ok (.tup (M.map tI)) h := by
  have l := S.n
  have l2 : (s.filter (wit face)).length ≤ s.length := List.length_filter_le _ _
  have hr : ∀ x ∈ ((s.filter (wit face)).map (minus face)).filter (fun x => !x.isEmpty), x ≠ [] ∧ x.length ≤ 5 := fun x hx => by
    obtain ⟨h1, h2⟩ := List.mem_filter.mp hx
    obtain ⟨y, hy, rfl⟩ := List.mem_map.mp h1
    refine ⟨fun e => by simp [e] at h2, ?_⟩
    have h3 : (minus face y).length ≤ y.length := List.length_filter_le _ _
    have := (S.f y (List.mem_filter.mp hy).1).2
    omega
  have l3 : (((s.filter (wit face)).map (minus face)).filter (fun x => !x.isEmpty)).length ≤ 1000 := by
    have := List.length_filter_le (fun x : Fc => !x.isEmpty) ((s.filter (wit face)).map (minus face))
    rw [List.length_map] at this
    omega
  obtain ⟨M, m1, m2⟩ := greatest_of_ev (h := h) l3 hr
  refine ⟨M, m1, ?_⟩
  have e2 : ∀ {x : List PV} {g : PHeap}, asSeq g (.lst x) = some x := rfl
  simp [s_link, runFn, if_link, star_ev S hl]
  rw [comp_map (fun x => tI (minus face x)) rfl _ (fun x hx => ⟨[some (.tup (s.map tI)), some (tI face), none, some (tI x), none], by simp, by
    have hx' := (S.f x (List.mem_filter.mp hx).1).2
    have lk : lockV 3 [some (.tup (s.map tI)), some (tI face), none, some (tI x), none] h = none := rfl
    simp [lk]
    rw [minus_comp (f := face) (i := 4) (j := 1) (by decide) rfl (by simp) (by simp [LIM]; omega)]
    simp [convop, e2]
    try rfl⟩) (by simp [LIM]; omega)]
  simp [lockV]
  rw [show List.map (fun x => tI (minus face x)) (s.filter (wit face)) = ((s.filter (wit face)).map (minus face)).map tI from by simp [Function.comp_def]]
  rw [comp_enc (fun x : Fc => !x.isEmpty) tI rfl _ _ (fun x hx => ⟨_, by simp; rfl, by simp <;> cases x <;> simp, fun _ => by simp⟩) (by simp [LIM]; omega)]
  simp only [List.nil_append, R.bind_ok]
  rw [m2]
  simp
  exact finish_same (below_tup_tI _ _)
theorem af_len {s : List Fc} (S : Gd s) (p : Fc → Bool) : ((allF s).filter p).length ≤ 1000 := by
  have := List.length_filter_le p (allF s)
  have := S.al
  omega
theorem af_f {s : List Fc} (S : Gd s) (p : Fc → Bool) : ∀ x ∈ (allF s).filter p, x ≠ [] ∧ x.length ≤ 5 := fun x hx => by
  have := S.af (List.mem_filter.mp hx).1
  exact ⟨this.1, this.2.1⟩
theorem without_ev {s : List Fc} (S : Gd s) (c : Int) : ∃ M, MaxOf ((allF s).filter fun x => decide (c ∉ x)) M ∧ s_without [.tup (s.map tI), .int c] h = .ok (.tup (M.map tI)) h := by
  obtain ⟨M, m1, m2⟩ := greatest_of_ev (h := h) (af_len S fun x => decide (c ∉ x)) (af_f S _)
  have al := S.al
  refine ⟨M, m1, ?_⟩
  simp [s_without, runFn, if_without, all_faces_ev S.sm]
  rw [show (db (allF s)).map (fun x => x.1) = (allF s).map tI from db_fst _]
  rw [comp_enc (fun x : Fc => decide (c ∉ x)) tI rfl _ _ (fun x hx => ⟨_, by simp; rfl, by
    simp [ni_tI]
    try (cases decide (c ∈ x) <;> rfl), fun _ => by simp⟩) (by simp [LIM]; omega)]
  simp only [List.nil_append, R.bind_ok]
  rw [m2]
  simp
  exact finish_same (below_tup_tI _ _)
theorem skeleton_ev {s : List Fc} (S : Gd s) (d : Int) : ∃ M, MaxOf ((allF s).filter fun x => decide ((x.length : Int) ≤ d + 1)) M ∧ s_skeleton [.tup (s.map tI), .int d] h = .ok (.tup (M.map tI)) h := by
  obtain ⟨M, m1, m2⟩ := greatest_of_ev (h := h) (af_len S fun x => decide ((x.length : Int) ≤ d + 1)) (af_f S _)
  have al := S.al
  refine ⟨M, m1, ?_⟩
  simp [s_skeleton, runFn, if_skeleton, all_faces_ev S.sm]
  rw [show (db (allF s)).map (fun x => x.1) = (allF s).map tI from db_fst _]
  rw [comp_enc (fun x : Fc => decide ((x.length : Int) ≤ d + 1)) tI rfl _ _ (fun x hx => ⟨_, by simp; rfl, by simp, fun _ => by simp⟩) (by simp [LIM]; omega)]
  simp only [List.nil_append, R.bind_ok]
  rw [m2]
  simp
  exact finish_same (below_tup_tI _ _)
theorem both_ev {s t : List Fc} (S : Gd s) (T : Gd t) : ∃ M, MaxOf ((allF s).filter fun x => decide (x ∈ allF t)) M ∧ s_both_parts [.tup (s.map tI), .tup (t.map tI)] h = .ok (.tup (M.map tI)) h := by
  obtain ⟨M, m1, m2⟩ := greatest_of_ev (h := h) (af_len S fun x => decide (x ∈ allF t)) (af_f S _)
  have al := S.al
  refine ⟨M, m1, ?_⟩
  simp [s_both_parts, runFn, if_both_parts, all_faces_ev S.sm, all_faces_ev T.sm]
  rw [show (db (allF s)).map (fun x => x.1) = (allF s).map tI from db_fst _]
  rw [comp_enc (fun x : Fc => decide (x ∈ allF t)) tI rfl _ _ (fun x hx => ⟨_, by simp; rfl, by simp [in_db], fun _ => by simp⟩) (by simp [LIM]; omega)]
  simp only [List.nil_append, R.bind_ok]
  rw [m2]
  simp
  exact finish_same (below_tup_tI _ _)
theorem either_ev {s t : List Fc} (S : Gd s) (T : Gd t) : ∃ M, MaxOf (s ++ t) M ∧ s_either_part [.tup (s.map tI), .tup (t.map tI)] h = .ok (.tup (M.map tI)) h := by
  have l1 := S.n
  have l2 := T.n
  obtain ⟨M, m1, m2⟩ := greatest_of_ev (h := h) (ks := s ++ t) (by rw [List.length_append]; omega) (fun f hf => (List.mem_append.mp hf).elim (S.f f) (T.f f))
  refine ⟨M, m1, ?_⟩
  simp [s_either_part, runFn, if_either_part]
  rw [x_addl (by simp [LIM]; omega)]
  simp only [R.of_some, R.bind_ok]
  rw [← List.map_append, m2]
  simp
  exact finish_same (below_tup_tI _ _)
/-- the law's *)-/
theorem law_max_ev {v : PV} {B : List Fc} (hv : asSeq h v = some (B.map tI)) (hl : B.length < 64) (hf : ∀ f ∈ B, f ≠ [] ∧ f.length ≤ 5 ∧ f.Pairwise (· < ·)) : ∃ N, MaxOf B N ∧ s__law_greatest [v] h = .ok (.tup (N.map tI)) h := by
  obtain ⟨rows, r1, r2, r0, r3⟩ := law_greatest_ev (h := h) hv hl (fun k hk => (hf k hk).1) (fun k hk => by have := (hf k hk).2.1; simp [LIM]; omega)
  exact ⟨_, max_law (fun f hf' => (hf f hf').2.2) r1 r2, r3⟩
end
theorem star_max {s : List Fc} (S : Shp s) (face : Fc) : MaxOf (s.filter (wit face)) (s.filter (wit face)) := ⟨S.so.filter _, fun x => ⟨fun hx => ⟨hx, fun y hy hs => (top1_iff S.inc (List.mem_filter.mp hx).1).mp (S.an x (List.mem_filter.mp hx).1) y (List.mem_filter.mp hy).1 hs⟩, fun hx => hx.1⟩⟩
def fa (s : List Fc) : List Fc := sortF (allF s)
theorem mem_fa {s : List Fc} {x : Fc} : x ∈ fa s ↔ x ∈ allF s := mem_sortF
theorem mem_self {s : List Fc} (S : Gd s) {x : Fc} (h : x ∈ s) : x ∈ allF s := mem_allF.mpr ⟨x, h, (S.f x h).1, List.Sublist.refl _⟩
theorem star_eq {s : List Fc} (S : Shp s) {face : Fc} {N : List Fc} (hN : MaxOf ((fa s).filter (wit face)) N) : s.filter (wit face) = N := by
  refine max_same (star_max S face) hN (fun a ha => ?_) fun b hb => ?_
  · obtain ⟨h1, h2⟩ := List.mem_filter.mp ha
    exact List.mem_filter.mpr ⟨mem_fa.mpr (mem_self S.gd h1), h2⟩
  · obtain ⟨h1, h2⟩ := List.mem_filter.mp hb
    obtain ⟨f, f1, f2, f3⟩ := mem_allF.mp (mem_fa.mp h1)
    exact ⟨f, List.mem_filter.mpr ⟨f1, wit_trans h2 f3⟩, f3⟩
theorem link_eq {s : List Fc} (S : Shp s) {face : Fc} {M N : List Fc} (hM : MaxOf ((((s.filter (wit face)).map (minus face))).filter fun x => !x.isEmpty) M) (hN : MaxOf ((((fa s).filter (wit face)).map (minus face)).filter fun x => !x.isEmpty) N) : M = N := by
  refine max_same hM hN (fun a ha => ?_) fun b hb => ?_
  · obtain ⟨h1, h2⟩ := List.mem_filter.mp ha
    obtain ⟨y, hy, rfl⟩ := List.mem_map.mp h1
    obtain ⟨h3, h4⟩ := List.mem_filter.mp hy
    exact List.mem_filter.mpr ⟨List.mem_map.mpr ⟨y, List.mem_filter.mpr ⟨mem_fa.mpr (mem_self S.gd h3), h4⟩, rfl⟩, h2⟩
  · obtain ⟨h1, h2⟩ := List.mem_filter.mp hb
    obtain ⟨y, hy, rfl⟩ := List.mem_map.mp h1
    obtain ⟨h3, h4⟩ := List.mem_filter.mp hy
    obtain ⟨f, f1, f2, f3⟩ := mem_allF.mp (mem_fa.mp h3)
    have hs := minus_sub face f3
    refine ⟨minus face f, List.mem_filter.mpr ⟨List.mem_map.mpr ⟨f, List.mem_filter.mpr ⟨f1, wit_trans h4 f3⟩, rfl⟩, ?_⟩, hs⟩
    cases q : minus face f with
    | nil =>
      rw [q] at hs
      rw [List.sublist_nil.mp hs] at h2
      simp at h2
    | cons a b => rfl
theorem filt_eq {s : List Fc} (p : Fc → Bool) {M N : List Fc} (hM : MaxOf ((allF s).filter p) M) (hN : MaxOf ((fa s).filter p) N) : M = N :=
  max_same hM hN (fun a ha => List.mem_filter.mpr ⟨mem_fa.mpr (List.mem_filter.mp ha).1, (List.mem_filter.mp ha).2⟩) fun b hb => ⟨b, List.mem_filter.mpr ⟨mem_fa.mp (List.mem_filter.mp hb).1, (List.mem_filter.mp hb).2⟩, List.Sublist.refl _⟩
theorem either_eq {s t : List Fc} (S : Gd s) (T : Gd t) {M N : List Fc} (hM : MaxOf (s ++ t) M) (hN : MaxOf (fa s ++ fa t) N) : M = N := by
  refine max_same hM hN (fun a ha => ?_) fun b hb => ?_
  · rcases List.mem_append.mp ha with q | q
    · exact List.mem_append.mpr (.inl (mem_fa.mpr (mem_self S q)))
    · exact List.mem_append.mpr (.inr (mem_fa.mpr (mem_self T q)))
  · rcases List.mem_append.mp hb with q | q
    · obtain ⟨f, f1, f2, f3⟩ := mem_allF.mp (mem_fa.mp q)
      exact ⟨f, List.mem_append.mpr (.inl f1), f3⟩
    · obtain ⟨f, f1, f2, f3⟩ := mem_allF.mp (mem_fa.mp q)
      exact ⟨f, List.mem_append.mpr (.inr f1), f3⟩
end K12
namespace K12
open PySem HW
/-! the neighbours' table *)-/
def adj (E : List Fc) (a b : Int) : Bool := decide ((if b < a then [b, a] else [a, b]) ∈ E)
def nbs (E : List Fc) (v : Int) : List Int := (rng 12).filter fun k => adj E k v
theorem nbs_lt (E : List Fc) (v : Int) : (nbs E v).Pairwise (· < ·) := (rng_lt 12).filter _
def upA (A : Int → List Int) (a b : Int) : Int → List Int := fun c => if c = a then A a ++ [b] else A c
def addE (A : Int → List Int) : Fc → Int → List Int
  | [a, b] => upA (upA A a b) b a
  | _ => A
structure EOk (V : List Int) (E : List Fc) : Prop where
  p : ∀ e ∈ E, ∃ a b, e = [a, b] ∧ a < b ∧ a ∈ V ∧ b ∈ V
  n : E.Nodup
  v : ∀ x ∈ V, 0 ≤ x ∧ x < 12
  vs : V.Pairwise (· < ·)
  vl : V.length ≤ 6
theorem addE_mem (P : List Fc) {A : Int → List Int} (hA : ∀ c k, k ∈ A c ↔ [c, k] ∈ P ∨ [k, c] ∈ P) {a b : Int} (h : a < b) (c k : Int) : k ∈ addE A [a, b] c ↔ [c, k] ∈ P ++ [[a, b]] ∨ [k, c] ∈ P ++ [[a, b]] := by
  simp only [addE, upA, List.mem_append, List.mem_singleton, List.cons.injEq, and_true]
  by_cases h1 : c = b
  · have h2 : ¬ b = a := by omega
    subst h1
    simp [h2, hA]
    constructor
    · rintro ((x | x) | x)
      · exact .inl x
      · exact .inr (.inl x)
      · exact .inr (.inr x)
    · rintro (x | x | x)
      · exact .inl (.inl x)
      · exact .inl (.inr x)
      · exact .inr x
  · by_cases h2 : c = a
    · subst h2
      simp [h1, hA]
      have : ¬ (c = b) := h1
      constructor
      · rintro ((x | x) | x)
        · exact .inl (.inl x)
        · exact .inr x
        · exact .inl (.inr x)
      · rintro ((x | x) | x)
        · exact .inl (.inl x)
        · exact .inr x
        · exact .inl (.inr x)
    · simp [h1, h2, hA]
theorem addE_nodup {P : List Fc} {A : Int → List Int} (hA : ∀ c k, k ∈ A c ↔ [c, k] ∈ P ∨ [k, c] ∈ P) (hn : ∀ c, (A c).Nodup) {a b : Int} (h : a < b) (hab : [a, b] ∉ P) (hba : [b, a] ∉ P) (c : Int) : (addE A [a, b] c).Nodup := by
  have n1 : b ∉ A a := fun q => ((hA a b).mp q).elim hab hba
  have n2 : a ∉ A b := fun q => ((hA b a).mp q).elim hba hab
  have snoc : ∀ {l : List Int} {x : Int}, l.Nodup → x ∉ l → (l ++ [x]).Nodup := fun {l x} h1 h2 => List.nodup_append.mpr ⟨h1, by simp, by
    rintro y hy z hz rfl
    rw [List.mem_singleton] at hz
    exact h2 (hz ▸ hy)⟩
  simp only [addE, upA]
  by_cases h1 : c = b
  · have h2 : ¬ b = a := by omega
    subst h1
    simp only [if_true, h2, if_false]
    exact snoc (hn c) n2
  · by_cases h2 : c = a
    · subst h2
      simp only [h1, if_false, if_true]
      exact snoc (hn c) n1
    · simp only [h1, h2, if_false]
      exact hn c
theorem fold_addE {V : List Int} : ∀ (E P : List Fc) (A : Int → List Int), EOk V (P ++ E) → (∀ c k, k ∈ A c ↔ [c, k] ∈ P ∨ [k, c] ∈ P) → (∀ c, (A c).Nodup) → (∀ c k, k ∈ E.foldl addE A c ↔ [c, k] ∈ P ++ E ∨ [k, c] ∈ P ++ E) ∧ ∀ c, (E.foldl addE A c).Nodup
  | [], P, A, _, h1, h2 => by simpa using ⟨h1, h2⟩
  | e :: E, P, A, ok, h1, h2 => by
    obtain ⟨a, b, rfl, hab, _, _⟩ := ok.p e (by simp)
    have n := ok.n
    rw [List.nodup_append] at n
    have no : [a, b] ∉ P := fun q => n.2.2 _ q _ (List.mem_cons_self ..) rfl
    have no2 : [b, a] ∉ P := fun q => by
      obtain ⟨x, y, e, h, _⟩ := ok.p _ (List.mem_append.mpr (.inl q))
      cases e
      omega
    have := fold_addE E (P ++ [[a, b]]) (addE A [a, b]) (by simpa using ok) (addE_mem P h1 hab) (addE_nodup h1 h2 hab no no2)
    simpa using this
theorem nbs_eq {V : List Int} {E : List Fc} (ok : EOk V E) (c : Int) : (E.foldl addE (fun _ => []) c).mergeSort leI = nbs E c := by
  obtain ⟨h1, h2⟩ := fold_addE E [] (fun _ => []) (by simpa using ok) (by simp) (by simp)
  refine uniqI (sortI_lt (h2 c)) (nbs_lt E c) fun k => ?_
  rw [List.mem_mergeSort, h1 c k]
  unfold nbs
  rw [List.mem_filter]
  unfold adj
  simp only [List.nil_append, decide_eq_true_eq]
  constructor
  · rintro (q | q)
    · obtain ⟨a, b, e, h, h3, h4⟩ := ok.p _ q
      cases e
      refine ⟨List.mem_map.mpr ⟨k.toNat, List.mem_range.mpr ?_, ?_⟩, ?_⟩
      · have := ok.v _ h4
        omega
      · have := ok.v _ h4
        omega
      · rw [if_pos h]
        exact q
    · obtain ⟨a, b, e, h, h3, h4⟩ := ok.p _ q
      cases e
      refine ⟨List.mem_map.mpr ⟨k.toNat, List.mem_range.mpr ?_, ?_⟩, ?_⟩
      · have := ok.v _ h3
        omega
      · have := ok.v _ h3
        omega
      · rw [if_neg (by omega)]
        exact q
  · rintro ⟨_, q⟩
    split at q
    · exact .inl q
    · exact .inr q
theorem nbs_in {V : List Int} {E : List Fc} (ok : EOk V E) (v : Int) : ∀ k ∈ nbs E v, k ∈ V := by
  intro k hk
  have := (List.mem_filter.mp hk).2
  unfold adj at this
  rw [decide_eq_true_eq] at this
  split at this
  · obtain ⟨a, b, e, h, h3, h4⟩ := ok.p _ this
    cases e
    exact h4
  · obtain ⟨a, b, e, h, h3, h4⟩ := ok.p _ this
    cases e
    exact h3
def entF (k : Nat) : List Int → List (PV × PV)
  | [] => []
  | c :: C => (.int c, .ref k) :: entF (k + 1) C
theorem entF_append : ∀ (A B : List Int) (k : Nat), entF k (A ++ B) = entF k A ++ entF (k + A.length) B
  | [], B, k => by simp [entF]
  | a :: A, B, k => by
    rw [List.cons_append, entF, entF, entF_append A B (k + 1), List.length_cons, List.cons_append]
    congr 2
    congr 1
    omega
theorem entF_keys : ∀ (A : List Int) (k : Nat), ∀ e ∈ entF k A, ∃ c ∈ A, e.1 = .int c
  | [], _, e, h => by cases h
  | a :: A, k, e, h => by
    rw [entF] at h
    rcases List.mem_cons.mp h with q | q
    · exact ⟨a, List.mem_cons_self .., by rw [q]⟩
    · obtain ⟨c, h1, h2⟩ := entF_keys A (k + 1) e q
      exact ⟨c, List.mem_cons_of_mem _ h1, h2⟩
theorem entF_length : ∀ (A : List Int) (k : Nat), (entF k A).length = A.length
  | [], _ => rfl
  | a :: A, k => by simp [entF, entF_length A]
theorem entF_find {a : Int} : ∀ {A : List Int} {k : Nat}, a ∈ A → dFind (entF k A) (.int a) = some (.ref (k + A.idxOf a))
  | b :: A, k, h => by
    unfold dFind
    rw [entF, List.find?_cons]
    by_cases e : b = a
    · subst e
      simp
    · have e2 : ¬ PV.int b = .int a := fun q => e (int_inj q)
      simp only [e2, decide_false]
      rcases List.mem_cons.mp h with q | q
      · exact absurd q.symm e
      · have ih := entF_find (k := k + 1) q
        unfold dFind at ih
        rw [ih, List.idxOf_cons]
        have : (b == a) = false := by simpa using e
        simp only [this, cond_false]
        congr 2
        omega
theorem set_idx {β : Type} {a : Int} (v : β) : ∀ {C : List Int} {F : Int → β}, C.Nodup → a ∈ C → (C.map F).set (C.idxOf a) v = C.map fun c => if c = a then v else F c
  | b :: C, F, hn, h => by
    rw [List.nodup_cons] at hn
    by_cases e : b = a
    · subst e
      rw [List.idxOf_cons_self, List.map_cons, List.set_cons_zero, List.map_cons, if_pos rfl]
      congr 1
      refine List.map_congr_left fun c hc => ?_
      rw [if_neg fun q : c = b => hn.1 (q ▸ hc)]
    · rcases List.mem_cons.mp h with q | q
      · exact absurd q.symm e
      · have : (b == a) = false := by simpa using e
        rw [List.idxOf_cons, this, cond_false, List.map_cons, List.set_cons_succ, List.map_cons, if_neg e, set_idx v hn.2 q]
section
variable {h : PHeap}
theorem near_start {ctx : List Sem} {env : HW.Env} (he : 4 < env.length) : ∀ (C2 C1 : List Int), (C1 ++ C2).Nodup → C1.length + C2.length ≤ 1000 →
    dcompGo (fun _ => true) (tgSet (.nm 4)) (dIfs ctx .nil) (dE ctx (.var 4)) (dE ctx (.lst true .nil)) env (C2.map .int) (h ++ C1.map fun _ => .lst []) (entF h.length C1) = .ok (entF h.length (C1 ++ C2)) (h ++ (C1 ++ C2).map fun _ => .lst [])
  | [], C1, _, _ => by simp [dcompGo]
  | c :: C2, C1, hn, hl => by
    simp only [List.length_cons] at hl
    have ih := near_start (ctx := ctx) he C2 (C1 ++ [c]) (by simpa using hn) (by simp; omega)
    have no : c ∉ C1 := fun q => by
      rw [List.nodup_append] at hn
      exact hn.2.2 c q c (by simp) rfl
    have ko : keyOk (entF h.length C1) (.int c) = true := keyOk_int (fun e he => by
      obtain ⟨c, _, q⟩ := entF_keys _ _ e he
      exact ⟨c, q⟩) c
    have ll : (entF h.length C1).length < LIM := by
      rw [entF_length]
      simp [LIM]
      omega
    have dp : dPut (entF h.length C1) (.int c) (.ref (h.length + C1.length)) = entF h.length (C1 ++ [c]) := by
      unfold dPut
      rw [if_neg]
      · rw [entF_append]
        rfl
      · intro q
        obtain ⟨e, he, e2⟩ := List.any_eq_true.mp q
        obtain ⟨d, d1, d2⟩ := entF_keys _ _ e he
        rw [of_decide_eq_true e2] at d2
        exact no (int_inj d2 ▸ d1)
    rw [List.map_cons]
    simp [dcompGo, he, ko, ll, dp]
    simpa using ih
/-- the heap of the neighbours' rows *)-/
def cells (C : List Int) (A : Int → List Int) : PHeap := C.map fun c => .lst ((A c).map .int)
theorem cells_len (C : List Int) (A : Int → List Int) : (cells C A).length = C.length := by simp [cells]
theorem near_app {C : List Int} (hn : C.Nodup) {A : Int → List Int} {a b : Int} (ha : a ∈ C) (hA : (A a).length < LIM) {d : Cell} :
    recv .lapp (h ++ cells C A ++ [d]) (.ref (h.length + C.idxOf a)) = true ∧ methop .lapp (.ref (h.length + C.idxOf a)) [.int b] (h ++ cells C A ++ [d]) = .ok .non (h ++ cells C (upA A a b) ++ [d]) := by
  have hi : C.idxOf a < C.length := List.idxOf_lt_length_iff.mpr ha
  have hg : (h ++ cells C A ++ [d])[h.length + C.idxOf a]? = some (.lst ((A a).map .int)) := by
    rw [List.append_assoc, List.getElem?_append_right (by omega), List.getElem?_append_left (by rw [cells_len]; omega)]
    unfold cells
    rw [List.getElem?_map, show h.length + C.idxOf a - h.length = C.idxOf a by omega, List.getElem?_eq_getElem hi, List.getElem_idxOf hi]
    rfl
  constructor
  · simp only [recv, asList, hg]
    rfl
  · simp only [methop, mApp, hg]
    rw [if_pos (by simpa using hA)]
    congr 1
    rw [List.append_assoc, List.set_append_right _ _ (by omega), List.set_append_left _ _ (by rw [cells_len]; omega), show h.length + C.idxOf a - h.length = C.idxOf a by omega]
    unfold cells
    rw [set_idx _ hn ha, ← List.append_assoc]
    congr 2
    refine List.map_congr_left fun c _ => ?_
    unfold upA
    split
    · simp
    · rfl
end
end K12
namespace K12
open PySem HW
theorem nodup_lvl (s : List Fc) (d : Int) : (lvl s d).Nodup := ((sortF_perm _).nodup_iff.mpr (nodup_allF s)).filter _
theorem mem_lvl {s : List Fc} {d : Int} {f : Fc} : f ∈ lvl s d ↔ f ∈ allF s ∧ (f.length : Int) = d + 1 := by
  unfold lvl
  rw [List.mem_filter, mem_sortF, decide_eq_true_eq]
theorem Shp.eok {s : List Fc} (S : Shp s) : EOk (cs s) (lvl s 1) := by
  have hv : ∀ x ∈ cs s, 0 ≤ x ∧ x < 6 := fun x hx => by
    obtain ⟨f, f1, f2⟩ := mem_cs.mp hx
    exact S.rg f f1 x f2
  refine ⟨fun e he => ?_, nodup_lvl s 1, fun x hx => by have := hv x hx; omega, cs_lt s, ?_⟩
  · obtain ⟨h1, h2⟩ := mem_lvl.mp he
    obtain ⟨f, f1, f2, f3⟩ := mem_allF.mp h1
    have inc := (S.inc f f1).sublist f3
    match e, h2 with
    | [a, b], _ =>
      refine ⟨a, b, rfl, ?_, mem_cs.mpr ⟨f, f1, f3.subset (by simp)⟩, mem_cs.mpr ⟨f, f1, f3.subset (by simp)⟩⟩
      exact (List.pairwise_cons.mp inc).1 b (by simp)
  · have := nodup_len (a := cs s) (b := rng 6) ((cs_lt s).imp fun {a b} (h : a < b) => show a ≠ b by omega) fun x hx => by
      have := hv x hx
      exact List.mem_map.mpr ⟨x.toNat, List.mem_range.mpr (by omega), by omega⟩
    rwa [rng_len] at this
def nearD (C : List Int) (E : List Fc) : List (PV × PV) := C.map fun c => (.int c, .lst ((nbs E c).map .int))
theorem nearD_keys (C : List Int) (E : List Fc) : ∀ e ∈ nearD C E, ∃ c, e.1 = .int c := fun e he => by
  obtain ⟨c, _, rfl⟩ := List.mem_map.mp he
  exact ⟨c, rfl⟩
theorem nearD_find {E : List Fc} {v : Int} : ∀ {C : List Int}, v ∈ C → dFind (nearD C E) (.int v) = some (.lst ((nbs E v).map .int))
  | c :: C, h => by
    unfold dFind nearD
    rw [List.map_cons, List.find?_cons]
    by_cases e : c = v
    · subst e
      simp
    · have e2 : ¬ PV.int c = .int v := fun q => e (int_inj q)
      simp only [e2, decide_false]
      rcases List.mem_cons.mp h with q | q
      · exact absurd q.symm e
      · exact nearD_find (C := C) q
section
variable {h : PHeap}
theorem lock_last {α : Type} {f : PHeap → R α} {es : List (PV × PV)} : withLock (some h.length) f (h ++ [.dct es]) = (f (h ++ [.dctL es])).bind fun r g => if g[h.length]? = some (.dctL es) then .ok r (g.set h.length (.dct es)) else .bad := by
  unfold withLock
  simp [at_last, set_last]
theorem near_item {C : List Int} {E : List Fc} {v : Int} (hv : v ∈ C) : itemOf h (.dct (nearD C E)) (.int v) = some (.lst ((nbs E v).map .int)) := by
  show (if keyOk (nearD C E) (.int v) then dFind (nearD C E) (.int v) else none) = _
  rw [if_pos (keyOk_int (nearD_keys C E) v), nearD_find hv]
theorem near_isin {C : List Int} {E : List Fc} {v : Int} : isIn h (.int v) (.dct (nearD C E)) = some (decide (v ∈ C)) := by
  show (if keyOk (nearD C E) (.int v) then some ((nearD C E).any fun e => decide (e.1 = .int v)) else none) = _
  rw [if_pos (keyOk_int (nearD_keys C E) v)]
  congr 1
  unfold nearD
  rw [List.any_map, Bool.eq_iff_iff, List.any_eq_true, decide_eq_true_eq]
  constructor
  · rintro ⟨c, h1, h2⟩
    have := of_decide_eq_true h2
    exact int_inj this ▸ h1
  · intro hv
    exact ⟨v, hv, by simp⟩
theorem near_loop {ctx : List Sem} {v : PV} {C : List Int} (hn : C.Nodup) {E : List Fc} (hE : ∀ e ∈ E, ∃ a b, e = [a, b] ∧ a ∈ C ∧ b ∈ C) (hl : E.length ≤ 1000) {n : Nat} (en : n = h.length + C.length) :
    ∃ x y, forGo (fun _ => true) (tgSet (.tp [.nm 2, .nm 3])) (dSs ctx (.cons (.expr (.meth .lapp (.sub (.var 1) (.var 2)) (.cons (.var 3) .nil))) (.cons (.expr (.meth .lapp (.sub (.var 1) (.var 3)) (.cons (.var 2) .nil))) .nil))) (E.map tI) [some v, some (.ref n), none, none, none, none] (h ++ cells C (fun _ => []) ++ [.dct (entF h.length C)]) =
      .ok (.nx [some v, some (.ref n), x, y, none, none]) (h ++ cells C (E.foldl addE fun _ => []) ++ [.dct (entF h.length C)]) := by
  obtain ⟨e, g, q, rfl, ⟨x, y, rfl⟩, _⟩ := for_inv (enc := tI) (chk := fun _ => true) (tg := tgSet (.tp [.nm 2, .nm 3])) (body := dSs ctx (.cons (.expr (.meth .lapp (.sub (.var 1) (.var 2)) (.cons (.var 3) .nil))) (.cons (.expr (.meth .lapp (.sub (.var 1) (.var 3)) (.cons (.var 2) .nil))) .nil)))
    (step := addE) (I := fun ts A env g => g = h ++ cells C A ++ [.dct (entF h.length C)] ∧ (∃ x y, env = [some v, some (.ref n), x, y, none, none]) ∧ (∀ c, (A c).length + 2 * ts.length ≤ 2000) ∧ ∀ e ∈ ts, ∃ a b, e = [a, b] ∧ a ∈ C ∧ b ∈ C)
    (fun _ _ _ _ _ => rfl) (by
      rintro t ts A env g ⟨rfl, ⟨x, y, rfl⟩, h1, h2⟩
      obtain ⟨a, b, rfl, ha, hb⟩ := h2 t (List.mem_cons_self ..)
      simp only [List.length_cons] at h1
      have it : ∀ {A : Int → List Int} {c : Int}, c ∈ C → itemOf (h ++ cells C A ++ [.dct (entF h.length C)]) (.ref n) (.int c) = some (.ref (h.length + C.idxOf c)) := fun {A c} hc => by
        have g : (h ++ cells C A ++ [Cell.dct (entF h.length C)])[n]? = some (.dct (entF h.length C)) := by
          have : n = (h ++ cells C A).length := by rw [List.length_append, cells_len, en]
          rw [this]
          exact at_last
        simp only [itemOf, asDict, g]
        rw [if_pos (keyOk_int (fun e he => by
          obtain ⟨c, _, q⟩ := entF_keys _ _ e he
          exact ⟨c, q⟩) c), entF_find hc]
      have n1 := near_app (h := h) hn (A := A) (b := b) ha (by have := h1 a; simp [LIM]; omega) (d := .dct (entF h.length C))
      have n2 := near_app (h := h) hn (A := upA A a b) (b := a) hb (by
        have := h1 b
        have := h1 a
        unfold upA
        split <;> simp [LIM] <;> omega) (d := .dct (entF h.length C))
      refine ⟨[some v, some (.ref n), some (.int a), some (.int b), none, none], by simp [tI], [some v, some (.ref n), some (.int a), some (.int b), none, none], h ++ cells C (addE A [a, b]) ++ [.dct (entF h.length C)], ?_, rfl, ⟨_, _, rfl⟩, fun c => ?_, fun e he => h2 e (List.mem_cons_of_mem _ he)⟩
      · simp only [x_scons, x_expr, x_meth, x_sub, x_var, x_cons, x_nil, List.getElem?_cons_succ, List.getElem?_cons_zero, R.bind_ok, it ha, it hb, R.of_some, n1.1, n1.2, n2.1, n2.2, if_true, x_snil]
        rfl
      · have := h1 c
        have := h1 a
        have := h1 b
        simp only [addE, upA]
        split
        · split <;> simp <;> omega
        · split
          · simp
            omega
          · omega) E (fun _ => []) [some v, some (.ref n), none, none, none, none] _ ⟨rfl, ⟨_, _, rfl⟩, fun c => by simp; omega, hE⟩
  exact ⟨x, y, q⟩
theorem near_end {ctx : List Sem} {env : HW.Env} (he : env.length = 6) {A : Int → List Int} {E : List Fc} (hA : ∀ c, (A c).mergeSort leI = nbs E c) {k : List Int} {Cs : PHeap} {D : List (PV × PV)} {g : PHeap} (hg : g = h ++ Cs ++ [.dctL D]) (chk : Chk) (hc : chk g = true) : ∀ (C2 C1 : List Int) (p : Nat), (C1 ++ C2).Nodup → C1.length + C2.length ≤ 1000 → (∀ (i : Nat) (c : Int), C2[i]? = some c → g[p + i]? = some (.lst ((A c).map .int))) →
    dcompGo chk (tgSet (.tp [.nm 4, .nm 5])) (dIfs ctx .nil) (dE ctx (.var 4)) (dE ctx (.conv .sorted false (.var 5))) env ((entF p C2).map fun e => .tup [e.1, e.2]) g (nearD C1 E) = .ok (nearD (C1 ++ C2) E) g
  | [], C1, p, _, _, _ => by simp [dcompGo, entF, hc]
  | c :: C2, C1, p, hn, hl, hx => by
    simp only [List.length_cons] at hl
    have ih := near_end (ctx := ctx) he hA hg (k := k) chk hc C2 (C1 ++ [c]) (p + 1) (by simpa using hn) (by simp; omega) fun i d hd => by
      have := hx (i + 1) d (by simpa using hd)
      rw [← this]
      congr 1
      omega
    have no : c ∉ C1 := fun q => by
      rw [List.nodup_append] at hn
      exact hn.2.2 c q c (by simp) rfl
    have ll : (nearD C1 E).length < LIM := by
      simp [nearD, LIM]
      omega
    have dp : dPut (nearD C1 E) (.int c) (.lst ((nbs E c).map .int)) = nearD (C1 ++ [c]) E := by
      unfold dPut
      rw [if_neg]
      · simp [nearD]
      · intro q
        obtain ⟨e, he, e2⟩ := List.any_eq_true.mp q
        obtain ⟨d, d1, rfl⟩ := List.mem_map.mp he
        exact no (int_inj (of_decide_eq_true e2) ▸ d1)
    have g0 := hx 0 c (by simp)
    rw [Nat.add_zero] at g0
    have cv : convop .sorted false (.ref p) g = .ok (.lst ((nbs E c).map .int)) g := by
      simp only [convop, anySrc, srcOf, g0, Option.map_some, R.of_some, R.bind_ok]
      rw [sortOk_ints, sortV_ints, hA]
      rfl
    rw [entF, List.map_cons]
    simp [dcompGo, hc, he, cv, keyOk_int (nearD_keys C1 E), ll, dp]
    simpa using ih
theorem neighbours_ev {s : List Fc} (S : Shp s) : s_neighbours [.tup (s.map tI)] h = .ok (.dct (nearD (cs s) (lvl s 1))) h := by
  have ok := S.eok
  have Sm := S.sm
  have nd : (cs s).Nodup := (cs_lt s).imp fun {a b} (h : a < b) => show a ≠ b by omega
  have vl := ok.vl
  have cl := corners_ev (h := h) (s := s) (by have := S.n; omega) (fun f hf => by have := (S.f f hf).2; omega)
  have el : (lvl s 1).length ≤ 31 := by
    have h1 : (lvl s 1).length ≤ (sortF (allF s)).length := List.length_filter_le _ _
    rw [(sortF_perm _).length_eq] at h1
    have := S.al
    omega
  have st := near_start (h := h) (ctx := [s_corners_of, s_faces_of]) (env := [some (.tup (s.map tI)), none, none, none, none, none]) (by simp) (cs s) [] (by simpa using nd) (by simp; omega)
  simp only [List.map_nil, List.append_nil, List.nil_append, entF] at st
  have c0 : (cs s).map (fun _ => Cell.lst []) = cells (cs s) fun _ => [] := by simp [cells]
  rw [c0] at st
  have en : (h ++ cells (cs s) fun _ => []).length = h.length + (cs s).length := by rw [List.length_append, cells_len]
  obtain ⟨x, y, lp⟩ := near_loop (h := h) (ctx := [s_corners_of, s_faces_of]) (v := .tup (s.map tI)) nd (E := lvl s 1) (fun e he => by
    obtain ⟨a, b, h1, _, h2, h3⟩ := ok.p e he
    exact ⟨a, b, h1, h2, h3⟩) (by omega) en
  have hA := nbs_eq ok
  generalize (lvl s 1).foldl addE (fun _ => []) = A at *
  have en2 : (h ++ cells (cs s) fun _ => []).length = (h ++ cells (cs s) A).length := by rw [List.length_append, List.length_append, cells_len, cells_len]
  have lk : ∀ {a b c d : Option PV}, lockV 1 [some (.tup (s.map tI)), some (.ref (h ++ cells (cs s) fun _ => []).length), a, b, c, d] (h ++ cells (cs s) A ++ [.dct (entF h.length (cs s))]) = some (h ++ cells (cs s) A).length := fun {a b c d} => by
    unfold lockV
    simp only [List.getElem?_cons_succ, List.getElem?_cons_zero]
    rw [en2, at_last]
  have ds : dictSrc (h ++ cells (cs s) A ++ [.dctL (entF h.length (cs s))]) (.ref (h ++ cells (cs s) fun _ => []).length) = some (entF h.length (cs s), fun g => decide (g[(h ++ cells (cs s) fun _ => []).length]? = some (.dctL (entF h.length (cs s))))) := by
    unfold dictSrc
    rw [en2]
    simp only [at_last]
  have nE := near_end (h := h) (ctx := [s_corners_of, s_faces_of]) (env := [some (.tup (s.map tI)), some (.ref (h ++ cells (cs s) fun _ => []).length), x, y, none, none]) rfl (A := A) (E := lvl s 1) hA (k := []) (Cs := cells (cs s) A) (D := entF h.length (cs s)) rfl (fun g => decide (g[(h ++ cells (cs s) fun _ => []).length]? = some (.dctL (entF h.length (cs s))))) (by rw [en2, at_last]; simp) (cs s) [] h.length (by simpa using nd) (by simp; omega) (fun i c hc => by
    have hi : i < (cs s).length := (List.getElem?_eq_some_iff.mp hc).1
    rw [List.append_assoc, List.getElem?_append_right (by omega), show h.length + i - h.length = i by omega, List.getElem?_append_left (by rw [cells_len]; exact hi)]
    unfold cells
    rw [List.getElem?_map, hc]
    rfl)
  have f1 := fun g => faces_of_ev (h := g) Sm 1
  simp [-List.append_assoc, -List.length_append, s_neighbours, runFn, if_neighbours, cl]
  rw [st]
  simp [-List.append_assoc, -List.length_append, f1]
  rw [lp]
  simp [-List.append_assoc, -List.length_append]
  rw [lk, lock_last]
  simp only [ds, R.of_some, R.bind_ok]
  have e0 : nearD [] (lvl s 1) = [] := rfl
  rw [e0, List.nil_append] at nE
  rw [nE]
  simp only [R.bind_ok, at_last, if_true, set_last]
  have fin := finish_ext (h := h) (t := cells (cs s) A ++ [.dct (entF h.length (cs s))]) (v := .dct (nearD (cs s) (lvl s 1))) (by
    rw [below]
    unfold nearD
    generalize cs s = C
    induction C with
    | nil => rfl
    | cons c C ih =>
      rw [List.map_cons, belowp, ih]
      simp [below, belows_ints])
  rw [← List.append_assoc] at fin
  exact fin
end
end K12
namespace K12
open PySem HW
def fw (Ws : List Fc) : List (PV × PV) := Ws.map fun w => (.int (lst w), tI w)
def vstep (w : Fc) (Ws : List Fc) (k : Int) : List Fc := if k ∈ Ws.map lst then Ws else Ws ++ [w ++ [k]]
theorem keys_enc (Ws : List Fc) : keys (Ws.map enc) = Ws.map lst := by simp [keys, enc, Function.comp_def]
theorem visit_enc (nb : Int → List Int) (w : Fc) (Ws : List Fc) : visit nb (Ws.map enc) w = ((nb (lst w)).foldl (vstep w) Ws).map enc := by
  unfold visit cand
  rw [List.foldl_map]
  generalize nb (lst w) = L
  induction L generalizing Ws with
  | nil => rfl
  | cons k L ih =>
    rw [List.foldl_cons, List.foldl_cons]
    have : put1 (Ws.map enc) (w ++ [k]) = (vstep w Ws k).map enc := by
      unfold put1 vstep
      rw [lst_snoc, keys_enc]
      split
      · rfl
      · simp
    rw [this, ih]
theorem fw_keys (Ws : List Fc) : ∀ e ∈ fw Ws, ∃ c, e.1 = .int c := fun e he => by
  obtain ⟨w, _, rfl⟩ := List.mem_map.mp he
  exact ⟨_, rfl⟩
theorem fw_find {w : Fc} : ∀ {Ws : List Fc}, (Ws.map lst).Nodup → w ∈ Ws → dFind (fw Ws) (.int (lst w)) = some (tI w)
  | u :: Ws, hn, h => by
    rw [List.map_cons, List.nodup_cons] at hn
    unfold dFind fw
    rw [List.map_cons, List.find?_cons]
    by_cases e : lst u = lst w
    · have : u = w := by
        rcases List.mem_cons.mp h with q | q
        · exact q.symm
        · exact absurd (List.mem_map.mpr ⟨w, q, e.symm⟩) hn.1
      subst this
      simp
    · have e2 : ¬ PV.int (lst u) = .int (lst w) := fun q => e (int_inj q)
      simp only [e2, decide_false]
      rcases List.mem_cons.mp h with q | q
      · exact absurd (q ▸ rfl) e
      · exact fw_find (Ws := Ws) hn.2 q
theorem fw_any (Ws : List Fc) (k : Int) : (fw Ws).any (fun e => decide (e.1 = .int k)) = decide (k ∈ Ws.map lst) := by
  unfold fw
  rw [List.any_map, Bool.eq_iff_iff, List.any_eq_true, decide_eq_true_eq, List.mem_map]
  constructor
  · rintro ⟨w, h1, h2⟩
    exact ⟨w, h1, int_inj (of_decide_eq_true h2)⟩
  · rintro ⟨w, h1, h2⟩
    exact ⟨w, h1, by simp [h2]⟩
theorem fw_put {Ws : List Fc} {w : Fc} {k : Int} (h : k ∉ Ws.map lst) : dPut (fw Ws) (.int k) (tI (w ++ [k])) = fw (Ws ++ [w ++ [k]]) := by
  unfold dPut
  rw [fw_any, decide_eq_false h]
  simp [fw]
theorem finish_dctT {h t : PHeap} {es : List (PV × PV)} (hk : ∀ e ∈ es, below h.length e.1 = true ∧ below h.length e.2 = true) : HW.finish false h (.ref h.length) (h ++ [.dct es] ++ t) = .ok (.dct es) h := by
  have h1 : okOuter h (h ++ [.dct es] ++ t) = true := by
    unfold okOuter
    rw [List.all_eq_true]
    intro m hm
    rw [List.mem_range] at hm
    rw [List.append_assoc, List.getElem?_append_left hm]
    simp
  have h2 : frz (h ++ [.dct es] ++ t) h.length 12 (.ref h.length) = some (.dct es) := by
    unfold frz
    have n : below h.length (.ref h.length) = false := by simp [below]
    have g : (h ++ [Cell.dct es] ++ t)[h.length]? = some (.dct es) := by
      rw [List.append_assoc, List.getElem?_append_right (Nat.le_refl _)]
      simp
    rw [n]
    simp only [Bool.false_eq_true, if_false, g]
    rw [if_pos (belows_all fun x hx => by
      obtain ⟨e, he, rfl⟩ := List.mem_map.mp hx
      exact (hk e he).1)]
    unfold frzs
    rw [mapM_frz (k := 9) fun x hx => by
      obtain ⟨e, he, rfl⟩ := List.mem_map.mp hx
      exact (hk e he).2]
    simp [zip_fst_snd]
  unfold HW.finish
  rw [h1, h2]
  simp
structure WOk (V : List Int) (Ws : List Fc) (n : Nat) : Prop where
  nd : (Ws.map lst).Nodup
  v : ∀ w ∈ Ws, lst w ∈ V
  l : ∀ w ∈ Ws, w.length ≤ n
theorem WOk.len {V : List Int} (hV : V.length ≤ 6) {Ws : List Fc} {n : Nat} (h : WOk V Ws n) : Ws.length ≤ 6 := by
  have := nodup_len h.nd (b := V) fun x hx => by
    obtain ⟨w, hw, rfl⟩ := List.mem_map.mp hx
    exact h.v w hw
  rw [List.length_map] at this
  omega
theorem WOk.step {V : List Int} {Ws : List Fc} {n : Nat} (h : WOk V Ws n) {w : Fc} {k : Int} (hk : k ∈ V) (hw : w.length + 1 ≤ n) : WOk V (vstep w Ws k) n := by
  unfold vstep
  split
  · exact h
  · rename_i q
    refine ⟨?_, fun u hu => ?_, fun u hu => ?_⟩
    · rw [List.map_append, List.nodup_append]
      refine ⟨h.nd, by simp, ?_⟩
      rintro a ha b hb rfl
      simp at hb
      exact q (hb ▸ ha)
    · rcases List.mem_append.mp hu with x | x
      · exact h.v u x
      · rw [List.mem_singleton.mp x, lst_snoc]
        exact hk
    · rcases List.mem_append.mp hu with x | x
      · exact h.l u x
      · rw [List.mem_singleton.mp x, List.length_append]
        exact hw
section
variable {h : PHeap}
abbrev HF (h : PHeap) (Ws : List Fc) : PHeap := h ++ [.dct (fw Ws)] ++ [.lst (Ws.map fun w => .int (lst w))]
theorem hf0 {Ws : List Fc} : (HF h Ws)[h.length]? = some (.dct (fw Ws)) := at_mid
theorem hf1 {Ws : List Fc} : (HF h Ws)[h.length + 1]? = some (.lst (Ws.map fun w => .int (lst w))) := by
  have : (h ++ [Cell.dct (fw Ws)]).length = h.length + 1 := by simp
  rw [← this]
  exact at_last
theorem order_at {Ws : List Fc} {a : Nat} {w : Fc} (ha : Ws[a]? = some w) : itemOf (HF h Ws) (.ref (h.length + 1)) (.int (a : Int)) = some (.int (lst w)) := by
  simp only [itemOf, asDict, asSeq, asList, hf1]
  exact L2.atI_nat (by simp [ha])
theorem found_at {Ws : List Fc} {w : Fc} (hn : (Ws.map lst).Nodup) (hw : w ∈ Ws) : itemOf (HF h Ws) (.ref h.length) (.int (lst w)) = some (tI w) := by
  simp only [itemOf, asDict, hf0]
  rw [if_pos (keyOk_int (fw_keys Ws) _), fw_find hn hw]
theorem found_in {Ws : List Fc} {k : Int} : cmpop .notin (.int k) (.ref h.length) (HF h Ws) = some (!decide (k ∈ Ws.map lst)) := by
  simp only [cmpop, isIn, asDict, hf0]
  rw [if_pos (keyOk_int (fw_keys Ws) _), fw_any]
  rfl
theorem found_put {Ws : List Fc} {w : Fc} {k : Int} (hk : k ∉ Ws.map lst) (hl : Ws.length < LIM) : putItem (HF h Ws) (.ref h.length) (.int k) (tI (w ++ [k])) = some (h ++ [.dct (fw (Ws ++ [w ++ [k]]))] ++ [.lst (Ws.map fun w => .int (lst w))]) := by
  simp only [putItem, hf0]
  rw [keyOk_int (fw_keys Ws) _, fw_put hk]
  have : (fw Ws).length < LIM := by simpa [fw] using hl
  simp only [this, decide_true, Bool.and_self, if_true]
  unfold HF
  rw [set_mid]
theorem order_app {Ws : List Fc} {D : List (PV × PV)} {k : Int} (hl : Ws.length < LIM) : recv .lapp (h ++ [.dct D] ++ [.lst (Ws.map fun w => .int (lst w))]) (.ref (h.length + 1)) = true ∧
    methop .lapp (.ref (h.length + 1)) [.int k] (h ++ [.dct D] ++ [.lst (Ws.map fun w => .int (lst w))]) = .ok .non (h ++ [.dct D] ++ [.lst ((Ws.map fun w => .int (lst w)) ++ [.int k])]) := by
  have len : (h ++ [Cell.dct D]).length = h.length + 1 := by simp
  have g : (h ++ [Cell.dct D] ++ [Cell.lst (Ws.map fun w => .int (lst w))])[h.length + 1]? = some (.lst (Ws.map fun w => .int (lst w))) := by
    rw [← len]
    exact at_last
  constructor
  · simp only [recv, asList, g]
    rfl
  · simp only [methop, mApp, g]
    rw [if_pos (by simpa using hl), ← len, set_last]
abbrev wbody : ISs := .cons (.ifs (.cmp .notin (.var 6) (.var 3)) (.cons (.asg (.sub (.var 3) (.var 6)) (.bin .add (.sub (.var 3) (.sub (.var 4) (.var 5))) (.tup (.cons (.var 6) .nil)))) (.cons (.expr (.meth .lapp (.var 4) (.cons (.var 6) .nil))) .nil)) .nil) .nil
theorem visit_loop {ctx : List Sem} {v nr : PV} {i : Int} {V : List Int} (hV : V.length ≤ 6) {a : Nat} {w : Fc} {c : Option PV} {n : Nat} : ∀ (L : List Int) (Ws : List Fc) (c : Option PV), WOk V Ws n → (∀ k ∈ L, k ∈ V) → w.length + 1 ≤ n → n ≤ 1000 → Ws[a]? = some w →
    ∃ c', forGo (fun _ => true) (tgSet (.nm 6)) (dSs ctx wbody) (L.map .int) [some v, some (.int i), some nr, some (.ref h.length), some (.ref (h.length + 1)), some (.int (a : Int)), c] (HF h Ws) =
      .ok (.nx [some v, some (.int i), some nr, some (.ref h.length), some (.ref (h.length + 1)), some (.int (a : Int)), c']) (HF h (L.foldl (vstep w) Ws)) ∧ WOk V (L.foldl (vstep w) Ws) n
  | [], Ws, c, ok, _, _, _, _ => ⟨c, by simp [forGo], ok⟩
  | k :: L, Ws, c, ok, hk, hw, hn, ha => by
    have ok2 := ok.step (hk k (List.mem_cons_self ..)) hw
    have wl := ok.len hV
    have ha2 : (vstep w Ws k)[a]? = some w := by
      unfold vstep
      split
      · exact ha
      · rw [List.getElem?_append_left (List.getElem?_eq_some_iff.mp ha).1, ha]
    obtain ⟨c', q1, q2⟩ := visit_loop (ctx := ctx) (v := v) (nr := nr) (i := i) hV (c := c) L (vstep w Ws k) (some (.int k)) ok2 (fun x hx => hk x (List.mem_cons_of_mem _ hx)) hw hn ha2
    refine ⟨c', ?_, q2⟩
    rw [List.foldl_cons, ← q1, List.map_cons]
    have hm : w ∈ Ws := List.mem_of_getElem? ha
    have lim : Ws.length < LIM := by simp [LIM]; omega
    conv => lhs; unfold forGo
    simp only [if_true, x_tnm, List.length_cons, List.length_nil, show (6 : Nat) < 0 + 1 + 1 + 1 + 1 + 1 + 1 + 1 from by decide, List.set_cons_succ, List.set_cons_zero]
    have body : dSs ctx wbody [some v, some (.int i), some nr, some (.ref h.length), some (.ref (h.length + 1)), some (.int (a : Int)), some (.int k)] (HF h Ws) = .ok (.nx [some v, some (.int i), some nr, some (.ref h.length), some (.ref (h.length + 1)), some (.int (a : Int)), some (.int k)]) (HF h (vstep w Ws k)) := by
      by_cases hin : k ∈ Ws.map lst
      · simp only [wbody, x_scons, x_ifs, x_T, x_cmp, x_var, List.getElem?_cons_succ, List.getElem?_cons_zero, R.bind_ok, found_in, hin, decide_true, Bool.not_true, Option.map_some, R.of_some, x_trb, Bool.false_eq_true, if_false, x_snil]
        unfold vstep
        rw [if_pos hin]
      · simp only [wbody, x_scons, x_ifs, x_T, x_cmp, x_var, List.getElem?_cons_succ, List.getElem?_cons_zero, R.bind_ok, found_in, hin, decide_false, Bool.not_false, Option.map_some, R.of_some, x_trb, if_true, x_asg, x_bin, x_sub, order_at ha, found_at ok.nd hm, x_tup, x_cons, x_nil, x_addI (show w.length < LIM by simp [LIM]; omega), x_tsub, found_put hin lim, x_expr, x_meth, (order_app (h := h) (D := fw (Ws ++ [w ++ [k]])) (k := k) lim).1, (order_app (h := h) (D := fw (Ws ++ [w ++ [k]])) (k := k) lim).2, x_snil]
        unfold vstep
        rw [if_neg hin]
        simp [HF]
    rw [body]
    simp only [R.bind_ok]
theorem while_loop {ctx : List Sem} {v : PV} {i : Int} {V : List Int} {E : List Fc} (ok : EOk V E) : ∀ (m a : Nat) (Ws : List Fc) (c : Option PV), WOk V Ws (a + 1) → 6 ≤ a + m → a + m ≤ 1005 →
    ∃ Ws' a' c', (bfs (nbs E) m (Ws.map enc) a = Ws'.map enc) ∧ whileGo (dT ctx (.cmp .lt (.var 5) (.blt .len (.cons (.var 4) .nil)))) (dSs ctx (.cons (.for_ (.nm 6) (.ex (.sub (.var 2) (.sub (.var 4) (.var 5)))) wbody) (.cons (.aug 5 .add (.cst (.int 1))) .nil))) (m + 1)
        [some v, some (.int i), some (.dct (nearD V E)), some (.ref h.length), some (.ref (h.length + 1)), some (.int (a : Int)), c] (HF h Ws) =
      .ok (.nx [some v, some (.int i), some (.dct (nearD V E)), some (.ref h.length), some (.ref (h.length + 1)), some (.int a'), c']) (HF h Ws')
  | m, a, Ws, c, wk, h6, hm => by
    have wl := wk.len ok.vl
    have tst : ∀ {g : Option PV}, dT ctx (.cmp .lt (.var 5) (.blt .len (.cons (.var 4) .nil))) [some v, some (.int i), some (.dct (nearD V E)), some (.ref h.length), some (.ref (h.length + 1)), some (.int (a : Int)), g] (HF h Ws) = .ok (decide ((a : Int) < Ws.length)) (HF h Ws) := fun {g} => by
      have ln : bltop .len [.ref (h.length + 1)] (HF h Ws) = some (.int Ws.length) := by
        simp only [bltop, bLen, asSeq, asList, hf1, List.length_map]
      simp only [x_T, x_cmp, x_var, List.getElem?_cons_succ, List.getElem?_cons_zero, R.bind_ok, x_blt, x_cons, x_nil, ln, R.of_some, x_lt, x_lti, Option.map_some, x_trb]
    by_cases ha : a < Ws.length
    · obtain ⟨m, rfl⟩ : ∃ k, m = k + 1 := ⟨m - 1, by omega⟩
      have hw : Ws[a]? = some Ws[a] := List.getElem?_eq_getElem ha
      generalize Ws[a] = w at hw
      have hmem : w ∈ Ws := List.mem_of_getElem? hw
      have hv : lst w ∈ V := wk.v w hmem
      obtain ⟨c', q1, q2⟩ := visit_loop (h := h) (ctx := ctx) (v := v) (nr := .dct (nearD V E)) (i := i) ok.vl (a := a) (w := w) (c := c) (n := a + 2) (nbs E (lst w)) Ws c ⟨wk.nd, wk.v, fun u hu => by have := wk.l u hu; omega⟩ (nbs_in ok _) (by have := wk.l w hmem; omega) (by omega) hw
      obtain ⟨Ws', a', c2, r1, r2⟩ := while_loop (ctx := ctx) (v := v) (i := i) ok m (a + 1) _ c' q2 (by omega) (by omega)
      refine ⟨Ws', a', c2, ?_, ?_⟩
      · have g : (Ws.map enc)[a]? = some (enc w) := by simp [hw]
        rw [bfs, g]
        show bfs _ m (visit _ _ w) _ = _
        rw [visit_enc]
        exact r1
      · rw [← r2]
        conv => lhs; unfold whileGo
        have la : ((a : Int) < (Ws.length : Int)) := by omega
        have lk : lockI (.ex (.sub (.var 2) (.sub (.var 4) (.var 5)))) ([some v, some (.int i), some (.dct (nearD V E)), some (.ref h.length), some (.ref (h.length + 1)), some (.int (a : Int)), c] : HW.Env) (HF h Ws) = none := rfl
        simp only [tst, R.bind_ok, la, decide_true, if_true, x_scons, x_for, lk, x_lk, x_ex, x_sub, x_var, List.getElem?_cons_succ, List.getElem?_cons_zero, order_at hw, near_item hv, R.of_some, x_wl, q1, x_aug, x_cst, x_add, x_snil, List.set_cons_succ, List.set_cons_zero]
        rfl
    · refine ⟨Ws, a, c, ?_, ?_⟩
      · cases m with
        | zero => rfl
        | succ m =>
          have g : (Ws.map enc)[a]? = none := by
            rw [List.getElem?_eq_none]
            simp
            omega
          rw [bfs, g]
      · unfold whileGo
        have la : ¬ ((a : Int) < (Ws.length : Int)) := by omega
        simp only [tst, R.bind_ok, la, decide_false, Bool.false_eq_true, if_false]
theorem ways_ev {s : List Fc} (S : Shp s) {i : Int} (hi : i ∈ cs s) : s_ways_from [.tup (s.map tI), .int i] h = .ok (.dct (fw (fd (nbs (lvl s 1)) i 5))) h := by
  have ok := S.eok
  obtain ⟨Ws, a', c', w1, w2⟩ := while_loop (h := h) (ctx := [s_neighbours]) (v := .tup (s.map tI)) (i := i) ok 999 0 [[i]] none ⟨by simp, by simp [lst, hi], by simp⟩ (by omega) (by omega)
  have be := bfs_end (nb := nbs (lvl s 1)) ok.vl (nbs_in ok) hi (M := 999) (by omega)
  have e0 : ([[i]] : List Fc).map enc = [(i, [i])] := by simp [enc, lst]
  rw [e0, be] at w1
  have inj : ∀ {A B : List Fc}, A.map enc = B.map enc → A = B := fun {A B} e => (List.map_inj_right fun x y q => (Prod.mk.inj q).2).mp e
  obtain rfl := inj w1
  have st : HF h [[i]] = h ++ [.dct [(.int i, .tup [.int i])]] ++ [.lst [.int i]] := rfl
  rw [st] at w2
  simp [-List.append_assoc, s_ways_from, runFn, if_ways_from, neighbours_ev S, pairUp, dispOf, keyV, putAll, keyOk, LIM, dPut]
  erw [w2]
  simp only [R.bind_ok, List.getElem?_cons_succ, List.getElem?_cons_zero]
  exact finish_dctT fun e he => by
    obtain ⟨w, _, rfl⟩ := List.mem_map.mp he
    exact ⟨rfl, below_tI _ w⟩
end
end K12
namespace K12
open PySem HW
def reach (E : List Fc) (i : Int) : Fc := ((fd (nbs E) i 5).map lst).mergeSort leI
abbrev sWay : Str := Str.ofString "way"
abbrev sApart : Str := Str.ofString "apart"
def paperV (E : List Fc) (i j : Int) : PV := match way (nbs E) i j with
  | some w => .tup [.str sWay, tI w]
  | none => .tup [.str sApart, tI (reach E i)]
theorem way_mem {nb : Int → List Int} {i j : Int} {w : Fc} (h : way nb i j = some w) : w ∈ fd nb i 5 ∧ lst w = j := by
  unfold way at h
  exact ⟨List.mem_of_find?_eq_some h, by simpa using List.find?_some h⟩
theorem way_none {nb : Int → List Int} {i j : Int} : way nb i j = none ↔ j ∉ (fd nb i 5).map lst := by
  unfold way
  rw [List.find?_eq_none, List.mem_map]
  constructor
  · rintro h ⟨w, h1, h2⟩
    exact h w h1 (by simp [h2])
  · intro h w hw q
    exact h ⟨w, hw, by simpa using q⟩
/-! few ways *)-/
theorem few_prod : ∀ a b c d e : Fin 6, a.val + b.val + c.val + d.val + e.val ≤ 5 → 1 + a.val + a.val * b.val + a.val * b.val * c.val + a.val * b.val * c.val * d.val + a.val * b.val * c.val * d.val * e.val ≤ 60 := by decide +kernel
theorem lv_step_len {nb : Int → List Int} (hs : ∀ v, (nb v).Pairwise (· < ·)) (i : Int) (t : Nat) : (lv nb i (t + 1)).1.length ≤ (lv nb i t).1.length * (ddl [] (lv nb i (t + 1)).1).length := by
  have hd : ∀ k, k ∈ (lv nb i (t + 1)).1.map lst → k ∈ (ddl [] (lv nb i (t + 1)).1).map lst := fun k hk => (mem_ddl_lst _ _).mpr ⟨hk, by simp⟩
  have go : ∀ L : List Fc, (∀ w ∈ L, w ∈ (lv nb i t).1) → ((L.flatMap (cand nb)).filter fun w => decide (lst w ∉ (lv nb i t).2)).length ≤ L.length * (ddl [] (lv nb i (t + 1)).1).length := by
    intro L
    induction L with
    | nil => intro _; simp
    | cons w L ih =>
      intro hL
      have i1 := ih fun u hu => hL u (List.mem_cons_of_mem _ hu)
      have i2 : ((cand nb w).filter fun w => decide (lst w ∉ (lv nb i t).2)).length ≤ (ddl [] (lv nb i (t + 1)).1).length := by
        have nd : (((cand nb w).filter fun w => decide (lst w ∉ (lv nb i t).2)).map lst).Nodup := by
          refine (List.filter_sublist.map lst).nodup ?_
          rw [cand_lst]
          exact (hs _).imp fun {a b} (h : a < b) => show a ≠ b by omega
        have := nodup_len nd (b := (ddl [] (lv nb i (t + 1)).1).map lst) fun x hx => by
          obtain ⟨u, hu, rfl⟩ := List.mem_map.mp hx
          refine hd _ (List.mem_map.mpr ⟨u, ?_, rfl⟩)
          obtain ⟨h1, h2⟩ := List.mem_filter.mp hu
          exact List.mem_filter.mpr ⟨List.mem_flatMap.mpr ⟨w, hL w (List.mem_cons_self ..), h1⟩, h2⟩
        simpa using this
      rw [List.flatMap_cons, List.filter_append, List.length_append, List.length_cons, Nat.add_mul]
      omega
  exact go _ fun w hw => hw
theorem sn_few {V : List Int} {nb : Int → List Int} (hV : V.length ≤ 6) (hs : ∀ v, (nb v).Pairwise (· < ·)) (hn : ∀ v, ∀ k ∈ nb v, k ∈ V) {i : Int} (hi : i ∈ V) {t : Nat} (ht : t ≤ 12) : (lv nb i t).2.length ≤ 60 := by
  have l := fd_len hV hn hi 5
  have e : (fd nb i 5).length = 1 + (ddl [] (lv nb i 1).1).length + (ddl [] (lv nb i 2).1).length + (ddl [] (lv nb i 3).1).length + (ddl [] (lv nb i 4).1).length + (ddl [] (lv nb i 5).1).length := by
    simp only [fd, List.length_append, List.length_cons, List.length_nil]
  have s0 : (lv nb i 1).1.length ≤ (lv nb i 0).1.length * (ddl [] (lv nb i 1).1).length := lv_step_len hs i 0
  have s1 : (lv nb i 2).1.length ≤ (lv nb i 1).1.length * (ddl [] (lv nb i 2).1).length := lv_step_len hs i 1
  have s2 : (lv nb i 3).1.length ≤ (lv nb i 2).1.length * (ddl [] (lv nb i 3).1).length := lv_step_len hs i 2
  have s3 : (lv nb i 4).1.length ≤ (lv nb i 3).1.length * (ddl [] (lv nb i 4).1).length := lv_step_len hs i 3
  have s4 : (lv nb i 5).1.length ≤ (lv nb i 4).1.length * (ddl [] (lv nb i 5).1).length := lv_step_len hs i 4
  have z0 : (lv nb i 0).1.length = 1 := rfl
  have sn5 : (lv nb i 5).2.length = 1 + (lv nb i 1).1.length + (lv nb i 2).1.length + (lv nb i 3).1.length + (lv nb i 4).1.length + (lv nb i 5).1.length := by
    have st : ∀ t, (lv nb i (t + 1)).2.length = (lv nb i t).2.length + (lv nb i (t + 1)).1.length := fun t => by
      show ((lv nb i t).2 ++ (lv nb i (t + 1)).1.map lst).length = _
      rw [List.length_append, List.length_map]
    have q0 : (lv nb i 0).2.length = 1 := rfl
    rw [st 4, st 3, st 2, st 1, st 0, q0]
  have big : (lv nb i 5).2.length ≤ 60 := by
    generalize (ddl [] (lv nb i 1).1).length = a at e s0 s1 s2 s3 s4
    generalize (ddl [] (lv nb i 2).1).length = b at e s0 s1 s2 s3 s4
    generalize (ddl [] (lv nb i 3).1).length = c at e s0 s1 s2 s3 s4
    generalize (ddl [] (lv nb i 4).1).length = d at e s0 s1 s2 s3 s4
    generalize (ddl [] (lv nb i 5).1).length = f at e s0 s1 s2 s3 s4
    have fp := few_prod ⟨a, by omega⟩ ⟨b, by omega⟩ ⟨c, by omega⟩ ⟨d, by omega⟩ ⟨f, by omega⟩ (by simp only; omega)
    simp only at fp
    rw [z0] at s0
    have b1 : (lv nb i 1).1.length ≤ a := by omega
    have b2 : (lv nb i 2).1.length ≤ a * b := Nat.le_trans s1 (Nat.mul_le_mul_right _ b1)
    have b3 : (lv nb i 3).1.length ≤ a * b * c := Nat.le_trans s2 (Nat.mul_le_mul_right _ b2)
    have b4 : (lv nb i 4).1.length ≤ a * b * c * d := Nat.le_trans s3 (Nat.mul_le_mul_right _ b3)
    have b5 : (lv nb i 5).1.length ≤ a * b * c * d * f := Nat.le_trans s4 (Nat.mul_le_mul_right _ b4)
    omega
  have mono : ∀ k t, (lv nb i t).2.length ≤ (lv nb i (t + k)).2.length := by
    intro k
    induction k with
    | zero => intro t; exact Nat.le_refl _
    | succ k ih =>
      intro t
      refine Nat.le_trans (ih t) ?_
      show _ ≤ ((lv nb i (t + k)).2 ++ (lv nb i (t + k + 1)).1.map lst).length
      rw [List.length_append]
      omega
  have same : ∀ k, (lv nb i (5 + k)).2 = (lv nb i 5).2 := by
    intro k
    induction k with
    | zero => rfl
    | succ k ih =>
      show (lv nb i (5 + k)).2 ++ (lv nb i (5 + k + 1)).1.map lst = _
      rw [lv_end hV hn hi (by omega), ih]
      simp
  by_cases q : t ≤ 5
  · have := mono (5 - t) t
    rw [show t + (5 - t) = 5 by omega] at this
    omega
  · have := same (t - 5)
    rw [show 5 + (t - 5) = t by omega] at this
    rw [this]
    exact big
section
variable {h : PHeap}
theorem in_ints {g : PHeap} (c : Int) (f : List Int) : isIn g (.int c) (.lst (f.map PV.int)) = some (decide (c ∈ f)) := in_tI (g := g) c f
theorem last_item {g : PHeap} {w : Fc} (hw : w ≠ []) : itemOf g (tI w) (.int (-1)) = some (.int (lst w)) := by
  show L2.atI (w.map PV.int) (-1) = _
  have e : w.map PV.int = w.dropLast.map PV.int ++ [.int (w.getLast hw)] := by
    rw [← List.map_singleton, ← List.map_append, List.dropLast_concat_getLast]
  rw [e, L2.atI_last]
  unfold lst
  rw [List.getLast?_eq_some_getLast hw]
  rfl
theorem way_paper_ev {s : List Fc} (S : Shp s) {i j : Int} (hi : i ∈ cs s) : s_way_paper [.tup (s.map tI), .int i, .int j] h = .ok (paperV (lvl s 1) i j) h := by
  have ok := S.eok
  have wy := ways_ev (h := h) S hi
  have nd := fd_nodup (nbs (lvl s 1)) i 5
  generalize hW : fd (nbs (lvl s 1)) i 5 = Ws at *
  have isn : isIn h (.int j) (.dct (fw Ws)) = some (decide (j ∈ Ws.map lst)) := by
    show (if keyOk (fw Ws) (.int j) then some ((fw Ws).any fun e => decide (e.1 = .int j)) else none) = _
    rw [if_pos (keyOk_int (fw_keys Ws) _), fw_any]
  cases hw : way (nbs (lvl s 1)) i j with
  | some w =>
    obtain ⟨w1, w2⟩ := way_mem hw
    rw [hW] at w1
    have it : itemOf h (.dct (fw Ws)) (.int j) = some (tI w) := by
      show (if keyOk (fw Ws) (.int j) then dFind (fw Ws) (.int j) else none) = _
      rw [if_pos (keyOk_int (fw_keys Ws) _), ← w2, fw_find nd w1]
    have hm : j ∈ Ws.map lst := List.mem_map.mpr ⟨w, w1, w2⟩
    have hm' : ∃ a, a ∈ Ws ∧ lst a = j := ⟨w, w1, w2⟩
    simp [s_way_paper, runFn, if_way_paper, wy, isn, hm', it, paperV, hw]
    exact finish_same (by simp [below, belows, tI, belows_ints])
  | none =>
    have hm := way_none.mp hw
    rw [hW] at hm
    have hm' : ¬ ∃ a, a ∈ Ws ∧ lst a = j := fun ⟨a, h1, h2⟩ => hm (List.mem_map.mpr ⟨a, h1, h2⟩)
    have so : convop .sorted false (.dct (fw Ws)) h = .ok (.lst ((reach (lvl s 1) i).map .int)) h := by
      have e : (fw Ws).map (·.1) = (Ws.map lst).map .int := by simp [fw, Function.comp_def]
      simp only [convop, anySrc, srcOf, Option.map_some, R.of_some, R.bind_ok, e]
      rw [sortOk_ints, sortV_ints, reach, hW]
      rfl
    have e2 : ∀ {x : List PV}, convop .tuple false (.lst x) h = .ok (.tup x) h := rfl
    simp [s_way_paper, runFn, if_way_paper, wy, isn, hm', so, e2, paperV, hw]
    exact finish_same (v := .tup [.str sApart, tI _]) (by simp [below, belows, tI, belows_ints])
/-- an edge of two *)-/
theorem edge_in {E : List Fc} (k l : Int) : isIn h (.tup [.int (if l < k then l else k), .int (if k < l then l else k)]) (.lst (E.map tI)) = some (adj E k l) := by
  have e : PV.tup [.int (if l < k then l else k), .int (if k < l then l else k)] = tI (if l < k then [l, k] else [k, l]) := by
    by_cases q : l < k
    · have : ¬ k < l := by omega
      simp [q, this, tI]
    · by_cases q2 : k < l
      · simp [q, q2, tI]
      · have : k = l := by omega
        subst this
        simp [tI]
  rw [e, in_tIs]
  rfl
theorem x_min {a b : Int} : bltop .min2 [.int a, .int b] h = some (.int (if b < a then b else a)) := rfl
theorem x_max {a b : Int} : bltop .max2 [.int a, .int b] h = some (.int (if b > a then b else a)) := rfl
theorem rngV12 : rngV (.int 12) h = .ok ((List.range 12).map fun (i : Nat) => PV.int i) h := rngV_nat (n := 12) (by decide)
theorem more_eq (E : List Fc) (w : Fc) (sn : List Int) : ((List.range 12).filter fun (k : Nat) => decide ((k : Int) ∉ sn) && adj E k (lst w)).map (fun (k : Nat) => tI (w ++ [(k : Int)])) = ((cand (nbs E) w).filter fun u => decide (lst u ∉ sn)).map tI := by
  unfold cand nbs rng
  simp only [List.filter_map, List.map_map, List.filter_filter]
  congr 1
  congr 1
  funext k
  simp [Function.comp]
theorem more_loop {ctx : List Sem} {E : List Fc} {v1 v2 v3 v4 v6 : Option PV} {sn : List Int} : ∀ (L M : List Fc) (a b : Option PV), M.length + L.length * 12 ≤ 1000000 → (∀ w ∈ L, w ≠ [] ∧ w.length ≤ 1000) →
    ∃ a' b', forGo (fun _ => true) (tgSet (.nm 8)) (dSs ctx (.cons (.asg (.tg (.nm 7)) (.bin .add (.var 7) (.comp false [9] (.nm 9) (.rng1 (.cst (.int 12))) (.cons (.and (.cmp .notin (.var 9) (.var 5)) (.cmp .isin (.tup (.cons (.blt .min2 (.cons (.var 9) (.cons (.sub (.var 8) (.neg (.cst (.int 1)))) .nil))) (.cons (.blt .max2 (.cons (.var 9) (.cons (.sub (.var 8) (.neg (.cst (.int 1)))) .nil))) .nil))) (.var 0))) .nil) (.bin .add (.var 8) (.tup (.cons (.var 9) .nil)))))) .nil)) (L.map tI)
      [some (.lst (E.map tI)), v1, v2, v3, v4, some (.lst (sn.map .int)), v6, some (.lst (M.map tI)), a, b] h = .ok (.nx [some (.lst (E.map tI)), v1, v2, v3, v4, some (.lst (sn.map .int)), v6, some (.lst ((M ++ (L.flatMap (cand (nbs E))).filter fun u => decide (lst u ∉ sn)).map tI)), a', b']) h
  | [], M, a, b, _, _ => ⟨a, b, by simp [forGo]⟩
  | w :: L, M, a, b, hl, hw => by
    simp only [List.length_cons, Nat.add_mul] at hl
    have hw0 := hw w (List.mem_cons_self ..)
    have cl : ((cand (nbs E) w).filter fun u => decide (lst u ∉ sn)).length ≤ 12 := by
      have h1 := List.length_filter_le (fun u => decide (lst u ∉ sn)) (cand (nbs E) w)
      have h2 : (cand (nbs E) w).length = (nbs E (lst w)).length := by simp [cand]
      have h3 : (nbs E (lst w)).length ≤ (rng 12).length := List.length_filter_le _ _
      rw [rng_len] at h3
      omega
    obtain ⟨a', b', ih⟩ := more_loop (ctx := ctx) (v1 := v1) (v2 := v2) (v3 := v3) (v4 := v4) (v6 := v6) (sn := sn) L (M ++ (cand (nbs E) w).filter fun u => decide (lst u ∉ sn)) (some (tI w)) b (by rw [List.length_append]; omega) fun u hu => hw u (List.mem_cons_of_mem _ hu)
    refine ⟨a', b', ?_⟩
    rw [List.flatMap_cons, List.filter_append, ← List.append_assoc, ← ih, List.map_cons]
    conv => lhs; unfold forGo
    simp only [if_true, x_tnm, List.length_cons, List.length_nil, show (8 : Nat) < 0 + 1 + 1 + 1 + 1 + 1 + 1 + 1 + 1 + 1 + 1 from by decide, List.set_cons_succ, List.set_cons_zero]
    have cm : compGo (fun _ => true) (tgSet (.nm 9)) (dIfs ctx (.cons (.and (.cmp .notin (.var 9) (.var 5)) (.cmp .isin (.tup (.cons (.blt .min2 (.cons (.var 9) (.cons (.sub (.var 8) (.neg (.cst (.int 1)))) .nil))) (.cons (.blt .max2 (.cons (.var 9) (.cons (.sub (.var 8) (.neg (.cst (.int 1)))) .nil))) .nil))) (.var 0))) .nil)) (dE ctx (.bin .add (.var 8) (.tup (.cons (.var 9) .nil))))
        [some (.lst (E.map tI)), v1, v2, v3, v4, some (.lst (sn.map .int)), v6, some (.lst (M.map tI)), some (tI w), none] ((List.range 12).map fun (i : Nat) => PV.int i) h [] = .ok (((cand (nbs E) w).filter fun u => decide (lst u ∉ sn)).map tI) h := by
      rw [comp_enc (fun (k : Nat) => decide ((k : Int) ∉ sn) && adj E k (lst w)) (fun (k : Nat) => tI (w ++ [(k : Int)])) rfl _ _ (fun k hk => ⟨[some (.lst (E.map tI)), v1, v2, v3, v4, some (.lst (sn.map .int)), v6, some (.lst (M.map tI)), some (tI w), some (.int (k : Int))], by simp, by
        by_cases q : (k : Int) ∈ sn
        · simp [cmpop, in_ints, q]
        · simp [cmpop, in_ints, q, last_item hw0.1, x_min, x_max]
          have := edge_in (h := h) (E := E) (k : Int) (lst w)
          rw [this]
          simp, fun _ => by
        simp
        rw [x_addI (by simp [LIM]; omega)]
        rfl⟩) (by simp [LIM])]
      rw [more_eq]
      rfl
    simp only [x_scons, x_asg, x_bin, x_var, x_comp, x_lkr, x_lk, x_rng1, x_cst, x_w, x_w0, List.getElem?_cons_succ, List.getElem?_cons_zero, R.bind_ok, rngV12, List.set_cons_succ, List.set_cons_zero, cm, x_mkf]
    rw [x_addl (by rw [List.length_map, List.length_map]; simp only [LIM]; omega)]
    simp
end
end K12
namespace K12
open PySem HW
def wayB : ISs := match if__law_way.body with | .cons _ (.cons (.for_ _ _ b) _) => b | _ => .nil
def wayR : ISs := match if__law_way.body with | .cons _ (.cons _ r) => r | _ => .nil
section
variable {h : PHeap}
theorem sorted_id {L : List Fc} (hp : L.Pairwise (· < ·)) (hn : ∀ w ∈ L, w ≠ []) : convop .sorted false (.lst (L.map tI)) h = .ok (.lst (L.map tI)) h := by
  have e : ∀ {x : List PV}, anySrc h (.lst x) = some x := rfl
  simp only [convop, e, R.of_some, R.bind_ok]
  rw [sortOk_tI hn, sortV_tups, show L.mergeSort leR = L from sortF_id hp]
  rfl
theorem lasts_comp {ctx : List Sem} {env : HW.Env} (he : env.length = 10) {L : List Fc} (hn : ∀ w ∈ L, w ≠ []) (hl : L.length ≤ LIM) : compGo (fun _ => true) (tgSet (.nm 8)) (dIfs ctx .nil) (dE ctx (.sub (.var 8) (.neg (.cst (.int 1))))) env (L.map tI) h [] = .ok ((L.map lst).map .int) h := by
  have g2 : ∀ y, (env.set 8 y)[8]? = some y := fun y => by rw [List.getElem?_set_self (by omega)]
  rw [comp_map (fun w => .int (lst w)) rfl _ (fun w hw => ⟨env.set 8 (some (tI w)), by simp [he], by
    simp only [x_sub, x_var, g2, R.bind_ok, x_neg, x_cst, x_intOf, Option.map_some, R.of_some, last_item (hn w hw)]⟩) hl]
  simp [Function.comp_def]
theorem way_turns {E : List Fc} {V : List Int} (ok : EOk V E) {i j : Int} (hi : i ∈ V) : ∀ (r t : Nat) (ts : List Nat), ts.length = r → t + r = 12 → ∀ (a3 a6 a7 a8 a9 : Option PV),
    (∃ u w rest, t ≤ u ∧ u < 12 ∧ (∀ x, t ≤ x → x < u → fits (nbs E) i j x = []) ∧ fits (nbs E) i j u = w :: rest ∧
      forGo (fun _ => true) (tgSet (.nm 3)) (dSs [] wayB) (ts.map fun (k : Nat) => PV.int k) [some (.lst (E.map tI)), some (.int i), some (.int j), a3, some (.lst ((lv (nbs E) i t).1.map tI)), some (.lst ((lv (nbs E) i t).2.map .int)), a6, a7, a8, a9] h = .ok (.rt (.tup [.str sWay, tI w])) h) ∨
    ((∀ x, t ≤ x → x < 12 → fits (nbs E) i j x = []) ∧ ∃ b3 b4 b6 b7 b8 b9, forGo (fun _ => true) (tgSet (.nm 3)) (dSs [] wayB) (ts.map fun (k : Nat) => PV.int k) [some (.lst (E.map tI)), some (.int i), some (.int j), a3, some (.lst ((lv (nbs E) i t).1.map tI)), some (.lst ((lv (nbs E) i t).2.map .int)), a6, a7, a8, a9] h =
      .ok (.nx [some (.lst (E.map tI)), some (.int i), some (.int j), b3, b4, some (.lst ((lv (nbs E) i 12).2.map .int)), b6, b7, b8, b9]) h)
  | 0, t, [], _, ht, a3, a6, a7, a8, a9 => by
    obtain rfl : t = 12 := by omega
    exact .inr ⟨fun x h1 h2 => by omega, _, _, _, _, _, _, by simp [forGo]; exact ⟨rfl, rfl, rfl, rfl, rfl, rfl⟩⟩
  | r + 1, t, k :: ts, hr, ht, a3, a6, a7, a8, a9 => by
    have hs := nbs_lt E
    have ll := lv_small ok.vl hs (nbs_in ok) hi t
    have ln := lv_len (nb := nbs E) i t
    have lp := lv_lt hs i t
    have sl := sn_small ok.vl hs (nbs_in ok) hi t
    have hne : ∀ w ∈ (lv (nbs E) i t).1, w ≠ [] := fun w hw e => by
      have := ln w hw
      rw [e] at this
      simp at this
    have st1 : (lv (nbs E) i (t + 1)).1 = ((lv (nbs E) i t).1.flatMap (cand (nbs E))).filter fun w => decide (lst w ∉ (lv (nbs E) i t).2) := rfl
    have st2 : (lv (nbs E) i (t + 1)).2 = (lv (nbs E) i t).2 ++ (lv (nbs E) i (t + 1)).1.map lst := rfl
    have ll1 := lv_small ok.vl hs (nbs_in ok) hi (t + 1)
    have ln1 := lv_len (nb := nbs E) i (t + 1)
    have hne1 : ∀ w ∈ (lv (nbs E) i (t + 1)).1, w ≠ [] := fun w hw e => by
      have := ln1 w hw
      rw [e] at this
      simp at this
    have cm : ∀ {env : HW.Env}, env.length = 10 → env[2]? = some (some (.int j)) → compGo (fun _ => true) (tgSet (.nm 8)) (dIfs [] (.cons (.cmp .eq (.sub (.var 8) (.neg (.cst (.int 1)))) (.var 2)) .nil)) (dE [] (.var 8)) env ((lv (nbs E) i t).1.map tI) h [] = .ok ((fits (nbs E) i j t).map tI) h := fun {env} he h2 => by
      have g1 : ∀ y, (env.set 8 y)[2]? = some (some (.int j)) := fun y => by rw [List.getElem?_set_ne (by decide), h2]
      have g2 : ∀ y, (env.set 8 y)[8]? = some y := fun y => by rw [List.getElem?_set_self (by omega)]
      rw [comp_enc (fun w => decide (lst w = j)) tI rfl _ _ (fun w hw => ⟨env.set 8 (some (tI w)), by simp [he], by
        simp only [x_icons, x_inil, x_cmp, x_sub, x_var, g1, g2, R.bind_ok, x_neg, x_cst, x_intOf, Option.map_some, R.of_some, last_item (hne w hw), x_eq, eq_int, x_trb]
        cases decide (lst w = j) <;> rfl, fun _ => by simp only [x_var, g2]⟩) (by simp [LIM]; omega)]
      rfl
    have fn : ∀ w ∈ fits (nbs E) i j t, w ≠ [] := fun w hw => hne w (List.mem_filter.mp hw).1
    have fp : (fits (nbs E) i j t).Pairwise (· < ·) := lp.filter _
    rw [List.map_cons]
    unfold forGo
    simp only [if_true, x_tnm, List.length_cons, List.length_nil, show (3 : Nat) < 0 + 1 + 1 + 1 + 1 + 1 + 1 + 1 + 1 + 1 + 1 from by decide, List.set_cons_succ, List.set_cons_zero]
    cases hf : fits (nbs E) i j t with
    | cons w rest =>
      refine .inl ⟨t, w, rest, Nat.le_refl _, by omega, fun x h1 h2 => by omega, hf, ?_⟩
      simp only [wayB, if__law_way, x_scons, x_asg, x_conv, x_comp, x_lkv, x_var, List.getElem?_cons_succ, List.getElem?_cons_zero, x_w, x_w0, List.set_cons_succ, List.set_cons_zero]
      simp only [lockV, List.getElem?_cons_succ, List.getElem?_cons_zero, x_lk, x_ex, x_var, R.bind_ok, x_wl, R.of_some]
      rw [cm rfl rfl]
      simp only [R.bind_ok, x_mkf]
      rw [sorted_id fp fn, hf]
      simp
    | nil =>
      have ih := way_turns ok hi r (t + 1) ts (by simpa using hr) (by omega) (j := j) (i := i)
      have body : ∃ b3 b6 b7 b8 b9, dSs [] wayB [some (.lst (E.map tI)), some (.int i), some (.int j), some (.int (k : Int)), some (.lst ((lv (nbs E) i t).1.map tI)), some (.lst ((lv (nbs E) i t).2.map .int)), a6, a7, a8, a9] h =
          .ok (.nx [some (.lst (E.map tI)), some (.int i), some (.int j), b3, some (.lst ((lv (nbs E) i (t + 1)).1.map tI)), some (.lst ((lv (nbs E) i (t + 1)).2.map .int)), b6, b7, b8, b9]) h := by
        obtain ⟨a', b', q⟩ := more_loop (h := h) (ctx := []) (E := E) (v1 := some (.int i)) (v2 := some (.int j)) (v3 := some (.int (k : Int))) (v4 := some (.lst ((lv (nbs E) i t).1.map tI))) (v6 := some (.lst [])) (sn := (lv (nbs E) i t).2) (lv (nbs E) i t).1 [] a8 a9 (by simp; omega) (fun w hw => ⟨hne w hw, by have := ln w hw; omega⟩)
        rw [List.nil_append, ← st1] at q
        simp only [List.map_nil] at q
        refine ⟨some (.int (k : Int)), some (.lst []), some (.lst ((lv (nbs E) i (t + 1)).1.map tI)), a', b', ?_⟩
        simp only [wayB, if__law_way, x_scons, x_asg, x_conv, x_comp, x_lkv, x_var, List.getElem?_cons_succ, List.getElem?_cons_zero, x_w, x_w0, List.set_cons_succ, List.set_cons_zero]
        simp only [lockV, List.getElem?_cons_succ, List.getElem?_cons_zero, x_lk, x_ex, x_var, R.bind_ok, x_wl, R.of_some]
        rw [cm rfl rfl]
        simp only [R.bind_ok, x_mkf]
        rw [sorted_id fp fn, hf]
        simp
        have lkc : ∀ {env : HW.Env} {g : PHeap}, lockI (.ex (.conv .sorted false (.var 4))) env g = none := rfl
        rw [lkc]
        simp only [x_lk]
        rw [sorted_id lp hne]
        simp only [R.bind_ok, x_wl, R.of_some]
        rw [q]
        simp [lockV]
        rw [lasts_comp rfl hne1 (by simp [LIM]; omega)]
        simp only [R.bind_ok]
        rw [x_addl (by
          have := sn_small ok.vl hs (nbs_in ok) hi (t + 1)
          rw [st2, List.length_append, List.length_map] at this
          rw [List.length_map, List.length_map, List.length_map]
          simp only [LIM]
          have : t ≤ 12 := by omega
          omega)]
        simp only [R.of_some, R.bind_ok]
        rw [← List.map_append, ← st2]
        simp
      obtain ⟨b3, b6, b7, b8, b9, bd⟩ := body
      rw [bd]
      simp only [R.bind_ok]
      rcases ih b3 b6 b7 b8 b9 with ⟨u, w, rest, h1, h2, h3, h4, h5⟩ | ⟨h1, h2⟩
      · refine .inl ⟨u, w, rest, by omega, h2, fun x g1 g2 => ?_, h4, h5⟩
        by_cases e : x = t
        · rw [e]
          exact hf
        · exact h3 x (by omega) g2
      · refine .inr ⟨fun x g1 g2 => ?_, h2⟩
        by_cases e : x = t
        · rw [e]
          exact hf
        · exact h1 x (by omega) g2
end
end K12
namespace K12
open PySem HW
theorem reach_lt (E : List Fc) (i : Int) : (reach E i).Pairwise (· < ·) := sortI_lt (fd_nodup _ _ _)
theorem mem_reach {E : List Fc} {i k : Int} : k ∈ reach E i ↔ k ∈ (fd (nbs E) i 5).map lst := List.mem_mergeSort
theorem reach_ne (E : List Fc) (i : Int) : reach E i ≠ [] := by
  have h : i ∈ reach E i := mem_reach.mpr (by
    rw [fd_keys]
    have : ∀ t, i ∈ (lv (nbs E) i t).2 := by
      intro t
      induction t with
      | zero => simp [lv]
      | succ t ih => exact List.mem_append.mpr (.inl ih)
    exact this 5)
  exact List.ne_nil_of_mem h
section
variable {h : PHeap}
theorem set_ints {v : PV} {f : List Int} (hv : asSeq h v = some (f.map .int)) (hl : f.length < 64) {rows : List Int} (h1 : rows.Pairwise (· < ·)) (h2 : ∀ k, k ∈ rows ↔ k ∈ f) : convop .sortedSet false v h = .ok (.lst (rows.map .int)) h := by
  obtain ⟨r, r1, r2, r3⟩ := rows_I f
  have e : r = rows := uniqI r2 h1 fun k => (r3 k).trans (h2 k).symm
  subst e
  simp only [convop, hv, R.of_some, R.bind_ok]
  rw [plainSet_ints, sortOk_ints]
  simp [hl, r1]
theorem set_faces {v : PV} {f : List Fc} (hv : asSeq h v = some (f.map tI)) (hl : f.length < 64) (hne : ∀ x ∈ f, x ≠ []) {rows : List Fc} (h1 : rows.Pairwise (· < ·)) (h2 : ∀ k, k ∈ rows ↔ k ∈ f) : convop .sortedSet false v h = .ok (.lst (rows.map tI)) h := by
  obtain ⟨r, r1, r2, r3⟩ := rows_F f
  have e : r = rows := uniqF r2 h1 fun k => (r3 k).trans (h2 k).symm
  subst e
  simp only [convop, hv, R.of_some, R.bind_ok]
  rw [plainSet_tI, sortOk_tI hne]
  simp [hl, r1]
@[simp] theorem cv_tup {x : List PV} : convop .tuple false (.lst x) h = .ok (.tup x) h := rfl
theorem law_way_ev {E : List Fc} {V : List Int} (ok : EOk V E) {i j : Int} (hi : i ∈ V) : s__law_way [.lst (E.map tI), .int i, .int j] h = .ok (paperV E i j) h := by
  have W := way_turns (h := h) ok hi (j := j) 12 0 (List.range 12) (by simp) rfl none none none none none
  have st : s__law_way [.lst (E.map tI), .int i, .int j] h = ((forGo (fun _ => true) (tgSet (.nm 3)) (dSs [] wayB) ((List.range 12).map fun (k : Nat) => PV.int k) [some (.lst (E.map tI)), some (.int i), some (.int j), none, some (.lst ((lv (nbs E) i 0).1.map tI)), some (.lst ((lv (nbs E) i 0).2.map .int)), none, none, none, none] h).bind fun o h1 => match o with
      | .nx env => dSs [] wayR env h1
      | o => .ok o h1).bind fun o h1 => match o with
      | .rt v => HW.finish false h v h1
      | .nx _ => HW.finish false h .non h1
      | _ => .bad := by
    simp only [s__law_way, runFn, if__law_way]
    simp [lv]
    rw [rngV12]
    rfl
  rw [st]
  rcases W with ⟨u, w, rest, h1, h2, h3, h4, h5⟩ | ⟨h1, b3, b4, b6, b7, b8, b9, h2⟩
  · rw [h5]
    have := way_hit ok.vl (nbs_in ok) hi (fun s hs => h3 s (Nat.zero_le _) hs) h4
    simp only [paperV, this, R.bind_ok]
    exact finish_same (by simp [below, belows, tI, belows_ints])
  · rw [h2]
    have := way_miss (V := V) (fun s hs => h1 s (Nat.zero_le _) hs)
    have se := set_ints (h := h) (v := .lst ((lv (nbs E) i 12).2.map .int)) (f := (lv (nbs E) i 12).2) rfl (by have := sn_few ok.vl (nbs_lt E) (nbs_in ok) hi (t := 12) (Nat.le_refl _); omega) (reach_lt E i) fun k => by rw [mem_reach, sn_end ok.vl (nbs_in ok) hi]
    simp [paperV, this, wayR, if__law_way, se]
    exact finish_same (v := .tup [.str sApart, tI (reach E i)]) (by simp [below, belows, tI, belows_ints])
/-! the parts *)-/
def partsF (C : List Int) (E : List Fc) : List Fc := sortF (insA [] (C.map (reach E)))
theorem partsF_lt (C : List Int) (E : List Fc) : (partsF C E).Pairwise (· < ·) := sortF_lt (nodup_insA List.nodup_nil)
theorem mem_partsF {C : List Int} {E : List Fc} {x : Fc} : x ∈ partsF C E ↔ x ∈ C.map (reach E) := by
  unfold partsF
  rw [mem_sortF, mem_insA]
  simp
theorem parts_of_ev {s : List Fc} (S : Shp s) : s_parts_of [.tup (s.map tI)] h = .ok (.tup ((partsF (cs s) (lvl s 1)).map tI)) h := by
  have ok := S.eok
  have vl := ok.vl
  have cl := corners_ev (h := h ++ [.dct (db [])]) (s := s) (by have := S.n; omega) (fun f hf => by have := (S.f f hf).2; omega)
  have so : ∀ {g : PHeap} {i : Int}, convop .sorted false (.dct (fw (fd (nbs (lvl s 1)) i 5))) g = .ok (.lst ((reach (lvl s 1) i).map .int)) g := fun {g i} => by
    have e : (fw (fd (nbs (lvl s 1)) i 5)).map (·.1) = ((fd (nbs (lvl s 1)) i 5).map lst).map .int := by simp [fw, Function.comp_def]
    simp only [convop, anySrc, srcOf, Option.map_some, R.of_some, R.bind_ok, e]
    rw [sortOk_ints, sortV_ints]
    rfl
  obtain ⟨e, g, q, rfl, ⟨c, rfl⟩, _⟩ := for_inv (enc := PV.int) (chk := fun _ => true) (tg := tgSet (.nm 2)) (body := dSs [s_corners_of, s_ways_from] (.cons (.asg (.sub (.var 1) (.conv .tuple false (.conv .sorted false (.call 1 (.cons (.var 0) (.cons (.var 2) .nil)))))) (.cst (.bl true))) .nil))
    (step := fun T c => ins T (reach (lvl s 1) c)) (I := fun ts T env g => g = h ++ [.dct (db T)] ∧ (∃ d, env = [some (.tup (s.map tI)), some (.ref h.length), d]) ∧ T.length + ts.length ≤ 6 ∧ ∀ c ∈ ts, c ∈ cs s)
    (fun _ _ _ _ _ => rfl) (by
      rintro t ts a env g ⟨rfl, ⟨c, rfl⟩, h1, h2⟩
      simp only [List.length_cons] at h1
      refine ⟨[some (.tup (s.map tI)), some (.ref h.length), some (.int t)], by simp, _, h ++ [.dct (db (ins a (reach (lvl s 1) t)))], ?_, rfl, ⟨some (.int t), rfl⟩, ?_, fun c hc => h2 c (List.mem_cons_of_mem _ hc)⟩
      · simp [ways_ev S (h2 t (List.mem_cons_self ..)), so]
        rw [show PV.tup ((reach (lvl s 1) t).map .int) = tI (reach (lvl s 1) t) from rfl, put_db (show a.length < LIM by simp [LIM]; omega)]
        rfl
      · have := length_ins (S := a) (f := reach (lvl s 1) t)
        omega) (cs s) [] [some (.tup (s.map tI)), some (.ref h.length), none] _ ⟨rfl, ⟨none, rfl⟩, by simpa using vl, fun c hc => hc⟩
  have fe : (cs s).foldl (fun T c => ins T (reach (lvl s 1) c)) [] = insA [] ((cs s).map (reach (lvl s 1))) := by
    unfold insA
    rw [List.foldl_map]
  rw [fe] at q
  have e0 : ([] : List (PV × PV)) = db [] := rfl
  have an : anySrc (h ++ [.dct (db (insA [] ((cs s).map (reach (lvl s 1)))))]) (.ref h.length) = some ((insA [] ((cs s).map (reach (lvl s 1)))).map tI) := by
    simp [anySrc, srcOf, db]
  have ne : ∀ k ∈ insA [] ((cs s).map (reach (lvl s 1))), k ≠ [] := fun k hk => by
    rw [mem_insA] at hk
    rcases hk with hk | hk
    · cases hk
    · obtain ⟨c, _, rfl⟩ := List.mem_map.mp hk
      exact reach_ne _ _
  simp [s_parts_of, runFn, if_parts_of]
  rw [e0, cl]
  simp
  rw [q]
  have so2 : convop .sorted false (.ref h.length) (h ++ [.dct (db (insA [] ((cs s).map (reach (lvl s 1)))))]) = .ok (.lst ((partsF (cs s) (lvl s 1)).map tI)) (h ++ [.dct (db (insA [] ((cs s).map (reach (lvl s 1)))))]) := by
    simp only [convop, an, R.of_some, R.bind_ok]
    rw [sortOk_tI ne, sortV_tups]
    rfl
  simp [so2]
  exact finish_ext (below_tup_tI _ _)
end
end K12
namespace K12
open PySem HW
section
variable {h : PHeap}
/-! alike *)-/
def tt : Nat → PV → Bool
  | _, .int _ => true
  | _, .str s => PyData.strOk s
  | n + 1, .tup xs => xs.all (tt n)
  | _, _ => false
def short : Nat → PV → Bool
  | n + 1, .tup xs => decide (xs.length ≤ LIM) && xs.all (short n)
  | _, _ => true
theorem alike_leaf {v : PV} {n : Nat} (hv : (∃ i, v = .int i) ∨ ∃ s, v = .str s ∧ PyData.strOk s = true) : r__law_alike (n + 1) [v, v] h = .ok (.bl true) h := by
  rcases hv with ⟨i, rfl⟩ | ⟨s, rfl, hs⟩
  · simp [r__law_alike, runFn, if__law_alike, eq_bool, eq_int]
    exact finish_same rfl
  · have e : pyEq h (.str s) (.str s) = some true := eq_same (n := 0) (by omega) (by simpa [tame] using hs)
    simp [r__law_alike, runFn, if__law_alike, eq_bool, e]
    exact finish_same rfl
theorem alike_ev : ∀ (n : Nat) (v : PV), tt n v = true → short n v = true → r__law_alike (n + 1) [v, v] h = .ok (.bl true) h := by
  intro n
  induction n with
  | zero =>
    intro v hv _
    cases v <;> simp [tt] at hv
    · exact alike_leaf (.inl ⟨_, rfl⟩)
    · exact alike_leaf (.inr ⟨_, rfl, hv⟩)
  | succ n ih =>
    intro v hv hs
    cases v with
    | int i => exact alike_leaf (.inl ⟨_, rfl⟩)
    | str i => exact alike_leaf (.inr ⟨_, rfl, by simpa [tt] using hv⟩)
    | tup xs =>
      rw [tt, List.all_eq_true] at hv
      rw [short, Bool.and_eq_true, List.all_eq_true, decide_eq_true_eq] at hs
      have l : xs.length ≤ 16777216 := hs.1
      have hx := fun x hx => ih x (hv x hx) (hs.2 x hx)
      rw [r__law_alike]
      simp -implicitDefEqProofs [runFn, if__law_alike, eq_int, rngV_nat l]
      rw [comp_map (fun k : Nat => .bl true) rfl _ (fun k hk => by
        have hk := List.mem_range.mp hk
        have e : itemOf h (.tup xs) (.int (k : Int)) = some xs[k] := L2.atI_nat (by simp [hk])
        exact ⟨_, by simp; rfl, by
          simp [e]
          exact hx xs[k] (List.getElem_mem hk)⟩) (by simpa using hs.1)]
      simp -implicitDefEqProofs
      rw [show (List.range xs.length).map (fun _ => PV.bl true) = (List.range xs.length).map (fun x => PV.bl ((fun _ => true) x)) from rfl, all_enc]
      simp -implicitDefEqProofs
      rw [show ((List.range xs.length).all fun x => true) = true from List.all_eq_true.mpr fun _ _ => rfl]
      exact finish_same (v := .bl true) rfl
    | _ => simp [tt] at hv
theorem alike_fs {ks : List Fc} (hl : ks.length ≤ LIM) (hf : ∀ f ∈ ks, f.length ≤ LIM) : s__law_alike [.tup (ks.map tI), .tup (ks.map tI)] h = .ok (.bl true) h :=
  alike_ev 5 _ (by simp [tt, tI, List.all_eq_true]) (by
    simp [short, tI, List.all_eq_true, hl]
    exact hf)
theorem alike_two {ks : List Fc} {C : List Int} (hl : ks.length ≤ LIM) (hf : ∀ f ∈ ks, f.length ≤ LIM) (hC : C.length ≤ LIM) : s__law_alike [.tup [.tup (ks.map tI), tI C], .tup [.tup (ks.map tI), tI C]] h = .ok (.bl true) h :=
  alike_ev 5 _ (by simp [tt, tI, List.all_eq_true]) (by
    simp [short, tI, List.all_eq_true, hl, hC]
    exact ⟨by decide, hf⟩)
theorem alike_way {a : Str} {w : Fc} (ha : PyData.strOk a = true) (hw : w.length ≤ LIM) : s__law_alike [.tup [.str a, tI w], .tup [.str a, tI w]] h = .ok (.bl true) h :=
  alike_ev 5 _ (by simp [tt, tI, List.all_eq_true, ha]) (by
    simp [short, tI, List.all_eq_true, hw]
    decide)
/-! the corners of a part, anew *)-/
end
end K12
namespace K12
open PySem HW
/-- the law's corners *)-/
theorem lcs_eq (ks : List Fc) : ((lvl ks 0).map fun f => f.headD 0) = cs ks := by
  refine uniqI ?_ (cs_lt ks) fun c => ?_
  · rw [List.pairwise_map]
    refine List.Pairwise.imp_of_mem ?_ ((sortF_lt (nodup_allF ks)).filter _)
    intro a b ha hb hab
    have la := of_decide_eq_true (List.mem_filter.mp ha).2
    have lb := of_decide_eq_true (List.mem_filter.mp hb).2
    obtain ⟨x, rfl⟩ := List.length_eq_one_iff.mp (show a.length = 1 by omega)
    obtain ⟨y, rfl⟩ := List.length_eq_one_iff.mp (show b.length = 1 by omega)
    rw [List.cons_lt_cons_iff] at hab
    rcases hab with q | ⟨_, q⟩
    · exact q
    · exact absurd q (flt_irrefl _)
  · rw [mem_cs]
    rw [List.mem_map]
    constructor
    · rintro ⟨f, hf, rfl⟩
      obtain ⟨h1, h2⟩ := mem_lvl.mp hf
      obtain ⟨x, rfl⟩ := List.length_eq_one_iff.mp (show f.length = 1 by omega)
      obtain ⟨g, g1, _, g2⟩ := mem_allF.mp h1
      exact ⟨g, g1, g2.subset (by simp)⟩
    · rintro ⟨g, g1, g2⟩
      exact ⟨[c], mem_lvl.mpr ⟨mem_allF.mpr ⟨g, g1, by simp, List.singleton_sublist.mpr g2⟩, by simp⟩, rfl⟩
theorem adj_comm (E : List Fc) (a b : Int) : adj E a b = adj E b a := by
  unfold adj
  by_cases h : b < a
  · have : ¬ a < b := by omega
    simp [h, this]
  · by_cases h2 : a < b
    · simp [h, h2]
    · have : a = b := by omega
      subst this
      rfl
theorem mem_nbs {V : List Int} {E : List Fc} (ok : EOk V E) {a b : Int} (hb : b ∈ V) : b ∈ nbs E a ↔ adj E a b = true := by
  unfold nbs
  rw [List.mem_filter, adj_comm]
  constructor
  · exact fun h => h.2
  · intro h
    have := ok.v b hb
    exact ⟨List.mem_map.mpr ⟨b.toNat, List.mem_range.mpr (by omega), by omega⟩, h⟩
theorem adj_edge {V : List Int} {E : List Fc} (ok : EOk V E) {a b : Int} (h : [a, b] ∈ E) : adj E a b = true := by
  obtain ⟨x, y, e, h1, _, _⟩ := ok.p _ h
  cases e
  have : ¬ b < a := by omega
  simp [adj, this, h]
theorem edge_of_adj {E : List Fc} {a b : Int} (h : adj E a b = true) : [a, b] ∈ E ∨ [b, a] ∈ E := by
  unfold adj at h
  rw [decide_eq_true_eq] at h
  split at h
  · exact .inr h
  · exact .inl h
/-- no edge leaves *)-/
def clos (E : List Fc) (f : Fc) : Bool := f.all fun a => (nbs E a).all fun b => decide (b ∈ f)
def ed : Fc → Int × Int
  | [a, b] => (a, b)
  | _ => (0, 0)
def leav (E : List Fc) (f : Fc) : Bool := E.any fun e => !decide (decide ((ed e).1 ∈ f) = decide ((ed e).2 ∈ f))
theorem clos_eq {V : List Int} {E : List Fc} (ok : EOk V E) {f : Fc} : clos E f = !leav E f := by
  rw [Bool.eq_iff_iff]
  unfold clos leav
  rw [Bool.not_eq_true', List.any_eq_false]
  simp only [List.all_eq_true, decide_eq_true_eq, Bool.not_eq_true', decide_eq_false_iff_not, Decidable.not_not]
  constructor
  · intro h e he
    obtain ⟨a, b, rfl, h1, h2, h3⟩ := ok.p _ he
    have e1 := adj_edge ok he
    show decide (a ∈ f) = decide (b ∈ f)
    refine decide_eq_decide.mpr ⟨fun q => h a q b ((mem_nbs ok h3).mpr e1), fun q => h b q a ((mem_nbs ok h2).mpr (by rw [adj_comm]; exact e1))⟩
  · intro h a ha b hb
    have e1 := (mem_nbs ok (nbs_in ok a b hb)).mp hb
    rcases edge_of_adj e1 with q | q
    · have := h _ q
      exact (decide_eq_decide.mp this).mp ha
    · have := h _ q
      exact (decide_eq_decide.mp this).mpr ha
def stp (E : List Fc) (f : Fc) : Bool := (f.zip (f.drop 1)).all fun p => adj E p.1 p.2
theorem stp_eq {V : List Int} {E : List Fc} (ok : EOk V E) {f : Fc} (hf : ∀ x ∈ f, x ∈ V) : ((f.zip (f.drop 1)).all fun p => decide (p.2 ∈ nbs E p.1)) = stp E f := by
  unfold stp
  rw [Bool.eq_iff_iff, List.all_eq_true, List.all_eq_true]
  constructor
  · intro h p hp
    have h2 := List.of_mem_zip (a := p.1) (b := p.2) hp
    exact (mem_nbs ok (hf _ (List.mem_of_mem_drop h2.2))).mp (of_decide_eq_true (h p hp))
  · intro h p hp
    have h2 := List.of_mem_zip (a := p.1) (b := p.2) hp
    exact decide_eq_true ((mem_nbs ok (hf _ (List.mem_of_mem_drop h2.2))).mpr (h p hp))
def okV (V : List Int) : PV → Bool
  | .int c => decide (c ∈ V)
  | _ => false
theorem okV_all {V : List Int} : ∀ {ys : List PV}, ys.all (okV V) = true → ∃ f : Fc, ys = f.map .int ∧ ∀ x ∈ f, x ∈ V
  | [], _ => ⟨[], rfl, by simp⟩
  | y :: ys, h => by
    rw [List.all_cons, Bool.and_eq_true] at h
    obtain ⟨f, rfl, h2⟩ := okV_all h.2
    cases y with
    | int c =>
      refine ⟨c :: f, rfl, fun x hx => ?_⟩
      rcases List.mem_cons.mp hx with q | q
      · rw [q]
        exact of_decide_eq_true h.1
      · exact h2 x q
    | _ => cases h.1
theorem isI_all : ∀ {ys : List PV}, ys.all isI = true → ∃ f : Fc, ys = f.map .int
  | [], _ => ⟨[], rfl⟩
  | y :: ys, h => by
    rw [List.all_cons, Bool.and_eq_true] at h
    obtain ⟨f, rfl⟩ := isI_all h.2
    cases y with
    | int c => exact ⟨c :: f, rfl⟩
    | _ => cases h.1
section
variable {h : PHeap}
theorem corners_comp {ctx : List Sem} {env : HW.Env} {k : Nat} (hk : k < env.length) {s : List Fc} (hl : (lvl s 0).length ≤ LIM) : compGo (fun _ => true) (tgSet (.nm k)) (dIfs ctx .nil) (dE ctx (.sub (.var k) (.cst (.int 0)))) env ((lvl s 0).map tI) h [] = .ok ((cs s).map .int) h := by
  rw [comp_map (fun f : Fc => .int (f.headD 0)) rfl _ (fun f hf => ⟨env.set k (some (tI f)), by simp [hk], by
    have h2 := (mem_lvl.mp hf).2
    obtain ⟨x, rfl⟩ := List.length_eq_one_iff.mp (show f.length = 1 by omega)
    have : itemOf h (tI [x]) (.int 0) = some (.int x) := x_it0
    simp [hk, this]⟩) hl, ← lcs_eq, List.map_map]
  rfl
theorem Shp.fal {s : List Fc} (S : Shp s) : (fa s).length ≤ 31 := by
  have := S.al
  unfold fa
  rwa [(sortF_perm _).length_eq]
theorem Gd.fal {s : List Fc} (S : Gd s) : (fa s).length ≤ 31 := by
  have := S.al
  unfold fa
  rwa [(sortF_perm _).length_eq]
theorem lvl_few {s : List Fc} (S : Gd s) (d : Int) : (lvl s d).length ≤ 31 := Nat.le_trans (List.length_filter_le _ _) S.fal
theorem eq_str {a b : Str} (ha : PyData.strOk a = true) (hb : PyData.strOk b = true) : ∃ c, pyEq h (.str a) (.str b) = some c := by
  obtain ⟨d, e, _, _, q⟩ := eq_tame (n := 0) (g := h) (by omega) (a := .str a) (b := .str b) (by simpa [tame] using ha) (by simpa [tame] using hb)
  exact ⟨_, q⟩
def isR : ISs := match if__law_is_way.body with | .cons _ r => r | _ => .nil
theorem is_pre {s : List Fc} (S : Shp s) {i j : Int} {v : PV} : s__law_is_way [.tup (s.map tI), .int i, .int j, v] h =
    (dSs [s__law_level, s__law_is_int] isR [some (.tup (s.map tI)), some (.int i), some (.int j), some v, none, some (.lst ((cs s).map .int)), some (.lst ((lvl s 1).map tI)), none, none, none, none, none, none] h).bind fun o h1 => match o with
      | .rt v => HW.finish false h v h1
      | .nx _ => HW.finish false h .non h1
      | _ => .bad := by
  have l := lvl_few S.gd 0
  simp [s__law_is_way, runFn, if__law_is_way, level_ev S.sm, isR, -x_ifs]
  rw [corners_comp (by simp) (by simp [LIM]; omega)]
  simp [-x_ifs] <;> rfl
end
end K12
namespace K12
open PySem HW
section
variable {h : PHeap}
def JC : List Sem := [s_is_integer, s_neighbours, s_is_face]
theorem judge_eq : s_judge_way = runFn if_judge_way JC := rfl
/-- both say no *)-/
def No (s : List Fc) (i j : Int) (v : PV) (h : PHeap) : Prop := s_judge_way [.tup (s.map tI), .int i, .int j, v] h = .ok (.bl false) h ∧ s__law_is_way [.tup (s.map tI), .int i, .int j, v] h = .ok (.bl false) h
theorem no_tup {s : List Fc} (S : Shp s) {i j : Int} {v : PV} (hv : bltop (.isi "tuple") [v] h = some (.bl false)) : No s i j v h := by
  refine ⟨?_, ?_⟩
  · simp [s_judge_way, runFn, if_judge_way, hv]
    exact finish_same (v := .bl false) rfl
  · rw [is_pre S]
    simp [isR, if__law_is_way, hv]
    exact finish_same (v := .bl false) rfl
theorem no_len {s : List Fc} (S : Shp s) {i j : Int} {xs : List PV} (hl : xs.length ≠ 2) : No s i j (.tup xs) h := by
  have e : ¬ (xs.length : Int) = 2 := by omega
  refine ⟨?_, ?_⟩
  · simp [s_judge_way, runFn, if_judge_way, eq_int, e]
    exact finish_same (v := .bl false) rfl
  · rw [is_pre S]
    simp [isR, if__law_is_way, eq_int, e]
    exact finish_same (v := .bl false) rfl
theorem no_str {s : List Fc} (S : Shp s) {i j : Int} {a r : PV} (hv : bltop (.isi "str") [a] h = some (.bl false)) : No s i j (.tup [a, r]) h := by
  refine ⟨?_, ?_⟩
  · simp [s_judge_way, runFn, if_judge_way, eq_int, hv]
    exact finish_same (v := .bl false) rfl
  · rw [is_pre S]
    simp [isR, if__law_is_way, eq_int, hv]
    exact finish_same (v := .bl false) rfl
theorem x_it1 {x y : PV} {xs : List PV} : itemOf h (.tup (x :: y :: xs)) (.int 1) = some y := L2.atI_nat (j := 1) rfl
theorem no_row {s : List Fc} (S : Shp s) {i j : Int} {a : Str} {r : PV} (hv : bltop (.isi "tuple") [r] h = some (.bl false)) : No s i j (.tup [.str a, r]) h := by
  refine ⟨?_, ?_⟩
  · simp [s_judge_way, runFn, if_judge_way, eq_int, x_it1, hv]
    exact finish_same (v := .bl false) rfl
  · rw [is_pre S]
    simp [isR, if__law_is_way, eq_int, x_it1, hv]
    exact finish_same (v := .bl false) rfl
theorem no_nil {s : List Fc} (S : Shp s) {i j : Int} {a : Str} : No s i j (.tup [.str a, .tup []]) h := by
  refine ⟨?_, ?_⟩
  · simp [s_judge_way, runFn, if_judge_way, eq_int, x_it1]
    exact finish_same (v := .bl false) rfl
  · rw [is_pre S]
    simp [isR, if__law_is_way, eq_int, x_it1]
    exact finish_same (v := .bl false) rfl
theorem ints_comp {sem s2 s3 : Sem} {env : HW.Env} {i : Nat} {xs : List PV} (hi : i < env.length) (hs : ∀ (v : PV), plainV v = true → sem [v] h = .ok (.bl (isI v)) h) (hx : ∀ x ∈ xs, plainV x = true) (hl : xs.length ≤ LIM) :
    compGo (fun _ => true) (tgSet (.nm i)) (dIfs [sem, s2, s3] .nil) (dE [sem, s2, s3] (.call 0 (.cons (.var i) .nil))) env xs h [] = .ok (xs.map fun x => .bl (isI x)) h := by
  rw [comp_gen (fun _ => true) (fun x => .bl (isI x)) rfl xs [] (fun x q => ⟨env.set i (some x), by simp [hi], by simp, fun _ => by
    have q := hx x q
    simp [hi, hs x q]⟩) (by simpa using hl), List.filter_eq_self.mpr (fun _ _ => rfl)]
  rfl
theorem okV_comp {ctx : List Sem} {env : HW.Env} {i j : Nat} (hij : i ≠ j) {V : List Int} {xs : List PV} (hi : i < env.length) (hj : env[j]? = some (some (.lst (V.map .int)))) (hs : ∀ (v : PV), plainV v = true → (ctx.getD 1 fun _ _ => .bad) [v] h = .ok (.bl (isI v)) h) (hx : ∀ x ∈ xs, plainV x = true) (hl : xs.length ≤ LIM) :
    compGo (fun _ => true) (tgSet (.nm i)) (dIfs ctx .nil) (dE ctx (.and (.call 1 (.cons (.var i) .nil)) (.cmp .isin (.var i) (.var j)))) env xs h [] = .ok (xs.map fun x => .bl (okV V x)) h := by
  have g1 : ∀ y, (env.set i y)[j]? = some (some (.lst (V.map .int))) := fun y => by rw [List.getElem?_set_ne hij, hj]
  have g2 : ∀ y, (env.set i y)[i]? = some y := fun y => by rw [List.getElem?_set_self hi]
  rw [comp_gen (fun _ => true) (fun x => .bl (okV V x)) rfl xs [] (fun x q => ⟨env.set i (some x), by simp [hi], by simp, fun _ => by
    have q := hx x q
    have a := hs x q
    simp only [x_and, x_call, x_cons, x_nil, x_var, g1, g2, R.bind_ok, a, x_trb, R.of_some]
    cases x <;> simp [plainV] at q <;> simp [isI, okV, -getElem?_pos, g1, g2, in_ints]⟩) (by simpa using hl), List.filter_eq_self.mpr (fun _ _ => rfl)]
  rfl
theorem in_comp {ctx : List Sem} {env : HW.Env} {i j : Nat} (hij : i ≠ j) {V : List Int} {E : List Fc} {f : Fc} (hi : i < env.length) (hj : env[j]? = some (some (.dct (nearD V E)))) (hl : f.length ≤ LIM) :
    compGo (fun _ => true) (tgSet (.nm i)) (dIfs ctx .nil) (dE ctx (.cmp .isin (.var i) (.var j))) env (f.map .int) h [] = .ok (f.map fun x => .bl (decide (x ∈ V))) h := by
  have g1 : ∀ y, (env.set i y)[j]? = some (some (.dct (nearD V E))) := fun y => by rw [List.getElem?_set_ne hij, hj]
  have g2 : ∀ y, (env.set i y)[i]? = some y := fun y => by rw [List.getElem?_set_self hi]
  rw [comp_map (fun c : Int => .bl (decide (c ∈ V))) rfl _ (fun c hc => ⟨env.set i (some (.int c)), by simp [hi], by
    simp only [x_cmp, x_var, g1, g2, R.bind_ok, x_isin, near_isin, Option.map_some, R.of_some]⟩) hl]
theorem no_all {s : List Fc} (S : Shp s) {i j : Int} {a : Str} {y : PV} {ys : List PV} (hp : ∀ x ∈ y :: ys, plainV x = true) (hl : (y :: ys).length ≤ LIM) (hv : (y :: ys).all (okV (cs s)) = false) : No s i j (.tup [.str a, .tup (y :: ys)]) h := by
  refine ⟨?_, ?_⟩
  · have nz : ¬ ((ys.length : Int) + 1 = 0) := by omega
    have ic := ints_comp (h := h) (s2 := s_neighbours) (s3 := s_is_face) (env := [some (.tup (s.map tI)), some (.int i), some (.int j), some (.tup [.str a, .tup (y :: ys)]), some (.tup (y :: ys)), none, none, none, none]) (i := 8) (by simp) (fun v => is_integer_ev) hp hl
    simp [s_judge_way, runFn, if_judge_way, eq_int, x_it1, nz, lockV]
    rw [ic]
    simp only [R.bind_ok, x_mkf, all_enc]
    cases q : (y :: ys).all isI with
    | false =>
      simp
      exact finish_same (v := .bl false) rfl
    | true =>
      obtain ⟨f, hf⟩ := isI_all q
      rw [hf] at hv ⊢
      have fl : f.length ≤ LIM := by rw [hf] at hl; simpa using hl
      have vf : f.all (fun x => decide (x ∈ cs s)) = false := by
        rw [List.all_map] at hv
        exact hv
      have nc := in_comp (h := h) (ctx := [s_is_integer, s_neighbours, s_is_face]) (env := [some (.tup (s.map tI)), some (.int i), some (.int j), some (.tup [.str a, .tup (f.map .int)]), some (.tup (f.map .int)), some (.dct (nearD (cs s) (lvl s 1))), none, none, none]) (i := 8) (j := 5) (by decide) (by simp) rfl fl
      simp [neighbours_ev S, lockV]
      rw [nc]
      simp only [R.bind_ok, x_mkf, all_enc, vf]
      simp
      exact finish_same (v := .bl false) rfl
  · rw [is_pre S]
    have ic := okV_comp (h := h) (ctx := [s__law_level, s__law_is_int]) (V := cs s) (env := [some (.tup (s.map tI)), some (.int i), some (.int j), some (.tup [.str a, .tup (y :: ys)]), some (.tup (y :: ys)), some (.lst ((cs s).map .int)), some (.lst ((lvl s 1).map tI)), none, none, none, none, none, none]) (i := 9) (j := 5) (by decide) (by simp) rfl (fun v => law_is_int_ev) hp hl
    simp [isR, if__law_is_way, eq_int, x_it1, lockV]
    rw [ic]
    simp only [R.bind_ok, x_mkf, all_enc, hv]
    simp
    exact finish_same (v := .bl false) rfl
end
end K12
namespace K12
open PySem HW
theorem clos_pairs (E : List Fc) (f0 : Fc) : ∀ f : Fc, ((f.flatMap fun a => (nbs E a).map fun b => (a, b)).all fun p => decide (p.2 ∈ f0)) = f.all fun a => (nbs E a).all fun b => decide (b ∈ f0)
  | [] => rfl
  | a :: f => by
    rw [List.flatMap_cons, List.all_append, clos_pairs E f0 f, List.all_map, List.all_cons]
    rfl
theorem nbs_few (E : List Fc) (a : Int) : (nbs E a).length ≤ 12 := by
  have : (nbs E a).length ≤ (rng 12).length := List.length_filter_le _ _
  rwa [rng_len] at this
def prV (p : Int × Int) : PV := .tup [.int (if p.2 < p.1 then p.2 else p.1), .int (if p.1 < p.2 then p.2 else p.1)]
theorem steps_list (f : Fc) (g : Nat → PV) (hg : ∀ (i : Nat) (a b : Int), f[i]? = some a → f[i + 1]? = some b → g i = prV (a, b)) : (List.range (f.length - 1)).map g = (f.zip (f.drop 1)).map prV := by
  refine List.ext_getElem (by simp) fun n h1 h2 => ?_
  simp only [List.length_map, List.length_range] at h1
  rw [List.getElem_map, List.getElem_map, List.getElem_range, List.getElem_zip, List.getElem_drop]
  refine hg n _ _ (List.getElem?_eq_getElem _) ?_
  rw [Nat.add_comm n 1]
  exact List.getElem?_eq_getElem _
section
variable {h : PHeap}
theorem asFace_f {f : Fc} (hn : f ≠ []) (hp : ∀ x ∈ f, 0 ≤ x) : (asFace (tI f)).isSome = incI f := by
  obtain ⟨g, g1, g2⟩ := asFace_yes (natB (f := f) (List.all_eq_true.mpr fun x hx => decide_eq_true (hp x hx)))
  have e : f = g := (List.map_inj_right fun x y h => int_inj h).mp g1
  subst e
  unfold tI
  rw [g2]
  cases f with
  | nil => exact absurd rfl hn
  | cons a f => rfl
theorem clos_comp {ctx : List Sem} {V : List Int} {E : List Fc} {f0 : Fc} {env : HW.Env} (he : env.length = 9) (h4 : env[4]? = some (some (tI f0))) (h5 : env[5]? = some (some (.dct (nearD V E)))) : ∀ (f : Fc) (acc : List PV), (∀ x ∈ f, x ∈ V) → acc.length + f.length * 12 ≤ 1000000 →
    comp2Go (fun _ => true) (tgSet (.nm 6)) (dIfs ctx .nil) (dI ctx (.ex (.sub (.var 5) (.var 6)))) (tgSet (.nm 7)) (dIfs ctx .nil) (dE ctx (.cmp .isin (.var 7) (.var 4))) [7] env (f.map .int) h acc = .ok (acc ++ (f.flatMap fun a => (nbs E a).map fun b => (a, b)).map fun p => .bl (decide (p.2 ∈ f0))) h
  | [], acc, _, _ => by simp [comp2Go]
  | a :: f, acc, hV, hl => by
    simp only [List.length_cons, Nat.add_mul] at hl
    have nf := nbs_few E a
    have hl2 : (acc ++ (nbs E a).map fun b => PV.bl (decide (b ∈ f0))).length + f.length * 12 ≤ 1000000 := by
      rw [List.length_append, List.length_map]
      omega
    have ih := clos_comp (ctx := ctx) he h4 h5 f (acc ++ (nbs E a).map fun b => .bl (decide (b ∈ f0))) (fun x hx => hV x (List.mem_cons_of_mem _ hx)) hl2
    have g5 : (env.set 6 (some (.int a)))[5]? = some (some (.dct (nearD V E))) := by rw [List.getElem?_set_ne (by decide), h5]
    have g6 : (env.set 6 (some (.int a)))[6]? = some (some (.int a)) := by rw [List.getElem?_set_self (by omega)]
    rw [List.map_cons]
    simp only [comp2Go, if_true, x_tnm, he, show (6 : Nat) < 9 from by decide, x_inil, R.bind_ok, x_ex, x_sub, x_var, g5, g6, near_item (hV a (List.mem_cons_self ..)), R.of_some, x_wl]
    rw [comp_enc (fun _ => true) (fun b : Int => .bl (decide (b ∈ f0))) rfl (nbs E a) acc (fun b hb => ⟨(wipeE (env.set 6 (some (.int a))) [7]).set 7 (some (.int b)), by simp [he], by simp, fun _ => by
      have q4 : ((wipeE (env.set 6 (some (.int a))) [7]).set 7 (some (.int b)))[4]? = some (some (tI f0)) := by
        simp [-getElem?_pos, List.getElem?_set, h4]
      have q7 : ((wipeE (env.set 6 (some (.int a))) [7]).set 7 (some (.int b)))[7]? = some (some (.int b)) := by
        simp [-getElem?_pos, List.getElem?_set, he]
      simp only [x_cmp, x_var, q4, q7, R.bind_ok, x_isin, in_tI, Option.map_some, R.of_some]⟩) (by simp [LIM]; omega), List.filter_eq_self.mpr fun _ _ => rfl]
    simp only [R.bind_ok]
    rw [ih]
    simp [Function.comp_def]
theorem near_zip {ctx : List Sem} {V : List Int} {E : List Fc} {f : Fc} {env : HW.Env} (he : env.length = 9) (h5 : env[5]? = some (some (.dct (nearD V E)))) (hV : ∀ x ∈ f, x ∈ V) (hl : f.length ≤ 1000) :
    compGo (fun _ => true) (tgSet (.tp [(.nm 6), (.nm 7)])) (dIfs ctx .nil) (dE ctx (.cmp .isin (.var 7) (.sub (.var 5) (.var 6)))) env ((f.zip (f.drop 1)).map fun p => .tup [.int p.1, .int p.2]) h [] = .ok ((f.zip (f.drop 1)).map fun p => .bl (decide (p.2 ∈ nbs E p.1))) h :=
  comp_map (fun p : Int × Int => .bl (decide (p.2 ∈ nbs E p.1))) rfl _ (fun p hp => ⟨(env.set 6 (some (.int p.1))).set 7 (some (.int p.2)), by simp [he], by
    have h2 := List.of_mem_zip (a := p.1) (b := p.2) hp
    have q5 : ((env.set 6 (some (.int p.1))).set 7 (some (.int p.2)))[5]? = some (some (.dct (nearD V E))) := by
      simp [-getElem?_pos, List.getElem?_set, h5]
    have q6 : ((env.set 6 (some (.int p.1))).set 7 (some (.int p.2)))[6]? = some (some (.int p.1)) := by
      simp [-getElem?_pos, List.getElem?_set, he]
    have q7 : ((env.set 6 (some (.int p.1))).set 7 (some (.int p.2)))[7]? = some (some (.int p.2)) := by
      simp [-getElem?_pos, List.getElem?_set, he]
    simp only [x_cmp, x_sub, x_var, q5, q6, q7, R.bind_ok, near_item (hV _ h2.1), R.of_some, x_isin, in_ints, Option.map_some]⟩) (by simp [LIM]; omega)
theorem x_it {f : Fc} {i : Nat} {a : Int} (hi : f[i]? = some a) : itemOf h (tI f) (.int (i : Int)) = some (.int a) := by
  refine L2.atI_nat (j := i) ?_
  rw [List.getElem?_map, hi]
  rfl
theorem rangeOf_one {n : Nat} (hn : n ≤ 1000000) : rangeOf 1 (n : Int) = some ((List.range (n - 1)).map fun (i : Nat) => PV.int (1 + i)) := by
  unfold rangeOf wide62
  have h1 : (decide (-(2 ^ 62) ≤ (1 : Int) ∧ (1 : Int) < 2 ^ 62)) = true := by decide
  have h2 : (decide (-(2 ^ 62) ≤ (n : Int) ∧ (n : Int) < 2 ^ 62)) = true := by
    rw [decide_eq_true_eq]
    omega
  have e : ((n : Int) - 1).toNat = n - 1 := by omega
  rw [h1, h2, e]
  rfl
theorem rng2_ev {n : Nat} (hn : n ≤ 1000000) : rngV2 (.int 1) (.int n) h = .ok ((List.range (n - 1)).map fun (i : Nat) => PV.int ((i : Int) + 1)) h := by
  unfold rngV2
  rw [intOf, Option.bind_some, intOf, Option.bind_some, rangeOf_one hn, R.of_some]
  refine congrArg (fun x => R.ok x h) (List.map_congr_left fun i _ => ?_)
  rw [Int.add_comm]
theorem step_comp {ctx : List Sem} {f : Fc} {env : HW.Env} (he : env.length = 13) (h4 : env[4]? = some (some (tI f))) (hl : f.length ≤ 1000) :
    compGo (fun _ => true) (tgSet (.nm 9)) (dIfs ctx .nil) (dE ctx (.tup (.cons (.blt .min2 (.cons (.sub (.var 4) (.bin .sub (.var 9) (.cst (.int 1)))) (.cons (.sub (.var 4) (.var 9)) .nil))) (.cons (.blt .max2 (.cons (.sub (.var 4) (.bin .sub (.var 9) (.cst (.int 1)))) (.cons (.sub (.var 4) (.var 9)) .nil))) .nil)))) env ((List.range (f.length - 1)).map fun (i : Nat) => PV.int ((i : Int) + 1)) h [] = .ok ((f.zip (f.drop 1)).map prV) h := by
  have key : ∀ (i : Nat), i < f.length - 1 → ∃ a b, f[i]? = some a ∧ f[i + 1]? = some b := fun i hi => ⟨f[i], f[i + 1], List.getElem?_eq_getElem _, List.getElem?_eq_getElem _⟩
  rw [comp_map (fun i : Nat => prV ((f[i]?).getD 0, (f[i + 1]?).getD 0)) rfl _ (fun i hi => ⟨env.set 9 (some (.int ((i : Int) + 1))), by simp [he], by
    obtain ⟨a, b, ha, hb⟩ := key i (List.mem_range.mp hi)
    have q4 : (env.set 9 (some (.int ((i : Int) + 1))))[4]? = some (some (tI f)) := by
      rw [List.getElem?_set_ne (by decide), h4]
    have q9 : (env.set 9 (some (.int ((i : Int) + 1))))[9]? = some (some (.int ((i : Int) + 1))) := by
      rw [List.getElem?_set_self (by omega)]
    have i1 : itemOf h (tI f) (.int (i : Int)) = some (.int a) := x_it ha
    have i2 : itemOf h (tI f) (.int ((i : Int) + 1)) = some (.int b) := x_it (i := i + 1) hb
    simp only [x_tup, x_cons, x_nil, x_blt, x_sub, x_bin, x_var, x_cst, q4, q9, R.bind_ok, x_subi, R.of_some, Int.add_sub_cancel, i1, i2, x_min, x_max, ha, hb, Option.getD_some]
    rfl⟩) (by simp [LIM]; omega)]
  congr 1
  exact steps_list f _ fun i a b ha hb => by rw [ha, hb]; rfl
theorem in_steps {ctx : List Sem} {E : List Fc} {f : Fc} {env : HW.Env} (he : env.length = 13) (h6 : env[6]? = some (some (.lst (E.map tI)))) (hl : f.length ≤ 1000) :
    compGo (fun _ => true) (tgSet (.nm 10)) (dIfs ctx .nil) (dE ctx (.cmp .isin (.var 10) (.var 6))) env ((f.zip (f.drop 1)).map prV) h [] = .ok ((f.zip (f.drop 1)).map fun p => .bl (adj E p.1 p.2)) h :=
  comp_map (fun p : Int × Int => .bl (adj E p.1 p.2)) rfl _ (fun p hp => ⟨env.set 10 (some (prV p)), by simp [he], by
    have q6 : (env.set 10 (some (prV p)))[6]? = some (some (.lst (E.map tI))) := by
      rw [List.getElem?_set_ne (by decide), h6]
    have q10 : (env.set 10 (some (prV p)))[10]? = some (some (prV p)) := by
      rw [List.getElem?_set_self (by omega)]
    have := edge_in (h := h) (E := E) p.1 p.2
    simp only [x_cmp, x_var, q6, q10, R.bind_ok, x_isin]
    unfold prV
    rw [this]
    rfl⟩) (by simp [LIM]; omega)
theorem leav_comp {ctx : List Sem} {V : List Int} {E : List Fc} (ok : EOk V E) {f : Fc} {env : HW.Env} (he : env.length = 13) (h4 : env[4]? = some (some (tI f))) (hl : E.length ≤ 1000) :
    compGo (fun _ => true) (tgSet (.tp [(.nm 11), (.nm 12)])) (dIfs ctx .nil) (dE ctx (.cmp .ne (.cmp .isin (.var 11) (.var 4)) (.cmp .isin (.var 12) (.var 4)))) env (E.map tI) h [] = .ok (E.map fun e => .bl (!decide (decide ((ed e).1 ∈ f) = decide ((ed e).2 ∈ f)))) h :=
  comp_map (fun e : Fc => .bl (!decide (decide ((ed e).1 ∈ f) = decide ((ed e).2 ∈ f)))) rfl _ (fun e hE => by
    obtain ⟨a, b, rfl, _⟩ := ok.p e hE
    refine ⟨(env.set 11 (some (.int a))).set 12 (some (.int b)), by simp [tI, he], ?_⟩
    have q4 : ((env.set 11 (some (.int a))).set 12 (some (.int b)))[4]? = some (some (tI f)) := by
      simp [-getElem?_pos, List.getElem?_set, h4]
    have q11 : ((env.set 11 (some (.int a))).set 12 (some (.int b)))[11]? = some (some (.int a)) := by
      simp [-getElem?_pos, List.getElem?_set, he]
    have q12 : ((env.set 11 (some (.int a))).set 12 (some (.int b)))[12]? = some (some (.int b)) := by
      simp [-getElem?_pos, List.getElem?_set, he]
    simp only [x_cmp, x_var, q4, q11, q12, R.bind_ok, x_isin, in_tI, Option.map_some, R.of_some, x_ne, eq_bool, ed]
    congr 2) (by simp [LIM]; omega)
end
end K12
namespace K12
open PySem HW
section
variable {h : PHeap}
def Same (s : List Fc) (i j : Int) (v : PV) (h : PHeap) : Prop := ∃ b, s_judge_way [.tup (s.map tI), .int i, .int j, v] h = .ok (.bl b) h ∧ s__law_is_way [.tup (s.map tI), .int i, .int j, v] h = .ok (.bl b) h
theorem No.same {s : List Fc} {i j : Int} {v : PV} (n : No s i j v h) : Same s i j v h := ⟨false, n.1, n.2⟩
def apB (E : List Fc) (i j : Int) (f : Fc) : Bool := incI f && decide (i ∈ f) && !decide (j ∈ f) && clos E f
def waB (E : List Fc) (i j : Int) (f : Fc) : Bool := decide (f.headD 0 = i) && decide (lst f = j) && stp E f
theorem judge_yes {s : List Fc} (S : Shp s) {i j : Int} {a : Str} (ha : PyData.strOk a = true) {c d : Bool} (hc : pyEq h (.str a) (.str sWay) = some c) (hd : pyEq h (.str a) (.str sApart) = some d) {f : Fc} (hn : f ≠ []) (hl : f.length ≤ 60) (hV : ∀ x ∈ f, x ∈ cs s) :
    s_judge_way [.tup (s.map tI), .int i, .int j, .tup [.str a, tI f]] h = .ok (.bl (if c then waB (lvl s 1) i j f else d && apB (lvl s 1) i j f)) h := by
  have ok := S.eok
  have fl : f.length ≤ LIM := by simp [LIM]; omega
  have nz : ¬ ((f.length : Int) = 0) := by
    have := List.length_pos_iff.mpr hn
    omega
  have hp : ∀ x ∈ f.map PV.int, plainV x = true := fun x hx => by
    obtain ⟨y, _, rfl⟩ := List.mem_map.mp hx
    rfl
  have a1 : ((f.map PV.int).all isI) = true := List.all_eq_true.mpr fun x hx => by
    obtain ⟨y, _, rfl⟩ := List.mem_map.mp hx
    rfl
  have a2 : (f.all fun x => decide (x ∈ cs s)) = true := List.all_eq_true.mpr fun x hx => decide_eq_true (hV x hx)
  have ic := ints_comp (h := h) (s2 := s_neighbours) (s3 := s_is_face) (env := [some (.tup (s.map tI)), some (.int i), some (.int j), some (.tup [.str a, tI f]), some (tI f), none, none, none, none]) (i := 8) (by simp) (fun v => is_integer_ev) hp (by simpa using fl)
  have nc := in_comp (h := h) (ctx := [s_is_integer, s_neighbours, s_is_face]) (env := [some (.tup (s.map tI)), some (.int i), some (.int j), some (.tup [.str a, tI f]), some (tI f), some (.dct (nearD (cs s) (lvl s 1))), none, none, none]) (i := 8) (j := 5) (by decide) (by simp) rfl fl
  have lk : ∀ {e5 e6 e7 e8 : Option PV}, lockV 4 [some (.tup (s.map tI)), some (.int i), some (.int j), some (.tup [.str a, tI f]), some (tI f), e5, e6, e7, e8] h = none := rfl
  have it0 : itemOf h (tI f) (.int 0) = some (.int (f.headD 0)) := by
    cases f with
    | nil => exact absurd rfl hn
    | cons x f => exact x_it0
  have g : good 60 1 (tI f) = true := good_tup (by simpa using hl) fun y hy => by
    obtain ⟨k, _, rfl⟩ := List.mem_map.mp hy
    exact good_int _ _ _
  have isf := is_face_ev (h := h) (by omega) g
  rw [asFace_f hn fun x hx => (ok.v x (hV x hx)).1] at isf
  have cs1 : sliceOf h (tI f) (some 1) none = some (.tup ((f.map .int).drop 1)) := x_st1
  have zs : ∀ {ys : List PV}, zipSrc h (tI f) (.tup ys) = some ((f.map .int, ys), fun _ => true) := rfl
  have nzp := near_zip (h := h) (ctx := [s_is_integer, s_neighbours, s_is_face]) (V := cs s) (E := lvl s 1) (f := f) (env := [some (.tup (s.map tI)), some (.int i), some (.int j), some (.tup [.str a, tI f]), some (tI f), some (.dct (nearD (cs s) (lvl s 1))), none, none, none]) rfl rfl hV (by omega)
  have clc := clos_comp (h := h) (ctx := [s_is_integer, s_neighbours, s_is_face]) (V := cs s) (E := lvl s 1) (f0 := f) (env := [some (.tup (s.map tI)), some (.int i), some (.int j), some (.tup [.str a, tI f]), some (tI f), some (.dct (nearD (cs s) (lvl s 1))), none, none, none]) rfl rfl rfl f [] hV (by simp; omega)
  simp [s_judge_way, runFn, if_judge_way, eq_int, x_it1, nz, lk, hn]
  rw [ic]
  simp only [R.bind_ok, x_mkf, all_enc, a1]
  simp [neighbours_ev S, lk, hn]
  rw [nc]
  simp only [R.bind_ok, x_mkf, all_enc, a2]
  simp [hc, hd]
  cases c with
  | true =>
    simp only [if_true]
    simp [it0, last_item hn, eq_int, cs1, zs, cut_tail]
    unfold waB
    by_cases e1 : f.headD 0 = i
    · have e1' : f.head?.getD 0 = i := by simpa using e1
      by_cases e2 : lst f = j
      · have zi := zip_ints f
        simp [e1, e1', e2]
        simp at zi
        rw [zi]
        simp at nzp
        rw [nzp]
        have sq := stp_eq ok hV
        simp only [R.bind_ok, x_mkf]
        rw [all_enc]
        simp at sq
        simp [sq]
        exact finish_same (v := .bl _) rfl
      · simp [e1, e1', e2]
        exact finish_same (v := .bl false) rfl
    · have e1' : ¬ f.head?.getD 0 = i := by simpa using e1
      simp [e1, e1']
      exact finish_same (v := .bl false) rfl
  | false =>
    cases d with
    | false =>
      simp [hd]
      exact finish_same (v := .bl false) rfl
    | true =>
      simp [hd, isf, ni_tI, in_tI]
      unfold apB
      cases e1 : incI f with
      | false =>
        simp
        exact finish_same (v := .bl false) rfl
      | true =>
        by_cases e2 : i ∈ f
        · by_cases e3 : j ∈ f
          · simp [e2, e3]
            exact finish_same (v := .bl false) rfl
          · simp [e2, e3, lk]
            rw [List.nil_append] at clc
            rw [clc]
            simp only [R.bind_ok, x_mkf]
            rw [all_enc, clos_pairs]
            simp
            exact finish_same (v := .bl _) rfl
        · simp [e2]
          exact finish_same (v := .bl false) rfl
end
end K12
namespace K12
open PySem HW
section
variable {h : PHeap}
theorem x_lkr2 {a b : IE} {env : HW.Env} : lockI (.rng2 a b) env h = none := rfl
theorem list_of {f : List Int} : convop .list false (tI f) h = .ok (.lst (f.map .int)) h := rfl
theorem is_yes {s : List Fc} (S : Shp s) {i j : Int} {a : Str} (ha : PyData.strOk a = true) {c d : Bool} (hc : pyEq h (.str a) (.str sWay) = some c) (hd : pyEq h (.str a) (.str sApart) = some d) {f : Fc} (hn : f ≠ []) (hl : f.length ≤ 60) (hV : ∀ x ∈ f, x ∈ cs s) :
    s__law_is_way [.tup (s.map tI), .int i, .int j, .tup [.str a, tI f]] h = .ok (.bl (if c then waB (lvl s 1) i j f else d && apB (lvl s 1) i j f)) h := by
  have ok := S.eok
  have El := lvl_few S.gd 1
  have fl : f.length ≤ LIM := by simp [LIM]; omega
  have hp : ∀ x ∈ f.map PV.int, plainV x = true := fun x hx => by
    obtain ⟨y, _, rfl⟩ := List.mem_map.mp hx
    rfl
  have a1 : ((f.map PV.int).all (okV (cs s))) = true := List.all_eq_true.mpr fun x hx => by
    obtain ⟨y, hy, rfl⟩ := List.mem_map.mp hx
    exact decide_eq_true (hV y hy)
  have ic := okV_comp (h := h) (ctx := [s__law_level, s__law_is_int]) (V := cs s) (env := [some (.tup (s.map tI)), some (.int i), some (.int j), some (.tup [.str a, tI f]), some (tI f), some (.lst ((cs s).map .int)), some (.lst ((lvl s 1).map tI)), none, none, none, none, none, none]) (i := 9) (j := 5) (by decide) (by simp) rfl (fun v => law_is_int_ev) hp (by simpa using fl)
  have lk : ∀ {e5 e6 e7 e8 e9 e10 e11 e12 : Option PV}, lockV 4 [some (.tup (s.map tI)), some (.int i), some (.int j), some (.tup [.str a, tI f]), some (tI f), e5, e6, e7, e8, e9, e10, e11, e12] h = none := rfl
  have lk7 : ∀ {x : List PV} {e5 e6 e8 e9 e10 e11 e12 : Option PV}, lockV 7 [some (.tup (s.map tI)), some (.int i), some (.int j), some (.tup [.str a, tI f]), some (tI f), e5, e6, some (.lst x), e8, e9, e10, e11, e12] h = none := rfl
  have lk6 : ∀ {x : List PV} {e5 e7 e8 e9 e10 e11 e12 : Option PV}, lockV 6 [some (.tup (s.map tI)), some (.int i), some (.int j), some (.tup [.str a, tI f]), some (tI f), e5, some (.lst x), e7, e8, e9, e10, e11, e12] h = none := rfl
  have it0 : itemOf h (tI f) (.int 0) = some (.int (f.headD 0)) := by
    cases f with
    | nil => exact absurd rfl hn
    | cons x f => exact x_it0
  have r2 := rng2_ev (h := h) (n := f.length) (by omega)
  have stc := step_comp (h := h) (ctx := [s__law_level, s__law_is_int]) (f := f) (env := [some (.tup (s.map tI)), some (.int i), some (.int j), some (.tup [.str a, tI f]), some (tI f), some (.lst ((cs s).map .int)), some (.lst ((lvl s 1).map tI)), none, none, none, none, none, none]) rfl rfl (by omega)
  have ins := in_steps (h := h) (ctx := [s__law_level, s__law_is_int]) (E := lvl s 1) (f := f) (env := [some (.tup (s.map tI)), some (.int i), some (.int j), some (.tup [.str a, tI f]), some (tI f), some (.lst ((cs s).map .int)), some (.lst ((lvl s 1).map tI)), some (.lst ((f.zip (f.drop 1)).map prV)), none, none, none, none, none]) rfl rfl (by omega)
  have lvc := leav_comp (h := h) (ctx := [s__law_level, s__law_is_int]) ok (f := f) (env := [some (.tup (s.map tI)), some (.int i), some (.int j), some (.tup [.str a, tI f]), some (tI f), some (.lst ((cs s).map .int)), some (.lst ((lvl s 1).map tI)), none, none, none, none, none, none]) rfl rfl (by omega)
  have se : ∃ r : List Int, convop .sortedSet false (tI f) h = .ok (.lst (r.map .int)) h ∧ decide (f = r) = incI f := by
    obtain ⟨r, r1, r2, r3⟩ := rows_I f
    refine ⟨r, set_ints (v := tI f) (f := f) rfl (by omega) r2 r3, ?_⟩
    rw [Bool.eq_iff_iff, decide_eq_true_eq, incI_iff]
    constructor
    · intro e
      rw [e]
      exact r2
    · intro e
      exact uniqI e r2 fun k => (r3 k).symm
  obtain ⟨r, se1, se2⟩ := se
  have sne : pyEq h (.lst (f.map .int)) (.lst (r.map .int)) = some (incI f) := by rw [eq_ints, se2]
  have tr : tru h (tI f) = some true := by
    rw [x_trI]
    cases f with
    | nil => exact absurd rfl hn
    | cons x f => rfl
  rw [is_pre S]
  simp -implicitDefEqProofs [isR, if__law_is_way, eq_int, x_it1, lk, tr, hn]
  rw [ic]
  simp -implicitDefEqProofs only [R.bind_ok, x_mkf, all_enc, a1]
  simp -implicitDefEqProofs [hc]
  cases c with
  | true =>
    try simp -implicitDefEqProofs only [if_true]
    simp -implicitDefEqProofs [r2, x_lkr2]
    rw [stc]
    simp -implicitDefEqProofs [it0, last_item hn, eq_int]
    unfold waB
    by_cases e1 : f.headD 0 = i
    · have e1' : f.head?.getD 0 = i := by simpa using e1
      by_cases e2 : lst f = j
      · rw [List.drop_one] at ins
        simp -implicitDefEqProofs [e1, e1', e2, lk7]
        rw [ins]
        simp -implicitDefEqProofs only [R.bind_ok, x_mkf, all_enc]
        simp -implicitDefEqProofs [stp]
        exact finish_same (v := .bl _) rfl
      · simp -implicitDefEqProofs [e1, e1', e2]
        exact finish_same (v := .bl false) rfl
    · have e1' : ¬ f.head?.getD 0 = i := by simpa using e1
      simp -implicitDefEqProofs [e1, e1']
      exact finish_same (v := .bl false) rfl
  | false =>
    cases d with
    | false =>
      simp -implicitDefEqProofs [hd]
      exact finish_same (v := .bl false) rfl
    | true =>
      simp -implicitDefEqProofs [hd, list_of, se1, sne, ni_tI, in_tI]
      unfold apB
      cases e1 : incI f with
      | false =>
        simp -implicitDefEqProofs
        exact finish_same (v := .bl false) rfl
      | true =>
        by_cases e2 : i ∈ f
        · by_cases e3 : j ∈ f
          · simp -implicitDefEqProofs [e2, e3]
            exact finish_same (v := .bl false) rfl
          · simp -implicitDefEqProofs [e2, e3, lk6]
            rw [lvc]
            simp -implicitDefEqProofs only [R.bind_ok, x_mkf]
            rw [any_enc]
            simp -implicitDefEqProofs [clos_eq ok, leav]
            exact finish_same (v := .bl _) rfl
        · simp -implicitDefEqProofs [e2]
          exact finish_same (v := .bl false) rfl
theorem way_both {s : List Fc} (S : Shp s) {i j : Int} {m n : Nat} (hm : m ≤ 60) {v : PV} (hv : good m n v = true) : Same s i j v h := by
  cases v with
  | tup xs =>
    cases n with
    | zero => simp [good] at hv
    | succ n =>
      have hx := good_items hv
      by_cases hl : xs.length = 2
      · match xs, hl with
        | [a, r], _ =>
          have ga := hx.2 a (by simp)
          have gr := hx.2 r (by simp)
          have pa := good_plain ga
          have pr := good_plain gr
          cases a with
          | str a =>
            have ha : PyData.strOk a = true := by
              cases n <;> exact ga
            cases r with
            | tup ys =>
              cases n with
              | zero => simp [good] at gr
              | succ n =>
                have hy := good_items gr
                cases ys with
                | nil => exact (no_nil S).same
                | cons y ys =>
                  cases q : (y :: ys).all (okV (cs s)) with
                  | false => exact (no_all S (fun x hx => good_plain (hy.2 x hx)) (by have := hy.1; simp [LIM] at this ⊢; omega) q).same
                  | true =>
                    obtain ⟨f, hf, hV⟩ := okV_all q
                    obtain ⟨c, hc⟩ := eq_str (h := h) ha (b := sWay) (by decide +kernel)
                    obtain ⟨d, hd⟩ := eq_str (h := h) ha (b := sApart) (by decide +kernel)
                    have hn : f ≠ [] := by
                      rintro rfl
                      cases hf
                    have fl : f.length ≤ 60 := by
                      have := congrArg List.length hf
                      rw [List.length_map] at this
                      have := hy.1
                      omega
                    rw [hf]
                    exact ⟨_, judge_yes S ha hc hd hn fl hV, is_yes S ha hc hd hn fl hV⟩
            | _ => first | (simp [plainV] at pr; done) | exact (no_row S rfl).same
          | _ => first | (simp [plainV] at pa; done) | exact (no_str S rfl).same
      · exact (no_len S hl).same
  | _ =>
    have pv := good_plain hv
    first | (simp [plainV] at pv; done) | exact (no_tup S rfl).same
end
end K12
namespace K12
open PySem HW
def numD (k : Nat) : List Int → List (PV × PV)
  | [] => []
  | c :: C => (.int c, .int (k : Int)) :: numD (k + 1) C
theorem numD_append : ∀ (A B : List Int) (k : Nat), numD k (A ++ B) = numD k A ++ numD (k + A.length) B
  | [], B, k => by simp [numD]
  | a :: A, B, k => by
    rw [List.cons_append, numD, numD, numD_append A B (k + 1), List.length_cons, List.cons_append]
    congr 2
    congr 1
    omega
theorem numD_keys : ∀ (A : List Int) (k : Nat), ∀ e ∈ numD k A, ∃ c ∈ A, e.1 = .int c
  | [], _, e, h => by cases h
  | a :: A, k, e, h => by
    rw [numD] at h
    rcases List.mem_cons.mp h with q | q
    · exact ⟨a, List.mem_cons_self .., by rw [q]⟩
    · obtain ⟨c, h1, h2⟩ := numD_keys A (k + 1) e q
      exact ⟨c, List.mem_cons_of_mem _ h1, h2⟩
theorem numD_length : ∀ (A : List Int) (k : Nat), (numD k A).length = A.length
  | [], _ => rfl
  | a :: A, k => by simp [numD, numD_length A]
theorem numD_find {a : Int} : ∀ {A : List Int} {k : Nat}, a ∈ A → dFind (numD k A) (.int a) = some (.int ((k + A.idxOf a : Nat) : Int))
  | b :: A, k, h => by
    unfold dFind
    rw [numD, List.find?_cons]
    by_cases e : b = a
    · subst e
      simp
    · have e2 : ¬ PV.int b = .int a := fun q => e (int_inj q)
      simp only [e2, decide_false]
      rcases List.mem_cons.mp h with q | q
      · exact absurd q.symm e
      · have ih := numD_find (k := k + 1) q
        unfold dFind at ih
        rw [ih, List.idxOf_cons]
        have : (b == a) = false := by simpa using e
        simp only [this, cond_false]
        congr 3
        omega
def enm (k : Nat) : List Int → List PV
  | [] => []
  | c :: C => .tup [.int (k : Int), .int c] :: enm (k + 1) C
theorem enm_eq : ∀ (C : List Int) (k : Nat), (C.map PV.int).mapIdx (fun i x => PV.tup [.int ((i + k : Nat) : Int), x]) = enm k C
  | [], k => rfl
  | c :: C, k => by
    rw [List.map_cons, List.mapIdx_cons, enm, ← enm_eq C (k + 1), Nat.zero_add]
    congr 2
    funext i x
    rw [show i + 1 + k = i + (k + 1) by omega]
theorem enum_eq (C : List Int) : enumOf (C.map .int) = enm 0 C := enm_eq C 0
def renum (C : List Int) (f : Fc) : Fc := f.map fun c => ((C.idxOf c : Nat) : Int)
section
variable {h : PHeap}
theorem num_go {ctx : List Sem} {env : HW.Env} (he : env.length = 7) : ∀ (C2 C1 : List Int), (C1 ++ C2).Nodup → C1.length + C2.length ≤ 1000 →
    dcompGo (fun _ => true) (tgSet (.tp [(.nm 5), (.nm 6)])) (dIfs ctx .nil) (dE ctx (.var 6)) (dE ctx (.var 5)) env (enm C1.length C2) h (numD 0 C1) = .ok (numD 0 (C1 ++ C2)) h
  | [], C1, _, _ => by simp [dcompGo, enm]
  | c :: C2, C1, hn, hl => by
    simp only [List.length_cons] at hl
    have ih := num_go (ctx := ctx) he C2 (C1 ++ [c]) (by simpa using hn) (by simp; omega)
    rw [List.length_append, List.length_singleton] at ih
    have no : c ∉ C1 := fun q => by
      rw [List.nodup_append] at hn
      exact hn.2.2 c q c (by simp) rfl
    have ko : keyOk (numD 0 C1) (.int c) = true := keyOk_int (fun e he => by
      obtain ⟨c, _, q⟩ := numD_keys _ _ e he
      exact ⟨c, q⟩) c
    have ll : (numD 0 C1).length < LIM := by
      rw [numD_length]
      simp [LIM]
      omega
    have dp : dPut (numD 0 C1) (.int c) (.int (C1.length : Int)) = numD 0 (C1 ++ [c]) := by
      unfold dPut
      rw [if_neg]
      · rw [numD_append]
        simp [numD]
      · intro q
        obtain ⟨e, he, e2⟩ := List.any_eq_true.mp q
        obtain ⟨d, d1, d2⟩ := numD_keys _ _ e he
        rw [of_decide_eq_true e2] at d2
        exact no (int_inj d2 ▸ d1)
    rw [enm]
    simp [dcompGo, he, ko, ll, dp]
    simpa using ih
theorem num_item {C : List Int} {c : Int} (hc : c ∈ C) : itemOf h (.dct (numD 0 C)) (.int c) = some (.int ((C.idxOf c : Nat) : Int)) := by
  show (if keyOk (numD 0 C) (.int c) then dFind (numD 0 C) (.int c) else none) = _
  rw [if_pos (keyOk_int (fun e he => by
    obtain ⟨c, _, q⟩ := numD_keys _ _ e he
    exact ⟨c, q⟩) c), numD_find hc, Nat.zero_add]
def newP (s : List Fc) : List Fc := sortF (s.map (renum (cs s)))
theorem newP_len (s : List Fc) : (newP s).length = s.length := by
  unfold newP
  rw [(sortF_perm _).length_eq, List.length_map]
theorem newP_f {s : List Fc} (S : Gd s) : ∀ f ∈ newP s, f.length ≤ 5 := fun f hf => by
  obtain ⟨g, hg, rfl⟩ := List.mem_map.mp (mem_sortF.mp hf)
  have := (S.f g hg).2
  simpa [renum] using this
theorem cs_few {s : List Fc} (S : Gd s) : (cs s).length ≤ 31 := by
  rw [← lcs_eq, List.length_map]
  exact lvl_few S 0
theorem sort_new {s : List Fc} (S : Gd s) : convop .sorted false (.lst ((s.map (renum (cs s))).map tI)) h = .ok (.lst ((newP s).map tI)) h := by
  have e : ∀ {x : List PV}, anySrc h (.lst x) = some x := rfl
  simp only [convop, e, R.of_some, R.bind_ok]
  rw [sortOk_tI fun k hk => by
    obtain ⟨g, hg, rfl⟩ := List.mem_map.mp hk
    have := (S.f g hg).1
    simpa [renum] using this, sortV_tups]
  rfl
theorem made_of_ev {s : List Fc} (S : Gd s) : s_made_of [.tup (s.map tI)] h = .ok (.tup [.tup ((newP s).map tI), tI (cs s)]) h := by
  have n := S.n
  have cl := cs_few S
  have co := fun g => corners_ev (h := g) (s := s) (by omega) (fun f hf => by have := (S.f f hf).2; omega)
  have ng := num_go (h := h) (ctx := [s_corners_of]) (env := [some (.tup (s.map tI)), some (.lst ((cs s).map .int)), none, none, none, none, none]) rfl (cs s) [] (by
    rw [List.nil_append]
    exact (cs_lt s).imp fun {a b} (h : a < b) => show a ≠ b by omega) (by simp; omega)
  rw [List.nil_append] at ng
  have ls : listSrc h (.lst ((cs s).map .int)) = some ((cs s).map .int, fun _ => true) := rfl
  have lke : lockI (.enum (.var 1)) [some (.tup (s.map tI)), some (.lst ((cs s).map .int)), none, none, none, none, none] h = none := rfl
  have lk0 : ∀ {e1 e2 e3 e4 e5 e6 : Option PV}, lockV 0 [some (.tup (s.map tI)), e1, e2, e3, e4, e5, e6] h = none := rfl
  have fc : ∀ f ∈ s, compGo (fun _ => true) (tgSet (.nm 6)) (dIfs [s_corners_of] .nil) (dE [s_corners_of] (.sub (.var 2) (.var 6))) [some (.tup (s.map tI)), some (.lst ((cs s).map .int)), some (.dct (numD 0 (cs s))), none, some (tI f), none, none] (f.map .int) h [] = .ok ((renum (cs s) f).map .int) h := fun f hf => by
    have fl := (S.f f hf).2
    rw [comp_map (fun c : Int => .int (((cs s).idxOf c : Nat) : Int)) rfl _ (fun c hc => ⟨[some (.tup (s.map tI)), some (.lst ((cs s).map .int)), some (.dct (numD 0 (cs s))), none, some (tI f), none, some (.int c)], by simp, by
      simp [num_item (h := h) (mem_cs.mpr ⟨f, hf, hc⟩)]⟩) (by simp [LIM]; omega)]
    simp [renum, Function.comp_def]
  have ot : ∀ {x : List PV}, convop .tuple false (.lst x) h = .ok (.tup x) h := rfl
  have oc : compGo (fun _ => true) (tgSet (.nm 4)) (dIfs [s_corners_of] .nil) (dE [s_corners_of] (.conv .tuple false (.comp false [6] (.nm 6) (.ex (.var 4)) .nil (.sub (.var 2) (.var 6))))) [some (.tup (s.map tI)), some (.lst ((cs s).map .int)), some (.dct (numD 0 (cs s))), none, none, none, none] (s.map tI) h [] = .ok ((s.map (renum (cs s))).map tI) h := by
    rw [comp_map (fun f => tI (renum (cs s) f)) rfl _ (fun f hf => ⟨[some (.tup (s.map tI)), some (.lst ((cs s).map .int)), some (.dct (numD 0 (cs s))), none, some (tI f), none, none], by simp, by
      have lk4 : lockV 4 [some (.tup (s.map tI)), some (.lst ((cs s).map .int)), some (.dct (numD 0 (cs s))), none, some (tI f), none, none] h = none := rfl
      simp [lk4]
      rw [fc f hf]
      simp [ot]
      try rfl⟩) (by simp [LIM]; omega)]
    simp [Function.comp_def]
  have sn2 : convop .sorted false (.lst (s.map (tI ∘ renum (cs s)))) h = .ok (.lst ((newP s).map tI)) h := by
    have := sort_new (h := h) S
    rwa [List.map_map] at this
  simp [s_made_of, runFn, if_made_of, co, lke, ls, enum_eq]
  rw [show ([] : List (PV × PV)) = numD 0 [] from rfl, show enm 0 (cs s) = enm ([] : List Int).length (cs s) from rfl, ng]
  simp [lk0]
  rw [oc]
  simp [sn2, ot]
  exact finish_same (v := .tup [.tup ((newP s).map tI), tI (cs s)]) (below_tame _ 3 _ (by
    simp [tame, tames]
    exact ⟨tame_tIs 0 _, tame_tI 1 _⟩))
end
end K12
namespace K12
open PySem HW
def m0 : IS := (.asg (.tg (.nm 1)) (.call 0 (.cons (.var 0) .nil)))
def m1 : IS := (.asg (.tg (.nm 2)) (.call 1 (.cons (.var 1) .nil)))
def m2 : IS := (.asg (.tg (.nm 3)) (.call 2 (.cons (.var 2) .nil)))
def m3 : IS := (.par [(.tg (.nm 13)), (.tg (.nm 14))] (.cons (.comp false [4] (.nm 4) (.ex (.call 3 (.cons (.var 2) (.cons (.cst (.int 0)) .nil)))) .nil (.sub (.var 4) (.cst (.int 0)))) (.cons (.call 3 (.cons (.var 2) (.cons (.cst (.int 1)) .nil))) .nil)))
def m4 : IS := (.asg (.tg (.nm 4)) (.sub (.var 3) (.call 4 (.cons (.var 1) (.cons (.blt .len (.cons (.var 3) .nil)) .nil)))))
def m5 : IS := (.asg (.tg (.nm 5)) (.comp false [17] (.nm 17) (.ex (.var 3)) (.cons (.call 5 (.cons (.var 4) (.cons (.var 17) .nil))) .nil) (.var 17)))
def m6 : IS := (.ifs (.not (.call 6 (.cons (.call 7 (.cons (.var 2) (.cons (.var 4) .nil))) (.cons (.call 8 (.cons (.var 5) .nil)) .nil)))) (.cons (.ret (.cst (.bl false))) .nil) .nil)
def m7 : IS := (.asg (.tg (.nm 6)) (.comp false [17] (.nm 17) (.ex (.var 5)) .nil (.conv .tuple false (.comp false [23] (.nm 23) (.ex (.var 17)) (.cons (.cmp .notin (.var 23) (.var 4)) .nil) (.var 23)))))
def m8 : IS := (.ifs (.not (.call 6 (.cons (.call 9 (.cons (.var 2) (.cons (.var 4) .nil))) (.cons (.call 8 (.cons (.comp false [17] (.nm 17) (.ex (.var 6)) (.cons (.var 17) .nil) (.var 17)) .nil)) .nil)))) (.cons (.ret (.cst (.bl false))) .nil) .nil)
def m9 : IS := (.par [(.tg (.nm 15)), (.tg (.nm 16))] (.cons (.sub (.var 13) (.call 4 (.cons (.var 1) (.cons (.blt .len (.cons (.var 13) .nil)) .nil)))) (.cons (.call 4 (.cons (.var 1) (.cons (.cst (.int 4)) .nil))) .nil)))
def m10 : IS := (.ifs (.not (.call 6 (.cons (.call 10 (.cons (.var 2) (.cons (.var 15) .nil))) (.cons (.call 8 (.cons (.comp false [17] (.nm 17) (.ex (.var 3)) (.cons (.cmp .notin (.var 15) (.var 17)) .nil) (.var 17)) .nil)) .nil)))) (.cons (.ret (.cst (.bl false))) .nil) .nil)
def m11 : IS := (.ifs (.not (.call 6 (.cons (.call 11 (.cons (.var 2) (.cons (.var 16) .nil))) (.cons (.call 8 (.cons (.comp false [17] (.nm 17) (.ex (.var 3)) (.cons (.cmp .le (.blt .len (.cons (.var 17) .nil)) (.bin .add (.var 16) (.cst (.int 1)))) .nil) (.var 17)) .nil)) .nil)))) (.cons (.ret (.cst (.bl false))) .nil) .nil)
def m12 : IS := (.asg (.tg (.nm 7)) (.lst true .nil))
def m13 : IS := (.for_ (.nm 8) (.rng1 (.cst (.int 2))) (.cons (.expr (.meth .lapp (.var 7) (.cons (.call 8 (.cons (.comp false [23] (.nm 23) (.rng1 (.bin .add (.cst (.int 1)) (.call 4 (.cons (.var 1) (.cons (.cst (.int 4)) .nil))))) .nil (.sub (.var 3) (.call 4 (.cons (.var 1) (.cons (.blt .len (.cons (.var 3) .nil)) .nil))))) .nil)) .nil))) .nil))
def m14 : IS := (.par [(.tg (.nm 17)), (.tg (.nm 18))] (.cons (.call 2 (.cons (.sub (.var 7) (.cst (.int 0))) .nil)) (.cons (.call 2 (.cons (.sub (.var 7) (.cst (.int 1))) .nil)) .nil)))
def m15 : IS := (.ifs (.not (.call 6 (.cons (.call 12 (.cons (.sub (.var 7) (.cst (.int 0))) (.cons (.sub (.var 7) (.cst (.int 1))) .nil))) (.cons (.call 8 (.cons (.comp false [24] (.nm 24) (.ex (.var 17)) (.cons (.cmp .isin (.var 24) (.var 18)) .nil) (.var 24)) .nil)) .nil)))) (.cons (.ret (.cst (.bl false))) .nil) .nil)
def m16 : IS := (.ifs (.not (.call 6 (.cons (.call 13 (.cons (.sub (.var 7) (.cst (.int 0))) (.cons (.sub (.var 7) (.cst (.int 1))) .nil))) (.cons (.call 8 (.cons (.bin .add (.var 17) (.var 18)) .nil)) .nil)))) (.cons (.ret (.cst (.bl false))) .nil) .nil)
def m17 : IS := (.asg (.tg (.nm 9)) (.conv .sortedSet false (.comp false [24] (.nm 24) (.ex (.var 17)) (.cons (.cmp .eq (.blt .len (.cons (.var 24) .nil)) (.cst (.int 1))) .nil) (.sub (.var 24) (.cst (.int 0))))))
def m18 : IS := (.asg (.tg (.nm 10)) (.conv .tuple false (.conv .sorted false (.comp false [24] (.nm 24) (.ex (.sub (.var 7) (.cst (.int 0)))) .nil (.conv .tuple false (.comp false [23] (.nm 23) (.ex (.var 24)) .nil (.meth .lidx (.var 9) (.cons (.var 23) .nil))))))))
def m19 : IS := (.ifs (.not (.call 6 (.cons (.call 14 (.cons (.sub (.var 7) (.cst (.int 0))) .nil)) (.cons (.tup (.cons (.var 10) (.cons (.conv .tuple false (.var 9)) .nil))) .nil)))) (.cons (.ret (.cst (.bl false))) .nil) .nil)
def m20 : IS := (.par [(.tg (.nm 19)), (.tg (.nm 20))] (.cons (.sub (.var 13) (.call 4 (.cons (.var 1) (.cons (.blt .len (.cons (.var 13) .nil)) .nil)))) (.cons (.sub (.var 13) (.call 4 (.cons (.var 1) (.cons (.blt .len (.cons (.var 13) .nil)) .nil)))) .nil)))
def m21 : IS := (.asg (.tg (.nm 11)) (.call 15 (.cons (.var 2) (.cons (.var 19) (.cons (.var 20) .nil)))))
def m22 : IS := (.ifs (.not (.call 6 (.cons (.var 11) (.cons (.call 16 (.cons (.var 14) (.cons (.var 19) (.cons (.var 20) .nil)))) .nil)))) (.cons (.ret (.cst (.bl false))) .nil) .nil)
def m23 : IS := (.for_ (.nm 8) (.rng1 (.cst (.int 7))) (.cons (.asg (.tg (.nm 21)) (.call 17 (.cons (.var 1) (.cons (.var 11) (.cons (.var 8) .nil))))) (.cons (.asg (.tg (.nm 22)) (.call 18 (.cons (.var 2) (.cons (.var 19) (.cons (.var 20) (.cons (.var 21) .nil)))))) (.cons (.ifs (.or (.not (.blt (.isi "bool") (.cons (.var 22) .nil))) (.cmp .ne (.var 22) (.call 19 (.cons (.var 2) (.cons (.var 19) (.cons (.var 20) (.cons (.var 21) .nil))))))) (.cons (.ret (.cst (.bl false))) .nil) .nil) .nil))))
def m24 : IS := (.asg (.tg (.nm 12)) (.comp false [23] (.nm 23) (.ex (.var 13)) .nil (.sub (.call 16 (.cons (.var 14) (.cons (.var 23) (.cons (.cst (.int 99)) .nil)))) (.cst (.int 1)))))
def m25 : IS := (.ret (.call 6 (.cons (.call 20 (.cons (.var 2) .nil)) (.cons (.conv .tuple false (.conv .sortedSet false (.var 12))) .nil))))
def mB : ISs := (.cons m0 (.cons m1 (.cons m2 (.cons m3 (.cons m4 (.cons m5 (.cons m6 (.cons m7 (.cons m8 (.cons m9 (.cons m10 (.cons m11 (.cons m12 (.cons m13 (.cons m14 (.cons m15 (.cons m16 (.cons m17 (.cons m18 (.cons m19 (.cons m20 (.cons m21 (.cons m22 (.cons m23 (.cons m24 (.cons m25 .nil))))))))))))))))))))))))))
def LC : List Sem := [s__law_start, s__law_shape, s__law_faces, s__law_level, s__law_take, s__law_inside, s__law_alike, s_star, s__law_greatest, s_link, s_without, s_skeleton, s_both_parts, s_either_part, s_made_of, s_way_paper, s__law_way, s__law_bent, s_judge_way, s__law_is_way, s_parts_of]
theorem s_law_eq : s_law = runFn ⟨1, 25, mB, false⟩ LC := rfl
@[simp] theorem lc0 : LC[0]? = some s__law_start := rfl
@[simp] theorem lc1 : LC[1]? = some s__law_shape := rfl
@[simp] theorem lc2 : LC[2]? = some s__law_faces := rfl
@[simp] theorem lc3 : LC[3]? = some s__law_level := rfl
@[simp] theorem lc4 : LC[4]? = some s__law_take := rfl
@[simp] theorem lc5 : LC[5]? = some s__law_inside := rfl
@[simp] theorem lc6 : LC[6]? = some s__law_alike := rfl
@[simp] theorem lc7 : LC[7]? = some s_star := rfl
@[simp] theorem lc8 : LC[8]? = some s__law_greatest := rfl
@[simp] theorem lc9 : LC[9]? = some s_link := rfl
@[simp] theorem lc10 : LC[10]? = some s_without := rfl
@[simp] theorem lc11 : LC[11]? = some s_skeleton := rfl
@[simp] theorem lc12 : LC[12]? = some s_both_parts := rfl
@[simp] theorem lc13 : LC[13]? = some s_either_part := rfl
@[simp] theorem lc14 : LC[14]? = some s_made_of := rfl
@[simp] theorem lc15 : LC[15]? = some s_way_paper := rfl
@[simp] theorem lc16 : LC[16]? = some s__law_way := rfl
@[simp] theorem lc17 : LC[17]? = some s__law_bent := rfl
@[simp] theorem lc18 : LC[18]? = some s_judge_way := rfl
@[simp] theorem lc19 : LC[19]? = some s__law_is_way := rfl
@[simp] theorem lc20 : LC[20]? = some s_parts_of := rfl
section
variable {h : PHeap} {env : HW.Env} {s : List Fc} {face : Fc}
theorem lock_lst {i : Nat} {xs : List PV} (e : env[i]? = some (some (.lst xs))) : lockV i env h = none := by
  unfold lockV
  rw [e]
theorem filt_comp {ctx : List Sem} {i : Nat} (p : Fc → Bool) (cond : IE) {ks : List Fc} (hi : i < env.length) (hc : ∀ x ∈ ks, dE ctx cond (env.set i (some (tI x))) h = .ok (.bl (p x)) h) (hl : ks.length ≤ LIM) :
    compGo (fun _ => true) (tgSet (.nm i)) (dIfs ctx (.cons cond .nil)) (dE ctx (.var i)) env (ks.map tI) h [] = .ok ((ks.filter p).map tI) h := by
  rw [comp_enc p tI rfl _ _ (fun x hx => ⟨env.set i (some (tI x)), by simp [hi], by
    simp only [x_icons, x_inil, hc x hx, R.bind_ok, x_trb, R.of_some]
    cases p x <;> rfl, fun _ => by simp [hi]⟩) (by simpa using hl)]
  rfl
theorem lim31 {n : Nat} (h : n ≤ 31) : n ≤ LIM := by simp [LIM]; omega
theorem fa_f (S : Gd s) {x : Fc} (hx : x ∈ fa s) : x ≠ [] ∧ x.length ≤ 5 ∧ x.Pairwise (· < ·) := S.af (mem_fa.mp hx)
theorem al_fs {M : List Fc} (h1 : M.length ≤ 1000) (h2 : ∀ f ∈ M, f.length ≤ 5) : s__law_alike [.tup (M.map tI), .tup (M.map tI)] h = .ok (.bl true) h :=
  alike_fs (by simp [LIM]; omega) fun f hf => by have := h2 f hf; simp [LIM]; omega
theorem max_len {B M : List Fc} (hM : MaxOf B M) {n : Nat} (hB : B.length ≤ n) : M.length ≤ n :=
  Nat.le_trans (nodup_lenF (hM.so.imp fun {a b} (h : a < b) => show a ≠ b from fun e => flt_irrefl b (by rw [e] at h; exact h)) fun x hx => ((hM.m x).mp hx).1) hB
theorem max_f {B M : List Fc} (hM : MaxOf B M) (hB : ∀ f ∈ B, f.length ≤ 5) : ∀ f ∈ M, f.length ≤ 5 := fun f hf => hB f ((hM.m f).mp hf).1
theorem S3 (S : Shp s) (l : env.length = 25) (e2 : env[2]? = some (some (.tup (s.map tI)))) : dS LC m3 env h = .ok (.nx ((env.set 13 (some (.lst ((cs s).map .int)))).set 14 (some (.lst ((lvl s 1).map tI))))) h := by
  have l0 := lvl_few S.gd 0
  have c := corners_comp (h := h) (ctx := LC) (env := env.set 4 none) (k := 4) (s := s) (by rw [List.length_set, l]; decide) (lim31 l0)
  simp [-getElem?_pos, m3, e2, level_ev S.sm, c, l]
theorem S5 (S : Shp s) (l : env.length = 25) (e3 : env[3]? = some (some (.lst ((fa s).map tI)))) (e4 : env[4]? = some (some (tI face))) (hf : face.length ≤ 5) : dS LC m5 env h = .ok (.nx (env.set 5 (some (.lst (((fa s).filter (wit face)).map tI))))) h := by
  have f := filt_comp (h := h) (env := env.set 17 none) (ctx := LC) (i := 17) (wit face) (.call 5 (.cons (.var 4) (.cons (.var 17) .nil))) (ks := fa s) (by rw [List.length_set, l]; decide) (fun x hx => by
    have w := within_ev (h := h) (a := face) (b := x) (by simp [LIM]; omega)
    simp [-getElem?_pos, List.getElem?_set, e4, l, inside_same, w]) (lim31 S.fal)
  simp only [m5, x_asg, x_comp, x_lkv, lock_lst e3, x_lk, x_ex, x_var, e3, R.bind_ok, x_wl, R.of_some, x_w, x_w0, f, x_mkf]
  simp [-getElem?_pos, l]
theorem S6 (S : Shp s) (l : env.length = 25) (e2 : env[2]? = some (some (.tup (s.map tI)))) (e4 : env[4]? = some (some (tI face))) (hf : face.length ≤ 5) (e5 : env[5]? = some (some (.lst (((fa s).filter (wit face)).map tI)))) : dS LC m6 env h = .ok (.nx env) h := by
  have st := star_ev (h := h) S.gd (face := face) (by omega)
  have bl : ((fa s).filter (wit face)).length ≤ 31 := Nat.le_trans (List.length_filter_le _ _) S.fal
  have bf : ∀ f ∈ (fa s).filter (wit face), f ≠ [] ∧ f.length ≤ 5 ∧ f.Pairwise (· < ·) := fun f hf => fa_f S.gd (List.mem_filter.mp hf).1
  obtain ⟨N, n1, n2⟩ := law_max_ev (h := h) (v := .lst (((fa s).filter (wit face)).map tI)) rfl (by omega) bf
  rw [star_eq S n1] at st
  have al := al_fs (h := h) (M := N) (by have := max_len n1 bl; omega) (max_f n1 fun f hf => (bf f hf).2.1)
  simp [-getElem?_pos, m6, e2, e4, e5, st, n2, al]
def restL (s : List Fc) (face : Fc) : List Fc := ((fa s).filter (wit face)).map (minus face)
theorem S7 (S : Shp s) (l : env.length = 25) (e4 : env[4]? = some (some (tI face))) (e5 : env[5]? = some (some (.lst (((fa s).filter (wit face)).map tI)))) : dS LC m7 env h = .ok (.nx (env.set 6 (some (.lst ((restL s face).map tI))))) h := by
  have bl : ((fa s).filter (wit face)).length ≤ 31 := Nat.le_trans (List.length_filter_le _ _) S.fal
  have ot : ∀ {x : List PV}, convop .tuple false (.lst x) h = .ok (.tup x) h := rfl
  have c : compGo (fun _ => true) (tgSet (.nm 17)) (dIfs LC .nil) (dE LC (.conv .tuple false (.comp false [23] (.nm 23) (.ex (.var 17)) (.cons (.cmp .notin (.var 23) (.var 4)) .nil) (.var 23)))) (env.set 17 none) (((fa s).filter (wit face)).map tI) h [] = .ok ((restL s face).map tI) h := by
    rw [comp_map (fun x => tI (minus face x)) rfl _ (fun x hx => ⟨(env.set 17 none).set 17 (some (tI x)), by simp [l], by
      have xl := (fa_f S.gd (List.mem_filter.mp hx).1).2.1
      have q17 : ((env.set 17 none).set 17 (some (tI x)))[17]? = some (some (tI x)) := by simp [l]
      have lk : lockV 17 ((env.set 17 none).set 17 (some (tI x))) h = none := by
        unfold lockV
        rw [q17]
        try rfl
      have mc := minus_comp (h := h) (ctx := LC) (env := (((env.set 17 none).set 17 (some (tI x))).set 23 none)) (i := 23) (j := 4) (f := face) (x := x) (by decide) (by simp [-getElem?_pos, List.getElem?_set, e4]) (by simp [l]) (by simp [LIM]; omega)
      simp only [x_conv, x_comp, x_lkv, lk, x_lk, x_ex, x_var, q17, R.bind_ok, x_wI, R.of_some, x_w, x_w0, mc, x_mkf, ot]
      done⟩) (lim31 bl)]
    try simp [restL, Function.comp_def]
  simp only [m7, x_asg, x_comp, x_lkv, lock_lst e5, x_lk, x_ex, x_var, e5, R.bind_ok, x_wl, R.of_some, x_w, x_w0, c, x_mkf]
  simp [-getElem?_pos, l]
theorem S8 (S : Shp s) (l : env.length = 25) (e2 : env[2]? = some (some (.tup (s.map tI)))) (e4 : env[4]? = some (some (tI face))) (hf : face.length ≤ 5) (e6 : env[6]? = some (some (.lst ((restL s face).map tI)))) : dS LC m8 env h = .ok (.nx env) h := by
  have rl : (restL s face).length ≤ 31 := by
    unfold restL
    rw [List.length_map]
    exact Nat.le_trans (List.length_filter_le _ _) S.fal
  have rf : ∀ f ∈ restL s face, f.length ≤ 5 ∧ f.Pairwise (· < ·) := fun f hf => by
    obtain ⟨y, hy, rfl⟩ := List.mem_map.mp hf
    have := fa_f S.gd (List.mem_filter.mp hy).1
    have h3 : (minus face y).length ≤ y.length := List.length_filter_le _ _
    exact ⟨by omega, this.2.2.filter _⟩
  have bl : ((restL s face).filter fun x => !x.isEmpty).length ≤ 31 := Nat.le_trans (List.length_filter_le _ _) rl
  have bf : ∀ f ∈ (restL s face).filter (fun x => !x.isEmpty), f ≠ [] ∧ f.length ≤ 5 ∧ f.Pairwise (· < ·) := fun f hf => by
    obtain ⟨h1, h2⟩ := List.mem_filter.mp hf
    refine ⟨fun e => by simp [e] at h2, (rf f h1).1, (rf f h1).2⟩
  obtain ⟨M, m1, m2⟩ := link_ev (h := h) S.gd (face := face) (by omega)
  obtain ⟨N, n1, n2⟩ := law_max_ev (h := h) (v := .lst (((restL s face).filter fun x => !x.isEmpty).map tI)) rfl (by omega) bf
  rw [link_eq S m1 n1] at m2
  have al := al_fs (h := h) (M := N) (by have := max_len n1 bl; omega) (max_f n1 fun f hf => (bf f hf).2.1)
  have c : compGo (fun _ => true) (tgSet (.nm 17)) (dIfs LC (.cons (.var 17) .nil)) (dE LC (.var 17)) (env.set 17 none) ((restL s face).map tI) h [] = .ok (((restL s face).filter fun x => !x.isEmpty).map tI) h := by
    rw [comp_enc (fun x : Fc => !x.isEmpty) tI rfl _ _ (fun x hx => ⟨_, by simp [l]; rfl, by simp [l] <;> cases x <;> simp, fun _ => by simp [l]⟩) (by have := lim31 rl; simpa using this)]
    rfl
  simp only [m8, x_ifs, x_T, x_not, x_call, x_cons, x_nil, x_var, e2, e4, R.bind_ok, x_comp, x_lkv, lock_lst e6, x_lk, x_ex, e6, x_wl, R.of_some, x_w, x_w0, c, x_mkf]
  simp [c, m2, n2, al]
end
end K12
namespace K12
open PySem HW
section
variable {h : PHeap} {env : HW.Env} {s : List Fc} {face : Fc}
theorem draw_int {ns : List Int} {t g : PHeap} (b : Bx ns t g) {C : List Int} (hn : C ≠ []) (hl : C.length ≤ 1000) : ∃ d g', Bx ns t g' ∧ s__law_take [.ref 0, .int C.length] g = .ok (.int d) g' ∧ ∃ c ∈ C, ∀ k, itemOf k (.lst (C.map .int)) (.int d) = some (.int c) := by
  have pos := List.length_pos_iff.mpr hn
  obtain ⟨d, g1, d1, d2, b1, e⟩ := take_bx b (many := C.length) (by omega) (by omega)
  obtain ⟨v, v1, v2⟩ := item_mem (g := g1) (xs := C.map .int) d1 (by simpa using d2)
  obtain ⟨c, hc, rfl⟩ := List.mem_map.mp v1
  exact ⟨d, g1, b1, e, c, hc, fun k => v2⟩
theorem draw_face {ns : List Int} {t g : PHeap} (b : Bx ns t g) {C : List Fc} (hn : C ≠ []) (hl : C.length ≤ 1000) : ∃ d g', Bx ns t g' ∧ s__law_take [.ref 0, .int C.length] g = .ok (.int d) g' ∧ ∃ c ∈ C, ∀ k, itemOf k (.lst (C.map tI)) (.int d) = some (tI c) := by
  have pos := List.length_pos_iff.mpr hn
  obtain ⟨d, g1, d1, d2, b1, e⟩ := take_bx b (many := C.length) (by omega) (by omega)
  obtain ⟨v, v1, v2⟩ := item_mem (g := g1) (xs := C.map tI) d1 (by simpa using d2)
  obtain ⟨c, hc, rfl⟩ := List.mem_map.mp v1
  exact ⟨d, g1, b1, e, c, hc, fun k => v2⟩
theorem Shp.fne (S : Shp s) : fa s ≠ [] := by
  obtain ⟨f, hf⟩ := List.exists_mem_of_ne_nil s S.e
  exact List.ne_nil_of_mem (a := f) (mem_fa.mpr (mem_self S.gd hf))
theorem Shp.cne (S : Shp s) : cs s ≠ [] := by
  obtain ⟨f, hf⟩ := List.exists_mem_of_ne_nil s S.e
  obtain ⟨x, hx⟩ := List.exists_mem_of_ne_nil f (S.f f hf).1
  exact List.ne_nil_of_mem (mem_cs.mpr ⟨f, hf, hx⟩)
theorem S4 {ns : List Int} {t : PHeap} (b : Bx ns t h) (S : Shp s) (l : env.length = 25) (e1 : env[1]? = some (some (.ref 0))) (e3 : env[3]? = some (some (.lst ((fa s).map tI)))) : ∃ face h', face ∈ fa s ∧ Bx ns t h' ∧ dS LC m4 env h = .ok (.nx (env.set 4 (some (tI face)))) h' := by
  obtain ⟨d, g, b', q, c, hc, it⟩ := draw_face b S.fne (by have := S.fal; omega)
  refine ⟨c, g, hc, b', ?_⟩
  simp [-getElem?_pos, m4, e1, e3, q, it, l]
theorem S9 {ns : List Int} {t : PHeap} (b : Bx ns t h) (S : Shp s) (l : env.length = 25) (e1 : env[1]? = some (some (.ref 0))) (e13 : env[13]? = some (some (.lst ((cs s).map .int)))) : ∃ c d h', Bx ns t h' ∧ dS LC m9 env h = .ok (.nx ((env.set 15 (some (.int c))).set 16 (some (.int d)))) h' := by
  obtain ⟨d, g, b', q, c, hc, it⟩ := draw_int b S.cne (by have := cs_few S.gd; omega)
  obtain ⟨k, g2, k1, k2, b2, q2⟩ := take_bx b' (many := 4) (by omega) (by omega)
  refine ⟨c, k, g2, b2, ?_⟩
  simp [-getElem?_pos, m9, e1, e13, q, q2, it, l]
theorem S10 (S : Shp s) (l : env.length = 25) (e2 : env[2]? = some (some (.tup (s.map tI)))) (e3 : env[3]? = some (some (.lst ((fa s).map tI)))) {c : Int} (e15 : env[15]? = some (some (.int c))) : dS LC m10 env h = .ok (.nx env) h := by
  have bl : ((fa s).filter fun x => decide (c ∉ x)).length ≤ 31 := Nat.le_trans (List.length_filter_le _ _) S.fal
  have bf : ∀ f ∈ (fa s).filter (fun x => decide (c ∉ x)), f ≠ [] ∧ f.length ≤ 5 ∧ f.Pairwise (· < ·) := fun f hf => fa_f S.gd (List.mem_filter.mp hf).1
  obtain ⟨M, m1, m2⟩ := without_ev (h := h) S.gd c
  obtain ⟨N, n1, n2⟩ := law_max_ev (h := h) (v := .lst (((fa s).filter fun x => decide (c ∉ x)).map tI)) rfl (by omega) bf
  rw [filt_eq _ m1 n1] at m2
  have al := al_fs (h := h) (M := N) (by have := max_len n1 bl; omega) (max_f n1 fun f hf => (bf f hf).2.1)
  have f := filt_comp (h := h) (env := env.set 17 none) (ctx := LC) (i := 17) (fun x => decide (c ∉ x)) (.cmp .notin (.var 15) (.var 17)) (ks := fa s) (by rw [List.length_set, l]; decide) (fun x hx => by
    simp [-getElem?_pos, List.getElem?_set, e15, l, ni_tI]
    try rfl) (lim31 S.fal)
  simp only [m10, x_ifs, x_T, x_not, x_call, x_cons, x_nil, x_var, e2, e15, R.bind_ok, x_comp, x_lkv, lock_lst e3, x_lk, x_ex, e3, x_wl, R.of_some, x_w, x_w0, f, x_mkf]
  simp only [decide_not] at n2
  simp [f, m2, n2, al]
theorem S11 (S : Shp s) (l : env.length = 25) (e2 : env[2]? = some (some (.tup (s.map tI)))) (e3 : env[3]? = some (some (.lst ((fa s).map tI)))) {d : Int} (e16 : env[16]? = some (some (.int d))) : dS LC m11 env h = .ok (.nx env) h := by
  have bl : ((fa s).filter fun x => decide ((x.length : Int) ≤ d + 1)).length ≤ 31 := Nat.le_trans (List.length_filter_le _ _) S.fal
  have bf : ∀ f ∈ (fa s).filter (fun x => decide ((x.length : Int) ≤ d + 1)), f ≠ [] ∧ f.length ≤ 5 ∧ f.Pairwise (· < ·) := fun f hf => fa_f S.gd (List.mem_filter.mp hf).1
  obtain ⟨M, m1, m2⟩ := skeleton_ev (h := h) S.gd d
  obtain ⟨N, n1, n2⟩ := law_max_ev (h := h) (v := .lst (((fa s).filter fun x => decide ((x.length : Int) ≤ d + 1)).map tI)) rfl (by omega) bf
  rw [filt_eq _ m1 n1] at m2
  have al := al_fs (h := h) (M := N) (by have := max_len n1 bl; omega) (max_f n1 fun f hf => (bf f hf).2.1)
  have f := filt_comp (h := h) (env := env.set 17 none) (ctx := LC) (i := 17) (fun x => decide ((x.length : Int) ≤ d + 1)) (.cmp .le (.blt .len (.cons (.var 17) .nil)) (.bin .add (.var 16) (.cst (.int 1)))) (ks := fa s) (by rw [List.length_set, l]; decide) (fun x hx => by
    simp [-getElem?_pos, List.getElem?_set, e16, l]
    try rfl) (lim31 S.fal)
  simp only [m11, x_ifs, x_T, x_not, x_call, x_cons, x_nil, x_var, e2, e16, R.bind_ok, x_comp, x_lkv, lock_lst e3, x_lk, x_ex, e3, x_wl, R.of_some, x_w, x_w0, f, x_mkf]
  simp [f, m2, n2, al]
/-! the two parts *)-/
theorem part_gd (S : Shp s) {T N : List Fc} (hT : ∀ f ∈ T, f ∈ fa s) (hN : MaxOf T N) : Gd N := by
  have hN' : ∀ f ∈ N, f ∈ fa s := fun f hf => hT f ((hN.m f).mp hf).1
  have nl : N.length ≤ 31 := Nat.le_trans (nodup_lenF (hN.so.imp fun {a b} (h : a < b) => show a ≠ b from fun e => flt_irrefl b (by rw [e] at h; exact h)) hN') S.fal
  refine ⟨by omega, fun f hf => ?_, fun f hf => (fa_f S.gd (hN' f hf)).2.2, ?_⟩
  · have := fa_f S.gd (hN' f hf)
    exact ⟨this.1, this.2.1⟩
  · refine Nat.le_trans (nodup_lenF (nodup_allF N) (b := fa s) fun x hx => ?_) S.fal
    obtain ⟨f, f1, f2, f3⟩ := mem_allF.mp hx
    obtain ⟨g, g1, g2, g3⟩ := mem_allF.mp (mem_fa.mp (hN' f f1))
    exact mem_fa.mpr (mem_allF.mpr ⟨g, g1, f2, f3.trans g3⟩)
theorem pick_comp {ns : List Int} {t : PHeap} {env : HW.Env} (S : Shp s) (e1 : env[1]? = some (some (.ref 0))) (e3 : env[3]? = some (some (.lst ((fa s).map tI)))) (l : env.length = 25) : ∀ (ks : List Nat) (acc : List PV) (g : PHeap), Bx ns t g → acc.length + ks.length ≤ 1000 →
    ∃ (T : List Fc) (g' : PHeap), T.length = ks.length ∧ (∀ f ∈ T, f ∈ fa s) ∧ Bx ns t g' ∧
      compGo (fun _ => true) (tgSet (.nm 23)) (dIfs LC .nil) (dE LC (.sub (.var 3) (.call 4 (.cons (.var 1) (.cons (.blt .len (.cons (.var 3) .nil)) .nil))))) env (ks.map fun (i : Nat) => PV.int i) g acc = .ok (acc ++ T.map tI) g'
  | [], acc, g, b, _ => ⟨[], g, rfl, by simp, b, by simp [compGo]⟩
  | k :: ks, acc, g, b, hl2 => by
    simp only [List.length_cons] at hl2
    obtain ⟨d, g1, b1, e, f, hf, it⟩ := draw_face b S.fne (by have := S.fal; omega)
    obtain ⟨T, g2, t1, t2, b2, q⟩ := pick_comp S e1 e3 l ks (acc ++ [tI f]) g1 b1 (by simp; omega)
    refine ⟨f :: T, g2, by simp [t1], ?_, b2, ?_⟩
    · intro p hp
      rcases List.mem_cons.mp hp with r | r
      · rw [r]
        exact hf
      · exact t2 p r
    · have lim : acc.length < LIM := by simp [LIM]; omega
      rw [List.map_cons]
      simp [-getElem?_pos, compGo, l, List.getElem?_set, e1, e3, e, it, lim]
      rw [q]
      simp
theorem rngV2' {h : PHeap} : rngV (.int 2) h = .ok ((List.range 2).map fun (i : Nat) => PV.int i) h := rngV_nat (n := 2) (by decide)
def m13B : ISs := match m13 with | .for_ _ _ b => b | _ => .nil
theorem part_turn {ns : List Int} {P : List PV} (hP : P.length ≤ 5) (b : Bx ns [.lst P] h) (S : Shp s) (l : env.length = 25) (e1 : env[1]? = some (some (.ref 0))) (e3 : env[3]? = some (some (.lst ((fa s).map tI)))) (e7 : env[7]? = some (some (.ref 1))) :
    ∃ N h', Gd N ∧ N.Pairwise (· < ·) ∧ Bx ns [.lst (P ++ [.tup (N.map tI)])] h' ∧ dSs LC m13B env h = .ok (.nx env) h' := by
  obtain ⟨k, g2, k1, k2, b2, q2⟩ := take_bx b (many := 4) (by omega) (by omega)
  obtain ⟨n, hn, hn2⟩ : ∃ n : Nat, 1 + k = n ∧ n ≤ 4 := ⟨(1 + k).toNat, by omega, by omega⟩
  obtain ⟨T, g3, t1, t2, b3, q3⟩ := pick_comp (env := env.set 23 none) S (by simp [-getElem?_pos, List.getElem?_set, e1]) (by simp [-getElem?_pos, List.getElem?_set, e3]) (by simp [l]) (List.range n) [] g2 b2 (by simp; omega)
  have tn : T.length < 64 := by rw [t1]; simp; omega
  obtain ⟨N, n1, n2⟩ := law_max_ev (h := g3) (v := .lst (T.map tI)) rfl tn (fun f hf => fa_f S.gd (t2 f hf))
  obtain ⟨i, left, kk, c1, c2, c3, c4, rfl⟩ := b3
  refine ⟨N, box ns i left kk :: [.lst (P ++ [.tup (N.map tI)])], part_gd S t2 n1, n1.so, ⟨i, left, kk, c1, c2, c3, c4, rfl⟩, ?_⟩
  have rc : ∀ {a b c : Int}, recv .lapp (box ns a b c :: [.lst P]) (.ref 1) = true := rfl
  have rc0 : recv .lapp h (.ref 1) = true := by
    obtain ⟨i, left, kk, c1, c2, c3, c4, rfl⟩ := b
    rfl
  have ap : methop .lapp (.ref 1) [.tup (N.map tI)] (box ns i left kk :: [.lst P]) = .ok .non (box ns i left kk :: [.lst (P ++ [.tup (N.map tI)])]) := by
    have : P.length < LIM := by simp [LIM]; omega
    simp [methop, mApp, asList, this]
  simp -implicitDefEqProofs [-getElem?_pos, m13B, m13, e7, e1, rc0, q2, hn, rngV_nat (show n ≤ 16777216 by omega)]
  rw [q3]
  simp -implicitDefEqProofs [n2, ap]
end
end K12
namespace K12
open PySem HW
theorem fd_wlen {nb : Int → List Int} (i : Int) : ∀ (t : Nat), ∀ w ∈ fd nb i t, w.length ≤ t + 1
  | 0, w, h => by
    simp [fd] at h
    simp [h]
  | t + 1, w, h => by
    rw [fd] at h
    rcases List.mem_append.mp h with q | q
    · have := fd_wlen i t w q
      omega
    · have := lv_len i (t + 1) w (ddl_sub _ _ w q)
      omega
theorem reach_few {V : List Int} {E : List Fc} (ok : EOk V E) {i : Int} (hi : i ∈ V) : (reach E i).length ≤ 6 := by
  unfold reach
  rw [(List.mergeSort_perm _ _).length_eq, List.length_map]
  exact fd_len ok.vl (nbs_in ok) hi 5
theorem paper_good {V : List Int} {E : List Fc} (ok : EOk V E) {i : Int} (hi : i ∈ V) (j : Int) : good 40 5 (paperV E i j) = true ∧ ∀ h, s__law_alike [paperV E i j, paperV E i j] h = .ok (.bl true) h := by
  have gI : ∀ f : Fc, f.length ≤ 6 → good 40 4 (tI f) = true := fun f hf => good_tup (by simp; omega) fun y hy => by
    obtain ⟨k, _, rfl⟩ := List.mem_map.mp hy
    exact good_int _ _ _
  unfold paperV
  cases hw : way (nbs E) i j with
  | some w =>
    have wl := fd_wlen i 5 w (way_mem hw).1
    refine ⟨good_tup (by simp) fun x hx => ?_, fun h => alike_way (by decide +kernel) (by simp [LIM]; omega)⟩
    simp only [List.mem_cons, List.not_mem_nil, or_false] at hx
    rcases hx with r | r <;> rw [r]
    · exact good_str _ _ (by decide +kernel)
    · exact gI w (by omega)
  | none =>
    have wl := reach_few ok hi
    refine ⟨good_tup (by simp) fun x hx => ?_, fun h => alike_way (by decide +kernel) (by simp [LIM]; omega)⟩
    simp only [List.mem_cons, List.not_mem_nil, or_false] at hx
    rcases hx with r | r <;> rw [r]
    · exact good_str _ _ (by decide +kernel)
    · exact gI _ wl
section
variable {h : PHeap} {env : HW.Env} {s p q : List Fc} {face : Fc}
theorem idx_ev {C : List Int} {c : Int} (hc : c ∈ C) : methop .lidx (.lst (C.map .int)) [.int c] h = .ok (.int ((C.idxOf c : Nat) : Int)) h := by
  have h1 : SeqAt.shaped (.int c) = true := shaped_of (n := 0) (by omega) (v := .int c) rfl rfl
  have h2 : SeqAt.shaped (.list (C.map .int)) = true := shaped_of (n := 1) (by omega) (v := .lst (C.map .int)) (by rw [tame]; exact tame_ints 0 C) (by rw [toD, toD_ints]; rfl)
  have fi : ∀ C : List Int, c ∈ C → (C.map PyData.int).findIdx? (fun e => PyData.eqv e (.int c)) = some (C.idxOf c) := by
    intro C
    induction C with
    | nil => intro h; cases h
    | cons a C ih =>
      intro hc
      rw [List.map_cons, List.findIdx?_cons, List.idxOf_cons]
      by_cases e : a = c
      · subst e
        simp [PyData.eqv]
      · have : (a == c) = false := by simpa using e
        rcases List.mem_cons.mp hc with r | r
        · exact absurd r.symm e
        · have e2 : PyData.eqv (.int a) (.int c) = false := by simp [PyData.eqv, e]
          rw [e2, ih r]
          simp [this]
  have d : toDs (C.map PV.int) = some (C.map .int) := toD_ints C
  have r : toD (res h (.int c)) = some (.int c) := rfl
  simp only [methop, mIdx, asList, d, r, h1, h2, Bool.and_self, if_true, fi C hc]
theorem it_parts {ns : List Int} {x y : PV} (b : Bx ns [.lst [x, y]] h) : itemOf h (.ref 1) (.int 0) = some x ∧ itemOf h (.ref 1) (.int 1) = some y := by
  obtain ⟨i, left, k, _, _, _, _, rfl⟩ := b
  exact ⟨L2.atI_nat (j := 0) rfl, L2.atI_nat (j := 1) rfl⟩
/-- what the later statements know *)-/
structure PQ (ns : List Int) (env : HW.Env) (h : PHeap) (p q : List Fc) : Prop where
  l : env.length = 25
  b : Bx ns [.lst [.tup (p.map tI), .tup (q.map tI)]] h
  e7 : env[7]? = some (some (.ref 1))
  gp : Gd p
  gq : Gd q
theorem PQ.set {ns : List Int} (P : PQ ns env h p q) {i : Nat} (v : Option PV) (hi : i ≠ 7) : PQ ns (env.set i v) h p q := ⟨by rw [List.length_set, P.l], P.b, by rw [List.getElem?_set_ne hi, P.e7], P.gp, P.gq⟩
theorem S14 {ns : List Int} (P : PQ ns env h p q) : dS LC m14 env h = .ok (.nx ((env.set 17 (some (.lst ((fa p).map tI)))).set 18 (some (.lst ((fa q).map tI))))) h := by
  have f1 := law_faces_ev (h := h) P.gp.sm
  have f2 := law_faces_ev (h := h) P.gq.sm
  obtain ⟨i1, i2⟩ := it_parts P.b
  simp [-getElem?_pos, m14, P.e7, i1, i2, f1, f2, P.l]
  rfl
theorem S15 {ns : List Int} (P : PQ ns env h p q) (e17 : env[17]? = some (some (.lst ((fa p).map tI)))) (e18 : env[18]? = some (some (.lst ((fa q).map tI)))) : dS LC m15 env h = .ok (.nx env) h := by
  have bl : ((fa p).filter fun x => decide (x ∈ fa q)).length ≤ 31 := Nat.le_trans (List.length_filter_le _ _) P.gp.fal
  have bf : ∀ f ∈ (fa p).filter (fun x => decide (x ∈ fa q)), f ≠ [] ∧ f.length ≤ 5 ∧ f.Pairwise (· < ·) := fun f hf => fa_f P.gp (List.mem_filter.mp hf).1
  obtain ⟨M, m1, m2⟩ := both_ev (h := h) P.gp P.gq
  obtain ⟨N, n1, n2⟩ := law_max_ev (h := h) (v := .lst (((fa p).filter fun x => decide (x ∈ fa q)).map tI)) rfl (by omega) bf
  have pe : (fun x => decide (x ∈ allF q)) = fun x => decide (x ∈ fa q) := by
    funext x
    exact decide_eq_decide.mpr mem_fa.symm
  rw [pe] at m1
  rw [filt_eq _ m1 n1] at m2
  have al := al_fs (h := h) (M := N) (by have := max_len n1 bl; omega) (max_f n1 fun f hf => (bf f hf).2.1)
  have f := filt_comp (h := h) (env := env.set 24 none) (ctx := LC) (i := 24) (fun x => decide (x ∈ fa q)) (.cmp .isin (.var 24) (.var 18)) (ks := fa p) (by rw [List.length_set, P.l]; decide) (fun x hx => by
    simp [-getElem?_pos, List.getElem?_set, e18, P.l, in_tIs]) (lim31 P.gp.fal)
  obtain ⟨i1, i2⟩ := it_parts P.b
  simp only [m15, x_ifs, x_T, x_not, x_call, x_cons, x_nil, x_sub, x_cst, x_var, P.e7, i1, i2, R.bind_ok, x_comp, x_lkv, lock_lst e17, x_lk, x_ex, e17, x_wl, R.of_some, x_w, x_w0, f, x_mkf]
  simp [f, m2, n2, al]
theorem S16 {ns : List Int} (P : PQ ns env h p q) (e17 : env[17]? = some (some (.lst ((fa p).map tI)))) (e18 : env[18]? = some (some (.lst ((fa q).map tI)))) : dS LC m16 env h = .ok (.nx env) h := by
  have l1 := P.gp.fal
  have l2 := P.gq.fal
  have bl : (fa p ++ fa q).length ≤ 62 := by rw [List.length_append]; omega
  have bf : ∀ f ∈ fa p ++ fa q, f ≠ [] ∧ f.length ≤ 5 ∧ f.Pairwise (· < ·) := fun f hf => (List.mem_append.mp hf).elim (fa_f P.gp) (fa_f P.gq)
  obtain ⟨M, m1, m2⟩ := either_ev (h := h) P.gp P.gq
  obtain ⟨N, n1, n2⟩ := law_max_ev (h := h) (v := .lst ((fa p ++ fa q).map tI)) rfl (by omega) bf
  rw [either_eq P.gp P.gq m1 n1] at m2
  have al := al_fs (h := h) (M := N) (by have := max_len n1 bl; omega) (max_f n1 fun f hf => (bf f hf).2.1)
  obtain ⟨i1, i2⟩ := it_parts P.b
  have ad : binop .add (.lst ((fa p).map tI)) (.lst ((fa q).map tI)) h = some (.lst ((fa p ++ fa q).map tI)) := by
    rw [x_addl (by simp [LIM]; omega), List.map_append]
  simp only [m16, x_ifs, x_T, x_not, x_call, x_cons, x_nil, x_sub, x_cst, x_var, P.e7, i1, i2, R.bind_ok, x_bin, e17, e18, R.of_some, ad]
  simp [-List.map_append, m2, e17, e18, ad, n2, al]
theorem S17 {ns : List Int} (P : PQ ns env h p q) (e17 : env[17]? = some (some (.lst ((fa p).map tI)))) : dS LC m17 env h = .ok (.nx (env.set 9 (some (.lst ((cs p).map .int))))) h := by
  have c : compGo (fun _ => true) (tgSet (.nm 24)) (dIfs LC (.cons (.cmp .eq (.blt .len (.cons (.var 24) .nil)) (.cst (.int 1))) .nil)) (dE LC (.sub (.var 24) (.cst (.int 0)))) (env.set 24 none) ((fa p).map tI) h [] = .ok ((cs p).map .int) h := by
    rw [comp_enc (fun f : Fc => decide ((f.length : Int) = 0 + 1)) (fun f : Fc => .int (f.headD 0)) rfl _ _ (fun f hf => ⟨(env.set 24 none).set 24 (some (tI f)), by simp [P.l], by simp [P.l, eq_int], fun hp => by
      have hp := of_decide_eq_true hp
      obtain ⟨x, rfl⟩ := List.length_eq_one_iff.mp (show f.length = 1 by omega)
      have : itemOf h (tI [x]) (.int 0) = some (.int x) := x_it0
      simp [P.l, this]⟩) (by have := lim31 P.gp.fal; simpa using this), ← lcs_eq, List.map_map]
    rfl
  have st := set_ints (h := h) (v := .lst ((cs p).map .int)) rfl (by have := cs_few P.gp; omega) (cs_lt p) fun k => Iff.rfl
  simp only [m17, x_asg, x_conv, x_comp, x_lkv, lock_lst e17, x_lk, x_ex, x_var, e17, R.bind_ok, x_wl, R.of_some, x_w, x_w0, c, x_mkf, st]
  simp [-getElem?_pos, P.l]
theorem S18 {ns : List Int} (P : PQ ns env h p q) (e9 : env[9]? = some (some (.lst ((cs p).map .int)))) : dS LC m18 env h = .ok (.nx (env.set 10 (some (.tup ((newP p).map tI))))) h := by
  have n := P.gp.n
  have ot : ∀ {x : List PV}, convop .tuple false (.lst x) h = .ok (.tup x) h := rfl
  have rc : recv .lidx h (.lst ((cs p).map .int)) = true := rfl
  obtain ⟨i1, i2⟩ := it_parts P.b
  have oc : compGo (fun _ => true) (tgSet (.nm 24)) (dIfs LC .nil) (dE LC (.conv .tuple false (.comp false [23] (.nm 23) (.ex (.var 24)) .nil (.meth .lidx (.var 9) (.cons (.var 23) .nil))))) (env.set 24 none) (p.map tI) h [] = .ok ((p.map (renum (cs p))).map tI) h := by
    rw [comp_map (fun f => tI (renum (cs p) f)) rfl _ (fun f hf => ⟨(env.set 24 none).set 24 (some (tI f)), by simp [P.l], by
      have fl := (P.gp.f f hf).2
      have q24 : ((env.set 24 none).set 24 (some (tI f)))[24]? = some (some (tI f)) := by simp [P.l]
      have lk : lockV 24 ((env.set 24 none).set 24 (some (tI f))) h = none := by
        unfold lockV
        rw [q24]
        try rfl
      have ic : compGo (fun _ => true) (tgSet (.nm 23)) (dIfs LC .nil) (dE LC (.meth .lidx (.var 9) (.cons (.var 23) .nil))) (((env.set 24 none).set 24 (some (tI f))).set 23 none) (f.map .int) h [] = .ok ((renum (cs p) f).map .int) h := by
        rw [comp_map (fun c : Int => .int (((cs p).idxOf c : Nat) : Int)) rfl _ (fun c hc => ⟨(((env.set 24 none).set 24 (some (tI f))).set 23 none).set 23 (some (.int c)), by simp [P.l], by
          have q9 : ((((env.set 24 none).set 24 (some (tI f))).set 23 none).set 23 (some (.int c)))[9]? = some (some (.lst ((cs p).map .int))) := by
            simp [-getElem?_pos, List.getElem?_set, e9]
          have q23 : ((((env.set 24 none).set 24 (some (tI f))).set 23 none).set 23 (some (.int c)))[23]? = some (some (.int c)) := by
            simp [P.l]
          simp only [x_meth, x_var, q9, q23, R.bind_ok, rc, if_true, x_cons, x_nil, idx_ev (h := h) (mem_cs.mpr ⟨f, hf, hc⟩)]⟩) (by simp [LIM]; omega)]
        simp [renum, Function.comp_def]
      simp only [x_conv, x_comp, x_lkv, lk, x_lk, x_ex, x_var, q24, R.bind_ok, x_wI, R.of_some, x_w, x_w0, ic, x_mkf, ot]
      try rfl⟩) (by simp [LIM]; omega)]
    simp [Function.comp_def]
  have lk : lockI (.ex (.sub (.var 7) (.cst (.int 0)))) env h = none := rfl
  simp only [m18, x_asg, x_conv, x_comp, lk, x_lk, x_ex, x_sub, x_var, x_cst, P.e7, i1, R.bind_ok, x_wt, R.of_some, x_w, x_w0, oc, x_mkf, sort_new P.gp, ot]
  simp [-getElem?_pos, P.l]
theorem S19 {ns : List Int} (P : PQ ns env h p q) (e9 : env[9]? = some (some (.lst ((cs p).map .int)))) (e10 : env[10]? = some (some (.tup ((newP p).map tI)))) : dS LC m19 env h = .ok (.nx env) h := by
  have n := P.gp.n
  have c := cs_few P.gp
  have mk := made_of_ev (h := h) P.gp
  obtain ⟨i1, i2⟩ := it_parts P.b
  have ot : convop .tuple false (.lst ((cs p).map .int)) h = .ok (tI (cs p)) h := rfl
  have al := alike_two (h := h) (ks := newP p) (C := cs p) (by rw [newP_len]; simp [LIM]; omega) (fun f hf => by have := newP_f P.gp f hf; simp [LIM]; omega) (lim31 c)
  simp [-getElem?_pos, m19, P.e7, i1, mk, e9, e10, ot, al]
theorem S20 {ns : List Int} {t : PHeap} (b : Bx ns t h) (S : Shp s) (l : env.length = 25) (e1 : env[1]? = some (some (.ref 0))) (e13 : env[13]? = some (some (.lst ((cs s).map .int)))) : ∃ i j h', i ∈ cs s ∧ j ∈ cs s ∧ Bx ns t h' ∧ dS LC m20 env h = .ok (.nx ((env.set 19 (some (.int i))).set 20 (some (.int j)))) h' := by
  have cl := cs_few S.gd
  obtain ⟨d, g, b', q, c, hc, it⟩ := draw_int b S.cne (by omega)
  obtain ⟨d2, g2, b2, q2, c2, hc2, it2⟩ := draw_int b' S.cne (by omega)
  refine ⟨c, c2, g2, hc, hc2, b2, ?_⟩
  simp [-getElem?_pos, m20, e1, e13, q, q2, it, it2, l]
end
end K12
namespace K12
open PySem HW
section
variable {h : PHeap} {env : HW.Env} {s : List Fc}
theorem S13 {ns : List Int} (b : Bx ns [.lst []] h) (S : Shp s) (l : env.length = 25) (e1 : env[1]? = some (some (.ref 0))) (e3 : env[3]? = some (some (.lst ((fa s).map tI)))) (e7 : env[7]? = some (some (.ref 1))) :
    ∃ p q env' h', PQ ns env' h' p q ∧ (∀ i, i ≠ 8 → env'[i]? = env[i]?) ∧ dS LC m13 env h = .ok (.nx env') h' := by
  obtain ⟨env', h', r, ⟨P, b', l1, l2⟩, l', k'⟩ := for_inv (enc := fun (i : Nat) => PV.int i) (chk := fun _ => true) (tg := tgSet (.nm 8)) (body := dSs LC m13B) (step := fun (_ : Unit) _ => ())
    (I := fun ts _ e g => (∃ P, Bx ns [.lst P] g ∧ P.length + ts.length = 2 ∧ ∀ x ∈ P, ∃ N, Gd N ∧ x = .tup (N.map tI)) ∧ e.length = 25 ∧ ∀ i, i ≠ 8 → e[i]? = env[i]?) (fun _ _ _ _ _ => rfl) (by
      rintro i ts _ e g ⟨⟨P, b, hl, hP⟩, l, k⟩
      simp only [List.length_cons] at hl
      have g1 : (e.set 8 (some (.int (i : Int))))[1]? = some (some (.ref 0)) := by rw [List.getElem?_set_ne (by decide), k 1 (by decide), e1]
      have g3 : (e.set 8 (some (.int (i : Int))))[3]? = some (some (.lst ((fa s).map tI))) := by rw [List.getElem?_set_ne (by decide), k 3 (by decide), e3]
      have g7 : (e.set 8 (some (.int (i : Int))))[7]? = some (some (.ref 1)) := by rw [List.getElem?_set_ne (by decide), k 7 (by decide), e7]
      obtain ⟨N, h', n1, n2, b', r⟩ := part_turn (P := P) (by omega) b S (env := e.set 8 (some (.int (i : Int)))) (by rw [List.length_set, l]) g1 g3 g7
      refine ⟨e.set 8 (some (.int (i : Int))), by simp [l], _, h', r, ⟨_, b', by simp; omega, ?_⟩, by rw [List.length_set, l], fun j hj => by rw [List.getElem?_set_ne (Ne.symm hj), k j hj]⟩
      intro x hx
      rcases List.mem_append.mp hx with q | q
      · exact hP x q
      · exact ⟨N, n1, List.mem_singleton.mp q⟩) (List.range 2) () env h ⟨⟨[], b, by simp, by simp⟩, l, fun _ _ => rfl⟩
  match P, l1 with
  | [x, y], _ =>
    obtain ⟨p, gp, rfl⟩ := l2 x (by simp)
    obtain ⟨q, gq, rfl⟩ := l2 y (by simp)
    refine ⟨p, q, env', h', ⟨l', b', by rw [k' 7 (by decide), e7], gp, gq⟩, k', ?_⟩
    have m : m13 = .for_ (.nm 8) (.rng1 (.cst (.int 2))) m13B := rfl
    simp only [m, x_for, x_lkr, x_lk, x_rng1, x_cst, R.bind_ok, rngV2', r]
theorem S21 (S : Shp s) (l : env.length = 25) (e2 : env[2]? = some (some (.tup (s.map tI)))) {i j : Int} (hi : i ∈ cs s) (e19 : env[19]? = some (some (.int i))) (e20 : env[20]? = some (some (.int j))) : dS LC m21 env h = .ok (.nx (env.set 11 (some (paperV (lvl s 1) i j)))) h := by
  have w := way_paper_ev (h := h) S hi (j := j)
  simp [-getElem?_pos, m21, e2, e19, e20, w, l]
theorem S22 (S : Shp s) (l : env.length = 25) {i j : Int} (hi : i ∈ cs s) (e14 : env[14]? = some (some (.lst ((lvl s 1).map tI)))) (e19 : env[19]? = some (some (.int i))) (e20 : env[20]? = some (some (.int j))) (e11 : env[11]? = some (some (paperV (lvl s 1) i j))) : dS LC m22 env h = .ok (.nx env) h := by
  have w := law_way_ev (h := h) S.eok hi (j := j)
  have al := (paper_good S.eok hi j).2 h
  simp [-getElem?_pos, m22, e14, e19, e20, e11, w, al]
def m23B : ISs := match m23 with | .for_ _ _ b => b | _ => .nil
theorem is_bool {v : Bool} : bltop (.isi "bool") [.bl v] h = some (.bl true) := rfl
theorem bend_turn {ns : List Int} {t : PHeap} (b : Bx ns t h) (S : Shp s) (l : env.length = 25) (e1 : env[1]? = some (some (.ref 0))) (e2 : env[2]? = some (some (.tup (s.map tI)))) {i j k : Int} (hi : i ∈ cs s) (e19 : env[19]? = some (some (.int i))) (e20 : env[20]? = some (some (.int j))) (e11 : env[11]? = some (some (paperV (lvl s 1) i j))) (e8 : env[8]? = some (some (.int k))) :
    ∃ v w h', Bx ns t h' ∧ dSs LC m23B env h = .ok (.nx ((env.set 21 v).set 22 w)) h' := by
  obtain ⟨v, g, hv, b', r⟩ := bent_ev (turn := k) (by omega) (by omega) (paper_good S.eok hi j).1 b
  obtain ⟨c, w1, w2⟩ := way_both (h := g) S (i := i) (j := j) (by omega) hv
  refine ⟨some v, some (.bl c), g, b', ?_⟩
  simp [-getElem?_pos, m23B, m23, e1, e11, e8, r, l, List.getElem?_set, e2, e19, e20, w1, w2, is_bool, eq_bool]
theorem rngV7 : rngV (.int 7) h = .ok ((List.range 7).map fun (i : Nat) => PV.int i) h := rngV_nat (n := 7) (by decide)
theorem S23 {ns : List Int} {t : PHeap} (b : Bx ns t h) (S : Shp s) (l : env.length = 25) (e1 : env[1]? = some (some (.ref 0))) (e2 : env[2]? = some (some (.tup (s.map tI)))) {i j : Int} (hi : i ∈ cs s) (e19 : env[19]? = some (some (.int i))) (e20 : env[20]? = some (some (.int j))) (e11 : env[11]? = some (some (paperV (lvl s 1) i j))) :
    ∃ env' h', Bx ns t h' ∧ env'.length = 25 ∧ (∀ i, i ≠ 8 → i ≠ 21 → i ≠ 22 → env'[i]? = env[i]?) ∧ dS LC m23 env h = .ok (.nx env') h' := by
  obtain ⟨env', h', r, b', l', k'⟩ := for_inv (enc := fun (i : Nat) => PV.int i) (chk := fun _ => true) (tg := tgSet (.nm 8)) (body := dSs LC m23B) (step := fun (_ : Unit) _ => ())
    (I := fun ts _ e g => Bx ns t g ∧ e.length = 25 ∧ ∀ i, i ≠ 8 → i ≠ 21 → i ≠ 22 → e[i]? = env[i]?) (fun _ _ _ _ _ => rfl) (by
      rintro n ts _ e g ⟨b, l, k⟩
      have gg : ∀ m, m ≠ 8 → m ≠ 21 → m ≠ 22 → (e.set 8 (some (.int (n : Int))))[m]? = env[m]? := fun m h1 h2 h3 => by rw [List.getElem?_set_ne (Ne.symm h1), k m h1 h2 h3]
      obtain ⟨v, w, h', b', r⟩ := bend_turn b S (env := e.set 8 (some (.int (n : Int)))) (k := n) (by rw [List.length_set, l]) (by rw [gg 1 (by decide) (by decide) (by decide), e1]) (by rw [gg 2 (by decide) (by decide) (by decide), e2]) hi (by rw [gg 19 (by decide) (by decide) (by decide), e19]) (by rw [gg 20 (by decide) (by decide) (by decide), e20]) (by rw [gg 11 (by decide) (by decide) (by decide), e11]) (by rw [List.getElem?_set_self (by omega)])
      refine ⟨e.set 8 (some (.int (n : Int))), by simp [l], _, h', r, b', by simp [l], fun m h1 h2 h3 => ?_⟩
      rw [List.getElem?_set_ne (Ne.symm h3), List.getElem?_set_ne (Ne.symm h2), gg m h1 h2 h3]) (List.range 7) () env h ⟨b, l, fun _ _ _ _ => rfl⟩
  refine ⟨env', h', b', l', k', ?_⟩
  have m : m23 = .for_ (.nm 8) (.rng1 (.cst (.int 7))) m23B := rfl
  simp only [m, x_for, x_lkr, x_lk, x_rng1, x_cst, R.bind_ok, rngV7, r]
theorem paper_out {V : List Int} {E : List Fc} (ok : EOk V E) {k j : Int} (hk : k ∈ V) (hj : 12 ≤ j) : paperV E k j = .tup [.str sApart, tI (reach E k)] := by
  have hw : way (nbs E) k j = none := way_none.mpr fun q => by
    have := ok.v j (few ok.vl (nbs_in ok) hk 5 j q)
    omega
  simp only [paperV, hw]
theorem paper99 {V : List Int} {E : List Fc} (ok : EOk V E) {k : Int} (hk : k ∈ V) : paperV E k 99 = .tup [.str sApart, tI (reach E k)] := paper_out ok hk (by decide)
theorem S24 (S : Shp s) (l : env.length = 25) (e13 : env[13]? = some (some (.lst ((cs s).map .int)))) (e14 : env[14]? = some (some (.lst ((lvl s 1).map tI)))) : dS LC m24 env h = .ok (.nx (env.set 12 (some (.lst (((cs s).map (reach (lvl s 1))).map tI))))) h := by
  have cl := cs_few S.gd
  have c : compGo (fun _ => true) (tgSet (.nm 23)) (dIfs LC .nil) (dE LC (.sub (.call 16 (.cons (.var 14) (.cons (.var 23) (.cons (.cst (.int 99)) .nil)))) (.cst (.int 1)))) (env.set 23 none) ((cs s).map .int) h [] = .ok (((cs s).map (reach (lvl s 1))).map tI) h := by
    rw [comp_map (fun k : Int => tI (reach (lvl s 1) k)) rfl _ (fun k hk => ⟨(env.set 23 none).set 23 (some (.int k)), by simp [l], by
      have w := law_way_ev (h := h) S.eok hk (j := 99)
      rw [paper99 S.eok hk] at w
      simp [-getElem?_pos, List.getElem?_set, l, e14, w, x_it1]⟩) (lim31 cl)]
    simp [Function.comp_def]
  simp only [m24, x_asg, x_comp, x_lkv, lock_lst e13, x_lk, x_ex, x_var, e13, R.bind_ok, x_wl, R.of_some, x_w, x_w0, c, x_mkf]
  simp [-getElem?_pos, l]
theorem S25 (S : Shp s) (l : env.length = 25) (e2 : env[2]? = some (some (.tup (s.map tI)))) (e12 : env[12]? = some (some (.lst (((cs s).map (reach (lvl s 1))).map tI)))) : dS LC m25 env h = .ok (.rt (.bl true)) h := by
  have ok := S.eok
  have po := parts_of_ev (h := h) S
  have ot : ∀ {x : List PV}, convop .tuple false (.lst x) h = .ok (.tup x) h := rfl
  have pl : (partsF (cs s) (lvl s 1)).length ≤ 6 := Nat.le_trans (nodup_lenF ((partsF_lt _ _).imp fun {a b} (h : a < b) => show a ≠ b from fun e => flt_irrefl b (by rw [e] at h; exact h)) fun x hx => mem_partsF.mp hx) (by rw [List.length_map]; exact ok.vl)
  have pf : ∀ f ∈ partsF (cs s) (lvl s 1), f.length ≤ 6 := fun f hf => by
    obtain ⟨k, hk, rfl⟩ := List.mem_map.mp (mem_partsF.mp hf)
    exact reach_few ok hk
  have st := set_faces (h := h) (v := .lst (((cs s).map (reach (lvl s 1))).map tI)) (f := (cs s).map (reach (lvl s 1))) rfl (by rw [List.length_map]; have := ok.vl; omega) (fun x hx => by
    obtain ⟨k, _, rfl⟩ := List.mem_map.mp hx
    exact reach_ne _ _) (partsF_lt (cs s) (lvl s 1)) fun k => mem_partsF
  have al := alike_fs (h := h) (ks := partsF (cs s) (lvl s 1)) (by simp [LIM]; omega) fun f hf => by have := pf f hf; simp [LIM]; omega
  simp only [m25, x_ret, x_call, x_cons, x_nil, x_var, e2, R.bind_ok, lc20, lc6]
  simp [-List.map_map, po, e12, st, ot, al]
end
/-- what stays known *)-/
structure Kn (env : HW.Env) (s : List Fc) : Prop where
  l : env.length = 25
  e1 : env[1]? = some (some (.ref 0))
  e2 : env[2]? = some (some (.tup (s.map tI)))
  e3 : env[3]? = some (some (.lst ((fa s).map tI)))
  e13 : env[13]? = some (some (.lst ((cs s).map .int)))
  e14 : env[14]? = some (some (.lst ((lvl s 1).map tI)))
theorem Kn.set {env : HW.Env} {s : List Fc} (K : Kn env s) (i : Nat) (v : Option PV) (h : i ≠ 1 ∧ i ≠ 2 ∧ i ≠ 3 ∧ i ≠ 13 ∧ i ≠ 14) : Kn (env.set i v) s :=
  ⟨by rw [List.length_set, K.l], by rw [List.getElem?_set_ne h.1, K.e1], by rw [List.getElem?_set_ne h.2.1, K.e2], by rw [List.getElem?_set_ne h.2.2.1, K.e3], by rw [List.getElem?_set_ne h.2.2.2.1, K.e13], by rw [List.getElem?_set_ne h.2.2.2.2, K.e14]⟩
theorem at_self {env : HW.Env} {i : Nat} (v : Option PV) (l : i < env.length) : (env.set i v)[i]? = some v := List.getElem?_set_self l
theorem at_ne {env : HW.Env} {i j : Nat} {v w : Option PV} (e : env[j]? = some w) (h : i ≠ j) : (env.set i v)[j]? = some w := by rw [List.getElem?_set_ne h, e]
def mR : ISs := (.cons m3 (.cons m4 (.cons m5 (.cons m6 (.cons m7 (.cons m8 (.cons m9 (.cons m10 (.cons m11 (.cons m12 (.cons m13 (.cons m14 (.cons m15 (.cons m16 (.cons m17 (.cons m18 (.cons m19 (.cons m20 (.cons m21 (.cons m22 (.cons m23 (.cons m24 (.cons m25 .nil)))))))))))))))))))))))
theorem math_pre (ns : List Int) (hl : ns.length ≤ 63) : ∃ s g1 env, Shp s ∧ Bx ns [] g1 ∧ dSs LC mB (some (.scr ns) :: List.replicate 24 none) [] = dSs LC mR env g1 ∧ env.length = 25 ∧ env[2]? = some (some (.tup (s.map tI))) ∧ Kn ((env.set 13 (some (.lst ((cs s).map .int)))).set 14 (some (.lst ((lvl s 1).map tI)))) s := by
  have st := start_ev ns hl
  have b0 : Bx ns [] [box ns 0 0 0] := ⟨0, 0, 0, by omega, by omega, by omega, by omega, rfl⟩
  obtain ⟨s, g1, S, b1, sh⟩ := shape_ev b0
  have f := law_faces_ev (h := g1) S.gd.sm
  refine ⟨s, g1, [some (.scr ns), some (.ref 0), some (.tup (s.map tI)), some (.lst ((fa s).map tI)), none, none, none, none, none, none, none, none, none, none, none, none, none, none, none, none, none, none, none, none, none], S, b1, ?_, rfl, rfl, rfl, rfl, rfl, rfl, rfl, rfl⟩
  simp only [mB, x_scons, mR]
  simp -implicitDefEqProofs [m0, m1, m2, st, sh, f, -x_scons, fa]
theorem math_run {ns : List Int} {s : List Fc} {g1 : PHeap} {env : HW.Env} (S : Shp s) (b1 : Bx ns [] g1) (l0 : env.length = 25) (e2 : env[2]? = some (some (.tup (s.map tI)))) (K3 : Kn ((env.set 13 (some (.lst ((cs s).map .int)))).set 14 (some (.lst ((lvl s 1).map tI)))) s) : ∃ g, dSs LC mR env g1 = .ok (.rt (.bl true)) g := by
  have M3 := S3 (h := g1) S l0 e2
  generalize (env.set 13 (some (.lst ((cs s).map .int)))).set 14 (some (.lst ((lvl s 1).map tI))) = env3 at M3 K3
  obtain ⟨face, g4, hf, b4, M4⟩ := S4 b1 S K3.l K3.e1 K3.e3
  have fl := (fa_f S.gd hf).2.1
  have K4 := K3.set 4 (some (tI face)) (by decide)
  have f4 := at_self (some (tI face)) (show 4 < env3.length by rw [K3.l]; decide)
  generalize env3.set 4 (some (tI face)) = env4 at M4 K4 f4
  have M5 := S5 (h := g4) S K4.l K4.e3 f4 fl
  have K5 := K4.set 5 (some (.lst (((fa s).filter (wit face)).map tI))) (by decide)
  have f5 := at_self (some (.lst (((fa s).filter (wit face)).map tI))) (show 5 < env4.length by rw [K4.l]; decide)
  have f4 := at_ne (i := 5) (v := some (.lst (((fa s).filter (wit face)).map tI))) f4 (by decide)
  generalize env4.set 5 (some (.lst (((fa s).filter (wit face)).map tI))) = env5 at M5 K5 f5 f4
  have M6 := S6 (h := g4) S K5.l K5.e2 f4 fl f5
  have M7 := S7 (h := g4) S K5.l f4 f5
  have K7 := K5.set 6 (some (.lst ((restL s face).map tI))) (by decide)
  have f6 := at_self (some (.lst ((restL s face).map tI))) (show 6 < env5.length by rw [K5.l]; decide)
  have f4 := at_ne (i := 6) (v := some (.lst ((restL s face).map tI))) f4 (by decide)
  generalize env5.set 6 (some (.lst ((restL s face).map tI))) = env7 at M7 K7 f6 f4
  have M8 := S8 (h := g4) S K7.l K7.e2 f4 fl f6
  obtain ⟨c, d, g9, b9, M9⟩ := S9 b4 S K7.l K7.e1 K7.e13
  have K9 := (K7.set 15 (some (.int c)) (by decide)).set 16 (some (.int d)) (by decide)
  have f16 := at_self (env := env7.set 15 (some (.int c))) (i := 16) (some (.int d)) (by rw [List.length_set, K7.l]; decide)
  have f15 := at_ne (i := 16) (v := some (.int d)) (at_self (some (.int c)) (show 15 < env7.length by rw [K7.l]; decide)) (by decide)
  generalize (env7.set 15 (some (.int c))).set 16 (some (.int d)) = env9 at M9 K9 f16 f15
  have M10 := S10 (h := g9) S K9.l K9.e2 K9.e3 f15
  have M11 := S11 (h := g9) S K9.l K9.e2 K9.e3 f16
  have gl : g9.length = 1 := by rw [bx_len b9]; rfl
  have M12 : dS LC m12 env9 g9 = .ok (.nx (env9.set 7 (some (.ref 1)))) (g9 ++ [.lst []]) := by
    simp [-getElem?_pos, m12, K9.l, gl]
  have b12 : Bx ns [.lst []] (g9 ++ [.lst []]) := bx_app (e := [.lst []]) b9
  have K12 := K9.set 7 (some (.ref 1)) (by decide)
  have f7 := at_self (some (.ref 1)) (show 7 < env9.length by rw [K9.l]; decide)
  generalize env9.set 7 (some (.ref 1)) = env12 at M12 K12 f7
  generalize g9 ++ [Cell.lst []] = g12 at M12 b12
  obtain ⟨p, q, env13, g13, P, k13, M13⟩ := S13 b12 S K12.l K12.e1 K12.e3 f7
  have K13 : Kn env13 s := ⟨P.l, by rw [k13 1 (by decide), K12.e1], by rw [k13 2 (by decide), K12.e2], by rw [k13 3 (by decide), K12.e3], by rw [k13 13 (by decide), K12.e13], by rw [k13 14 (by decide), K12.e14]⟩
  have M14 := S14 P
  have K14 := (K13.set 17 (some (.lst ((fa p).map tI))) (by decide)).set 18 (some (.lst ((fa q).map tI))) (by decide)
  have P14 := (P.set (i := 17) (some (.lst ((fa p).map tI))) (by decide)).set (i := 18) (some (.lst ((fa q).map tI))) (by decide)
  have f18 := at_self (env := env13.set 17 (some (.lst ((fa p).map tI)))) (i := 18) (some (.lst ((fa q).map tI))) (by rw [List.length_set, K13.l]; decide)
  have f17 := at_ne (i := 18) (v := some (.lst ((fa q).map tI))) (at_self (some (.lst ((fa p).map tI))) (show 17 < env13.length by rw [K13.l]; decide)) (by decide)
  generalize (env13.set 17 (some (.lst ((fa p).map tI)))).set 18 (some (.lst ((fa q).map tI))) = env14 at M14 K14 P14 f18 f17
  have M15 := S15 P14 f17 f18
  have M16 := S16 P14 f17 f18
  have M17 := S17 P14 f17
  have K17 := K14.set 9 (some (.lst ((cs p).map .int))) (by decide)
  have P17 := P14.set (i := 9) (some (.lst ((cs p).map .int))) (by decide)
  have f9 := at_self (some (.lst ((cs p).map .int))) (show 9 < env14.length by rw [K14.l]; decide)
  generalize env14.set 9 (some (.lst ((cs p).map .int))) = env17 at M17 K17 P17 f9
  have M18 := S18 P17 f9
  have K18 := K17.set 10 (some (.tup ((newP p).map tI))) (by decide)
  have P18 := P17.set (i := 10) (some (.tup ((newP p).map tI))) (by decide)
  have f10 := at_self (some (.tup ((newP p).map tI))) (show 10 < env17.length by rw [K17.l]; decide)
  have f9 := at_ne (i := 10) (v := some (.tup ((newP p).map tI))) f9 (by decide)
  generalize env17.set 10 (some (.tup ((newP p).map tI))) = env18 at M18 K18 P18 f10 f9
  have M19 := S19 P18 f9 f10
  obtain ⟨i, j, g20, hi, hj, b20, M20⟩ := S20 P18.b S K18.l K18.e1 K18.e13
  have K20 := (K18.set 19 (some (.int i)) (by decide)).set 20 (some (.int j)) (by decide)
  have f20 := at_self (env := env18.set 19 (some (.int i))) (i := 20) (some (.int j)) (by rw [List.length_set, K18.l]; decide)
  have f19 := at_ne (i := 20) (v := some (.int j)) (at_self (some (.int i)) (show 19 < env18.length by rw [K18.l]; decide)) (by decide)
  generalize (env18.set 19 (some (.int i))).set 20 (some (.int j)) = env20 at M20 K20 f20 f19
  have M21 := S21 (h := g20) S K20.l K20.e2 hi f19 f20
  have K21 := K20.set 11 (some (paperV (lvl s 1) i j)) (by decide)
  have f11 := at_self (some (paperV (lvl s 1) i j)) (show 11 < env20.length by rw [K20.l]; decide)
  have f19 := at_ne (i := 11) (v := some (paperV (lvl s 1) i j)) f19 (by decide)
  have f20 := at_ne (i := 11) (v := some (paperV (lvl s 1) i j)) f20 (by decide)
  generalize env20.set 11 (some (paperV (lvl s 1) i j)) = env21 at M21 K21 f11 f19 f20
  have M22 := S22 (h := g20) S K21.l hi K21.e14 f19 f20 f11
  obtain ⟨env23, g23, b23, l23, k23, M23⟩ := S23 b20 S K21.l K21.e1 K21.e2 hi f19 f20 f11
  have K23 : Kn env23 s := ⟨l23, by rw [k23 1 (by decide) (by decide) (by decide), K21.e1], by rw [k23 2 (by decide) (by decide) (by decide), K21.e2], by rw [k23 3 (by decide) (by decide) (by decide), K21.e3], by rw [k23 13 (by decide) (by decide) (by decide), K21.e13], by rw [k23 14 (by decide) (by decide) (by decide), K21.e14]⟩
  have M24 := S24 (h := g23) S K23.l K23.e13 K23.e14
  have K24 := K23.set 12 (some (.lst (((cs s).map (reach (lvl s 1))).map tI))) (by decide)
  have f12 := at_self (some (.lst (((cs s).map (reach (lvl s 1))).map tI))) (show 12 < env23.length by rw [K23.l]; decide)
  generalize env23.set 12 (some (.lst (((cs s).map (reach (lvl s 1))).map tI))) = env24 at M24 K24 f12
  have M25 := S25 (h := g23) S K24.l K24.e2 f12
  refine ⟨g23, ?_⟩
  simp -implicitDefEqProofs only [mR, x_scons, M3, M4, M5, M6, M7, M8, M9, M10, M11, M12, M13, M14, M15, M16, M17, M18, M19, M20, M21, M22, M23, M24, M25, R.bind_ok]
theorem math (ns : List Int) (hl : ns.length ≤ 63) (_ : ∀ z ∈ ns, Builtin.Int.intBits z ≤ 1048576) : ∃ h, s_law [.scr ns] [] = .ok (.bl true) h := by
  obtain ⟨s, g1, env, S, b1, q1, l0, e2, K3⟩ := math_pre ns hl
  obtain ⟨g, q2⟩ := math_run S b1 l0 e2 K3
  refine ⟨[], ?_⟩
  rw [s_law_eq]
  show (dSs LC mB (some (.scr ns) :: List.replicate 24 none) []).bind _ = _
  rw [q1, q2]
  have := finish_ext (h := []) (t := g) (v := .bl true) rfl
  simpa using this
end K12
namespace K12
open PySem PySem.Spec PyProof.Rows L2 C8 HW
theorem head {P : Program} {w : World} {K : PySem.W.Frag} {mg : Str → Option Value} {fa : Addr} (T : Top K mg) (F : LawAt K mg (topS 45) "script") (hmg : mg "law" = some (.ref fa)) :
    ∃ fd : FuncData, (∀ (s : Shared) (u : Value), BindsTo s fd ⟨[u], []⟩ [("script", u)]) ∧ ∀ base : Heap, K.In base → base.Ns mainGlobals mg → FnOk P w K mg base L2.CX0 11 fa fd ["script"] (spS ⟨P, w, K⟩ 1 s_law) :=
  law_fn (k := 10) (G := ck_law) F hmg T.b (fun base => (.cons ⟨_, (by decide), (c__law_start T)⟩ (.cons ⟨_, (by decide), (c__law_shape T)⟩ (.cons ⟨_, (by decide), (c__law_faces T)⟩ (.cons ⟨_, (by decide), (c__law_level T)⟩ (.cons ⟨_, (by decide), (c__law_take T)⟩ (.cons ⟨_, (by decide), (c__law_inside T)⟩ (.cons ⟨_, (by decide), (c__law_alike T)⟩ (.cons ⟨_, (by decide), (c_star T)⟩ (.cons ⟨_, (by decide), (c__law_greatest T)⟩ (.cons ⟨_, (by decide), (c_link T)⟩ (.cons ⟨_, (by decide), (c_without T)⟩ (.cons ⟨_, (by decide), (c_skeleton T)⟩ (.cons ⟨_, (by decide), (c_both_parts T)⟩ (.cons ⟨_, (by decide), (c_either_part T)⟩ (.cons ⟨_, (by decide), (c_made_of T)⟩ (.cons ⟨_, (by decide), (c_way_paper T)⟩ (.cons ⟨_, (by decide), (c__law_way T)⟩ (.cons ⟨_, (by decide), (c__law_bent T)⟩ (.cons ⟨_, (by decide), (c_judge_way T)⟩ (.cons ⟨_, (by decide), (c__law_is_way T)⟩ (.cons ⟨_, (by decide), (c_parts_of T)⟩ .nil)))))))))))))))))))))) .nil kf_law
theorem blt_none {K : PySem.W.Frag} {mg : Str → Option Value} {h : Heap} (X : K.In h) (G : h.Ns mainGlobals mg) (z0 : PySem.W.nsIn K mainGlobals "len" = some none) (z1 : PySem.W.nsIn K mainGlobals "abs" = some none) (z2 : PySem.W.nsIn K mainGlobals "max" = some none) (z3 : PySem.W.nsIn K mainGlobals "min" = some none) (z4 : PySem.W.nsIn K mainGlobals "int" = some none) (z5 : PySem.W.nsIn K mainGlobals "isinstance" = some none) (z6 : PySem.W.nsIn K mainGlobals "sorted" = some none) (z7 : PySem.W.nsIn K mainGlobals "list" = some none) (z8 : PySem.W.nsIn K mainGlobals "tuple" = some none) (z9 : PySem.W.nsIn K mainGlobals "sum" = some none) (z10 : PySem.W.nsIn K mainGlobals "all" = some none) (z11 : PySem.W.nsIn K mainGlobals "any" = some none) (z12 : PySem.W.nsIn K mainGlobals "dict" = some none) (z13 : PySem.W.nsIn K mainGlobals "set" = some none) (z14 : PySem.W.nsIn K mainGlobals "range" = some none) (z15 : PySem.W.nsIn K mainGlobals "enumerate" = some none) (z16 : PySem.W.nsIn K mainGlobals "zip" = some none) (z17 : PySem.W.nsIn K mainGlobals "bool" = some none) (z18 : PySem.W.nsIn K mainGlobals "str" = some none) : ∀ x ∈ bltNm, mg x = none := by
  simp only [bltNm, List.forall_mem_cons, List.not_mem_nil, false_implies, implies_true, and_true]
  exact ⟨PySem.W.mg_none_of X G z0, PySem.W.mg_none_of X G z1, PySem.W.mg_none_of X G z2, PySem.W.mg_none_of X G z3, PySem.W.mg_none_of X G z4, PySem.W.mg_none_of X G z5, PySem.W.mg_none_of X G z6, PySem.W.mg_none_of X G z7, PySem.W.mg_none_of X G z8, PySem.W.mg_none_of X G z9, PySem.W.mg_none_of X G z10, PySem.W.mg_none_of X G z11, PySem.W.mg_none_of X G z12, PySem.W.mg_none_of X G z13, PySem.W.mg_none_of X G z14, PySem.W.mg_none_of X G z15, PySem.W.mg_none_of X G z16, PySem.W.mg_none_of X G z17, PySem.W.mg_none_of X G z18⟩
end K12
open PySem PySem.W PyProof.Rows
set_option maxHeartbeats 0 in
theorem PySem.Challenge.cw_hollowstead_k12_parts_and_ways_holds : PySem.Challenge.rw_hollowstead_k12_parts_and_ways.Holds := by
  w_on; o_law; k_head; (case hw => w_witness2)
  k_fill
  refine L2.walk_ofB (l := PySem.Challenge.rw_hollowstead_k12_parts_and_ways) (n := 63) (k := 11) (x := "script") (CX := fun _ => L2.CX0) (sp := fun w => HW.spS ⟨(PySem.Challenge.rw_hollowstead_k12_parts_and_ways).prog, w, _⟩ 1 K12.s_law) rfl (by decide) rfl ⟨rfl, by decide, by decide⟩ (fun w h Y => PySem.W.kIn_of Y) ?F (fun _ _ a ns hl hb hO hS => (K12.math ns hl hb).elim fun h m => HW.law_sp hO hS m) (fun _ _ _ _ _ h => h)
  case F =>
    intro w mg fa h KX G hmg
    refine' K12.head ⟨?d0, ?d1, ?d2, ?d3, ?d4, ?d5, ?d6, ?d7, ?d8, ?d9, ?d10, ?d11, ?d12, ?d13, ?d14, ?d15, ?d16, ?d17, ?d18, ?d19, ?d20, ?d21, ?d22, ?d23, ?d24, ?d25, ?d26, ?d27, ?d28, ?d29, ?d30, ?d31, ?d32, ?d33, ?d34, ?d35, ?d36, K12.blt_none KX G ?z0 ?z1 ?z2 ?z3 ?z4 ?z5 ?z6 ?z7 ?z8 ?z9 ?z10 ?z11 ?z12 ?z13 ?z14 ?z15 ?z16 ?z17 ?z18⟩ ?law hmg
    (case z0 => k_is); (case z1 => k_is); (case z2 => k_is); (case z3 => k_is); (case z4 => k_is); (case z5 => k_is); (case z6 => k_is); (case z7 => k_is); (case z8 => k_is); (case z9 => k_is); (case z10 => k_is); (case z11 => k_is); (case z12 => k_is); (case z13 => k_is); (case z14 => k_is); (case z15 => k_is); (case z16 => k_is); (case z17 => k_is); (case z18 => k_is)
    (case d0 => refine' HW.mkDef KX G ?hb ?a ?l ?c ?k; (case hb => exact fun _ _ _ _ _ _ us hl => match us, hl with | [_], _ => rfl); (case a => k_is); (case l => k_is); (case c => k_is); (case k => k_is))
    (case d1 => refine' HW.mkDef KX G ?hb ?a ?l ?c ?k; (case hb => exact fun _ _ _ _ _ _ us hl => match us, hl with | [_], _ => rfl); (case a => k_is); (case l => k_is); (case c => k_is); (case k => k_is))
    (case d2 => refine' HW.mkDef KX G ?hb ?a ?l ?c ?k; (case hb => exact fun _ _ _ _ _ _ us hl => match us, hl with | [_, _], _ => rfl); (case a => k_is); (case l => k_is); (case c => k_is); (case k => k_is))
    (case d3 => refine' HW.mkDef KX G ?hb ?a ?l ?c ?k; (case hb => exact fun _ _ _ _ _ _ us hl => match us, hl with | [_], _ => rfl); (case a => k_is); (case l => k_is); (case c => k_is); (case k => k_is))
    (case d4 => refine' HW.mkDef KX G ?hb ?a ?l ?c ?k; (case hb => exact fun _ _ _ _ _ _ us hl => match us, hl with | [_], _ => rfl); (case a => k_is); (case l => k_is); (case c => k_is); (case k => k_is))
    (case d5 => refine' HW.mkDef KX G ?hb ?a ?l ?c ?k; (case hb => exact fun _ _ _ _ _ _ us hl => match us, hl with | [_], _ => rfl); (case a => k_is); (case l => k_is); (case c => k_is); (case k => k_is))
    (case d6 => refine' HW.mkDef KX G ?hb ?a ?l ?c ?k; (case hb => exact fun _ _ _ _ _ _ us hl => match us, hl with | [_, _], _ => rfl); (case a => k_is); (case l => k_is); (case c => k_is); (case k => k_is))
    (case d7 => refine' HW.mkDef KX G ?hb ?a ?l ?c ?k; (case hb => exact fun _ _ _ _ _ _ us hl => match us, hl with | [_], _ => rfl); (case a => k_is); (case l => k_is); (case c => k_is); (case k => k_is))
    (case d8 => refine' HW.mkDef KX G ?hb ?a ?l ?c ?k; (case hb => exact fun _ _ _ _ _ _ us hl => match us, hl with | [_, _], _ => rfl); (case a => k_is); (case l => k_is); (case c => k_is); (case k => k_is))
    (case d9 => refine' HW.mkDef KX G ?hb ?a ?l ?c ?k; (case hb => exact fun _ _ _ _ _ _ us hl => match us, hl with | [_, _], _ => rfl); (case a => k_is); (case l => k_is); (case c => k_is); (case k => k_is))
    (case d10 => refine' HW.mkDef KX G ?hb ?a ?l ?c ?k; (case hb => exact fun _ _ _ _ _ _ us hl => match us, hl with | [_, _], _ => rfl); (case a => k_is); (case l => k_is); (case c => k_is); (case k => k_is))
    (case d11 => refine' HW.mkDef KX G ?hb ?a ?l ?c ?k; (case hb => exact fun _ _ _ _ _ _ us hl => match us, hl with | [_, _], _ => rfl); (case a => k_is); (case l => k_is); (case c => k_is); (case k => k_is))
    (case d12 => refine' HW.mkDef KX G ?hb ?a ?l ?c ?k; (case hb => exact fun _ _ _ _ _ _ us hl => match us, hl with | [_], _ => rfl); (case a => k_is); (case l => k_is); (case c => k_is); (case k => k_is))
    (case d13 => refine' HW.mkDef KX G ?hb ?a ?l ?c ?k; (case hb => exact fun _ _ _ _ _ _ us hl => match us, hl with | [_, _], _ => rfl); (case a => k_is); (case l => k_is); (case c => k_is); (case k => k_is))
    (case d14 => refine' HW.mkDef KX G ?hb ?a ?l ?c ?k; (case hb => exact fun _ _ _ _ _ _ us hl => match us, hl with | [_, _], _ => rfl); (case a => k_is); (case l => k_is); (case c => k_is); (case k => k_is))
    (case d15 => refine' HW.mkDef KX G ?hb ?a ?l ?c ?k; (case hb => exact fun _ _ _ _ _ _ us hl => match us, hl with | [_], _ => rfl); (case a => k_is); (case l => k_is); (case c => k_is); (case k => k_is))
    (case d16 => refine' HW.mkDef KX G ?hb ?a ?l ?c ?k; (case hb => exact fun _ _ _ _ _ _ us hl => match us, hl with | [_, _], _ => rfl); (case a => k_is); (case l => k_is); (case c => k_is); (case k => k_is))
    (case d17 => refine' HW.mkDef KX G ?hb ?a ?l ?c ?k; (case hb => exact fun _ _ _ _ _ _ us hl => match us, hl with | [_, _, _], _ => rfl); (case a => k_is); (case l => k_is); (case c => k_is); (case k => k_is))
    (case d18 => refine' HW.mkDef KX G ?hb ?a ?l ?c ?k; (case hb => exact fun _ _ _ _ _ _ us hl => match us, hl with | [_, _, _, _], _ => rfl); (case a => k_is); (case l => k_is); (case c => k_is); (case k => k_is))
    (case d19 => refine' HW.mkDef KX G ?hb ?a ?l ?c ?k; (case hb => exact fun _ _ _ _ _ _ us hl => match us, hl with | [_], _ => rfl); (case a => k_is); (case l => k_is); (case c => k_is); (case k => k_is))
    (case d20 => refine' HW.mkDef KX G ?hb ?a ?l ?c ?k; (case hb => exact fun _ _ _ _ _ _ us hl => match us, hl with | [_], _ => rfl); (case a => k_is); (case l => k_is); (case c => k_is); (case k => k_is))
    (case d21 => refine' HW.mkDef KX G ?hb ?a ?l ?c ?k; (case hb => exact fun _ _ _ _ _ _ us hl => match us, hl with | [_], _ => rfl); (case a => k_is); (case l => k_is); (case c => k_is); (case k => k_is))
    (case d22 => refine' HW.mkDef KX G ?hb ?a ?l ?c ?k; (case hb => exact fun _ _ _ _ _ _ us hl => match us, hl with | [_, _], _ => rfl); (case a => k_is); (case l => k_is); (case c => k_is); (case k => k_is))
    (case d23 => refine' HW.mkDef KX G ?hb ?a ?l ?c ?k; (case hb => exact fun _ _ _ _ _ _ us hl => match us, hl with | [_], _ => rfl); (case a => k_is); (case l => k_is); (case c => k_is); (case k => k_is))
    (case d24 => refine' HW.mkDef KX G ?hb ?a ?l ?c ?k; (case hb => exact fun _ _ _ _ _ _ us hl => match us, hl with | [_, _], _ => rfl); (case a => k_is); (case l => k_is); (case c => k_is); (case k => k_is))
    (case d25 => refine' HW.mkDef KX G ?hb ?a ?l ?c ?k; (case hb => exact fun _ _ _ _ _ _ us hl => match us, hl with | [_, _], _ => rfl); (case a => k_is); (case l => k_is); (case c => k_is); (case k => k_is))
    (case d26 => refine' HW.mkDef KX G ?hb ?a ?l ?c ?k; (case hb => exact fun _ _ _ _ _ _ us hl => match us, hl with | [_, _, _], _ => rfl); (case a => k_is); (case l => k_is); (case c => k_is); (case k => k_is))
    (case d27 => refine' HW.mkDef KX G ?hb ?a ?l ?c ?k; (case hb => exact fun _ _ _ _ _ _ us hl => match us, hl with | [_], _ => rfl); (case a => k_is); (case l => k_is); (case c => k_is); (case k => k_is))
    (case d28 => refine' HW.mkDef KX G ?hb ?a ?l ?c ?k; (case hb => exact fun _ _ _ _ _ _ us hl => match us, hl with | [_], _ => rfl); (case a => k_is); (case l => k_is); (case c => k_is); (case k => k_is))
    (case d29 => refine' HW.mkDef KX G ?hb ?a ?l ?c ?k; (case hb => exact fun _ _ _ _ _ _ us hl => match us, hl with | [_, _], _ => rfl); (case a => k_is); (case l => k_is); (case c => k_is); (case k => k_is))
    (case d30 => refine' HW.mkDef KX G ?hb ?a ?l ?c ?k; (case hb => exact fun _ _ _ _ _ _ us hl => match us, hl with | [_, _], _ => rfl); (case a => k_is); (case l => k_is); (case c => k_is); (case k => k_is))
    (case d31 => refine' HW.mkDef KX G ?hb ?a ?l ?c ?k; (case hb => exact fun _ _ _ _ _ _ us hl => match us, hl with | [_], _ => rfl); (case a => k_is); (case l => k_is); (case c => k_is); (case k => k_is))
    (case d32 => refine' HW.mkDef KX G ?hb ?a ?l ?c ?k; (case hb => exact fun _ _ _ _ _ _ us hl => match us, hl with | [], _ => rfl); (case a => k_is); (case l => k_is); (case c => k_is); (case k => k_is))
    (case d33 => refine' HW.mkDef KX G ?hb ?a ?l ?c ?k; (case hb => exact fun _ _ _ _ _ _ us hl => match us, hl with | [_], _ => rfl); (case a => k_is); (case l => k_is); (case c => k_is); (case k => k_is))
    (case d34 => refine' HW.mkDef KX G ?hb ?a ?l ?c ?k; (case hb => exact fun _ _ _ _ _ _ us hl => match us, hl with | [_, _, _], _ => rfl); (case a => k_is); (case l => k_is); (case c => k_is); (case k => k_is))
    (case d35 => refine' HW.mkDef KX G ?hb ?a ?l ?c ?k; (case hb => exact fun _ _ _ _ _ _ us hl => match us, hl with | [_, _, _, _], _ => rfl); (case a => k_is); (case l => k_is); (case c => k_is); (case k => k_is))
    (case d36 => refine' HW.mkDef KX G ?hb ?a ?l ?c ?k; (case hb => exact fun _ _ _ _ _ _ us hl => match us, hl with | [_], _ => rfl); (case a => k_is); (case l => k_is); (case c => k_is); (case k => k_is))
    (case law => refine' HW.mkLaw KX G ?hb ?a ?l ?c ?k; (case hb => exact fun _ _ _ _ _ _ _ => rfl); (case a => k_is); (case l => k_is); (case c => k_is); (case k => k_is))
