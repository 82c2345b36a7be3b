import PyProof.Rows.All
import HandS.ForMost
import HandS.Walk
import HandS.TupAny
import HandS.TupMul
import HandS.Zip
import HandS.TupLen
import HandS.IsInst
import HandS.Wide
import HandS.Flow
import HandS.DictComp
import HandS.DictTup
import HandS.TupSets
import HandS.SetKeys
import HandS.Conv
import HandS.RevTup
import HandS.RevRange
import KE.SortData
import KE.DataCmp
import HandS.Deep
import KE.KeyNested
import KE.KDictKeyed
import KE.KDictWalk
import KE.GoesDict
import Wide.All
import HandS.SetFor
import HandS.Codes
import HandS.Style
import HandS.Ends
import HandS.EndBits
import PySem.Challenge.RW_hollowstead_k10_complexes_and_chains
set_option Elab.async false
set_option linter.all false
set_option autoImplicit false
set_option maxRecDepth 100000
/-! HwA: values, heap, the small language and its evaluator. -/
namespace HW
open PySem

/-- a value of the evaluator: lst, dct, set are never written any more; ref is a cell of the evaluator's heap -/
inductive PV where
  | non | bl (b : Bool) | int (i : Int) | str (s : Str)
  | tup (xs : List PV) | lst (xs : List PV) | dct (es : List (PV × PV)) | scr (ns : List Int) | ref (n : Nat)
  deriving Inhabited

mutual
def PV.beq : PV → PV → Bool
  | .non, .non => true
  | .bl a, .bl b => a == b
  | .int a, .int b => decide (a = b)
  | .str a, .str b => decide (a = b)
  | .tup a, .tup b => PV.beqs a b
  | .lst a, .lst b => PV.beqs a b
  | .scr a, .scr b => decide (a = b)
  | .dct a, .dct b => PV.beqp a b
  | .ref a, .ref b => decide (a = b)
  | _, _ => false
def PV.beqs : List PV → List PV → Bool
  | [], [] => true
  | a :: as, b :: bs => PV.beq a b && PV.beqs as bs
  | _, _ => false
def PV.beqp : List (PV × PV) → List (PV × PV) → Bool
  | [], [] => true
  | (a, c) :: as, (b, d) :: bs => PV.beq a b && PV.beq c d && PV.beqp as bs
  | _, _ => false
end
mutual
theorem PV.beq_refl : ∀ a : PV, PV.beq a a = true
  | .non => rfl
  | .bl a => by simp [PV.beq]
  | .int a => by simp [PV.beq]
  | .str a => by simp [PV.beq]
  | .ref a => by simp [PV.beq]
  | .tup a => by rw [PV.beq]; exact PV.beqs_refl a
  | .lst a => by rw [PV.beq]; exact PV.beqs_refl a
  | .scr a => by simp [PV.beq]
  | .dct a => by rw [PV.beq]; exact PV.beqp_refl a
theorem PV.beqs_refl : ∀ a : List PV, PV.beqs a a = true
  | [] => rfl
  | a :: as => by rw [PV.beqs, PV.beq_refl a, PV.beqs_refl as]; rfl
theorem PV.beqp_refl : ∀ a : List (PV × PV), PV.beqp a a = true
  | [] => rfl
  | (a, b) :: as => by rw [PV.beqp, PV.beq_refl a, PV.beq_refl b, PV.beqp_refl as]; rfl
end
mutual
theorem PV.eq_of_beq : ∀ a b : PV, PV.beq a b = true → a = b
  | .non, b, h => by cases b <;> simp_all [PV.beq]
  | .bl a, b, h => by cases b <;> simp_all [PV.beq]
  | .int a, b, h => by cases b <;> simp_all [PV.beq]
  | .str a, b, h => by cases b <;> simp_all [PV.beq]
  | .ref a, b, h => by cases b <;> simp_all [PV.beq]
  | .tup a, b, h => by
    cases b with
    | tup b => rw [PV.beq] at h; rw [PV.eq_of_beqs a b h]
    | _ => simp [PV.beq] at h
  | .lst a, b, h => by
    cases b with
    | lst b => rw [PV.beq] at h; rw [PV.eq_of_beqs a b h]
    | _ => simp [PV.beq] at h
  | .scr a, b, h => by cases b <;> simp_all [PV.beq]
  | .dct a, b, h => by
    cases b with
    | dct b => rw [PV.beq] at h; rw [PV.eq_of_beqp a b h]
    | _ => simp [PV.beq] at h
theorem PV.eq_of_beqs : ∀ a b : List PV, PV.beqs a b = true → a = b
  | [], b, h => by cases b <;> simp_all [PV.beqs]
  | a :: as, b, h => by
    cases b with
    | nil => simp [PV.beqs] at h
    | cons b bs =>
      rw [PV.beqs, Bool.and_eq_true] at h
      rw [PV.eq_of_beq a b h.1, PV.eq_of_beqs as bs h.2]
theorem PV.eq_of_beqp : ∀ a b : List (PV × PV), PV.beqp a b = true → a = b
  | [], b, h => by cases b <;> simp_all [PV.beqp]
  | (a, c) :: as, b, h => by
    cases b with
    | nil => simp [PV.beqp] at h
    | cons b bs =>
      obtain ⟨b, d⟩ := b
      rw [PV.beqp, Bool.and_eq_true, Bool.and_eq_true] at h
      rw [PV.eq_of_beq a b h.1.1, PV.eq_of_beq c d h.1.2, PV.eq_of_beqp as bs h.2]
end
instance : DecidableEq PV := fun a b => if h : PV.beq a b = true then .isTrue (PV.eq_of_beq a b h) else .isFalse fun e => h (e ▸ PV.beq_refl a)

/-- what is written -/
inductive Cell where
  | lst (xs : List PV) | dct (es : List (PV × PV)) | dctL (es : List (PV × PV)) | obj (c : Str) (fs : List (Str × PV))
  deriving Inhabited, DecidableEq
abbrev PHeap := List Cell
abbrev Env := List (Option PV)

/-- an answer: a value and the heap; an exception (by its class's name); or nothing known -/
inductive R (α : Type) where
  | ok (a : α) (h : PHeap) | exc (e : Str) (h : PHeap) | bad
def R.bind {α β : Type} : R α → (α → PHeap → R β) → R β
  | .ok a h, f => f a h
  | .exc e h, _ => .exc e h
  | .bad, _ => .bad
@[simp] theorem R.bind_ok {α β : Type} (a : α) (h : PHeap) (f : α → PHeap → R β) : (R.ok a h).bind f = f a h := rfl
@[simp] theorem R.bind_bad {α β : Type} (f : α → PHeap → R β) : (R.bad : R α).bind f = .bad := rfl
@[simp] theorem R.bind_exc {α β : Type} (e : Str) (h : PHeap) (f : α → PHeap → R β) : (R.exc e h : R α).bind f = .exc e h := rfl
/-- an answer that may not be -/
def R.of {α : Type} : Option α → PHeap → R α
  | some a, h => .ok a h
  | none, _ => .bad
@[simp] theorem R.of_some {α : Type} (a : α) (h : PHeap) : R.of (some a) h = .ok a h := rfl
@[simp] theorem R.of_none {α : Type} (h : PHeap) : (R.of none h : R α) = .bad := rfl
theorem R.bind_eq_ok {α β : Type} {r : R α} {f : α → PHeap → R β} {b : β} {h : PHeap} (e : r.bind f = .ok b h) : ∃ a h1, r = .ok a h1 ∧ f a h1 = .ok b h := by
  cases r with
  | ok a h1 => exact ⟨a, h1, rfl, e⟩
  | exc _ _ => cases e
  | bad => cases e
theorem R.of_eq_ok {α : Type} {o : Option α} {h h' : PHeap} {a : α} (e : R.of o h = .ok a h') : o = some a ∧ h' = h := by
  cases o with
  | none => cases e
  | some x => simp only [R.of_some, R.ok.injEq] at e; exact ⟨by rw [e.1], e.2.symm⟩
theorem R.of_bind {α β : Type} {o : Option α} {h h' : PHeap} {f : α → PHeap → R β} {b : β} (e : (R.of o h).bind f = .ok b h') : ∃ a, o = some a ∧ f a h = .ok b h' := by
  cases o with
  | none => cases e
  | some a => exact ⟨a, rfl, e⟩
/-- a call's meaning -/
abbrev Sem := List PV → PHeap → R PV

inductive BOp where | add | sub | mul | fdiv | mod | pow
  deriving DecidableEq, Inhabited
inductive COp where | eq | ne | lt | le | gt | ge | is | isnot | isin | notin
  deriving DecidableEq, Inhabited
/-- built-in functions of values -/
inductive Blt where
  | len | abs | max2 | min2 | int | isi (T : String) | isiT (ts : List String) | repr
  deriving DecidableEq, Inhabited
/-- methods of built-in types -/
inductive Mth where
  | dget | dget1 | dpop | dpop2 | dsetd | lapp | lext | lpop | lpopAt | lins | lidx | tidx | lcount | tcount
  deriving DecidableEq, Inhabited
/-- what a walk is made into -/
inductive Cnv where
  | list | tuple | sorted | sum | all | any | max | min | dict | sortedSet | lenSet
  deriving DecidableEq, Inhabited
/-- a target of names -/
inductive Tg where
  | nm (i : Nat) | tp (ts : List Tg)
  deriving Inhabited

mutual
inductive IE where
  | var (i : Nat)
  | cst (v : PV)
  | glob (x : Str) (v : PV)
  | tup (es : IEs)
  | lst (al : Bool) (es : IEs)
  | dct (al : Bool) (kvs : IEs)
  | bin (op : BOp) (a b : IE)
  | neg (a : IE)
  | not (a : IE)
  | cmp (op : COp) (a b : IE)
  | cmp2 (op op' : COp) (a b c : IE)
  | and (a b : IE)
  | or (a b : IE)
  | ife (c a b : IE)
  | sub (a i : IE)
  | slice (a : IE) (lo hi : IO)
  | rev (a st : IE)
  | call (f : Nat) (es : IEs)
  | blt (f : Blt) (es : IEs)
  | meth (m : Mth) (o : IE) (es : IEs)
  | conv (k : Cnv) (al : Bool) (e : IE)
  | convI (k : Cnv) (al : Bool) (it : II)
  | comp (al : Bool) (own : List Nat) (tg : Tg) (it : II) (ifs : IEs) (elt : IE)
  | dcomp (al : Bool) (own : List Nat) (tg : Tg) (it : II) (ifs : IEs) (k v : IE)
inductive IEs where
  | nil | cons (e : IE) (es : IEs)
inductive IO where
  | none | some (e : IE)
/-- what is walked -/
inductive II where
  | ex (e : IE) | rng1 (a : IE) | rng2 (a b : IE) | enum (e : IE) | zip (a b : IE) | items (d : IE) | values (d : IE)
end
instance : Inhabited IE := ⟨.var 0⟩

inductive ITgt where
  | tg (t : Tg) | sub (o i : IE)
  deriving Inhabited
mutual
inductive IS where
  | expr (e : IE)
  | asg (t : ITgt) (e : IE)
  | par (ts : List ITgt) (es : IEs)
  | aug (i : Nat) (op : BOp) (e : IE)
  | augS (o i : IE) (op : BOp) (e : IE)
  | ret (e : IE)
  | retN
  | pass
  | brk
  | cont
  | ifs (c : IE) (a b : ISs)
  | for_ (tg : Tg) (it : II) (b : ISs)
  | while_ (fuel : Nat) (c : IE) (b : ISs)
  | raise_ (x : Str)
inductive ISs where
  | nil | cons (s : IS) (ss : ISs)
end
/-- how a statement ends -/
inductive Out where
  | nx (e : Env) | rt (v : PV) | bk (e : Env) | ct (e : Env)

/-! ### values -/
mutual
def toD : PV → Option PyData
  | .non => some .none
  | .bl b => some (.bool b)
  | .int i => some (.int i)
  | .str s => some (.str s)
  | .tup xs => (toDs xs).map .tuple
  | .lst xs => (toDs xs).map .list
  | _ => none
def toDs : List PV → Option (List PyData)
  | [] => some []
  | x :: xs => match toD x, toDs xs with
    | some d, some ds => some (d :: ds)
    | _, _ => none
end
/-- the key of a dict that a value is: whole numbers and texts; tuples of such, nested, with None -/
inductive PKey where
  | k (k : L2.Key) | t (ks : List NestedKey)
mutual
def toN : PV → Option NestedKey
  | .non => some .none
  | .int i => some (.num i)
  | .str s => some (.text s)
  | .tup xs => (toNs xs).map .tup
  | _ => none
def toNs : List PV → Option (List NestedKey)
  | [] => some []
  | x :: xs => match toN x, toNs xs with
    | some d, some ds => some (d :: ds)
    | _, _ => none
end
/-- is a key by value -/
def keyV : PV → Bool
  | .int _ => true
  | .str _ => true
  | _ => false
/-- is a key that is a tuple -/
def keyT : PV → Bool
  | .tup xs => match toN (.tup xs) with
    | some k => decide (k.depth ≤ 8)
    | none => false
  | _ => false

/-- the list, tuple that is read -/
def asList (h : PHeap) : PV → Option (List PV)
  | .lst xs => some xs
  | .ref n => match h[n]? with
    | some (.lst xs) => some xs
    | _ => none
  | _ => none
def asSeq (h : PHeap) : PV → Option (List PV)
  | .tup xs => some xs
  | v => asList h v
def asDict (h : PHeap) : PV → Option (List (PV × PV))
  | .dct es => some es
  | .ref n => match h[n]? with
    | some (.dct es) => some es
    | some (.dctL es) => some es
    | _ => none
  | _ => none
/-- a live list as a frozen one, for == and such -/
def res (h : PHeap) (v : PV) : PV := match v with
  | .ref n => match h[n]? with
    | some (.lst xs) => .lst xs
    | _ => v
  | _ => v
/-- == of data -/
def pyEq (h : PHeap) (a b : PV) : Option Bool := match toD (res h a), toD (res h b) with
  | some d, some e => if SeqAt.shaped d && SeqAt.shaped e then some (PyData.eqv d e) else none
  | _, _ => none
def tru (h : PHeap) : PV → Option Bool
  | .non => some false
  | .bl b => some b
  | .int i => some (i != 0)
  | .str s => if s.length ≤ sizeLine then some ((s.length : Int) != 0) else none
  | v => match asSeq h v with
    | some xs => some (!xs.isEmpty)
    | none => match asDict h v with
      | some es => some (!es.isEmpty)
      | none => none
def dFind (es : List (PV × PV)) (k : PV) : Option PV := (es.find? fun e => decide (e.1 = k)).map (·.2)
def dPut (es : List (PV × PV)) (k v : PV) : List (PV × PV) :=
  if es.any (fun e => decide (e.1 = k)) then es.map (fun e => if e.1 = k then (e.1, v) else e) else es ++ [(k, v)]
def dDel (es : List (PV × PV)) (k : PV) : List (PV × PV) := es.filter fun e => !decide (e.1 = k)
/-- may be asked by the key -/
def keyOk (es : List (PV × PV)) (k : PV) : Bool :=
  (keyV k && es.all fun e => keyV e.1) || (keyT k && es.all fun e => keyT e.1)
def small (i : Int) : Bool := decide (-(2 ^ 64) < i ∧ i < 2 ^ 64)
def wide62 (i : Int) : Bool := decide (-(2 ^ 62) ≤ i ∧ i < 2 ^ 62)
def LIM : Nat := 16777216

def binop (op : BOp) (a b : PV) (h : PHeap) : Option PV := match op, a, b with
  | .add, .int i, .int j => some (.int (i + j))
  | .sub, .int i, .int j => some (.int (i - j))
  | .mul, .int i, .int j => if small i || small j then some (.int (i * j)) else none
  | .fdiv, .int i, .int j => if j ≠ 0 ∧ j.natAbs < 1073741824 then some (.int (i.fdiv j)) else none
  | .mod, .int i, .int j => if j ≠ 0 then some (.int (i.fmod j)) else none
  | .pow, .int i, .int j => if 0 ≤ j ∧ j ≤ 1000000 ∧ i.natAbs < 2 ^ 64 then some (.int (i ^ j.toNat)) else none
  | .add, .tup x, .tup y => if x.length + y.length ≤ LIM then some (.tup (x ++ y)) else none
  | .add, x, y => match asList h x, asList h y with
    | some x, some y => if x.length + y.length ≤ LIM then some (.lst (x ++ y)) else none
    | _, _ => none
  | .mul, x, .int k => match asList h x with
    | some x => if k < 2 ^ 62 ∧ -(2 ^ 62) < k ∧ x.length * k.toNat ≤ LIM then some (.lst (List.replicate k.toNat x).flatten) else none
    | none => none
  | _, _, _ => none

/-- the order of alike data -/
def ordD (op : COp) (d e : PyData) : Bool := match op with
  | .lt => PySem.W.dataLt d e
  | .gt => PySem.W.dataLt e d
  | .le => !PySem.W.dataLt e d
  | _ => !PySem.W.dataLt d e
def isNone : PyData → Bool
  | .none => true
  | _ => false
def pyOrd (op : COp) (h : PHeap) (a b : PV) : Option Bool := match a, b with
  | .int i, .int j => some (match op with
    | .lt => decide (i < j)
    | .gt => decide (j < i)
    | .le => decide (i ≤ j)
    | _ => decide (j ≤ i))
  | a, b => match toD (res h a), toD (res h b) with
    | some d, some e => if PySem.W.alike d e && !isNone d && SeqAt.shaped d && SeqAt.shaped e then some (ordD op d e) else none
    | _, _ => none
def isIn (h : PHeap) (a b : PV) : Option Bool := match asDict h b with
  | some es => if keyOk es a then some (es.any fun e => decide (e.1 = a)) else none
  | none => match asSeq h b with
    | some xs => match toD (res h a), toDs xs with
      | some d, some ds => if SeqAt.shaped d && SeqAt.shaped (.list ds) then some (ds.any fun e => PyData.eqv e d) else none
      | _, _ => none
    | none => none
def cmpop (op : COp) (a b : PV) (h : PHeap) : Option Bool := match op with
  | .eq => pyEq h a b
  | .ne => (pyEq h a b).map (!·)
  | .lt => pyOrd .lt h a b
  | .gt => pyOrd .gt h a b
  | .le => pyOrd .le h a b
  | .ge => pyOrd .ge h a b
  | .is => match b with
    | .non => some (decide (a = .non))
    | _ => none
  | .isnot => match b with
    | .non => some (!decide (a = .non))
    | _ => none
  | .isin => isIn h a b
  | .notin => (isIn h a b).map (!·)

def itemOf (h : PHeap) (a i : PV) : Option PV := match asDict h a with
  | some es => if keyOk es i then dFind es i else none
  | none => match asSeq h a, i with
    | some xs, .int i => L2.atI xs i
    | _, _ => none
def cut (xs : List PV) (lo hi : Option Int) : List PV := (xs.drop (HT.sIx xs.length 0 lo)).take (HT.sIx xs.length xs.length hi - HT.sIx xs.length 0 lo)
def sliceOf (h : PHeap) (a : PV) (lo hi : Option Int) : Option PV := match a with
  | .tup xs => some (.tup (cut xs lo hi))
  | .scr ns => some (.lst (cut (ns.map .int) lo hi))
  | a => (asList h a).map fun xs => .lst (cut xs lo hi)
def revOf (h : PHeap) (a : PV) : Option PV := match a with
  | .tup xs => some (.tup xs.reverse)
  | a => (asList h a).map fun xs => .lst xs.reverse

/-- the built-in type of a value, where it is known -/
def tyOf (h : PHeap) : PV → Option String
  | .non => some "NoneType"
  | .bl _ => some "bool"
  | .int _ => some "int"
  | .str _ => some "str"
  | .tup _ => some "tuple"
  | v => (asList h v).map fun _ => "list"
def tyNames : List String := ["int", "bool", "str", "tuple", "list", "dict", "set"]
def isTy (t T : String) : Bool := t == T || (t == "bool" && T == "int")

def bLen (h : PHeap) : List PV → Option PV
  | [.str s] => if s.length ≤ sizeLine then some (.int s.length) else none
  | [v] => match asSeq h v with
    | some xs => some (.int xs.length)
    | none => match asDict h v with
      | some es => some (.int es.length)
      | none => none
  | _ => none
def bAbs : List PV → Option PV
  | [.int i] => some (.int (if i < 0 then -i else i))
  | _ => none
def bMax2 : List PV → Option PV
  | [.int i, .int j] => some (.int (if j > i then j else i))
  | _ => none
def bMin2 : List PV → Option PV
  | [.int i, .int j] => some (.int (if j < i then j else i))
  | _ => none
def bInt : List PV → Option PV
  | [.int i] => some (.int i)
  | [.bl b] => some (.int (if b then 1 else 0))
  | _ => none
def bIsi (h : PHeap) (T : String) : List PV → Option PV
  | [v] => if tyNames.contains T then (tyOf h v).map fun t => .bl (isTy t T) else none
  | _ => none
def bIsiT (h : PHeap) (ts : List String) : List PV → Option PV
  | [v] => if ts.all (tyNames.contains ·) then (tyOf h v).map fun t => .bl (ts.any (isTy t)) else none
  | _ => none
def bltop (f : Blt) (as : List PV) (h : PHeap) : Option PV := match f with
  | .len => bLen h as
  | .abs => bAbs as
  | .max2 => bMax2 as
  | .min2 => bMin2 as
  | .int => bInt as
  | .isi T => bIsi h T as
  | .isiT ts => bIsiT h ts as
  | .repr => none

/-- a live cell is written -/
def store (h : PHeap) (n : Nat) (c : Cell) : PHeap := h.set n c

def putItem (h : PHeap) (o i v : PV) : Option PHeap := match o with
  | .ref n => match h[n]?, i with
    | some (.lst xs), .int k => match L2.ixN xs.length k with
      | some j => some (h.set n (.lst (xs.set j v)))
      | none => none
    | some (.dct es), k => if keyOk es k && decide (es.length < LIM) then some (h.set n (.dct (dPut es k v))) else none
    | _, _ => none
  | _ => none

def mGet (o : PV) (as : List PV) (h : PHeap) : R PV := match as with
  | [k, x] => match asDict h o with
    | some es => if keyOk es k then .ok ((dFind es k).getD x) h else .bad
    | none => .bad
  | _ => .bad
def mGet1 (o : PV) (as : List PV) (h : PHeap) : R PV := match as with
  | [k] => match asDict h o with
    | some es => if keyOk es k then .ok ((dFind es k).getD .non) h else .bad
    | none => .bad
  | _ => .bad
def mApp (o : PV) (as : List PV) (h : PHeap) : R PV := match o, as with
  | .ref n, [v] => match h[n]? with
    | some (.lst xs) => if xs.length < LIM then .ok .non (h.set n (.lst (xs ++ [v]))) else .bad
    | _ => .bad
  | _, _ => .bad
def mExt (o : PV) (as : List PV) (h : PHeap) : R PV := match o, as with
  | .ref n, [v] => match h[n]?, asList h v with
    | some (.lst xs), some ys => if xs.length + ys.length ≤ LIM then .ok .non (h.set n (.lst (xs ++ ys))) else .bad
    | _, _ => .bad
  | _, _ => .bad
def mPop (o : PV) (as : List PV) (h : PHeap) : R PV := match o, as with
  | .ref n, [] => match h[n]? with
    | some (.lst xs) => match xs[xs.length - 1]? with
      | some v => .ok v (h.set n (.lst xs.dropLast))
      | none => .bad
    | _ => .bad
  | _, _ => .bad
def mPopAt (o : PV) (as : List PV) (h : PHeap) : R PV := match o, as with
  | .ref n, [.int i] => match h[n]? with
    | some (.lst xs) => if wide62 i then match seqIndex? i xs.length with
      | some k => match xs[k]? with
        | some v => .ok v (h.set n (.lst (xs.eraseIdx k)))
        | none => .bad
      | none => .bad else .bad
    | _ => .bad
  | _, _ => .bad
def methop (m : Mth) (o : PV) (as : List PV) (h : PHeap) : R PV := match m with
  | .dget => mGet o as h
  | .dget1 => mGet1 o as h
  | .lapp => mApp o as h
  | .lext => mExt o as h
  | .lpop => mPop o as h
  | .lpopAt => mPopAt o as h
  | _ => .bad
/-- the receiver is of the method's type -/
def recv (m : Mth) (h : PHeap) (o : PV) : Bool := match m with
  | .dget => (asDict h o).isSome
  | .dget1 => (asDict h o).isSome
  | .dpop => (asDict h o).isSome
  | .dpop2 => (asDict h o).isSome
  | .dsetd => (asDict h o).isSome
  | .tidx => match o with
    | .tup _ => true
    | _ => false
  | .tcount => match o with
    | .tup _ => true
    | _ => false
  | _ => (asList h o).isSome
end HW
/-! HwB: what the small language's terms do. -/
namespace HW
open PySem

mutual
/-- all cells named in it lie below n -/
def below (n : Nat) : PV → Bool
  | .ref m => decide (m < n)
  | .tup xs => belows n xs
  | .lst xs => belows n xs
  | .dct es => belowp n es
  | _ => true
def belows (n : Nat) : List PV → Bool
  | [] => true
  | x :: xs => below n x && belows n xs
def belowp (n : Nat) : List (PV × PV) → Bool
  | [] => true
  | (x, y) :: xs => below n x && below n y && belowp n xs
end
def belowC (n : Nat) : Cell → Bool
  | .lst xs => belows n xs
  | .dct es => belowp n es
  | .dctL es => belowp n es
  | .obj _ fs => fs.all fun f => below n f.2
/-- the cells that stood ahead name none of the later ones -/
def okOuter (h : PHeap) : PHeap → Bool := fun g => (List.range h.length).all fun m => decide (g[m]? = h[m]?) || (match g[m]? with
  | some c => belowC h.length c
  | none => false)
mutual
/-- a value that leaves: what lies behind n is frozen -/
def frz (h : PHeap) (n : Nat) : Nat → PV → Option PV
  | 0, _ => none
  | k + 1, v => if below n v then some v else match v with
    | .ref m => match h[m]? with
      | some (.lst xs) => (frzs h n k xs).map .lst
      | some (.dct es) => if belows n (es.map (·.1)) then (frzs h n k (es.map (·.2))).map fun b => .dct ((es.map (·.1)).zip b) else none
      | _ => none
    | .tup xs => (frzs h n k xs).map .tup
    | .lst xs => (frzs h n k xs).map .lst
    | _ => none
def frzs (h : PHeap) (n : Nat) : Nat → List PV → Option (List PV)
  | 0, _ => none
  | k + 1, xs => xs.mapM (frz h n k)
end

def wipeE (env : Env) : List Nat → Env
  | [] => env
  | v :: vs => (wipeE env vs).set v none
mutual
def tgSet : Tg → PV → Env → Option Env
  | .nm i, v, env => if i < env.length then some (env.set i (some v)) else none
  | .tp ts, v, env => match v with
    | .tup xs => if xs.length = ts.length then tgSets ts xs env else none
    | _ => none
def tgSets : List Tg → List PV → Env → Option Env
  | [], _, env => some env
  | t :: ts, x :: xs, env => match tgSet t x env with
    | some env1 => tgSets ts xs env1
    | none => none
  | _ :: _, [], _ => none
end

def mkList (al : Bool) (vs : List PV) (h : PHeap) : R PV := if al then .ok (.ref h.length) (h ++ [.lst vs]) else .ok (.lst vs) h
def mkDict (al : Bool) (es : List (PV × PV)) (h : PHeap) : R PV := if al then .ok (.ref h.length) (h ++ [.dct es]) else .ok (.dct es) h
abbrev Chk := PHeap → Bool
/-- what a value gives when it is walked, and whether it still stands as it did -/
def srcOf (h : PHeap) : PV → Option (List PV × Chk)
  | .tup xs => some (xs, fun _ => true)
  | .lst xs => some (xs, fun _ => true)
  | .dct es => some (es.map (·.1), fun _ => true)
  | .ref n => match h[n]? with
    | some (.lst xs) => some (xs, fun g => decide (g[n]? = some (.lst xs)))
    | some (.dct es) => some (es.map (·.1), fun _ => false)
    | some (.dctL es) => some (es.map (·.1), fun g => decide (g[n]? = some (.dctL es)))
    | _ => none
  | _ => none
def dictSrc (h : PHeap) : PV → Option (List (PV × PV) × Chk)
  | .dct es => some (es, fun _ => true)
  | .ref n => match h[n]? with
    | some (.dctL es) => some (es, fun g => decide (g[n]? = some (.dctL es)))
    | _ => none
  | _ => none
def seqSrc (h : PHeap) : PV → Option (List PV × Chk)
  | .tup xs => some (xs, fun _ => true)
  | .lst xs => some (xs, fun _ => true)
  | .ref n => match h[n]? with
    | some (.lst xs) => some (xs, fun g => decide (g[n]? = some (.lst xs)))
    | _ => none
  | _ => none
/-- what a loop walks: an unlocked dict of one's own isn't *)-/
def walkSrc (h : PHeap) (v : PV) : Option (List PV × Chk) := match v with
  | .tup xs => some (xs, fun _ => true)
  | .lst xs => some (xs, fun _ => true)
  | .dct es => some (es.map (·.1), fun _ => true)
  | .ref n => match h[n]? with
    | some (.lst xs) => some (xs, fun g => decide (g[n]? = some (.lst xs)))
    | some (.dctL es) => some (es.map (·.1), fun g => decide (g[n]? = some (.dctL es)))
    | _ => none
  | _ => none
def listSrc (h : PHeap) (v : PV) : Option (List PV × Chk) := match v with
  | .lst xs => some (xs, fun _ => true)
  | .ref n => match h[n]? with
    | some (.lst xs) => some (xs, fun g => decide (g[n]? = some (.lst xs)))
    | _ => none
  | _ => none
def zipSrc (h : PHeap) (v w : PV) : Option ((List PV × List PV) × Chk) := match v, w with
  | .tup xs, .tup ys => some ((xs, ys), fun _ => true)
  | v, w => match listSrc h v, listSrc h w with
    | some p, some q => some ((p.1, q.1), fun g => p.2 g && q.2 g)
    | _, _ => none
def pairUp : List PV → Option (List (PV × PV))
  | [] => some []
  | k :: v :: r => (pairUp r).map ((k, v) :: ·)
  | _ => none
def putAll (es : List (PV × PV)) : List (PV × PV) → Option (List (PV × PV))
  | [] => some es
  | (k, v) :: r => if keyOk es k && decide (es.length < LIM) then putAll (dPut es k v) r else none
def pairOf : PV → Option (PV × PV)
  | .tup [k, v] => some (k, v)
  | _ => none

def tests (ts : List (Env → PHeap → R Bool)) (env : Env) (h : PHeap) : R Bool := match ts with
  | [] => .ok true h
  | t :: r => (t env h).bind fun b h => if b then tests r env h else .ok false h
/-- a list comprehension's turns -/
def compGo (chk : Chk) (tg : PV → Env → Option Env) (ok : Env → PHeap → R Bool) (elt : Env → PHeap → R PV) (env : Env) : List PV → PHeap → List PV → R (List PV)
  | [], h, acc => if chk h then .ok acc h else .bad
  | x :: xs, h, acc => if chk h then match tg x env with
      | some env1 => (ok env1 h).bind fun b h1 => if b then (elt env1 h1).bind fun y h2 => if acc.length < LIM then compGo chk tg ok elt env xs h2 (acc ++ [y]) else .bad
          else compGo chk tg ok elt env xs h1 acc
      | none => .bad
    else .bad
def dcompGo (chk : Chk) (tg : PV → Env → Option Env) (ok : Env → PHeap → R Bool) (kx vx : Env → PHeap → R PV) (env : Env) : List PV → PHeap → List (PV × PV) → R (List (PV × PV))
  | [], h, acc => if chk h then .ok acc h else .bad
  | x :: xs, h, acc => if chk h then match tg x env with
      | some env1 => (ok env1 h).bind fun b h1 => if b then (kx env1 h1).bind fun k h2 => (vx env1 h2).bind fun v h3 =>
            if keyOk acc k && decide (acc.length < LIM) then dcompGo chk tg ok kx vx env xs h3 (dPut acc k v) else .bad
          else dcompGo chk tg ok kx vx env xs h1 acc
      | none => .bad
    else .bad
def asInts : List PV → Option (List Int)
  | [] => some []
  | .int i :: r => (asInts r).map (i :: ·)
  | _ => none
def asBools : List PV → Option (List Bool)
  | [] => some []
  | .bl b :: r => (asBools r).map (b :: ·)
  | _ => none
def dOf (v : PV) : PyData := (toD v).getD .none
/-- sorted: the items, if they can be compared -/
def sortOk (xs : List PV) : Bool := match toDs xs with
  | some ds => ds.all (fun d => ds.all fun e => PySem.W.alike d e) && ds.all (fun d => decide (d.depth ≤ 32)) &&
      (ds.all (fun d => match d with
        | .tuple (_ :: _) => true
        | _ => false) || ds.all fun d => match d with
        | .none => false
        | .tuple _ => false
        | _ => true)
  | none => false
def sortV (xs : List PV) : List PV := xs.mergeSort (PySem.W.dataLe false dOf)
/-- the first ones of equal items -/
def dedup : List PV → List PV
  | [] => []
  | x :: xs => x :: (dedup xs).filter fun y => !decide (y = x)
def plainSet (xs : List PV) : Bool := xs.all (fun x => match x with
    | .int _ => true
    | _ => false) || xs.all fun x => match x with
    | .tup ys => (asInts ys).isSome
    | _ => false
def maxI : List Int → Option Int
  | [] => none
  | x :: xs => some (xs.foldl (fun a b => if b > a then b else a) x)
def minI : List Int → Option Int
  | [] => none
  | x :: xs => some (xs.foldl (fun a b => if b < a then b else a) x)
def anySrc (h : PHeap) (v : PV) : Option (List PV) := (srcOf h v).map (·.1)
def convop (k : Cnv) (al : Bool) (v : PV) (h : PHeap) : R PV := match k with
  | .list => (R.of (anySrc h v) h).bind fun xs h => mkList al xs h
  | .tuple => (R.of (asSeq h v) h).bind fun xs h => .ok (.tup xs) h
  | .sorted => (R.of (anySrc h v) h).bind fun xs h => if sortOk xs then mkList al (sortV xs) h else .bad
  | .sum => R.of ((asList h v).bind fun xs => (asInts xs).map fun ns => .int ns.sum) h
  | .all => R.of ((asList h v).bind fun xs => (asBools xs).map fun bs => .bl (bs.all id)) h
  | .any => R.of ((asList h v).bind fun xs => (asBools xs).map fun bs => .bl (bs.any id)) h
  | .max => R.of ((asList h v).bind fun xs => ((asInts xs).bind maxI).map .int) h
  | .min => R.of ((asList h v).bind fun xs => ((asInts xs).bind minI).map .int) h
  | .dict => (R.of ((asSeq h v).bind fun xs => (xs.mapM pairOf).bind (putAll [])) h).bind fun es h => mkDict al es h
  | .sortedSet => (R.of (asSeq h v) h).bind fun xs h => if plainSet xs && sortOk xs && decide (xs.length < 64) then mkList al (sortV (dedup xs)) h else .bad
  | .lenSet => (R.of (asSeq h v) h).bind fun xs h => if plainSet xs && decide (xs.length < 64) then .ok (.int (dedup xs).length) h else .bad
/-- of what isn't a value *)-/
def convI (k : Cnv) (al : Bool) (xs : List PV) (h : PHeap) : R PV := match k with
  | .list => if xs.length ≤ LIM then mkList al xs h else .bad
  | .tuple => if xs.length ≤ LIM then .ok (.tup xs) h else .bad
  | .sorted => if sortOk xs && decide (xs.length ≤ LIM) then mkList al (sortV xs) h else .bad
  | _ => .bad
def rangeOf (lo hi : Int) : Option (List PV) := if wide62 lo && wide62 hi then some ((List.range (hi - lo).toNat).map fun (i : Nat) => .int (lo + i)) else none
def intOf : PV → Option Int
  | .int i => some i
  | _ => none
def enumOf (xs : List PV) : List PV := xs.mapIdx fun i x => .tup [.int (i : Nat), x]
def zipOf (xs ys : List PV) : List PV := List.zipWith (fun x y => .tup [x, y]) xs ys

/-- a live dict that is walked by its name is locked as long -/
def lockV (i : Nat) (env : Env) (h : PHeap) : Option Nat := match env[i]? with
  | some (some (.ref n)) => match h[n]? with
    | some (.dct _) => some n
    | _ => none
  | _ => none
def lockE (e : IE) (env : Env) (h : PHeap) : Option Nat := match e with
  | .var i => lockV i env h
  | _ => none
def lockI (it : II) (env : Env) (h : PHeap) : Option Nat := match it with
  | .ex e => lockE e env h
  | .items e => lockE e env h
  | .values e => lockE e env h
  | _ => none
def withLock {α : Type} (lk : Option Nat) (f : PHeap → R α) (h : PHeap) : R α := match lk with
  | none => f h
  | some n => match h[n]? with
    | some (.dct es) => (f (h.set n (.dctL es))).bind fun r g => if g[n]? = some (.dctL es) then .ok r (g.set n (.dct es)) else .bad
    | _ => .bad
section
variable (ctx : List Sem)
mutual
def dE : IE → Env → PHeap → R PV
  | .var i, env, h => match env[i]? with
    | some (some v) => .ok v h
    | _ => .bad
  | .cst v, _, h => .ok v h
  | .glob _ v, _, h => .ok v h
  | .tup es, env, h => (dEs es env h).bind fun vs h => .ok (.tup vs) h
  | .lst al es, env, h => (dEs es env h).bind fun vs h => mkList al vs h
  | .dct al kvs, env, h => (dEs kvs env h).bind fun vs h => (R.of ((pairUp vs).bind (putAll [])) h).bind fun es h => mkDict al es h
  | .bin op a b, env, h => (dE a env h).bind fun x h => (dE b env h).bind fun y h => R.of (binop op x y h) h
  | .neg a, env, h => (dE a env h).bind fun x h => R.of ((intOf x).map fun i => .int (-i)) h
  | .not a, env, h => (dE a env h).bind fun x h => R.of ((tru h x).map fun c => .bl (!c)) h
  | .cmp op a b, env, h => (dE a env h).bind fun x h => (dE b env h).bind fun y h => R.of ((cmpop op x y h).map .bl) h
  | .cmp2 op op' a b c, env, h => (dE a env h).bind fun x h => (dE b env h).bind fun y h => (R.of (cmpop op x y h) h).bind fun t h =>
      if t then (dE c env h).bind fun z h => R.of ((cmpop op' y z h).map .bl) h else .ok (.bl false) h
  | .and a b, env, h => (dE a env h).bind fun x h => (R.of (tru h x) h).bind fun t h => if t then dE b env h else .ok x h
  | .or a b, env, h => (dE a env h).bind fun x h => (R.of (tru h x) h).bind fun t h => if t then .ok x h else dE b env h
  | .ife c a b, env, h => (dE c env h).bind fun x h => (R.of (tru h x) h).bind fun t h => if t then dE a env h else dE b env h
  | .sub a i, env, h => (dE a env h).bind fun x h => (dE i env h).bind fun y h => R.of (itemOf h x y) h
  | .slice a lo hi, env, h => (dE a env h).bind fun x h => (dO lo env h).bind fun l h => (dO hi env h).bind fun u h => R.of (sliceOf h x l u) h
  | .rev a st, env, h => (dE a env h).bind fun x h => (dE st env h).bind fun y h => R.of (if y = .int (-1) then revOf h x else none) h
  | .call f es, env, h => (dEs es env h).bind fun vs h => (ctx.getD f fun _ _ => .bad) vs h
  | .blt f es, env, h => (dEs es env h).bind fun vs h => R.of (bltop f vs h) h
  | .meth m o es, env, h => (dE o env h).bind fun x h => if recv m h x then (dEs es env h).bind fun vs h => methop m x vs h else .bad
  | .conv k al e, env, h => (dE e env h).bind fun v h => convop k al v h
  | .convI k al it, env, h => withLock (lockI it env h) (fun h => (dI it env h).bind fun p h => convI k al p.1 h) h
  | .comp al own tg it ifs elt, env, h => withLock (lockI it env h) (fun h => (dI it env h).bind fun p h =>
      (compGo p.2 (tgSet tg) (dIfs ifs) (dE elt) (wipeE env own) p.1 h []).bind fun acc h => mkList al acc h) h
  | .dcomp al own tg it ifs k v, env, h => withLock (lockI it env h) (fun h => (dI it env h).bind fun p h =>
      (dcompGo p.2 (tgSet tg) (dIfs ifs) (dE k) (dE v) (wipeE env own) p.1 h []).bind fun acc h => mkDict al acc h) h
def dEs : IEs → Env → PHeap → R (List PV)
  | .nil, _, h => .ok [] h
  | .cons e es, env, h => (dE e env h).bind fun v h => (dEs es env h).bind fun vs h => .ok (v :: vs) h
def dIfs : IEs → Env → PHeap → R Bool
  | .nil, _, h => .ok true h
  | .cons e es, env, h => (dE e env h).bind fun v h => (R.of (tru h v) h).bind fun t h => if t then dIfs es env h else .ok false h
def dO : IO → Env → PHeap → R (Option Int)
  | .none, _, h => .ok none h
  | .some e, env, h => (dE e env h).bind fun v h => (R.of (intOf v) h).bind fun i h => .ok (some i) h
def dI : II → Env → PHeap → R (List PV × Chk)
  | .ex e, env, h => (dE e env h).bind fun v h => R.of (walkSrc h v) h
  | .rng1 a, env, h => (dE a env h).bind fun v h => (R.of ((intOf v).bind (rangeOf 0)) h).bind fun xs h => .ok (xs, fun _ => true) h
  | .rng2 a b, env, h => (dE a env h).bind fun v h => (dE b env h).bind fun w h => (R.of ((intOf v).bind fun i => (intOf w).bind (rangeOf i)) h).bind fun xs h => .ok (xs, fun _ => true) h
  | .enum e, env, h => (dE e env h).bind fun v h => (R.of (listSrc h v) h).bind fun p h => .ok (enumOf p.1, p.2) h
  | .zip a b, env, h => (dE a env h).bind fun v h => (dE b env h).bind fun w h => (R.of (zipSrc h v w) h).bind fun p h => .ok (zipOf p.1.1 p.1.2, p.2) h
  | .items d, env, h => (dE d env h).bind fun v h => (R.of (dictSrc h v) h).bind fun p h => .ok (p.1.map fun e => .tup [e.1, e.2], p.2) h
  | .values d, env, h => (dE d env h).bind fun v h => (R.of (dictSrc h v) h).bind fun p h => .ok (p.1.map (·.2), p.2) h
end
def dT (e : IE) (env : Env) (h : PHeap) : R Bool := (dE ctx e env h).bind fun v h => R.of (tru h v) h

/-- to a target -/
def dTg : ITgt → PV → Env → PHeap → R Env
  | .tg t, v, env, h => R.of (tgSet t v env) h
  | .sub o i, v, env, h => (dE ctx o env h).bind fun x h => (dE ctx i env h).bind fun y h => match putItem h x y v with
    | some h' => .ok env h'
    | none => .bad
def dTgs : List ITgt → List PV → Env → PHeap → R Env
  | [], [], env, h => .ok env h
  | t :: ts, v :: vs, env, h => (dTg ctx t v env h).bind fun env h => dTgs ts vs env h
  | _, _, _, _ => .bad
/-- a for's turns -/
def forGo (chk : Chk) (tg : PV → Env → Option Env) (body : Env → PHeap → R Out) : List PV → Env → PHeap → R Out
  | [], env, h => if chk h then .ok (.nx env) h else .bad
  | x :: xs, env, h => if chk h then match tg x env with
      | some env1 => (body env1 h).bind fun o h1 => match o with
        | .nx e => forGo chk tg body xs e h1
        | .ct e => forGo chk tg body xs e h1
        | .bk e => .ok (.nx e) h1
        | .rt v => .ok (.rt v) h1
      | none => .bad
    else .bad
def whileGo (test : Env → PHeap → R Bool) (body : Env → PHeap → R Out) : Nat → Env → PHeap → R Out
  | 0, _, _ => .bad
  | n + 1, env, h => (test env h).bind fun t h => if t then (body env h).bind fun o h1 => match o with
      | .nx e => whileGo test body n e h1
      | .ct e => whileGo test body n e h1
      | .bk e => .ok (.nx e) h1
      | .rt v => .ok (.rt v) h1
    else .ok (.nx env) h
mutual
def dS : IS → Env → PHeap → R Out
  | .expr e, env, h => (dE ctx e env h).bind fun _ h => .ok (.nx env) h
  | .asg t e, env, h => (dE ctx e env h).bind fun v h => (dTg ctx t v env h).bind fun env h => .ok (.nx env) h
  | .par ts es, env, h => (dEs ctx es env h).bind fun vs h => (dTgs ctx ts vs env h).bind fun env h => .ok (.nx env) h
  | .aug i op e, env, h => match env[i]? with
    | some (some x) => (dE ctx e env h).bind fun y h => (R.of (match x, y with
        | .int _, .int _ => binop op x y h
        | _, _ => none) h).bind fun z h => .ok (.nx (env.set i (some z))) h
    | _ => .bad
  | .augS o i op e, env, h => (dE ctx o env h).bind fun x h => (dE ctx i env h).bind fun k h => (R.of (itemOf h x k) h).bind fun old h => (dE ctx e env h).bind fun y h =>
      (R.of (match old, y with
        | .int _, .int _ => binop op old y h
        | _, _ => none) h).bind fun z h => match putItem h x k z with
        | some h' => .ok (.nx env) h'
        | none => .bad
  | .ret e, env, h => (dE ctx e env h).bind fun v h => .ok (.rt v) h
  | .retN, _, h => .ok (.rt .non) h
  | .pass, env, h => .ok (.nx env) h
  | .brk, env, h => .ok (.bk env) h
  | .cont, env, h => .ok (.ct env) h
  | .ifs c a b, env, h => (dT ctx c env h).bind fun t h => if t then dSs a env h else dSs b env h
  | .for_ tg it b, env, h => withLock (lockI it env h) (fun h => (dI ctx it env h).bind fun p h => forGo p.2 (tgSet tg) (dSs b) p.1 env h) h
  | .while_ n c b, env, h => whileGo (dT ctx c) (dSs b) n env h
  | .raise_ x, _, h => .exc x h
def dSs : ISs → Env → PHeap → R Out
  | .nil, env, h => .ok (.nx env) h
  | .cons s ss, env, h => (dS s env h).bind fun o h => match o with
    | .nx env => dSs ss env h
    | o => .ok o h
end
end
/-- a def: how many parameters, how many names, what it does, whether the cells that it makes are kept -/
structure IFun where
  np : Nat
  n : Nat
  body : ISs
  keep : Bool := false
def finish (keep : Bool) (h : PHeap) (v : PV) (h1 : PHeap) : R PV := if keep then .ok v h1 else if okOuter h h1 && decide (h.length ≤ h1.length) then match frz h1 h.length 12 v with
    | some v' => .ok v' (h1.take h.length)
    | none => .bad
  else .bad
def runFn (f : IFun) (ctx : List Sem) : Sem := fun args h => if args.length = f.np then
    (dSs ctx f.body (args.map some ++ List.replicate (f.n - f.np) none) h).bind fun o h1 => match o with
      | .rt v => finish f.keep h v h1
      | .nx _ => finish f.keep h .non h1
      | _ => .bad
  else .bad
end HW
/-! HwC: how the evaluator's values and heap stand in the model's. -/
namespace HW
open PySem PySem.Spec PyProof.Rows L2

structure Wd where
  P : Program
  w : World
  K : PySem.W.Frag
abbrev wd (X : Cx) : Wd := ⟨X.prog, X.w, X.K⟩

def kP : L2.Key → PV
  | .inl i => .int i
  | .inr s => .str s
/-- a dict whose keys are tuples, nested -/
def dictB (P : Program) (w : World) (a : Addr) (xs : List (NestedKey × Addr × V)) : HO := .ext fun h => ∃ ys : List (NestedKey × Addr × Value), Paired (fun (p : NestedKey × Addr × V) (q : NestedKey × Addr × Value) => p.1 = q.1 ∧ p.2.1 = q.2.1 ∧ RelV p.2.2 q.2.2) xs ys ∧
  xs.length ≤ sizeLine ∧ (a == sysModules) = false ∧ (xs.map (·.1)).Nodup ∧ ∃ o es ep, h.get? a = some o ∧ o.ExactDict ∧ o.data = .dict es ep ∧ es.toList = ys.map (entryOfKey (nestedKind P w))

/-- a tuple stands at a: its object has no dict of its own -/
def TupAt (H : Hp) (a : Addr) (vs : List V) : Prop := ∃ o : Obj, H a = some (.frz o (.tup vs)) ∧ o.dict = none
theorem TupAt.sq {K : PySem.W.Frag} {H : Hp} {a : Addr} {vs : List V} (x : TupAt H a vs) : SqT K H a vs := let ⟨o, h, _⟩ := x; .inl (.inr ⟨o, h⟩)
/-- what is known there, its object fixed -/
def FzAt (H : Hp) (a : Addr) (u : HO) : Prop := ∃ o : Obj, H a = some (.frz o u)
mutual
inductive VR (Z : Wd) (L : List Addr) (H : Hp) : PV → V → Prop
  | non : VR Z L H .non .non
  | bl (b : Bool) : VR Z L H (.bl b) (.bl b)
  | int (i : Int) : VR Z L H (.int i) (.int i)
  | str (s : Str) : VR Z L H (.str s) (.str s)
  | tup {a : Addr} {xs : List PV} {vs : List V} : TupAt H a vs → a ∉ L → VRs Z L H xs vs → VR Z L H (.tup xs) (.ref a)
  | lst {a : Addr} {xs : List PV} {vs : List V} : FzAt H a (.lst vs) → a ∉ L → VRs Z L H xs vs → VR Z L H (.lst xs) (.ref a)
  | scr {a : Addr} {ns : List Int} : FzAt H a (.lst (ns.map V.int)) → a ∉ L → VR Z L H (.scr ns) (.ref a)
  | scrK {a : Addr} {ns : List Int} : (∀ G, SqL Z.K G a (ns.map V.int)) → VR Z L H (.scr ns) (.ref a)
  | dctK {a : Addr} {es : List (PV × PV)} {kvs : List (Key × V)} : FzAt H a (.dK kvs) → a ∉ L → es.map (·.1) = kvs.map (fun p => kP p.1) → VRs Z L H (es.map (·.2)) (kvs.map (·.2)) → VR Z L H (.dct es) (.ref a)
  | dctT {a : Addr} {es : List (PV × PV)} {xs : List (NestedKey × Addr × V)} : FzAt H a (dictB Z.P Z.w a xs) → a ∉ L → es ≠ [] → toNs (es.map (·.1)) = some (xs.map (·.1)) → (es.all fun e => keyT e.1) = true →
      VRs Z L H (es.map (·.1)) (xs.map fun x => .ref x.2.1) → VRs Z L H (es.map (·.2)) (xs.map (·.2.2)) → VR Z L H (.dct es) (.ref a)
  | ref {n : Nat} {a : Addr} : L[n]? = some a → VR Z L H (.ref n) (.ref a)
inductive VRs (Z : Wd) (L : List Addr) (H : Hp) : List PV → List V → Prop
  | nil : VRs Z L H [] []
  | cons {x : PV} {v : V} {xs : List PV} {vs : List V} : VR Z L H x v → VRs Z L H xs vs → VRs Z L H (x :: xs) (v :: vs)
end
/-- the dict at a, by its entries -/
inductive DP (Z : Wd) (L : List Addr) (H : Hp) (a : Addr) (W : HO → Prop) (es : List (PV × PV)) : Prop
  | k {kvs : List (Key × V)} : W (.dK kvs) → es.map (·.1) = kvs.map (fun p => kP p.1) → VRs Z L H (es.map (·.2)) (kvs.map (·.2)) → DP Z L H a W es
  | t {xs : List (NestedKey × Addr × V)} : W (dictB Z.P Z.w a xs) → es ≠ [] → toNs (es.map (·.1)) = some (xs.map (·.1)) → (es.all fun e => keyT e.1) = true →
      VRs Z L H (es.map (·.1)) (xs.map fun x => .ref x.2.1) → VRs Z L H (es.map (·.2)) (xs.map (·.2.2)) → DP Z L H a W es
/-- .. read; written; locked -/
abbrev DR (Z : Wd) (L : List Addr) (H : Hp) (a : Addr) (es : List (PV × PV)) : Prop := DP Z L H a (Rd H a) es
abbrev DX (Z : Wd) (L : List Addr) (H : Hp) (a : Addr) (es : List (PV × PV)) : Prop := DP Z L H a (fun u => H a = some u) es
abbrev DL (Z : Wd) (L : List Addr) (H : Hp) (a : Addr) (es : List (PV × PV)) : Prop := DP Z L H a (FzAt H a) es
theorem DP.imp {Z : Wd} {L : List Addr} {H : Hp} {a : Addr} {W W' : HO → Prop} {es : List (PV × PV)} (h : ∀ u, W u → W' u) : DP Z L H a W es → DP Z L H a W' es
  | .k h1 h2 h3 => .k (h _ h1) h2 h3
  | .t h1 h0 h2 h3 h4 h5 => .t (h _ h1) h0 h2 h3 h4 h5
theorem DP.rd {Z : Wd} {L : List Addr} {H : Hp} {a : Addr} {es : List (PV × PV)} (h : DX Z L H a es) : DR Z L H a es := h.imp fun _ => .inl
theorem DP.rdL {Z : Wd} {L : List Addr} {H : Hp} {a : Addr} {es : List (PV × PV)} (h : DL Z L H a es) : DR Z L H a es := h.imp fun _ => .inr
def CR (Z : Wd) (L : List Addr) (H : Hp) (a : Addr) : Cell → Prop
  | .lst xs => ∃ vs, H a = some (.lst vs) ∧ VRs Z L H xs vs
  | .dct es => DX Z L H a es
  | .dctL es => DL Z L H a es
  | .obj _ _ => False
structure Ext (L : List Addr) (H : Hp) (L' : List Addr) (H' : Hp) : Prop where
  pre : ∃ M, L' = L ++ M ∧ ∀ a ∈ M, H a = none
  keep : ∀ a o, a ∉ L → H a = some o → H' a = some o
  dom : ∀ a, H a ≠ none → H' a ≠ none
  frz : ∀ a o u, H a = some (.frz o u) → H' a = some (.frz o u)
structure HR (Z : Wd) (L : List Addr) (h : PHeap) (H : Hp) : Prop where
  len : L.length = h.length
  nd : L.Nodup
  cell : ∀ (n : Nat) (c : Cell) (a : Addr), h[n]? = some c → L[n]? = some a → CR Z L H a c

section
variable {Z : Wd} {L L' L'' : List Addr} {H H' H'' : Hp} {h h' : PHeap}
theorem Ext.refl : Ext L H L H := ⟨⟨[], by simp, by simp⟩, fun _ _ _ e => e, fun _ e => e, fun _ _ _ e => e⟩
theorem Ext.trans (e : Ext L H L' H') (f : Ext L' H' L'' H'') (hl : ∀ a ∈ L, H a ≠ none) : Ext L H L'' H'' := by
  obtain ⟨M, rfl, hM⟩ := e.pre
  obtain ⟨N, rfl, hN⟩ := f.pre
  refine ⟨⟨M ++ N, by simp, fun a ha => ?_⟩, fun a o hn ho => ?_, fun a x => f.dom a (e.dom a x), fun a o u x => f.frz a o u (e.frz a o u x)⟩
  · rcases List.mem_append.mp ha with q | q
    · exact hM a q
    · have := hN a q
      cases hh : H a with
      | none => rfl
      | some o => exact absurd this (e.dom a (by rw [hh]; simp))
  · refine f.keep a o (fun q => ?_) (e.keep a o hn ho)
    rcases List.mem_append.mp q with q | q
    · exact hn q
    · rw [hM a q] at ho; cases ho
theorem Ext.mem (e : Ext L H L' H') {a : Addr} {o : HO} (hn : a ∉ L) (ho : H a = some o) : a ∉ L' := by
  obtain ⟨M, rfl, hM⟩ := e.pre
  intro q
  rcases List.mem_append.mp q with q | q
  · exact hn q
  · rw [hM a q] at ho; cases ho
theorem Ext.get (e : Ext L H L' H') {n : Nat} {a : Addr} (x : L[n]? = some a) : L'[n]? = some a := by
  obtain ⟨M, rfl, hM⟩ := e.pre
  obtain ⟨hl, rfl⟩ := List.getElem?_eq_some_iff.mp x
  rw [List.getElem?_append_left hl]
  exact x
theorem Ext.rd (e : Ext L H L' H') {a : Addr} {u : HO} (hn : a ∉ L) (x : Rd H a u) : Rd H' a u ∧ a ∉ L' := by
  rcases x with x | ⟨o, x⟩
  · exact ⟨.inl (e.keep _ _ hn x), e.mem hn x⟩
  · exact ⟨.inr ⟨o, e.keep _ _ hn x⟩, e.mem hn x⟩
theorem Ext.tup (e : Ext L H L' H') {a : Addr} {vs : List V} (hn : a ∉ L) (x : TupAt H a vs) : TupAt H' a vs ∧ a ∉ L' := by
  obtain ⟨o, h1, h2⟩ := x
  exact ⟨⟨o, e.keep _ _ hn h1, h2⟩, e.mem hn h1⟩
theorem Ext.fz (e : Ext L H L' H') {a : Addr} {u : HO} (hn : a ∉ L) (x : FzAt H a u) : FzAt H' a u ∧ a ∉ L' := let ⟨o, h⟩ := x; ⟨⟨o, e.keep _ _ hn h⟩, e.mem hn h⟩
mutual
theorem VR.mono (e : Ext L H L' H') : ∀ {p : PV} {v : V}, VR Z L H p v → VR Z L' H' p v
  | _, _, .non => .non
  | _, _, .bl b => .bl b
  | _, _, .int b => .int b
  | _, _, .str b => .str b
  | _, _, .tup h1 h2 h3 => .tup (e.tup h2 h1).1 (e.tup h2 h1).2 (VRs.mono e h3)
  | _, _, .lst h1 h2 h3 => .lst (e.fz h2 h1).1 (e.fz h2 h1).2 (VRs.mono e h3)
  | _, _, .scr h1 h2 => .scr (e.fz h2 h1).1 (e.fz h2 h1).2
  | _, _, .scrK h1 => .scrK h1
  | _, _, .dctK h1 h2 h3 h4 => .dctK (e.fz h2 h1).1 (e.fz h2 h1).2 h3 (VRs.mono e h4)
  | _, _, .dctT h1 h2 h0 h3 h4 h5 h6 => .dctT (e.fz h2 h1).1 (e.fz h2 h1).2 h0 h3 h4 (VRs.mono e h5) (VRs.mono e h6)
  | _, _, .ref h1 => .ref (e.get h1)
theorem VRs.mono (e : Ext L H L' H') : ∀ {p : List PV} {v : List V}, VRs Z L H p v → VRs Z L' H' p v
  | _, _, .nil => .nil
  | _, _, .cons h1 h2 => .cons (VR.mono e h1) (VRs.mono e h2)
end
theorem VRs.length : ∀ {p : List PV} {v : List V}, VRs Z L H p v → v.length = p.length
  | _, _, .nil => rfl
  | _, _, .cons _ h2 => by simp [VRs.length h2]
theorem VRs.append : ∀ {p q : List PV} {v u : List V}, VRs Z L H p v → VRs Z L H q u → VRs Z L H (p ++ q) (v ++ u)
  | _, _, _, _, .nil, x => x
  | _, _, _, _, .cons h1 h2, x => .cons h1 (VRs.append h2 x)
theorem VRs.get : ∀ {p : List PV} {v : List V} {i : Nat} {x : V}, VRs Z L H p v → v[i]? = some x → ∃ y, p[i]? = some y ∧ VR Z L H y x
  | _, _, _, _, .nil, e => by simp at e
  | _, _, 0, x, .cons h1 _, e => by simp at e; subst e; exact ⟨_, rfl, h1⟩
  | _, _, i + 1, x, .cons _ h2, e => by
    obtain ⟨y, h3, h4⟩ := VRs.get (i := i) h2 (by simpa using e)
    exact ⟨y, by simpa using h3, h4⟩
theorem VRs.get' {p : List PV} {v : List V} {i : Nat} {y : PV} (r : VRs Z L H p v) (e : p[i]? = some y) : ∃ x, v[i]? = some x ∧ VR Z L H y x := by
  have hl := r.length
  obtain ⟨hi, _⟩ := List.getElem?_eq_some_iff.mp e
  have hi' : i < v.length := by omega
  obtain ⟨y', e1, r1⟩ := r.get (List.getElem?_eq_getElem hi')
  rw [e] at e1; cases e1
  exact ⟨_, List.getElem?_eq_getElem hi', r1⟩
theorem VRs.take : ∀ {p : List PV} {v : List V} (n : Nat), VRs Z L H p v → VRs Z L H (p.take n) (v.take n)
  | _, _, 0, _ => .nil
  | _, _, _ + 1, .nil => .nil
  | _, _, n + 1, .cons r t => .cons r (VRs.take n t)
theorem VRs.drop : ∀ {p : List PV} {v : List V} (n : Nat), VRs Z L H p v → VRs Z L H (p.drop n) (v.drop n)
  | _, _, 0, r => r
  | _, _, _ + 1, .nil => .nil
  | _, _, n + 1, .cons _ t => VRs.drop n t
theorem VRs.set {x : V} {y : PV} (r : VR Z L H y x) : ∀ {p : List PV} {v : List V} (i : Nat), VRs Z L H p v → VRs Z L H (p.set i y) (v.set i x)
  | _, _, _, .nil => .nil
  | _, _, 0, .cons _ t => .cons r t
  | _, _, i + 1, .cons q t => .cons q (VRs.set r i t)
theorem VRs.rep {xs : List PV} {us : List V} (h : VRs Z L H xs us) : ∀ k : Nat, VRs Z L H (List.replicate k xs).flatten (List.replicate k us).flatten
  | 0 => .nil
  | k + 1 => by
    rw [List.replicate_succ, List.replicate_succ, List.flatten_cons, List.flatten_cons]
    exact h.append (VRs.rep h k)
theorem VRs.dropLast {p : List PV} {v : List V} (h : VRs Z L H p v) : VRs Z L H p.dropLast v.dropLast := by
  rw [List.dropLast_eq_take, List.dropLast_eq_take, h.length]
  exact h.take _
theorem VRs.eraseIdx : ∀ {p : List PV} {v : List V} (i : Nat), VRs Z L H p v → VRs Z L H (p.eraseIdx i) (v.eraseIdx i)
  | _, _, _, .nil => .nil
  | _, _, 0, .cons _ t => t
  | _, _, i + 1, .cons q t => .cons q (VRs.eraseIdx i t)
theorem VRs.snoc {p : List PV} {v : List V} {x : PV} {y : V} (h : VRs Z L H p v) (r : VR Z L H x y) : VRs Z L H (p ++ [x]) (v ++ [y]) := h.append (.cons r .nil)
theorem VRs.reverse : ∀ {p : List PV} {v : List V}, VRs Z L H p v → VRs Z L H p.reverse v.reverse
  | _, _, .nil => .nil
  | _, _, .cons r t => by
    rw [List.reverse_cons, List.reverse_cons]
    exact (VRs.reverse t).snoc r
theorem DP.mono (e : Ext L H L' H') {a : Addr} {W W' : HO → Prop} {es : List (PV × PV)} (ha : ∀ o, W o → W' o) (x : DP Z L H a W es) : DP Z L' H' a W' es := by
  cases x with
  | k h1 h2 h3 => exact .k (ha _ h1) h2 (h3.mono e)
  | t h1 h0 h2 h3 h4 h5 => exact .t (ha _ h1) h0 h2 h3 (h4.mono e) (h5.mono e)
theorem FzAt.keep {a : Addr} {u : HO} (ha : ∀ o, H a = some o → H' a = some o) (x : FzAt H a u) : FzAt H' a u := let ⟨o, h⟩ := x; ⟨o, ha _ h⟩
theorem CR.mono (e : Ext L H L' H') {a : Addr} {c : Cell} (ha : ∀ o, H a = some o → H' a = some o) (x : CR Z L H a c) : CR Z L' H' a c := by
  cases c with
  | lst xs => obtain ⟨vs, h1, h2⟩ := x; exact ⟨vs, ha _ h1, h2.mono e⟩
  | dct es => exact DP.mono e ha x
  | dctL es => exact DP.mono e (fun _ => FzAt.keep ha) x
  | obj _ _ => exact x
theorem Rd.isSome_ {a : Addr} {u : HO} (x : Rd H a u) : H a ≠ none := by
  rcases x with x | ⟨o, x⟩ <;> rw [x] <;> simp
theorem DP.isSome_ {a : Addr} {es : List (PV × PV)} (x : DR Z L H a es) : H a ≠ none := by
  cases x with
  | k h1 _ _ => exact Rd.isSome_ h1
  | t h1 _ _ _ _ _ => exact Rd.isSome_ h1
theorem CR.isSome_ {a : Addr} {c : Cell} (x : CR Z L H a c) : H a ≠ none := by
  cases c with
  | lst xs => obtain ⟨vs, h1, _⟩ := x; rw [h1]; simp
  | dct es => exact DP.isSome_ (DP.rd x)
  | dctL es => exact DP.isSome_ (DP.rdL x)
  | obj _ _ => exact x.elim
theorem HR.there (r : HR Z L h H) {a : Addr} (ha : a ∈ L) : H a ≠ none := by
  obtain ⟨n, hn⟩ := List.mem_iff_getElem?.mp ha
  obtain ⟨hl, _⟩ := List.getElem?_eq_some_iff.mp hn
  have := r.len
  exact (r.cell n _ a (List.getElem?_eq_getElem (by omega)) hn).isSome_
theorem HR.free (r : HR Z L h H) {a : Addr} (ha : H a = none) : a ∉ L := fun q => r.there q ha
theorem Ext.tr (e : Ext L H L' H') (r : HR Z L h H) (f : Ext L' H' L'' H'') : Ext L H L'' H'' := e.trans f fun _ => r.there
theorem HR.addr (r : HR Z L h H) {n : Nat} {c : Cell} (e : h[n]? = some c) : ∃ a, L[n]? = some a ∧ CR Z L H a c := by
  obtain ⟨hl, _⟩ := List.getElem?_eq_some_iff.mp e
  have := r.len
  have hL : n < L.length := by omega
  exact ⟨_, List.getElem?_eq_getElem hL, r.cell n c _ e (List.getElem?_eq_getElem hL)⟩
/-- a new object that is not live -/
theorem ext_new {p : Addr} {o : HO} (hp : H p = none) : Ext L H L (upd H p o) := by
  refine ⟨⟨[], by simp, by simp⟩, fun a u _ e => ?_, fun a e => ?_, fun a o' u e => ?_⟩
  · rw [upd_ne (ne_of_none e hp)]; exact e
  · unfold upd; split
    · simp
    · exact e
  · rw [upd_ne (ne_of_none e hp)]; exact e
theorem HR.new {p : Addr} {o : HO} (r : HR Z L h H) (hp : H p = none) : HR Z L h (upd H p o) :=
  ⟨r.len, r.nd, fun n c a h1 h2 => (r.cell n c a h1 h2).mono (ext_new hp) fun u e => by rw [upd_ne (ne_of_none e hp)]; exact e⟩
/-- a new live one -/
theorem ext_live {p : Addr} {o : HO} (hp : H p = none) : Ext L H (L ++ [p]) (upd H p o) := by
  refine ⟨⟨[p], rfl, by simp [hp]⟩, fun a u _ e => ?_, fun a e => ?_, fun a o' u e => ?_⟩
  · rw [upd_ne (ne_of_none e hp)]; exact e
  · unfold upd; split
    · simp
    · exact e
  · rw [upd_ne (ne_of_none e hp)]; exact e
theorem HR.live {p : Addr} {o : HO} {c : Cell} (r : HR Z L h H) (hp : H p = none) (x : CR Z (L ++ [p]) (upd H p o) p c) : HR Z (L ++ [p]) (h ++ [c]) (upd H p o) := by
  refine ⟨by simp [r.len], ?_, fun n c' a h1 h2 => ?_⟩
  · rw [List.nodup_append]
    refine ⟨r.nd, by simp, fun a ha b hb => ?_⟩
    simp only [List.mem_singleton] at hb
    subst hb
    intro e
    subst e
    exact r.free hp ha
  · by_cases hn : n < L.length
    · have hn' : n < h.length := by have := r.len; omega
      rw [List.getElem?_append_left hn'] at h1
      rw [List.getElem?_append_left hn] at h2
      exact (r.cell n c' a h1 h2).mono (ext_live hp) fun u e => by rw [upd_ne (ne_of_none e hp)]; exact e
    · have hl : n < (L ++ [p]).length := (List.getElem?_eq_some_iff.mp h2).1
      have en : n = L.length := by simp at hl; omega
      have en' : n = h.length := by rw [en, r.len]
      rw [en'] at h1
      rw [en] at h2
      simp at h1 h2
      subst h1 h2
      exact x
/-- nothing that is fixed -/
def NF (H : Hp) (p : Addr) : Prop := ∀ o u, H p ≠ some (.frz o u)
theorem nf_lst {p : Addr} {vs : List V} (h : H p = some (.lst vs)) : NF H p := fun o u e => by rw [h] at e; cases e
theorem nf_dx {p : Addr} {es : List (PV × PV)} (h : DX Z L H p es) : NF H p := fun o u e => by
  cases h with
  | k h1 _ _ => rw [h1] at e; cases e
  | t h1 _ _ _ _ _ => rw [h1] at e; cases e
theorem ext_write {p : Addr} {o : HO} (hp : p ∈ L) (hf : NF H p) : Ext L H L (upd H p o) := by
  refine ⟨⟨[], by simp, by simp⟩, fun a u hn e => ?_, fun a e => ?_, fun a o' u e => ?_⟩
  · rw [upd_ne (fun q => hn (by rw [q]; exact hp))]; exact e
  · unfold upd; split
    · simp
    · exact e
  · rw [upd_ne (fun q => hf o' u (by rw [← q]; exact e))]; exact e
theorem HR.write {p : Addr} {o : HO} {n : Nat} {c : Cell} (r : HR Z L h H) (hp : L[n]? = some p) (hf : NF H p) (x : CR Z L (upd H p o) p c) : HR Z L (h.set n c) (upd H p o) := by
  have hm : p ∈ L := List.mem_of_getElem? hp
  refine ⟨by simp [r.len], r.nd, fun m c' a h1 h2 => ?_⟩
  by_cases hmn : m = n
  · subst hmn
    rw [hp] at h2; cases h2
    have hn : m < h.length := by have := r.len; have := (List.getElem?_eq_some_iff.mp hp).1; omega
    rw [List.getElem?_set_self hn] at h1
    cases h1
    exact x
  · rw [List.getElem?_set_ne (Ne.symm hmn)] at h1
    have hap : a ≠ p := fun e => by
      subst e
      have := (List.getElem?_inj (List.getElem?_eq_some_iff.mp h2).1 r.nd).mp (h2.trans hp.symm)
      exact hmn this
    exact (r.cell m c' a h1 h2).mono (ext_write hm hf) fun u e => by rw [upd_ne hap]; exact e
end
/-- what is wanted of an answer -/
def Post (Z : Wd) (L : List Addr) (H : Hp) (v : PV) (h' : PHeap) (Q : VK) : Prop := ∀ x L' H', Ext L H L' H' → HR Z L' h' H' → VR Z L' H' v x → Q x H'
/-- the names' values -/
structure ER (Z : Wd) (L : List Addr) (H : Hp) (env : Env) (σ : L2.St) : Prop where
  len : env.length = σ.length
  at_ : ∀ (i : Nat) (v : PV), env[i]? = some (some v) → ∃ x, σ[i]? = some (some x) ∧ VR Z L H v x
section
variable {Z : Wd} {L L' L'' : List Addr} {H H' H'' : Hp} {h h' : PHeap} {env : Env} {σ : L2.St}
theorem ER.mono (e : Ext L H L' H') (x : ER Z L H env σ) : ER Z L' H' env σ := ⟨x.len, fun i v h1 => let ⟨y, h2, h3⟩ := x.at_ i v h1; ⟨y, h2, h3.mono e⟩⟩
theorem ER.set {i : Nat} {v : PV} {y : V} (x : ER Z L H env σ) (r : VR Z L H v y) : ER Z L H (env.set i (some v)) (σ.set i (some y)) := by
  refine ⟨by simp [x.len], fun j u h1 => ?_⟩
  by_cases hj : j = i
  · subst hj
    have hl : j < env.length := by
      have := (List.getElem?_eq_some_iff.mp h1).1
      simpa using this
    rw [List.getElem?_set_self hl] at h1
    cases h1
    exact ⟨y, List.getElem?_set_self (by rw [← x.len]; exact hl), r⟩
  · rw [List.getElem?_set_ne (Ne.symm hj)] at h1
    obtain ⟨z, h2, h3⟩ := x.at_ j u h1
    exact ⟨z, by rw [List.getElem?_set_ne (Ne.symm hj)]; exact h2, h3⟩
theorem wipe_len (env : Env) : ∀ vs : List Nat, (wipeE env vs).length = env.length
  | [] => rfl
  | v :: vs => by rw [wipeE, List.length_set, wipe_len env vs]
theorem ER.wipe (x : ER Z L H env σ) : ∀ vs : List Nat, ER Z L H (wipeE env vs) (L2.wipe σ vs)
  | [] => x
  | v :: vs => by
    have ih := ER.wipe x vs
    refine ⟨by rw [wipe_len, L2.wipe_length]; exact x.len, fun j u h1 => ?_⟩
    rw [wipeE] at h1
    rw [L2.wipe]
    by_cases hj : j = v
    · subst hj
      by_cases hl : j < (wipeE env vs).length
      · rw [List.getElem?_set_self hl] at h1; cases h1
      · rw [List.getElem?_eq_none (by rw [List.length_set]; omega)] at h1; cases h1
    · rw [List.getElem?_set_ne (Ne.symm hj)] at h1
      rw [List.getElem?_set_ne (Ne.symm hj)]
      exact ih.at_ j u h1
end
end HW
/-! HwD: operations on values. -/
namespace HW
open PySem PySem.Spec PyProof.Rows L2

section
variable {Z : Wd} {L : List Addr} {H : Hp} {h : PHeap}
theorem VR.list (r : HR Z L h H) {p : PV} {x : V} {xs : List PV} (v : VR Z L H p x) (e : asList h p = some xs) : ∃ a vs, x = .ref a ∧ Rd H a (.lst vs) ∧ VRs Z L H xs vs := by
  unfold asList at e
  split at e
  · cases e
    cases v with
    | lst h1 h2 h3 => exact ⟨_, _, rfl, .inr h1, h3⟩
  · rename_i n
    split at e
    · rename_i ys hn
      cases e
      cases v with
      | ref h1 =>
        obtain ⟨vs, h2, h3⟩ := r.cell _ _ _ hn h1
        exact ⟨_, vs, rfl, .inl h2, h3⟩
    · cases e
  · cases e
theorem VR.seq (r : HR Z L h H) {p : PV} {x : V} {xs : List PV} (v : VR Z L H p x) (e : asSeq h p = some xs) : ∃ a vs, x = .ref a ∧ (Rd H a (.lst vs) ∨ TupAt H a vs) ∧ VRs Z L H xs vs := by
  unfold asSeq at e
  split at e
  · cases e
    cases v with
    | tup h1 h2 h3 => exact ⟨_, _, rfl, .inr h1, h3⟩
  · obtain ⟨a, vs, h1, h2, h3⟩ := v.list r e
    exact ⟨a, vs, h1, .inl h2, h3⟩
theorem VR.dict (r : HR Z L h H) {p : PV} {x : V} {es : List (PV × PV)} (v : VR Z L H p x) (e : asDict h p = some es) : ∃ a, x = .ref a ∧ DR Z L H a es := by
  unfold asDict at e
  split at e
  · cases e
    cases v with
    | dctK h1 h2 h3 h4 => exact ⟨_, rfl, .k (.inr h1) h3 h4⟩
    | dctT h1 h2 h0 h3 h4 h5 h6 => exact ⟨_, rfl, .t (.inr h1) h0 h3 h4 h5 h6⟩
  · rename_i n
    split at e
    · rename_i ys hn
      cases e
      cases v with
      | ref h1 => exact ⟨_, rfl, DP.rd (r.cell _ _ _ hn h1)⟩
    · rename_i ys hn
      cases e
      cases v with
      | ref h1 => exact ⟨_, rfl, DP.rdL (r.cell _ _ _ hn h1)⟩
    · cases e
  · cases e
theorem seq_or {K : PySem.W.Frag} {a : Addr} {vs : List V} (x : Rd H a (.lst vs) ∨ TupAt H a vs) : SqL K H a vs ∨ SqT K H a vs := x.imp .inl TupAt.sq
theorem sqr {K : PySem.W.Frag} {a : Addr} {vs : List V} (x : Rd H a (.lst vs)) : SqL K H a vs := .inl x
variable {Q : VK}
theorem Post.bl {b : Bool} (q : Post Z L H (.bl b) h Q) (r : HR Z L h H) : Q (.bl b) H := q _ _ _ Ext.refl r (.bl b)
theorem Post.int {b : Int} (q : Post Z L H (.int b) h Q) (r : HR Z L h H) : Q (.int b) H := q _ _ _ Ext.refl r (.int b)
theorem Post.str {b : Str} (q : Post Z L H (.str b) h Q) (r : HR Z L h H) : Q (.str b) H := q _ _ _ Ext.refl r (.str b)
theorem Post.non (q : Post Z L H .non h Q) (r : HR Z L h H) : Q .non H := q _ _ _ Ext.refl r .non
theorem Post.same {p : PV} {x : V} (q : Post Z L H p h Q) (r : HR Z L h H) (v : VR Z L H p x) : Q x H := q _ _ _ Ext.refl r v
theorem Post.tup {xs : List PV} {vs : List V} (q : Post Z L H (.tup xs) h Q) (r : HR Z L h H) (v : VRs Z L H xs vs) {p : Addr} (hp : H p = none) {o : Obj} (ho : o.dict = none) : Q (.ref p) (upd H p (.frz o (.tup vs))) :=
  q _ _ _ (ext_new hp) (r.new hp) (.tup ⟨o, upd_same, ho⟩ (r.free hp) (v.mono (ext_new hp)))
theorem mk_ep {X : Cx} {pins : List (Addr × Obj)} {σ : L2.St} {s : Shared} {H : Hp} {L : List Addr} {h h' : PHeap} {al : Bool} {xs : List PV} {vs : List V} {r : PV} {p : Addr} {Q : VK} (I : Inv X pins σ (upd H p (.lst vs)) s) (hp : H p = none) (e : mkList al xs h = .ok r h') (post : Post (wd X) L H r h' Q)
    (hr : HR (wd X) L h H) (v : VRs (wd X) L H xs vs) : EP X pins σ Q (.ref p) s := by
  unfold mkList at e
  cases al with
  | false =>
    simp only [Bool.false_eq_true, if_false, R.ok.injEq] at e
    obtain ⟨rfl, rfl⟩ := e
    obtain ⟨od, I1⟩ := I.lock upd_same trivial
    rw [upd_upd] at I1
    exact ⟨.ref p, _, I1, rfl, post _ _ _ (ext_new hp) (hr.new hp) (.lst ⟨od, upd_same⟩ (hr.free hp) (v.mono (ext_new hp)))⟩
  | true =>
    simp only [if_true, R.ok.injEq] at e
    obtain ⟨rfl, rfl⟩ := e
    refine ⟨.ref p, _, I, rfl, post _ _ _ (ext_live hp) (hr.live hp ⟨vs, upd_same, v.mono (ext_live hp)⟩) (.ref ?_)⟩
    rw [← hr.len]
    simp
/-- a new list at any place -/
def NewL (H : Hp) (vs : List V) : VK := fun x H' => ∃ p, x = .ref p ∧ H p = none ∧ H' = upd H p (.lst vs)
theorem NewL.all {H : Hp} {vs : List V} : ∀ p, H p = none → NewL H vs (.ref p) (upd H p (.lst vs)) := fun p hp => ⟨p, rfl, hp, rfl⟩
theorem mk_wp {X : Cx} {pins : List (Addr × Obj)} {σ : L2.St} {s : Shared} {H : Hp} {L : List Addr} {h h' : PHeap} {al : Bool} {xs : List PV} {vs : List V} {r : PV} {Q : VK} {M : Model} {A : Around} {E : Value → Shared → Prop} {t : PySem.Sem Value}
    (w : wpAny M A t (EP X pins σ (NewL H vs)) E s) (e : mkList al xs h = .ok r h') (post : Post (wd X) L H r h' Q) (hr : HR (wd X) L h H) (v : VRs (wd X) L H xs vs) : wpAny M A t (EP X pins σ Q) E s :=
  thn w fun u s' ⟨x, H', I', rx, p, ex, hp, eH⟩ => by
    subst ex eH
    cases rx
    exact mk_ep I' hp e post hr v
/-- the object of a new tuple -/
abbrev tupO (us : List Value) : Obj := { cls := .type "tuple", data := .seq us.toArray }
/-- a tuple is laid -/
theorem tup_new {X : Cx} {pins : List (Addr × Obj)} {σ : L2.St} {s : Shared} {vs : List V} {us : List Value} {H : Hp} (I : Inv X pins σ H s) (r : Vals vs us) (hl : vs.length ≤ sizeLine) (t : Nat) :
    Inv X pins σ (upd H s.heap.objs.size (.frz (tupO us) (.tup vs))) { s with heap := s.heap.push (tupO us), toks := t } := by
  refine I.laid (fun b o e => Heap.get?_push_of_some _ e) (Nat.le_refl _) ⟨Heap.get?_push_size _ rfl, hl, us, r, IsTup.new s.heap _⟩
theorem ep_ref {X : Cx} {pins : List (Addr × Obj)} {σ : L2.St} {s : Shared} {H : Hp} {a : Addr} {Q : VK} (I : Inv X pins σ H s) (q : Q (.ref a) H) : EP X pins σ Q (.ref a) s := ⟨.ref a, H, I, rfl, q⟩
theorem tup_ep {X : Cx} {pins : List (Addr × Obj)} {σ : L2.St} {s : Shared} {H : Hp} {xs : List PV} {vs : List V} {us : List Value} {h : PHeap} {L : List Addr} {Q : VK} (I : Inv X pins σ H s) (hr : HR (wd X) L h H) (post : Post (wd X) L H (.tup xs) h Q) (v : VRs (wd X) L H xs vs) (r : Vals vs us) (hl : vs.length ≤ sizeLine) (t : Nat) :
    EP X pins σ Q (.ref s.heap.objs.size) { s with heap := s.heap.push (tupO us), toks := t } :=
  ⟨.ref s.heap.objs.size, _, tup_new I r hl t, rfl, post.tup hr v (I.hok.fresh (Nat.le_refl _)) rfl⟩
theorem lim : LIM = sizeLine := by rw [sizeLine_eq]; rfl
end

/-! ### lists that may be fixed -/
section
variable {X : Cx}
theorem lst_rd {pins : List (Addr × Obj)} {σ : L2.St} {s : Shared} {H : Hp} {l : Addr} {zs : List V} (I : Inv X pins σ H s) (k : Rd H l (.lst zs)) : zs.length ≤ sizeLine ∧ ∃ (us : List Value) (m : Nat), Vals zs us ∧ us.length = zs.length ∧ s.heap.get? l = some { cls := .type "list", data := .seq us.toArray m } := by
  obtain ⟨z, us, m, rv, g⟩ := k.ok I.hok
  exact ⟨z, us, m, rv, rv.length.symm, g⟩
theorem op_catR : OpR X (binaryOp .Add) (fun x y H Q => ∃ a b us ws, x = .ref a ∧ y = .ref b ∧ Rd H a (.lst us) ∧ Rd H b (.lst ws) ∧ us.length + ws.length ≤ sizeLine ∧ ∀ p, H p = none → Q (.ref p) (upd H p (.lst (us ++ ws)))) := by
  rintro pins s σ H x y v u Q I rx ry ⟨a, b, us, ws, rfl, rfl, ka, kb, few, q⟩
  cases rx; cases ry
  obtain ⟨_, as, na, ra, la, ga⟩ := lst_rd I ka
  obtain ⟨_, bs, nb, rb, lb, gb⟩ := lst_rd I kb
  refine PySem.P.add_list ga gb ?_ (by simp only [List.size_toArray]; omega)
  rw [show as.toArray ++ bs.toArray = (as ++ bs).toArray by simp]
  exact ⟨.ref _, _, Inv.lnew (t' := s.toks) I (ra.append rb) (by simp only [List.length_append]; omega), rfl, q _ I.fresh⟩
theorem rep_acc (us : List Value) (m : Nat) : List.foldl (fun x1 x2 => x1 ++ x2) #[] (List.replicate m us.toArray) = (List.replicate m us).flatten.toArray := by
  have := foldl_rep us m []
  simpa using this
theorem op_repR : OpR X (binaryOp .Mult) (fun x y H Q => ∃ a k us, x = .ref a ∧ y = .int k ∧ Rd H a (.lst us) ∧ -(2 ^ 63) ≤ k ∧ k < 2 ^ 63 ∧ us.length * k.toNat ≤ sizeLine ∧ ∀ p, H p = none → Q (.ref p) (upd H p (.lst (List.replicate k.toNat us).flatten))) := by
  rintro pins s σ H x y v u Q I rx ry ⟨a, k, us, rfl, rfl, ka, low, high, few, q⟩
  cases rx
  obtain ⟨t, rfl⟩ := ry
  obtain ⟨_, as, na, ra, la, ga⟩ := lst_rd I ka
  have fits : ¬ (!Builtin.List.listFitsIndex k) = true := by rw [fitsIndex_both low high]; decide
  have few' : as.toArray.size * k.toNat ≤ sizeLine := by simp only [List.size_toArray, la]; exact few
  have cap : ¬ as.toArray.size * k.toNat > (2 ^ 63 - 1) / 8 := fun z => by
    have w : (sizeLine : Nat) ≤ (2 ^ 63 - 1) / 8 := by decide
    omega
  have long : ¬ Builtin.List.listTooLong (as.toArray.size * k.toNat) = true := by rw [notLongL few']; decide
  have made : List.foldl (fun x1 x2 => x1 ++ x2) #[] (List.replicate (if as.toArray.isEmpty = true then 0 else k.toNat) as.toArray) = (List.replicate k.toNat as).flatten.toArray := by
    rw [rep_acc]
    cases as <;> simp
  refine wpAny_binaryOp_repeat_ref (T := "list") (U := "int") (by decide) ⟨_, ga, rfl⟩ (fun _ => typeIs_int _ k t) noFill_list_mul F.fills_int_mul F.slot_int_rmul repeat_list F.slot_int_index.lookup ?_
  refine call_meets F.slot_int_rmul (typeIs_int s k t) F.entry_int_rmul (F.args_int_rmul_2 _ _) (int___rmul___int_list k t a as.toArray na) ⟨ga, rfl, ⟨_, ga, rfl⟩, ?_⟩
  refine call_meets F.slot_list_mul ⟨_, ga, rfl⟩ F.entry_list_mul (F.args_list_mul_2 _ _)
    (AutoListH.list___mul___list_int_3 a as.toArray na k t fits cap long) ⟨ga, ?_⟩
  rw [made]
  exact ⟨.ref _, _, Inv.lnew (t' := s.toks) I (ra.rep k.toNat) (by simp only [PyProof.Rows.lm_len_rep_flat, Nat.mul_comm]; simpa [Nat.mul_comm] using few), rfl, q _ I.fresh⟩
end

def pyB : BOp → Operator
  | .add => .Add | .sub => .Sub | .mul => .Mult | .fdiv => .FloorDiv | .mod => .Mod | .pow => .Pow
def pyC : COp → CmpOp
  | .eq => .Eq | .ne => .NotEq | .lt => .Lt | .le => .LtE | .gt => .Gt | .ge => .GtE | .is => .Is | .isnot => .IsNot | .isin => .In | .notin => .NotIn
def rBin (X : Cx) (op : BOp) : R2 := fun x y H Q => ∃ L h p q r, HR (wd X) L h H ∧ VR (wd X) L H p x ∧ VR (wd X) L H q y ∧ binop op p q h = some r ∧ Post (wd X) L H r h Q
section
variable {X : Cx}
theorem op_bin (op : BOp) : OpR X (binaryOp (pyB op)) (rBin X op) := by
  intro pins s σ H x y v u Q I rx ry hw
  obtain ⟨L, h, p, q, r, hr, vp, vq, e, post⟩ := hw
  unfold binop at e
  split at e
  · cases e; cases vp; cases vq
    exact op_add pins s σ H _ _ v u Q I rx ry ⟨_, _, rfl, rfl, post.int hr⟩
  · cases e; cases vp; cases vq
    exact op_sub pins s σ H _ _ v u Q I rx ry ⟨_, _, rfl, rfl, post.int hr⟩
  · cases vp; cases vq
    split at e
    · rename_i hc
      cases e
      refine op_mul pins s σ H _ _ v u Q I rx ry ⟨_, _, rfl, rfl, ?_, post.int hr⟩
      rw [Bool.or_eq_true] at hc
      rcases hc with hc | hc
      · exact .inl (of_decide_eq_true hc)
      · exact .inr (of_decide_eq_true hc)
    · cases e
  · cases vp; cases vq
    split at e
    · rename_i hc
      cases e
      exact op_fdivN pins s σ H _ _ v u Q I rx ry ⟨_, _, rfl, rfl, hc, post.int hr⟩
    · cases e
  · cases vp; cases vq
    split at e
    · rename_i hc
      cases e
      exact op_modN pins s σ H _ _ v u Q I rx ry ⟨_, _, rfl, rfl, hc, post.int hr⟩
    · cases e
  · cases vp; cases vq
    split at e
    · rename_i hc
      cases e
      exact op_pow pins s σ H _ _ v u Q I rx ry ⟨_, _, rfl, rfl, hc, post.int hr⟩
    · cases e
  · rename_i xs ys
    split at e
    · rename_i hc
      cases e
      rw [lim] at hc
      cases vp with
      | tup h1 h2 h3 =>
        cases vq with
        | tup k1 k2 k3 =>
          have l1 := h3.length
          have l2 := k3.length
          cases rx
          cases ry
          obtain ⟨its, r1, t1, _⟩ := I.tuple (TupAt.sq h1)
          obtain ⟨its', r2, t2, _⟩ := I.tuple (TupAt.sq k1)
          have m1 := r1.length
          have m2 := r2.length
          by_cases hn : its = []
          · subst hn
            cases r1
            cases h3
            exact cat_tup0 t1 t2 (ep_ref I (post.same hr (.tup k1 k2 k3)))
          · refine HT.cat_tup t1 t2 hn (fun e => ?_) (fun _ => ?_) (by omega)
            · subst e
              cases r2
              cases k3
              rw [List.append_nil] at post
              exact ep_ref I (post.same hr (.tup h1 h2 h3))
            · exact tup_ep I hr post (h3.append k3) (r1.append r2) (by rw [List.length_append]; omega) s.toks
    · cases e
  · split at e
    · rename_i xs ys ex ey
      split at e
      · rename_i hc
        cases e
        rw [lim] at hc
        obtain ⟨a, vs, rfl, h1, h2⟩ := vp.list hr ex
        obtain ⟨b, us, rfl, k1, k2⟩ := vq.list hr ey
        have l1 := h2.length
        have l2 := k2.length
        exact mk_wp (al := false) (op_catR pins s σ H _ _ v u _ I rx ry ⟨_, _, _, _, rfl, rfl, h1, k1, by omega, NewL.all⟩) rfl post hr (h2.append k2)
      · cases e
    · cases e
  · split at e
    · rename_i xs ex
      split at e
      · rename_i hc
        cases e
        rw [lim] at hc
        obtain ⟨a, vs, rfl, h1, h2⟩ := vp.list hr ex
        cases vq
        have l1 := h2.length
        exact mk_wp (al := false) (op_repR pins s σ H _ _ v u _ I rx ry ⟨_, _, _, rfl, rfl, h1, by omega, by omega, by rw [l1]; exact hc.2.2, NewL.all⟩) rfl post hr (h2.rep _)
      · cases e
    · cases e
  · cases e
end

/-! ### data -/
section
variable {Z : Wd} {L : List Addr} {H : Hp} {h : PHeap}
mutual
theorem VR.dp : ∀ (p : PV) (d : PyData) (x : V), VR Z L H p x → toD p = some d → Dp Z.K H x d
  | .non, _, _, v, e => by cases v; cases e; exact .non
  | .bl b, _, _, v, e => by cases v; cases e; exact .bl b
  | .int b, _, _, v, e => by cases v; cases e; exact .int b
  | .str b, _, _, v, e => by cases v; cases e; exact .str b
  | .tup xs, _, _, v, e => by
    cases v with
    | tup h1 h2 h3 =>
      rw [toD] at e
      obtain ⟨ds, e1, rfl⟩ := Option.map_eq_some_iff.mp e
      exact .tup h1.sq (VRs.dp xs ds _ h3 e1)
  | .lst xs, _, _, v, e => by
    cases v with
    | lst h1 h2 h3 =>
      rw [toD] at e
      obtain ⟨ds, e1, rfl⟩ := Option.map_eq_some_iff.mp e
      exact .lst (sqr (.inr h1)) (VRs.dp xs ds _ h3 e1)
  | .dct _, _, _, _, e => by simp [toD] at e
  | .scr _, _, _, _, e => by simp [toD] at e
  | .ref _, _, _, _, e => by simp [toD] at e
theorem VRs.dp : ∀ (p : List PV) (d : List PyData) (x : List V), VRs Z L H p x → toDs p = some d → DpAll Z.K H x d
  | [], _, _, v, e => by cases v; rw [toDs] at e; cases e; exact .nil
  | p :: ps, d, _, v, e => by
    cases v with
    | cons h1 h2 =>
      rw [toDs] at e
      split at e
      · rename_i d1 ds e1 e2
        cases e
        exact .cons (VR.dp p d1 _ h1 e1) (VRs.dp ps ds _ h2 e2)
      · cases e
end
theorem VR.resDp (r : HR Z L h H) {p : PV} {d : PyData} {x : V} (v : VR Z L H p x) (e : toD (res h p) = some d) : Dp Z.K H x d := by
  unfold res at e
  split at e
  · rename_i n
    split at e
    · rename_i xs hn
      obtain ⟨a, vs, rfl, h1, h2⟩ := v.list r (xs := xs) (by simp [asList, hn])
      rw [toD] at e
      obtain ⟨ds, e1, rfl⟩ := Option.map_eq_some_iff.mp e
      exact .lst ((sqr h1)) (VRs.dp xs ds _ h2 e1)
    · simp [toD] at e
  · exact v.dp _ _ _ e
end
def rCmp (X : Cx) (op : COp) : R2 := fun x y H Q => ∃ L h p q r, HR (wd X) L h H ∧ VR (wd X) L H p x ∧ VR (wd X) L H q y ∧ cmpop op p q h = some r ∧ Post (wd X) L H (.bl r) h Q
section
variable {X : Cx}
theorem op_pyEq (hu : X.A.units + 64 < cLine) : OpR X (compareOp .Eq) (rCmp X .eq) := by
  intro pins s σ H x y v u Q I rx ry hw
  obtain ⟨L, h, p, q, r, hr, vp, vq, e, post⟩ := hw
  simp only [cmpop, pyEq] at e
  split at e
  · rename_i d d' e1 e2
    split at e
    · rename_i hs
      cases e
      rw [Bool.and_eq_true] at hs
      exact op_eqD hu pins s σ H _ _ v u Q I rx ry ⟨d, d', vp.resDp hr e1, vq.resDp hr e2, hs.1, hs.2, post.bl hr⟩
    · cases e
  · cases e
theorem op_pyNe (hu : X.A.units + 64 < cLine) : OpR X (compareOp .NotEq) (rCmp X .ne) := by
  intro pins s σ H x y v u Q I rx ry hw
  obtain ⟨L, h, p, q, r, hr, vp, vq, e, post⟩ := hw
  simp only [cmpop, pyEq] at e
  split at e
  · rename_i d d' e1 e2
    split at e
    · rename_i hs
      cases e
      rw [Bool.and_eq_true] at hs
      exact op_neD hu pins s σ H _ _ v u Q I rx ry ⟨d, d', vp.resDp hr e1, vq.resDp hr e2, hs.1, hs.2, post.bl hr⟩
    · cases e
  · cases e
end
end HW
/-! HwE: orders, dicts, items. -/
namespace HW
open PySem PySem.Spec PyProof.Rows L2

abbrev Um (X : Cx) : Prop := X.A.units + 100 < cLine
section
variable {X : Cx}
theorem ord_ok (hu : Um X) (op : COp) (hop : op = .lt ∨ op = .gt ∨ op = .le ∨ op = .ge) : OpR X (compareOp (pyC op)) (fun x y H Q => ∃ L h p q r, HR (wd X) L h H ∧ VR (wd X) L H p x ∧ VR (wd X) L H q y ∧ pyOrd op h p q = some r ∧ Post (wd X) L H (.bl r) h Q) := by
  intro pins s σ H x y v u Q I rx ry hw
  obtain ⟨L, h, p, q, r, hr, vp, vq, e, post⟩ := hw
  unfold pyOrd at e
  split at e
  · cases vp; cases vq
    have e' := Option.some.inj e
    subst e'
    rcases hop with rfl | rfl | rfl | rfl
    · exact op_lt pins s σ H _ _ v u Q I rx ry ⟨_, _, rfl, rfl, post.bl hr⟩
    · exact op_gt pins s σ H _ _ v u Q I rx ry ⟨_, _, rfl, rfl, post.bl hr⟩
    · exact op_le pins s σ H _ _ v u Q I rx ry ⟨_, _, rfl, rfl, post.bl hr⟩
    · exact op_ge pins s σ H _ _ v u Q I rx ry ⟨_, _, rfl, rfl, post.bl hr⟩
  · split at e
    · rename_i d d' e1 e2
      split at e
      · rename_i hc
        simp only [Bool.and_eq_true, Bool.not_eq_true'] at hc
        obtain ⟨⟨⟨h1, h2⟩, h3⟩, h4⟩ := hc
        have hn : d ≠ .none := by rintro rfl; simp [isNone] at h2
        have e' := Option.some.inj e
        subst e'
        obtain ⟨as, r1⟩ := Dp.reads I d x v (vp.resDp hr e1) rx
        obtain ⟨bs, r2⟩ := Dp.reads I d' y u (vq.resDp hr e2) ry
        have hroom : X.A.units + min d.depth d'.depth < cLine := SeqAt.room_of_shaped h3 (by omega)
        rcases hop with rfl | rfl | rfl | rfl
        · exact PySem.W.lt_data r1 r2 h1 hn hroom ⟨.bl _, H, I, rfl, post.bl hr⟩
        · exact PySem.W.gt_data r1 r2 h1 hn hroom ⟨.bl _, H, I, rfl, post.bl hr⟩
        · exact PySem.W.le_data r1 r2 h1 hn hroom ⟨.bl _, H, I, rfl, post.bl hr⟩
        · exact PySem.W.ge_data r1 r2 h1 hn hroom ⟨.bl _, H, I, rfl, post.bl hr⟩
      · cases e
    · cases e
theorem VR.none_iff {Z : Wd} {L : List Addr} {H : Hp} {p : PV} {x : V} (v : VR Z L H p x) : decide (x = .non) = decide (p = .non) := by
  cases v <;> simp
theorem op_pyIs : OpR X (compareOp .Is) (rCmp X .is) := by
  intro pins s σ H x y v u Q I rx ry hw
  obtain ⟨L, h, p, q, r, hr, vp, vq, e, post⟩ := hw
  simp only [cmpop] at e
  split at e
  · cases vq
    cases e
    refine op_isN pins s σ H _ _ v u Q I rx ry ⟨rfl, ?_⟩
    rw [vp.none_iff]
    exact post.bl hr
  · cases e
theorem op_pyIsnot : OpR X (compareOp .IsNot) (rCmp X .isnot) := by
  intro pins s σ H x y v u Q I rx ry hw
  obtain ⟨L, h, p, q, r, hr, vp, vq, e, post⟩ := hw
  simp only [cmpop] at e
  split at e
  · cases vq
    cases e
    refine op_notN pins s σ H _ _ v u Q I rx ry ⟨rfl, ?_⟩
    rw [vp.none_iff]
    exact post.bl hr
  · cases e
end

/-! ### keys -/
theorem kP_inj {a b : L2.Key} (e : kP a = kP b) : a = b := by
  cases a <;> cases b <;> simp [kP] at e <;> rw [e]
theorem keyV_kP {p : PV} (e : keyV p = true) : ∃ k, p = kP k := by
  cases p <;> simp [keyV] at e
  · exact ⟨.inl _, rfl⟩
  · exact ⟨.inr _, rfl⟩
mutual
theorem toN_inj : ∀ (a b : PV) (k : NestedKey), toN a = some k → toN b = some k → a = b
  | .non, b, k, h1, h2 => by
    cases h1
    cases b <;> simp [toN] at h2 <;> rfl
  | .int i, b, k, h1, h2 => by
    cases h1
    cases b <;> simp [toN] at h2 <;> rw [h2]
  | .str i, b, k, h1, h2 => by
    cases h1
    cases b <;> simp [toN] at h2 <;> rw [h2]
  | .tup xs, b, k, h1, h2 => by
    rw [toN] at h1
    obtain ⟨ks, e1, rfl⟩ := Option.map_eq_some_iff.mp h1
    cases b with
    | tup ys =>
      rw [toN] at h2
      obtain ⟨ks', e2, e3⟩ := Option.map_eq_some_iff.mp h2
      cases e3
      rw [toNs_inj xs ys ks e1 e2]
    | _ => simp [toN] at h2
  | .bl _, _, _, h1, _ => by simp [toN] at h1
  | .lst _, _, _, h1, _ => by simp [toN] at h1
  | .dct _, _, _, h1, _ => by simp [toN] at h1
  | .scr _, _, _, h1, _ => by simp [toN] at h1
  | .ref _, _, _, h1, _ => by simp [toN] at h1
theorem toNs_inj : ∀ (a b : List PV) (k : List NestedKey), toNs a = some k → toNs b = some k → a = b
  | [], b, k, h1, h2 => by
    cases h1
    cases b with
    | nil => rfl
    | cons y ys =>
      rw [toNs] at h2
      split at h2 <;> cases h2
  | x :: xs, b, k, h1, h2 => by
    rw [toNs] at h1
    split at h1
    · rename_i d ds e1 e2
      cases h1
      cases b with
      | nil => cases h2
      | cons y ys =>
        rw [toNs] at h2
        split at h2
        · rename_i d' ds' e3 e4
          cases h2
          rw [toN_inj x y d e1 e3, toNs_inj xs ys ds e2 e4]
        · cases h2
    · cases h1
end
theorem keyT_toN {p : PV} (e : keyT p = true) : ∃ xs k, p = .tup xs ∧ toN p = some k ∧ k.depth ≤ 8 := by
  unfold keyT at e
  split at e
  · rename_i xs
    split at e
    · rename_i k hk
      exact ⟨xs, k, rfl, hk, of_decide_eq_true e⟩
    · cases e
  · cases e
section
variable {Z : Wd} {L : List Addr} {H : Hp} {h : PHeap}
abbrev PKs (Z : Wd) (L : List Addr) (H : Hp) : List (PV × PV) → List (L2.Key × V) → Prop := Paired fun (e : PV × PV) (q : L2.Key × V) => e.1 = kP q.1 ∧ VR Z L H e.2 q.2
abbrev PTs_ (Z : Wd) (L : List Addr) (H : Hp) : List (PV × PV) → List (NestedKey × Addr × V) → Prop := Paired fun (e : PV × PV) (q : NestedKey × Addr × V) => keyT e.1 = true ∧ toN e.1 = some q.1 ∧ VR Z L H e.1 (.ref q.2.1) ∧ VR Z L H e.2 q.2.2
theorem pks_of : ∀ {es : List (PV × PV)} {kvs : List (L2.Key × V)}, es.map (·.1) = kvs.map (fun p => kP p.1) → VRs Z L H (es.map (·.2)) (kvs.map (·.2)) → PKs Z L H es kvs
  | [], [], _, _ => .nil
  | [], _ :: _, e, _ => by simp at e
  | _ :: _, [], e, _ => by simp at e
  | e :: es, q :: kvs, e1, r => by
    simp only [List.map_cons, List.cons.injEq] at e1
    cases r with
    | cons r1 r2 => exact .cons ⟨e1.1, r1⟩ (pks_of e1.2 r2)
theorem of_pks : ∀ {es : List (PV × PV)} {kvs : List (L2.Key × V)}, PKs Z L H es kvs → es.map (·.1) = kvs.map (fun p => kP p.1) ∧ VRs Z L H (es.map (·.2)) (kvs.map (·.2))
  | _, _, .nil => ⟨rfl, .nil⟩
  | _, _, .cons h1 h2 => by
    obtain ⟨a, b⟩ := of_pks h2
    exact ⟨by rw [List.map_cons, List.map_cons, h1.1, a], .cons h1.2 b⟩
theorem pts_of : ∀ {es : List (PV × PV)} {xs : List (NestedKey × Addr × V)}, toNs (es.map (·.1)) = some (xs.map (·.1)) → (es.all fun e => keyT e.1) = true →
      VRs Z L H (es.map (·.1)) (xs.map fun x => .ref x.2.1) → VRs Z L H (es.map (·.2)) (xs.map (·.2.2)) → PTs_ Z L H es xs
  | [], [], _, _, _, _ => .nil
  | [], _ :: _, e, _, _, _ => by simp [toNs] at e
  | _ :: _, [], e, _, _, _ => by
    simp only [List.map_cons, List.map_nil] at e
    rw [toNs] at e
    split at e <;> simp at e
  | e :: es, q :: xs, e1, e2, r1, r2 => by
    simp only [List.map_cons] at e1
    rw [toNs] at e1
    rw [List.all_cons, Bool.and_eq_true] at e2
    split at e1
    · rename_i d ds k1 k2
      simp only [Option.some.injEq, List.cons.injEq] at e1
      cases r1 with
      | cons r1 s1 =>
        cases r2 with
        | cons r2 s2 => exact .cons ⟨e2.1, by rw [k1, e1.1], r1, r2⟩ (pts_of (by rw [k2, e1.2]) e2.2 s1 s2)
    · cases e1
theorem of_pts : ∀ {es : List (PV × PV)} {xs : List (NestedKey × Addr × V)}, PTs_ Z L H es xs → toNs (es.map (·.1)) = some (xs.map (·.1)) ∧ (es.all fun e => keyT e.1) = true ∧
      VRs Z L H (es.map (·.1)) (xs.map fun x => .ref x.2.1) ∧ VRs Z L H (es.map (·.2)) (xs.map (·.2.2))
  | _, _, .nil => ⟨rfl, rfl, .nil, .nil⟩
  | _, _, .cons h1 h2 => by
    obtain ⟨a, b, c, d⟩ := of_pts h2
    refine ⟨?_, ?_, .cons h1.2.2.1 c, .cons h1.2.2.2 d⟩
    · simp only [List.map_cons]
      rw [toNs, h1.2.1, a]
    · rw [List.all_cons, h1.1, b]; rfl
theorem PKs.keys {es : List (PV × PV)} {kvs : List (L2.Key × V)} (r : PKs Z L H es kvs) : (es.all fun e => keyV e.1) = true := by
  induction r with
  | nil => rfl
  | cons h1 _ ih =>
    rename_i e q _ _ _
    rw [List.all_cons, ih, h1.1]
    cases q.1 <;> rfl
/-- what is found -/
def ORel (Z : Wd) (L : List Addr) (H : Hp) : Option PV → Option V → Prop
  | some p, some x => VR Z L H p x
  | none, none => True
  | _, _ => False
theorem PKs.find {es : List (PV × PV)} {kvs : List (L2.Key × V)} (r : PKs Z L H es kvs) (k : L2.Key) : ORel Z L H (dFind es (kP k)) (valV kvs k) := by
  induction r with
  | nil => trivial
  | cons h1 _ ih =>
    rename_i e q es qs _
    by_cases hk : q.1 = k
    · rw [valV_pos hk, dFind, List.find?_cons, decide_eq_true (by rw [h1.1, hk])]
      exact h1.2
    · rw [valV_neg hk, dFind, List.find?_cons, decide_eq_false (by rw [h1.1]; exact fun e => hk (kP_inj e))]
      exact ih
theorem PKs.any {es : List (PV × PV)} {kvs : List (L2.Key × V)} (r : PKs Z L H es kvs) (k : L2.Key) : (es.any fun e => decide (e.1 = kP k)) = (kvs.any fun kv => decide (kv.1 = k)) := by
  induction r with
  | nil => rfl
  | cons h1 _ ih =>
    rename_i e q es qs _
    rw [List.any_cons, List.any_cons, ih, h1.1]
    congr 1
    by_cases hk : q.1 = k
    · simp [hk]
    · rw [decide_eq_false hk, decide_eq_false fun e => hk (kP_inj e)]
theorem PKs.repl {es : List (PV × PV)} {kvs : List (L2.Key × V)} (r : PKs Z L H es kvs) (k : L2.Key) {p : PV} {x : V} (v : VR Z L H p x) :
    PKs Z L H (es.map fun e => if e.1 = kP k then (e.1, p) else e) (kvs.map fun kv => if kv.1 = k then (kv.1, x) else kv) := by
  induction r with
  | nil => exact .nil
  | cons h1 _ ih =>
    rename_i e q es qs _
    refine .cons ?_ ih
    dsimp only
    by_cases hk : q.1 = k
    · rw [if_pos hk, if_pos (by rw [h1.1, hk])]
      exact ⟨h1.1, v⟩
    · rw [if_neg hk, if_neg (by rw [h1.1]; exact fun e => hk (kP_inj e))]
      exact h1
theorem PKs.put {es : List (PV × PV)} {kvs : List (L2.Key × V)} (r : PKs Z L H es kvs) (k : L2.Key) {p : PV} {x : V} (v : VR Z L H p x) : PKs Z L H (dPut es (kP k) p) (putK kvs k x) := by
  unfold dPut putK
  rw [r.any]
  split
  · exact r.repl k v
  · exact r.snoc ⟨rfl, v⟩
theorem PTs_.key {e : PV} {n : NestedKey} {k : NestedKey} {p : PV} (h1 : toN e = some n) (hp : toN p = some k) : (e = p) ↔ n = k :=
  ⟨fun x => by rw [x, hp] at h1; cases h1; rfl, fun x => by subst x; exact toN_inj _ _ _ h1 hp⟩
def fT (xs : List (NestedKey × Addr × V)) (k : NestedKey) : Option V := (xs.find? fun x => decide (x.1 = k)).map (·.2.2)
theorem PTs_.find {es : List (PV × PV)} {xs : List (NestedKey × Addr × V)} (r : PTs_ Z L H es xs) {p : PV} {k : NestedKey} (hp : toN p = some k) : ORel Z L H (dFind es p) (fT xs k) := by
  induction r with
  | nil => trivial
  | cons h1 _ ih =>
    rename_i e q es qs _
    by_cases hk : q.1 = k
    · rw [fT, List.find?_cons, decide_eq_true hk, dFind, List.find?_cons, decide_eq_true ((PTs_.key h1.2.1 hp).mpr hk)]
      exact h1.2.2.2
    · rw [fT, List.find?_cons, decide_eq_false hk, dFind, List.find?_cons, decide_eq_false (fun e => hk ((PTs_.key h1.2.1 hp).mp e))]
      exact ih
def storedT (xs : List (NestedKey × Addr × V)) (k : NestedKey) (b : Addr) (x : V) : List (NestedKey × Addr × V) :=
  if (fT xs k).isSome then xs.map (fun y => if y.1 = k then (y.1, y.2.1, x) else y) else xs ++ [(k, b, x)]
theorem PTs_.any {es : List (PV × PV)} {xs : List (NestedKey × Addr × V)} (r : PTs_ Z L H es xs) {p : PV} {k : NestedKey} (hp : toN p = some k) : (es.any fun e => decide (e.1 = p)) = (fT xs k).isSome := by
  induction r with
  | nil => rfl
  | cons h1 _ ih =>
    rename_i e q es qs _
    rw [List.any_cons, fT, List.find?_cons]
    by_cases hk : q.1 = k
    · rw [decide_eq_true hk, decide_eq_true ((PTs_.key h1.2.1 hp).mpr hk)]
      rfl
    · rw [decide_eq_false hk, decide_eq_false (fun e => hk ((PTs_.key h1.2.1 hp).mp e)), Bool.false_or]
      exact ih
theorem PTs_.repl {es : List (PV × PV)} {xs : List (NestedKey × Addr × V)} (r : PTs_ Z L H es xs) {p : PV} {k : NestedKey} (hp : toN p = some k) {z : PV} {x : V} (v : VR Z L H z x) :
    PTs_ Z L H (es.map fun e => if e.1 = p then (e.1, z) else e) (xs.map fun y => if y.1 = k then (y.1, y.2.1, x) else y) := by
  induction r with
  | nil => exact .nil
  | cons h1 _ ih =>
    rename_i e q es qs _
    refine .cons ?_ ih
    dsimp only
    by_cases hk : q.1 = k
    · rw [if_pos hk, if_pos ((PTs_.key h1.2.1 hp).mpr hk)]
      exact ⟨h1.1, h1.2.1, h1.2.2.1, v⟩
    · rw [if_neg hk, if_neg (fun e => hk ((PTs_.key h1.2.1 hp).mp e))]
      exact h1
theorem PTs_.put {es : List (PV × PV)} {xs : List (NestedKey × Addr × V)} (r : PTs_ Z L H es xs) {p : PV} {k : NestedKey} (ht : keyT p = true) (hp : toN p = some k) {b : Addr} (vb : VR Z L H p (.ref b)) {z : PV} {x : V} (v : VR Z L H z x) :
    PTs_ Z L H (dPut es p z) (storedT xs k b x) := by
  unfold dPut storedT
  rw [r.any hp]
  split
  · exact r.repl hp v
  · exact r.snoc ⟨ht, hp, vb, v⟩
theorem DP.cases {a : Addr} {W : HO → Prop} {es : List (PV × PV)} (x : DP Z L H a W es) : (∃ kvs, W (.dK kvs) ∧ PKs Z L H es kvs) ∨ ∃ xs, W (dictB Z.P Z.w a xs) ∧ es ≠ [] ∧ PTs_ Z L H es xs := by
  cases x with
  | k h1 h2 h3 => exact .inl ⟨_, h1, pks_of h2 h3⟩
  | t h1 h0 h2 h3 h4 h5 => exact .inr ⟨_, h1, h0, pts_of h2 h3 h4 h5⟩
theorem DP.ofK {a : Addr} {W : HO → Prop} {es : List (PV × PV)} {kvs : List (L2.Key × V)} (h1 : W (.dK kvs)) (r : PKs Z L H es kvs) : DP Z L H a W es := .k h1 (of_pks r).1 (of_pks r).2
theorem DP.ofT {a : Addr} {W : HO → Prop} {es : List (PV × PV)} {xs : List (NestedKey × Addr × V)} (h1 : W (dictB Z.P Z.w a xs)) (h0 : es ≠ []) (r : PTs_ Z L H es xs) : DP Z L H a W es :=
  let ⟨a, b, c, d⟩ := of_pts r
  .t h1 h0 a b c d
end
/-! ### in the model -/
section
variable {X : Cx} {pins : List (Addr × Obj)} {σ : L2.St} {H : Hp} {s : Shared} {L : List Addr}
mutual
theorem VR.nested (I : Inv X pins σ H s) : ∀ (p : PV) (k : NestedKey) (x : V) (u : Value), VR (wd X) L H p x → toN p = some k → RelV x u → NestedIs s.heap k u
  | .non, _, _, _, v, e, r => by cases v; cases e; cases r; exact .none
  | .int i, _, _, _, v, e, r => by cases v; cases e; obtain ⟨t, rfl⟩ := r; exact .int _ _
  | .str i, _, _, _, v, e, r => by cases v; cases e; obtain ⟨t, rfl⟩ := r; exact .text _ _
  | .tup xs, _, _, _, v, e, r => by
    cases v with
    | tup h1 h2 h3 =>
      cases r
      rw [toN] at e
      obtain ⟨ks, e1, rfl⟩ := Option.map_eq_some_iff.mp e
      obtain ⟨its, rv, ⟨o, ho, hc, n, hd⟩, _⟩ := I.tuple (TupAt.sq h1)
      exact .tup ho hc hd (VRs.nested I xs ks _ _ h3 e1 (by simpa using rv))
  | .bl _, _, _, _, _, e, _ => by simp [toN] at e
  | .lst _, _, _, _, _, e, _ => by simp [toN] at e
  | .dct _, _, _, _, _, e, _ => by simp [toN] at e
  | .scr _, _, _, _, _, e, _ => by simp [toN] at e
  | .ref _, _, _, _, _, e, _ => by simp [toN] at e
theorem VRs.nested (I : Inv X pins σ H s) : ∀ (p : List PV) (k : List NestedKey) (x : List V) (u : List Value), VRs (wd X) L H p x → toNs p = some k → Vals x u → NestedAll s.heap k u
  | [], _, _, _, v, e, r => by cases v; cases e; cases r; exact .nil
  | p :: ps, _, _, _, v, e, r => by
    cases v with
    | cons h1 h2 =>
      cases r with
      | cons r1 r2 =>
        rw [toNs] at e
        split at e
        · rename_i d ds e1 e2
          cases e
          exact .cons (VR.nested I p d _ _ h1 e1 r1) (VRs.nested I ps ds _ _ h2 e2 r2)
        · cases e
end
theorem VR.isKey (I : Inv X pins σ H s) {p : PV} {k : NestedKey} {b : Addr} (v : VR (wd X) L H p (.ref b)) (e : toN p = some k) (hd : k.depth ≤ 8) : (nestedKind X.prog X.w).is s.heap k b := ⟨VR.nested I p k _ _ v e rfl, hd⟩
abbrev XY : List (NestedKey × Addr × V) → List (NestedKey × Addr × Value) → Prop := Paired fun p q => p.1 = q.1 ∧ p.2.1 = q.2.1 ∧ RelV p.2.2 q.2.2
theorem xy_keys {xs : List (NestedKey × Addr × V)} {ys : List (NestedKey × Addr × Value)} (r : XY xs ys) : xs.map (·.1) = ys.map (·.1) := by
  induction r with
  | nil => rfl
  | cons g1 _ ih => rw [List.map_cons, List.map_cons, ih, g1.1]
theorem ys_keys (I : Inv X pins σ H s) {es : List (PV × PV)} {xs : List (NestedKey × Addr × V)} {ys : List (NestedKey × Addr × Value)} (r : PTs_ (wd X) L H es xs) (r1 : XY xs ys) : ∀ y ∈ ys, (nestedKind X.prog X.w).is s.heap y.1 y.2.1 := by
  induction r1 generalizing es with
  | nil => intro y hy; cases hy
  | cons g1 _ ih =>
    cases r with
    | cons f1 f2 =>
      intro y hy
      rcases List.mem_cons.mp hy with rfl | hy
      · obtain ⟨_, _, _, hk, hdp⟩ := keyT_toN f1.1
        rw [f1.2.1] at hk; cases hk
        rw [← g1.1, ← g1.2.1]
        exact VR.isKey I f1.2.2.1 f1.2.1 hdp
      · exact ih f2 y hy
/-- a dict with tuple keys, as the library says it -/
theorem dictB_raw (I : Inv X pins σ H s) {a : Addr} {es : List (PV × PV)} {xs : List (NestedKey × Addr × V)} (ha : Rd H a (dictB X.prog X.w a xs)) (r : PTs_ (wd X) L H es xs) :
    ∃ ys : List (NestedKey × Addr × Value), Paired (fun (p : NestedKey × Addr × V) (q : NestedKey × Addr × Value) => p.1 = q.1 ∧ p.2.1 = q.2.1 ∧ RelV p.2.2 q.2.2) xs ys ∧ xs.length ≤ sizeLine ∧ (a == sysModules) = false ∧ s.heap.DictOfH (nestedKind X.prog X.w) a ys := by
  obtain ⟨⟨ys, r1, h1, h2, h3, o, es', ep, k1, k2, k3, k4⟩, _, _⟩ := ha.ok I.hok
  refine ⟨ys, r1, h1, h2, o, es', ep, k1, k2, k3, k4, ?_, ?_⟩
  · exact ys_keys I r r1
  · rw [← xy_keys r1]
    exact h3
theorem ys_at {xs : List (NestedKey × Addr × V)} {ys : List (NestedKey × Addr × Value)} (r : Paired (fun (p : NestedKey × Addr × V) (q : NestedKey × Addr × Value) => p.1 = q.1 ∧ p.2.1 = q.2.1 ∧ RelV p.2.2 q.2.2) xs ys) (k : NestedKey) :
    RelO (fT xs k) ((atKey ys k).map (·.2)) := by
  induction r with
  | nil => trivial
  | cons h1 _ ih =>
    rename_i p q _ _ _
    rw [fT, atKey, List.find?_cons, List.find?_cons]
    by_cases hk : p.1 = k
    · rw [decide_eq_true hk, decide_eq_true (by rw [← h1.1]; exact hk)]
      exact h1.2.2
    · rw [decide_eq_false hk, decide_eq_false (by rw [← h1.1]; exact hk)]
      exact ih
theorem dictB_ok {a : Addr} {xs : List (NestedKey × Addr × V)} {ys : List (NestedKey × Addr × Value)} {H' : Hp} {h' : Heap} (r : Paired (fun (p : NestedKey × Addr × V) (q : NestedKey × Addr × Value) => p.1 = q.1 ∧ p.2.1 = q.2.1 ∧ RelV p.2.2 q.2.2) xs ys)
    (h1 : xs.length ≤ sizeLine) (h2 : (a == sysModules) = false) (d : h'.DictOfH (nestedKind X.prog X.w) a ys) : ObjOk X.prog X.w H' h' a (dictB X.prog X.w a xs) := by
  obtain ⟨o, es, ep, k1, k2, k3, k4, k5, k6⟩ := d
  have e : xs.map (·.1) = ys.map (·.1) := xy_keys r
  refine ⟨⟨ys, r, h1, h2, by rw [e]; exact k6, o, es, ep, k1, k2, k3, k4⟩, ⟨o, k1⟩, fun g1 g2 hg hs => ?_⟩
  obtain ⟨ys', r', q1, q2, q3, o', es', ep', m1, m2, m3, m4⟩ := hg
  exact ⟨ys', r', q1, q2, q3, o', es', ep', hs _ m1, m2, m3, m4⟩
theorem xy_repl {xs : List (NestedKey × Addr × V)} {ys : List (NestedKey × Addr × Value)} (r : XY xs ys) (k : NestedKey) {x : V} {u : Value} (rx : RelV x u) : XY (xs.map fun y => if y.1 = k then (y.1, y.2.1, x) else y) (ys.map (putAt k u)) := by
  induction r with
  | nil => exact .nil
  | cons h1 _ ih =>
    rename_i p q _ _ _
    refine .cons ?_ ih
    unfold putAt
    dsimp only
    by_cases hk : p.1 = k
    · rw [if_pos hk, if_pos (by rw [← h1.1]; exact hk)]
      exact ⟨h1.1, h1.2.1, rx⟩
    · rw [if_neg hk, if_neg (by rw [← h1.1]; exact hk)]
      exact h1
theorem stored_ys {xs : List (NestedKey × Addr × V)} {ys : List (NestedKey × Addr × Value)} (r : Paired (fun (p : NestedKey × Addr × V) (q : NestedKey × Addr × Value) => p.1 = q.1 ∧ p.2.1 = q.2.1 ∧ RelV p.2.2 q.2.2) xs ys) (k : NestedKey) (b : Addr) {x : V} {u : Value} (rx : RelV x u) :
    Paired (fun (p : NestedKey × Addr × V) (q : NestedKey × Addr × Value) => p.1 = q.1 ∧ p.2.1 = q.2.1 ∧ RelV p.2.2 q.2.2) (storedT xs k b x) (storedH ys k b u) := by
  have hs := (ys_at r k).isSome_eq
  rw [Option.isSome_map] at hs
  unfold storedT storedH
  rw [hs]
  split
  · exact xy_repl r k rx
  · exact r.snoc ⟨rfl, rfl, rx⟩
/-- an empty dict is one for tuples too -/
theorem dK_nil (I : Inv X pins σ H s) {a : Addr} (ha : Rd H a (.dK [])) : (a == sysModules) = false ∧ s.heap.DictOfH (nestedKind X.prog X.w) a [] := by
  obtain ⟨_, hd, vs, kv, o, es, ep, h1, h2, h3, h4, h5, h6⟩ := dk_rd I.hok ha
  cases kv
  refine ⟨hd, o, es, ep, h1, h2, h3, ?_, (fun x hx => by cases hx), List.nodup_nil⟩
  have : es.toList = [] := by
    cases hh : es.toList with
    | nil => rfl
    | cons x r => rw [hh] at h5; cases h5
  rw [this]; rfl
theorem room_nested (hu : Um X) : (nestedKind X.prog X.w).room X.A.in1 := by
  show X.A.in1.units + 8 < cLine
  rw [Around.in1_units]
  have : X.A.units + 100 < cLine := hu
  omega
/-- what the dict at a holds at the key p: any reader that the library has for both kinds of dicts -/
theorem dict_case (I : Inv X pins σ H s) {a : Addr} {W : HO → Prop} (hW : ∀ u, W u → Rd H a u) {es : List (PV × PV)} {p : PV} {x : V} {u : Value} (d : DP (wd X) L H a W es) (ok : keyOk es p = true) (v : VR (wd X) L H p x) (r : RelV x u) :
    (∃ kvs k, W (.dK kvs) ∧ PKs (wd X) L H es kvs ∧ p = kP k ∧ x = kV k) ∨
    ∃ xs ys k b, PTs_ (wd X) L H es xs ∧ Paired (fun (p : NestedKey × Addr × V) (q : NestedKey × Addr × Value) => p.1 = q.1 ∧ p.2.1 = q.2.1 ∧ RelV p.2.2 q.2.2) xs ys ∧ xs.length ≤ sizeLine ∧ (a == sysModules) = false ∧
      s.heap.DictOfH (nestedKind X.prog X.w) a ys ∧ keyT p = true ∧ toN p = some k ∧ (nestedKind X.prog X.w).is s.heap k b ∧ x = .ref b ∧ u = .ref b ∧ (W (dictB X.prog X.w a xs) ∨ W (.dK [])) := by
  unfold keyOk at ok
  rw [Bool.or_eq_true, Bool.and_eq_true, Bool.and_eq_true] at ok
  have tup : keyT p = true → ∃ k b, toN p = some k ∧ (nestedKind X.prog X.w).is s.heap k b ∧ x = .ref b ∧ u = .ref b := fun ht => by
    obtain ⟨ys, k, rfl, hk, hdp⟩ := keyT_toN ht
    cases v with
    | tup h1 h2 h3 =>
      cases r
      exact ⟨k, _, hk, VR.isKey I (.tup h1 h2 h3) hk hdp, rfl, rfl⟩
  rcases d.cases with ⟨kvs, ha, hp⟩ | ⟨xs, ha, h0, hp⟩
  · rcases ok with ⟨k1, k2⟩ | ⟨k1, k2⟩
    · obtain ⟨k, rfl⟩ := keyV_kP k1
      refine .inl ⟨kvs, k, ha, hp, rfl, ?_⟩
      cases k <;> (cases v; rfl)
    · have : es = [] := by
        cases es with
        | nil => rfl
        | cons e es =>
          rw [List.all_cons, Bool.and_eq_true] at k2
          have h1 := hp.keys
          rw [List.all_cons, Bool.and_eq_true] at h1
          obtain ⟨_, _, e1, _⟩ := keyT_toN k2.1
          rw [e1] at h1
          exact absurd h1.1 (by simp [keyV])
      subst this
      cases hp
      obtain ⟨hd, hm⟩ := dK_nil I (hW _ ha)
      obtain ⟨k, b, q1, q2, q3, q4⟩ := tup k1
      exact .inr ⟨[], [], k, b, .nil, .nil, Nat.zero_le _, hd, hm, k1, q1, q2, q3, q4, .inr ha⟩
  · rcases ok with ⟨k1, k2⟩ | ⟨k1, k2⟩
    · have : es = [] := by
        cases es with
        | nil => rfl
        | cons e es =>
          rw [List.all_cons, Bool.and_eq_true] at k2
          cases hp with
          | cons f1 _ =>
            obtain ⟨_, _, e1, _⟩ := keyT_toN f1.1
            rw [e1] at k2
            exact absurd k2.1 (by simp [keyV])
      exact absurd this h0
    · obtain ⟨ys, r1, h1, h2, h3⟩ := dictB_raw I (hW _ ha) hp
      obtain ⟨k, b, q1, q2, q3, q4⟩ := tup k1
      exact .inr ⟨xs, ys, k, b, hp, r1, h1, h2, h3, k1, q1, q2, q3, q4, .inl ha⟩
end
end HW
/-! HwF: in, items, stores. -/
namespace HW
open PySem PySem.Spec PyProof.Rows L2

section
variable {X : Cx} {pins : List (Addr × Obj)} {σ : L2.St} {H : Hp} {s : Shared} {L : List Addr} {A : Around} {E : Value → Shared → Prop}
theorem dgk {H : Hp} {a : Addr} {kvs : List (L2.Key × V)} {k : L2.Key} (e : Rd H a (.dK kvs)) : DGet H a (kV k) (valV kvs k) := .inl ⟨kvs, k, e, rfl, rfl⟩
theorem um1 (hu : Um X) : X.A.units + 1 < cLine := by have : X.A.units + 100 < cLine := hu; omega
theorem um65 (hu : Um X) : X.A.units + 65 < cLine := by have : X.A.units + 100 < cLine := hu; omega
theorem um64 (hu : Um X) : X.A.units + 64 < cLine := by have : X.A.units + 100 < cLine := hu; omega
theorem um0 (hu : Um X) : X.A.units < cLine := by have : X.A.units + 100 < cLine := hu; omega
theorem orel_some {Z : Wd} {L : List Addr} {H : Hp} {o : Option PV} {x : V} {y : Option V} (r : ORel Z L H o y) (e : y = some x) : ∃ p, o = some p ∧ VR Z L H p x := by
  subst e
  cases o with
  | none => exact r.elim
  | some p => exact ⟨p, rfl, r⟩
theorem orel_some' {Z : Wd} {L : List Addr} {H : Hp} {o : Option PV} {p : PV} {y : Option V} (r : ORel Z L H o y) (e : o = some p) : ∃ x, y = some x ∧ VR Z L H p x := by
  subst e
  cases y with
  | none => exact r.elim
  | some x => exact ⟨x, rfl, r⟩
theorem orel_none {Z : Wd} {L : List Addr} {H : Hp} {o : Option PV} {y : Option V} (r : ORel Z L H o y) : o = none ↔ y = none := by
  cases o <;> cases y <;> simp [ORel] at r ⊢
theorem orel_getD {Z : Wd} {L : List Addr} {H : Hp} {o : Option PV} {y : Option V} (r : ORel Z L H o y) {p : PV} {x : V} (v : VR Z L H p x) : VR Z L H (o.getD p) (y.getD x) := by
  cases o <;> cases y <;> simp [ORel] at r ⊢
  · exact v
  · exact r
theorem any_find (es : List (PV × PV)) (p : PV) : (es.any fun e => decide (e.1 = p)) = (dFind es p).isSome := by
  induction es with
  | nil => rfl
  | cons e es ih =>
    rw [List.any_cons, dFind, List.find?_cons]
    by_cases h : e.1 = p
    · simp [h]
    · rw [decide_eq_false h, Bool.false_or]; exact ih
/-- the library's dicts of both kinds at the key -/
theorem dict_typ (I : Inv X pins σ H s) {a : Addr} {es : List (PV × PV)} (d : DR (wd X) L H a es) : s.TypeIs (.ref a) "dict" ∧ ∃ ob, s.heap.get? a = some ob ∧ ob.dict = none := by
  rcases d.cases with ⟨kvs, ha, _⟩ | ⟨xs, ha, _, hp⟩
  · obtain ⟨_, _, vs, _, dd⟩ := dk_rd I.hok ha
    obtain ⟨ob, _, _, h1, h2, _⟩ := id dd
    exact ⟨dd.typeIs, ob, h1, h2.2.1⟩
  · obtain ⟨ys, _, _, _, dd⟩ := dictB_raw I ha hp
    obtain ⟨ob, _, _, h1, h2, _⟩ := id dd
    exact ⟨dd.typeIs, ob, h1, h2.2.1⟩
theorem dict_in (hu : Um X) (I : Inv X pins σ H s) {a : Addr} {es : List (PV × PV)} {p : PV} {x : V} {u : Value} {Q : Value → Shared → Prop} (d : DR (wd X) L H a es) (ok : keyOk es p = true) (v : VR (wd X) L H p x) (r : RelV x u)
    (h : ∀ s', Inv X pins σ H s' → Q (.bool (es.any fun e => decide (e.1 = p))) s') : wpAny (model X.prog X.w) X.A (compareOp .In u (.ref a)) Q E s := by
  rcases dict_case (W := Rd H a) I (fun _ q => q) d ok v r with ⟨kvs, k, ha, hp, rfl, rfl⟩ | ⟨xs, ys, k, b, hp, hy, h1, h2, h3, h4, h5, h6, rfl, rfl, h7⟩
  · refine d_in (um1 hu) I (dgk ha) r fun s' I' => ?_
    have := h s' I'
    rw [hp.any, valV_any] at this
    exact this
  · refine wpAny_in_heap (room_nested hu) h6 h2 h3 ?_
    have := h _ (I.tok (s.toks + (nestedKind X.prog X.w).draws k))
    rw [hp.any h5, (ys_at hy k).isSome_eq, Option.isSome_map] at this
    exact this
theorem dict_notin (hu : Um X) (I : Inv X pins σ H s) {a : Addr} {es : List (PV × PV)} {p : PV} {x : V} {u : Value} {Q : Value → Shared → Prop} (d : DR (wd X) L H a es) (ok : keyOk es p = true) (v : VR (wd X) L H p x) (r : RelV x u)
    (h : ∀ s', Inv X pins σ H s' → Q (.bool (!es.any fun e => decide (e.1 = p))) s') : wpAny (model X.prog X.w) X.A (compareOp .NotIn u (.ref a)) Q E s := by
  rcases dict_case (W := Rd H a) I (fun _ q => q) d ok v r with ⟨kvs, k, ha, hp, rfl, rfl⟩ | ⟨xs, ys, k, b, hp, hy, h1, h2, h3, h4, h5, h6, rfl, rfl, h7⟩
  · refine d_notIn (um1 hu) I (dgk ha) r fun s' I' => ?_
    have := h s' I'
    rw [hp.any, valV_any] at this
    exact this
  · show wpAny _ _ (do return .bool (!(← contains (.ref a) (.ref b)))) Q E s
    refine wpAny_bind (PySem.wpAny_contains_heap (room_nested hu) h6 h2 h3 (wpAny_pure ?_))
    have := h _ (I.tok (s.toks + (nestedKind X.prog X.w).draws k))
    rw [hp.any h5, (ys_at hy k).isSome_eq, Option.isSome_map] at this
    exact this
theorem dict_get (hu : Um X) (I : Inv X pins σ H s) {a : Addr} {es : List (PV × PV)} {p z : PV} {x : V} {u : Value} {Q : Value → Shared → Prop} (d : DR (wd X) L H a es) (ok : keyOk es p = true) (v : VR (wd X) L H p x) (r : RelV x u) (e : dFind es p = some z)
    (h : ∀ y w' s', Inv X pins σ H s' → VR (wd X) L H z y → RelV y w' → Q w' s') : wpAny (model X.prog X.w) X.A (getItem (.ref a) u) Q E s := by
  rcases dict_case (W := Rd H a) I (fun _ q => q) d ok v r with ⟨kvs, k, ha, hp, rfl, rfl⟩ | ⟨xs, ys, k, b, hp, hy, h1, h2, h3, h4, h5, h6, rfl, rfl, h7⟩
  · obtain ⟨y, ey, vy⟩ := orel_some' (hp.find k) e
    refine d_getItem (um1 hu) I (v := y) (by rw [← ey]; exact dgk ha) r fun w' s' I' rw' => h y w' s' I' vy rw'
  · obtain ⟨y, ey, vy⟩ := orel_some' (hp.find h5) e
    have ry := ys_at hy k
    rw [ey] at ry
    obtain ⟨w', hw, rw'⟩ := RelO.some_of ry
    obtain ⟨q, hq, rfl⟩ := Option.map_eq_some_iff.mp hw
    exact wpAny_getItem_heap (room_nested hu) h6 h3 hq (h y _ _ (I.tok _) vy rw')
theorem dict_getD (hu : Um X) (I : Inv X pins σ H s) {a : Addr} {es : List (PV × PV)} {p z : PV} {x y : V} {u w' : Value} {Q : Value → Shared → Prop} (d : DR (wd X) L H a es) (ok : keyOk es p = true) (v : VR (wd X) L H p x) (r : RelV x u)
    (vz : VR (wd X) L H z y) (rz : RelV y w') (h : ∀ y w' s', Inv X pins σ H s' → VR (wd X) L H ((dFind es p).getD z) y → RelV y w' → Q w' s') : wpAny (model X.prog X.w) X.A (call (.builtin "dict.get") [.ref a, u, w']) Q E s := by
  rcases dict_case (W := Rd H a) I (fun _ q => q) d ok v r with ⟨kvs, k, ha, hp, rfl, rfl⟩ | ⟨xs, ys, k, b, hp, hy, h1, h2, h3, h4, h5, h6, rfl, rfl, h7⟩
  · exact d_get2 (um1 hu) I (dgk ha) r rz fun w2 s' I' rw2 => h _ w2 s' I' (orel_getD (hp.find k) vz) rw2
  · refine call_meetsIn PySem.F.slot_dict_get h3.typeIs PySem.F.entry_dict_get (PySem.F.args_dict_get_3 _ _ _) (meetsH_dict_get_default _ a b h2 w') ⟨room_nested hu, k, ys, h6, h3, ?_⟩
    exact h _ _ _ (I.tok _) (orel_getD (hp.find h5) vz) ((ys_at hy k).getD rz)
theorem dict_get1 (hu : Um X) (I : Inv X pins σ H s) {a : Addr} {es : List (PV × PV)} {p : PV} {x : V} {u : Value} {Q : Value → Shared → Prop} (d : DR (wd X) L H a es) (ok : keyOk es p = true) (v : VR (wd X) L H p x) (r : RelV x u)
    (h : ∀ y w' s', Inv X pins σ H s' → VR (wd X) L H ((dFind es p).getD .non) y → RelV y w' → Q w' s') : wpAny (model X.prog X.w) X.A (call (.builtin "dict.get") [.ref a, u]) Q E s := by
  rcases dict_case (W := Rd H a) I (fun _ q => q) d ok v r with ⟨kvs, k, ha, hp, rfl, rfl⟩ | ⟨xs, ys, k, b, hp, hy, h1, h2, h3, h4, h5, h6, rfl, rfl, h7⟩
  · exact d_get1 (um1 hu) I (dgk ha) r fun w2 s' I' rw2 => h _ w2 s' I' (orel_getD (hp.find k) .non) rw2
  · refine call_meetsIn PySem.F.slot_dict_get h3.typeIs PySem.F.entry_dict_get (PySem.F.args_dict_get_2 _ _) (meetsH_dict_get _ a b h2) ⟨room_nested hu, k, ys, h6, h3, ?_⟩
    exact h _ _ _ (I.tok _) (orel_getD (hp.find h5) .non) ((ys_at hy k).getD (show RelV .non .none from rfl))
theorem storedT_len (xs : List (NestedKey × Addr × V)) (k : NestedKey) (b : Addr) (x : V) : (storedT xs k b x).length ≤ xs.length + 1 := by
  unfold storedT; split <;> simp
theorem dPut_ne (es : List (PV × PV)) (k v : PV) : dPut es k v ≠ [] := by
  unfold dPut
  split
  · rename_i h
    intro e
    rw [List.map_eq_nil_iff] at e
    subst e
    simp at h
  · simp
theorem mut_of {a : Addr} {xs : List (NestedKey × Addr × V)} (h7 : H a = some (dictB X.prog X.w a xs) ∨ H a = some (.dK [])) : Mut (H a) := by
  rcases h7 with h7 | h7 <;> rw [h7] <;> trivial
/-- d[k] = v, and what the heap is then -/
theorem dict_set (hu : Um X) (I : Inv X pins σ H s) {a : Addr} {es : List (PV × PV)} {p z : PV} {x y : V} {u w' : Value} {Q : Unit → Shared → Prop} (d : DX (wd X) L H a es) (ok : keyOk es p = true) (v : VR (wd X) L H p x) (r : RelV x u)
    (vz : VR (wd X) L H z y) (rz : RelV y w') (hl : es.length < sizeLine)
    (h : ∀ (o : HO) s', Inv X pins σ (upd H a o) s' → (∀ (L' : List Addr) (H' : Hp), (∀ p x, VR (wd X) L H p x → VR (wd X) L' H' p x) → H' a = some o → DX (wd X) L' H' a (dPut es p z)) → Q () s') : wpAny (model X.prog X.w) X.A (setItem (.ref a) u w') Q E s := by
  rcases dict_case (W := fun u => H a = some u) I (fun _ => .inl) d ok v r with ⟨kvs, k, ha, hp, rfl, rfl⟩ | ⟨xs, ys, k, b, hp, hy, h1, h2, h3, h4, h5, h6, rfl, rfl, h7⟩
  · have hk : kvs.length < sizeLine := by rw [← Paired.length hp]; exact hl
    refine d_setItem (um1 hu) I (DPut.k ha hk) r rz fun s' I' => h _ s' I' fun L' H' up e => DP.ofK e ?_
    exact Paired.mapP (hp.put k vz) fun a b ⟨q1, q2⟩ => ⟨q1, up _ _ q2⟩
  · have hxl : xs.length < sizeLine := by rw [← Paired.length hp]; exact hl
    have hz : ys.length ≤ sizeLine := by rw [← Paired.length hy]; omega
    refine wpAny_setItem_heap (hsz := hz) (room_nested hu) h6 h3 fun h' dd' hs => ?_
    have hxl2 := storedT_len xs k b y
    refine h (dictB X.prog X.w a (storedT xs k b y)) _ ?_ fun L' H' up e => DP.ofT e (dPut_ne _ _ _) ?_
    · exact d_write I (mut_of h7) hs (let ⟨q, _, _, hq, _⟩ := dd'; ⟨q, hq⟩) (dictB_ok (stored_ys hy k b rz) (by omega) h2 dd')
    · exact Paired.mapP (hp.put h4 h5 v vz) fun a b ⟨q1, q2, q3, q4⟩ => ⟨q1, q2, up _ _ q3, up _ _ q4⟩
theorem dict_len (I : Inv X pins σ H s) {a : Addr} {es : List (PV × PV)} {Q : Value → Shared → Prop} (d : DR (wd X) L H a es) (h : ∀ t s', Inv X pins σ H s' → Q (.int es.length t) s') : wpAny (model X.prog X.w) X.A (call (.builtin "len") [.ref a]) Q E s := by
  rcases d.cases with ⟨kvs, ha, hp⟩ | ⟨xs, ha, _, hp⟩
  · refine d_len I ha fun t s' I' => ?_
    rw [← Paired.length hp]
    exact h t s' I'
  · obtain ⟨ys, hy, h1, h2, dd⟩ := dictB_raw I ha hp
    have e : es.length = ys.length := (Paired.length hp).trans (Paired.length hy).symm.symm
    have hz : (ys.length : Int) < 2 ^ 63 := by rw [Paired.length hy, sizeLine_eq] at h1; omega
    refine call_len_dictH h2 dd hz ?_
    rw [← e]
    exact h _ _ (I.tok _)
theorem dict_truth (I : Inv X pins σ H s) {a : Addr} {es : List (PV × PV)} {Q : Bool → Shared → Prop} (d : DR (wd X) L H a es) (h : ∀ s', Inv X pins σ H s' → Q (!es.isEmpty) s') : wpAny (model X.prog X.w) X.A (truthy (.ref a)) Q E s := by
  rcases d.cases with ⟨kvs, ha, hp⟩ | ⟨xs, ha, h0, hp⟩
  · refine d_truth I ha fun s' I' => ?_
    have e : kvs.isEmpty = es.isEmpty := by cases hp <;> rfl
    rw [e]
    exact h s' I'
  · obtain ⟨ys, hy, h1, h2, dd⟩ := dictB_raw I ha hp
    have e : es.length = ys.length := (Paired.length hp).trans (Paired.length hy)
    have hz : (ys.length : Int) < 2 ^ 63 := by rw [Paired.length hy, sizeLine_eq] at h1; omega
    have hne : (!es.isEmpty) = ((ys.length : Int) != 0) := by
      cases es with
      | nil => exact absurd rfl h0
      | cons x r =>
        simp only [List.length_cons] at e
        have : (ys.length : Int) ≠ 0 := by omega
        rw [bne_iff_ne.mpr this]
        rfl
    have key : wpAny (model X.prog X.w) X.A (runValue (.builtin "len" ⟨[.ref a], []⟩)) (fun r s' => r = .int ys.length (s.toks + 1) ∧ Q ((ys.length : Int) != 0) s') E s := by
      refine wpAny_runValue (codeAny_builtin entry_len ?_)
      rw [Around.under_plainId plain_len _]
      refine wpAny_mono (wpAny_len_body_dictH (Q := fun r s' => r = .int ys.length (s.toks + 1) ∧ Q ((ys.length : Int) != 0) s') h2 dd hz ⟨rfl, ?_⟩) (fun fin s' ⟨r, er, hq⟩ => by rw [er]; exact hq) fun _ _ e => e
      rw [← hne]
      exact h _ (I.tok _)
    unfold truthy
    refine wpAny_bind (wpAny_callSpecial?_none (name := Str.ofString "__bool__") dd.typeIs noBool_dict ?_)
    refine wpAny_bind (wpAny_specialOf (name := Str.ofString "__len__") dd.typeIs PySem.F.slot_dict_len.lookup ?_)
    exact wpAny_bind (wpAny_mono key (fun r s' ⟨er, hq⟩ => by rw [er]; exact wpAny_pure hq) fun _ _ e => e)
end

/-! ### in; items; stores -/
section
variable {X : Cx}
theorem toDs_any : ∀ {xs : List PV} {ds : List PyData} (d : PyData), True := fun _ => trivial
theorem op_pyIn (hu : Um X) : OpR X (compareOp .In) (rCmp X .isin) := by
  intro pins s σ H x y v u Q I rx ry hw
  obtain ⟨L, h, p, q, r, hr, vp, vq, e, post⟩ := hw
  simp only [cmpop, isIn] at e
  split at e
  · rename_i es ed
    obtain ⟨a, rfl, d⟩ := vq.dict hr ed
    cases ry
    split at e
    · rename_i ok
      cases e
      exact dict_in hu I d ok vp rx fun s' I' => ⟨.bl _, H, I', rfl, post.bl hr⟩
    · cases e
  · split at e
    · rename_i xs ex
      obtain ⟨a, vs, rfl, hs, vv⟩ := vq.seq hr ex
      cases ry
      split at e
      · rename_i d ds e1 e2
        split at e
        · rename_i hc
          rw [Bool.and_eq_true] at hc
          cases e
          obtain ⟨as, r1⟩ := Dp.reads I d x v (vp.resDp hr e1) rx
          have fin : EP X pins σ Q (.bool (ds.any fun e => PyData.eqv e d)) s := ⟨.bl _, H, I, rfl, post.bl hr⟩
          rcases hs with hs | hs
          · obtain ⟨bs, r2⟩ := Dp.reads I (.list ds) (.ref a) (.ref a) (.lst (sqr hs) (VRs.dp _ _ _ vv e2)) rfl
            exact SeqAt.in_list_reads r2 r1 (SeqAt.canLay_of_shaped hc.2) (SeqAt.canLay_of_shaped hc.1) (room_in_shaped hc.1 (um65 hu)) fin
          · obtain ⟨bs, r2⟩ := Dp.reads I (.tuple ds) (.ref a) (.ref a) (.tup (TupAt.sq hs) (VRs.dp _ _ _ vv e2)) rfl
            exact SeqAt.in_tuple_reads r2 r1 (SeqAt.canLay_of_shaped hc.2) (SeqAt.canLay_of_shaped hc.1) (room_in_shaped hc.1 (um65 hu)) fin
        · cases e
      · cases e
    · cases e
theorem op_pyNotin (hu : Um X) : OpR X (compareOp .NotIn) (rCmp X .notin) := by
  intro pins s σ H x y v u Q I rx ry hw
  obtain ⟨L, h, p, q, r, hr, vp, vq, e, post⟩ := hw
  simp only [cmpop, isIn] at e
  split at e
  · rename_i es ed
    obtain ⟨a, rfl, d⟩ := vq.dict hr ed
    cases ry
    split at e
    · rename_i ok
      cases e
      exact dict_notin hu I d ok vp rx fun s' I' => ⟨.bl _, H, I', rfl, post.bl hr⟩
    · cases e
  · split at e
    · rename_i xs ex
      obtain ⟨a, vs, rfl, hs, vv⟩ := vq.seq hr ex
      cases ry
      split at e
      · rename_i d ds e1 e2
        split at e
        · rename_i hc
          rw [Bool.and_eq_true] at hc
          cases e
          obtain ⟨as, r1⟩ := Dp.reads I d x v (vp.resDp hr e1) rx
          have fin : EP X pins σ Q (.bool (!ds.any fun e => PyData.eqv e d)) s := ⟨.bl _, H, I, rfl, post.bl hr⟩
          rcases hs with hs | hs
          · obtain ⟨bs, r2⟩ := Dp.reads I (.list ds) (.ref a) (.ref a) (.lst (sqr hs) (VRs.dp _ _ _ vv e2)) rfl
            exact SeqAt.notIn_list_reads r2 r1 (SeqAt.canLay_of_shaped hc.2) (SeqAt.canLay_of_shaped hc.1) (room_in_shaped hc.1 (um65 hu)) fin
          · obtain ⟨bs, r2⟩ := Dp.reads I (.tuple ds) (.ref a) (.ref a) (.tup (TupAt.sq hs) (VRs.dp _ _ _ vv e2)) rfl
            exact SeqAt.notIn_tuple_reads r2 r1 (SeqAt.canLay_of_shaped hc.2) (SeqAt.canLay_of_shaped hc.1) (room_in_shaped hc.1 (um65 hu)) fin
        · cases e
      · cases e
    · cases e
/-- all comparisons -/
theorem op_cmp (hu : Um X) (op : COp) : OpR X (compareOp (pyC op)) (rCmp X op) := by
  cases op with
  | eq => exact op_pyEq (um64 hu)
  | ne => exact op_pyNe (um64 hu)
  | lt => exact ord_ok hu .lt (.inl rfl)
  | gt => exact ord_ok hu .gt (.inr (.inl rfl))
  | le => exact ord_ok hu .le (.inr (.inr (.inl rfl)))
  | ge => exact ord_ok hu .ge (.inr (.inr (.inr rfl)))
  | is => exact op_pyIs
  | isnot => exact op_pyIsnot
  | isin => exact op_pyIn hu
  | notin => exact op_pyNotin hu

theorem VRs.atI {Z : Wd} {L : List Addr} {H : Hp} {xs : List PV} {vs : List V} {i : Int} {p : PV} (r : VRs Z L H xs vs) (e : L2.atI xs i = some p) : ∃ x, L2.atI vs i = some x ∧ VR Z L H p x := by
  unfold L2.atI at e ⊢
  rw [r.length]
  cases hx : ixN xs.length i with
  | none => rw [hx] at e; cases e
  | some j =>
    rw [hx] at e
    exact r.get' e
theorem ix_dict (hu : Um X) : IxR X (fun x y H Q => ∃ L h p q r es, HR (wd X) L h H ∧ VR (wd X) L H p x ∧ VR (wd X) L H q y ∧ asDict h p = some es ∧ keyOk es q = true ∧ dFind es q = some r ∧ Post (wd X) L H r h Q) := by
  intro value slice pins s σ H x y v u Q I rx ry hw hs
  obtain ⟨L, h, p, q, r, es, hr, vp, vq, ed, ok, ef, post⟩ := hw
  obtain ⟨a, rfl, d⟩ := vp.dict hr ed
  cases rx
  have hT := (dict_typ I d).1
  unfold subscriptTail
  refine wpAny_bind ?_
  rw [getitemInPython_of_ne hT.not_modules]
  refine wpAny_bind (wpAny_specialOf hT PySem.F.slot_dict_getitem.lookup ?_)
  have fin : wpAny (model X.prog X.w) X.A (subscripted slice false (.ref a) u) (fun r s₃ => wpAny (model X.prog X.w) X.A (letTemporaryGo value (.ref a) r >>= fun _ => pure r) (EP X pins σ Q) X.xe s₃) X.xe s := by
    rw [hs]
    refine wpAny_operating (dict_get hu I d ok vq ry ef fun z w' s' I' vz rz => ?_)
    exact wpAny_bind (wpAny_letTemporaryGo (wpAny_pure ⟨z, H, I', rz, post.same hr vz⟩))
  first
    | exact wpAny_pure (wpAny_bind fin)
    | exact wpAny_bind (wpAny_pure (wpAny_bind fin))
    | exact wpAny_bind fin
def rSub (X : Cx) : R2 := fun x y H Q => ∃ L h p q r, HR (wd X) L h H ∧ VR (wd X) L H p x ∧ VR (wd X) L H q y ∧ itemOf h p q = some r ∧ Post (wd X) L H r h Q
theorem ix_item (hu : Um X) : IxR X (rSub X) := by
  intro value slice pins s σ H x y v u Q I rx ry hw hs
  obtain ⟨L, h, p, q, r, hr, vp, vq, e, post⟩ := hw
  unfold itemOf at e
  split at e
  · rename_i es ed
    split at e
    · rename_i ok
      exact ix_dict hu value slice pins s σ H x y v u Q I rx ry ⟨L, h, p, q, r, es, hr, vp, vq, ed, ok, e, post⟩ hs
    · cases e
  · split at e
    · rename_i xs i ex
      obtain ⟨a, vs, rfl, hq, vv⟩ := vp.seq hr ex
      cases vq
      obtain ⟨z, ez, vz⟩ := vv.atI e
      rcases hq with hq | hq
      · exact ix_list value slice pins s σ H _ _ v u Q I rx ry ⟨_, _, _, _, rfl, rfl, sqr hq, ez, post.same hr vz⟩ hs
      · exact ix_tup value slice pins s σ H _ _ v u Q I rx ry ⟨_, _, _, _, rfl, rfl, TupAt.sq hq, ez, post.same hr vz⟩ hs
    · cases e
/-- o[i] by values alone -/
theorem get_item (hu : Um X) : PGet X (rSub X) := by
  intro pins s σ H o i ov iv Q I ro ri hw
  obtain ⟨L, h, p, q, r, hr, vp, vq, e, post⟩ := hw
  unfold itemOf at e
  split at e
  · rename_i es ed
    split at e
    · rename_i ok
      obtain ⟨a, rfl, d⟩ := vp.dict hr ed
      cases ro
      exact dict_get hu I d ok vq ri e fun z w' s' I' vz rz => ⟨z, H, I', rz, post.same hr vz⟩
    · cases e
  · split at e
    · rename_i xs i ex
      obtain ⟨a, vs, rfl, hq, vv⟩ := vp.seq hr ex
      cases vq
      obtain ⟨z, ez, vz⟩ := vv.atI e
      cases ro
      obtain ⟨t, rfl⟩ := ri
      obtain ⟨j, h1, h2, h3, h4, h5⟩ := atI_get ez
      have hn := line63
      rcases hq with hq | hq
      · obtain ⟨its, rr, pl, hz⟩ := I.list (sqr hq)
        obtain ⟨w, ew, rw'⟩ := rr.get h2
        have hl := rr.length
        have fin : EP X pins σ Q w s := ⟨z, H, I, rw', post.same hr vz⟩
        by_cases h0 : 0 ≤ i
        · rw [seqIndex_of h0 h5] at h1
          have hj : i.toNat = j := Option.some.inj h1
          exact wpAny_getItem_list pl.isList h0 (by omega) (by rw [hj]; simpa using ew) fin
        · rw [seqIndex_neg (by omega) h4] at h1
          have hj : (i + (its.toArray.size : Int)).toNat = j := by
            rw [List.size_toArray, ← hl]
            exact Option.some.inj h1
          exact wpAny_getItem_list_neg pl.isList (by omega) (by rw [List.size_toArray]; omega) (by omega) (by rw [hj]; simpa using ew) fin
      · obtain ⟨its, rr, pl, hz⟩ := I.tuple (TupAt.sq hq)
        obtain ⟨w, ew, rw'⟩ := rr.get h2
        have hl := rr.length
        exact PyProof.Rows.getItem_tuple (j := j) pl (by omega) (by omega) (by rw [List.size_toArray, ← hl]; exact h1) (by simpa using ew) ⟨z, H, I, rw', post.same hr vz⟩
    · cases e
/-- o[i] = v -/
def PostH (Z : Wd) (L : List Addr) (H : Hp) (h' : PHeap) (Q : Hp → Prop) : Prop := ∀ L' H', Ext L H L' H' → HR Z L' h' H' → Q H'
def rPut (X : Cx) : TSet := fun o i v H Q => ∃ L h p q r h', HR (wd X) L h H ∧ VR (wd X) L H p o ∧ VR (wd X) L H q i ∧ VR (wd X) L H r v ∧ putItem h p q r = some h' ∧ PostH (wd X) L H h' Q
theorem set_item (hu : Um X) : PSet X (rPut X) := by
  intro pins s σ H o i v ov iv u Q I ro ri rv hw
  obtain ⟨L, h, p, q, r, h', hr, vp, vq, vr, e, post⟩ := hw
  unfold putItem at e
  split at e
  · rename_i n
    cases vp with
    | ref hn =>
      rename_i a
      have hm : a ∈ L := List.mem_of_getElem? hn
      cases ro
      split at e
      · rename_i xs k hc
        split at e
        · rename_i j hj
          cases e
          cases vq
          obtain ⟨vs, h1, h2⟩ := hr.cell _ _ _ hc hn
          refine set_list pins s σ H (.ref a) (.int k) v (.ref a) iv u _ I rfl ri rv ⟨a, vs, _, j, rfl, rfl, h1, by rw [h2.length]; exact hj, ?_⟩
          refine post _ _ (ext_write hm (nf_lst h1)) (hr.write hn (nf_lst h1) ⟨_, upd_same, ?_⟩)
          exact (h2.set vr j).mono (ext_write hm (nf_lst h1))
        · cases e
      · rename_i es hc
        split at e
        · rename_i ok
          cases e
          rw [Bool.and_eq_true] at ok
          have hl := of_decide_eq_true ok.2
          rw [lim] at hl
          refine dict_set hu I (hr.cell _ _ _ hc hn) ok.1 vq ri vr rv hl fun ob s' I' hd => ⟨_, I', post _ _ (ext_write hm (nf_dx (hr.cell _ _ _ hc hn))) (hr.write hn (nf_dx (hr.cell _ _ _ hc hn)) ?_)⟩
          exact hd L (upd H a ob) (fun p x w => w.mono (ext_write hm (nf_dx (hr.cell _ _ _ hc hn)))) upd_same
        · cases e
      · cases e
  · cases e
end
end HW
/-! HwG: slices, truth, built-ins. -/
namespace HW
open PySem PySem.Spec PyProof.Rows L2

section
variable {X : Cx}
theorem VRs.ints {Z : Wd} {L : List Addr} {H : Hp} : ∀ {xs : List PV} {ns : List Int} {vs : List V}, VRs Z L H xs vs → asInts xs = some ns → vs = ns.map V.int
  | [], _, _, .nil, e => by cases e; rfl
  | x :: xs, ns, _, .cons h1 h2, e => by
    cases x <;> simp [asInts] at e
    obtain ⟨ms, e1, rfl⟩ := e
    cases h1
    rw [List.map_cons, VRs.ints h2 e1]
theorem VRs.bools {Z : Wd} {L : List Addr} {H : Hp} : ∀ {xs : List PV} {ns : List Bool} {vs : List V}, VRs Z L H xs vs → asBools xs = some ns → vs = ns.map V.bl
  | [], _, _, .nil, e => by cases e; rfl
  | x :: xs, ns, _, .cons h1 h2, e => by
    cases x <;> simp [asBools] at e
    obtain ⟨ms, e1, rfl⟩ := e
    cases h1
    rw [List.map_cons, VRs.bools h2 e1]
theorem VRs.ofInts {Z : Wd} {L : List Addr} {H : Hp} : ∀ ns : List Int, VRs Z L H (ns.map .int) (ns.map V.int)
  | [] => .nil
  | n :: ns => .cons (.int n) (VRs.ofInts ns)
theorem VRs.cut {Z : Wd} {L : List Addr} {H : Hp} {xs : List PV} {vs : List V} (r : VRs Z L H xs vs) (lo hi : Option Int) : VRs Z L H (HW.cut xs lo hi) (cutV vs lo hi) := by
  unfold HW.cut cutV
  rw [r.length]
  exact (r.drop _).take _
theorem cut_whole (xs : List PV) (lo hi : Option Int) (h1 : HT.sIx xs.length 0 lo = 0) (h2 : HT.sIx xs.length xs.length hi = xs.length) : cut xs lo hi = xs := by
  unfold cut
  rw [h1, h2, List.drop_zero, Nat.sub_zero, List.take_length]
def rSl (X : Cx) : V → Option Int → Option Int → Hp → VK → Prop := fun x lo hi H Q => ∃ L h p r, HR (wd X) L h H ∧ VR (wd X) L H p x ∧ sliceOf h p lo hi = some r ∧ Post (wd X) L H r h Q
theorem mk_sl {pins : List (Addr × Obj)} {σ : L2.St} {s : Shared} {H : Hp} {L : List Addr} {h : PHeap} {xs : List PV} {vs : List V} {Q : VK} {v : Value} {sl : Addr}
    (w : ∃ T id, typeLookup (.type T) "__getitem__" = pure (some (.builtin id)) ∧ s.TypeIs v T ∧ wpAny (model X.prog X.w) X.A (getItem v (.ref sl)) (EP X pins σ (NewL H vs)) X.xe s) (post : Post (wd X) L H (.lst xs) h Q) (hr : HR (wd X) L h H) (v1 : VRs (wd X) L H xs vs) :
    ∃ T id, typeLookup (.type T) "__getitem__" = pure (some (.builtin id)) ∧ s.TypeIs v T ∧ wpAny (model X.prog X.w) X.A (getItem v (.ref sl)) (EP X pins σ Q) X.xe s := by
  obtain ⟨T, id, h1, h2, h3⟩ := w
  exact ⟨T, id, h1, h2, mk_wp (al := false) h3 rfl post hr v1⟩
theorem sl_ok : SlR X (rSl X) := by
  intro pins s σ H x v vl vu lo hi sl Q I rx hs pl pu hw
  obtain ⟨L, h, p, r, hr, vp, e, post⟩ := hw
  unfold sliceOf at e
  split at e
  · cases e
    cases vp with
    | tup h1 h2 h3 =>
      cases rx
      obtain ⟨its, r1, t1, hz⟩ := I.tuple (TupAt.sq h1)
      have m1 := r1.length
      refine ⟨"tuple", _, slot_tuple_getitem.lookup, t1.typeIs, ?_⟩
      by_cases hw : HT.sIx its.toArray.size 0 lo = 0 ∧ HT.sIx its.toArray.size its.toArray.size hi = its.toArray.size
      · have hw' : HT.sIx its.length 0 lo = 0 ∧ HT.sIx its.length its.length hi = its.length := by simpa using hw
        rw [← m1, h3.length] at hw'
        rw [cut_whole _ _ _ hw'.1 hw'.2] at post
        exact getItem_tuple_whole t1 hs pl pu hw (ep_ref I (post.same hr (.tup h1 h2 h3)))
      · have hsz : its.toArray.size ≤ sizeLine := by rw [List.size_toArray]; omega
        refine HT.getItem_tuple_cut t1 hs pl pu hw ?_ hsz
        have e2 : its.toArray.toList = its := by simp
        have e3 : its.toArray.size = _ := List.size_toArray (as := its)
        rw [e2, e3]
        refine tup_ep I hr post (h3.cut lo hi) ?_ ?_ s.toks
        · unfold cutV
          rw [m1]
          exact (r1.drop _).take _
        · exact Nat.le_trans (cutV_length _ lo hi) hz
  · cases e
    have go : ∀ {a : Addr} {ns : List Int}, SqL X.K H a (ns.map V.int) → rSlL X.K (.ref a) lo hi H (NewL H (cutV (ns.map V.int) lo hi)) := fun hq => ⟨_, _, rfl, hq, NewL.all⟩
    cases vp with
    | scr h1 h2 => exact mk_sl (sl_list pins s σ H _ v vl vu lo hi sl _ I rx hs pl pu (go (.inl (.inr h1)))) post hr ((VRs.ofInts _).cut lo hi)
    | scrK h1 => exact mk_sl (sl_list pins s σ H _ v vl vu lo hi sl _ I rx hs pl pu (go (h1 H))) post hr ((VRs.ofInts _).cut lo hi)
  · obtain ⟨xs, ex, rfl⟩ := Option.map_eq_some_iff.mp e
    obtain ⟨a, vs, rfl, h1, h2⟩ := vp.list hr ex
    exact mk_sl (sl_list pins s σ H _ v vl vu lo hi sl _ I rx hs pl pu ⟨_, _, rfl, sqr h1, NewL.all⟩) post hr (h2.cut lo hi)
theorem tru_okP (hu : Um X) : TruR X (fun x H Q => ∃ L h p b, HR (wd X) L h H ∧ VR (wd X) L H p x ∧ tru h p = some b ∧ Q b H) := by
  intro pins s σ H x v Q I rx hw
  obtain ⟨L, h, p, b, hr, vp, e, q⟩ := hw
  unfold tru at e
  split at e
  · cases e; cases vp; exact tru_ok pins s σ H _ v Q I rx ⟨false, rfl, q⟩
  · cases e; cases vp; exact tru_ok pins s σ H _ v Q I rx ⟨_, rfl, q⟩
  · cases e; cases vp; exact tru_ok pins s σ H _ v Q I rx ⟨_, rfl, q⟩
  · split at e
    · rename_i hl
      cases e; cases vp; exact tru_ok pins s σ H _ v Q I rx ⟨_, ⟨hl, rfl⟩, q⟩
    · cases e
  · split at e
    · rename_i xs ex
      cases e
      obtain ⟨a, vs, rfl, h1, h2⟩ := vp.seq hr ex
      have he : (!xs.isEmpty) = !vs.isEmpty := by cases h2 <;> rfl
      rw [he] at q
      rcases h1 with h1 | h1
      · exact tru_ok pins s σ H _ v Q I rx ⟨_, .inl ⟨vs, sqr h1, rfl⟩, q⟩
      · exact tru_ok pins s σ H _ v Q I rx ⟨_, .inr (.inl ⟨vs, TupAt.sq h1, rfl⟩), q⟩
    · split at e
      · rename_i es ed
        cases e
        obtain ⟨a, rfl, d⟩ := vp.dict hr ed
        cases rx
        exact dict_truth I d fun s' I' => ⟨H, I', q⟩
      · cases e
/-- rules of several arguments, by what the evaluator says -/
def rBlt (X : Cx) (f : Blt) : List V → Hp → VK → Prop := fun xs H Q => ∃ L h ps r, HR (wd X) L h H ∧ VRs (wd X) L H ps xs ∧ bltop f ps h = some r ∧ Post (wd X) L H r h Q
theorem vrs1 {Z : Wd} {L : List Addr} {H : Hp} {p : PV} {xs : List V} (r : VRs Z L H [p] xs) : ∃ x, xs = [x] ∧ VR Z L H p x := by
  cases r with
  | cons h1 h2 => cases h2; exact ⟨_, rfl, h1⟩
theorem vrs2 {Z : Wd} {L : List Addr} {H : Hp} {p q : PV} {xs : List V} (r : VRs Z L H [p, q] xs) : ∃ x y, xs = [x, y] ∧ VR Z L H p x ∧ VR Z L H q y := by
  cases r with
  | cons h1 h2 =>
    obtain ⟨y, rfl, h3⟩ := vrs1 h2
    exact ⟨_, y, rfl, h1, h3⟩
theorem cr_len (hu : Um X) : CallR X (.builtin "len") (rBlt X .len) := by
  intro pins s σ H xs us Q I r hw
  obtain ⟨L, h, ps, z, hr, vv, e, post⟩ := hw
  simp only [bltop] at e
  unfold bLen at e
  split at e
  · cases vv with
    | cons h1 h2 =>
      cases h2; cases h1
      split at e
      · rename_i hl
        cases e
        exact call_len_str pins s σ H _ us Q I r ⟨_, rfl, hl, post.int hr⟩
      · cases e
  · obtain ⟨x, rfl, v⟩ := vrs1 vv
    split at e
    · rename_i ys ex
      cases e
      obtain ⟨a, vs, rfl, h1, h2⟩ := v.seq hr ex
      have hl := h2.length
      exact call_len_seq pins s σ H _ us Q I r ⟨a, vs, rfl, seq_or h1, by rw [hl]; exact post.int hr⟩
    · split at e
      · rename_i es ed
        cases e
        obtain ⟨a, rfl, d⟩ := v.dict hr ed
        obtain ⟨u, rfl, ru⟩ := r.one
        cases ru
        exact dict_len I d fun t s' I' => ⟨.int es.length, H, I', ⟨t, rfl⟩, post.int hr⟩
      · cases e
  · cases e
theorem cr_abs : CallR X (.builtin "abs") (rBlt X .abs) := by
  intro pins s σ H xs us Q I r hw
  obtain ⟨L, h, ps, z, hr, vv, e, post⟩ := hw
  simp only [bltop] at e
  unfold bAbs at e
  split at e
  · cases e
    obtain ⟨x, rfl, v⟩ := vrs1 vv
    cases v
    exact call_abs pins s σ H _ us Q I r ⟨_, rfl, post.int hr⟩
  · cases e
theorem cr_max2 (hc : X.calm = true) : CallR X (.builtin "max") (rBlt X .max2) := by
  intro pins s σ H xs us Q I r hw
  obtain ⟨L, h, ps, z, hr, vv, e, post⟩ := hw
  simp only [bltop] at e
  unfold bMax2 at e
  split at e
  · cases e
    obtain ⟨x, y, rfl, v, v'⟩ := vrs2 vv
    cases v; cases v'
    exact call_max2 hc pins s σ H _ us Q I r ⟨_, _, rfl, post.int hr⟩
  · cases e
theorem cr_min2 (hc : X.calm = true) : CallR X (.builtin "min") (rBlt X .min2) := by
  intro pins s σ H xs us Q I r hw
  obtain ⟨L, h, ps, z, hr, vv, e, post⟩ := hw
  simp only [bltop] at e
  unfold bMin2 at e
  split at e
  · cases e
    obtain ⟨x, y, rfl, v, v'⟩ := vrs2 vv
    cases v; cases v'
    exact call_min2 hc pins s σ H _ us Q I r ⟨_, _, rfl, post.int hr⟩
  · cases e
theorem cr_int : CallR X (.type "int") (rBlt X .int) := by
  intro pins s σ H xs us Q I r hw
  obtain ⟨L, h, ps, z, hr, vv, e, post⟩ := hw
  simp only [bltop] at e
  unfold bInt at e
  split at e
  · cases e
    obtain ⟨x, rfl, v⟩ := vrs1 vv
    cases v
    exact call_int1 pins s σ H _ us Q I r (.inl ⟨_, rfl, post.int hr⟩)
  · cases e
    obtain ⟨x, rfl, v⟩ := vrs1 vv
    cases v
    exact call_int1 pins s σ H _ us Q I r (.inr ⟨_, rfl, post.int hr⟩)
  · cases e
theorem tyOf_ok {Z : Wd} {L : List Addr} {H : Hp} {h : PHeap} (hr : HR Z L h H) {p : PV} {x : V} {t : String} (v : VR Z L H p x) (e : tyOf h p = some t) : TyX Z.K H x (.type t) ∧ t ∈ ["NoneType", "bool", "int", "str", "tuple", "list"] := by
  unfold tyOf at e
  split at e
  · cases e; cases v; exact ⟨.base .non, by decide⟩
  · cases e; cases v; exact ⟨.base (.bl _), by decide⟩
  · cases e; cases v; exact ⟨.base (.int _), by decide⟩
  · cases e; cases v; exact ⟨.base (.str _), by decide⟩
  · cases e
    cases v with
    | tup h1 h2 h3 =>
      obtain ⟨o, h1, _⟩ := h1
      exact ⟨.fTuple h1, by decide⟩
  · obtain ⟨xs, ex, rfl⟩ := Option.map_eq_some_iff.mp e
    obtain ⟨a, vs, rfl, h1, h2⟩ := v.list hr ex
    rcases h1 with h1 | ⟨o, h1⟩
    · exact ⟨.base (.lst h1), by decide⟩
    · exact ⟨.base (.frz h1), by decide⟩
theorem kit_all : (["NoneType", "bool", "int", "str", "tuple", "list"].all fun t => tyNames.all fun T => kitB t T == some (isTy t T)) = true := by decide +kernel
theorem kit_at {K : PySem.W.Frag} {t T : String} (ht : t ∈ ["NoneType", "bool", "int", "str", "tuple", "list"]) (hT : T ∈ tyNames) : PySem.W.kitOne K (.type t) (.type T) = some (isTy t T) := by
  have h1 := List.all_eq_true.mp kit_all t ht
  have h2 := List.all_eq_true.mp h1 T hT
  exact kit_ty (beq_iff_eq.mp h2)
theorem cr_isi (T : String) : CallR X (.builtin "isinstance") (fun xs H Q => ∃ x, xs = [x, .ty T] ∧ rBlt X (.isi T) [x] H Q) := by
  intro pins s σ H xs us Q I r hw
  obtain ⟨x, rfl, L, h, ps, z, hr, vv, e, post⟩ := hw
  simp only [bltop] at e
  unfold bIsi at e
  split at e
  · split at e
    · rename_i hT
      obtain ⟨t, et, rfl⟩ := Option.map_eq_some_iff.mp e
      obtain ⟨x', ex, v⟩ := vrs1 vv
      cases ex
      obtain ⟨ty, ht⟩ := tyOf_ok hr v et
      exact call_isi pins s σ H _ us Q I r ⟨_, _, _, _, _, rfl, .ty T, ty, kit_at ht (by simpa using hT), post.bl hr⟩
    · cases e
  · cases e
theorem kitAny_at {K : PySem.W.Frag} {t : String} (ht : t ∈ ["NoneType", "bool", "int", "str", "tuple", "list"]) : ∀ ts : List String, (∀ T ∈ ts, T ∈ tyNames) → PySem.W.kitAny K (.type t) (ts.map Value.type) = some (ts.any (isTy t))
  | [], _ => kitAny_nil
  | T :: ts, h => by
    refine kitAny_cons (kit_at ht (h T List.mem_cons_self)) (fun hb => ?_) fun hb => ?_
    · rw [List.any_cons, hb, Bool.false_or]
      exact kitAny_at ht ts fun T' h' => h T' (List.mem_cons_of_mem _ h')
    · rw [List.any_cons, hb, Bool.true_or]
theorem clsVs : ∀ ts : List String, Paired ClsV (ts.map V.ty) (ts.map Value.type)
  | [] => .nil
  | t :: ts => .cons (.ty t) (clsVs ts)
theorem cr_isiT (ts : List String) : CallR X (.builtin "isinstance") (fun xs H Q => ∃ x tp, xs = [x, .ref tp] ∧ H tp = some (.tup (ts.map V.ty)) ∧ rBlt X (.isiT ts) [x] H Q) := by
  intro pins s σ H xs us Q I r hw
  obtain ⟨x, tp, rfl, htp, L, h, ps, z, hr, vv, e, post⟩ := hw
  simp only [bltop] at e
  unfold bIsiT at e
  split at e
  · split at e
    · rename_i hT
      obtain ⟨t, et, rfl⟩ := Option.map_eq_some_iff.mp e
      obtain ⟨x', ex, v⟩ := vrs1 vv
      cases ex
      obtain ⟨ty, ht⟩ := tyOf_ok hr v et
      exact call_isiT pins s σ H _ us Q I r ⟨_, _, _, _, _, _, rfl, htp, clsVs ts, ty, kitAny_at ht ts (fun T h' => by simpa using List.all_eq_true.mp hT T h'), post.bl hr⟩
    · cases e
  · cases e

/-! ### lists, tuples made of what is walked -/
def rConv (X : Cx) (k : Cnv) (al : Bool) : List V → Hp → VK → Prop := fun xs H Q => ∃ L h p x r h', xs = [x] ∧ HR (wd X) L h H ∧ VR (wd X) L H p x ∧ convop k al p h = .ok r h' ∧ Post (wd X) L H r h' Q
/-- what is walked is a list, a tuple, or a dict's keys -/
theorem src_cases {Z : Wd} {L : List Addr} {H : Hp} {h : PHeap} (hr : HR Z L h H) {p : PV} {x : V} {ys : List PV} (v : VR Z L H p x) (e : anySrc h p = some ys) :
    (∃ a vs, x = .ref a ∧ (Rd H a (.lst vs) ∨ TupAt H a vs) ∧ VRs Z L H ys vs) ∨ ∃ a es, x = .ref a ∧ DR Z L H a es ∧ ys = es.map (·.1) := by
  obtain ⟨⟨ys', c⟩, ee, e0⟩ := Option.map_eq_some_iff.mp e
  clear e
  have e := ee
  clear ee
  cases e0
  unfold srcOf at e
  split at e
  · cases e
    cases v with
    | tup h1 h2 h3 => exact .inl ⟨_, _, rfl, .inr h1, h3⟩
  · cases e
    cases v with
    | lst h1 h2 h3 => exact .inl ⟨_, _, rfl, .inl (.inr h1), h3⟩
  · cases e
    cases v with
    | dctK h1 h2 h3 h4 => exact .inr ⟨_, _, rfl, .k (.inr h1) h3 h4, rfl⟩
    | dctT h1 h2 h0 h3 h4 h5 h6 => exact .inr ⟨_, _, rfl, .t (.inr h1) h0 h3 h4 h5 h6, rfl⟩
  · rename_i n
    cases v with
    | ref hn =>
      split at e
      · rename_i xs hc
        cases e
        obtain ⟨vs, h1, h2⟩ := hr.cell _ _ _ hc hn
        exact .inl ⟨_, vs, rfl, .inl (.inl h1), h2⟩
      · rename_i es hc
        cases e
        exact .inr ⟨_, es, rfl, DP.rd (hr.cell _ _ _ hc hn), rfl⟩
      · rename_i es hc
        cases e
        exact .inr ⟨_, es, rfl, DP.rdL (hr.cell _ _ _ hc hn), rfl⟩
      · cases e
  · cases e
end
end HW
/-! HwH: what is made of what is walked. -/
namespace HW
open PySem PySem.Spec PyProof.Rows L2

section
variable {X : Cx} {pins : List (Addr × Obj)} {σ : L2.St} {H : Hp} {s : Shared} {L : List Addr}
/-- the entries of a dict as they stand -/
structure RawD (Z : Wd) (L : List Addr) (H : Hp) (s : Shared) (a : Addr) (es : List (PV × PV)) (rs : Array DictEntry) (ep : Nat) : Prop where
  raw : s.heap.DictRaw a rs ep
  sys : (a == sysModules) = false
  size : rs.size = es.length
  few : es.length ≤ sizeLine
  keys : ∃ ks, Vals ks (rs.toList.map (·.key)) ∧ VRs Z L H (es.map (·.1)) ks
  vals : ∃ vs, Vals vs (rs.toList.map (·.val)) ∧ VRs Z L H (es.map (·.2)) vs
theorem kP_rel {Z : Wd} {L : List Addr} {H : Hp} (k : L2.Key) : VR Z L H (kP k) (kV k) := by
  cases k
  · exact .int _
  · exact .str _
theorem raw_k {es : List (PV × PV)} {kvs : List (L2.Key × V)} (hp : PKs (wd X) L H es kvs) {vs : List (L2.Key × Value)} (rel : KV kvs vs) {rs : List DictEntry} (hl : rs.length = vs.length)
    (h : ∀ i (hi : i < rs.length) k v, vs[i]? = some (k, v) → keyIs k rs[i].key = true ∧ rs[i].val = v) :
    (∃ ks, Vals ks (rs.map (·.key)) ∧ VRs (wd X) L H (es.map (·.1)) ks) ∧ ∃ us, Vals us (rs.map (·.val)) ∧ VRs (wd X) L H (es.map (·.2)) us := by
  induction rel generalizing es rs with
  | nil =>
    cases hp
    cases rs with
    | nil => exact ⟨⟨[], .nil, .nil⟩, [], .nil, .nil⟩
    | cons _ _ => simp at hl
  | cons h1 t ih =>
    rename_i p q l1 l2
    cases hp with
    | cons f1 f2 =>
      cases rs with
      | nil => simp at hl
      | cons r rs =>
        obtain ⟨⟨ks, i1, i2⟩, us, i3, i4⟩ := ih f2 (rs := rs) (by simpa using hl) fun i hi k v e => by
          have := h (i + 1) (by simpa using hi) k v (by simpa using e)
          simpa using this
        have h0 := h 0 (by simp) q.1 q.2 rfl
        simp only [List.getElem_cons_zero] at h0
        refine ⟨⟨kV q.1 :: ks, .cons (keyIs_rel h0.1) i1, .cons ?_ i2⟩, p.2 :: us, .cons ?_ i3, .cons f1.2 i4⟩
        · show VR (wd X) L H _ _
          dsimp only
          rw [f1.1, h1.1]
          exact kP_rel _
        · dsimp only
          rw [h0.2]
          exact h1.2
theorem raw_t {es : List (PV × PV)} {xs : List (NestedKey × Addr × V)} (hp : PTs_ (wd X) L H es xs) {ys : List (NestedKey × Addr × Value)} (rel : XY xs ys) :
    (∃ ks, Vals ks (ys.map fun y => Value.ref y.2.1) ∧ VRs (wd X) L H (es.map (·.1)) ks) ∧ ∃ us, Vals us (ys.map (·.2.2)) ∧ VRs (wd X) L H (es.map (·.2)) us := by
  induction rel generalizing es with
  | nil => cases hp; exact ⟨⟨[], .nil, .nil⟩, [], .nil, .nil⟩
  | cons h1 t ih =>
    rename_i p q l1 l2
    cases hp with
    | cons f1 f2 =>
      obtain ⟨⟨ks, i1, i2⟩, us, i3, i4⟩ := ih f2
      exact ⟨⟨.ref p.2.1 :: ks, .cons (by rw [h1.2.1]; rfl) i1, .cons f1.2.2.1 i2⟩, p.2.2 :: us, .cons h1.2.2 i3, .cons f1.2.2.2 i4⟩
theorem dict_raw (I : Inv X pins σ H s) {a : Addr} {es : List (PV × PV)} (d : DR (wd X) L H a es) : ∃ rs ep, RawD (wd X) L H s a es rs ep := by
  rcases d.cases with ⟨kvs, ha, hp⟩ | ⟨xs, ha, h0, hp⟩
  · obtain ⟨z, hd, vs, rel, dd⟩ := dk_rd I.hok ha
    obtain ⟨rs, ep, h1, h2, h3⟩ := dd.raw
    have e1 : es.length = kvs.length := Paired.length hp
    have e2 : kvs.length = vs.length := Paired.length rel
    obtain ⟨k1, k2⟩ := raw_k (rs := rs.toList) hp rel (by rw [Array.length_toList]; exact h2) fun i hi k v e => by
      have h4 := h3 i (by simpa using hi) k v e
      rw [Array.getElem_toList]
      exact h4
    exact ⟨rs, ep, h1, hd, by omega, by omega, k1, k2⟩
  · obtain ⟨ys, hy, h1, h2, o, rs, ep, g1, g2, g3, g4, g5, g6⟩ := dictB_raw I ha hp
    have e1 : es.length = xs.length := Paired.length hp
    have e2 : xs.length = ys.length := Paired.length hy
    have e3 : rs.size = ys.length := by rw [← Array.length_toList, g4, List.length_map]
    obtain ⟨k1, k2⟩ := raw_t hp hy
    refine ⟨rs, ep, ⟨o, g1, g2, g3⟩, h2, by omega, by omega, ?_, ?_⟩
    · rw [g4, List.map_map]; exact k1
    · rw [g4, List.map_map]; exact k2
/-- what collect gives -/
abbrev ColR (X : Cx) (s : Shared) (L : List Addr) (H : Hp) (v : Value) (ys : List PV) : Prop :=
  ∀ (A : Around) (E : Value → Shared → Prop) (R : List Value → Shared → Prop), A.handled = none →
    (∀ h' tk acc vs, (∀ b o, s.heap.get? b = some o → h'.get? b = some o) → Vals vs acc → VRs (wd X) L H ys vs → acc.length ≤ sizeLine → R acc { s with heap := h', toks := tk }) → wpAny (model X.prog X.w) A (collect v) R E s
theorem col_seq (I : Inv X pins σ H s) {a : Addr} {vs : List V} {ys : List PV} (hq : Rd H a (.lst vs) ∨ TupAt H a vs) (v : VRs (wd X) L H ys vs) : ColR X s L H (.ref a) ys := by
  intro A E R hh h
  rcases hq with hq | hq
  · obtain ⟨its, rv, ⟨o, n, ho, hc, _, hd⟩, hz⟩ := I.list (sqr hq)
    have hl := rv.length
    refine wpAny_collect_seq (hsz := by rw [List.size_toArray]; omega) a (.inl rfl) ho hc hd fun h' hk => ?_
    exact h h' s.toks its vs hk rv v (by omega)
  · obtain ⟨its, rv, ⟨o, ho, hc, n, hd⟩, hz⟩ := I.tuple (TupAt.sq hq)
    have hl := rv.length
    refine wpAny_collect_seq (hsz := by rw [List.size_toArray]; omega) a (.inr rfl) ho hc hd fun h' hk => ?_
    exact h h' s.toks its vs hk rv v (by omega)
theorem col_kdl {P : Program} {w : World} {A : Around} {E : Value → Shared → Prop} {T : String} {r d : Addr} {n : Nat} {G : Nat → Value → Prop} {OK : Heap → Prop} {R : List Value → Shared → Prop} (K : PySem.W.KdlSrc P w T r d n G OK) (hh : A.handled = none) (hok : OK s.heap) (hn : n ≤ sizeLine)
    (h : ∀ h' tk (acc : Array Value), (∀ b o, s.heap.get? b = some o → h'.get? b = some o) → ItemsOf G acc n → R acc.toList { s with heap := h', toks := tk }) : wpAny (model P w) A (collect (.ref r)) R E s := by
  have hlt := K.there _ hok
  unfold collect
  refine wpAny_bind (wpAny_runValue (codeAny_builtin PySem.F.entry_proto_collect ?_))
  rw [Around.under_plainId PySem.F.plain_proto_collect _]
  refine wpAny_bind (wpAny_newObj_type ?_)
  refine wpAny_pure ⟨plainId_quiet PySem.F.plain_list_iadd _, codeAny_builtin PySem.F.entry_list_iadd ?_⟩
  rw [Around.under_plainId PySem.F.plain_list_iadd _]
  have new : (s.heap.push { cls := .type "list", data := .seq ([] : List Value).toArray }).get? s.heap.objs.size = some { cls := .type "list", data := .seq #[] 0 } := Heap.get?_push_size _ rfl
  have key := PySem.W.kdl_extend (A := A) (s := { s with heap := s.heap.push { cls := .type "list", data := .seq ([] : List Value).toArray } })
    (R := fun rr s' => rr = .ok (.ret (.ref s.heap.objs.size)) ∧ ∃ (h' : Heap) (tk : Nat) (acc : Array Value) (c' : Nat), s' = { s with heap := h', toks := tk } ∧ (∀ b o, s.heap.get? b = some o → h'.get? b = some o) ∧
      h'.get? s.heap.objs.size = some { cls := .type "list", dict := none, data := .seq acc c', slots := #[] } ∧ ItemsOf G acc n)
    K hh (K.keep _ _ hok fun b _ o e => Heap.get?_push_of_some _ e) s.heap.objs.size (Nat.ne_of_gt hlt.1) (Nat.ne_of_gt hlt.2) (.ref s.heap.objs.size) 0 new
    (fun h' tk acc c' hk e hi => ⟨rfl, h', tk, acc, c', rfl, fun b o q => hk b o (Nat.ne_of_lt (Heap.lt_size q)) (Heap.get?_push_of_some _ q), e, hi⟩) hn
  refine wpAny_mono key (fun fin s' hf => ?_) fun e s' hf => ?_
  · cases fin with
    | done f =>
      obtain ⟨e, h', tk, acc, c', rfl, hk, hS', hi⟩ := hf
      cases e
      show wpAny _ A (load s.heap.objs.size >>= _) _ _ _
      exact wpAny_bind (wpAny_load hS' (wpAny_pure (h h' tk acc hk hi)))
    | again c' =>
      obtain ⟨q1, q2⟩ := hf
      refine ⟨q1, codeAny_mono q2 fun rr s'' hr' => ?_⟩
      obtain ⟨rfl, h', tk, acc, c', rfl, hk, hS', hi⟩ := hr'
      show wpAny _ A (load s.heap.objs.size >>= _) _ _ _
      exact wpAny_bind (wpAny_load hS' (wpAny_pure (h h' tk acc hk hi)))
  · cases hf.1
theorem keys_items {rs : Array DictEntry} {acc : Array Value} (hi : ItemsOf (fun i v => ∃ hi : i < rs.size, v = rs[i].key) acc rs.size) : acc.toList = rs.toList.map (·.key) := by
  refine List.ext_getElem? fun j => ?_
  rw [List.getElem?_map, Array.getElem?_toList, Array.getElem?_toList]
  cases hj : acc[j]? with
  | none =>
    have h1 : acc.size ≤ j := Array.getElem?_eq_none_iff.mp hj
    rw [Array.getElem?_eq_none (by rw [← hi.1]; exact h1)]
    rfl
  | some v =>
    obtain ⟨hj2, e⟩ := hi.2 j v hj
    rw [Array.getElem?_eq_getElem hj2, e]
    rfl
theorem col_dict (I : Inv X pins σ H s) {a : Addr} {es : List (PV × PV)} (d : DR (wd X) L H a es) : ColR X s L H (.ref a) (es.map (·.1)) := by
  intro A E R hh h
  obtain ⟨rs, ep, r⟩ := dict_raw I d
  refine col_kdl (PySem.KdlSrc.rawDict r.sys) hh r.raw (by rw [r.size]; exact r.few) fun h' tk acc hk hi => ?_
  obtain ⟨ks, k1, k2⟩ := r.keys
  refine h h' tk acc.toList ks hk (by rw [keys_items hi]; exact k1) k2 ?_
  rw [keys_items hi, List.length_map, Array.length_toList, r.size]
  exact r.few
end
end HW
/-! HwI: sorted, list, tuple, sum and such of what is walked. -/
namespace HW
open PySem PySem.Spec PyProof.Rows L2
open PySem.W (EachIs AllAlike Sortable dataLe)

mutual
theorem reads_lt {h : Heap} : ∀ (p : PV) (d : PyData) (v : Value) (as : List Addr), toD p = some d → Reads h v d as → ∀ b ∈ as, b < h.objs.size
  | .non, _, _, _, e, r, b, hb => by cases e; cases r; cases hb
  | .bl _, _, _, _, e, r, b, hb => by cases e; cases r; cases hb
  | .int _, _, _, _, e, r, b, hb => by cases e; cases r; cases hb
  | .str _, _, _, _, e, r, b, hb => by cases e; cases r; cases hb
  | .lst xs, _, _, _, e, r, b, hb => by
    rw [toD] at e
    obtain ⟨ds, e1, rfl⟩ := Option.map_eq_some_iff.mp e
    cases r with
    | list h1 h2 h3 h4 =>
      rcases List.mem_cons.mp hb with rfl | hb
      · exact Heap.lt_size h1
      · exact readsAll_lt xs _ _ _ e1 h4 b hb
  | .tup xs, _, _, _, e, r, b, hb => by
    rw [toD] at e
    obtain ⟨ds, e1, rfl⟩ := Option.map_eq_some_iff.mp e
    cases r with
    | tuple h1 h2 h3 h4 => exact readsAll_lt xs _ _ _ e1 h4 b hb
  | .dct _, _, _, _, e, _, _, _ => by simp [toD] at e
  | .scr _, _, _, _, e, _, _, _ => by simp [toD] at e
  | .ref _, _, _, _, e, _, _, _ => by simp [toD] at e
theorem readsAll_lt {h : Heap} : ∀ (ps : List PV) (ds : List PyData) (vs : List Value) (as : List Addr), toDs ps = some ds → ReadsAll h vs ds as → ∀ b ∈ as, b < h.objs.size
  | [], _, _, _, e, r, b, hb => by cases e; cases r; cases hb
  | p :: ps, _, _, _, e, r, b, hb => by
    rw [toDs] at e
    split at e
    · rename_i d ds e1 e2
      cases e
      cases r with
      | cons h1 h2 =>
        rcases List.mem_append.mp hb with hb | hb
        · exact reads_lt p d _ _ e1 h1 b hb
        · exact readsAll_lt ps ds _ _ e2 h2 b hb
    · cases e
end
theorem toDs_map : ∀ {xs : List PV} {ds : List PyData}, toDs xs = some ds → ds = xs.map dOf ∧ ∀ p ∈ xs, toD p = some (dOf p)
  | [], _, e => by cases e; exact ⟨rfl, fun p hp => by cases hp⟩
  | x :: xs, _, e => by
    rw [toDs] at e
    split at e
    · rename_i d ds e1 e2
      cases e
      obtain ⟨h1, h2⟩ := toDs_map e2
      have e3 : dOf x = d := by unfold dOf; rw [e1]; rfl
      refine ⟨by rw [List.map_cons, e3, ← h1], fun p hp => ?_⟩
      rcases List.mem_cons.mp hp with rfl | hp
      · rw [e3]; exact e1
      · exact h2 p hp
    · cases e
theorem sortOk_facts {xs : List PV} (h : sortOk xs = true) : (∀ p ∈ xs, toD p = some (dOf p)) ∧ AllAlike (xs.map dOf) ∧ Sortable (xs.map dOf) ∧ ∀ p ∈ xs, (dOf p).depth ≤ 32 := by
  unfold sortOk at h
  split at h
  · rename_i ds e
    obtain ⟨rfl, h1⟩ := toDs_map e
    simp only [Bool.and_eq_true, Bool.or_eq_true] at h
    obtain ⟨⟨h2, h3⟩, h4⟩ := h
    refine ⟨h1, fun d hd d' hd' => ?_, ?_, fun p hp => ?_⟩
    · exact List.all_eq_true.mp (List.all_eq_true.mp h2 d hd) d' hd'
    · rcases h4 with h4 | h4
      · refine .inl fun d hd => ?_
        have := List.all_eq_true.mp h4 d hd
        cases d with
        | tuple ys =>
          cases ys with
          | nil => simp at this
          | cons y ys => exact ⟨y, ys, rfl⟩
        | _ => simp at this
      · refine .inr fun d hd => ?_
        have := List.all_eq_true.mp h4 d hd
        cases d <;> simp at this ⊢
    · exact of_decide_eq_true (List.all_eq_true.mp h3 _ (List.mem_map.mpr ⟨p, hp, rfl⟩))
  · cases h
/-- the model's values of evaluator's values, one by one -/
theorem each_of {Z : Wd} {L : List Addr} {H : Hp} : ∀ {ps : List PV} {vs : List V} {us : List Value}, VRs Z L H ps vs → Vals vs us → EachIs (fun u p => ∃ x, RelV x u ∧ VR Z L H p x) us ps
  | _, _, _, .nil, .nil => .nil
  | _, _, _, .cons h1 h2, .cons r1 r2 => .cons ⟨_, r1, h1⟩ (each_of h2 r2)
theorem of_each {Z : Wd} {L : List Addr} {H : Hp} : ∀ {us : List Value} {ps : List PV}, EachIs (fun u p => ∃ x, RelV x u ∧ VR Z L H p x) us ps → ∃ vs, Vals vs us ∧ VRs Z L H ps vs
  | _, _, .nil => ⟨[], .nil, .nil⟩
  | _, _, .cons ⟨x, h1, h2⟩ t => by
    obtain ⟨vs, h3, h4⟩ := of_each t
    exact ⟨x :: vs, .cons h1 h3, .cons h2 h4⟩
section
variable {X : Cx} {pins : List (Addr × Obj)} {σ : L2.St} {H : Hp} {s : Shared} {L : List Addr}
theorem each_reads (I : Inv X pins σ H s) {h' : Heap} (hk : ∀ b o, s.heap.get? b = some o → h'.get? b = some o) {us : List Value} : ∀ {ps : List PV}, (∀ p ∈ ps, toD p = some (dOf p)) → EachIs (fun u p => ∃ x, RelV x u ∧ VR (wd X) L H p x) us ps → ∀ {a : Addr}, s.heap.objs.size ≤ a →
    EachIs (fun v b => ∃ as, Reads h' v (dOf b) as ∧ a ∉ as) us ps := by
  intro ps hd e a ha
  induction e with
  | nil => exact .nil
  | cons h1 _ ih =>
    rename_i u p _ _ _
    refine .cons ?_ (ih fun q hq => hd q (List.mem_cons_of_mem _ hq))
    obtain ⟨x, r1, r2⟩ := h1
    have e1 := hd p List.mem_cons_self
    obtain ⟨as, r3⟩ := Dp.reads I (dOf p) x u (r2.dp _ _ _ e1) r1
    refine ⟨as, PyProof.Rows.Reads.keeps hk r3, fun q => ?_⟩
    have := reads_lt p _ _ _ e1 r3 a q
    exact absurd (Nat.lt_of_lt_of_le this ha) (Nat.lt_irrefl _)
theorem sortV_len (ys : List PV) : (sortV ys).length = ys.length := by unfold sortV; exact List.length_mergeSort _
/-- sorted(v), v anything that gives ys -/
theorem sorted_col (hc : X.calm = true) (hu : Um X) (I : Inv X pins σ H s) {v : Value} {ys : List PV} (col : ColR X s L H v ys) (ok : sortOk ys = true) {Q : VK} (hf : ∀ p vs, H p = none → VRs (wd X) L H (sortV ys) vs → Q (.ref p) (upd H p (.lst vs))) :
    wpAny (model X.prog X.w) X.A (call (.builtin "sorted") [v]) (EP X pins σ Q) X.xe s := by
  obtain ⟨hD, hA, hS, hDp⟩ := sortOk_facts ok
  refine Calls.call_function_entry kind_sorted plain_sorted entry_sorted (args_sorted1 _) ?_
  unfold Builtin.«sorted»
  refine wpAny_bind (m := checkCount "sorted" 1 1 _) (wpAny_pure ?_)
  have hh : X.A.in1.handled = none := I.ok.hd hc
  refine wpAny_bind (col X.A.in1 _ _ hh fun h' tk acc vs hk rv vv hl => ?_)
  refine wpAny_bind (wpAny_newList ?_ hl)
  have I1 : Inv X pins σ H { s with heap := h', toks := tk } := I.kept hk
  have hk2 : ∀ b o, h'.get? b = some o → (h'.push { cls := .type "list", data := .seq acc.toArray }).get? b = some o := fun b o e => Heap.get?_push_of_some _ e
  have e1 := each_of vv rv
  have hn : H h'.objs.size = none := I1.hok.fresh (Nat.le_refl _)
  have hat : (h'.push { cls := .type "list", data := .seq acc.toArray }).get? h'.objs.size = some (seqObj "list" acc.toArray 0) := Heap.get?_push_size _ rfl
  refine wpAny_bind (wpAny_holding (PySem.W.list_sort_data (A := X.A.in1) (s := { s with heap := h'.push { cls := .type "list", data := .seq acc.toArray }, toks := tk }) hat e1 (each_reads I1 hk2 hD e1 (Nat.le_refl _)) hA hS (by rw [← vv.length, rv.length]; exact hl) (fun p hp => ?_) fun out ho eo => ?_))
  · have h1 := hDp p hp
    have h2 : X.A.units + 100 < cLine := hu
    rw [Around.in1_units]
    omega
  · refine wpAny_pure ⟨_, rfl, ?_⟩
    obtain ⟨ws, rw1, rw2⟩ := of_each eo
    obtain ⟨e', he'⟩ := PyProof.Rows.sortedHeap_at (vs := acc) (out := out.toArray) hat
    have hlen : ws.length ≤ sizeLine := by rw [rw1.length, ho, ← vv.length, rv.length]; exact hl
    refine ⟨.ref h'.objs.size, upd H h'.objs.size (.lst ws), I1.laid (t' := tk) (fun b o e => ?_) (Nat.le_refl _) ⟨hlen, out, e', rw1, he'⟩, rfl, hf _ ws hn rw2⟩
    have hb : b < h'.objs.size := Heap.lt_size e
    rw [PyProof.Rows.sortedHeap_old (Nat.ne_of_lt hb) (Heap.lt_size (hk2 b o e))]
    exact hk2 b o e
theorem cr_sortedP (hc : X.calm = true) (hu : Um X) (al : Bool) : CallR X (.builtin "sorted") (rConv X .sorted al) := by
  intro pins s σ H xs us Q I r hw
  obtain ⟨L, h, p, x, z, h', rfl, hr, v, e, post⟩ := hw
  simp only [convop] at e
  obtain ⟨ys, es, e2⟩ := R.of_bind e
  split at e2
  · rename_i ok
    obtain ⟨u, rfl, ru⟩ := r.one
    have fin : ColR X s L H u ys → wpAny (model X.prog X.w) X.A (call (.builtin "sorted") [u]) (EP X pins σ Q) X.xe s := fun col => thn (sorted_col hc hu I col ok (Q := fun x H' => ∃ p vs, x = .ref p ∧ H p = none ∧ VRs (wd X) L H (sortV ys) vs ∧ H' = upd H p (.lst vs)) fun p vs hp vv => ⟨p, vs, rfl, hp, vv, rfl⟩) fun u' s' ⟨x', H', I', rx', p', vs, ex, hp, vv, eH⟩ => by
      subst ex eH
      cases rx'
      exact mk_ep I' hp e2 post hr vv
    rcases src_cases hr v es with ⟨a, vs, rfl, h1, h2⟩ | ⟨a, es', rfl, d, rfl⟩
    · cases ru; exact fin (col_seq I h1 h2)
    · cases ru; exact fin (col_dict I d)
  · cases e2
theorem cr_list (hc : X.calm = true) (al : Bool) : CallR X (.type "list") (rConv X .list al) := by
  intro pins s σ H xs us Q I r hw
  obtain ⟨L, h, p, x, z, h', rfl, hr, v, e, post⟩ := hw
  simp only [convop] at e
  obtain ⟨ys, es, e2⟩ := R.of_bind e
  rcases src_cases hr v es with ⟨a, vs, rfl, h1, h2⟩ | ⟨a, es', rfl, d, rfl⟩
  · exact mk_wp (call_list_of pins s σ H _ us _ I r ⟨_, _, rfl, seq_or h1, NewL.all⟩) e2 post hr h2
  · obtain ⟨u, rfl, ru⟩ := r.one
    cases ru
    obtain ⟨rs, ep, rd⟩ := dict_raw I d
    refine PySem.W.kdl_call (PySem.KdlSrc.rawDict rd.sys) (I.ok.hd hc) rd.raw (by have := rd.size; have := rd.few; omega) fun h' tk acc c kp ea hi => ?_
    obtain ⟨ks, k1, k2⟩ := rd.keys
    have ek := keys_items hi
    have rv : Vals ks acc.toList := by rw [ek]; exact k1
    have hz : ks.length ≤ sizeLine := by rw [k2.length, List.length_map]; exact rd.few
    exact mk_ep (I.laid (t' := tk) (o := .lst ks) kp (Nat.le_refl _) ⟨hz, acc.toList, c, rv, by rw [Array.toArray_toList]; exact ea⟩) (I.hok.fresh (Nat.le_refl _)) e2 post hr k2
theorem cr_tuple (al : Bool) : CallR X (.type "tuple") (rConv X .tuple al) := by
  intro pins s σ H xs us Q I r hw
  obtain ⟨L, h, p, x, z, h', rfl, hr, v, e, post⟩ := hw
  simp only [convop] at e
  obtain ⟨ys, es, e2⟩ := R.of_bind e
  cases e2
  obtain ⟨a, vs, rfl, h1, h2⟩ := v.seq hr es
  obtain ⟨u, rfl, ru⟩ := r.one
  cases ru
  rcases h1 with h1 | h1
  · obtain ⟨its, r', pl, hz⟩ := I.list (sqr h1)
    have hlen := r'.length
    refine call_tuple_list pl.isList (fun h' kp => ?_) (by rw [List.size_toArray]; omega)
    have I1 : Inv X pins σ H { s with heap := h' } := I.kept (t' := s.toks) kp
    exact tup_ep I1 hr post h2 r' hz s.toks
  · obtain ⟨its, r', pl, hz⟩ := I.tuple h1.sq
    unfold asSeq at es
    split at es
    · cases es
      cases v with
      | tup k1 k2 k3 => exact call_tuple_same pl (ep_ref I (post.same hr (.tup k1 k2 k3)))
    · obtain ⟨b, ws, e1, e2, e3⟩ := v.list hr es
      cases e1
      obtain ⟨o, h1, _⟩ := h1
      rcases e2 with e2 | ⟨o', e2⟩ <;> (rw [h1] at e2; cases e2)
theorem cr_sumP (hc : X.calm = true) (al : Bool) : CallR X (.builtin "sum") (rConv X .sum al) := by
  intro pins s σ H xs us Q I r hw
  obtain ⟨L, h, p, x, z, h', rfl, hr, v, e, post⟩ := hw
  simp only [convop] at e
  obtain ⟨e, rfl⟩ := R.of_eq_ok e
  obtain ⟨ys, ex, e⟩ := Option.bind_eq_some_iff.mp e
  obtain ⟨ns, en, rfl⟩ := Option.map_eq_some_iff.mp e
  obtain ⟨a, vs, rfl, h1, h2⟩ := v.list hr ex
  cases h2.ints en
  exact cr_sum hc pins s σ H _ us Q I r ⟨a, ns, rfl, sqr h1, post.int hr⟩
theorem cr_allP (hc : X.calm = true) (al : Bool) : CallR X (.builtin "all") (rConv X .all al) := by
  intro pins s σ H xs us Q I r hw
  obtain ⟨L, h, p, x, z, h', rfl, hr, v, e, post⟩ := hw
  simp only [convop] at e
  obtain ⟨e, rfl⟩ := R.of_eq_ok e
  obtain ⟨ys, ex, e⟩ := Option.bind_eq_some_iff.mp e
  obtain ⟨ns, en, rfl⟩ := Option.map_eq_some_iff.mp e
  obtain ⟨a, vs, rfl, h1, h2⟩ := v.list hr ex
  cases h2.bools en
  exact cr_all hc pins s σ H _ us Q I r ⟨a, ns, rfl, sqr h1, post.bl hr⟩
theorem cr_anyP (hc : X.calm = true) (al : Bool) : CallR X (.builtin "any") (rConv X .any al) := by
  intro pins s σ H xs us Q I r hw
  obtain ⟨L, h, p, x, z, h', rfl, hr, v, e, post⟩ := hw
  simp only [convop] at e
  obtain ⟨e, rfl⟩ := R.of_eq_ok e
  obtain ⟨ys, ex, e⟩ := Option.bind_eq_some_iff.mp e
  obtain ⟨ns, en, rfl⟩ := Option.map_eq_some_iff.mp e
  obtain ⟨a, vs, rfl, h1, h2⟩ := v.list hr ex
  cases h2.bools en
  exact cr_any hc pins s σ H _ us Q I r ⟨a, ns, rfl, sqr h1, post.bl hr⟩
theorem foldl_max : ∀ (xs : List Int) (x : Int), (xs.foldl (fun a b => if b > a then b else a) x = x ∨ xs.foldl (fun a b => if b > a then b else a) x ∈ xs) ∧ x ≤ xs.foldl (fun a b => if b > a then b else a) x ∧ ∀ y ∈ xs, y ≤ xs.foldl (fun a b => if b > a then b else a) x
  | [], x => ⟨.inl rfl, Int.le_refl _, fun y hy => by cases hy⟩
  | y :: ys, x => by
    rw [List.foldl_cons]
    obtain ⟨h1, h2, h3⟩ := foldl_max ys (if y > x then y else x)
    refine ⟨?_, ?_, fun z hz => ?_⟩
    · rcases h1 with h1 | h1
      · by_cases hy : y > x
        · rw [if_pos hy] at h1 ⊢; exact .inr (by rw [h1]; exact List.mem_cons_self)
        · rw [if_neg hy] at h1 ⊢; exact .inl h1
      · exact .inr (List.mem_cons_of_mem _ h1)
    · refine Int.le_trans ?_ h2
      split <;> omega
    · rcases List.mem_cons.mp hz with rfl | hz
      · refine Int.le_trans ?_ h2
        split <;> omega
      · exact h3 z hz
theorem foldl_min : ∀ (xs : List Int) (x : Int), (xs.foldl (fun a b => if b < a then b else a) x = x ∨ xs.foldl (fun a b => if b < a then b else a) x ∈ xs) ∧ xs.foldl (fun a b => if b < a then b else a) x ≤ x ∧ ∀ y ∈ xs, xs.foldl (fun a b => if b < a then b else a) x ≤ y
  | [], x => ⟨.inl rfl, Int.le_refl _, fun y hy => by cases hy⟩
  | y :: ys, x => by
    rw [List.foldl_cons]
    obtain ⟨h1, h2, h3⟩ := foldl_min ys (if y < x then y else x)
    refine ⟨?_, ?_, fun z hz => ?_⟩
    · rcases h1 with h1 | h1
      · by_cases hy : y < x
        · rw [if_pos hy] at h1 ⊢; exact .inr (by rw [h1]; exact List.mem_cons_self)
        · rw [if_neg hy] at h1 ⊢; exact .inl h1
      · exact .inr (List.mem_cons_of_mem _ h1)
    · refine Int.le_trans h2 ?_
      split <;> omega
    · rcases List.mem_cons.mp hz with rfl | hz
      · refine Int.le_trans h2 ?_
        split <;> omega
      · exact h3 z hz
theorem maxI_is {ns : List Int} {m k : Int} (e : maxI ns = some m) (h1 : k ∈ ns) (h2 : ∀ y ∈ ns, y ≤ k) : k = m := by
  cases ns with
  | nil => cases e
  | cons x xs =>
    simp only [maxI, Option.some.injEq] at e
    obtain ⟨g1, g2, g3⟩ := foldl_max xs x
    rw [e] at g1 g2 g3
    have hm : m ∈ x :: xs := by
      rcases g1 with g1 | g1
      · rw [g1]; exact List.mem_cons_self
      · exact List.mem_cons_of_mem _ g1
    have a1 := h2 m hm
    have a2 : k ≤ m := by
      rcases List.mem_cons.mp h1 with rfl | h1
      · exact g2
      · exact g3 k h1
    omega
theorem minI_is {ns : List Int} {m k : Int} (e : minI ns = some m) (h1 : k ∈ ns) (h2 : ∀ y ∈ ns, k ≤ y) : k = m := by
  cases ns with
  | nil => cases e
  | cons x xs =>
    simp only [minI, Option.some.injEq] at e
    obtain ⟨g1, g2, g3⟩ := foldl_min xs x
    rw [e] at g1 g2 g3
    have hm : m ∈ x :: xs := by
      rcases g1 with g1 | g1
      · rw [g1]; exact List.mem_cons_self
      · exact List.mem_cons_of_mem _ g1
    have a1 := h2 m hm
    have a2 : m ≤ k := by
      rcases List.mem_cons.mp h1 with rfl | h1
      · exact g2
      · exact g3 k h1
    omega
theorem cr_maxP (hc : X.calm = true) (al : Bool) : CallR X (.builtin "max") (rConv X .max al) := by
  intro pins s σ H xs us Q I r hw
  obtain ⟨L, h, p, x, z, h', rfl, hr, v, e, post⟩ := hw
  simp only [convop] at e
  obtain ⟨e, rfl⟩ := R.of_eq_ok e
  obtain ⟨ys, ex, e⟩ := Option.bind_eq_some_iff.mp e
  obtain ⟨m, em, rfl⟩ := Option.map_eq_some_iff.mp e
  obtain ⟨ns, en, em⟩ := Option.bind_eq_some_iff.mp em
  obtain ⟨a, vs, rfl, h1, h2⟩ := v.list hr ex
  cases h2.ints en
  refine cr_max hc pins s σ H _ us Q I r ⟨a, ns, rfl, sqr h1, ?_, fun k k1 k2 => ?_⟩
  · cases ns with
    | nil => cases em
    | cons _ _ => exact Nat.succ_pos _
  · rw [maxI_is em k1 k2]; exact post.int hr
theorem cr_minP (hc : X.calm = true) (al : Bool) : CallR X (.builtin "min") (rConv X .min al) := by
  intro pins s σ H xs us Q I r hw
  obtain ⟨L, h, p, x, z, h', rfl, hr, v, e, post⟩ := hw
  simp only [convop] at e
  obtain ⟨e, rfl⟩ := R.of_eq_ok e
  obtain ⟨ys, ex, e⟩ := Option.bind_eq_some_iff.mp e
  obtain ⟨m, em, rfl⟩ := Option.map_eq_some_iff.mp e
  obtain ⟨ns, en, em⟩ := Option.bind_eq_some_iff.mp em
  obtain ⟨a, vs, rfl, h1, h2⟩ := v.list hr ex
  cases h2.ints en
  refine cr_min hc pins s σ H _ us Q I r ⟨a, ns, rfl, sqr h1, ?_, fun k k1 k2 => ?_⟩
  · cases ns with
    | nil => cases em
    | cons _ _ => exact Nat.succ_pos _
  · rw [minI_is em k1 k2]; exact post.int hr
end
end HW
/-! HwJ: dict(pairs). -/
namespace HW
open PySem PySem.Spec PyProof.Rows L2

theorem keyVT {p : PV} (h1 : keyV p = true) (h2 : keyT p = true) : False := by
  obtain ⟨_, _, rfl, _⟩ := keyT_toN h2
  simp [keyV] at h1
theorem dPut_all {f : PV → Bool} {es : List (PV × PV)} {k v : PV} (h : (es.all fun e => f e.1) = true) (hk : f k = true) : ((dPut es k v).all fun e => f e.1) = true := by
  unfold dPut
  split
  · rw [List.all_map]
    refine List.all_eq_true.mpr fun e he => ?_
    have := List.all_eq_true.mp h e he
    simp only [Function.comp_def]
    split <;> exact this
  · rw [List.all_append, h]
    simp [hk]
theorem putAll_v : ∀ {ps es es' : List (PV × PV)}, putAll es ps = some es' → es ≠ [] → (es.all fun e => keyV e.1) = true → (ps.all fun e => keyV e.1) = true
  | [], _, _, _, _, _ => rfl
  | (k, v) :: r, es, es', h, h0, h1 => by
    rw [putAll] at h
    split at h
    · rename_i hc
      rw [Bool.and_eq_true] at hc
      have hk : keyV k = true := by
        have := hc.1
        unfold keyOk at this
        rw [Bool.or_eq_true, Bool.and_eq_true, Bool.and_eq_true] at this
        rcases this with ⟨a, _⟩ | ⟨_, b⟩
        · exact a
        · cases es with
          | nil => exact absurd rfl h0
          | cons e es =>
            rw [List.all_cons, Bool.and_eq_true] at h1 b
            exact (keyVT h1.1 b.1).elim
      rw [List.all_cons, hk, putAll_v h (dPut_ne _ _ _) (dPut_all (f := keyV) h1 hk)]
      rfl
    · cases h
theorem putAll_t : ∀ {ps es es' : List (PV × PV)}, putAll es ps = some es' → es ≠ [] → (es.all fun e => keyT e.1) = true → (ps.all fun e => keyT e.1) = true
  | [], _, _, _, _, _ => rfl
  | (k, v) :: r, es, es', h, h0, h1 => by
    rw [putAll] at h
    split at h
    · rename_i hc
      rw [Bool.and_eq_true] at hc
      have hk : keyT k = true := by
        have := hc.1
        unfold keyOk at this
        rw [Bool.or_eq_true, Bool.and_eq_true, Bool.and_eq_true] at this
        rcases this with ⟨_, b⟩ | ⟨a, _⟩
        · cases es with
          | nil => exact absurd rfl h0
          | cons e es =>
            rw [List.all_cons, Bool.and_eq_true] at h1 b
            exact (keyVT b.1 h1.1).elim
        · exact a
      rw [List.all_cons, hk, putAll_t h (dPut_ne _ _ _) (dPut_all (f := keyT) h1 hk)]
      rfl
    · cases h
theorem putAll_cases {ps es' : List (PV × PV)} (h : putAll [] ps = some es') : (ps.all fun e => keyV e.1) = true ∨ ((ps.all fun e => keyT e.1) = true ∧ ps ≠ []) := by
  cases ps with
  | nil => exact .inl rfl
  | cons e r =>
    obtain ⟨k, v⟩ := e
    rw [putAll] at h
    split at h
    · rename_i hc
      rw [Bool.and_eq_true] at hc
      have := hc.1
      unfold keyOk at this
      rw [Bool.or_eq_true, Bool.and_eq_true, Bool.and_eq_true] at this
      rcases this with ⟨a, _⟩ | ⟨a, _⟩
      · refine .inl ?_
        rw [List.all_cons, a, putAll_v h (dPut_ne _ _ _) (dPut_all (f := keyV) rfl a)]
        rfl
      · refine .inr ⟨?_, by simp⟩
        rw [List.all_cons, a, putAll_t h (dPut_ne _ _ _) (dPut_all (f := keyT) rfl a)]
        rfl
    · cases h
theorem putAll_fold : ∀ {ps es es' : List (PV × PV)}, putAll es ps = some es' → es' = ps.foldl (fun e p => dPut e p.1 p.2) es
  | [], _, _, h => by rw [putAll] at h; cases h; rfl
  | (k, v) :: r, es, es', h => by
    rw [putAll] at h
    split at h
    · rw [List.foldl_cons]; exact putAll_fold h
    · cases h
theorem foldPut_ne : ∀ (ps es : List (PV × PV)), es ≠ [] → ps.foldl (fun e p => dPut e p.1 p.2) es ≠ []
  | [], _, h => h
  | p :: r, es, _ => by rw [List.foldl_cons]; exact foldPut_ne r _ (dPut_ne _ _ _)
section
variable {Z : Wd} {L : List Addr} {H : Hp}
theorem pks_fold {ps : List (PV × PV)} {qs : List (L2.Key × V)} (r : PKs Z L H ps qs) : ∀ {es : List (PV × PV)} {kvs : List (L2.Key × V)}, PKs Z L H es kvs → PKs Z L H (ps.foldl (fun e p => dPut e p.1 p.2) es) (mergeK kvs qs) := by
  induction r with
  | nil => exact fun h => h
  | cons h1 _ ih =>
    intro es kvs h
    rw [List.foldl_cons]
    show PKs Z L H _ (mergeK (putK kvs _ _) _)
    refine ih ?_
    rw [h1.1]
    exact h.put _ h1.2
def foldT (xs qs : List (NestedKey × Addr × V)) : List (NestedKey × Addr × V) := qs.foldl (fun a q => storedT a q.1 q.2.1 q.2.2) xs
theorem pts_fold {ps : List (PV × PV)} {qs : List (NestedKey × Addr × V)} (r : PTs_ Z L H ps qs) : ∀ {es : List (PV × PV)} {xs : List (NestedKey × Addr × V)}, PTs_ Z L H es xs → PTs_ Z L H (ps.foldl (fun e p => dPut e p.1 p.2) es) (foldT xs qs) := by
  induction r with
  | nil => exact fun h => h
  | cons h1 _ ih =>
    intro es xs h
    rw [List.foldl_cons]
    unfold foldT
    rw [List.foldl_cons]
    exact ih (h.put h1.1 h1.2.1 h1.2.2.1 h1.2.2.2)
theorem xy_fold {qs : List (NestedKey × Addr × V)} {rs : List (NestedKey × Addr × Value)} (r : XY qs rs) : ∀ {xs : List (NestedKey × Addr × V)} {ys : List (NestedKey × Addr × Value)}, XY xs ys → XY (foldT xs qs) (storedAllH ys rs) := by
  induction r with
  | nil => exact fun h => h
  | cons h1 _ ih =>
    intro xs ys h
    unfold foldT storedAllH
    rw [List.foldl_cons, List.foldl_cons]
    refine ih ?_
    rw [h1.1, h1.2.1]
    exact stored_ys h _ _ h1.2.2
theorem foldT_len : ∀ (qs xs : List (NestedKey × Addr × V)), (foldT xs qs).length ≤ xs.length + qs.length
  | [], _ => Nat.le_refl _
  | q :: qs, xs => by
    unfold foldT
    rw [List.foldl_cons]
    have h1 := foldT_len qs (storedT xs q.1 q.2.1 q.2.2)
    have h2 := storedT_len xs q.1 q.2.1 q.2.2
    unfold foldT at h1
    rw [List.length_cons]
    omega
end
/-- the pairs that a list or tuple holds -/
structure PrR (Z : Wd) (L : List Addr) (H : Hp) (g : Heap) (p : PV × PV) (q : Addr × (V × Value) × (V × Value)) : Prop where
  k : VR Z L H p.1 q.2.1.1
  v : VR Z L H p.2 q.2.2.1
  rk : RelV q.2.1.1 q.2.1.2
  rv : RelV q.2.2.1 q.2.2.2
  at_ : PairAt g q.1 q.2.1.2 q.2.2.2
section
variable {X : Cx} {pins : List (Addr × Obj)} {σ : L2.St} {H : Hp} {s : Shared} {L : List Addr}
theorem pairs_at (I : Inv X pins σ H s) : ∀ {xs : List PV} {ps : List (PV × PV)} {vs : List V} {us : List Value}, xs.mapM pairOf = some ps → VRs (wd X) L H xs vs → Vals vs us →
    ∃ qs, us = qs.map (fun q => Value.ref q.1) ∧ Paired (PrR (wd X) L H s.heap) ps qs
  | [], _, _, _, e, .nil, .nil => by
    cases e
    exact ⟨[], rfl, .nil⟩
  | x :: xs, ps, _, _, e, .cons h1 h2, .cons r1 r2 => by
    rw [List.mapM_cons] at e
    obtain ⟨p, e1, e⟩ := Option.bind_eq_some_iff.mp e
    obtain ⟨ps', e2, e⟩ := Option.bind_eq_some_iff.mp e
    cases e
    obtain ⟨qs, rfl, q2⟩ := pairs_at I e2 h2 r2
    unfold pairOf at e1
    split at e1
    · cases e1
      cases h1 with
      | tup t1 t2 t3 =>
        cases r1
        obtain ⟨its, rv, ⟨o, ho, hc, n, hd⟩, _⟩ := I.tuple t1.sq
        obtain ⟨a, b, rfl, va, vb⟩ := vrs2 t3
        obtain ⟨u, w, rfl, ra, rb⟩ := rv.two
        exact ⟨(_, (a, u), (b, w)) :: qs, rfl, .cons ⟨va, vb, ra, rb, .inl ⟨o, ho, hc, n, hd⟩⟩ q2⟩
    · cases e1
theorem keysK : ∀ {ps : List (PV × PV)} {qs : List (Addr × (V × Value) × (V × Value))}, (ps.all fun e => keyV e.1) = true → Paired (PrR (wd X) L H s.heap) ps qs →
    ∃ (kvs : List (L2.Key × V)) (rs : List (L2.Key × Value)), PKs (wd X) L H ps kvs ∧ KV kvs rs ∧ rs.length = qs.length ∧ ∀ (i : Nat) (key v : Value), (qs.map fun q => (q.2.1.2, q.2.2.2))[i]? = some (key, v) → ∃ k, rs[i]? = some (k, v) ∧ (mixKind X.prog X.w).is k key = true
  | _, _, _, .nil => ⟨[], [], .nil, .nil, rfl, fun i key v e => by simp at e⟩
  | p :: ps, q :: qs, h, .cons h1 h2 => by
    rw [List.all_cons, Bool.and_eq_true] at h
    obtain ⟨kvs, rs, g1, g2, g3, g4⟩ := keysK h.2 h2
    obtain ⟨k, ek⟩ := keyV_kP h.1
    have hk := h1.k
    have hr := h1.rk
    rw [ek] at hk
    have e1 : q.2.1.1 = kV k := by
      generalize q.2.1.1 = y at hk
      cases k <;> (cases hk; rfl)
    rw [e1] at hr
    refine ⟨(k, q.2.2.1) :: kvs, (k, q.2.2.2) :: rs, .cons ⟨ek, h1.v⟩ g1, .cons ⟨rfl, h1.rv⟩ g2, by simp [g3], fun i key v e => ?_⟩
    cases i with
    | zero =>
      simp only [List.map_cons, List.getElem?_cons_zero, Option.some.injEq, Prod.mk.injEq] at e
      obtain ⟨rfl, rfl⟩ := e
      exact ⟨k, rfl, kV_is hr⟩
    | succ i =>
      simp only [List.map_cons, List.getElem?_cons_succ] at e ⊢
      exact g4 i key v e
theorem keysT (I : Inv X pins σ H s) : ∀ {ps : List (PV × PV)} {qs : List (Addr × (V × Value) × (V × Value))}, (ps.all fun e => keyT e.1) = true → Paired (PrR (wd X) L H s.heap) ps qs →
    ∃ (xs : List (NestedKey × Addr × V)) (ys : List (NestedKey × Addr × Value)), PTs_ (wd X) L H ps xs ∧ XY xs ys ∧ ys.length = qs.length ∧ ∀ (i : Nat) (key v : Value), (qs.map fun q => (q.2.1.2, q.2.2.2))[i]? = some (key, v) → ∃ (k : NestedKey) (b : Addr), ys[i]? = some (k, b, v) ∧ key = Value.ref b
  | _, _, _, .nil => ⟨[], [], .nil, .nil, rfl, fun i key v e => by simp at e⟩
  | p :: ps, q :: qs, h, .cons h1 h2 => by
    rw [List.all_cons, Bool.and_eq_true] at h
    obtain ⟨kvs, rs, g1, g2, g3, g4⟩ := keysT I h.2 h2
    obtain ⟨zs, k, ek, hk, hd⟩ := keyT_toN h.1
    have hv := h1.k
    have hr := h1.rk
    rw [ek] at hv
    obtain ⟨b, e1⟩ : ∃ b, q.2.1.1 = V.ref b := by
      generalize q.2.1.1 = y at hv
      cases hv
      exact ⟨_, rfl⟩
    rw [e1] at hr hv
    have e2 : q.2.1.2 = .ref b := hr
    refine ⟨(k, b, q.2.2.1) :: kvs, (k, b, q.2.2.2) :: rs, .cons ⟨h.1, hk, by rw [ek]; exact hv, h1.v⟩ g1, .cons ⟨rfl, rfl, h1.rv⟩ g2, by simp [g3], fun i key v e => ?_⟩
    cases i with
    | zero =>
      simp only [List.map_cons, List.getElem?_cons_zero, Option.some.injEq, Prod.mk.injEq] at e
      obtain ⟨rfl, rfl⟩ := e
      exact ⟨k, b, rfl, e2⟩
    | succ i =>
      simp only [List.map_cons, List.getElem?_cons_succ] at e ⊢
      exact g4 i key v e
/-- a new dict, live or fixed -/
theorem ep_dict {X : Cx} {pins : List (Addr × Obj)} {σ : L2.St} {s : Shared} {H : Hp} {L : List Addr} {h h' : PHeap} {al : Bool} {es : List (PV × PV)} {r : PV} {Q : VK} {h2 : Heap} {tk : Nat} {o : HO} (I : Inv X pins σ H s) (e : mkDict al es h = .ok r h') (post : Post (wd X) L H r h' Q) (hr : HR (wd X) L h H)
    (k2 : ∀ b o, s.heap.get? b = some o → h2.get? b = some o) (hob : ∃ ob, h2.get? s.heap.objs.size = some ob) (new : ∀ H', ObjOk X.prog X.w H' h2 s.heap.objs.size o)
    (d : ∀ L' o', Ext L H L' (upd H s.heap.objs.size o') → ∀ W : HO → Prop, W o → DP (wd X) L' (upd H s.heap.objs.size o') s.heap.objs.size W es) : EP X pins σ Q (.ref s.heap.objs.size) { s with heap := h2, toks := tk } := by
  have hn : H s.heap.objs.size = none := I.hok.fresh (Nat.le_refl _)
  unfold mkDict at e
  cases al with
  | false =>
    simp only [Bool.false_eq_true, if_false, R.ok.injEq] at e
    obtain ⟨rfl, rfl⟩ := e
    obtain ⟨ob, hob⟩ := hob
    refine ⟨.ref s.heap.objs.size, _, I.laid (t' := tk) k2 (Nat.le_refl _) (o := .frz ob o) ⟨hob, new _⟩, rfl, ?_⟩
    refine post _ _ _ (ext_new hn) (hr.new hn) ?_
    cases d L (.frz ob o) (ext_new hn) (FzAt (upd H s.heap.objs.size (.frz ob o)) s.heap.objs.size) ⟨ob, upd_same⟩ with
    | k h1 h2 h3 => exact .dctK h1 (hr.free hn) h2 h3
    | t h1 h0 h2 h3 h4 h5 => exact .dctT h1 (hr.free hn) h0 h2 h3 h4 h5
  | true =>
    simp only [if_true, R.ok.injEq] at e
    obtain ⟨rfl, rfl⟩ := e
    refine ⟨.ref s.heap.objs.size, _, I.laid (t' := tk) k2 (Nat.le_refl _) (o := o) (new _), rfl, ?_⟩
    refine post _ _ _ (ext_live hn) (hr.live hn (d _ _ (ext_live hn) _ upd_same)) (.ref ?_)
    rw [← hr.len]
    simp
theorem pairItems {g : Heap} {ps : List (PV × PV)} {qs : List (Addr × (V × Value) × (V × Value))} (r : Paired (PrR (wd X) L H g) ps qs) : PairItems g (qs.map (fun q => Value.ref q.1)).toArray (fun j => (qs[j]?.map (·.1)).getD 0) (qs.map fun q => (q.2.1.2, q.2.2.2)) := by
  refine ⟨by simp, fun j k v e => ?_⟩
  rw [List.getElem?_map] at e
  obtain ⟨q, hq, e2⟩ := Option.map_eq_some_iff.mp e
  cases e2
  refine ⟨by simp [hq], ?_⟩
  dsimp only
  rw [hq]
  have : ∀ {ps : List (PV × PV)} {qs : List (Addr × (V × Value) × (V × Value))} {j : Nat}, Paired (PrR (wd X) L H g) ps qs → qs[j]? = some q → PairAt g q.1 q.2.1.2 q.2.2.2 := by
    intro ps qs j r
    induction r generalizing j with
    | nil => intro e; simp at e
    | cons h1 _ ih =>
      intro e
      cases j with
      | zero => simp only [List.getElem?_cons_zero, Option.some.injEq] at e; subst e; exact h1.at_
      | succ j => exact ih (by simpa using e)
  exact this r hq
theorem dict_of (hc : X.calm = true) (hu : Um X) (I : Inv X pins σ H s) {T : String} {a : Addr} {fp : List Addr} {OK : Heap → Prop} {ps es : List (PV × PV)} {qs : List (Addr × (V × Value) × (V × Value))} {Q : VK} {h h' : PHeap} {al : Bool} {z : PV} (hr : HR (wd X) L h H)
    (P : PairArg X.prog X.w T a fp [] (qs.map fun q => (q.2.1.2, q.2.2.2)).length (PairRel (qs.map fun q => (q.2.1.2, q.2.2.2))) OK) (ok : OK s.heap) (r : Paired (PrR (wd X) L H s.heap) ps qs) (hl : qs.length ≤ sizeLine)
    (e : putAll [] ps = some es) (e2 : mkDict al es h = .ok z h') (post : Post (wd X) L H z h' Q) : wpAny (model X.prog X.w) X.A (call (.type "dict") [.ref a]) (EP X pins σ Q) X.xe s := by
  have hh := I.ok.hd hc
  have ef := putAll_fold e
  have hn : H s.heap.objs.size = none := I.hok.fresh (Nat.le_refl _)
  have hs : (s.heap.objs.size == sysModules) = false := by
    rw [beq_eq_false_iff_ne]
    exact Nat.ne_of_gt I.big
  rcases putAll_cases e with hk | ⟨hk, h0⟩
  · obtain ⟨kvs, rs, g1, g2, g3, g4⟩ := keysK hk r
    have e3 : kvs.length = rs.length := Paired.length g2
    refine call_dict_pairs (knd := mixKind X.prog X.w) (kvs := rs) P hh ok ⟨by rw [g3, List.length_map], g4⟩ (by rw [List.length_map]; exact hl) fun h2 tk dd kk => ?_
    have k2 : ∀ b o, s.heap.get? b = some o → h2.get? b = some o := fun b o x => kk b o (by simp) x
    have hz : (mergeK [] kvs).length ≤ sizeLine := by
      have := length_mergeK kvs []
      simp only [List.length_nil, Nat.zero_add] at this
      omega
    refine ep_dict I e2 post hr k2 (let ⟨q, _, _, hq, _⟩ := id dd; ⟨q, hq⟩) (fun _ => dk_new hz hs (KV.merge g2 (.nil : KV ([] : List (L2.Key × V)) [])) dd) fun L' o' ex W hW => ?_
    rw [ef]
    exact DP.ofK hW (Paired.mapP (pks_fold g1 (.nil)) fun a b ⟨q1, q2⟩ => ⟨q1, q2.mono ex⟩)
  · obtain ⟨xs, ys, g1, g2, g3, g4⟩ := keysT I hk r
    have e3 : xs.length = ys.length := Paired.length g2
    have room : (nestedKind X.prog X.w).room X.A.in1.in1 := by
      show X.A.in1.in1.units + 8 < cLine
      rw [Around.in1_units, Around.in1_units]
      have : X.A.units + 100 < cLine := hu
      omega
    have keys := ys_keys I g1 g2
    refine call_dict_pairsH (knd := nestedKind X.prog X.w) (ps := ys) P hh room ok ⟨by rw [g3, List.length_map], g4⟩ (fun g hg x hx => ?_) (by rw [List.length_map]; exact hl) fun h2 tk dd kk => ?_
    · refine nestedKind_stays.stays (fun b o vs n ho hd => hg b o (fun z => ?_) (by simp) ho) (keys x hx)
      rw [z] at ho
      exact absurd (Heap.lt_size ho) (Nat.lt_irrefl _)
    · have k2 : ∀ b o, s.heap.get? b = some o → h2.get? b = some o := fun b o x => kk b o (by simp) x
      have hz : (foldT [] xs).length ≤ sizeLine := by
        have := foldT_len xs []
        simp only [List.length_nil, Nat.zero_add] at this
        omega
      refine ep_dict I e2 post hr k2 (let ⟨q, _, _, hq, _⟩ := id dd; ⟨q, hq⟩) (fun _ => dictB_ok (X := X) (xy_fold g2 .nil) hz hs dd) fun L' o' ex W hW => ?_
      have hne : es ≠ [] := by
        rw [ef]
        cases ps with
        | nil => exact absurd rfl h0
        | cons p ps => rw [List.foldl_cons]; exact foldPut_ne _ _ (dPut_ne _ _ _)
      refine DP.ofT hW hne ?_
      rw [ef]
      exact Paired.mapP (pts_fold g1 .nil) fun a b ⟨q1, q2, q3, q4⟩ => ⟨q1, q2, q3.mono ex, q4.mono ex⟩
theorem cr_dict (hc : X.calm = true) (hu : Um X) (al : Bool) : CallR X (.type "dict") (rConv X .dict al) := by
  intro pins s σ H xs us Q I r hw
  obtain ⟨L, h, p, x, z, h', rfl, hr, v, e, post⟩ := hw
  simp only [convop] at e
  obtain ⟨es, e1, e2⟩ := R.of_bind e
  obtain ⟨ys, ey, e1⟩ := Option.bind_eq_some_iff.mp e1
  obtain ⟨ps, ep, e1⟩ := Option.bind_eq_some_iff.mp e1
  obtain ⟨a, vs, rfl, h1, h2⟩ := v.seq hr ey
  obtain ⟨u, rfl, ru⟩ := r.one
  cases ru
  rcases h1 with h1 | ⟨o, h1, hd⟩
  · obtain ⟨its, rv, ⟨o, n, ho, hc', hd, hdat⟩, hz⟩ := I.list (sqr h1)
    obtain ⟨qs, rfl, hq⟩ := pairs_at I ep h2 rv
    have hl := rv.length
    rw [List.length_map] at hl
    exact dict_of hc hu I hr (PairArg.list a _ _ _) ⟨⟨o, n, ho, hc', hd, hdat⟩, pairItems hq⟩ hq (by omega) e1 e2 post
  · obtain ⟨ho, hz, its, rv, ⟨o', ho', hc', n, hdat⟩⟩ := I.hok a _ h1
    rw [ho] at ho'; cases ho'
    obtain ⟨qs, rfl, hq⟩ := pairs_at I ep h2 rv
    have hl := rv.length
    rw [List.length_map] at hl
    exact dict_of hc hu I hr (PairArg.tuple a _ _ _) ⟨⟨o, n, ho, hc', hd, hdat⟩, pairItems hq⟩ hq (by omega) e1 e2 post
end
end HW
/-! HwK: sets, made and sorted at once. -/
namespace HW
open PySem PySem.Spec PyProof.Rows L2

/-- a set that was just made -/
abbrev setO (w : World) : Obj := { cls := .type "set", dict := none, data := .set #[] 0 (.fresh 0 0 (!w.params.followText "set-order")) }
section
variable {P : Program} {w : World} {A : Around} {E : Value → Shared → Prop} {s : Shared}
/-- what the filling of a new set must come to: from the state s1, the set at S empty, the items walked at I -/
def SetLoop (P : Program) (w : World) (A : Around) (s : Shared) (l : Addr) (items : Array Value) (Good : Heap → Prop) : Prop :=
  ∀ (I : Addr) (St : Nat → Heap → Prop) (s1 : Shared) (R : Result → Shared → Prop), I = s.heap.objs.size + 1 → Walks P w A.in1.in1.in1 I [I, l] [I] items.size (fun i v => items[i]? = some v) St → St 0 s1.heap →
    (∀ b o, s.heap.get? b = some o → s1.heap.get? b = some o) → s1.heap.get? s.heap.objs.size = some (setO w) → (∀ s', Moved (s.heap.objs.size :: [I]) (fun a b => b = a) s1 s' → Good s'.heap → R (.ok (.ret .none)) s') →
    codeAny (model P w) A.in1.in1 (.builtin "set.update.loop" ⟨[.ref s.heap.objs.size, .ref I], []⟩) R s1
set_option maxHeartbeats 3200000 in
theorem set_made {l : Addr} {items : Array Value} {Good : Heap → Prop} {Q : Value → Shared → Prop} (hh : A.handled = none) (src : s.heap.IsList l items ∨ s.heap.IsTuple l items) (loop : SetLoop P w A s l items Good)
    (h : ∀ (h' : Heap) (tk : Nat), Good h' → (∀ b o, s.heap.get? b = some o → h'.get? b = some o) → Q (.ref s.heap.objs.size) { s with heap := h', toks := tk }) :
    wpAny (model P w) A (call (.type "set") [.ref l]) Q E s := by
  obtain ⟨c, tl, hmro⟩ := PySem.F.called_set.mro
  have hmade := PySem.F.called_set.made
  have hsub := PySem.F.called_set.sub
  refine wpAny_call (codeAny_of_tree ?_)
  show wpAny _ _ (callAny (.type "set") _) _ _ _
  refine wpAny_pure ⟨Code.quiet_builtin _ (by decide +kernel), codeAny_builtin PySem.F.entry_type_call ?_⟩
  rw [Around.under_plain (weight_type_call_type "set" [.ref l] []) rfl]
  have h1 := PySem.F.called_set.notType
  have h2 := PySem.F.called_set.canCreate
  have hct := PySem.F.typeCall_set_1 (.ref l)
  repeat (any_goals (first | assumption | wp_step))
  refine codeAny_mono (code_set_led1 (.ref l) (E := E) (Q₁ := fun obj s₁ => obj = .ref s.heap.objs.size ∧ s₁ = { s with heap := s.heap.push (setO w) }) ⟨rfl, rfl⟩) fun r s₁ hr => ?_
  cases r with
  | error e => exact hr
  | ok fl =>
    cases fl with
    | ret obj =>
      obtain ⟨rfl, rfl⟩ := hr
      have new : (s.heap.push (setO w)).get? s.heap.objs.size = some (setO w) := Heap.get?_push_size _ rfl
      have hT : Shared.TypeIs { s with heap := s.heap.push (setO w) } (.ref s.heap.objs.size) "set" := ⟨_, new, rfl⟩
      have hli := PySem.F.called_set.init.lookup
      have hbi := PySem.F.called_set.init.bind (.ref s.heap.objs.size)
      repeat (any_goals (first | assumption | wp_step))
      refine codeAny_mono (codeAny_call_builtin (R := wants (fun r s₂ => r = .none ∧ ∃ h' tk, s₂ = { s with heap := h', toks := tk } ∧ Good h' ∧ (∀ b o, s.heap.get? b = some o → h'.get? b = some o)) E)
        PySem.F.called_set.init.plain PySem.F.entry_set_init (check_set_init_1 hT ?_)) fun r₂ s₂ hr₂ => ?_
      · rcases src with src | src
        · obtain ⟨ol, hol, hcl, nl, hdl⟩ := src
          obtain ⟨ocls, odict, odata, oslots⟩ := ol
          simp only at hcl hdl
          subst hcl
          subst hdl
          have hol' : (s.heap.push (setO w)).get? l = some { cls := .type "list", dict := odict, data := .seq items nl, slots := oslots } := Heap.get?_push_of_some _ hol
          have hsls := PySem.F.sub_list_set
          have hslf := PySem.F.sub_list_frozenset
          have hne : (Value.type "list" == Value.type "dict") = false := by decide
          have hl1 : (s.heap.push (setO w)).IsList l items := ⟨_, hol', rfl, nl, rfl⟩
          unfold Builtin.«set.__init__» noKeywords Builtin.Frozenset.updateFrom
          generalize hPI : pyIter = PI
          wp_walk
          subst hPI
          refine wpAny_pyIter_list hl1 ?_
          refine wpAny_bind (wpAny_runValue ?_)
          have hlS : l < s.heap.objs.size := Heap.lt_size hol
          have hh3 : A.in1.in1.in1.handled = none := by simp [hh]
          have hz1 : (s.heap.push (setO w)).objs.size = s.heap.objs.size + 1 := Heap.size_push ..
          have hneI : l ≠ (s.heap.push (setO w)).objs.size := by
            rw [hz1]
            exact Nat.ne_of_lt (Nat.lt_succ_of_lt hlS)
          refine loop _ _ _ _ hz1 (Walks.list hh3 _ l hneI items) ⟨⟨_, Heap.get?_push_size _ rfl, rfl, rfl⟩, hl1.push _⟩ (fun b o e => Heap.get?_push_of_some _ (Heap.get?_push_of_some _ e)) (Heap.get?_push_of_some _ new) fun s' hm hg => ?_
          obtain ⟨h', g2, d', tk', os'⟩ := s'
          have eg : g2 = s.gens := hm.gens
          have ed : d' = s.drawn := hm.drawn
          have eo : os' = s.os := hm.os
          subst eg
          subst ed
          subst eo
          show wpAny _ _ _ _ _ _
          refine wpAny_pure ?_
          show wpAny _ _ (ret Value.none) _ _ _
          refine wpAny_pure ⟨rfl, h', tk', rfl, hg, fun b o e => ?_⟩
          have hb0 : b < s.heap.objs.size := Heap.lt_size e
          refine hm.heap b o ?_ (Heap.get?_push_of_some _ (Heap.get?_push_of_some _ e))
          simp only [List.mem_cons, List.mem_singleton, List.not_mem_nil, or_false, not_or]
          exact ⟨Nat.ne_of_lt hb0, by rw [hz1]; exact Nat.ne_of_lt (Nat.lt_succ_of_lt hb0)⟩
        · obtain ⟨ol, hol, hcl, nl, hdl⟩ := src
          obtain ⟨ocls, odict, odata, oslots⟩ := ol
          simp only at hcl hdl
          subst hcl
          subst hdl
          have hol' : (s.heap.push (setO w)).get? l = some { cls := .type "tuple", dict := odict, data := .seq items nl, slots := oslots } := Heap.get?_push_of_some _ hol
          have hsls := PySem.F.sub_tuple_set
          have hslf := PySem.F.sub_tuple_frozenset
          have hne : (Value.type "tuple" == Value.type "dict") = false := by decide
          have hl1 : (s.heap.push (setO w)).IsTuple l items := ⟨_, hol', rfl, nl, rfl⟩
          unfold Builtin.«set.__init__» noKeywords Builtin.Frozenset.updateFrom
          generalize hPI : pyIter = PI
          wp_walk
          subst hPI
          refine wpAny_pyIter_tuple hl1 ?_
          refine wpAny_bind (wpAny_runValue ?_)
          have hlS : l < s.heap.objs.size := Heap.lt_size hol
          have hh3 : A.in1.in1.in1.handled = none := by simp [hh]
          have hz1 : (s.heap.push (setO w)).objs.size = s.heap.objs.size + 1 := Heap.size_push ..
          have hneI : l ≠ (s.heap.push (setO w)).objs.size := by
            rw [hz1]
            exact Nat.ne_of_lt (Nat.lt_succ_of_lt hlS)
          refine loop _ _ _ _ hz1 (Walks.tuple hh3 _ l hneI items) ⟨⟨_, Heap.get?_push_size _ rfl, rfl, rfl⟩, hl1.push _⟩ (fun b o e => Heap.get?_push_of_some _ (Heap.get?_push_of_some _ e)) (Heap.get?_push_of_some _ new) fun s' hm hg => ?_
          obtain ⟨h', g2, d', tk', os'⟩ := s'
          have eg : g2 = s.gens := hm.gens
          have ed : d' = s.drawn := hm.drawn
          have eo : os' = s.os := hm.os
          subst eg
          subst ed
          subst eo
          show wpAny _ _ _ _ _ _
          refine wpAny_pure ?_
          show wpAny _ _ (ret Value.none) _ _ _
          refine wpAny_pure ⟨rfl, h', tk', rfl, hg, fun b o e => ?_⟩
          have hb0 : b < s.heap.objs.size := Heap.lt_size e
          refine hm.heap b o ?_ (Heap.get?_push_of_some _ (Heap.get?_push_of_some _ e))
          simp only [List.mem_cons, List.mem_singleton, List.not_mem_nil, or_false, not_or]
          exact ⟨Nat.ne_of_lt hb0, by rw [hz1]; exact Nat.ne_of_lt (Nat.lt_succ_of_lt hb0)⟩
      · cases r₂ with
        | error e => exact hr₂
        | ok fl₂ =>
          cases fl₂ with
          | ret r =>
            obtain ⟨rfl, h', tk, rfl, hg, hk'⟩ := hr₂
            repeat (any_goals (first | assumption | wp_step))
            exact h _ _ hg hk'
          | _ => exact hr₂.elim
    | _ => exact hr.elim
end
end HW
/-! HwL: readings by the evaluator; plain expressions. -/
namespace HW
open PySem PySem.Spec PyProof.Rows L2

def rE (X : Cx) (f : Env → PHeap → R PV) : TE := fun σ H Q => ∃ L h env v h', HR (wd X) L h H ∧ ER (wd X) L H env σ ∧ f env h = .ok v h' ∧ Post (wd X) L H v h' Q
def rT (X : Cx) (f : Env → PHeap → R Bool) : TT := fun σ H Q => ∃ L h env b h', HR (wd X) L h H ∧ ER (wd X) L H env σ ∧ f env h = .ok b h' ∧ PostH (wd X) L H h' (Q b)
def rA (X : Cx) (f : Env → PHeap → R (List PV)) : TA := fun σ H Q => ∃ L h env vs h', HR (wd X) L h H ∧ ER (wd X) L H env σ ∧ f env h = .ok vs h' ∧ ∀ xs L' H', Ext L H L' H' → HR (wd X) L' h' H' → VRs (wd X) L' H' vs xs → Q xs H'
def rO (X : Cx) (f : Env → PHeap → R (Option Int)) : TO := fun σ H Q => ∃ L h env o h', HR (wd X) L h H ∧ ER (wd X) L H env σ ∧ f env h = .ok o h' ∧ PostH (wd X) L H h' (Q o)
theorem imE {X : Cx} {e : Expr} {t t' : TE} (h : PE X e t) (i : ∀ σ H Q, t' σ H Q → t σ H Q) : PE X e t' := ⟨fun pins s σ H Q I q => h.run pins s σ H Q I (i σ H Q q)⟩
theorem imT {X : Cx} {e : Expr} {t t' : TT} (h : PT X e t) (i : ∀ σ H Q, t' σ H Q → t σ H Q) : PT X e t' := ⟨fun pins s σ H Q I q => h.run pins s σ H Q I (i σ H Q q)⟩
theorem imW {X : Cx} {e : Expr} {t t' : TT} (h : PW X e t) (i : ∀ σ H Q, t' σ H Q → t σ H Q) : PW X e t' := ⟨fun wh pins s σ H Q I q => h.run wh pins s σ H Q I (i σ H Q q)⟩
theorem imA {X : Cx} {e : List Expr} {t t' : TA} (h : PA X e t) (i : ∀ σ H Q, t' σ H Q → t σ H Q) : PA X e t' := ⟨fun pos pins s σ H Q I q => h.run pos pins s σ H Q I (i σ H Q q)⟩
theorem imO {X : Cx} {e : Option Expr} {t t' : TO} (h : PO X e t) (i : ∀ σ H Q, t' σ H Q → t σ H Q) : PO X e t' := ⟨fun pins s σ H Q I q => h.run pins s σ H Q I (i σ H Q q)⟩
section
variable {Z : Wd} {L L' : List Addr} {H H' : Hp} {h h' : PHeap}
theorem Post.aft {v : PV} {Q : VK} (p : Post Z L H v h' Q) (r : HR Z L h H) (e : Ext L H L' H') : Post Z L' H' v h' Q := fun x L2 H2 e2 r2 v2 => p x L2 H2 (e.tr r e2) r2 v2
theorem PostH.aft {Q : Hp → Prop} (p : PostH Z L H h' Q) (r : HR Z L h H) (e : Ext L H L' H') : PostH Z L' H' h' Q := fun L2 H2 e2 r2 => p L2 H2 (e.tr r e2) r2
end
section
variable {X : Cx} {σ : L2.St} {H : Hp} {Q : VK} {f g k : Env → PHeap → R PV}
/-- one, two, three values in a row -/
theorem rE1 {F : PV → PHeap → R PV} {k : V → Hp → Prop} (q : rE X (fun env h => (f env h).bind F) σ H Q)
    (hk : ∀ x L H h p r h', HR (wd X) L h H → VR (wd X) L H p x → F p h = .ok r h' → Post (wd X) L H r h' Q → k x H) : rE X f σ H k := by
  obtain ⟨L, h, env, v, h', hr, er, e, post⟩ := q
  obtain ⟨p, h1, e1, e2⟩ := R.bind_eq_ok e
  exact ⟨L, h, env, p, h1, hr, er, e1, fun x L1 H1 x1 hr1 v1 => hk x L1 H1 h1 p v h' hr1 v1 e2 (post.aft hr x1)⟩
theorem rE2 {F : PV → PV → PHeap → R PV} {k : V → V → Hp → Prop} (q : rE X (fun env h => (f env h).bind fun x h => (g env h).bind fun y h => F x y h) σ H Q)
    (hk : ∀ x y L H h p p' r h', HR (wd X) L h H → VR (wd X) L H p x → VR (wd X) L H p' y → F p p' h = .ok r h' → Post (wd X) L H r h' Q → k x y H) : rE X f σ H fun x H1 => rE X g σ H1 fun y H2 => k x y H2 := by
  obtain ⟨L, h, env, v, h', hr, er, e, post⟩ := q
  obtain ⟨p, h1, e1, e2⟩ := R.bind_eq_ok e
  obtain ⟨p', h2, e3, e4⟩ := R.bind_eq_ok e2
  exact ⟨L, h, env, p, h1, hr, er, e1, fun x L1 H1 x1 hr1 v1 => ⟨L1, h1, env, p', h2, hr1, er.mono x1, e3, fun y L2 H2 x2 hr2 v2 => hk x y L2 H2 h2 p p' v h' hr2 (v1.mono x2) v2 e4 (post.aft hr (x1.tr hr x2))⟩⟩
end
section
variable {X : Cx} {a b c : Expr} {f g k : Env → PHeap → R PV} {fs : Env → PHeap → R (List PV)} {pos : Pos}
theorem se_var {i : Nat} {x : Str} (hN : X.N[i]? = some x) (hv : Vis X.env.scope x) (hd : (x == ("__debug__" : Str)) = false) (hcd : (x == ("__classdict__" : Str)) = false) : PE X (.Name x pos) (rE X fun env h => match env[i]? with
    | some (some v) => .ok v h
    | _ => .bad) := imE (pe_var hN hv hd hcd) fun σ H Q ⟨L, h, env, v, h', hr, er, e, post⟩ => by
  dsimp only at e
  split at e
  · rename_i u hu
    cases e
    obtain ⟨x, h1, h2⟩ := er.at_ _ _ hu
    exact ⟨x, h1, post.same hr h2⟩
  · cases e
/-- a constant's value -/
def cOk : PV → Option V
  | .non => some .non
  | .bl b => some (.bl b)
  | .int i => some (.int i)
  | .str s => some (.str s)
  | _ => none
theorem cOk_vr {Z : Wd} {L : List Addr} {H : Hp} {p : PV} {v : V} (h : cOk p = some v) : VR Z L H p v := by
  cases p <;> simp [cOk] at h <;> subst h <;> constructor
theorem se_c {p : PV} {v : V} (hc : cOk p = some v) (h : PE X a (tC v)) : PE X a (rE X fun _ h => .ok p h) := imE h fun σ H Q ⟨L, h, env, v', h', hr, er, e, post⟩ => by
  cases e
  exact post.same hr (cOk_vr hc)
theorem se_bin {op : BOp} (ha : PE X a (rE X f)) (hb : PE X b (rE X g)) : PE X (.BinOp a (pyB op) b pos) (rE X fun env h => (f env h).bind fun x h => (g env h).bind fun y h => R.of (binop op x y h) h) :=
  imE (pe_op (op_bin op) ha hb) fun σ H Q q => rE2 q fun x y L H h p p' r h' hr v1 v2 e post => by
    obtain ⟨e, rfl⟩ := R.of_eq_ok e
    exact ⟨L, _, p, p', r, hr, v1, v2, e, post⟩
theorem se_neg (ha : PE X a (rE X f)) : PE X (.UnaryOp .USub a pos) (rE X fun env h => (f env h).bind fun x h => R.of ((intOf x).map fun i => .int (-i)) h) :=
  imE (pe_un (op := .USub) (r := rU fun i => .int (-i)) (fun pins s σ H x v Q I rx h => by
    obtain ⟨i, rfl, q⟩ := h
    obtain ⟨t, rfl⟩ := rx
    exact neg_int ⟨.int (-i), H, I.tok _, ⟨_, rfl⟩, q⟩) ha) fun σ H Q q => rE1 q fun x L H h p r h' hr v1 e post => by
    obtain ⟨e, rfl⟩ := R.of_eq_ok e
    cases v1 with
    | int i =>
      cases e
      exact ⟨i, rfl, post.int hr⟩
    | _ => simp [intOf] at e
theorem se_cmp (hu : Um X) {op : COp} (ha : PE X a (rE X f)) (hb : PE X b (rE X g)) (hm : behindInMarks (pyC op) b = false) : PE X (.Compare a [pyC op] [b] pos) (rE X fun env h => (f env h).bind fun x h => (g env h).bind fun y h => R.of ((cmpop op x y h).map .bl) h) := by
  refine ⟨fun pins s σ H Q I q => wpAny_Compare1 ?_ hm⟩
  refine binT (R := fun x y H => rCmp X op x y H Q) ha hb I (rE2 q fun x y L H h p p' r h' hr v1 v2 e post => ?_) fun v u s2 x y H2 I2 rx ry q => op_cmp hu op pins s2 σ H2 x y v u Q I2 rx ry q
  obtain ⟨e, rfl⟩ := R.of_eq_ok e
  obtain ⟨t, e9, rfl⟩ := Option.map_eq_some_iff.mp e
  exact ⟨L, _, p, p', t, hr, v1, v2, e9, post⟩
theorem se_ix (ha : PE X a (rE X f)) (hb : PE X b (rE X g)) (hs : PlainIx b) (hu : Um X) : PE X (.Subscript a b pos) (rE X fun env h => (f env h).bind fun x h => (g env h).bind fun y h => R.of (itemOf h x y) h) :=
  imE (pe_ix (ix_item hu) ha hb hs) fun σ H Q q => rE2 q fun x y L H h p p' r h' hr v1 v2 e post => by
    obtain ⟨e, rfl⟩ := R.of_eq_ok e
    exact ⟨L, _, p, p', r, hr, v1, v2, e, post⟩
/-- the truth of a value -/
def dTr (f : Env → PHeap → R PV) (env : Env) (h : PHeap) : R Bool := (f env h).bind fun v h => R.of (tru h v) h
theorem st_plain (hu : Um X) (ha : PE X a (rE X f)) (he : ∀ whole, isTrue a X.env whole = (do let v ← whole; standAt a.pos; holding [v] (truthy v))) : PT X a (rT X (dTr f)) := by
  refine ⟨fun pins s σ H Q I q => isTrue_plain ?_ (he _)⟩
  obtain ⟨L, h, env, b, h', hr, er, e, post⟩ := q
  obtain ⟨p, h1, e1, e2⟩ := R.bind_eq_ok e
  obtain ⟨e3, rfl⟩ := R.of_eq_ok e2
  refine thn (ha.run pins s σ H (fun x H1 => ∃ L1, HR (wd X) L1 h' H1 ∧ VR (wd X) L1 H1 p x ∧ PostH (wd X) L1 H1 h' (Q b)) I ⟨L, h, env, p, h', hr, er, e1, fun x L1 H1 x1 hr1 v1 => ⟨L1, hr1, v1, post.aft hr x1⟩⟩) fun v s1 ⟨x, H1, I1, r1, L1, hr1, v1, q1⟩ => ?_
  exact tru_okP hu pins s1 σ H1 x v Q I1 r1 ⟨L1, h', p, b, hr1, v1, e3, q1 _ _ Ext.refl hr1⟩
theorem tru_bl (h : PHeap) (b : Bool) : tru h (.bl b) = some b := rfl
/-- a bool's truth -/
theorem rT_val {t : TE} (i : ∀ σ H Q, rE X f σ H Q → t σ H Q) (hb : ∀ env h v h', f env h = .ok v h' → ∃ c, v = .bl c) : ∀ σ H Q, rT X (dTr f) σ H Q → tB t σ H Q := fun σ H Q ⟨L, h, env, b, h', hr, er, e, post⟩ => by
  obtain ⟨p, h1, e1, e2⟩ := R.bind_eq_ok e
  obtain ⟨e3, rfl⟩ := R.of_eq_ok e2
  obtain ⟨c, rfl⟩ := hb _ _ _ _ e1
  refine i σ H _ ⟨L, h, env, _, _, hr, er, e1, fun x L1 H1 x1 hr1 v1 => ?_⟩
  cases v1
  rw [tru_bl] at e3
  cases e3
  exact ⟨_, rfl, post _ _ x1 hr1⟩
theorem st_cmp (hu : Um X) {op : COp} (ha : PE X a (rE X f)) (hb : PE X b (rE X g)) (hm : behindInMarks (pyC op) b = false) : PT X (.Compare a [pyC op] [b] pos) (rT X (dTr fun env h => (f env h).bind fun x h => (g env h).bind fun y h => R.of ((cmpop op x y h).map .bl) h)) := by
  have hp : PC X (pyC op) a b (rE X fun env h => (f env h).bind fun x h => (g env h).bind fun y h => R.of ((cmpop op x y h).map .bl) h) := by
    refine ⟨fun pins s σ H Q I q => ?_⟩
    refine binT (R := fun x y H => rCmp X op x y H Q) ha hb I (rE2 q fun x y L H h p p' r h' hr v1 v2 e post => ?_) fun v u s2 x y H2 I2 rx ry q => op_cmp hu op pins s2 σ H2 x y v u Q I2 rx ry q
    obtain ⟨e, rfl⟩ := R.of_eq_ok e
    obtain ⟨t, e9, rfl⟩ := Option.map_eq_some_iff.mp e
    exact ⟨L, _, p, p', t, hr, v1, v2, e9, post⟩
  refine imT (pt_cmp hp hm) (rT_val (fun _ _ _ q => q) fun env h v h' e => ?_)
  obtain ⟨p, h1, e1, e⟩ := R.bind_eq_ok e
  obtain ⟨p', h2, e2, e⟩ := R.bind_eq_ok e
  obtain ⟨e, _⟩ := R.of_eq_ok e
  obtain ⟨t, _, e⟩ := Option.map_eq_some_iff.mp e
  exact ⟨t, e.symm⟩
/-! ### and, or, not, if -/
def andF (f g : Env → PHeap → R PV) : Env → PHeap → R PV := fun env h => (f env h).bind fun x h => (R.of (tru h x) h).bind fun t h => if t then g env h else .ok x h
def orF (f g : Env → PHeap → R PV) : Env → PHeap → R PV := fun env h => (f env h).bind fun x h => (R.of (tru h x) h).bind fun t h => if t then .ok x h else g env h
theorem dTr_ok {f : Env → PHeap → R PV} {env : Env} {h h' : PHeap} {b : Bool} : dTr f env h = .ok b h' ↔ ∃ v, f env h = .ok v h' ∧ tru h' v = some b := by
  constructor
  · intro e
    obtain ⟨p, h1, e1, e2⟩ := R.bind_eq_ok e
    obtain ⟨e3, rfl⟩ := R.of_eq_ok e2
    exact ⟨p, e1, e3⟩
  · rintro ⟨v, e1, e2⟩
    show (f env h).bind _ = _
    rw [e1, R.bind_ok, e2]
    rfl
theorem andF_ok {env : Env} {h h' : PHeap} {v : PV} (e : andF f g env h = .ok v h') : ∃ x h1 t, f env h = .ok x h1 ∧ tru h1 x = some t ∧ if t = true then g env h1 = .ok v h' else x = v ∧ h1 = h' := by
  obtain ⟨x, h1, e1, e⟩ := R.bind_eq_ok e
  obtain ⟨t, e2, e⟩ := R.of_bind e
  refine ⟨x, h1, t, e1, e2, ?_⟩
  cases t with
  | true => exact e
  | false => simp only [Bool.false_eq_true, if_false, R.ok.injEq] at e ⊢; exact e
theorem orF_ok {env : Env} {h h' : PHeap} {v : PV} (e : orF f g env h = .ok v h') : ∃ x h1 t, f env h = .ok x h1 ∧ tru h1 x = some t ∧ if t = true then x = v ∧ h1 = h' else g env h1 = .ok v h' := by
  obtain ⟨x, h1, e1, e⟩ := R.bind_eq_ok e
  obtain ⟨t, e2, e⟩ := R.of_bind e
  refine ⟨x, h1, t, e1, e2, ?_⟩
  cases t with
  | true => simp only [if_true, R.ok.injEq] at e ⊢; exact e
  | false => simpa using e
variable {rest : List Expr}
theorem sw_and (ha : PT X a (rT X (dTr f))) (hb : PW X (.BoolOp .And (b :: rest) pos) (rT X (dTr g))) : PW X (.BoolOp .And (a :: b :: rest) pos) (rT X (dTr (andF f g))) :=
  imW (pw_and ha hb) fun σ H Q ⟨L, h, env, t, h', hr, er, e, post⟩ => by
    obtain ⟨v, e1, e2⟩ := dTr_ok.mp e
    obtain ⟨x, h1, c, e3, e4, e5⟩ := andF_ok e1
    refine ⟨L, h, env, c, h1, hr, er, dTr_ok.mpr ⟨x, e3, e4⟩, fun L1 H1 x1 hr1 => ?_⟩
    cases c with
    | true =>
      simp only [if_true] at e5 ⊢
      exact ⟨L1, h1, env, t, h', hr1, er.mono x1, dTr_ok.mpr ⟨v, e5, e2⟩, post.aft hr x1⟩
    | false =>
      simp only [Bool.false_eq_true, if_false] at e5 ⊢
      obtain ⟨rfl, rfl⟩ := e5
      rw [e4] at e2
      cases e2
      exact post _ _ x1 hr1
theorem sw_or (ha : PT X a (rT X (dTr f))) (hb : PW X (.BoolOp .Or (b :: rest) pos) (rT X (dTr g))) : PW X (.BoolOp .Or (a :: b :: rest) pos) (rT X (dTr (orF f g))) :=
  imW (pw_or ha hb) fun σ H Q ⟨L, h, env, t, h', hr, er, e, post⟩ => by
    obtain ⟨v, e1, e2⟩ := dTr_ok.mp e
    obtain ⟨x, h1, c, e3, e4, e5⟩ := orF_ok e1
    refine ⟨L, h, env, c, h1, hr, er, dTr_ok.mpr ⟨x, e3, e4⟩, fun L1 H1 x1 hr1 => ?_⟩
    cases c with
    | true =>
      simp only [if_true] at e5 ⊢
      obtain ⟨rfl, rfl⟩ := e5
      rw [e4] at e2
      cases e2
      exact post _ _ x1 hr1
    | false =>
      simp only [Bool.false_eq_true, if_false] at e5 ⊢
      exact ⟨L1, h1, env, t, h', hr1, er.mono x1, dTr_ok.mpr ⟨v, e5, e2⟩, post.aft hr x1⟩
theorem se_and (hu : Um X) (ha : PE X a (rE X f)) (hb : PE X (.BoolOp .And (b :: rest) pos) (rE X g)) : PE X (.BoolOp .And (a :: b :: rest) pos) (rE X (andF f g)) := by
  refine ⟨fun pins s σ H Q I ⟨L, h, env, v, h', hr, er, e, post⟩ => ?_⟩
  obtain ⟨x, h1, c, e3, e4, e5⟩ := andF_ok e
  refine BoolOp_and (thn (ha.run pins s σ H (fun y H1 => ∃ L1, Ext L H L1 H1 ∧ HR (wd X) L1 h1 H1 ∧ VR (wd X) L1 H1 x y) I ⟨L, h, env, x, h1, hr, er, e3, fun y L1 H1 x1 hr1 v1 => ⟨L1, x1, hr1, v1⟩⟩) fun u s1 ⟨y, H1, I1, r1, L1, x1, hr1, v1⟩ => ?_)
  refine thn (tru_okP hu pins s1 σ H1 y u (fun c' H2 => c' = c ∧ H2 = H1) I1 r1 ⟨L1, h1, x, c, hr1, v1, e4, rfl, rfl⟩) fun c' s2 ⟨H2, I2, q1, q2⟩ => ?_
  subst q1 q2
  cases c' with
  | true => exact hb.run pins s2 σ H2 Q I2 ⟨L1, h1, env, v, h', hr1, er.mono x1, by simpa using e5, post.aft hr x1⟩
  | false =>
    simp only [Bool.false_eq_true, if_false] at e5
    obtain ⟨rfl, rfl⟩ := e5
    exact ⟨y, H2, I2, r1, post _ _ _ x1 hr1 v1⟩
theorem se_or (hu : Um X) (ha : PE X a (rE X f)) (hb : PE X (.BoolOp .Or (b :: rest) pos) (rE X g)) : PE X (.BoolOp .Or (a :: b :: rest) pos) (rE X (orF f g)) := by
  refine ⟨fun pins s σ H Q I ⟨L, h, env, v, h', hr, er, e, post⟩ => ?_⟩
  obtain ⟨x, h1, c, e3, e4, e5⟩ := orF_ok e
  refine BoolOp_or (thn (ha.run pins s σ H (fun y H1 => ∃ L1, Ext L H L1 H1 ∧ HR (wd X) L1 h1 H1 ∧ VR (wd X) L1 H1 x y) I ⟨L, h, env, x, h1, hr, er, e3, fun y L1 H1 x1 hr1 v1 => ⟨L1, x1, hr1, v1⟩⟩) fun u s1 ⟨y, H1, I1, r1, L1, x1, hr1, v1⟩ => ?_)
  refine thn (tru_okP hu pins s1 σ H1 y u (fun c' H2 => c' = c ∧ H2 = H1) I1 r1 ⟨L1, h1, x, c, hr1, v1, e4, rfl, rfl⟩) fun c' s2 ⟨H2, I2, q1, q2⟩ => ?_
  subst q1 q2
  cases c' with
  | true =>
    simp only [if_true] at e5
    obtain ⟨rfl, rfl⟩ := e5
    exact ⟨y, H2, I2, r1, post _ _ _ x1 hr1 v1⟩
  | false => exact hb.run pins s2 σ H2 Q I2 ⟨L1, h1, env, v, h', hr1, er.mono x1, by simpa using e5, post.aft hr x1⟩
def notF (f : Env → PHeap → R PV) : Env → PHeap → R PV := fun env h => (f env h).bind fun x h => R.of ((tru h x).map fun c => .bl (!c)) h
theorem notF_ok {env : Env} {h h' : PHeap} {v : PV} (e : notF f env h = .ok v h') : ∃ x c, f env h = .ok x h' ∧ tru h' x = some c ∧ v = .bl (!c) := by
  obtain ⟨x, h1, e1, e⟩ := R.bind_eq_ok e
  obtain ⟨e2, rfl⟩ := R.of_eq_ok e
  obtain ⟨t, e3, e4⟩ := Option.map_eq_some_iff.mp e2
  exact ⟨x, t, e1, e3, e4.symm⟩
theorem st_not (ha : PT X a (rT X (dTr f))) : PT X (.UnaryOp .Not a pos) (rT X (dTr (notF f))) := imT (pt_not ha) fun σ H Q ⟨L, h, env, t, h', hr, er, e, post⟩ => by
  obtain ⟨v, e1, e2⟩ := dTr_ok.mp e
  obtain ⟨x, c, e3, e4, rfl⟩ := notF_ok e1
  rw [tru_bl] at e2
  cases e2
  exact ⟨L, h, env, c, h', hr, er, dTr_ok.mpr ⟨x, e3, e4⟩, fun L1 H1 x1 hr1 => post _ _ x1 hr1⟩
theorem se_not (hu : Um X) (ha : PE X a (rE X f)) : PE X (.UnaryOp .Not a pos) (rE X (notF f)) := by
  refine ⟨fun pins s σ H Q I ⟨L, h, env, v, h', hr, er, e, post⟩ => ?_⟩
  obtain ⟨x, c, e3, e4, rfl⟩ := notF_ok e
  refine UnaryOp_ (thn (ha.run pins s σ H (fun y H1 => ∃ L1, Ext L H L1 H1 ∧ HR (wd X) L1 h' H1 ∧ VR (wd X) L1 H1 x y) I ⟨L, h, env, x, h', hr, er, e3, fun y L1 H1 x1 hr1 v1 => ⟨L1, x1, hr1, v1⟩⟩) fun u s1 ⟨y, H1, I1, r1, L1, x1, hr1, v1⟩ => ?_)
  exact not_of (thn (tru_okP hu pins s1 σ H1 y u (fun c' H2 => Q (.bl (!c')) H2) I1 r1 ⟨L1, h', x, c, hr1, v1, e4, post _ _ _ x1 hr1 (.bl _)⟩) fun c s2 ⟨H2, I2, q2⟩ => ⟨.bl (!c), H2, I2, rfl, q2⟩)
def ifeF (t : Env → PHeap → R PV) (f g : Env → PHeap → R PV) : Env → PHeap → R PV := fun env h => (t env h).bind fun x h => (R.of (tru h x) h).bind fun t h => if t then f env h else g env h
theorem ifeF_ok {env : Env} {h h' : PHeap} {v : PV} (e : ifeF k f g env h = .ok v h') : ∃ t h1, dTr k env h = .ok t h1 ∧ (if t = true then f env h1 else g env h1) = .ok v h' := by
  obtain ⟨x, h1, e1, e⟩ := R.bind_eq_ok e
  obtain ⟨t, e2, e⟩ := R.of_bind e
  exact ⟨t, h1, dTr_ok.mpr ⟨x, e1, e2⟩, e⟩
theorem se_ife (hc : PT X c (rT X (dTr k))) (ha : PE X a (rE X f)) (hb : PE X b (rE X g)) : PE X (.IfExp c a b pos) (rE X (ifeF k f g)) := imE (pe_ifExp hc ha hb) fun σ H Q ⟨L, h, env, v, h', hr, er, e, post⟩ => by
  obtain ⟨t, h1, e1, e2⟩ := ifeF_ok e
  refine ⟨L, h, env, t, h1, hr, er, e1, fun L1 H1 x1 hr1 => ?_⟩
  cases t with
  | true => exact ⟨L1, h1, env, v, h', hr1, er.mono x1, e2, post.aft hr x1⟩
  | false => exact ⟨L1, h1, env, v, h', hr1, er.mono x1, e2, post.aft hr x1⟩
theorem st_ife (hc : PT X c (rT X (dTr k))) (ha : PT X a (rT X (dTr f))) (hb : PT X b (rT X (dTr g))) : PT X (.IfExp c a b pos) (rT X (dTr (ifeF k f g))) := by
  refine ⟨fun pins s σ H Q I ⟨L, h, env, b', h', hr, er, e, post⟩ => isTrue_IfExp ?_⟩
  obtain ⟨v, e1, e2⟩ := dTr_ok.mp e
  obtain ⟨t, h1, e3, e4⟩ := ifeF_ok e1
  refine thn (hc.run pins s σ H (fun c' H1 => ∃ L1, c' = t ∧ Ext L H L1 H1 ∧ HR (wd X) L1 h1 H1) I ⟨L, h, env, t, h1, hr, er, e3, fun L1 H1 x1 hr1 => ⟨L1, rfl, x1, hr1⟩⟩) fun c' s1 ⟨H1, I1, L1, q, x1, hr1⟩ => ?_
  subst q
  cases c' with
  | true => exact ha.run pins s1 σ H1 Q I1 ⟨L1, h1, env, b', h', hr1, er.mono x1, dTr_ok.mpr ⟨v, e4, e2⟩, post.aft hr x1⟩
  | false => exact hb.run pins s1 σ H1 Q I1 ⟨L1, h1, env, b', h', hr1, er.mono x1, dTr_ok.mpr ⟨v, e4, e2⟩, post.aft hr x1⟩
/-! ### a op b op' c -/
def cmp2F (op op' : COp) (f g k : Env → PHeap → R PV) : Env → PHeap → R PV := fun env h => (f env h).bind fun x h => (g env h).bind fun y h => (R.of (cmpop op x y h) h).bind fun t h =>
      if t then (k env h).bind fun z h => R.of ((cmpop op' y z h).map .bl) h else .ok (.bl false) h
theorem cmp2_le {op op' : COp} : ∀ σ H Q, rE X (cmp2F op op' f g k) σ H Q → tChain (rCmp X op) (rCmp X op') (rE X f) (rE X g) (rE X k) σ H Q := fun σ H Q ⟨L, h, env, v, h', hr, er, e, post⟩ => by
  obtain ⟨p, h1, e1, e⟩ := R.bind_eq_ok e
  obtain ⟨p', h2, e2, e⟩ := R.bind_eq_ok e
  obtain ⟨t, e3, e⟩ := R.of_bind e
  refine ⟨L, h, env, p, h1, hr, er, e1, fun x L1 H1 x1 hr1 v1 => ⟨L1, h1, env, p', h2, hr1, er.mono x1, e2, fun y L2 H2 x2 hr2 v2 => ?_⟩⟩
  refine ⟨L2, h2, p, p', t, hr2, v1.mono x2, v2, e3, fun z L3 H3 x3 hr3 v3 => ?_⟩
  cases v3
  refine ⟨t, rfl, ?_⟩
  have xx := (x1.tr hr x2).tr hr x3
  cases t with
  | true =>
    simp only [if_true] at e ⊢
    obtain ⟨q, h3, e4, e5⟩ := R.bind_eq_ok e
    obtain ⟨e5, rfl⟩ := R.of_eq_ok e5
    obtain ⟨c, e9, rfl⟩ := Option.map_eq_some_iff.mp e5
    refine ⟨L3, h2, env, q, h', hr3, er.mono xx, e4, fun w L4 H4 x4 hr4 v4 => ?_⟩
    exact ⟨L4, h', p', q, c, hr4, (v2.mono x3).mono x4, v4, e9, post.aft hr (xx.tr hr x4)⟩
  | false =>
    simp only [Bool.false_eq_true, if_false, R.ok.injEq] at e ⊢
    obtain ⟨rfl, rfl⟩ := e
    exact post _ _ _ xx hr3 (.bl _)
theorem se_cmp2 (hu : Um X) {op op' : COp} (ha : PE X a (rE X f)) (hb : PE X b (rE X g)) (hc : PE X c (rE X k)) (hm : lastMarks [pyC op, pyC op'] [b, c] = false) : PE X (.Compare a [pyC op, pyC op'] [b, c] pos) (rE X (cmp2F op op' f g k)) :=
  imE (pe_chain (op_cmp hu op) (op_cmp hu op') ha hb hc hm) cmp2_le
theorem st_cmp2 (hu : Um X) {op op' : COp} (ha : PE X a (rE X f)) (hb : PE X b (rE X g)) (hc : PE X c (rE X k)) (hm : lastMarks [pyC op, pyC op'] [b, c] = false) : PT X (.Compare a [pyC op, pyC op'] [b, c] pos) (rT X (dTr (cmp2F op op' f g k))) :=
  imT (pt_chain (op_cmp hu op) (op_cmp hu op') ha hb hc hm) (rT_val cmp2_le fun env h v h' e => by
    obtain ⟨p, h1, e1, e⟩ := R.bind_eq_ok e
    obtain ⟨p', h2, e2, e⟩ := R.bind_eq_ok e
    obtain ⟨t, e3, e⟩ := R.of_bind e
    cases t with
    | true =>
      obtain ⟨q, h3, e4, e5⟩ := R.bind_eq_ok e
      obtain ⟨e5, _⟩ := R.of_eq_ok e5
      obtain ⟨c, _, e6⟩ := Option.map_eq_some_iff.mp e5
      exact ⟨c, e6.symm⟩
    | false => cases e; exact ⟨_, rfl⟩)
end
end HW
/-! HwM: lists of expressions, displays, slices, calls. -/
namespace HW
open PySem PySem.Spec PyProof.Rows L2 C8

def okArg : Expr → Bool
  | .Starred .. => false
  | _ => true
def okIx : Expr → Bool
  | .Slice .. => false
  | _ => true
def okTest : Expr → Bool
  | .UnaryOp .. => false
  | .BoolOp .. => false
  | .IfExp .. => false
  | .Compare .. => false
  | _ => true
def okBase : Expr → Bool
  | .Call .. => false
  | _ => true
theorem star_ok {e : Expr} (h : okArg e = true) (es : List Expr) (env : PySem.Env) : starEach (e :: es) env = (false, eval e env) :: starEach es env := by
  cases e <;> first | rfl | cases h
theorem ix_ok {e : Expr} (h : okIx e = true) : PlainIx e := fun o i => by
  cases e <;> first | rfl | cases h
theorem test_ok {e : Expr} (h : okTest e = true) (env : PySem.Env) : ∀ whole, isTrue e env whole = (do let v ← whole; standAt e.pos; holding [v] (truthy v)) := fun whole => by
  cases e <;> first | rfl | cases h
theorem base_ok {e : Expr} (h : okBase e = true) (attr : Str) (env : PySem.Env) (whole : PySem.Sem Value) : attributeBase e attr env whole = whole := by
  cases e <;> first | rfl | cases h
theorem plain_all {pos : Pos} {env : PySem.Env} : ∀ {es : List Expr}, es.all okArg = true → (backTo pos (starEach es env)).any (·.1) = false
  | [], _ => rfl
  | e :: es, h => by
    rw [List.all_cons, Bool.and_eq_true] at h
    rw [star_ok h.1]
    have ih := plain_all (pos := pos) (env := env) h.2
    show (false || (backTo pos (starEach es env)).any (·.1)) = false
    rw [ih]
    rfl
section
variable {X : Cx} {a b c : Expr} {es : List Expr} {f g k : Env → PHeap → R PV} {fs : Env → PHeap → R (List PV)} {pos : Pos}
def nilF : Env → PHeap → R (List PV) := fun _ h => .ok [] h
def consF (f : Env → PHeap → R PV) (fs : Env → PHeap → R (List PV)) : Env → PHeap → R (List PV) := fun env h => (f env h).bind fun v h => (fs env h).bind fun vs h => .ok (v :: vs) h
theorem sa_nil : PA X [] (rA X nilF) := imA pa_nil fun σ H Q ⟨L, h, env, vs, h', hr, er, e, post⟩ => by
  cases e
  exact post [] _ _ Ext.refl hr .nil
theorem sa_cons (ha : PE X a (rE X f)) (hs : PA X es (rA X fs)) (ho : okArg a = true) : PA X (a :: es) (rA X (consF f fs)) := imA (pa_cons ha hs (star_ok ho _ _)) fun σ H Q ⟨L, h, env, vs, h', hr, er, e, post⟩ => by
  obtain ⟨p, h1, e1, e⟩ := R.bind_eq_ok e
  obtain ⟨ps, h2, e2, e⟩ := R.bind_eq_ok e
  cases e
  refine ⟨L, h, env, p, h1, hr, er, e1, fun x L1 H1 x1 hr1 v1 => ⟨L1, h1, env, ps, h', hr1, er.mono x1, e2, fun xs L2 H2 x2 hr2 v2 => ?_⟩⟩
  exact post (x :: xs) L2 H2 (x1.tr hr x2) hr2 (.cons (v1.mono x2) v2)
/-- a written tuple -/
theorem se_tup {x1 : Nat} (hs : PA X es (rA X fs)) (hl : ∀ env h vs h', fs env h = .ok vs h' → vs.length ≤ sizeLine) : PE X (.Tuple es x1 pos) (rE X fun env h => (fs env h).bind fun vs h => .ok (.tup vs) h) := by
  refine ⟨fun pins s σ H Q I ⟨L, h, env, v, h', hr, er, e, post⟩ => ?_⟩
  obtain ⟨ps, h1, e1, e⟩ := R.bind_eq_ok e
  cases e
  refine wpAny_Tuple_spliced (thn (hs.run pos pins s σ H (fun xs H1 => ∃ L1, Ext L H L1 H1 ∧ HR (wd X) L1 h' H1 ∧ VRs (wd X) L1 H1 ps xs) I ⟨L, h, env, ps, h', hr, er, e1, fun xs L1 H1 x1 hr1 v1 => ⟨L1, x1, hr1, v1⟩⟩) fun us s1 ⟨xs, H1, I1, r, L1, x1, hr1, v1⟩ => ?_)
  have z : xs.length ≤ sizeLine := by rw [v1.length]; exact hl _ _ _ _ e1
  refine ⟨by rw [← r.length]; exact z, ?_⟩
  exact tup_ep I1 hr1 (post.aft hr x1) v1 r z s1.toks
theorem se_lst {al : Bool} (hs : PA X es (rA X fs)) (hl : ∀ env h vs h', fs env h = .ok vs h' → vs.length ≤ sizeLine) : PE X (.List es pos) (rE X fun env h => (fs env h).bind fun vs h => mkList al vs h) := 
  ⟨fun pins s σ H Q I ⟨L, h, env, v, h', hr, er, e, post⟩ => by
  obtain ⟨ps, h1, e1, e⟩ := R.bind_eq_ok e
  refine thn ((pe_lst hs).run pins s σ H (fun x H' => ∃ L1 H1 xs p, Ext L H L1 H1 ∧ HR (wd X) L1 h1 H1 ∧ VRs (wd X) L1 H1 ps xs ∧ x = .ref p ∧ H1 p = none ∧ H' = upd H1 p (.lst xs)) I ⟨L, h, env, ps, h1, hr, er, e1, fun xs L1 H1 x1 hr1 v1 => ⟨by rw [v1.length]; exact hl _ _ _ _ e1, fun p hp => ⟨L1, H1, xs, p, x1, hr1, v1, rfl, hp, rfl⟩⟩⟩) fun u s' ⟨x, H', I', rx, L1, H1, xs, p, x1, hr1, v1, ex, hp, eH⟩ => ?_
  subst ex eH
  cases rx
  exact mk_ep I' hp e (post.aft hr x1) hr1 v1⟩
/-! ### slices -/
def noF : Env → PHeap → R (Option Int) := fun _ h => .ok none h
def someF (f : Env → PHeap → R PV) : Env → PHeap → R (Option Int) := fun env h => (f env h).bind fun v h => (R.of (intOf v) h).bind fun i h => .ok (some i) h
theorem so_none : PO X none (rO X noF) := imO po_none fun σ H Q ⟨L, h, env, o, h', hr, er, e, post⟩ => by
  cases e
  exact post _ _ Ext.refl hr
theorem so_some (ha : PE X a (rE X f)) : PO X (some a) (rO X (someF f)) := imO (po_some ha) fun σ H Q ⟨L, h, env, o, h', hr, er, e, post⟩ => by
  obtain ⟨p, h1, e1, e⟩ := R.bind_eq_ok e
  obtain ⟨i, e2, e⟩ := R.of_bind e
  cases e
  refine ⟨L, h, env, p, _, hr, er, e1, fun x L1 H1 x1 hr1 v1 => ?_⟩
  cases p with
  | int j =>
    cases e2
    cases v1
    exact ⟨_, rfl, post _ _ x1 hr1⟩
  | _ => cases e2
variable {lo hi : Option Expr} {fl fu : Env → PHeap → R (Option Int)} {p2 : Pos}
theorem se_sl (ha : PE X a (rE X f)) (hl : PO X lo (rO X fl)) (hu : PO X hi (rO X fu)) : PE X (.Subscript a (.Slice lo hi none p2) pos) (rE X fun env h => (f env h).bind fun x h => (fl env h).bind fun l h => (fu env h).bind fun u h => R.of (sliceOf h x l u) h) :=
  imE (pe_slice sl_ok ha hl hu) fun σ H Q ⟨L, h, env, v, h', hr, er, e, post⟩ => by
  obtain ⟨p, h1, e1, e⟩ := R.bind_eq_ok e
  obtain ⟨o, h2, e2, e⟩ := R.bind_eq_ok e
  obtain ⟨o', h3, e3, e⟩ := R.bind_eq_ok e
  obtain ⟨e, rfl⟩ := R.of_eq_ok e
  refine ⟨L, h, env, p, h1, hr, er, e1, fun x L1 H1 x1 hr1 v1 => ⟨L1, h1, env, o, h2, hr1, er.mono x1, e2, fun L2 H2 x2 hr2 => ⟨L2, h2, env, o', _, hr2, er.mono (x1.tr hr x2), e3, fun L3 H3 x3 hr3 => ?_⟩⟩⟩
  exact ⟨L3, _, p, v, hr3, (v1.mono x2).mono x3, e, post.aft hr ((x1.tr hr x2).tr hr x3)⟩
/-! ### calls of built-ins -/
variable {x : Str} {id T : String} {r : List V → Hp → VK → Prop} {p : Pos}
theorem calls {F : List PV → PHeap → R PV} {σ : L2.St} {H : Hp} {Q : VK} {k : List V → Hp → VK → Prop} (q : rE X (fun env h => (fs env h).bind F) σ H Q)
    (hk : ∀ xs L H h ps r h', HR (wd X) L h H → VRs (wd X) L H ps xs → F ps h = .ok r h' → Post (wd X) L H r h' Q → k xs H Q) : tCB k (rA X fs) σ H Q := by
  obtain ⟨L, h, env, v, h', hr, er, e, post⟩ := q
  obtain ⟨ps, h1, e1, e2⟩ := R.bind_eq_ok e
  exact ⟨L, h, env, ps, h1, hr, er, e1, fun xs L1 H1 x1 hr1 v1 => hk xs L1 H1 h1 ps v h' hr1 v1 e2 (post.aft hr x1)⟩
theorem se_blt {B : Blt} (hc : CallR X (.builtin id) (rBlt X B)) (hg : Gl X x) (hm : X.mg x = none) (hv : bootBuiltins x = some (.builtin id)) (hn : x ≠ "__name__") (hd : (x == ("__debug__" : Str)) = false) (hs : PA X (a :: es) (rA X fs)) (ho : (a :: es).all okArg = true) :
    PE X (.Call (.Name x p) (a :: es) [] pos) (rE X fun env h => (fs env h).bind fun vs h => R.of (bltop B vs h) h) := by
  rw [List.all_cons, Bool.and_eq_true] at ho
  refine imE (pe_callB hc hg hm hv hs hn hd (star_ok ho.1 _ _) (plain_all ho.2)) fun σ H Q q => calls q fun xs L H h ps r h' hr v1 e post => ?_
  obtain ⟨e, rfl⟩ := R.of_eq_ok e
  exact ⟨L, _, ps, r, hr, v1, e, post⟩
theorem se_bltT {B : Blt} (hc : CallR X (.type T) (rBlt X B)) (hg : Gl X x) (hm : X.mg x = none) (hv : bootBuiltins x = some (.type T)) (hn : x ≠ "__name__") (hd : (x == ("__debug__" : Str)) = false) (hs : PA X (a :: es) (rA X fs)) (ho : (a :: es).all okArg = true) :
    PE X (.Call (.Name x p) (a :: es) [] pos) (rE X fun env h => (fs env h).bind fun vs h => R.of (bltop B vs h) h) := by
  rw [List.all_cons, Bool.and_eq_true] at ho
  refine imE (pe_callTy hc hg hm hv hs hn hd (star_ok ho.1 _ _) (plain_all ho.2)) fun σ H Q q => calls q fun xs L H h ps r h' hr v1 e post => ?_
  obtain ⟨e, rfl⟩ := R.of_eq_ok e
  exact ⟨L, _, ps, r, hr, v1, e, post⟩
theorem one_arg (ha : PE X a (rE X f)) (ho : okArg a = true) : PA X [a] (rA X (consF f nilF)) := sa_cons ha sa_nil ho
theorem conv1 {C : Cnv} {al : Bool} : ∀ σ H Q, rE X (fun env h => (f env h).bind fun v h => convop C al v h) σ H Q → tCB (rConv X C al) (rA X (consF f nilF)) σ H Q := fun σ H Q ⟨L, h, env, v, h', hr, er, e, post⟩ => by
  obtain ⟨p, h1, e1, e2⟩ := R.bind_eq_ok e
  refine ⟨L, h, env, [p], h1, hr, er, by unfold consF nilF; rw [e1]; rfl, fun xs L1 H1 x1 hr1 v1 => ?_⟩
  cases v1 with
  | cons v1 v2 =>
    cases v2
    exact ⟨L1, h1, p, _, v, h', rfl, hr1, v1, e2, post.aft hr x1⟩
theorem se_cnv {C : Cnv} {al : Bool} (hc : CallR X (.builtin id) (rConv X C al)) (hg : Gl X x) (hm : X.mg x = none) (hv : bootBuiltins x = some (.builtin id)) (hn : x ≠ "__name__") (hd : (x == ("__debug__" : Str)) = false) (ha : PE X a (rE X f)) (ho : okArg a = true) :
    PE X (.Call (.Name x p) [a] [] pos) (rE X fun env h => (f env h).bind fun v h => convop C al v h) :=
  imE (pe_callB hc hg hm hv (one_arg ha ho) hn hd (star_ok ho _ _) rfl) conv1
theorem se_cnvT {C : Cnv} {al : Bool} (hc : CallR X (.type T) (rConv X C al)) (hg : Gl X x) (hm : X.mg x = none) (hv : bootBuiltins x = some (.type T)) (hn : x ≠ "__name__") (hd : (x == ("__debug__" : Str)) = false) (ha : PE X a (rE X f)) (ho : okArg a = true) :
    PE X (.Call (.Name x p) [a] [] pos) (rE X fun env h => (f env h).bind fun v h => convop C al v h) :=
  imE (pe_callTy hc hg hm hv (one_arg ha ho) hn hd (star_ok ho _ _) rfl) conv1
/-- isinstance(e, T) -/
theorem se_isi {TN : Str} {p' : Pos} (hg : Gl X "isinstance") (hm : X.mg "isinstance" = none) (hg' : Gl X TN) (hm' : X.mg TN = none) (hv' : bootBuiltins TN = some (.type T)) (hn' : TN ≠ "__name__") (hd' : (TN == ("__debug__" : Str)) = false) (ha : PE X a (rE X f)) (ho : okArg a = true) :
    PE X (.Call (.Name "isinstance" p) [a, .Name TN p'] [] pos) (rE X fun env h => (consF f nilF env h).bind fun vs h => R.of (bltop (.isi T) vs h) h) := by
  have h2 : PE X (.Name TN p') (tC (.ty T)) := pe_bltn hg' hm' hv' rfl hn' hd'
  refine imE (pe_callB (cr_isi T) hg hm rfl (pa_cons ha (pa_cons h2 pa_nil) (star_ok ho _ _)) (by decide) (by decide) (star_ok ho _ _) rfl) fun σ H Q ⟨L, h, env, v, h', hr, er, e, post⟩ => ?_
  obtain ⟨ps, h1, e1, e2⟩ := R.bind_eq_ok e
  obtain ⟨q, h3, e3, e4⟩ := R.bind_eq_ok e1
  cases e4
  obtain ⟨e2, rfl⟩ := R.of_eq_ok e2
  exact ⟨L, h, env, q, _, hr, er, e3, fun x L1 H1 x1 hr1 v1 => ⟨x, rfl, L1, _, [q], v, hr1, .cons v1 .nil, e2, post.aft hr x1⟩⟩
/-- isinstance(e, (T, ..)) -/
theorem tys_pa : ∀ {es : List Expr} {ts : List String}, Paired (fun e T => okArg e = true ∧ PE X e (tC (.ty T))) es ts → PA X es (fun _ H Q => Q (ts.map V.ty) H)
  | [], [], _ => pa_nil
  | _ :: _, _ :: _, .cons h1 h2 => imA (pa_cons h1.2 (tys_pa h2) (star_ok h1.1 _ _)) fun _ _ _ q => q
theorem se_isiT {ts : List String} {p' : Pos} {kk : Nat} (hg : Gl X "isinstance") (hm : X.mg "isinstance" = none) (ht : Paired (fun e T => okArg e = true ∧ PE X e (tC (.ty T))) es ts) (hl : ts.length ≤ 100) (ha : PE X a (rE X f)) (ho : okArg a = true) :
    PE X (.Call (.Name "isinstance" p) [a, .Tuple es kk p'] [] pos) (rE X fun env h => (consF f nilF env h).bind fun vs h => R.of (bltop (.isiT ts) vs h) h) := by
  have h2 : PE X (.Tuple es kk p') (tTup fun _ H Q => Q (ts.map V.ty) H) := pe_tup (tys_pa ht)
  refine imE (pe_callB (cr_isiT ts) hg hm rfl (pa_cons ha (pa_cons h2 pa_nil) (star_ok ho _ _)) (by decide) (by decide) (star_ok ho _ _) rfl) fun σ H Q ⟨L, h, env, v, h', hr, er, e, post⟩ => ?_
  obtain ⟨ps, h1, e1, e2⟩ := R.bind_eq_ok e
  obtain ⟨q, h3, e3, e4⟩ := R.bind_eq_ok e1
  cases e4
  obtain ⟨e2, rfl⟩ := R.of_eq_ok e2
  refine ⟨L, h, env, q, _, hr, er, e3, fun x L1 H1 x1 hr1 v1 => ⟨by rw [List.length_map, sizeLine_eq]; omega, fun tp hp => ?_⟩⟩
  have x2 : Ext L1 H1 L1 (upd H1 tp (.tup (ts.map V.ty))) := ext_new hp
  exact ⟨x, tp, rfl, upd_same, L1, _, [q], v, hr1.new hp, .cons (v1.mono x2) .nil, e2, post.aft hr (x1.tr hr x2)⟩
/-! ### calls of defs -/
/-- what a def promises, by its meaning -/
def spS (Z : Wd) (n : Nat) (sem : Sem) : Sp := fun vs H Q _ => ∃ L h ps r h', HR Z L h H ∧ VRs Z L H ps vs ∧ ps.length = n ∧ sem ps h = .ok r h' ∧ Post Z L H r h' Q
theorem se_call {j k n : Nat} {sem : Sem} (cc : Cal X.prog X.w X.K X.mg X.base k x (spS (wd X) n sem) []) (hr : Room j X.A) (hk : k ≤ j) (hg : Gl X x) (hd : (x == ("__debug__" : Str)) = false) (hs : PA X (a :: es) (rA X fs)) (ho : (a :: es).all okArg = true)
    (hl : ∀ env h vs h', fs env h = .ok vs h' → vs.length = n) : PE X (.Call (.Name x p) (a :: es) [] pos) (rE X fun env h => (fs env h).bind fun vs h => sem vs h) := by
  rw [List.all_cons, Bool.and_eq_true] at ho
  refine imE (pe_c cc hr hk hg hs hd (star_ok ho.1 _ _) (plain_all ho.2)) fun σ H Q ⟨L, h, env, v, h', hr, er, e, post⟩ => ?_
  obtain ⟨ps, h1, e1, e2⟩ := R.bind_eq_ok e
  refine ⟨L, h, env, ps, h1, hr, er, e1, fun xs L1 H1 x1 hr1 v1 => ?_⟩
  show spS (wd X) n sem (xs ++ []) H1 Q _
  rw [List.append_nil]
  exact ⟨L1, h1, ps, v, h', hr1, v1, hl _ _ _ _ e1, e2, post.aft hr x1⟩
theorem se_call0 {j k : Nat} {sem : Sem} (cc : Cal X.prog X.w X.K X.mg X.base k x (spS (wd X) 0 sem) []) (hr : Room j X.A) (hk : k ≤ j) (hg : Gl X x) (hd : (x == ("__debug__" : Str)) = false) : PE X (.Call (.Name x p) [] [] pos) (rE X fun env h => sem [] h) := by
  obtain ⟨f, fd, ps, ds, F, hm, kp, b, d⟩ := cc.ex
  refine imE (pe_call0 (E := C8.E0) F (hr.mono hk) hg hm kp b d C8.pass0 hd) fun σ H Q ⟨L, h, env, v, h', hr, er, e, post⟩ => ?_
  exact ⟨L, h, [], v, h', hr, .nil, rfl, e, post⟩
end
end HW
/-! HwN: methods, dict displays, reversed slices. -/
namespace HW
open PySem PySem.Spec PyProof.Rows L2 C8

def rMth (X : Cx) (m : Mth) : V → List V → Hp → VK → Prop := fun x xs H Q => ∃ L h p ps r h', HR (wd X) L h H ∧ VR (wd X) L H p x ∧ VRs (wd X) L H ps xs ∧ methop m p ps h = .ok r h' ∧ Post (wd X) L H r h' Q
section
variable {X : Cx}
theorem live_lst {L : List Addr} {H : Hp} {h : PHeap} {Z : Wd} (hr : HR Z L h H) {n : Nat} {x : V} {xs : List PV} (v : VR Z L H (.ref n) x) (hc : h[n]? = some (.lst xs)) : ∃ a vs, x = .ref a ∧ L[n]? = some a ∧ a ∈ L ∧ H a = some (.lst vs) ∧ VRs Z L H xs vs := by
  cases v with
  | ref hn =>
    obtain ⟨vs, h1, h2⟩ := hr.cell _ _ _ hc hn
    exact ⟨_, vs, rfl, hn, List.mem_of_getElem? hn, h1, h2⟩
theorem Post.wr {L : List Addr} {H : Hp} {h : PHeap} {Z : Wd} {Q : VK} {r : PV} {y : V} {n : Nat} {a : Addr} {o : HO} {c : Cell} (hr : HR Z L h H) (hn : L[n]? = some a) (hf : NF H a) (post : Post Z L H r (h.set n c) Q) (cr : CR Z L (upd H a o) a c) (v : VR Z L H r y) : Q y (upd H a o) :=
  post _ _ _ (ext_write (List.mem_of_getElem? hn) hf) (hr.write hn hf cr) (v.mono (ext_write (List.mem_of_getElem? hn) hf))
theorem mt_app : MtR X "list.append" (rMth X .lapp) := by
  intro pins s σ H x xs v us Q I rx rs ⟨L, h, p, ps, r, h', hr, vp, vs, e, post⟩
  replace e : mApp p ps h = .ok r h' := e
  unfold mApp at e
  split at e
  rotate_left
  · cases e
  rename_i n z
  split at e
  · rename_i ys hc
    split at e
    · rename_i hz
      cases e
      obtain ⟨a, vs', rfl, hn, hm, h1, h2⟩ := live_lst hr vp hc
      obtain ⟨y, rfl, vy⟩ := vrs1 vs
      refine mt_append pins s σ H (.ref a) [y] v us Q I rx rs ⟨a, vs', y, rfl, rfl, h1, by rw [h2.length, ← lim]; exact hz, ?_⟩
      exact Post.wr hr hn (nf_lst h1) post ⟨_, upd_same, (h2.snoc vy).mono (ext_write hm (nf_lst h1))⟩ .non
    · cases e
  · cases e
theorem mt_extR : MtR X "list.extend" (fun x zs H Q => ∃ a b us ws, x = .ref a ∧ zs = [.ref b] ∧ H a = some (.lst us) ∧ Rd H b (.lst ws) ∧ us.length + ws.length ≤ sizeLine ∧ Q .non (upd H a (.lst (us ++ ws)))) := by
  rintro pins s σ H x zs v vs Q I rx rz ⟨a, b, us, ws, rfl, rfl, ka, kb, few, q⟩
  cases rx
  obtain ⟨u, rfl, ru⟩ := rz.one
  cases ru
  obtain ⟨_, as, na, ra, la, ga⟩ := lst_rd I (.inl ka)
  obtain ⟨_, bs, nb, rb, lb, gb⟩ := lst_rd I kb
  have few' : as.toArray.size + bs.toArray.size ≤ sizeLine := by simp only [List.size_toArray]; omega
  have long : ¬ (!as.toArray.isEmpty && Builtin.List.listTooLong (as.toArray.size + bs.toArray.size)) = true := by rw [notLongL few', Bool.and_false]; decide
  refine call_meets F.slot_list_extend ⟨_, ga, rfl⟩ F.entry_list_extend (F.args_list_extend_2 _ _)
    (AutoSeq1.list_extend_list_list_0 a as.toArray na b bs.toArray nb long (by simp only [List.size_toArray] at few' ⊢; omega) (by omega)) ⟨ga, gb, ?_⟩
  exact ⟨.non, _, I.lset (its' := as ++ bs) ka ga (by simp) (ra.append rb) (by simp only [List.length_append]; omega), rfl, q⟩
theorem mt_ext : MtR X "list.extend" (rMth X .lext) := by
  intro pins s σ H x xs v us Q I rx rs ⟨L, h, p, ps, r, h', hr, vp, vs, e, post⟩
  replace e : mExt p ps h = .ok r h' := e
  unfold mExt at e
  split at e
  rotate_left
  · cases e
  rename_i n z
  split at e
  · rename_i ys zs hc hc2
    split at e
    · rename_i hz
      cases e
      obtain ⟨a, vs', rfl, hn, hm, h1, h2⟩ := live_lst hr vp hc
      obtain ⟨y, rfl, vy⟩ := vrs1 vs
      obtain ⟨b, vs2, rfl, h3, h4⟩ := vy.list hr hc2
      refine mt_extR pins s σ H (.ref a) [.ref b] v us Q I rx rs ⟨a, b, vs', vs2, rfl, rfl, h1, h3, by rw [h2.length, h4.length, ← lim]; exact hz, ?_⟩
      exact Post.wr hr hn (nf_lst h1) post ⟨_, upd_same, (h2.append h4).mono (ext_write hm (nf_lst h1))⟩ .non
    · cases e
  · cases e
theorem mt_popL : MtR X "list.pop" (rMth X .lpop) := by
  intro pins s σ H x xs v us Q I rx rs ⟨L, h, p, ps, r, h', hr, vp, vs, e, post⟩
  replace e : mPop p ps h = .ok r h' := e
  unfold mPop at e
  split at e
  rotate_left
  · cases e
  rename_i n
  split at e
  · rename_i ys hc
    split at e
    · rename_i y hy
      cases e
      obtain ⟨a, vs', rfl, hn, hm, h1, h2⟩ := live_lst hr vp hc
      cases vs
      obtain ⟨z, h3, h4⟩ := h2.get' hy
      refine mt_pop pins s σ H (.ref a) [] v us Q I rx rs ⟨a, vs', z, rfl, rfl, h1, by rw [h2.length]; exact h3, ?_⟩
      exact Post.wr hr hn (nf_lst h1) post ⟨_, upd_same, h2.dropLast.mono (ext_write hm (nf_lst h1))⟩ h4
    · cases e
  · cases e
theorem wide63 {i : Int} (h : wide62 i = true) : -(2 ^ 63) ≤ i ∧ i < 2 ^ 63 := by
  have := of_decide_eq_true h
  omega
theorem mt_popAtL : MtR X "list.pop" (rMth X .lpopAt) := by
  intro pins s σ H x xs v us Q I rx rs ⟨L, h, p, ps, r, h', hr, vp, vs, e, post⟩
  replace e : mPopAt p ps h = .ok r h' := e
  unfold mPopAt at e
  split at e
  rotate_left
  · cases e
  rename_i n i
  split at e
  · rename_i ys hc
    split at e
    · rename_i hw
      split at e
      · rename_i k hk
        split at e
        · rename_i y hy
          cases e
          obtain ⟨a, vs', rfl, hn, hm, h1, h2⟩ := live_lst hr vp hc
          obtain ⟨q, rfl, vq⟩ := vrs1 vs
          cases vq
          obtain ⟨z, h3, h4⟩ := h2.get' hy
          obtain ⟨w1, w2⟩ := wide63 hw
          refine mt_popAt pins s σ H (.ref a) [.int i] v us Q I rx rs ⟨a, vs', i, k, z, rfl, rfl, h1, w1, w2, by rw [h2.length]; exact hk, h3, ?_⟩
          exact Post.wr hr hn (nf_lst h1) post ⟨_, upd_same, (h2.eraseIdx k).mono (ext_write hm (nf_lst h1))⟩ h4
        · cases e
      · cases e
    · cases e
  · cases e
theorem mt_getD (hu : Um X) : MtR X "dict.get" (rMth X .dget) := by
  intro pins s σ H x xs v us Q I rx rs ⟨L, h, p, ps, r, h', hr, vp, vs, e, post⟩
  replace e : mGet p ps h = .ok r h' := e
  unfold mGet at e
  split at e
  rotate_left
  · cases e
  rename_i k z
  split at e
  · rename_i es hc
    split at e
    · rename_i ok
      cases e
      obtain ⟨a, rfl, d⟩ := vp.dict hr hc
      cases rx
      cases vs with
      | cons v1 v2 =>
        obtain ⟨y, rfl, vy⟩ := vrs1 v2
        cases rs with
        | cons r1 r2 =>
          cases r2 with
          | cons r2 r3 =>
            cases r3
            exact dict_getD hu I d ok v1 r1 vy r2 fun y' w' s' I' vy' rw' => ⟨y', H, I', rw', post.same hr vy'⟩
    · cases e
  · cases e
theorem mt_getD1 (hu : Um X) : MtR X "dict.get" (rMth X .dget1) := by
  intro pins s σ H x xs v us Q I rx rs ⟨L, h, p, ps, r, h', hr, vp, vs, e, post⟩
  replace e : mGet1 p ps h = .ok r h' := e
  unfold mGet1 at e
  split at e
  rotate_left
  · cases e
  rename_i k
  split at e
  · rename_i es hc
    split at e
    · rename_i ok
      cases e
      obtain ⟨a, rfl, d⟩ := vp.dict hr hc
      cases rx
      cases vs with
      | cons v1 v2 =>
        cases v2
        cases rs with
        | cons r1 r2 =>
          cases r2
          exact dict_get1 hu I d ok v1 r1 fun y' w' s' I' vy' rw' => ⟨y', H, I', rw', post.same hr vy'⟩
    · cases e
  · cases e
variable {o a : Expr} {es : List Expr} {f : Env → PHeap → R PV} {fs : Env → PHeap → R (List PV)} {name : Str} {apos cpos : Pos} {T id : String} {m : Mth}
def methF (m : Mth) (f : Env → PHeap → R PV) (fs : Env → PHeap → R (List PV)) : Env → PHeap → R PV := fun env h => (f env h).bind fun x h => if recv m h x then (fs env h).bind fun vs h => methop m x vs h else .bad
/-- of that type, with no dict of its own -/
def OfT (m : Mth) (T : String) : Prop := ∀ {X : Cx} {pins : List (Addr × Obj)} {σ : L2.St} {H : Hp} {s : Shared} {L : List Addr} {h : PHeap} {p : PV} {x : V} {v : Value}, Inv X pins σ H s → HR (wd X) L h H → VR (wd X) L H p x → RelV x v → recv m h p = true →
  s.TypeIs v T ∧ ∀ a, v = .ref a → ∃ ob, s.heap.get? a = some ob ∧ ob.dict = none
theorem ofT_dict {m : Mth} (hm : ∀ h p, recv m h p = true → (asDict h p).isSome = true) : OfT m "dict" := fun {X pins σ H s L h p x v} I hr vp rx e => by
  obtain ⟨es, e1⟩ := Option.isSome_iff_exists.mp (hm _ _ e)
  obtain ⟨a, rfl, d⟩ := vp.dict hr e1
  cases rx
  obtain ⟨h1, h2⟩ := dict_typ I d
  exact ⟨h1, fun b eb => by cases eb; exact h2⟩
theorem ofT_list {m : Mth} (hm : ∀ h p, recv m h p = true → (asList h p).isSome = true) : OfT m "list" := fun {X pins σ H s L h p x v} I hr vp rx e => by
  obtain ⟨es, e1⟩ := Option.isSome_iff_exists.mp (hm _ _ e)
  obtain ⟨a, vs, rfl, h1, h2⟩ := vp.list hr e1
  exact tyV_is I rx (.inl ⟨rfl, vs, .inl h1⟩)
theorem se_meth (tyOk : OfT m T) (pa : PlainAttrs T) (slot : Slot T name id) (hty : typeOf (.builtin id) = pure (.type "method_descriptor")) (hm : MtR X id (rMth X m)) (ho : PE X o (rE X f)) (ha : PA X (a :: es) (rA X fs)) (hok : (a :: es).all okArg = true) (hl : (a :: es).length < 30)
    (hbase : okBase o = true) (hline : (apos.endLine == cpos.line) = true) : PE X (.Call (.Attribute o name apos) (a :: es) [] cpos) (rE X (methF m f fs)) := by
  have hall : ∀ (l : List Expr), l.all okArg = true → (backTo cpos (starEach l X.env)).all (fun x => !x.1) = true := fun l hl => by
    have := plain_all (pos := cpos) (env := X.env) hl
    rw [List.any_eq_false] at this
    rw [List.all_eq_true]
    intro x hx
    simpa using this x hx
  have hfew : ((backTo cpos (starEach (a :: es) X.env)).all (fun x => !x.1) && (backToKw cpos (keywordEach [] X.env)).all (fun x => x.1.isSome)
      && decide ((a :: es).length + ([] : List Keyword).length + (if ([] : List Keyword).isEmpty then 0 else 1) < 30)) = true := by
    rw [hall _ hok]
    have : (a :: es).length + ([] : List Keyword).length + (if ([] : List Keyword).isEmpty then 0 else 1) < 30 := by simpa using hl
    rw [decide_eq_true this]
    rfl
  rw [List.all_cons, Bool.and_eq_true] at hok
  have hs := star_ok hok.1 es X.env
  have hplain := plain_all (pos := cpos) (env := X.env) hok.2
  refine ⟨fun pins s σ H Q I ⟨L, h, env, v, h', hr, er, e, post⟩ => ?_⟩
  obtain ⟨p, h1, e1, e2⟩ := R.bind_eq_ok e
  split at e2
  · rename_i hrec
    obtain ⟨ps, h2, e3, e4⟩ := R.bind_eq_ok e2
    refine wpAny_Call_method_late (base_ok hbase _ _ _) hfew hline rfl (thn (ho.run pins s σ H (fun x H1 => ∃ L1, Ext L H L1 H1 ∧ HR (wd X) L1 h1 H1 ∧ VR (wd X) L1 H1 p x) I ⟨L, h, env, p, h1, hr, er, e1, fun x L1 H1 x1 hr1 v1 => ⟨L1, x1, hr1, v1⟩⟩) fun u s1 ⟨x, H1, I1, r1, L1, x1, hr1, v1⟩ => ?_)
    obtain ⟨t1, t2⟩ := tyOk I1 hr1 v1 r1 hrec
    refine ⟨T, id, pa, slot, hty, t1, t2, ?_⟩
    have hA := ha.run cpos pins s1 σ H1 (fun xs H2 => ∃ L2, Ext L1 H1 L2 H2 ∧ HR (wd X) L2 h2 H2 ∧ VRs (wd X) L2 H2 ps xs) I1 ⟨L1, h1, env, ps, h2, hr1, er.mono x1, e3, fun xs L2 H2 x2 hr2 v2 => ⟨L2, x2, hr2, v2⟩⟩
    rw [hs] at hA ⊢
    refine Calls.callWith_builtin (by show (false || (backTo cpos (starEach es X.env)).any (·.1)) = false; rw [hplain]; rfl) (Calls.evalArgs_plain ?_)
    refine thn hA fun us s2 ⟨xs, H2, I2, r2, L2, x2, hr2, v2⟩ => hm pins s2 σ H2 x xs u us Q I2 r1 r2 ⟨L2, h2, p, ps, v, h', hr2, v1.mono x2, v2, e4, post.aft hr (x1.tr hr x2)⟩
  · cases e2
theorem se_meth0 (tyOk : OfT m T) (pa : PlainAttrs T) (slot : Slot T name id) (hty : typeOf (.builtin id) = pure (.type "method_descriptor")) (hm : MtR X id (rMth X m)) (ho : PE X o (rE X f))
    (hbase : okBase o = true) (hline : (apos.endLine == cpos.line) = true) : PE X (.Call (.Attribute o name apos) [] [] cpos) (rE X (methF m f nilF)) := by
  refine ⟨fun pins s σ H Q I ⟨L, h, env, v, h', hr, er, e, post⟩ => ?_⟩
  obtain ⟨p, h1, e1, e2⟩ := R.bind_eq_ok e
  split at e2
  · rename_i hrec
    obtain ⟨ps, h2, e3, e4⟩ := R.bind_eq_ok e2
    cases e3
    refine wpAny_Call_method0_late (base_ok hbase _ _ _) hline (thn (ho.run pins s σ H (fun x H1 => ∃ L1, Ext L H L1 H1 ∧ HR (wd X) L1 h1 H1 ∧ VR (wd X) L1 H1 p x) I ⟨L, h, env, p, h1, hr, er, e1, fun x L1 H1 x1 hr1 v1 => ⟨L1, x1, hr1, v1⟩⟩) fun u s1 ⟨x, H1, I1, r1, L1, x1, hr1, v1⟩ => ?_)
    obtain ⟨t1, t2⟩ := tyOk I1 hr1 v1 r1 hrec
    exact ⟨T, id, pa, slot, hty, t1, t2, Calls.callWith_builtin rfl (PySem.evalArgs_none (hm pins s1 σ H1 x [] u [] Q I1 r1 .nil ⟨L1, h1, p, [], v, h', hr1, v1, .nil, e4, post.aft hr x1⟩))⟩
  · cases e2
end
end HW
/-! HwO: reversed slices, the empty dict. -/
namespace HW
open PySem PySem.Spec PyProof.Rows L2 C8 HT

theorem adjust_rev (n : Nat) : Builtin.Slice.sliceAdjust none none (-1) (n : Int) = ((n : Int) - 1, -1) := by
  unfold Builtin.Slice.sliceAdjust
  simp
theorem places_rev (n : Nat) : Builtin.Slice.slicePlaces ((n : Int) - 1) (-1) (-1) = n := by
  unfold Builtin.Slice.slicePlaces
  have h1 : ¬ ((-1 : Int) > 0) := by omega
  simp only [h1, if_false]
  split
  · rw [show (- -1 : Int) = 1 by decide, Int.ediv_one]; omega
  · omega
theorem pick_rev (xs : Array Value) : ((List.range xs.size).filterMap fun (m : Nat) => xs[(((xs.size : Nat) : Int) - 1 + (m : Int) * (-1)).toNat]?).toArray = xs.toList.reverse.toArray := by
  congr 1
  apply List.ext_getElem?
  intro i
  have key : ((List.range xs.size).filterMap fun (m : Nat) => xs[(((xs.size : Nat) : Int) - 1 + (m : Int) * (-1)).toNat]?) = (List.range xs.size).pmap (fun m (h : m < xs.size) => xs[xs.size - 1 - m]'(by omega)) (fun m hm => List.mem_range.mp hm) := by
    have : ∀ (l : List Nat) (h : ∀ m ∈ l, m < xs.size), (l.filterMap fun (m : Nat) => xs[(((xs.size : Nat) : Int) - 1 + (m : Int) * (-1)).toNat]?) = l.pmap (fun m (h : m < xs.size) => xs[xs.size - 1 - m]'(by omega)) h := by
      intro l h
      induction l with
      | nil => rfl
      | cons m l ih =>
        have hm := h m (by simp)
        have e : (((xs.size : Nat) : Int) - 1 + (m : Int) * (-1)).toNat = xs.size - 1 - m := by omega
        rw [List.filterMap_cons, e, Array.getElem?_eq_getElem (by omega), List.pmap_cons, ih fun m hm => h m (by simp [hm])]
    exact this _ fun m hm => List.mem_range.mp hm
  rw [key]
  by_cases hi : i < xs.size
  · rw [List.getElem?_pmap]
    rw [List.getElem?_reverse (by simpa using hi)]
    simp [hi]
  · rw [List.getElem?_eq_none (by simpa using hi), List.getElem?_eq_none (by simpa using hi)]
section
variable {prog : Program} {w : World} {A : Around} {E : Value → Shared → Prop} {s : Shared}
theorem sliceApplied_rev {sl : Addr} {vl vu vs : Value} {n : Nat} {Q : Int × Int × Nat → Shared → Prop} (hs : s.heap.IsSliceOf sl vl vu vs) (pl : IsPart vl none) (pu : IsPart vu none) (ps : IsPart vs (some (-1)))
    (h : Q ((n : Int) - 1, -1, n) s) : wpAny (model prog w) A (Builtin.Slice.sliceApplied (.ref sl) (pure (n : Int))) Q E s := by
  obtain ⟨os, hos, hcs, hds⟩ := id hs
  unfold Builtin.Slice.sliceApplied Builtin.Slice.sliceFields
  refine wpAny_bind (wpAny_bind (wpAny_field hos hds (x := vl) rfl (wpAny_bind (wpAny_field hos hds (x := vu) rfl (wpAny_bind (wpAny_field hos hds (x := vs) rfl (wpAny_pure ?_)))))))
  refine wpAny_bind (slicePart_ ps ?_)
  show wpAny _ _ (if ((-1 : Int) == 0) = true then _ else _) _ _ s
  rw [if_neg (by decide)]
  refine wpAny_bind (slicePart_ pl (wpAny_bind (slicePart_ pu (wpAny_bind (wpAny_pure ?_)))))
  show wpAny _ _ (match Builtin.Slice.sliceAdjust none none (-1) (n : Int) with | (lo, hi) => pure (lo, (-1 : Int), Builtin.Slice.slicePlaces lo hi (-1))) _ _ s
  rw [adjust_rev n]
  show wpAny _ _ (pure (((n : Int) - 1), (-1 : Int), Builtin.Slice.slicePlaces ((n : Int) - 1) (-1) (-1))) _ _ s
  rw [places_rev]
  exact wpAny_pure h
theorem getItem_tuple_rev {t sl : Addr} {items : Array Value} {vl vu vs : Value} {Q : Value → Shared → Prop} (ht : IsTup s.heap t items) (hs : s.heap.IsSliceOf sl vl vu vs) (pl : IsPart vl none) (pu : IsPart vu none) (ps : IsPart vs (some (-1)))
    (h : Q (.ref s.heap.objs.size) { s with heap := s.heap.push { cls := .type "tuple", data := .seq items.toList.reverse.toArray } })
    (hsz : items.size ≤ sizeLine) : wpAny (model prog w) A (getItem (.ref t) (.ref sl)) Q E s := by
  have htake : sizeOk (.seq items.toList.reverse.toArray) := by
    show items.toList.reverse.toArray.size ≤ sizeLine
    rw [List.size_toArray, List.length_reverse, Array.length_toList]
    exact hsz
  obtain ⟨os, hos, hcs, hds⟩ := id hs
  have hTs : s.TypeIs (.ref sl) "slice" := ⟨os, hos, hcs⟩
  unfold getItem
  try with_reducible refine wpAny_holding ?_
  first | refine wpAny_bind (wpAny_pure ?_) | skip
  refine wpAny_bind (wpAny_sequenceKey ht.typeIs (by decide) ?_)
  refine wpAny_bind (wpAny_callSpecial?_slot (name := Str.ofString "__getitem__") ht.typeIs PyProof.Rows.slot_tuple_getitem
    (wpAny_call_entry PyProof.Rows.slot_tuple_getitem ht.typeIs entry_tuple_getitem ?_ (args_tuple_getitem _ _)))
  show wpAny _ _ (Builtin.Tuple.tupleItemsOf (.ref t) >>= _) _ _ s
  refine wpAny_bind (tupleItemsOf_ ht ?_)
  refine wpAny_bind (wpAny_typeOf hTs ?_)
  rw [if_pos (by decide)]
  refine wpAny_bind (sliceApplied_rev hs pl pu ps ?_)
  have hno : ¬ ((((items.size : Nat) : Int) - 1 == 0 && (-1 : Int) == 1 && (items.size == items.size)) = true) := by simp
  show wpAny _ _ (if (((items.size : Nat) : Int) - 1 == 0 && (-1 : Int) == 1 && (items.size == items.size)) = true then _ else _) _ _ s
  rw [if_neg hno, pick_rev]
  first
    | exact wpAny_bind (m := Builtin.Tuple.tupleExact _) (wpAny_newObj_type (wpAny_pure ⟨_, rfl, wpAny_pure h⟩) htake)
    | exact wpAny_bind (m := Builtin.Tuple.tupleExact _) (wpAny_newObj_type (wpAny_bind (wpAny_pure (wpAny_pure ⟨_, rfl, wpAny_pure h⟩))) htake)
    | exact wpAny_bind (wpAny_bind (m := Builtin.Tuple.tupleExact _) (wpAny_newObj_type (wpAny_pure (wpAny_pure ⟨_, rfl, wpAny_pure h⟩)) htake))
    | exact wpAny_bind (wpAny_bind (m := Builtin.Tuple.tupleExact _) (wpAny_newObj_type (wpAny_pure ⟨_, rfl, wpAny_pure h⟩) htake))
end
section
variable {X : Cx} {a st : Expr} {f g : Env → PHeap → R PV} {pos p3 : Pos}
def revF (f g : Env → PHeap → R PV) : Env → PHeap → R PV := fun env h => (f env h).bind fun x h => (g env h).bind fun y h => R.of (if y = .int (-1) then revOf h x else none) h
theorem se_rev (ha : PE X a (rE X f)) (hs : PE X st (rE X g)) : PE X (.Subscript a (.Slice none none (some st) p3) pos) (rE X (revF f g)) := by
  refine ⟨fun pins s σ H Q I ⟨L, h, env, v, h', hr, er, e, post⟩ => ?_⟩
  obtain ⟨p, h1, e1, e⟩ := R.bind_eq_ok e
  obtain ⟨y, h2, e2, e⟩ := R.bind_eq_ok e
  obtain ⟨e9, rfl⟩ := R.of_eq_ok e
  clear e
  split at e9
  · rename_i hy
    subst hy
    refine Subscript_ (thn (ha.run pins s σ H (fun x H1 => ∃ L1, Ext L H L1 H1 ∧ HR (wd X) L1 h1 H1 ∧ VR (wd X) L1 H1 p x) I ⟨L, h, env, p, h1, hr, er, e1, fun x L1 H1 x1 hr1 v1 => ⟨L1, x1, hr1, v1⟩⟩) fun u s1 ⟨x, H1, I1, r1, L1, x1, hr1, v1⟩ => ?_)
    have hst := so_some hs
    refine wpAny_Slice (thn (po_none.run pins s1 σ H1 (fun o H2 => o = none ∧ H2 = H1) I1 ⟨rfl, rfl⟩) fun vl s2 ⟨l, H2, I2, pl, el, e2'⟩ => ?_)
    subst el e2'
    refine thn (po_none.run pins s2 σ H2 (fun o H3 => o = none ∧ H3 = H2) I2 ⟨rfl, rfl⟩) fun vu s3 ⟨u', H3, I3, pu, eu, e3⟩ => ?_
    subst eu e3
    refine thn (hst.run pins s3 σ H3 (fun o H4 => o = some (-1) ∧ ∃ L4, Ext L1 H3 L4 H4 ∧ HR (wd X) L4 h' H4) I3 ⟨L1, h1, env, some (-1), h', hr1, er.mono x1, by unfold someF; rw [e2]; rfl, fun L4 H4 x4 hr4 => ⟨rfl, L4, x4, hr4⟩⟩) fun vs s4 ⟨o, H4, I4, ps, eo, L4, x4, hr4⟩ => ?_
    subst eo
    have xx := x1.tr hr x4
    have v4 := v1.mono x4
    have I5 : Inv X pins σ H4 { s4 with heap := s4.heap.push { cls := .type "slice", data := .fields #[vl, vu, vs] } } := I4.kept (t' := s4.toks) fun b ob q => Heap.get?_push_of_some _ q
    show wpAny (model X.prog X.w) X.A (subscriptTail a (.Slice none none (some st) p3) u (.ref s4.heap.objs.size)) (EP X pins σ Q) X.xe { s4 with heap := s4.heap.push { cls := .type "slice", data := .fields #[vl, vu, vs] } }
    unfold revOf at e9
    split at e9
    · cases e9
      cases v4 with
      | tup h1 h2 h3 =>
        cases r1
        obtain ⟨its, r, ht, hz⟩ := I5.tuple (TupAt.sq h1)
        have hlen := r.length
        refine tail_any (T := "tuple") (id := "tuple.__getitem__") (ops := [.ref _, .ref s4.heap.objs.size]) ht.typeIs (PyProof.Rows.slot_tuple_getitem.lookup) ?_ (by with_unfolding_all rfl)
        refine getItem_tuple_rev ht (Heap.IsSliceOf.new _ vl vu vs) pl pu ps ?_ (by rw [List.size_toArray]; omega)
        exact tup_ep I5 hr4 (post.aft hr xx) h3.reverse r.reverse (by rw [List.length_reverse]; exact hz) s4.toks
    · obtain ⟨xs, ex, rfl⟩ := Option.map_eq_some_iff.mp e9
      obtain ⟨a', vs', rfl, h1, h2⟩ := v4.list hr4 ex
      cases r1
      obtain ⟨its, r, ht, hz⟩ := I5.list (sqr h1)
      have hlen := r.length
      refine tail_any (ops := [.ref _, .ref s4.heap.objs.size]) ht.isList.typeIs (PySem.slot_list_getitem.lookup) ?_ (by with_unfolding_all rfl)
      refine wpAny_getItem_list_slice ht.isList (Heap.IsSliceOf.new _ vl vu vs) pl pu ps (by decide) ?_ (by rw [List.size_toArray]; omega)
      rw [PySem.W.krv_pick]
      refine mk_ep (al := false) (I5.laid (t' := s4.toks) (o := .lst vs'.reverse) (fun b ob q => Heap.get?_push_of_some _ q) (Nat.le_refl _) ?_) (I5.hok.fresh (Nat.le_refl _)) rfl (post.aft hr xx) hr4 h2.reverse
      exact ⟨by rw [List.length_reverse]; exact hz, _, 0, r.reverse, Heap.get?_push_size _ rfl⟩
  · cases e9
/-- {} -/
theorem se_dct0 {al : Bool} : PE X (.Dict [] [] pos) (rE X fun env h => mkDict al [] h) := by
  refine ⟨fun pins s σ H Q I ⟨L, h, env, v, h', hr, er, e, post⟩ => ?_⟩
  have hs : (s.heap.objs.size == sysModules) = false := by
    rw [beq_eq_false_iff_ne]
    exact Nat.ne_of_gt I.big
  refine wpAny_Dict_empty ?_
  have dd : (s.heap.push { cls := .type "dict", data := .dict #[] }).DictOf (mixKind X.prog X.w) s.heap.objs.size [] := Heap.DictOf.new ..
  exact ep_dict (tk := s.toks) I e post hr (fun b o q => Heap.get?_push_of_some _ q) ⟨_, Heap.get?_push_size _ rfl⟩ (fun _ => dk_new (Nat.zero_le _) hs .nil dd) fun L' o' ex W hW => DP.ofK hW .nil
end
end HW
/-! HwP: what is walked. -/
namespace HW
open PySem PySem.Spec PyProof.Rows L2 C8 RZ

/-- what a walk gives: any value, or a tuple that is only taken apart -/
def YR (Z : Wd) (L : List Addr) (H : Hp) (t : Bool) (p : PV) (x : V) : Prop := match t with
  | false => VR Z L H p x
  | true => ∃ ys a vs, p = .tup ys ∧ x = .ref a ∧ SqT Z.K H a vs ∧ VRs Z L H ys vs
def WalkOk (Z : Wd) (t : Bool) (L : List Addr) (H : Hp) (J : It) (xs : List PV) (chk : Chk) : Prop :=
  ∀ i L' H' g, Ext L H L' H' → HR Z L' g H' → chk g = true →
    (i = xs.length → J.stop i H') ∧ ∀ p, xs[i]? = some p → J.go i H' ∧ ∀ v H'', J.yld i H' v H'' → Ext L' H' L' H'' ∧ HR Z L' g H'' ∧ YR Z L' H'' t p v
def rI (X : Cx) (t : Bool) (f : Env → PHeap → R (List PV × Chk)) : TI := fun σ H R => ∃ L h env p h', HR (wd X) L h H ∧ ER (wd X) L H env σ ∧ f env h = .ok p h' ∧ ∀ J L' H', Ext L H L' H' → HR (wd X) L' h' H' → WalkOk (wd X) t L' H' J p.1 p.2 → R J H'
theorem imI {X : Cx} {tg it : Expr} {t t' : TI} (h : PI X tg it t) (i : ∀ σ H R, t' σ H R → t σ H R) : PI X tg it t' := ⟨fun pins s σ H R I q => h.run pins s σ H R I (i σ H R q)⟩
section
variable {Z : Wd} {L : List Addr} {H : Hp} {xs : List PV} {chk : Chk}
theorem walk_tup {a : Addr} {vs : List V} (h1 : TupAt H a vs) (hn : a ∉ L) (v : VRs Z L H xs vs) : WalkOk Z false L H (Itt Z.K a) xs chk := fun i L' H' g ex hr _ => by
  have h2 := (ex.tup hn h1).1
  have v' := v.mono ex
  refine ⟨fun e => ⟨vs, h2.sq, by rw [v'.length]; omega⟩, fun p hp => ?_⟩
  obtain ⟨x, hx, vx⟩ := v'.get' hp
  refine ⟨⟨vs, x, h2.sq, hx⟩, fun u H'' y => ?_⟩
  obtain ⟨rfl, y⟩ := y
  have := y vs h2.sq
  rw [hx] at this
  cases this
  exact ⟨Ext.refl, hr, vx⟩
/-- a list that is known to be there as long as chk holds -/
theorem walk_lst {a : Addr} (hk : ∀ L' H' g, Ext L H L' H' → HR Z L' g H' → chk g = true → ∃ vs, Rd H' a (.lst vs) ∧ VRs Z L' H' xs vs) : WalkOk Z false L H (Itl Z.K a) xs chk := fun i L' H' g ex hr hc => by
  obtain ⟨vs, h2, v'⟩ := hk L' H' g ex hr hc
  refine ⟨fun e => ⟨vs, sqr h2, by rw [v'.length]; omega⟩, fun p hp => ?_⟩
  obtain ⟨x, hx, vx⟩ := v'.get' hp
  refine ⟨⟨vs, x, sqr h2, hx⟩, fun u H'' y => ?_⟩
  obtain ⟨rfl, y⟩ := y
  have := y vs (sqr h2)
  rw [hx] at this
  cases this
  exact ⟨Ext.refl, hr, vx⟩
/-- the list that stands behind a source -/
theorem list_at {h : PHeap} {p : PV} {x : V} (hr : HR Z L h H) (v : VR Z L H p x) (e : listSrc h p = some (xs, chk)) :
    ∃ a vs, x = .ref a ∧ Rd H a (.lst vs) ∧ ∀ L' H' g, Ext L H L' H' → HR Z L' g H' → chk g = true → ∃ vs, Rd H' a (.lst vs) ∧ VRs Z L' H' xs vs := by
  unfold listSrc at e
  split at e
  · cases e
    cases v with
    | lst h1 h2 h3 => exact ⟨_, _, rfl, .inr h1, fun L' H' g ex _ _ => ⟨_, .inr (ex.fz h2 h1).1, h3.mono ex⟩⟩
  · rename_i n
    split at e
    · rename_i ys hc
      cases e
      obtain ⟨a, vs, rfl, hn, hm, h1, h2⟩ := live_lst hr v hc
      refine ⟨a, vs, rfl, .inl h1, fun L' H' g ex hr' ck => ?_⟩
      obtain ⟨vs', g1, g2⟩ := hr'.cell _ _ _ (of_decide_eq_true ck) (ex.get hn)
      exact ⟨vs', .inl g1, g2⟩
    · cases e
  · cases e
/-! ### the keys, the values, the pairs of a fixed dict -/
def ItK (d : Addr) (o : Obj) (ks : List V) : It := ⟨fun i H => (∃ u, H d = some (.frz o u)) ∧ i < ks.length, fun i H x H' => H' = H ∧ ks[i]? = some x, fun i H => (∃ u, H d = some (.frz o u)) ∧ ks.length ≤ i⟩
def ItP (d : Addr) (o : Obj) (ks vs : List V) : It := ⟨fun i H => (∃ u, H d = some (.frz o u)) ∧ i < ks.length ∧ i < vs.length,
  fun i H x H' => ∃ T k v, ks[i]? = some k ∧ vs[i]? = some v ∧ x = .ref T ∧ H T = none ∧ H' = upd H T (.tup [k, v]), fun i H => (∃ u, H d = some (.frz o u)) ∧ ks.length ≤ i⟩
theorem walk_keys {d : Addr} {o : Obj} {u : HO} {ks : List V} (h1 : H d = some (.frz o u)) (v : VRs Z L H xs ks) : WalkOk Z false L H (ItK d o ks) xs chk := fun i L' H' g ex hr _ => by
  have h2 := ex.frz _ _ _ h1
  have v' := v.mono ex
  refine ⟨fun e => ⟨⟨_, h2⟩, by rw [v'.length]; omega⟩, fun p hp => ?_⟩
  obtain ⟨x, hx, vx⟩ := v'.get' hp
  refine ⟨⟨⟨_, h2⟩, (List.getElem?_eq_some_iff.mp hx).1⟩, fun u H'' y => ?_⟩
  obtain ⟨rfl, y⟩ := y
  rw [hx] at y
  cases y
  exact ⟨Ext.refl, hr, vx⟩
theorem yr_pair {L' : List Addr} {H' : Hp} {g : PHeap} {T : Addr} {x y : V} {p q : PV} (hr : HR Z L' g H') (hT : H' T = none) (v1 : VR Z L' H' p x) (v2 : VR Z L' H' q y) :
    Ext L' H' L' (upd H' T (.tup [x, y])) ∧ HR Z L' g (upd H' T (.tup [x, y])) ∧ YR Z L' (upd H' T (.tup [x, y])) true (.tup [p, q]) (.ref T) :=
  ⟨ext_new hT, hr.new hT, [p, q], T, [x, y], rfl, rfl, SqT.of upd_same, .cons (v1.mono (ext_new hT)) (.cons (v2.mono (ext_new hT)) .nil)⟩
theorem walk_pairs {d : Addr} {o : Obj} {u : HO} {ks vs : List V} {es : List (PV × PV)} (h1 : H d = some (.frz o u)) (v : VRs Z L H (es.map (·.1)) ks) (w : VRs Z L H (es.map (·.2)) vs) : WalkOk Z true L H (ItP d o ks vs) (es.map fun e => .tup [e.1, e.2]) chk := fun i L' H' g ex hr _ => by
  have h2 := ex.frz _ _ _ h1
  have v' := v.mono ex
  have w' := w.mono ex
  refine ⟨fun e => ⟨⟨_, h2⟩, by rw [v'.length]; simpa using Nat.le_of_eq e.symm⟩, fun p hp => ?_⟩
  rw [List.getElem?_map] at hp
  obtain ⟨e, he, rfl⟩ := Option.map_eq_some_iff.mp hp
  obtain ⟨x, hx, vx⟩ := v'.get' (i := i) (y := e.1) (by rw [List.getElem?_map, he]; rfl)
  obtain ⟨y, hy, vy⟩ := w'.get' (i := i) (y := e.2) (by rw [List.getElem?_map, he]; rfl)
  refine ⟨⟨⟨_, h2⟩, (List.getElem?_eq_some_iff.mp hx).1, (List.getElem?_eq_some_iff.mp hy).1⟩, fun u H'' yl => ?_⟩
  obtain ⟨T, k, z, e1, e2, rfl, hT, rfl⟩ := yl
  rw [hx] at e1
  rw [hy] at e2
  cases e1
  cases e2
  exact yr_pair hr hT vx vy
theorem walk_enum {a : Addr} (hk : ∀ L' H' g, Ext L H L' H' → HR Z L' g H' → chk g = true → ∃ vs, Rd H' a (.lst vs) ∧ VRs Z L' H' xs vs) : WalkOk Z true L H (Ite Z.K a) (enumOf xs) chk := fun i L' H' g ex hr hc => by
  obtain ⟨vs, h2, v'⟩ := hk L' H' g ex hr hc
  unfold enumOf
  refine ⟨fun e => ⟨vs, sqr h2, by rw [v'.length]; simpa using Nat.le_of_eq e.symm⟩, fun p hp => ?_⟩
  rw [List.getElem?_mapIdx] at hp
  obtain ⟨q, hq, rfl⟩ := Option.map_eq_some_iff.mp hp
  obtain ⟨x, hx, vx⟩ := v'.get' hq
  refine ⟨⟨vs, x, sqr h2, hx⟩, fun u H'' y => ?_⟩
  obtain ⟨T, x', rfl, hT, rfl, y⟩ := y
  have := y vs (sqr h2)
  rw [hx] at this
  cases this
  exact yr_pair hr hT (.int _) vx
theorem zip_get {xs ys : List PV} {i : Nat} {p : PV} (h : (zipOf xs ys)[i]? = some p) : ∃ x y, xs[i]? = some x ∧ ys[i]? = some y ∧ p = .tup [x, y] := by
  unfold zipOf at h
  rw [List.getElem?_zipWith] at h
  cases hx : xs[i]? with
  | none => rw [hx] at h; cases h
  | some x =>
    cases hy : ys[i]? with
    | none => rw [hx, hy] at h; cases h
    | some y => rw [hx, hy] at h; cases h; exact ⟨x, y, rfl, rfl, rfl⟩
theorem zip_len (xs ys : List PV) : (zipOf xs ys).length = min xs.length ys.length := by unfold zipOf; exact List.length_zipWith
theorem walk_zip {a b : Addr} {ys : List PV} {c c' : Chk} (hk : ∀ L' H' g, Ext L H L' H' → HR Z L' g H' → c g = true → ∃ vs, Rd H' a (.lst vs) ∧ VRs Z L' H' xs vs)
    (hk' : ∀ L' H' g, Ext L H L' H' → HR Z L' g H' → c' g = true → ∃ vs, Rd H' b (.lst vs) ∧ VRs Z L' H' ys vs) (hc : ∀ g, chk g = true → c g = true ∧ c' g = true) : WalkOk Z true L H (Itz Z.K a b) (zipOf xs ys) chk := fun i L' H' g ex hr ck => by
  obtain ⟨vs, h2, v'⟩ := hk L' H' g ex hr (hc g ck).1
  obtain ⟨ws, h3, w'⟩ := hk' L' H' g ex hr (hc g ck).2
  refine ⟨fun e => ⟨vs, ws, sqr h2, sqr h3, by rw [v'.length, w'.length, e, zip_len]; omega⟩, fun p hp => ?_⟩
  obtain ⟨q, q', h4, h5, rfl⟩ := zip_get hp
  obtain ⟨x, hx, vx⟩ := v'.get' h4
  obtain ⟨y, hy, vy⟩ := w'.get' h5
  refine ⟨⟨vs, ws, x, y, sqr h2, sqr h3, hx, hy⟩, fun u H'' yl => ?_⟩
  obtain ⟨T, x', y', rfl, hT, rfl, e1, e2⟩ := yl
  have e1 := e1 vs (sqr h2)
  have e2 := e2 ws (sqr h3)
  rw [hx] at e1
  rw [hy] at e2
  cases e1
  cases e2
  exact yr_pair hr hT vx vy
theorem walk_zipT {a b : Addr} {ys : List PV} {vs ws : List V} (h1 : TupAt H a vs) (n1 : a ∉ L) (v : VRs Z L H xs vs) (h2 : TupAt H b ws) (n2 : b ∉ L) (w : VRs Z L H ys ws) : WalkOk Z true L H (ItzT Z.K a b) (zipOf xs ys) chk := fun i L' H' g ex hr ck => by
  have h2' := (ex.tup n1 h1).1.sq (K := Z.K)
  have h3' := (ex.tup n2 h2).1.sq (K := Z.K)
  have v' := v.mono ex
  have w' := w.mono ex
  refine ⟨fun e => ⟨vs, ws, h2', h3', by rw [v'.length, w'.length, e, zip_len]; omega⟩, fun p hp => ?_⟩
  obtain ⟨q, q', h4, h5, rfl⟩ := zip_get hp
  obtain ⟨x, hx, vx⟩ := v'.get' h4
  obtain ⟨y, hy, vy⟩ := w'.get' h5
  refine ⟨⟨vs, ws, x, y, h2', h3', hx, hy⟩, fun u H'' yl => ?_⟩
  obtain ⟨T, x', y', rfl, hT, rfl, e1, e2⟩ := yl
  have e1 := e1 vs h2'
  have e2 := e2 ws h3'
  rw [hx] at e1
  rw [hy] at e2
  cases e1
  cases e2
  exact yr_pair hr hT vx vy
theorem walk_rng {lo hi : Int} (e : rangeOf lo hi = some xs) : WalkOk Z false L H (Itr lo (hi - lo).toNat) xs chk := fun i L' H' g ex hr ck => by
  unfold rangeOf at e
  split at e
  · cases e
    refine ⟨fun e => (show (hi - lo).toNat ≤ i by rw [e, List.length_map, List.length_range]; exact Nat.le_refl _), fun p hp => ?_⟩
    rw [List.getElem?_map] at hp
    obtain ⟨q, hq, rfl⟩ := Option.map_eq_some_iff.mp hp
    obtain ⟨hl, e2⟩ := List.getElem?_eq_some_iff.mp hq
    rw [List.getElem_range] at e2
    subst e2
    refine ⟨(show i < (hi - lo).toNat by rw [List.length_range] at hl; exact hl), fun u H'' y => ?_⟩
    obtain ⟨rfl, rfl⟩ := y
    exact ⟨Ext.refl, hr, .int _⟩
  · cases e
end
/-! ### the iterators -/
section
variable {P : Program} {w : World} {K : PySem.W.Frag} {tg : Expr} {d : Addr} {o : Obj} {es : Array DictEntry} {ep : Nat}
theorem raw_of {X : Cx} {pins : List (Addr × Obj)} {σ : L2.St} {H : Hp} {s : Shared} {u : HO} (I : Inv X pins σ H s) (h : H d = some (.frz o u)) (hod : o.data = .dict es ep) (hx : o.ExactDict) : s.heap.DictRaw d es ep :=
  ⟨o, (I.hok d _ h).1, hx, hod⟩
theorem turn_rkeys {ks : List V} (it : Addr) (hod : o.data = .dict es ep) (hx : o.ExactDict) (hk : Vals ks (es.toList.map (·.key))) : Turn P w K tg (ItK d o ks) [it] it (fun i h => h.IsKeyIter it d i es.size ep) where
  mem := by simp
  obj := fun i h st b hb => by
    have e : b = it := by simpa using hb
    subst e
    obtain ⟨oi, e, c, dd⟩ := st
    exact ⟨oi, e, fun v z => by rw [dd] at z; cases z⟩
  keep := fun i h h' st k => st.at fun oi e => k it (by simp) oi e
  item := by
    intro X hP hw hK hc i pins s σ H E I hf st hg
    subst hP hw hK
    obtain ⟨⟨u, hd⟩, hi⟩ := hg
    obtain ⟨f0, f1, f2, f3, f4, f5⟩ := hf it (by simp)
    have hl : ks.length = es.size := by rw [hk.length, List.length_map, Array.length_toList]
    have hi' : i < es.size := by omega
    obtain ⟨uk, hu, ru⟩ := hk.get (List.getElem?_eq_getElem hi)
    have hu' : uk = es[i].key := by
      rw [List.getElem?_map, Array.getElem?_toList, Array.getElem?_eq_getElem hi'] at hu
      exact (Option.some.inj hu).symm
    subst hu'
    refine wpAny_pyNext_keys_item_raw st (raw_of I hd hod hx) hi' fun h' st' sb => ?_
    have I1 : Inv X pins σ H { s with heap := h' } := I.turned (t' := s.toks) (fun b ob hb e => (sb.2 b hb).trans e) f0 f1 f3 f4 f5
    obtain ⟨oi, e, c, dd⟩ := id st'
    exact ⟨es[i].key, rfl, go_of (s := { s with heap := h' }) e c dd (by decide) ⟨ks[i], H, I1, ru, ⟨rfl, List.getElem?_eq_getElem hi⟩, st', fun b hb => (hf b hb).1⟩⟩
  done := by
    intro X hP hw hK hc i pins s σ H E I hf st hg
    subst hP hw hK
    obtain ⟨⟨u, hd⟩, hi⟩ := hg
    obtain ⟨f0, f1, f2, f3, f4, f5⟩ := hf it (by simp)
    have hl : ks.length = es.size := by rw [hk.length, List.length_map, Array.length_toList]
    exact wpAny_pyNext_keys_end_raw (I.ok.hd hc) st (raw_of I hd hod hx) (by omega) fun h' eb => ⟨rfl, I.turned (t' := s.toks) (fun b ob hb e => eb b ob hb e) f0 f1 f3 f4 f5⟩
  self := fun A i s Q E st h => wpAny_pyIter_keyiter st h
theorem turn_rvals {ks : List V} (it : Addr) (hod : o.data = .dict es ep) (hx : o.ExactDict) (hk : Vals ks (es.toList.map (·.val))) : Turn P w K tg (ItK d o ks) [it] it (fun i h => h.IsValIter it d i es.size ep) where
  mem := by simp
  obj := fun i h st b hb => by
    have e : b = it := by simpa using hb
    subst e
    obtain ⟨oi, e, c, dd⟩ := st
    exact ⟨oi, e, fun v z => by rw [dd] at z; cases z⟩
  keep := fun i h h' st k => st.at fun oi e => k it (by simp) oi e
  item := by
    intro X hP hw hK hc i pins s σ H E I hf st hg
    subst hP hw hK
    obtain ⟨⟨u, hd⟩, hi⟩ := hg
    obtain ⟨f0, f1, f2, f3, f4, f5⟩ := hf it (by simp)
    have hl : ks.length = es.size := by rw [hk.length, List.length_map, Array.length_toList]
    have hi' : i < es.size := by omega
    obtain ⟨uk, hu, ru⟩ := hk.get (List.getElem?_eq_getElem hi)
    have hu' : uk = es[i].val := by
      rw [List.getElem?_map, Array.getElem?_toList, Array.getElem?_eq_getElem hi'] at hu
      exact (Option.some.inj hu).symm
    subst hu'
    refine wpAny_pyNext_values_item_raw st (raw_of I hd hod hx) hi' fun h' st' sb => ?_
    have I1 : Inv X pins σ H { s with heap := h' } := I.turned (t' := s.toks) (fun b ob hb e => (sb.2 b hb).trans e) f0 f1 f3 f4 f5
    obtain ⟨oi, e, c, dd⟩ := id st'
    exact ⟨es[i].val, rfl, go_of (s := { s with heap := h' }) e c dd (by decide) ⟨ks[i], H, I1, ru, ⟨rfl, List.getElem?_eq_getElem hi⟩, st', fun b hb => (hf b hb).1⟩⟩
  done := by
    intro X hP hw hK hc i pins s σ H E I hf st hg
    subst hP hw hK
    obtain ⟨⟨u, hd⟩, hi⟩ := hg
    obtain ⟨f0, f1, f2, f3, f4, f5⟩ := hf it (by simp)
    have hl : ks.length = es.size := by rw [hk.length, List.length_map, Array.length_toList]
    exact wpAny_pyNext_values_end_raw (I.ok.hd hc) st (raw_of I hd hod hx) (by omega) fun h' eb => ⟨rfl, I.turned (t' := s.toks) (fun b ob hb e => eb b ob hb e) f0 f1 f3 f4 f5⟩
  self := fun A i s Q E st h => wpAny_pyIter_valiter st h
theorem turn_rpairs {ks vs : List V} {elts : List Expr} {kk : Nat} {tpos : Pos} (it : Addr) (hod : o.data = .dict es ep) (hx : o.ExactDict) (hk : Vals ks (es.toList.map (·.key))) (hv : Vals vs (es.toList.map (·.val))) :
    Turn P w K (.Tuple elts kk tpos) (ItP d o ks vs) [it] it (fun i h => ∃ ok ov, IsItemIter h it d i es.size ep ok ov) where
  mem := by simp
  obj := fun i h st b hb => by
    have e : b = it := by simpa using hb
    subst e
    obtain ⟨ok, ov, e⟩ := st
    exact ⟨_, e, fun v z => nomatch z⟩
  keep := fun i h h' st k => let ⟨ok, ov, e⟩ := st; ⟨ok, ov, k it (by simp) _ e⟩
  item := by
    intro X hP hw hK hc i pins s σ H E I hf st hg
    subst hP hw hK
    obtain ⟨⟨u0, hd⟩, hi, hiv⟩ := hg
    have hl : ks.length = es.size := by rw [hk.length, List.length_map, Array.length_toList]
    have hi' : i < es.size := by omega
    obtain ⟨uk, hu, ru⟩ := hk.get (List.getElem?_eq_getElem hi)
    obtain ⟨uv, hw, rw'⟩ := hv.get (List.getElem?_eq_getElem hiv)
    have hu' : uk = es[i].key := by
      rw [List.getElem?_map, Array.getElem?_toList, Array.getElem?_eq_getElem hi'] at hu
      exact (Option.some.inj hu).symm
    have hw' : uv = es[i].val := by
      rw [List.getElem?_map, Array.getElem?_toList, Array.getElem?_eq_getElem hi'] at hw
      exact (Option.some.inj hw).symm
    subst hu' hw'
    obtain ⟨ok, ov, he⟩ := st
    have hlt : it < s.heap.objs.size := Heap.lt_size he
    refine wpAny_pyNext_items_item_raw he (raw_of I hd hod hx) hi' fun h' ho hT hz hk' => ?_
    refine ⟨_, rfl, wpAny_letOwnedTupleGo_items (s := { s with heap := h' }) ho fun h'' he' sb => ?_⟩
    have hT2 : h''.get? s.heap.objs.size = some { cls := .type "tuple", data := .seq #[es[i].key, es[i].val] } := (sb.2 _ (Nat.ne_of_gt hlt)).trans hT
    have new : ObjOk X.prog X.w (upd H s.heap.objs.size (.tup [ks[i], vs[i]])) h'' s.heap.objs.size (.tup [ks[i], vs[i]]) :=
      ⟨by show 2 ≤ sizeLine; decide, [es[i].key, es[i].val], .cons ru (.cons rw' .nil), ⟨_, hT2, rfl, _, rfl⟩⟩
    have I1 : Inv X pins σ (upd H s.heap.objs.size (.tup [ks[i], vs[i]])) { s with heap := h'' } :=
      I.turnedNew (t' := s.toks) (ch := [it]) (fun b ob hb e => (sb.2 b (by simpa using hb)).trans (hk' b ob (by simpa using hb) e)) hf (Nat.le_refl _) new
    refine ⟨.ref s.heap.objs.size, _, I1, rfl, ⟨_, ks[i], vs[i], List.getElem?_eq_getElem hi, List.getElem?_eq_getElem hiv, rfl, I.hok.fresh (Nat.le_refl _), rfl⟩, ⟨_, _, he'⟩, fun b hb => ?_⟩
    have e : b = it := by simpa using hb
    rw [e, upd_ne (Nat.ne_of_lt hlt)]
    exact (hf it (by simp)).1
  done := by
    intro X hP hw hK hc i pins s σ H E I hf st hg
    subst hP hw hK
    obtain ⟨⟨u0, hd⟩, hi⟩ := hg
    have hl : ks.length = es.size := by rw [hk.length, List.length_map, Array.length_toList]
    obtain ⟨f0, f1, f2, f3, f4, f5⟩ := hf it (by simp)
    obtain ⟨ok, ov, he⟩ := st
    exact wpAny_pyNext_items_end_raw (I.ok.hd hc) he (raw_of I hd hod hx) (by omega) fun h' eb => ⟨rfl, I.turned (t' := s.toks) (fun b o hb e => eb b o hb e) f0 f1 f3 f4 f5⟩
  self := fun A i s Q E st h => let ⟨_, _, e⟩ := st; PySem.W.kcp_self e h
end
end HW
/-! HwQ: iterators by the evaluator; targets. -/
namespace HW
open PySem PySem.Spec PyProof.Rows L2 C8 RZ

section
variable {X : Cx} {tg a b : Expr} {f g : Env → PHeap → R PV} {pos p apos cpos tpos : Pos} {elts : List Expr} {kk : Nat}
/-- a fixed dict, its entries -/
theorem fix_raw {pins : List (Addr × Obj)} {σ : L2.St} {H : Hp} {s : Shared} {L : List Addr} {d : Addr} {es : List (PV × PV)} (I : Inv X pins σ H s) (dl : DL (wd X) L H d es) :
    ∃ o u rs ep, H d = some (.frz o u) ∧ s.heap.get? d = some o ∧ o.ExactDict ∧ o.data = .dict rs ep ∧ RawD (wd X) L H s d es rs ep := by
  obtain ⟨rs, ep, r⟩ := dict_raw I (DP.rdL dl)
  have : ∃ u o, H d = some (.frz o u) := by
    cases dl with
    | k h1 _ _ => obtain ⟨o, h⟩ := h1; exact ⟨_, o, h⟩
    | t h1 _ _ _ _ _ => obtain ⟨o, h⟩ := h1; exact ⟨_, o, h⟩
  obtain ⟨u, o, h⟩ := this
  obtain ⟨o', h1, h2, h3⟩ := r.raw
  have h4 : s.heap.get? d = some o := (I.hok d _ h).1
  rw [h1] at h4
  cases h4
  exact ⟨o, u, rs, ep, h, h1, h2, h3, r⟩
theorem vals_len {α : Type} {ks : List V} {rs : Array DictEntry} {g : DictEntry → Value} (h : Vals ks (rs.toList.map g)) : ks.length = rs.size := by rw [h.length, List.length_map, Array.length_toList]
/-- for .. in e -/
theorem si_ex (ha : PE X a (rE X f)) : PI X tg a (rI X false fun env h => (f env h).bind fun v h => R.of (walkSrc h v) h) := by
  refine ⟨fun pins s σ H W I ⟨L, h, env, q, h', hr, er, e, post⟩ => ?_⟩
  obtain ⟨p, h1, e1, e2⟩ := R.bind_eq_ok e
  obtain ⟨e3, rfl⟩ := R.of_eq_ok e2
  refine thn (ha.run pins s σ H (fun x H1 => ∃ L1, Ext L H L1 H1 ∧ HR (wd X) L1 h' H1 ∧ VR (wd X) L1 H1 p x) I ⟨L, h, env, p, h', hr, er, e1, fun x L1 H1 x1 hr1 v1 => ⟨L1, x1, hr1, v1⟩⟩) fun u s1 ⟨x, H1, I1, r1, L1, x1, hr1, v1⟩ => ?_
  have lst : ∀ {xs : List PV} {chk : Chk}, listSrc h' p = some (xs, chk) → q = (xs, chk) → wpAny (model X.prog X.w) X.A (pyIter u) (PIE X pins σ tg W) X.xe s1 := fun {xs chk} e4 e5 => by
    subst e5
    obtain ⟨d, vs, rfl, h5, h6⟩ := list_at hr1 v1 e4
    cases r1
    obtain ⟨its, rv, pl, hz⟩ := I1.list (sqr h5)
    refine wpAny_pyIter_list pl.isList ?_
    exact pi_one (tk := s1.toks) I1 _ (turn_list d _) ⟨_, Heap.get?_push_size _ rfl, rfl, rfl⟩ (post _ L1 H1 x1 hr1 (walk_lst h6))
  have keys : ∀ {d : Addr} {es : List (PV × PV)}, x = .ref d → DL (wd X) L1 H1 d es → q.1 = es.map (·.1) → wpAny (model X.prog X.w) X.A (pyIter u) (PIE X pins σ tg W) X.xe s1 := fun {d es} ex dl e5 => by
    subst ex
    cases r1
    obtain ⟨o, u', rs, ep, g1, g2, g3, g4, r⟩ := fix_raw I1 dl
    obtain ⟨ks, k1, k2⟩ := r.keys
    refine wpAny_pyIter_dict_raw r.sys r.raw ?_
    refine pi_one (tk := s1.toks) I1 _ (turn_rkeys _ g4 g3 k1) ⟨_, Heap.get?_push_size _ rfl, rfl, rfl⟩ (post _ L1 H1 x1 hr1 ?_)
    rw [e5]
    exact walk_keys g1 k2
  unfold walkSrc at e3
  split at e3
  · cases e3
    cases v1 with
    | tup h1 h2 h3 =>
      cases r1
      obtain ⟨its, rv, pl, hz⟩ := I1.tuple (TupAt.sq h1)
      refine wpAny_pyIter_tuple (show s1.heap.IsTuple _ its.toArray from pl) ?_
      exact pi_one (tk := s1.toks) I1 _ (turn_tuple _ _) ⟨_, Heap.get?_push_size _ rfl, rfl, rfl⟩ (post _ L1 H1 x1 hr1 (walk_tup h1 h2 h3))
  · cases e3
    exact lst rfl rfl
  · cases e3
    cases v1 with
    | dctK h1 h2 h3 h4 => exact keys rfl (.k h1 h3 h4) rfl
    | dctT h1 h2 h0 h3 h4 h5 h6 => exact keys rfl (.t h1 h0 h3 h4 h5 h6) rfl
  · rename_i n
    split at e3
    · rename_i xs hc
      cases e3
      exact lst (by unfold listSrc; simp only [hc]) rfl
    · rename_i es hc
      cases e3
      cases v1 with
      | ref hn => exact keys rfl (hr1.cell _ _ _ hc hn) rfl
    · cases e3
  · cases e3
/-- range -/
theorem int_of {p : PV} {j : Int} (h : intOf p = some j) : p = .int j := by
  cases p <;> simp [intOf] at h
  rw [h]
theorem wide62_ {i : Int} (h : wide62 i = true) : -(2 ^ 62) ≤ i ∧ i < 2 ^ 62 := of_decide_eq_true h
theorem range_w {lo hi : Int} {xs : List PV} (h : rangeOf lo hi = some xs) : wide62 lo = true ∧ wide62 hi = true := by
  unfold rangeOf at h
  split at h
  · rename_i q
    rw [Bool.and_eq_true] at q
    exact q
  · cases h
theorem si_rng1 (hg : Gl X "range") (hm : X.mg "range" = none) (ha : PE X a (rE X f)) (ho : okArg a = true) :
    PI X tg (.Call (.Name "range" p) [a] [] pos) (rI X false fun env h => (f env h).bind fun v h => (R.of ((intOf v).bind (rangeOf 0)) h).bind fun xs h => .ok (xs, fun _ => true) h) :=
  imI (pi_range1 hg hm (one_arg ha ho) (star_ok ho _ _)) fun σ H W ⟨L, h, env, q, h', hr, er, e, post⟩ => by
  obtain ⟨v, h1, e1, e⟩ := R.bind_eq_ok e
  obtain ⟨xs, e2, e⟩ := R.of_bind e
  cases e
  obtain ⟨j, e3, e4⟩ := Option.bind_eq_some_iff.mp e2
  obtain rfl := int_of e3
  obtain ⟨w1, w2⟩ := range_w e4
  obtain ⟨w3, w4⟩ := wide62_ w2
  refine ⟨L, h, env, [.int j], h', hr, er, by unfold consF nilF; rw [e1]; rfl, fun zs L1 H1 x1 hr1 v1 => ?_⟩
  cases v1 with
  | cons v1 v2 =>
    cases v2
    cases v1
    refine ⟨j, rfl, w3, w4, post _ _ _ x1 hr1 ?_⟩
    have := walk_rng (Z := wd X) (L := L1) (H := H1) (chk := fun _ => true) e4
    rw [Int.sub_zero] at this
    exact this
theorem two_args (ha : PE X a (rE X f)) (hb : PE X b (rE X g)) (ho : okArg a = true) (ho' : okArg b = true) : PA X [a, b] (rA X (consF f (consF g nilF))) := sa_cons ha (sa_cons hb sa_nil ho') ho
theorem si_rng2 (hg : Gl X "range") (hm : X.mg "range" = none) (ha : PE X a (rE X f)) (hb : PE X b (rE X g)) (ho : okArg a = true) (ho' : okArg b = true) :
    PI X tg (.Call (.Name "range" p) [a, b] [] pos) (rI X false fun env h => (f env h).bind fun v h => (g env h).bind fun w h => (R.of ((intOf v).bind fun i => (intOf w).bind (rangeOf i)) h).bind fun xs h => .ok (xs, fun _ => true) h) :=
  imI (pi_range2 hg hm (two_args ha hb ho ho') (by rw [star_ok ho, star_ok ho']; rfl) (star_ok ho' _ _)) fun σ H W ⟨L, h, env, q, h', hr, er, e, post⟩ => by
  obtain ⟨v, h1, e1, e⟩ := R.bind_eq_ok e
  obtain ⟨w, h2, e1', e⟩ := R.bind_eq_ok e
  obtain ⟨xs, e2, e⟩ := R.of_bind e
  cases e
  obtain ⟨i, e3, e4⟩ := Option.bind_eq_some_iff.mp e2
  obtain ⟨j, e5, e6⟩ := Option.bind_eq_some_iff.mp e4
  obtain rfl := int_of e3
  obtain rfl := int_of e5
  obtain ⟨w1, w2⟩ := range_w e6
  refine ⟨L, h, env, [.int i, .int j], h', hr, er, by unfold consF nilF; rw [e1, R.bind_ok, e1']; rfl, fun zs L1 H1 x1 hr1 v1 => ?_⟩
  cases v1 with
  | cons v1 v2 =>
    cases v2 with
    | cons v2 v3 =>
      cases v3
      cases v1
      cases v2
      exact ⟨i, j, rfl, ⟨(wide62_ w1).1, (wide62_ w1).2, (wide62_ w2).1, (wide62_ w2).2⟩, post _ _ _ x1 hr1 (walk_rng e6)⟩
theorem si_enum (hg : Gl X "enumerate") (hm : X.mg "enumerate" = none) (ha : PE X a (rE X f)) (ho : okArg a = true) :
    PI X (.Tuple elts kk tpos) (.Call (.Name "enumerate" p) [a] [] pos) (rI X true fun env h => (f env h).bind fun v h => (R.of (listSrc h v) h).bind fun p h => .ok (enumOf p.1, p.2) h) :=
  imI (pi_enum hg hm (one_arg ha ho) (star_ok ho _ _)) fun σ H W ⟨L, h, env, q, h', hr, er, e, post⟩ => by
  obtain ⟨v, h1, e1, e⟩ := R.bind_eq_ok e
  obtain ⟨pp, e2, e⟩ := R.of_bind e
  cases e
  refine ⟨L, h, env, [v], h', hr, er, by unfold consF nilF; rw [e1]; rfl, fun zs L1 H1 x1 hr1 v1 => ?_⟩
  cases v1 with
  | cons v1 v2 =>
    cases v2
    obtain ⟨d, vs, rfl, h5, h6⟩ := list_at (xs := pp.1) (chk := pp.2) hr1 v1 e2
    exact ⟨d, vs, rfl, sqr h5, post _ _ _ x1 hr1 (walk_enum h6)⟩
theorem si_zip (hg : Gl X "zip") (hm : X.mg "zip" = none) (ha : PE X a (rE X f)) (hb : PE X b (rE X g)) (ho : okArg a = true) (ho' : okArg b = true) :
    PI X (.Tuple elts kk tpos) (.Call (.Name "zip" p) [a, b] [] pos) (rI X true fun env h => (f env h).bind fun v h => (g env h).bind fun w h => (R.of (zipSrc h v w) h).bind fun p h => .ok (zipOf p.1.1 p.1.2, p.2) h) :=
  imI (pi_zipA hg hm (two_args ha hb ho ho') (star_ok ho _ _) (by rw [star_ok ho']; rfl)) fun σ H W ⟨L, h, env, q, h', hr, er, e, post⟩ => by
  obtain ⟨v, h1, e1, e⟩ := R.bind_eq_ok e
  obtain ⟨w, h2, e1', e⟩ := R.bind_eq_ok e
  obtain ⟨pp, e2, e⟩ := R.of_bind e
  cases e
  refine ⟨L, h, env, [v, w], h', hr, er, by unfold consF nilF; rw [e1, R.bind_ok, e1']; rfl, fun zs L1 H1 x1 hr1 v1 => ?_⟩
  cases v1 with
  | cons v1 v2 =>
    cases v2 with
    | cons v2 v3 =>
      cases v3
      unfold zipSrc at e2
      split at e2
      · cases e2
        cases v1 with
        | tup g1 g2 g3 =>
          cases v2 with
          | tup k1 k2 k3 => exact ⟨_, _, _, _, rfl, .inr ⟨TupAt.sq g1, TupAt.sq k1, post _ _ _ x1 hr1 (walk_zipT g1 g2 g3 k1 k2 k3)⟩⟩
      · split at e2
        · rename_i c c' h4 h5
          cases e2
          obtain ⟨d, vs, rfl, h6, h7⟩ := list_at (xs := c.1) (chk := c.2) hr1 v1 h4
          obtain ⟨d', vs', rfl, h8, h9⟩ := list_at (xs := c'.1) (chk := c'.2) hr1 v2 h5
          refine ⟨d, d', vs, vs', rfl, .inl ⟨sqr h6, sqr h8, post _ _ _ x1 hr1 (walk_zip h7 h9 fun g hg => ?_)⟩⟩
          exact (Bool.and_eq_true _ _).mp hg
        · cases e2
/-- d.items(), d.values() -/
theorem dict_at {L : List Addr} {H : Hp} {h : PHeap} {Z : Wd} {p : PV} {x : V} {es : List (PV × PV)} {chk : Chk} (hr : HR Z L h H) (v : VR Z L H p x) (e : dictSrc h p = some (es, chk)) : ∃ d, x = .ref d ∧ DL Z L H d es := by
  unfold dictSrc at e
  split at e
  · cases e
    cases v with
    | dctK h1 h2 h3 h4 => exact ⟨_, rfl, .k h1 h3 h4⟩
    | dctT h1 h2 h0 h3 h4 h5 h6 => exact ⟨_, rfl, .t h1 h0 h3 h4 h5 h6⟩
  · rename_i n
    split at e
    · rename_i es' hc
      cases e
      cases v with
      | ref hn => exact ⟨_, rfl, hr.cell _ _ _ hc hn⟩
    · cases e
  · cases e
theorem si_items (ha : PE X a (rE X f)) (hbase : okBase a = true) (hline : (apos.endLine == cpos.line) = true) :
    PI X (.Tuple elts kk tpos) (.Call (.Attribute a "items" apos) [] [] cpos) (rI X true fun env h => (f env h).bind fun v h => (R.of (dictSrc h v) h).bind fun p h => .ok (p.1.map fun e => .tup [e.1, e.2], p.2) h) := by
  refine ⟨fun pins s σ H W I ⟨L, h, env, q, h', hr, er, e, post⟩ => ?_⟩
  obtain ⟨p, h1, e1, e⟩ := R.bind_eq_ok e
  obtain ⟨pp, e2, e⟩ := R.of_bind e
  cases e
  refine wpAny_Call_method (T := "dict") (id := "dict.items") (base_ok hbase _ _ _) rfl hline F.plainAttrs_dict F.slot_dict_items F.type_dict_items (thn (ha.run pins s σ H (fun x H1 => ∃ L1, Ext L H L1 H1 ∧ HR (wd X) L1 h' H1 ∧ VR (wd X) L1 H1 p x) I ⟨L, h, env, p, h', hr, er, e1, fun x L1 H1 x1 hr1 v1 => ⟨L1, x1, hr1, v1⟩⟩) fun u s1 ⟨x, H1, I1, r1, L1, x1, hr1, v1⟩ => ?_)
  obtain ⟨d, rfl, dl⟩ := dict_at (es := pp.1) (chk := pp.2) hr1 v1 e2
  cases r1
  obtain ⟨o, u', rs, ep, g1, g2, g3, g4, r⟩ := fix_raw I1 dl
  obtain ⟨ks, k1, k2⟩ := r.keys
  obtain ⟨vs, k3, k4⟩ := r.vals
  refine ⟨r.raw.typeIs, fun b eb => by cases eb; exact ⟨o, g2, g3.2.1⟩, ?_⟩
  have I2 : Inv X pins σ H1 { s1 with heap := s1.heap.push { cls := .type "dict_items", data := .fields #[.ref d] } } := I1.kept (t' := s1.toks) fun b ob q => Heap.get?_push_of_some _ q
  have fin : wpAny (model X.prog X.w) X.A (pyIter (.ref s1.heap.objs.size)) (PIE X pins σ (.Tuple elts kk tpos) W) X.xe { s1 with heap := s1.heap.push { cls := .type "dict_items", data := .fields #[.ref d] } } := by
    refine wpAny_pyIter_items_raw (d := d) ⟨_, Heap.get?_push_size _ rfl, rfl, rfl⟩ (raw_of I2 g1 g4 g3) (pi_one (tk := s1.toks) I2 _ (turn_rpairs _ g4 g3 k1 k3) ⟨.none, .none, Heap.get?_push_size _ rfl⟩ (post _ L1 H1 x1 hr1 (walk_pairs g1 k2 k4)))
  show wpAny _ _ (callWith cpos (.builtin "dict.items") [.ref d] [] []) _ X.xe s1
  exact method_meetsIn F.slot_dict_items F.entry_dict_items rfl (PySem.evalArgs_none ⟨rfl, r.raw.typeIs, F.args_dict_items_1 _, _, meets_dict_items_raw d r.sys, ⟨_, _, r.raw⟩, fin⟩)
theorem si_values (ha : PE X a (rE X f)) (hbase : okBase a = true) (hline : (apos.endLine == cpos.line) = true) :
    PI X tg (.Call (.Attribute a "values" apos) [] [] cpos) (rI X false fun env h => (f env h).bind fun v h => (R.of (dictSrc h v) h).bind fun p h => .ok (p.1.map (·.2), p.2) h) := by
  refine ⟨fun pins s σ H W I ⟨L, h, env, q, h', hr, er, e, post⟩ => ?_⟩
  obtain ⟨p, h1, e1, e⟩ := R.bind_eq_ok e
  obtain ⟨pp, e2, e⟩ := R.of_bind e
  cases e
  refine wpAny_Call_method (T := "dict") (id := "dict.values") (base_ok hbase _ _ _) rfl hline F.plainAttrs_dict F.slot_dict_values F.type_dict_values (thn (ha.run pins s σ H (fun x H1 => ∃ L1, Ext L H L1 H1 ∧ HR (wd X) L1 h' H1 ∧ VR (wd X) L1 H1 p x) I ⟨L, h, env, p, h', hr, er, e1, fun x L1 H1 x1 hr1 v1 => ⟨L1, x1, hr1, v1⟩⟩) fun u s1 ⟨x, H1, I1, r1, L1, x1, hr1, v1⟩ => ?_)
  obtain ⟨d, rfl, dl⟩ := dict_at (es := pp.1) (chk := pp.2) hr1 v1 e2
  cases r1
  obtain ⟨o, u', rs, ep, g1, g2, g3, g4, r⟩ := fix_raw I1 dl
  obtain ⟨vs, k3, k4⟩ := r.vals
  refine ⟨r.raw.typeIs, fun b eb => by cases eb; exact ⟨o, g2, g3.2.1⟩, ?_⟩
  have I2 : Inv X pins σ H1 { s1 with heap := s1.heap.push { cls := .type "dict_values", data := .fields #[.ref d] } } := I1.kept (t' := s1.toks) fun b ob q => Heap.get?_push_of_some _ q
  have fin : wpAny (model X.prog X.w) X.A (pyIter (.ref s1.heap.objs.size)) (PIE X pins σ tg W) X.xe { s1 with heap := s1.heap.push { cls := .type "dict_values", data := .fields #[.ref d] } } := by
    refine wpAny_pyIter_values_raw (d := d) ⟨_, Heap.get?_push_size _ rfl, rfl, rfl⟩ (raw_of I2 g1 g4 g3) (pi_one (tk := s1.toks) I2 _ (turn_rvals _ g4 g3 k3) ⟨_, Heap.get?_push_size _ rfl, rfl, rfl⟩ (post _ L1 H1 x1 hr1 (walk_keys g1 k4)))
  show wpAny _ _ (callWith cpos (.builtin "dict.values") [.ref d] [] []) _ X.xe s1
  exact method_meetsIn F.slot_dict_values F.entry_dict_values rfl (PySem.evalArgs_none ⟨rfl, r.raw.typeIs, F.args_dict_values_1 _, _, meets_dict_values_raw d r.sys, ⟨_, _, r.raw⟩, fin⟩)
/-! ### targets -/
def isTp : Tg → Bool
  | .nm _ => false
  | .tp _ => true
mutual
def tgIx : Tg → List Nat
  | .nm i => [i]
  | .tp ts => tgIxs ts
def tgIxs : List Tg → List Nat
  | [] => []
  | t :: ts => tgIx t ++ tgIxs ts
end
def rG (X : Cx) (t : Tg) : TG := fun v σ H Q => ∃ L h env p env', HR (wd X) L h H ∧ ER (wd X) L H env σ ∧ YR (wd X) L H (isTp t) p v ∧ tgSet t p env = some env' ∧ ∀ σ', ER (wd X) L H env' σ' → (∀ vs, (∀ i ∈ tgIx t, i ∈ vs) → L2.wipe σ' vs = L2.wipe σ vs) → Q σ' H
def rGs (X : Cx) (ts : List Tg) : TGs := fun vs σ H Q => ∃ L h env ps env', HR (wd X) L h H ∧ ER (wd X) L H env σ ∧ VRs (wd X) L H ps vs ∧ ps.length = ts.length ∧ tgSets ts ps env = some env' ∧ ∀ σ', ER (wd X) L H env' σ' → (∀ vs, (∀ i ∈ tgIxs ts, i ∈ vs) → L2.wipe σ' vs = L2.wipe σ vs) → Q σ' H
theorem imG {t t' : TG} {e : Expr} (h : PG X e t) (i : ∀ v σ H Q, t' v σ H Q → t v σ H Q) : PG X e t' := ⟨fun pins s σ H v u Q I r q => h.run pins s σ H v u Q I r (i v σ H Q q)⟩
theorem imGs {t t' : TGs} {e : List Expr} (h : PGs X e t) (i : ∀ v σ H Q, t' v σ H Q → t v σ H Q) : PGs X e t' := ⟨fun pins s σ H v u Q I r q => h.run pins s σ H v u Q I r (i v σ H Q q)⟩
theorem wipe_get {σ : L2.St} : ∀ {vs : List Nat} {i : Nat}, (L2.wipe σ vs)[i]? = if i ∈ vs ∧ i < σ.length then some none else σ[i]?
  | [], i => by simp [L2.wipe]
  | v :: vs, i => by
    rw [L2.wipe, List.getElem?_set, wipe_get (vs := vs), L2.wipe_length]
    by_cases hv : v = i
    · subst hv
      by_cases hl : v < σ.length
      · simp [hl]
      · simp [hl]
    · have hv' : ¬ i = v := fun e => hv e.symm
      simp [hv, hv']
theorem wipe_set {σ : L2.St} {x : Option V} {i : Nat} {vs : List Nat} (h : i ∈ vs) : L2.wipe (σ.set i x) vs = L2.wipe σ vs := by
  apply List.ext_getElem?
  intro j
  rw [wipe_get, wipe_get, List.length_set, List.getElem?_set]
  by_cases hj : j ∈ vs ∧ j < σ.length
  · rw [if_pos hj, if_pos hj]
  · rw [if_neg hj, if_neg hj]
    by_cases e : i = j
    · subst e
      rw [if_pos rfl]
      have hl : ¬ i < σ.length := fun q => hj ⟨h, q⟩
      rw [if_neg hl, List.getElem?_eq_none (by omega)]
    · rw [if_neg e]
theorem sg_nm (hN : X.N.Nodup) {i : Nat} {x : Str} (hi : X.N[i]? = some x) (hx : X.env.scope.names.lookup x = some .local) : PG X (.Name x pos) (rG X (.nm i)) :=
  imG (pg_name hN hi (.inl hx) (.inr hx)) fun v σ H Q ⟨L, h, env, p, env', hr, er, y, e, q⟩ => by
  rw [tgSet] at e
  split at e
  · cases e
    exact q _ (er.set y) fun vs hv => wipe_set (hv i (by simp [tgIx]))
  · cases e
theorem sgs_nil : PGs X [] (rGs X []) := imGs pgs_nil fun v σ H Q ⟨L, h, env, ps, env', hr, er, y, hl, e, q⟩ => by
  cases ps with
  | cons _ _ => cases hl
  | nil =>
    cases y
    rw [tgSets] at e
    cases e
    exact ⟨rfl, q σ er fun _ _ => rfl⟩
theorem yr_of {Z : Wd} {L : List Addr} {H : Hp} {p : PV} {x : V} {t : Tg} {env env' : Env} (v : VR Z L H p x) (e : tgSet t p env = some env') : YR Z L H (isTp t) p x := by
  cases t with
  | nm i => exact v
  | tp ts =>
    cases v with
    | tup h1 h2 h3 => exact ⟨_, _, _, rfl, rfl, TupAt.sq h1, h3⟩
    | _ => simp [tgSet] at e
theorem yr_fix {Z : Wd} {L : List Addr} {H : Hp} {p : PV} {x : V} {t : Tg} {env env' : Env} {fl : Bool} (hf : fl = true → isTp t = true) (y : YR Z L H fl p x) (e : tgSet t p env = some env') : YR Z L H (isTp t) p x := by
  cases fl with
  | false => exact yr_of y e
  | true => rw [hf rfl]; exact y
theorem assign_star {e : Expr} (h : okArg e = true) (es : List Expr) (env : PySem.Env) : assignEach (e :: es) env = (false, assign e env) :: assignEach es env := by
  cases e <;> first | rfl | cases h
theorem sgs_cons {t : Tg} {ts : List Tg} {es : List Expr} (h1 : PG X a (rG X t)) (h2 : PGs X es (rGs X ts)) (ho : okArg a = true) : PGs X (a :: es) (rGs X (t :: ts)) :=
  imGs (pgs_cons h1 h2 (by rw [assign_star ho]; rfl)) fun v σ H Q ⟨L, h, env, ps, env', hr, er, y, hl, e, q⟩ => by
  cases ps with
  | nil => cases hl
  | cons p ps =>
    cases y with
    | cons y1 y2 =>
      rw [tgSets] at e
      split at e
      · rename_i env1 e1
        refine ⟨_, _, rfl, L, h, env, p, env1, hr, er, yr_of y1 e1, e1, fun σ' er' w1 => ⟨L, h, env1, ps, env', hr, er', y2, by simpa using hl, e, fun σ2 er2 w2 => q σ2 er2 fun vs hv => ?_⟩⟩
        rw [w2 vs fun i hi => hv i (by simp [tgIxs, hi]), w1 vs fun i hi => hv i (by simp [tgIxs, hi])]
      · cases e
theorem assign_len {env : PySem.Env} : ∀ {es : List Expr}, es.all okArg = true → (assignEach es env).length = es.length ∧ (assignEach es env).findIdx? (·.1) = none
  | [], _ => ⟨rfl, rfl⟩
  | e :: es, h => by
    rw [List.all_cons, Bool.and_eq_true] at h
    obtain ⟨h1, h2⟩ := assign_len (env := env) h.2
    rw [assign_star h.1]
    refine ⟨by simp [h1], ?_⟩
    rw [List.findIdx?_cons]
    simp [h2]
theorem sg_tp (hc : X.calm = true) {ts : List Tg} (h : PGs X elts (rGs X ts)) (ho : elts.all okArg = true) (hl : elts.length = ts.length) : PG X (.Tuple elts kk tpos) (rG X (.tp ts)) :=
  imG (pg_tup hc h (assign_len ho).1 (assign_len ho).2) fun v σ H Q ⟨L, h, env, p, env', hr, er, y, e, q⟩ => by
  obtain ⟨ys, a, vs, rfl, rfl, y1, y2⟩ := y
  rw [tgSet] at e
  split at e
  · rename_i hl3
    exact ⟨a, vs, rfl, y1, by rw [y2.length, hl3, hl], L, h, env, _, env', hr, er, y2, hl3, e, fun σ' er' w => q σ' er' fun vs hv => w vs fun i hi => hv i (by rw [tgIx]; exact hi)⟩
  · cases e
end
end HW
/-! HwR: list comprehensions. -/
namespace HW
open PySem PySem.Spec PyProof.Rows L2 C8

section
variable {Z : Wd} {L L' : List Addr} {H H' : Hp} {h : PHeap} {D : Addr}
/-- what is fixed there is fixed here *)-/
def Agr (H H' : Hp) : Prop := ∀ a o u, H a = some (.frz o u) → H' a = some (.frz o u)
theorem FzAt.agr (h : Agr H H') {a : Addr} {u : HO} (x : FzAt H a u) : FzAt H' a u := let ⟨o, e⟩ := x; ⟨o, h _ _ _ e⟩
mutual
theorem VR.agr (e : Agr H H') : ∀ {p : PV} {v : V}, VR Z L H p v → VR Z L H' p v
  | _, _, .non => .non
  | _, _, .bl b => .bl b
  | _, _, .int b => .int b
  | _, _, .str b => .str b
  | _, _, .tup ⟨o, h1, h1'⟩ h2 h3 => .tup ⟨o, e _ _ _ h1, h1'⟩ h2 (VRs.agr e h3)
  | _, _, .lst h1 h2 h3 => .lst (h1.agr e) h2 (VRs.agr e h3)
  | _, _, .scr h1 h2 => .scr (h1.agr e) h2
  | _, _, .scrK h1 => .scrK h1
  | _, _, .dctK h1 h2 h3 h4 => .dctK (h1.agr e) h2 h3 (VRs.agr e h4)
  | _, _, .dctT h1 h2 h0 h3 h4 h5 h6 => .dctT (h1.agr e) h2 h0 h3 h4 (VRs.agr e h5) (VRs.agr e h6)
  | _, _, .ref h1 => .ref h1
theorem VRs.agr (e : Agr H H') : ∀ {p : List PV} {v : List V}, VRs Z L H p v → VRs Z L H' p v
  | _, _, .nil => .nil
  | _, _, .cons h1 h2 => .cons (VR.agr e h1) (VRs.agr e h2)
end
theorem DP.map {a : Addr} {W W' : HO → Prop} {es : List (PV × PV)} (x : DP Z L H a W es) (hv : ∀ p v, VRs Z L H p v → VRs Z L' H' p v) (hw : ∀ u, W u → W' u) : DP Z L' H' a W' es := by
  cases x with
  | k h1 h2 h3 => exact .k (hw _ h1) h2 (hv _ _ h3)
  | t h1 h0 h2 h3 h4 h5 => exact .t (hw _ h1) h0 h2 h3 (hv _ _ h4) (hv _ _ h5)
theorem CR.map {a : Addr} {c : Cell} (x : CR Z L H a c) (hv : ∀ p v, VRs Z L H p v → VRs Z L' H' p v) (ha : H' a = H a) : CR Z L' H' a c := by
  cases c with
  | lst xs => obtain ⟨vs, h1, h2⟩ := x; exact ⟨vs, by rw [ha]; exact h1, hv _ _ h2⟩
  | dct es => exact DP.map x hv fun u e => by rw [ha]; exact e
  | dctL es => exact DP.map x hv fun u ⟨o, e⟩ => ⟨o, by rw [ha]; exact e⟩
  | obj _ _ => exact x
/-- a thing that is built, not yet seen -/
theorem agr_upd {o : HO} (hf : NF H D) : Agr H (upd H D o) := fun a o' u e => by
  rw [upd_ne fun q => hf o' u (by rw [← q]; exact e)]
  exact e
theorem HR.touch {o : HO} (r : HR Z L h H) (hD : D ∉ L) (hf : NF H D) : HR Z L h (upd H D o) :=
  ⟨r.len, r.nd, fun n c a h1 h2 => (r.cell n c a h1 h2).map (fun _ _ => VRs.agr (agr_upd hf)) (upd_ne fun q => hD (by rw [← q]; exact List.mem_of_getElem? h2))⟩
theorem Ext.touch {o : HO} (e : Ext L H L' H') (hD : H D = none) : Ext L H L' (upd H' D o) := by
  refine ⟨e.pre, fun a u hn ha => ?_, fun a ha => ?_, fun a o' u ha => ?_⟩
  · rw [upd_ne (ne_of_none ha hD)]; exact e.keep a u hn ha
  · unfold upd; split
    · simp
    · exact e.dom a ha
  · rw [upd_ne (ne_of_none ha hD)]; exact e.frz a o' u ha
theorem ER.agr {env : Env} {σ : L2.St} (e : Agr H H') (x : ER Z L H env σ) : ER Z L H' env σ := ⟨x.len, fun i v h1 => let ⟨y, h2, h3⟩ := x.at_ i v h1; ⟨y, h2, h3.agr e⟩⟩
/-- it becomes live -/
theorem notin_snoc {a : Addr} {o : Obj} {u : HO} (ha : a ∉ L) (e : H a = some (.frz o u)) (hf : NF H D) : a ∉ L ++ [D] := fun q => by
  rcases List.mem_append.mp q with q | q
  · exact ha q
  · have : a = D := by simpa using q
    subst this
    exact hf _ _ e
mutual
theorem VR.grow (hf : NF H D) : ∀ {p : PV} {v : V}, VR Z L H p v → VR Z (L ++ [D]) H p v
  | _, _, .non => .non
  | _, _, .bl b => .bl b
  | _, _, .int b => .int b
  | _, _, .str b => .str b
  | _, _, .tup ⟨o, h1, h1'⟩ h2 h3 => .tup ⟨o, h1, h1'⟩ (notin_snoc h2 h1 hf) (VRs.grow hf h3)
  | _, _, .lst ⟨o, h1⟩ h2 h3 => .lst ⟨o, h1⟩ (notin_snoc h2 h1 hf) (VRs.grow hf h3)
  | _, _, .scr ⟨o, h1⟩ h2 => .scr ⟨o, h1⟩ (notin_snoc h2 h1 hf)
  | _, _, .scrK h1 => .scrK h1
  | _, _, .dctK ⟨o, h1⟩ h2 h3 h4 => .dctK ⟨o, h1⟩ (notin_snoc h2 h1 hf) h3 (VRs.grow hf h4)
  | _, _, .dctT ⟨o, h1⟩ h2 h0 h3 h4 h5 h6 => .dctT ⟨o, h1⟩ (notin_snoc h2 h1 hf) h0 h3 h4 (VRs.grow hf h5) (VRs.grow hf h6)
  | _, _, .ref h1 => .ref (by rw [List.getElem?_append_left (List.getElem?_eq_some_iff.mp h1).1]; exact h1)
theorem VRs.grow (hf : NF H D) : ∀ {p : List PV} {v : List V}, VRs Z L H p v → VRs Z (L ++ [D]) H p v
  | _, _, .nil => .nil
  | _, _, .cons h1 h2 => .cons (VR.grow hf h1) (VRs.grow hf h2)
end
theorem HR.grow (r : HR Z L h H) (hD : D ∉ L) (hf : NF H D) {c : Cell} (x : CR Z (L ++ [D]) H D c) : HR Z (L ++ [D]) (h ++ [c]) H := by
  refine ⟨by simp [r.len], ?_, fun n c' a h1 h2 => ?_⟩
  · rw [List.nodup_append]
    refine ⟨r.nd, by simp, fun a ha b hb => ?_⟩
    simp only [List.mem_singleton] at hb
    subst hb
    intro e
    subst e
    exact hD ha
  · have hrl := r.len
    by_cases hn : n < L.length
    · rw [List.getElem?_append_left (by omega)] at h1
      rw [List.getElem?_append_left hn] at h2
      exact (r.cell n c' a h1 h2).map (fun _ _ => VRs.grow hf) rfl
    · have hl : n < (L ++ [D]).length := (List.getElem?_eq_some_iff.mp h2).1
      have en : n = L.length := by simp at hl; omega
      have en' : n = h.length := by omega
      rw [en'] at h1
      rw [en] at h2
      simp at h1 h2
      subst h1 h2
      exact x
theorem Ext.grow (e : Ext L H L' H') (hD : H D = none) : Ext L H (L' ++ [D]) H' := by
  obtain ⟨M, rfl, hM⟩ := e.pre
  refine ⟨⟨M ++ [D], by simp, fun a ha => ?_⟩, e.keep, e.dom, e.frz⟩
  rcases List.mem_append.mp ha with q | q
  · exact hM a q
  · have : a = D := by simpa using q
    subst this
    exact hD
end
section
variable {X : Cx} {pins : List (Addr × Obj)} {σ : L2.St}
/-- the list at D is ready -/
theorem made_ep {s : Shared} {H H' : Hp} {L L2 : List Addr} {h h' : PHeap} {al : Bool} {xs : List PV} {vs : List V} {r : PV} {D : Addr} {Q : VK} (I : Inv X pins σ H' s) (hD : H' D = some (.lst vs)) (hn : D ∉ L2) (h0 : H D = none) (ex : Ext L H L2 H') (hr : HR (wd X) L2 h H') (v : VRs (wd X) L2 H' xs vs)
    (e : mkList al xs h = .ok r h') (post : Post (wd X) L H r h' Q) : EP X pins σ Q (.ref D) s := by
  have hf := nf_lst hD
  unfold mkList at e
  cases al with
  | false =>
    simp only [Bool.false_eq_true, if_false, R.ok.injEq] at e
    obtain ⟨rfl, rfl⟩ := e
    obtain ⟨od, I1⟩ := I.lock hD trivial
    exact ⟨.ref D, _, I1, rfl, post _ _ _ (ex.touch h0) (hr.touch hn hf) (.lst ⟨od, upd_same⟩ hn (v.agr (agr_upd hf)))⟩
  | true =>
    simp only [if_true, R.ok.injEq] at e
    obtain ⟨rfl, rfl⟩ := e
    refine ⟨.ref D, _, I, rfl, post _ _ _ (ex.grow h0) (hr.grow hn hf ⟨vs, hD, v.grow hf⟩) (.ref ?_)⟩
    rw [← hr.len]
    simp
theorem wipe_wipe (σ : L2.St) (vs : List Nat) : L2.wipe (L2.wipe σ vs) vs = L2.wipe σ vs := by
  apply List.ext_getElem?
  intro j
  rw [wipe_get, wipe_get, L2.wipe_length]
  split <;> rfl
def compF (al : Bool) (fI : Env → PHeap → R (List PV × Chk)) (tg : Tg) (fT : Env → PHeap → R Bool) (fE : Env → PHeap → R PV) (vs : List Nat) : Env → PHeap → R PV := fun env h => (fI env h).bind fun p h =>
  (compGo p.2 (tgSet tg) fT fE (wipeE env vs) p.1 h []).bind fun acc h => mkList al acc h
end
/-! ### locks -/
section
variable {Z : Wd} {L L' : List Addr} {H H' : Hp} {h : PHeap} {d : Addr}
theorem ne_mem {a : Addr} (ha : a ∉ L) (hd : d ∈ L) : a ≠ d := fun e => ha (by rw [e]; exact hd)
theorem FzAt.away {o : HO} {a : Addr} {u : HO} (hd : d ∈ L) (ha : a ∉ L) (x : FzAt H a u) : FzAt (upd H d o) a u := let ⟨b, e⟩ := x; ⟨b, by rw [upd_ne (ne_mem ha hd)]; exact e⟩
mutual
theorem VR.away {o : HO} (hd : d ∈ L) : ∀ {p : PV} {v : V}, VR Z L H p v → VR Z L (upd H d o) p v
  | _, _, .non => .non
  | _, _, .bl b => .bl b
  | _, _, .int b => .int b
  | _, _, .str b => .str b
  | _, _, .tup ⟨b, h1, h1'⟩ h2 h3 => .tup ⟨b, by rw [upd_ne (ne_mem h2 hd)]; exact h1, h1'⟩ h2 (VRs.away hd h3)
  | _, _, .lst h1 h2 h3 => .lst (h1.away hd h2) h2 (VRs.away hd h3)
  | _, _, .scr h1 h2 => .scr (h1.away hd h2) h2
  | _, _, .scrK h1 => .scrK h1
  | _, _, .dctK h1 h2 h3 h4 => .dctK (h1.away hd h2) h2 h3 (VRs.away hd h4)
  | _, _, .dctT h1 h2 h0 h3 h4 h5 h6 => .dctT (h1.away hd h2) h2 h0 h3 h4 (VRs.away hd h5) (VRs.away hd h6)
  | _, _, .ref h1 => .ref h1
theorem VRs.away {o : HO} (hd : d ∈ L) : ∀ {p : List PV} {v : List V}, VRs Z L H p v → VRs Z L (upd H d o) p v
  | _, _, .nil => .nil
  | _, _, .cons h1 h2 => .cons (VR.away hd h1) (VRs.away hd h2)
end
theorem HR.away {o : HO} {n : Nat} {c : Cell} (r : HR Z L h H) (hp : L[n]? = some d) (x : CR Z L (upd H d o) d c) : HR Z L (h.set n c) (upd H d o) := by
  have hm : d ∈ L := List.mem_of_getElem? hp
  refine ⟨by simp [r.len], r.nd, fun m c' a h1 h2 => ?_⟩
  by_cases hmn : m = n
  · subst hmn
    rw [hp] at h2; cases h2
    have hn : m < h.length := by have := r.len; have := (List.getElem?_eq_some_iff.mp hp).1; omega
    rw [List.getElem?_set_self hn] at h1
    cases h1
    exact x
  · rw [List.getElem?_set_ne (Ne.symm hmn)] at h1
    have hap : a ≠ d := fun e => by
      subst e
      exact hmn ((List.getElem?_inj (List.getElem?_eq_some_iff.mp h2).1 r.nd).mp (h2.trans hp.symm))
    exact (r.cell m c' a h1 h2).map (fun _ _ => VRs.away hm) (upd_ne hap)
theorem ER.away {o : HO} {env : Env} {σ : L2.St} (hd : d ∈ L) (x : ER Z L H env σ) : ER Z L (upd H d o) env σ := ⟨x.len, fun i v h1 => let ⟨y, h2, h3⟩ := x.at_ i v h1; ⟨y, h2, h3.away hd⟩⟩
theorem dx_mut {es : List (PV × PV)} (x : DX Z L H d es) : ∃ u, H d = some u ∧ Mut (some u) ∧ (∀ W : HO → Prop, W u → DP Z L H d W es) ∧ NF H d := by
  have nf := nf_dx x
  cases x with
  | k h1 h2 h3 => exact ⟨_, h1, trivial, fun W w => .k w h2 h3, nf⟩
  | t h1 h0 h2 h3 h4 h5 => exact ⟨_, h1, trivial, fun W w => .t w h0 h2 h3 h4 h5, nf⟩
theorem dl_u {es : List (PV × PV)} (x : DL Z L H d es) : ∃ od u, H d = some (.frz od u) ∧ ∀ W : HO → Prop, W u → DP Z L H d W es := by
  cases x with
  | k h1 h2 h3 => obtain ⟨od, h⟩ := h1; exact ⟨od, _, h, fun W w => .k w h2 h3⟩
  | t h1 h0 h2 h3 h4 h5 => obtain ⟨od, h⟩ := h1; exact ⟨od, _, h, fun W w => .t w h0 h2 h3 h4 h5⟩
theorem ext_lock {od : Obj} {u u' : HO} (hd : d ∈ L) (nf : NF H d) (hH : H d = some u) (e : Ext L (upd H d (.frz od u)) L' H') : Ext L H L' (upd H' d u') := by
  obtain ⟨M, rfl, hM⟩ := e.pre
  refine ⟨⟨M, rfl, fun a ha => ?_⟩, fun a o hn ha => ?_, fun a ha => ?_, fun a o v ha => ?_⟩
  · have := hM a ha
    by_cases q : a = d
    · subst q; rw [upd_same] at this; cases this
    · rw [upd_ne q] at this; exact this
  · have q := ne_mem hn hd
    rw [upd_ne q]
    exact e.keep a o hn (by rw [upd_ne q]; exact ha)
  · unfold upd; split
    · simp
    · rename_i q
      exact e.dom a (by rw [upd_ne q]; exact ha)
  · have q : a ≠ d := fun z => nf o v (by rw [← z]; exact ha)
    rw [upd_ne q]
    exact e.frz a o v (by rw [upd_ne q]; exact ha)
end
section
variable {X : Cx} {pins : List (Addr × Obj)} {σ : L2.St} {s : Shared} {H : Hp} {L : List Addr} {h : PHeap}
/-- a cell is locked -/
theorem lock_in {n : Nat} {es : List (PV × PV)} (I : Inv X pins σ H s) (hr : HR (wd X) L h H) (hc : h[n]? = some (.dct es)) : ∃ d u od, L[n]? = some d ∧ H d = some u ∧ NF H d ∧ (∀ o' u', X.H_0 d ≠ some (.frz o' u')) ∧ Inv X pins σ (upd H d (.frz od u)) s ∧ HR (wd X) L (h.set n (.dctL es)) (upd H d (.frz od u)) := by
  obtain ⟨d, hn, cr⟩ := hr.addr hc
  obtain ⟨u, hu, mu, mk, nf⟩ := dx_mut cr
  obtain ⟨od, I1⟩ := I.lock hu mu
  refine ⟨d, u, od, hn, hu, nf, I.nofrz hu mu, I1, hr.away hn ?_⟩
  exact DP.map (mk (FzAt (upd H d (.frz od u)) d) ⟨od, upd_same⟩) (fun _ _ => VRs.away (List.mem_of_getElem? hn)) fun _ x => x
/-- .. unlocked -/
theorem lock_out {n : Nat} {d : Addr} {es : List (PV × PV)} (I : Inv X pins σ H s) (hr : HR (wd X) L h H) (hn : L[n]? = some d) (hf : ∀ o' u', X.H_0 d ≠ some (.frz o' u')) (hc : h[n]? = some (.dctL es)) : ∃ u, Inv X pins σ (upd H d u) s ∧ HR (wd X) L (h.set n (.dct es)) (upd H d u) := by
  obtain ⟨od, u, hu, mk⟩ := dl_u (hr.cell _ _ _ hc hn)
  refine ⟨u, I.unlock hu hf, hr.away hn ?_⟩
  exact DP.map (mk (fun v => upd H d u d = some v) upd_same) (fun _ _ => VRs.away (List.mem_of_getElem? hn)) fun _ x => x
theorem withLock_ok {α : Type} {n : Nat} {F : PHeap → R α} {h h' : PHeap} {v : α} (e : withLock (some n) F h = .ok v h') : ∃ es g, h[n]? = some (.dct es) ∧ F (h.set n (.dctL es)) = .ok v g ∧ g[n]? = some (.dctL es) ∧ h' = g.set n (.dct es) := by
  unfold withLock at e
  dsimp only at e
  split at e
  · rename_i es hc
    obtain ⟨r, g, e1, e2⟩ := R.bind_eq_ok e
    split at e2
    · rename_i hg
      cases e2
      exact ⟨es, g, hc, e1, hg, rfl⟩
    · cases e2
  · cases e
def lkF (it : II) (F : Env → PHeap → R PV) : Env → PHeap → R PV := fun env h => withLock (lockI it env h) (F env) h
theorem se_lock {it : II} {F : Env → PHeap → R PV} {e : Expr} (pe : PE X e (rE X F)) : PE X e (rE X (lkF it F)) := ⟨fun pins s σ H Q I ⟨L, h, env, v, h', hr, er, eq, post⟩ => by
  unfold lkF at eq
  cases hl : lockI it env h with
  | none => rw [hl] at eq; exact pe.run pins s σ H Q I ⟨L, h, env, v, h', hr, er, eq, post⟩
  | some n =>
    rw [hl] at eq
    obtain ⟨es, g, hc, e1, hg, rfl⟩ := withLock_ok eq
    obtain ⟨d, u, od, hn, hu, nf, hf, I1, hr1⟩ := lock_in I hr hc
    have hm := List.mem_of_getElem? hn
    refine thn (pe.run pins s σ _ (fun x H1 => ∃ L1, Ext L (upd H d (.frz od u)) L1 H1 ∧ HR (wd X) L1 g H1 ∧ VR (wd X) L1 H1 v x) I1 ⟨L, _, env, v, g, hr1, er.away hm, e1, fun x L1 H1 x1 hr1 v1 => ⟨L1, x1, hr1, v1⟩⟩) fun w s1 ⟨x, H1, I2, rx, L1, x1, hr2, v1⟩ => ?_
    obtain ⟨u', I3, hr3⟩ := lock_out I2 hr2 (x1.get hn) hf hg
    exact ⟨x, _, I3, rx, post x L1 _ (ext_lock hm nf hu x1) hr3 (v1.away (List.mem_of_getElem? (x1.get hn)))⟩⟩
end
end HW
/-! HwS: statements. -/
namespace HW
open PySem PySem.Spec PyProof.Rows L2 C8

/-- how a statement's end is read -/
def OutP (Z : Wd) (L : List Addr) (H : Hp) (D : Ends) : Out → Prop
  | .nx e => ∀ σ, ER Z L H e σ → D.nx σ H
  | .bk e => ∀ σ, ER Z L H e σ → D.bk σ H
  | .ct e => ∀ σ, ER Z L H e σ → D.ct σ H
  | .rt v => ∀ x, VR Z L H v x → D.rt x H
def PostS (Z : Wd) (L : List Addr) (H : Hp) (D : Ends) (o : Out) (h' : PHeap) : Prop := ∀ L' H', Ext L H L' H' → HR Z L' h' H' → OutP Z L' H' D o
def rS (X : Cx) (f : Env → PHeap → R Out) : TS := fun D σ H => ∃ L h env o h', HR (wd X) L h H ∧ ER (wd X) L H env σ ∧ f env h = .ok o h' ∧ PostS (wd X) L H D o h'
theorem imS {X : Cx} {e : Stmt} {t t' : TS} (h : PS X e t) (i : ∀ D σ H, t' D σ H → t D σ H) : PS X e t' := ⟨fun pins s σ H D I q => h.run pins s σ H D I (i D σ H q)⟩
theorem imSs {X : Cx} {e : List Stmt} {t t' : TS} (h : PSs X e t) (i : ∀ D σ H, t' D σ H → t D σ H) : PSs X e t' := ⟨fun pins s σ H D I q => h.run pins s σ H D I (i D σ H q)⟩
theorem PostS.aft {Z : Wd} {L L' : List Addr} {H H' : Hp} {h h' : PHeap} {D : Ends} {o : Out} (p : PostS Z L H D o h') (r : HR Z L h H) (e : Ext L H L' H') : PostS Z L' H' D o h' := fun L2 H2 e2 r2 => p L2 H2 (e.tr r e2) r2
def okNoComp : Expr → Bool
  | .ListComp .. => false
  | .SetComp .. => false
  | .DictComp .. => false
  | _ => true
def okNoTup : Expr → Bool
  | .Tuple .. => false
  | _ => true
theorem swaps_no {e : Expr} (h : okNoComp e = true) (t : Option Expr) (l : Nat) (env : PySem.Env) : swapsWith e t l env = pure false := by
  cases e <;> first | rfl | cases h
theorem sole_no {e : Expr} (h : okNoComp e = true) (t : Expr) (l : Nat) (env : PySem.Env) : swapsWithSole [t] e l env = pure false := swaps_no h _ _ _
theorem swapped_no {e : Expr} (h : okNoTup e = true) (t : Expr) (env : PySem.Env) : swappedStores [t] e env = pure none := by
  cases e <;> first | (cases t <;> rfl) | cases h
section
variable {X : Cx} {a b c : Expr} {st : Stmt} {rest : List Stmt} {f g k : Env → PHeap → R PV} {fs gs : Env → PHeap → R Out} {pos p tpos : Pos}
def nxF : Env → PHeap → R Out := fun env h => .ok (.nx env) h
theorem ss_next {t : Stmt} (h : PS X t tNext) : PS X t (rS X nxF) := imS h fun D σ H ⟨L, h, env, o, h', hr, er, e, post⟩ => by
  cases e
  exact post _ _ Ext.refl hr σ er
theorem ss_brk : PS X (.Break pos) (rS X fun env h => .ok (.bk env) h) := imS ps_break fun D σ H ⟨L, h, env, o, h', hr, er, e, post⟩ => by
  cases e
  exact post _ _ Ext.refl hr σ er
theorem ss_cont : PS X (.Continue pos) (rS X fun env h => .ok (.ct env) h) := imS ps_continue fun D σ H ⟨L, h, env, o, h', hr, er, e, post⟩ => by
  cases e
  exact post _ _ Ext.refl hr σ er
theorem ss_expr (ha : PE X a (rE X f)) (ho : okNoComp a = true) : PS X (.Expr a pos) (rS X fun env h => (f env h).bind fun _ h => .ok (.nx env) h) := imS (ps_expr ha (swaps_no ho _ _ _)) fun D σ H ⟨L, h, env, o, h', hr, er, e, post⟩ => by
  obtain ⟨v, h1, e1, e2⟩ := R.bind_eq_ok e
  cases e2
  exact ⟨L, h, env, v, h', hr, er, e1, fun x L1 H1 x1 hr1 v1 => post _ _ x1 hr1 σ (er.mono x1)⟩
theorem ss_ret (ha : PE X a (rE X f)) : PS X (.Return (some a) pos) (rS X fun env h => (f env h).bind fun v h => .ok (.rt v) h) := imS (ps_ret ha) fun D σ H ⟨L, h, env, o, h', hr, er, e, post⟩ => by
  obtain ⟨v, h1, e1, e2⟩ := R.bind_eq_ok e
  cases e2
  exact ⟨L, h, env, v, h', hr, er, e1, fun x L1 H1 x1 hr1 v1 => post _ _ x1 hr1 x v1⟩
theorem ss_retN : PS X (.Return none pos) (rS X fun _ h => .ok (.rt .non) h) := imS ps_retN fun D σ H ⟨L, h, env, o, h', hr, er, e, post⟩ => by
  cases e
  exact post _ _ Ext.refl hr _ .non
/-- name = e -/
def setF (i : Nat) (f : Env → PHeap → R PV) : Env → PHeap → R Out := fun env h => (f env h).bind fun v h => (R.of (tgSet (.nm i) v env) h).bind fun env h => .ok (.nx env) h
theorem setF_ok {i : Nat} {env : Env} {h h' : PHeap} {o : Out} (e : setF i f env h = .ok o h') : ∃ v, f env h = .ok v h' ∧ o = .nx (env.set i (some v)) := by
  obtain ⟨v, h1, e1, e2⟩ := R.bind_eq_ok e
  obtain ⟨env', e3, e4⟩ := R.of_bind e2
  rw [tgSet] at e3
  split at e3
  · cases e3
    cases e4
    exact ⟨v, e1, rfl⟩
  · cases e3
theorem ss_set (hN : X.N.Nodup) {i : Nat} {x : Str} (hi : X.N[i]? = some x) (hx : X.env.scope.names.lookup x = some .local) (ha : PE X a (rE X f)) (ho : okNoComp a = true) : PS X (.Assign [.Name x p] a pos) (rS X (setF i f)) :=
  imS (ps_set hN hi (.inl hx) ha (swaps_no ho _ _ _) (.inr hx)) fun D σ H ⟨L, h, env, o, h', hr, er, e, post⟩ => by
  obtain ⟨v, e1, rfl⟩ := setF_ok e
  exact ⟨L, h, env, v, h', hr, er, e1, fun x L1 H1 x1 hr1 v1 => post _ _ x1 hr1 _ ((er.mono x1).set v1)⟩
/-- o[i] = e -/
def subF (f : Env → PHeap → R PV) (fo fi : Env → PHeap → R PV) : Env → PHeap → R Out := fun env h => (f env h).bind fun v h => ((fo env h).bind fun x h => (fi env h).bind fun y h => match putItem h x y v with
    | some h' => .ok env h'
    | none => .bad).bind fun env h => .ok (.nx env) h
theorem assign_sub {o i : Expr} (h : okIx i = true) (env : PySem.Env) : ∀ v, assign (.Subscript o i pos) env v = (do
      let ov ← holding [v] (eval o env)
      let iv ← holding [v, ov] (eval i env)
      standAt pos
      holding [v, ov, iv] (setItem ov iv v)
      release [v, ov, iv] []) := fun v => by
  cases i <;> first | rfl | cases h
theorem ss_sub (hu : Um X) (ha : PE X a (rE X f)) (hb : PE X b (rE X g)) (hc : PE X c (rE X k)) (ho : okNoComp a = true) (ht : okNoTup a = true) (hi : okIx c = true) : PS X (.Assign [.Subscript b c tpos] a pos) (rS X (subF f g k)) :=
  imS (ps_asg ha (pg_sub hb hc (set_item hu) (assign_sub hi _)) (sole_no ho _ _ _) (swapped_no ht _ _)) fun D σ H ⟨L, h, env, o, h', hr, er, e, post⟩ => by
  obtain ⟨v, h1, e1, e⟩ := R.bind_eq_ok e
  obtain ⟨env', h2, e2, e⟩ := R.bind_eq_ok e
  cases e
  obtain ⟨x, h3, e3, e2⟩ := R.bind_eq_ok e2
  obtain ⟨y, h4, e4, e2⟩ := R.bind_eq_ok e2
  split at e2
  · rename_i h5 hp
    cases e2
    refine ⟨L, h, env, v, h1, hr, er, e1, fun w L1 H1 x1 hr1 v1 => ⟨L1, h1, env, x, h3, hr1, er.mono x1, e3, fun w2 L2 H2 x2 hr2 v2 => ⟨L2, h3, env, y, h4, hr2, er.mono (x1.tr hr x2), e4, fun w3 L3 H3 x3 hr3 v3 => ?_⟩⟩⟩
    have xx := (x1.tr hr x2).tr hr x3
    exact ⟨L3, h4, x, y, v, h', hr3, v2.mono x3, v3, (v1.mono x2).mono x3, hp, fun L4 H4 x4 hr4 => post _ _ (xx.tr hr x4) hr4 σ (er.mono (xx.tr hr x4))⟩
  · cases e2
/-- a tuple of targets = e -/
def tgF (t : Tg) (f : Env → PHeap → R PV) : Env → PHeap → R Out := fun env h => (f env h).bind fun v h => (R.of (tgSet t v env) h).bind fun env h => .ok (.nx env) h
theorem ss_tg {t : Tg} {tge : Expr} (ha : PE X a (rE X f)) (hg : PG X tge (rG X t)) (ho : okNoComp a = true) (ht : okNoTup a = true) (h1 : (assignEach [tge] X.env).map (·.2) = [assign tge X.env]) : PS X (.Assign [tge] a pos) (rS X (tgF t f)) :=
  imS (ps_asg ha hg (sole_no ho _ _ _) (swapped_no ht _ _) h1) fun D σ H ⟨L, h, env, o, h', hr, er, e, post⟩ => by
  obtain ⟨v, h1, e1, e⟩ := R.bind_eq_ok e
  obtain ⟨env', e2, e⟩ := R.of_bind e
  cases e
  exact ⟨L, h, env, v, h', hr, er, e1, fun x L1 H1 x1 hr1 v1 => ⟨L1, h', env, v, env', hr1, er.mono x1, yr_of v1 e2, e2, fun σ' er' _ => post _ _ x1 hr1 σ' er'⟩⟩
/-! ### blocks, if, for, while -/
def seqF (f g : Env → PHeap → R Out) : Env → PHeap → R Out := fun env h => (f env h).bind fun o h => match o with
    | .nx env => g env h
    | o => .ok o h
theorem sss_nil : PSs X [] (rS X nxF) := imSs pss_nil fun D σ H ⟨L, h, env, o, h', hr, er, e, post⟩ => by
  cases e
  exact post _ _ Ext.refl hr σ er
theorem sss_cons (h1 : PS X st (rS X fs)) (h2 : PSs X rest (rS X gs)) : PSs X (st :: rest) (rS X (seqF fs gs)) := imSs (pss_cons h1 h2) fun D σ H ⟨L, h, env, o, h', hr, er, e, post⟩ => by
  obtain ⟨o1, h1, e1, e2⟩ := R.bind_eq_ok e
  refine ⟨L, h, env, o1, h1, hr, er, e1, fun L1 H1 x1 hr1 => ?_⟩
  cases o1 with
  | nx env1 => exact fun σ1 er1 => ⟨L1, h1, env1, o, h', hr1, er1, e2, post.aft hr x1⟩
  | bk e => cases e2; exact post _ _ x1 hr1
  | ct e => cases e2; exact post _ _ x1 hr1
  | rt v => cases e2; exact post _ _ x1 hr1
def ifF (t : Env → PHeap → R Bool) (f g : Env → PHeap → R Out) : Env → PHeap → R Out := fun env h => (t env h).bind fun t h => if t then f env h else g env h
theorem ss_if {ft : Env → PHeap → R Bool} {xs ys : List Stmt} (hc : PT X c (rT X ft)) (h1 : PSs X xs (rS X fs)) (h2 : PSs X ys (rS X gs)) : PS X (.If c xs ys pos) (rS X (ifF ft fs gs)) := imS (ps_if hc h1 h2) fun D σ H ⟨L, h, env, o, h', hr, er, e, post⟩ => by
  obtain ⟨t, h1, e1, e2⟩ := R.bind_eq_ok e
  refine ⟨L, h, env, t, h1, hr, er, e1, fun L1 H1 x1 hr1 => ?_⟩
  cases t with
  | true => exact ⟨L1, h1, env, o, h', hr1, er.mono x1, e2, post.aft hr x1⟩
  | false => exact ⟨L1, h1, env, o, h', hr1, er.mono x1, e2, post.aft hr x1⟩
def forF (fI : Env → PHeap → R (List PV × Chk)) (t : Tg) (fb : Env → PHeap → R Out) : Env → PHeap → R Out := fun env h => (fI env h).bind fun p h => forGo p.2 (tgSet t) fb p.1 env h
theorem ss_for {fl : Bool} {fI : Env → PHeap → R (List PV × Chk)} {t : Tg} {tge iter : Expr} {body : List Stmt} (hp : PassesOwn (model X.prog X.w) X.A X.env X.xe) (hc : X.calm = true) (hi : PI X tge iter (rI X fl fI)) (hfl : fl = true → isTp t = true) (hg : PG X tge (rG X t)) (hb : PSs X body (rS X fs))
    (hs : ∀ x, foldedSetIterable iter X.env x = pure x) : PS X (.For tge iter body [] pos) (rS X (forF fI t fs)) := imS (ps_for hp hc hi hg hb hs) fun D σ H ⟨L, h, env, o, h', hr, er, e, post⟩ => by
  obtain ⟨⟨xs, chk⟩, h1, e1, e2⟩ := R.bind_eq_ok e
  refine ⟨L, h, env, (xs, chk), h1, hr, er, e1, fun J L1 H1 x1 hr1 walk => ?_⟩
  refine ⟨fun i m σc Hc => m = xs.length - i ∧ i ≤ xs.length ∧ ∃ Lc gc ec, Ext L1 H1 Lc Hc ∧ HR (wd X) Lc gc Hc ∧ ER (wd X) Lc Hc ec σc ∧ forGo chk (tgSet t) fs (xs.drop i) ec gc = .ok o h',
    ⟨xs.length, rfl, Nat.zero_le _, L1, h1, env, Ext.refl, hr1, er.mono x1, e2⟩, ?_⟩
  rintro i m σc Hc ⟨rfl, hile, Lc, gc, ec, xc, hrc, erc, eq⟩
  by_cases hlt : i < xs.length
  · right
    obtain ⟨p, hp⟩ : ∃ p, xs[i]? = some p := ⟨xs[i], List.getElem?_eq_getElem hlt⟩
    have hdrop : xs.drop i = p :: xs.drop (i + 1) := by
      rw [List.drop_eq_getElem_cons hlt]
      have := List.getElem?_eq_some_iff.mp hp
      rw [this.2]
    rw [hdrop] at eq
    unfold forGo at eq
    split at eq
    · rename_i hck
      split at eq
      · rename_i env1 ht1
        obtain ⟨o1, g1, eb, eq2⟩ := R.bind_eq_ok eq
        obtain ⟨go, yl⟩ := (walk i Lc Hc gc xc hrc hck).2 p hp
        refine ⟨go, fun σ' H' => ∃ Lc gc ec, Ext L1 H1 Lc H' ∧ HR (wd X) Lc gc H' ∧ ER (wd X) Lc H' ec σ' ∧ forGo chk (tgSet t) fs (xs.drop (i + 1)) ec gc = .ok o h',
          fun σ' H' q => ⟨_, by omega, rfl, hlt, q⟩, fun x H' y => ?_⟩
        obtain ⟨xy, hry, yr⟩ := yl x H' y
        have xx := xc.tr hr1 xy
        refine ⟨Lc, gc, ec, p, env1, hry, erc.mono xy, yr_fix hfl yr ht1, ht1, fun σ' er' _ => ⟨Lc, gc, env1, o1, g1, hry, er', eb, fun L3 H3 x3 hr3 => ?_⟩⟩
        have xx3 := xx.tr hr1 x3
        cases o1 with
        | nx e' => exact fun σ3 er3 => ⟨L3, g1, e', xx3, hr3, er3, eq2⟩
        | ct e' => exact fun σ3 er3 => ⟨L3, g1, e', xx3, hr3, er3, eq2⟩
        | bk e' => cases eq2; exact post _ _ (x1.tr hr xx3) hr3
        | rt v => cases eq2; exact post _ _ (x1.tr hr xx3) hr3
      · cases eq
    · cases eq
  · left
    have hi2 : i = xs.length := by omega
    subst hi2
    rw [List.drop_length] at eq
    unfold forGo at eq
    split at eq
    · rename_i hck
      cases eq
      exact ⟨(walk _ Lc Hc h' xc hrc hck).1 rfl, post _ _ (x1.tr hr xc) hrc σc erc⟩
    · cases eq
theorem ss_while {ft : Env → PHeap → R Bool} {n : Nat} {body : List Stmt} (hp : PassesOwn (model X.prog X.w) X.A X.env X.xe) (hc : PT X c (rT X ft)) (hb : PSs X body (rS X fs)) : PS X (.While c body [] pos) (rS X (whileGo ft fs n)) := imS (ps_while hp hc hb) fun D σ H ⟨L, h, env, o, h', hr, er, e, post⟩ => by
  refine ⟨fun m σc Hc => ∃ Lc gc ec, Ext L H Lc Hc ∧ HR (wd X) Lc gc Hc ∧ ER (wd X) Lc Hc ec σc ∧ whileGo ft fs m ec gc = .ok o h', ⟨n, L, h, env, Ext.refl, hr, er, e⟩, ?_⟩
  rintro m σc Hc ⟨Lc, gc, ec, xc, hrc, erc, eq⟩
  cases m with
  | zero => cases eq
  | succ m =>
    unfold whileGo at eq
    obtain ⟨t, g1, e1, e2⟩ := R.bind_eq_ok eq
    refine ⟨Lc, gc, ec, t, g1, hrc, erc, e1, fun L1 H1 x1 hr1 => ?_⟩
    have xx := xc.tr hr x1
    cases t with
    | true =>
      simp only [if_true] at e2 ⊢
      obtain ⟨o1, g2, e3, e4⟩ := R.bind_eq_ok e2
      refine ⟨fun σ' H' => ∃ Lc gc ec, Ext L H Lc H' ∧ HR (wd X) Lc gc H' ∧ ER (wd X) Lc H' ec σ' ∧ whileGo ft fs m ec gc = .ok o h', fun σ' H' q => ⟨m, Nat.lt_succ_self m, q⟩, L1, g1, ec, o1, g2, hr1, erc.mono x1, e3, fun L3 H3 x3 hr3 => ?_⟩
      have xx3 := xx.tr hr x3
      cases o1 with
      | nx e' => exact fun σ3 er3 => ⟨L3, g2, e', xx3, hr3, er3, e4⟩
      | ct e' => exact fun σ3 er3 => ⟨L3, g2, e', xx3, hr3, er3, e4⟩
      | bk e' => cases e4; exact post _ _ xx3 hr3
      | rt v => cases e4; exact post _ _ xx3 hr3
    | false =>
      simp only [Bool.false_eq_true, if_false] at e2 ⊢
      cases e2
      exact post _ _ xx hr1 σc (erc.mono x1)
/-! ### several names at once -/
theorem ss_par2 {es : List Expr} {fa : Env → PHeap → R (List PV)} {i j : Nat} {x y : Str} {px py pt pt2 : Pos} {kt k2 : Nat} (hc : X.calm = true) (hN : X.N.Nodup) (hi : X.N[i]? = some x) (hj : X.N[j]? = some y) (hij : i ≠ j)
    (hx : X.env.scope.names.lookup x = some .local) (hy : X.env.scope.names.lookup y = some .local) (ha : PA X [a, b] (rA X fa)) (hw : swappedStores [.Tuple [.Name x px, .Name y py] kt pt] (.Tuple [a, b] k2 pt2) X.env = pure (some [x, y])) :
    PS X (.Assign [.Tuple [.Name x px, .Name y py] kt pt] (.Tuple [a, b] k2 pt2) pos) (rS X fun env h => (fa env h).bind fun vs h => match vs with
      | [v, w] => .ok (.nx ((env.set i (some v)).set j (some w))) h
      | _ => .bad) := imS (ps_par hc hN hi hj hij hx hy ha hw (sole_no rfl _ _ _)) fun D σ H ⟨L, h, env, o, h', hr, er, e, post⟩ => by
  obtain ⟨vs, h1, e1, e2⟩ := R.bind_eq_ok e
  split at e2
  · rename_i v w
    cases e2
    refine ⟨L, h, env, _, h', hr, er, e1, fun xs L1 H1 x1 hr1 v1 => ?_⟩
    cases v1 with
    | cons v1 v2 =>
      cases v2 with
      | cons v2 v3 =>
        cases v3
        exact ⟨_, _, rfl, post _ _ x1 hr1 _ (((er.mono x1).set v1).set v2)⟩
  · cases e2
theorem ss_par3 {es : List Expr} {fa : Env → PHeap → R (List PV)} {i j l : Nat} {x y z : Str} {px py pz pt pt2 : Pos} {kt k2 : Nat} (hc : X.calm = true) (hN : X.N.Nodup) (hi : X.N[i]? = some x) (hj : X.N[j]? = some y) (hl : X.N[l]? = some z) (hij : i ≠ j) (hil : i ≠ l) (hjl : j ≠ l)
    (hx : X.env.scope.names.lookup x = some .local) (hy : X.env.scope.names.lookup y = some .local) (hz : X.env.scope.names.lookup z = some .local) (ha : PA X [a, b, c] (rA X fa)) (hw : swappedStores [.Tuple [.Name x px, .Name y py, .Name z pz] kt pt] (.Tuple [a, b, c] k2 pt2) X.env = pure (some [x, y, z])) :
    PS X (.Assign [.Tuple [.Name x px, .Name y py, .Name z pz] kt pt] (.Tuple [a, b, c] k2 pt2) pos) (rS X fun env h => (fa env h).bind fun vs h => match vs with
      | [u, v, w] => .ok (.nx (((env.set i (some u)).set j (some v)).set l (some w))) h
      | _ => .bad) := imS (ps_par3 hc hN hi hj hl hij hil hjl hx hy hz ha hw (sole_no rfl _ _ _)) fun D σ H ⟨L, h, env, o, h', hr, er, e, post⟩ => by
  obtain ⟨vs, h1, e1, e2⟩ := R.bind_eq_ok e
  split at e2
  · rename_i u v w
    cases e2
    refine ⟨L, h, env, _, h', hr, er, e1, fun xs L1 H1 x1 hr1 v1 => ?_⟩
    cases v1 with
    | cons v1 v2 =>
      cases v2 with
      | cons v2 v3 =>
        cases v3 with
        | cons v3 v4 =>
          cases v4
          exact ⟨_, _, _, rfl, post _ _ x1 hr1 _ ((((er.mono x1).set v1).set v2).set v3)⟩
  · cases e2
/-! ### a dict that is walked -/
def lkS (it : II) (F : Env → PHeap → R Out) : Env → PHeap → R Out := fun env h => withLock (lockI it env h) (F env) h
theorem ss_lock {it : II} {F : Env → PHeap → R Out} (ps : PS X st (rS X F)) : PS X st (rS X (lkS it F)) := ⟨fun pins s σ H D I ⟨L, h, env, o, h', hr, er, eq, post⟩ => by
  unfold lkS at eq
  cases hl : lockI it env h with
  | none => rw [hl] at eq; exact ps.run pins s σ H D I ⟨L, h, env, o, h', hr, er, eq, post⟩
  | some n =>
    rw [hl] at eq
    obtain ⟨es, g, hc, e1, hg, rfl⟩ := withLock_ok eq
    obtain ⟨d, u, od, hn, hu, nf, hf, I1, hr1⟩ := lock_in I hr hc
    have hm := List.mem_of_getElem? hn
    have back : ∀ {σ1 : L2.St} {s1 : Shared} {L1 : List Addr} {H1 : Hp}, Inv X pins σ1 H1 s1 → Ext L (upd H d (.frz od u)) L1 H1 → HR (wd X) L1 g H1 → ∃ u', Inv X pins σ1 (upd H1 d u') s1 ∧ HR (wd X) L1 (g.set n (.dct es)) (upd H1 d u') ∧ Ext L H L1 (upd H1 d u') ∧ d ∈ L1 := fun {σ1 s1 L1 H1} I2 x1 hr2 => by
      obtain ⟨u', I3, hr3⟩ := lock_out I2 hr2 (x1.get hn) hf hg
      exact ⟨u', I3, hr3, ext_lock hm nf hu x1, List.mem_of_getElem? (x1.get hn)⟩
    let D' : Ends := ⟨fun σ1 H1 => ∃ L1 e, o = .nx e ∧ Ext L (upd H d (.frz od u)) L1 H1 ∧ HR (wd X) L1 g H1 ∧ ER (wd X) L1 H1 e σ1, fun x H1 => ∃ L1 v, o = .rt v ∧ Ext L (upd H d (.frz od u)) L1 H1 ∧ HR (wd X) L1 g H1 ∧ VR (wd X) L1 H1 v x,
      fun σ1 H1 => ∃ L1 e, o = .bk e ∧ Ext L (upd H d (.frz od u)) L1 H1 ∧ HR (wd X) L1 g H1 ∧ ER (wd X) L1 H1 e σ1, fun σ1 H1 => ∃ L1 e, o = .ct e ∧ Ext L (upd H d (.frz od u)) L1 H1 ∧ HR (wd X) L1 g H1 ∧ ER (wd X) L1 H1 e σ1⟩
    refine thn (ps.run pins s σ _ D' I1 ⟨L, _, env, o, g, hr1, er.away hm, e1, fun L1 H1 x1 hr1' => ?_⟩) fun fl s1 q => ?_
    · cases o with
      | nx e => exact fun σ1 er1 => ⟨L1, e, rfl, x1, hr1', er1⟩
      | bk e => exact fun σ1 er1 => ⟨L1, e, rfl, x1, hr1', er1⟩
      | ct e => exact fun σ1 er1 => ⟨L1, e, rfl, x1, hr1', er1⟩
      | rt v => exact fun x v1 => ⟨L1, v, rfl, x1, hr1', v1⟩
    · cases fl with
      | next =>
        obtain ⟨σ1, H1, I2, L1, e, rfl, x1, hr2, er2⟩ := q
        obtain ⟨u', I3, hr3, x2, hm2⟩ := back I2 x1 hr2
        exact ⟨σ1, _, I3, post _ _ x2 hr3 σ1 (er2.away hm2)⟩
      | brk =>
        obtain ⟨σ1, H1, I2, L1, e, rfl, x1, hr2, er2⟩ := q
        obtain ⟨u', I3, hr3, x2, hm2⟩ := back I2 x1 hr2
        exact ⟨σ1, _, I3, post _ _ x2 hr3 σ1 (er2.away hm2)⟩
      | cont =>
        obtain ⟨σ1, H1, I2, L1, e, rfl, x1, hr2, er2⟩ := q
        obtain ⟨u', I3, hr3, x2, hm2⟩ := back I2 x1 hr2
        exact ⟨σ1, _, I3, post _ _ x2 hr3 σ1 (er2.away hm2)⟩
      | ret w =>
        obtain ⟨x, σ1, H1, I2, rx, L1, v, rfl, x1, hr2, v2⟩ := q
        obtain ⟨u', I3, hr3, x2, hm2⟩ := back I2 x1 hr2
        exact ⟨x, σ1, _, I3, rx, post _ _ x2 hr3 x (v2.away hm2)⟩⟩
end
end HW
/-! HwT: dict comprehensions with any keys; comprehensions that are named. -/
namespace HW
open PySem PySem.Spec PyProof.Rows L2 C8

/-- d[k] = v within a comprehension, by values -/
abbrev TDs := Addr → V → V → Hp → (Hp → Prop) → Prop
def PDs (X : Cx) (ts : TDs) : Prop := ∀ (pins : List (Addr × Obj)) (s : Shared) (σ : L2.St) (H : Hp) (D : Addr) (y z : V) (u r : Value) (Q : Hp → Prop) (E : Value → Shared → Prop), Inv X pins σ H s → RelV y u → RelV z r → ts D y z H Q →
  wpAny (model X.prog X.w) X.A (dictSet D u r) (fun _ s' => ∃ H', Inv X pins σ H' s' ∧ Q H') E s
def tDcP (wi : TI) (g : TG) (tt : TT) (tk tv : TE) (ts : TDs) (vs : List Nat) : TE := fun σ H Q => wi σ H fun J H1 => ∀ D, H1 D = none → ∃ W : Nat → Nat → Hp → Prop, (∃ m, W 0 m (upd H1 D (.dK []))) ∧ ∀ i m H, W i m H →
  (J.stop i H ∧ Q (.ref D) H) ∨ (J.go i H ∧ ∃ Nx : Hp → Prop, (∀ H', Nx H' → ∃ m', m' < m ∧ W (i + 1) m' H') ∧ ∀ x H', J.yld i H x H' → g x (wipe σ vs) H' fun σ2 H2 => wipe σ2 vs = wipe σ vs ∧ tt σ2 H2 fun b H3 =>
    if b = true then tk σ2 H3 fun y H4 => tv σ2 H4 fun z H5 => ts D y z H5 Nx else Nx H3)
section
variable {X : Cx}
theorem dcP_core {pins : List (Addr × Obj)} {s : Shared} {σ : L2.St} {H : Hp} {Q : VK} {kx vx tg iter : Expr} {ifs : List Expr} {sco : Scope} {ow : List (Str × Nat)} {pos pos' : Pos} {wi : TI} {g : TG} {tt : TT} {tk tv : TE} {ts : TDs} {use : Option (Value → PySem.Sem Unit)} {Qf : Value → Shared → Prop}
    (hc : X.calm = true) (hN : X.N.Nodup) (I : Inv X pins σ H s) (hi : PI X tg iter wi) (ok : BlkOk X.N X.env.scope sco ow)
    (hg : ∀ (s : Shared) (H : Hp) (C : Addr) (cl : List (Str × Addr)) (fq : List Addr), PG (X.blk s H sco (compEnvC sco cl C X.env) fq) tg g) (ht : ∀ (s : Shared) (H : Hp) (C : Addr) (cl : List (Str × Addr)) (fq : List Addr), PTs (X.blk s H sco (compEnvC sco cl C X.env) fq) ifs tt)
    (hk : ∀ (s : Shared) (H : Hp) (C : Addr) (cl : List (Str × Addr)) (fq : List Addr), PE (X.blk s H sco (compEnvC sco cl C X.env) fq) kx tk)
    (he : ∀ (s : Shared) (H : Hp) (C : Addr) (cl : List (Str × Addr)) (fq : List Addr), PE (X.blk s H sco (compEnvC sco cl C X.env) fq) vx tv) (hs : ∀ x, foldedSetIterable iter X.env x = pure x)
    (hstep : ∀ (s : Shared) (H : Hp) (C : Addr) (cl : List (Str × Addr)) (fq : List Addr), PDs (X.blk s H sco (compEnvC sco cl C X.env) fq) ts)
    (h : tDcP wi g tt tk tv ts (ow.map (·.2)) σ H Q)
    (hEnd : ∀ N0 C s' m H', Inv X pins σ H' s' → Q (.ref N0) H' → s'.heap.Ns C m → FpOk X pins H' C → compPost (model X.prog X.w) X.A X.xe use Qf (.ref N0) C (.ok .next) s') :
    wpAny (model X.prog X.w) X.A (comprehension (.DictComp kx vx [⟨tg, iter, ifs, 0⟩] sco pos) sco X.env pos' newDict false (eval iter X.env) use) Qf X.xe s := by
  have hfr : ∀ y ∈ sco.names, y.2 = .free → ∃ c, X.env.cells.lookup y.1 = some c := fun y hy e => by
    rcases ok.free y hy e with k | k
    · exact I.ok.has _ (.inl k)
    · exact I.ok.has _ (.inr k)
  refine wpAny_comprehension_free (use := use) rfl hs (closure_ok hfr) ok.kind (fun y hy e => by rw [ok.uniq y hy, e])
    (thn (hi.run pins s σ H _ I h) fun xv z1 hx => thn hx fun itv z2 h2 => ?_)
  obtain ⟨itr, fq, tn, J, G2, e, J2, Tn, ut2, e2_, q⟩ := h2
  subst e
  refine wpAny_newObj_type (newEnv_comp ?_)
  generalize hN0 : z2.heap.objs.size = N0
  have hNn : G2 N0 = none := J2.hok.fresh (Nat.le_of_eq hN0)
  obtain ⟨Wn, ⟨k0, v0⟩, turns⟩ := q N0 hNn
  -- the new list
  generalize ht3 : ({ z2 with heap := z2.heap.push { cls := .type "dict", data := .dict #[] } } : Shared) = z3
  have J3 : Inv X pins σ (upd G2 N0 (.dK [])) z3 := by
    rw [← ht3]
    refine J2.laid (t' := z2.toks) (fun b o e => Heap.get?_push_of_some _ e) (Nat.le_of_eq hN0) ?_
    rw [← hN0]
    exact dk_empty z2.heap J2.big
  have k3 : z3.heap = z2.heap.push { cls := .type "dict", data := .dict #[] } := by rw [← ht3]
  have szs : ∀ b ∈ fq, b < z2.heap.objs.size := fun b hb => by
    obtain ⟨o, e, _⟩ := Tn.obj _ _ ut2 b hb
    exact Heap.lt_size e
  have e3_ : ∀ b ∈ fq, FpOk X pins (upd G2 N0 (.dK [])) b ∧ b < z3.heap.objs.size := fun b hb => by
    have hlt := szs b hb
    refine ⟨⟨?_, (e2_ b hb).2⟩, by rw [k3, Heap.size_push]; exact Nat.lt_succ_of_lt hlt⟩
    rw [upd_ne (by rw [← hN0]; exact Nat.ne_of_lt hlt)]
    exact (e2_ b hb).1
  have ut3 : tn 0 z3.heap := Tn.keep _ _ _ ut2 fun b _ o e => by rw [k3]; exact Heap.get?_push_of_some _ e
  have J4 := block_start J3 ok hN e3_
  have pg := hg z3 (upd G2 N0 (.dK [])) z3.heap.objs.size (cellsFrom (z3.heap.objs.size + 1) sco.names (cloFrom X.env.cells sco.names [])) fq
  have pt := ht z3 (upd G2 N0 (.dK [])) z3.heap.objs.size (cellsFrom (z3.heap.objs.size + 1) sco.names (cloFrom X.env.cells sco.names [])) fq
  have pk := hk z3 (upd G2 N0 (.dK [])) z3.heap.objs.size (cellsFrom (z3.heap.objs.size + 1) sco.names (cloFrom X.env.cells sco.names [])) fq
  have pd := hstep z3 (upd G2 N0 (.dK [])) z3.heap.objs.size (cellsFrom (z3.heap.objs.size + 1) sco.names (cloFrom X.env.cells sco.names [])) fq
  have pe := he z3 (upd G2 N0 (.dK [])) z3.heap.objs.size (cellsFrom (z3.heap.objs.size + 1) sco.names (cloFrom X.env.cells sco.names [])) fq
  show codeAny _ _ (.compStart (.DictComp kx vx [⟨tg, iter, ifs, 0⟩] sco pos) 0 (.ref itr) (.ref N0) (compEnvC sco (cellsFrom (z3.heap.objs.size + 1) sco.names (cloFrom X.env.cells sco.names [])) z3.heap.objs.size X.env)) (compPost (model X.prog X.w) X.A X.xe use Qf (.ref N0) z3.heap.objs.size) { z3 with heap := pushCells (z3.heap.push { cls := .type "dict", data := .dict #[] }) sco.names }
  have nfq : ∀ b ∈ fq, (upd G2 N0 (.dK [])) b = none := fun b hb => (e3_ b hb).1.1
  generalize hbe : compEnvC sco (cellsFrom (z3.heap.objs.size + 1) sco.names (cloFrom X.env.cells sco.names [])) z3.heap.objs.size X.env = be at J4 pg pt pk pd pe ⊢
  have bL : be.locals = z3.heap.objs.size := by subst hbe; rfl
  generalize hG3 : upd G2 N0 (.dK []) = G3 at J3 J4 pg pt pk pd pe v0 nfq e3_
  generalize ht4 : ({ z3 with heap := pushCells (z3.heap.push { cls := .type "dict", data := .dict #[] }) sco.names } : Shared) = z4 at J4 ⊢
  have ut4 : tn 0 z4.heap := Tn.keep _ _ _ ut3 fun b _ o e => by rw [← ht4]; exact pushCells_keeps _ _ _ _ (Heap.get?_push_of_some _ e)
  have stays : ∀ {σ' : L2.St} {H' : Hp} {s' : Shared}, Inv (X.blk z3 G3 sco be fq) [] σ' H' s' → (∀ b ∈ fq, H' b = none) → ∀ b ∈ fq, FpOk (X.blk z3 G3 sco be fq) [] H' b := fun {σ' H' s'} I' hn b hb =>
    ⟨hn b hb, (I'.ok.exf b hb).1, I'.ok.exfs b hb, .inl hb, fun x c e => (I'.ok.exf b hb).2 x c e, fun p hp => absurd (show p ∈ ([] : List (Addr × Obj)) ++ [] from hp) (by simp)⟩
  have goes : codeAny (model X.prog X.w) X.A (.compLoop (.DictComp kx vx [⟨tg, iter, ifs, 0⟩] sco pos) 0 (.ref itr) (.ref N0) be) (compPost (model X.prog X.w) X.A X.xe use Qf (.ref N0) z3.heap.objs.size) z4 := by
    refine compLoop_anyD (fun n s' => ∃ i H', Inv (X.blk z3 G3 sco be fq) [] (wipe σ (ow.map (·.2))) H' s' ∧ tn i s'.heap ∧ (∀ b ∈ fq, H' b = none) ∧ Wn i n H') ?_ k0 ⟨0, G3, J4, ut4, nfq, v0⟩
    rintro n z5 ⟨i, G5, J5, ut5, n5, w5⟩
    rcases turns i n G5 w5 with ⟨stop, qq⟩ | ⟨go, Ny, hNy, step⟩
    · have td := Tn.done (X.blk z3 G3 sco be fq) rfl rfl rfl hc i [] z5 _ G5 (fun _ _ => False) J5 (stays J5 n5) ut5 stop
      refine thnF td fun r z6 ⟨hr, J6⟩ => ?_
      subst hr
      -- back in the def's context
      have J7 : Inv X pins σ G5 z6 := J3.call' (ch := fq) J6.os J6.base J6.hok J6.bare fun b hb => ⟨(e3_ b hb).1.2.2.2.1, (e3_ b hb).1.2.1, (e3_ b hb).1.2.2.2.2.1, (e3_ b hb).1.2.2.2.2.2⟩
      have nC : G5 z3.heap.objs.size = none := by
        have zz : G5 be.locals = none := J6.free
        rw [bL] at zz
        exact zz
      obtain ⟨m, hn, _⟩ := J6.loc
      have hn : z6.heap.Ns be.locals m := hn
      rw [bL] at hn
      exact hEnd N0 z3.heap.objs.size z6 m G5 J7 qq hn (J3.fpOk (Nat.le_refl _) nC)
    · have ti := Tn.item (X.blk z3 G3 sco be fq) rfl rfl rfl hc i [] z5 _ G5 (fun _ _ => False) J5 (stays J5 n5) ut5 go
      refine thnF ti fun r z6 ⟨u, hr, h6⟩ => ?_
      subst hr
      refine thnF h6 fun _ z7 ⟨x, G7, J7, r7, y7, ut7, n7⟩ => ?_
      have I7' := J7.pinned (stays J7 n7) (Tn.obj _ _ ut7)
      refine thnF (pg.run _ z7 _ G7 x u _ I7' r7 (step x G7 y7)) fun _ z8 ⟨σ8, G8, J8, hw8, q8⟩ => ?_
      refine thnF (pt.run _ z8 σ8 G8 _ J8 q8) fun b z9 ⟨G9, J9, q9⟩ => ?_
      -- the turn's end
      have ends : ∀ {s' : Shared} {H' : Hp}, Inv (X.blk z3 G3 sco be fq) ([] ++ pinsAt fq z7.heap) σ8 H' s' → Ny H' → ∃ m, m < n ∧ ∃ i H', Inv (X.blk z3 G3 sco be fq) [] (wipe σ (ow.map (·.2))) H' s' ∧ tn i s'.heap ∧ (∀ b ∈ fq, H' b = none) ∧ Wn i m H' := fun {s' H'} I' nx => by
        obtain ⟨m', hm, w'⟩ := hNy H' nx
        have pinned' : ∀ b ∈ fq, ∀ o, z7.heap.get? b = some o → s'.heap.get? b = some o ∧ H' b = none := fun b hb o e =>
          let zz := I'.pin (b, o) (List.mem_append_right _ (List.mem_append_right _ (mem_pinsAt hb e)))
          ⟨zz.1, zz.2.1⟩
        have hl : (wipe σ (ow.map (·.2))).length = σ8.length := by rw [← hw8, wipe_length]
        refine ⟨m', hm, i + 1, H', (I'.unpinned (pins := [])).weak hl (fun j v e => ?_), Tn.keep _ _ _ ut7 fun b hb o e => (pinned' b hb o e).1, fun b hb => ?_, w'⟩
        · rw [← hw8] at e
          exact (wipe_some e).1
        · obtain ⟨o, e, _⟩ := Tn.obj _ _ ut7 b hb
          exact (pinned' b hb o e).2
      cases b with
      | false =>
        simp only [Bool.false_eq_true, if_false] at q9 ⊢
        exact ends J9 q9
      | true =>
        simp only [if_true] at q9 ⊢
        refine thnF (pk.run _ z9 σ8 G9 _ J9 q9) fun zz z10 ⟨yk, G10, J10, r10, q10⟩ => ?_
        refine thnF (pe.run _ z10 σ8 G10 _ J10 q10) fun zw z11 ⟨yv, G11, J11, r11, nx⟩ => ?_
        exact thnF (pd _ z11 σ8 G11 N0 yk yv zz zw _ (fun _ _ => False) J11 r10 r11 nx) fun _ z12 ⟨G12, J12, n12⟩ => ends J12 n12
  exact codeAny_compStart_dict goes (Tn.self X.A 0 _ _ _ ut4 goes)

theorem pe_dcP {kx vx tg iter : Expr} {ifs : List Expr} {sco : Scope} {ow : List (Str × Nat)} {pos : Pos} {wi : TI} {g : TG} {tt : TT} {tk tv : TE} {ts : TDs} (hc : X.calm = true) (hN : X.N.Nodup) (hi : PI X tg iter wi) (ok : BlkOk X.N X.env.scope sco ow)
    (hg : ∀ (s : Shared) (H : Hp) (C : Addr) (cl : List (Str × Addr)) (fq : List Addr), PG (X.blk s H sco (compEnvC sco cl C X.env) fq) tg g) (ht : ∀ (s : Shared) (H : Hp) (C : Addr) (cl : List (Str × Addr)) (fq : List Addr), PTs (X.blk s H sco (compEnvC sco cl C X.env) fq) ifs tt)
    (hk : ∀ (s : Shared) (H : Hp) (C : Addr) (cl : List (Str × Addr)) (fq : List Addr), PE (X.blk s H sco (compEnvC sco cl C X.env) fq) kx tk)
    (he : ∀ (s : Shared) (H : Hp) (C : Addr) (cl : List (Str × Addr)) (fq : List Addr), PE (X.blk s H sco (compEnvC sco cl C X.env) fq) vx tv) (hs : ∀ x, foldedSetIterable iter X.env x = pure x)
    (hstep : ∀ (s : Shared) (H : Hp) (C : Addr) (cl : List (Str × Addr)) (fq : List Addr), PDs (X.blk s H sco (compEnvC sco cl C X.env) fq) ts) :
    PE X (.DictComp kx vx [⟨tg, iter, ifs, 0⟩] sco pos) (tDcP wi g tt tk tv ts (ow.map (·.2))) := ⟨fun pins s σ H Q I h => by
  rw [arm_eval_DictComp]
  refine dcP_core hc hN I hi ok hg ht hk he hs hstep h fun N0 C s' m H' J q hn f => ⟨m, hn, fun h'' sb => ?_⟩
  exact ⟨.ref N0, H', J.turned (t' := s'.toks) (fun b o hb e => (sb.2 b hb).trans e) f.1 f.2.1 f.2.2.2.1 f.2.2.2.2.1 f.2.2.2.2.2, rfl, q⟩⟩
/-- name = {..} on one line *)-/
theorem ps_setDcP {i : Nat} {y : Str} {py : Pos} {kx vx tg iter : Expr} {ifs : List Expr} {sco : Scope} {ow : List (Str × Nat)} {pos spos : Pos} {wi : TI} {g : TG} {tt : TT} {tk tv : TE} {ts : TDs} (hc : X.calm = true) (hN : X.N.Nodup) (hy : X.N[i]? = some y) (hyl : X.env.scope.names.lookup y = some .local)
    (hsw : swapsWith (.DictComp kx vx [⟨tg, iter, ifs, 0⟩] sco pos) (some (.Name y py)) spos.line X.env = pure true) (hi : PI X tg iter wi) (ok : BlkOk X.N X.env.scope sco ow)
    (hg : ∀ (s : Shared) (H : Hp) (C : Addr) (cl : List (Str × Addr)) (fq : List Addr), PG (X.blk s H sco (compEnvC sco cl C X.env) fq) tg g) (ht : ∀ (s : Shared) (H : Hp) (C : Addr) (cl : List (Str × Addr)) (fq : List Addr), PTs (X.blk s H sco (compEnvC sco cl C X.env) fq) ifs tt)
    (hk : ∀ (s : Shared) (H : Hp) (C : Addr) (cl : List (Str × Addr)) (fq : List Addr), PE (X.blk s H sco (compEnvC sco cl C X.env) fq) kx tk)
    (he : ∀ (s : Shared) (H : Hp) (C : Addr) (cl : List (Str × Addr)) (fq : List Addr), PE (X.blk s H sco (compEnvC sco cl C X.env) fq) vx tv) (hs : ∀ x, foldedSetIterable iter X.env x = pure x)
    (hstep : ∀ (s : Shared) (H : Hp) (C : Addr) (cl : List (Str × Addr)) (fq : List Addr), PDs (X.blk s H sco (compEnvC sco cl C X.env) fq) ts) :
    PS X (.Assign [.Name y py] (.DictComp kx vx [⟨tg, iter, ifs, 0⟩] sco pos) spos) (tAsg (tDcP wi g tt tk tv ts (ow.map (·.2))) (gName i)) := ⟨fun pins s σ H D I h => by
  rw [exec_Assign_Name_used _ _ _ _ hsw]
  refine wpAny_bind (wpAny_standAt (wpAny_bind ?_))
  show wpAny _ X.A (do let _ ← comprehension (.DictComp kx vx [⟨tg, iter, ifs, 0⟩] sco pos) sco X.env (firstIterPos [⟨tg, iter, ifs, 0⟩] pos) newDict false (eval iter X.env) (some (assign (.Name y py) X.env))) _ _ s
  have hq : tDcP wi g tt tk tv ts (ow.map (·.2)) σ H (fun x H1 => gName i x σ H1 D.nx) := h
  refine wpAny_bind (thn (dcP_core (Qf := fun _ s' => SP X pins D .next s') hc hN I hi ok hg ht hk he hs hstep hq fun N0 C s' m H' J q hn f => ?_) fun _ s' hq => wpAny_pure (wpAny_pure hq))
  show wpAny _ _ (assign (.Name y py) X.env (.ref N0)) _ _ _
  refine wpAny_assign_Name (store_ok2 (v := V.ref N0) J hN hy (.inl hyl) rfl (fun z2 J2 ⟨a, sb, ha⟩ => ?_) (.inr hyl))
  have apart : C ≠ a := by
    rcases ha with z | z
    · rw [z]; exact f.2.1
    · exact fun e => f.2.2.2.2.1 y a z e.symm
  refine ⟨m, hn.sameBut sb apart, fun h3 sb3 => ?_⟩
  exact ⟨_, H', J2.turned (t' := z2.toks) (fun b o hb e => (sb3.2 b hb).trans e) f.1 f.2.1 f.2.2.2.1 f.2.2.2.2.1 f.2.2.2.2.2, q⟩⟩
/-- d[k] = v, by the evaluator -/
def rDset (X : Cx) : TDs := fun D y z H Q => ∃ L es p q, DX (wd X) L H D es ∧ VR (wd X) L H p y ∧ VR (wd X) L H q z ∧ keyOk es p = true ∧ es.length < LIM ∧
  ∀ o, (∀ (L' : List Addr) (H' : Hp), (∀ p x, VR (wd X) L H p x → VR (wd X) L' H' p x) → H' D = some o → DX (wd X) L' H' D (dPut es p q)) → Q (upd H D o)
theorem pds_ok (hu : Um X) : PDs X (rDset X) := fun pins s σ H D y z u r Q E I ry rz ⟨L, es, p, q, d, vp, vq, ok, hl, post⟩ => by
  rw [lim] at hl
  rcases dict_case (W := fun u => H D = some u) I (fun _ => .inl) d ok vp ry with ⟨kvs, k, ha, hp, rfl, rfl⟩ | ⟨xs, ys, k, b, hp, hy, h1, h2, h3, h4, h5, h6, rfl, rfl, h7⟩
  · refine d_dictSet I ha (by rw [← Paired.length hp]; exact hl) ry rz fun s' I' => ⟨_, I', post _ fun L' H' up e => DP.ofK e ?_⟩
    exact Paired.mapP (hp.put k vq) fun a b ⟨q1, q2⟩ => ⟨q1, up _ _ q2⟩
  · have hxl : xs.length < sizeLine := by rw [← Paired.length hp]; exact hl
    have hz : ys.length ≤ sizeLine := by rw [← Paired.length hy]; omega
    have room : (nestedKind X.prog X.w).room X.A := by
      show X.A.units + 8 < cLine
      have : X.A.units + 100 < cLine := hu
      omega
    refine wpAny_dictSet_heap (hsz := hz) room h6 h3 fun h' dd' hs => ?_
    have hxl2 := storedT_len xs k b z
    refine ⟨upd H D (dictB X.prog X.w D (storedT xs k b z)), ?_, post _ fun L' H' up e => DP.ofT e (dPut_ne _ _ _) ?_⟩
    · exact d_write I (mut_of h7) hs (let ⟨q, _, _, hq, _⟩ := dd'; ⟨q, hq⟩) (dictB_ok (stored_ys hy k b rz) (by omega) h2 dd')
    · exact Paired.mapP (hp.put h4 h5 vp vq) fun a b ⟨q1, q2, q3, q4⟩ => ⟨q1, q2, up _ _ q3, up _ _ q4⟩
/-- the dict at D is ready -/
theorem made_epD {pins : List (Addr × Obj)} {σ : L2.St} {s : Shared} {H H' : Hp} {L L2 : List Addr} {h h' : PHeap} {al : Bool} {es : List (PV × PV)} {r : PV} {D : Addr} {Q : VK} (I : Inv X pins σ H' s) (d : DX (wd X) L2 H' D es) (hn : D ∉ L2) (h0 : H D = none) (ex : Ext L H L2 H') (hr : HR (wd X) L2 h H')
    (e : mkDict al es h = .ok r h') (post : Post (wd X) L H r h' Q) : EP X pins σ Q (.ref D) s := by
  obtain ⟨u, hu, mu, mk, hf⟩ := dx_mut d
  unfold mkDict at e
  cases al with
  | false =>
    simp only [Bool.false_eq_true, if_false, R.ok.injEq] at e
    obtain ⟨rfl, rfl⟩ := e
    obtain ⟨od, I1⟩ := I.lock hu mu
    refine ⟨.ref D, _, I1, rfl, post _ _ _ (ex.touch h0) (hr.touch hn hf) ?_⟩
    have := DP.map (mk (FzAt (upd H' D (.frz od u)) D) ⟨od, upd_same⟩) (L' := L2) (H' := upd H' D (.frz od u)) (fun _ _ => VRs.agr (agr_upd hf)) fun _ x => x
    cases this with
    | k h1 h2 h3 => exact .dctK h1 hn h2 h3
    | t h1 h0 h2 h3 h4 h5 => exact .dctT h1 hn h0 h2 h3 h4 h5
  | true =>
    simp only [if_true, R.ok.injEq] at e
    obtain ⟨rfl, rfl⟩ := e
    refine ⟨.ref D, _, I, rfl, post _ _ _ (ex.grow h0) (hr.grow hn hf (DP.map d (fun _ _ => VRs.grow hf) fun _ x => x)) (.ref ?_)⟩
    rw [← hr.len]
    simp
def dcompF (al : Bool) (fI : Env → PHeap → R (List PV × Chk)) (tg : Tg) (fT : Env → PHeap → R Bool) (fK fV : Env → PHeap → R PV) (vs : List Nat) : Env → PHeap → R PV := fun env h => (fI env h).bind fun p h =>
  (dcompGo p.2 (tgSet tg) fT fK fV (wipeE env vs) p.1 h []).bind fun acc h => mkDict al acc h
section
variable {al fl : Bool} {fI : Env → PHeap → R (List PV × Chk)} {tg : Tg} {fT : Env → PHeap → R Bool} {fE fK fV : Env → PHeap → R PV} {vs : List Nat} {σ : L2.St} {H : Hp} {Q : VK}
theorem dcomp_core (hown : ∀ i ∈ tgIx tg, i ∈ vs) (hfl : fl = true → isTp tg = true) : rE X (dcompF al fI tg fT fK fV vs) σ H Q → ∃ Q' : VK, (∀ Q'' : VK, (∀ x H', Q' x H' → Q'' x H') → tDcP (rI X fl fI) (rG X tg) (rT X fT) (rE X fK) (rE X fV) (rDset X) vs σ H Q'') ∧ (∀ x H', Q' x H' → ∃ D, x = .ref D) ∧
    ∀ pins σ1 s u, EP X pins σ1 Q' u s → EP X pins σ1 Q u s := fun ⟨L, h, env, v, h', hr, er, e, post⟩ => by
  obtain ⟨⟨xs, chk⟩, h1, e1, e⟩ := R.bind_eq_ok e
  obtain ⟨accF, h2, e2, e3⟩ := R.bind_eq_ok e
  refine ⟨fun x H' => ∃ D L2, x = .ref D ∧ DX (wd X) L2 H' D accF ∧ D ∉ L2 ∧ H D = none ∧ Ext L H L2 H' ∧ HR (wd X) L2 h2 H', fun Q'' hQ => ?_, fun x H' ⟨D, _, e, _⟩ => ⟨D, e⟩, fun pins σ1 s u ⟨x, H', I, rx, D, L2, q1, q2, q3, q4, q5, q6⟩ => ?_⟩
  · refine ⟨L, h, env, (xs, chk), h1, hr, er, e1, fun J L1 H1 x1 hr1 walk D hD => ?_⟩
    have hD0 : H D = none := by
      cases hh : H D with
      | none => rfl
      | some o => exact absurd hD (x1.dom D (by rw [hh]; simp))
    have er1 := (er.mono x1).wipe vs
    refine ⟨fun i m Hc => m = xs.length - i ∧ i ≤ xs.length ∧ ∃ Lc gc acc, Ext L1 H1 Lc Hc ∧ DX (wd X) Lc Hc D acc ∧ D ∉ Lc ∧ HR (wd X) Lc gc Hc ∧ dcompGo chk (tgSet tg) fT fK fV (wipeE env vs) (xs.drop i) gc acc = .ok accF h2,
      ⟨xs.length, rfl, Nat.zero_le _, L1, h1, [], ext_new hD, DP.ofK upd_same .nil, hr1.free hD, hr1.new hD, e2⟩, ?_⟩
    rintro i m Hc ⟨rfl, hile, Lc, gc, acc, xc, dc, hnc, hrc, ec⟩
    obtain ⟨uc, hDc, _, _, _⟩ := dx_mut dc
    by_cases hlt : i < xs.length
    · right
      obtain ⟨p, hp⟩ : ∃ p, xs[i]? = some p := ⟨xs[i], List.getElem?_eq_getElem hlt⟩
      have hdrop : xs.drop i = p :: xs.drop (i + 1) := by
        rw [List.drop_eq_getElem_cons hlt]
        have := List.getElem?_eq_some_iff.mp hp
        rw [this.2]
      rw [hdrop] at ec
      unfold dcompGo at ec
      split at ec
      · rename_i hck
        split at ec
        · rename_i env1 ht1
          obtain ⟨b, g1, ec1, ec2⟩ := R.bind_eq_ok ec
          obtain ⟨go, yl⟩ := (walk i Lc Hc gc xc hrc hck).2 p hp
          refine ⟨go, fun H' => ∃ Lc gc acc, Ext L1 H1 Lc H' ∧ DX (wd X) Lc H' D acc ∧ D ∉ Lc ∧ HR (wd X) Lc gc H' ∧ dcompGo chk (tgSet tg) fT fK fV (wipeE env vs) (xs.drop (i + 1)) gc acc = .ok accF h2,
            fun H' q => ⟨_, by omega, rfl, hlt, q⟩, fun x H' y => ?_⟩
          obtain ⟨xy, hry, yr⟩ := yl x H' y
          have xx := xc.tr hr1 xy
          have hD' := xy.keep D _ hnc hDc
          have dy := DP.mono xy (W' := fun u => H' D = some u) (fun u hu => xy.keep D u hnc hu) dc
          refine ⟨Lc, gc, _, p, env1, hry, er1.mono xx, yr_fix hfl yr ht1, ht1, fun σ' er' w => ⟨(w _ hown).trans (wipe_wipe _ _), Lc, gc, env1, b, g1, hry, er', ec1, fun L3 H3 x3 hr3 => ?_⟩⟩
          have xx3 := xx.tr hr1 x3
          have hD3 := x3.keep D _ hnc hD'
          have hn3 := x3.mem hnc hD'
          have d3 := DP.mono x3 (W' := fun u => H3 D = some u) (fun u hu => x3.keep D u hnc hu) dy
          cases b with
          | true =>
            simp only [if_true] at ec2 ⊢
            obtain ⟨k', g2, ec3, ec4⟩ := R.bind_eq_ok ec2
            obtain ⟨v', g3, ec5, ec6⟩ := R.bind_eq_ok ec4
            split at ec6
            · rename_i hck2
              rw [Bool.and_eq_true, decide_eq_true_eq] at hck2
              refine ⟨L3, g1, env1, k', g2, hr3, er'.mono x3, ec3, fun w1 L4 H4 x4 hr4 v4 => ⟨L4, g2, env1, v', g3, hr4, er'.mono (x3.tr hry x4), ec5, fun w2 L5 H5 x5 hr5 v5 => ?_⟩⟩
              have hD4 := x4.keep D _ hn3 hD3
              have hn4 := x4.mem hn3 hD3
              have hn5 := x5.mem hn4 hD4
              have d4 := DP.mono x4 (W' := fun u => H4 D = some u) (fun u hu => x4.keep D u hn3 hu) d3
              have d5 := DP.mono x5 (W' := fun u => H5 D = some u) (fun u hu => x5.keep D u hn4 hu) d4
              have hf5 := nf_dx d5
              refine ⟨L5, acc, k', v', d5, v4.mono x5, v5, hck2.1, hck2.2, fun o mk => ?_⟩
              exact ⟨L5, g3, dPut acc k' v', ((xx3.tr hr1 x4).tr hr1 x5).touch hD, mk L5 _ (fun _ _ => VR.agr (agr_upd hf5)) upd_same, hn5, hr5.touch hn5 hf5, ec6⟩
            · cases ec6
          | false =>
            simp only [Bool.false_eq_true, if_false] at ec2 ⊢
            exact ⟨L3, g1, acc, xx3, d3, hn3, hr3, ec2⟩
        · cases ec
      · cases ec
    · left
      have hi2 : i = xs.length := by omega
      subst hi2
      rw [List.drop_length] at ec
      unfold dcompGo at ec
      split at ec
      · rename_i hck
        cases ec
        exact ⟨(walk _ Lc Hc h2 xc hrc hck).1 rfl, hQ _ _ ⟨D, Lc, rfl, dc, hnc, hD0, x1.tr hr xc, hrc⟩⟩
      · cases ec
  · subst q1
    cases rx
    exact made_epD I q2 q3 q4 q5 q6 e3 post
theorem comp_core (hown : ∀ i ∈ tgIx tg, i ∈ vs) (hfl : fl = true → isTp tg = true) : rE X (compF al fI tg fT fE vs) σ H Q → ∃ Q' : VK, (∀ Q'' : VK, (∀ x H', Q' x H' → Q'' x H') → tLc (rI X fl fI) (rG X tg) (rT X fT) (rE X fE) vs σ H Q'') ∧ (∀ x H', Q' x H' → ∃ D, x = .ref D) ∧
    ∀ pins σ1 s u, EP X pins σ1 Q' u s → EP X pins σ1 Q u s := fun ⟨L, h, env, v, h', hr, er, e, post⟩ => by
  obtain ⟨⟨xs, chk⟩, h1, e1, e⟩ := R.bind_eq_ok e
  obtain ⟨accF, h2, e2, e3⟩ := R.bind_eq_ok e
  refine ⟨fun x H' => ∃ D L2 us, x = .ref D ∧ H' D = some (.lst us) ∧ D ∉ L2 ∧ H D = none ∧ Ext L H L2 H' ∧ HR (wd X) L2 h2 H' ∧ VRs (wd X) L2 H' accF us, fun Q'' hQ => ?_, fun x H' ⟨D, _, _, e, _⟩ => ⟨D, e⟩, fun pins σ1 s u ⟨x, H', I, rx, D, L2, us, q1, q2, q3, q4, q5, q6, q7⟩ => ?_⟩
  · refine ⟨L, h, env, (xs, chk), h1, hr, er, e1, fun J L1 H1 x1 hr1 walk D hD => ?_⟩
    have hD0 : H D = none := by
      cases hh : H D with
      | none => rfl
      | some o => exact absurd hD (x1.dom D (by rw [hh]; simp))
    have er1 := (er.mono x1).wipe vs
    refine ⟨fun i m Hc => m = xs.length - i ∧ i ≤ xs.length ∧ ∃ Lc gc acc accV, Ext L1 H1 Lc Hc ∧ Hc D = some (.lst accV) ∧ D ∉ Lc ∧ HR (wd X) Lc gc Hc ∧ VRs (wd X) Lc Hc acc accV ∧ compGo chk (tgSet tg) fT fE (wipeE env vs) (xs.drop i) gc acc = .ok accF h2,
      ⟨xs.length, rfl, Nat.zero_le _, L1, h1, [], [], ext_new hD, upd_same, hr1.free hD, hr1.new hD, .nil, e2⟩, ?_⟩
    rintro i m Hc ⟨rfl, hile, Lc, gc, acc, accV, xc, hDc, hnc, hrc, vc, ec⟩
    by_cases hlt : i < xs.length
    · right
      obtain ⟨p, hp⟩ : ∃ p, xs[i]? = some p := ⟨xs[i], List.getElem?_eq_getElem hlt⟩
      have hdrop : xs.drop i = p :: xs.drop (i + 1) := by
        rw [List.drop_eq_getElem_cons hlt]
        have := List.getElem?_eq_some_iff.mp hp
        rw [this.2]
      rw [hdrop] at ec
      unfold compGo at ec
      split at ec
      · rename_i hck
        split at ec
        · rename_i env1 ht1
          obtain ⟨b, g1, ec1, ec2⟩ := R.bind_eq_ok ec
          obtain ⟨go, yl⟩ := (walk i Lc Hc gc xc hrc hck).2 p hp
          refine ⟨go, fun H' => ∃ Lc gc acc accV, Ext L1 H1 Lc H' ∧ H' D = some (.lst accV) ∧ D ∉ Lc ∧ HR (wd X) Lc gc H' ∧ VRs (wd X) Lc H' acc accV ∧ compGo chk (tgSet tg) fT fE (wipeE env vs) (xs.drop (i + 1)) gc acc = .ok accF h2,
            fun H' q => ⟨_, by omega, rfl, hlt, q⟩, fun x H' y => ?_⟩
          obtain ⟨xy, hry, yr⟩ := yl x H' y
          have xx := xc.tr hr1 xy
          have hD' := xy.keep D _ hnc hDc
          refine ⟨Lc, gc, _, p, env1, hry, er1.mono xx, yr_fix hfl yr ht1, ht1, fun σ' er' w => ⟨(w _ hown).trans (wipe_wipe _ _), Lc, gc, env1, b, g1, hry, er', ec1, fun L3 H3 x3 hr3 => ?_⟩⟩
          have xx3 := xx.tr hr1 x3
          have hD3 := x3.keep D _ hnc hD'
          have hn3 := x3.mem hnc hD'
          have v3 := (vc.mono xy).mono x3
          cases b with
          | true =>
            simp only [if_true] at ec2 ⊢
            obtain ⟨y', g2, ec3, ec4⟩ := R.bind_eq_ok ec2
            split at ec4
            · rename_i hlen
              refine ⟨L3, g1, env1, y', g2, hr3, er'.mono x3, ec3, fun w' L4 H4 x4 hr4 v4 => ?_⟩
              have hD4 := x4.keep D _ hn3 hD3
              have hn4 := x4.mem hn3 hD3
              have hf4 := nf_lst hD4
              refine ⟨accV, hD4, by rw [vc.length, ← lim]; exact hlen, L4, g2, acc ++ [y'], accV ++ [w'], (xx3.tr hr1 x4).touch hD, upd_same, hn4, hr4.touch hn4 hf4, ?_, ec4⟩
              exact ((v3.mono x4).snoc v4).agr (agr_upd hf4)
            · cases ec4
          | false =>
            simp only [Bool.false_eq_true, if_false] at ec2 ⊢
            exact ⟨L3, g1, acc, accV, xx3, hD3, hn3, hr3, v3, ec2⟩
        · cases ec
      · cases ec
    · left
      have hi2 : i = xs.length := by omega
      subst hi2
      rw [List.drop_length] at ec
      unfold compGo at ec
      split at ec
      · rename_i hck
        cases ec
        exact ⟨(walk _ Lc Hc h2 xc hrc hck).1 rfl, hQ _ _ ⟨D, Lc, accV, rfl, hDc, hnc, hD0, x1.tr hr xc, hrc, vc⟩⟩
      · cases ec
  · subst q1
    cases rx
    exact made_ep I q2 q3 q4 q5 q6 q7 e3 post
end
/-- what is asked of a comprehension's block -/
abbrev BG (X : Cx) (sco : Scope) (e : Expr) (t : TG) : Prop := ∀ (s : Shared) (H : Hp) (C : Addr) (cl : List (Str × Addr)) (fq : List Addr), PG (X.blk s H sco (compEnvC sco cl C X.env) fq) e t
abbrev BTs (X : Cx) (sco : Scope) (e : List Expr) (t : TT) : Prop := ∀ (s : Shared) (H : Hp) (C : Addr) (cl : List (Str × Addr)) (fq : List Addr), PTs (X.blk s H sco (compEnvC sco cl C X.env) fq) e t
abbrev BE (X : Cx) (sco : Scope) (e : Expr) (t : TE) : Prop := ∀ (s : Shared) (H : Hp) (C : Addr) (cl : List (Str × Addr)) (fq : List Addr), PE (X.blk s H sco (compEnvC sco cl C X.env) fq) e t
section
variable {al fl : Bool} {fI : Env → PHeap → R (List PV × Chk)} {tg : Tg} {fT : Env → PHeap → R Bool} {fE fK fV : Env → PHeap → R PV} {elt kx vx tge iter : Expr} {ifs : List Expr} {sco : Scope} {ow : List (Str × Nat)} {pos py spos : Pos} {i : Nat} {y : Str}
theorem se_comp (hc : X.calm = true) (hN : X.N.Nodup) (hi : PI X tge iter (rI X fl fI)) (ok : BlkOk X.N X.env.scope sco ow) (hg : BG X sco tge (rG X tg)) (ht : BTs X sco ifs (rT X fT)) (he : BE X sco elt (rE X fE)) (hs : ∀ x, foldedSetIterable iter X.env x = pure x) (hown : ∀ i ∈ tgIx tg, i ∈ ow.map (·.2)) (hfl : fl = true → isTp tg = true) :
    PE X (.ListComp elt [⟨tge, iter, ifs, 0⟩] sco pos) (rE X (compF al fI tg fT fE (ow.map (·.2)))) := ⟨fun pins s σ H Q I q => by
  obtain ⟨Q', h1, h2, h3⟩ := comp_core hown hfl q
  exact thn ((pe_lc hc hN hi ok hg ht he hs).run pins s σ H Q' I (h1 _ fun _ _ q => q)) fun u s' h => h3 pins σ s' u h⟩
theorem se_dcomp (hu : Um X) (hc : X.calm = true) (hN : X.N.Nodup) (hi : PI X tge iter (rI X fl fI)) (ok : BlkOk X.N X.env.scope sco ow) (hg : BG X sco tge (rG X tg)) (ht : BTs X sco ifs (rT X fT)) (hk : BE X sco kx (rE X fK)) (he : BE X sco vx (rE X fV)) (hs : ∀ x, foldedSetIterable iter X.env x = pure x) (hown : ∀ i ∈ tgIx tg, i ∈ ow.map (·.2)) (hfl : fl = true → isTp tg = true) :
    PE X (.DictComp kx vx [⟨tge, iter, ifs, 0⟩] sco pos) (rE X (dcompF al fI tg fT fK fV (ow.map (·.2)))) := ⟨fun pins s σ H Q I q => by
  obtain ⟨Q', h1, h2, h3⟩ := dcomp_core hown hfl q
  exact thn ((pe_dcP hc hN hi ok hg ht hk he hs fun s H C cl fq => pds_ok (X := X.blk s H sco (compEnvC sco cl C X.env) fq) hu).run pins s σ H Q' I (h1 _ fun _ _ q => q)) fun u s' h => h3 pins σ s' u h⟩
theorem named {F : Env → PHeap → R PV} {st : Stmt} {t : TE} (ps : PS X st (tAsg t (gName i))) (core : ∀ σ H Q, rE X F σ H Q → ∃ Q' : VK, (∀ Q'' : VK, (∀ x H', Q' x H' → Q'' x H') → t σ H Q'') ∧ (∀ x H', Q' x H' → ∃ D, x = .ref D) ∧ ∀ pins σ1 s u, EP X pins σ1 Q' u s → EP X pins σ1 Q u s) :
    PS X st (rS X (setF i F)) := ⟨fun pins s σ H D I ⟨L, h, env, o, h', hr, er, e, post⟩ => by
  obtain ⟨v, e1, rfl⟩ := setF_ok e
  obtain ⟨Q', h1, h2, h3⟩ := core σ H (fun x H1 => D.nx (σ.set i (some x)) H1) ⟨L, h, env, v, h', hr, er, e1, fun x L1 H1 x1 hr1 v1 => post _ _ x1 hr1 _ ((er.mono x1).set v1)⟩
  refine thn (ps.run pins s σ H ⟨fun σ1 H1 => ∃ x, σ1 = σ.set i (some x) ∧ Q' x H1, fun _ _ => False, fun _ _ => False, fun _ _ => False⟩ I (h1 _ fun x H' q => ⟨x, rfl, q⟩)) fun fl s1 q => ?_
  cases fl with
  | next =>
    obtain ⟨σ1, H1, I1, x, rfl, q⟩ := q
    obtain ⟨D0, rfl⟩ := h2 _ _ q
    obtain ⟨w, H2, I2, rw', q2⟩ := h3 pins _ s1 (.ref D0) ⟨.ref D0, H1, I1, rfl, q⟩
    obtain rfl := RelV.inj rw' (show RelV (.ref D0) (.ref D0) from rfl)
    exact ⟨_, H2, I2, q2⟩
  | brk => obtain ⟨_, _, _, q⟩ := q; exact q.elim
  | cont => obtain ⟨_, _, _, q⟩ := q; exact q.elim
  | ret w => obtain ⟨_, _, _, _, _, q⟩ := q; exact q.elim⟩
theorem ss_setLc (hc : X.calm = true) (hN : X.N.Nodup) (hy : X.N[i]? = some y) (hyl : X.env.scope.names.lookup y = some .local) (hsw : swapsWith (.ListComp elt [⟨tge, iter, ifs, 0⟩] sco pos) (some (.Name y py)) spos.line X.env = pure true)
    (hi : PI X tge iter (rI X fl fI)) (ok : BlkOk X.N X.env.scope sco ow) (hg : BG X sco tge (rG X tg)) (ht : BTs X sco ifs (rT X fT)) (he : BE X sco elt (rE X fE)) (hs : ∀ x, foldedSetIterable iter X.env x = pure x) (hown : ∀ i ∈ tgIx tg, i ∈ ow.map (·.2)) (hfl : fl = true → isTp tg = true) :
    PS X (.Assign [.Name y py] (.ListComp elt [⟨tge, iter, ifs, 0⟩] sco pos) spos) (rS X (setF i (compF al fI tg fT fE (ow.map (·.2))))) :=
  named (ps_setLc hc hN hy hyl hsw hi ok hg ht he hs) fun _ _ _ => comp_core hown hfl
theorem ss_setDc (hu : Um X) (hc : X.calm = true) (hN : X.N.Nodup) (hy : X.N[i]? = some y) (hyl : X.env.scope.names.lookup y = some .local) (hsw : swapsWith (.DictComp kx vx [⟨tge, iter, ifs, 0⟩] sco pos) (some (.Name y py)) spos.line X.env = pure true)
    (hi : PI X tge iter (rI X fl fI)) (ok : BlkOk X.N X.env.scope sco ow) (hg : BG X sco tge (rG X tg)) (ht : BTs X sco ifs (rT X fT)) (hk : BE X sco kx (rE X fK)) (he : BE X sco vx (rE X fV)) (hs : ∀ x, foldedSetIterable iter X.env x = pure x) (hown : ∀ i ∈ tgIx tg, i ∈ ow.map (·.2)) (hfl : fl = true → isTp tg = true) :
    PS X (.Assign [.Name y py] (.DictComp kx vx [⟨tge, iter, ifs, 0⟩] sco pos) spos) (rS X (setF i (dcompF al fI tg fT fK fV (ow.map (·.2))))) :=
  named (ps_setDcP hc hN hy hyl hsw hi ok hg ht hk he hs fun s H C cl fq => pds_ok (X := X.blk s H sco (compEnvC sco cl C X.env) fq) hu) fun _ _ _ => dcomp_core hown hfl
end
end
end HW
/-! HwU: sorted sets, the sizes of sets. -/
namespace HW
open PySem PySem.Spec PyProof.Rows L2 C8

/-! ### the order of whole numbers and of tuples of them -/
abbrev tI (k : List Int) : PV := .tup (k.map .int)
theorem toD_ints : ∀ k : List Int, toDs (k.map .int) = some (k.map .int)
  | [] => rfl
  | i :: k => by rw [List.map_cons, toDs, toD, toD_ints k]; rfl
theorem dOf_tI (k : List Int) : dOf (tI k) = .tuple (k.map .int) := by
  unfold dOf tI
  rw [toD, toD_ints]
  rfl
theorem dataLt_tup (a b : List Int) : PySem.W.dataLt (.tuple (a.map .int)) (.tuple (b.map .int)) = decide (a < b) := PySem.W.dataLt_ints a b
theorem le_int (a b : Int) : PySem.W.dataLe false dOf (.int a) (.int b) = decide (a ≤ b) := by
  show (!PySem.W.dataLt (.int b) (.int a)) = _
  rw [PySem.W.dataLt_int]
  exact PySem.W.not_lt_int a b
theorem le_tI (a b : List Int) : PySem.W.dataLe false dOf (tI a) (tI b) = decide (a ≤ b) := by
  show (!PySem.W.dataLt (dOf (tI b)) (dOf (tI a))) = _
  rw [dOf_tI, dOf_tI, dataLt_tup]
  by_cases h : b < a
  · have h' : ¬ a ≤ b := fun r => List.not_lt.mpr r h
    simp [h, h']
  · have h' : a ≤ b := List.not_lt.mp h
    simp [h, h']
def leI (a b : Int) : Bool := decide (a ≤ b)
def leR (a b : List Int) : Bool := decide (a ≤ b)
theorem sortV_ints (ns : List Int) : sortV (ns.map .int) = (ns.mergeSort leI).map .int := by
  unfold sortV
  rw [List.map_mergeSort]
  intro a _ b _
  exact (le_int a b).symm
theorem sortV_tups (ks : List (List Int)) : sortV (ks.map tI) = (ks.mergeSort leR).map tI := by
  unfold sortV
  rw [List.map_mergeSort]
  intro a _ b _
  exact (le_tI a b).symm
theorem leI_trans (a b c : Int) : leI a b = true → leI b c = true → leI a c = true := by unfold leI; simp only [decide_eq_true_eq]; omega
theorem leI_total (a b : Int) : (leI a b || leI b a) = true := by unfold leI; simp only [Bool.or_eq_true, decide_eq_true_eq]; omega
theorem leR_trans (a b c : List Int) : leR a b = true → leR b c = true → leR a c = true := by
  unfold leR; simp only [decide_eq_true_eq]; exact List.le_trans
theorem leR_total (a b : List Int) : (leR a b || leR b a) = true := by
  unfold leR; simp only [Bool.or_eq_true, decide_eq_true_eq]; exact List.le_total a b
/-- what is in order is the sorted one -/
theorem sortI_eq {a l : List Int} (hp : a.Perm l) (ha : a.Pairwise (· ≤ ·)) : a = l.mergeSort leI := by
  refine List.Perm.eq_of_pairwise (le := (· ≤ ·)) (fun x y _ _ h1 h2 => Int.le_antisymm h1 h2) ha ?_ (hp.trans (List.mergeSort_perm l leI).symm)
  exact (List.pairwise_mergeSort leI_trans leI_total l).imp fun h => of_decide_eq_true h
theorem sortR_eq {a l : List (List Int)} (hp : a.Perm l) (ha : a.Pairwise (· ≤ ·)) : a = l.mergeSort leR := by
  refine List.Perm.eq_of_pairwise (le := (· ≤ ·)) (fun x y _ _ h1 h2 => List.le_antisymm h1 h2) ha ?_ (hp.trans (List.mergeSort_perm l leR).symm)
  exact (List.pairwise_mergeSort leR_trans leR_total l).imp fun h => of_decide_eq_true h
/-! ### the first ones -/
theorem mem_dedup {x : PV} : ∀ {xs : List PV}, x ∈ dedup xs ↔ x ∈ xs
  | [] => Iff.rfl
  | y :: ys => by
    rw [dedup, List.mem_cons, List.mem_cons, List.mem_filter, mem_dedup (xs := ys)]
    by_cases h : x = y
    · simp [h]
    · simp [h]
theorem dedup_nodup : ∀ xs : List PV, (dedup xs).Nodup
  | [] => List.nodup_nil
  | x :: xs => by
    rw [dedup, List.nodup_cons]
    refine ⟨fun h => ?_, (dedup_nodup xs).filter _⟩
    rw [List.mem_filter] at h
    simp at h
theorem plain_cases {xs : List PV} (h : plainSet xs = true) : (∃ ns : List Int, xs = ns.map .int) ∨ ∃ ks : List (List Int), xs = ks.map tI := by
  unfold plainSet at h
  rw [Bool.or_eq_true] at h
  rcases h with h | h
  · left
    induction xs with
    | nil => exact ⟨[], rfl⟩
    | cons x xs ih =>
      rw [List.all_cons, Bool.and_eq_true] at h
      obtain ⟨ns, rfl⟩ := ih h.2
      cases x with
      | int i => exact ⟨i :: ns, rfl⟩
      | _ => simp at h
  · right
    induction xs with
    | nil => exact ⟨[], rfl⟩
    | cons x xs ih =>
      rw [List.all_cons, Bool.and_eq_true] at h
      obtain ⟨ks, rfl⟩ := ih h.2
      cases x with
      | tup ys =>
        obtain ⟨ns, hn⟩ := Option.isSome_iff_exists.mp h.1
        have : ∀ {ys : List PV} {ns : List Int}, asInts ys = some ns → ys = ns.map .int := by
          intro ys
          induction ys with
          | nil => intro ns e; rw [asInts] at e; cases e; rfl
          | cons y ys ih =>
            intro ns e
            cases y with
            | int i =>
              rw [asInts] at e
              obtain ⟨ms, e1, rfl⟩ := Option.map_eq_some_iff.mp e
              rw [ih e1]; rfl
            | _ => simp [asInts] at e
        exact ⟨ns :: ks, by rw [List.map_cons, tI, ← this hn]⟩
      | _ => simp at h
theorem int_inj : ∀ {a b : Int}, PV.int a = PV.int b → a = b := fun e => by cases e; rfl
theorem tI_inj {a b : List Int} (e : tI a = tI b) : a = b := by
  unfold tI at e
  injection e with e
  exact (List.map_inj_right fun x y h => int_inj h).mp e
/-- a list with the same ones, each once -/
theorem perm_dedup {α : Type} {f : α → PV} (hf : ∀ a b, f a = f b → a = b) {ys xs : List α} (hn : ys.Nodup) (hm : ∀ k, k ∈ ys ↔ k ∈ xs) : (ys.map f).Perm (dedup (xs.map f)) := by
  refine (List.perm_ext_iff_of_nodup (List.pairwise_map.mpr (hn.imp fun h e => h (hf _ _ e))) (dedup_nodup _)).mpr fun z => ?_
  rw [mem_dedup, List.mem_map, List.mem_map]
  exact ⟨fun ⟨a, h1, h2⟩ => ⟨a, (hm a).mp h1, h2⟩, fun ⟨a, h1, h2⟩ => ⟨a, (hm a).mpr h1, h2⟩⟩
/-! ### filling a new set -/
section
variable {X : Cx} {pins : List (Addr × Obj)} {σ : L2.St} {H : Hp} {s : Shared} {L : List Addr}
theorem none_of {h : Heap} {b : Addr} (hb : h.objs.size ≤ b) : h.get? b = none := by
  cases q : h.get? b with
  | none => rfl
  | some o => exact absurd (Nat.lt_of_lt_of_le (Heap.lt_size q) hb) (Nat.lt_irrefl _)
theorem loop_ints {P : Program} {w : World} {A : Around} {l : Addr} {us : List Value} {ns : List Int} (hh : A.handled = none) (hl : l < s.heap.objs.size) (hi : IntsAre us ns) (hb : ns.length < 64) :
    SetLoop P w A s l us.toArray (fun h' => ∃ c, c ≤ ns.length ∧ SetR w h' s.heap.objs.size (fun j => decide (j ∈ ns)) c) := fun I St s1 R eI W st hk hS hR => by
  have hlen : us.length = ns.length := hi.length
  subst eI
  have hSf : s.heap.objs.size ∉ [s.heap.objs.size + 1, l] := by
    simp only [List.mem_cons, List.not_mem_nil, or_false, not_or]
    exact ⟨Nat.ne_of_lt (Nat.lt_succ_self _), Nat.ne_of_gt hl⟩
  refine set_update_ints (A := A.in1.in1) W.toS s.heap.objs.size hSf ns (by simpa using hlen) (by unfold scanBound; omega) (fun i v hv => ?_) _ 0 s1 rfl (Nat.zero_le _) st ⟨0, Nat.le_refl 0, setR_new_at hS⟩ fun s' c hm hc hq => hR s' hm ⟨c, by rw [← hlen]; simpa using hc, hq⟩
  have hi' : i < ns.length := by rw [← hlen]; simpa using (Array.getElem?_eq_some_iff.mp hv).1
  obtain ⟨t, e⟩ := IntsAre.int_at hi i v (by simpa using hv)
  refine ⟨ns[i], t, List.getElem?_eq_getElem hi', ?_⟩
  rw [e, List.getD_eq_getElem?_getD, List.getElem?_eq_getElem hi']
  rfl
theorem loop_tups {P : Program} {w : World} {A : Around} {l : Addr} {us : List Value} {ks : List (Addr × List Int)} (hu : A.units + 3 < cLine) (hl : l < s.heap.objs.size) (hit : us = ks.map fun p => Value.ref p.1) (hk0 : ∀ p ∈ ks, IsT P w s.heap p.2 p.1) (hb : ks.length < 64) :
    SetLoop P w A s l us.toArray (fun h' => ∃ L es ep t, SetTR P w h' s.heap.objs.size L es ep t ∧ Got ks ks.length L) := fun I St s1 R eI W st hk hS hR => by
  subst eI
  subst hit
  have hSf : s.heap.objs.size ∉ [s.heap.objs.size + 1, l] := by
    simp only [List.mem_cons, List.not_mem_nil, or_false, not_or]
    exact ⟨Nat.ne_of_lt (Nat.lt_succ_self _), Nat.ne_of_gt hl⟩
  have hn : (ks.map fun p => Value.ref p.1).toArray.size = ks.length := by simp
  refine set_update_tups (A := A.in1.in1) W.toS s.heap.objs.size hSf ks hn hb (fun i v hv => ?_) s.heap hk0 (none_of (Nat.le_refl _)) (fun b hb => none_of ?_) (by show A.units + 3 < cLine; exact hu) _ 0 s1 rfl (Nat.zero_le _) st hk ⟨[], #[], 0, _, setTR_fresh hS, Got.zero ks⟩
    fun s' L es ep t hm hq g _ => hR s' hm ⟨L, es, ep, t, hq, by rw [← hn]; exact g⟩
  · simp only [List.getElem?_toArray, List.getElem?_map] at hv
    obtain ⟨p, h1, rfl⟩ := Option.map_eq_some_iff.mp hv
    exact ⟨p, h1, rfl⟩
  · rw [List.mem_singleton.mp hb]
    omega
/-- the tuples of ints that a list holds -/
theorem tups_at (I : Inv X pins σ H s) : ∀ {ks : List (List Int)} {vs : List V} {us : List Value}, VRs (wd X) L H (ks.map tI) vs → Vals vs us → ∃ ps : List (Addr × List Int), ps.map (·.2) = ks ∧ us = ps.map (fun p => Value.ref p.1) ∧ vs = ps.map (fun p => V.ref p.1) ∧
    (∀ p ∈ ps, IsT X.prog X.w s.heap p.2 p.1) ∧ ∀ p ∈ ps, VR (wd X) L H (tI p.2) (.ref p.1)
  | [], _, _, .nil, .nil => ⟨[], rfl, rfl, rfl, (by simp), (by simp)⟩
  | k :: ks, _, _, .cons v1 v2, .cons r1 r2 => by
    obtain ⟨ps, h1, h2, h3, h4, h5⟩ := tups_at I v2 r2
    have v0 := v1
    cases v1 with
    | @tup a _ ws t1 t2 t3 =>
      cases r1
      obtain ⟨its, rv, ⟨o, ho, hc, n, hd⟩, hz⟩ := I.tuple (TupAt.sq (K := X.K) t1)
      have e : ws = k.map V.int := t3.ints (by
        have : ∀ k : List Int, asInts (k.map .int) = some k := by
          intro k
          induction k with
          | nil => rfl
          | cons i k ih => rw [List.map_cons, asInts, ih]; rfl
        exact this k)
      subst e
      have items : ∀ {k : List Int} {us : List Value}, Vals (k.map V.int) us → ItemsAre (PySem.intKind X.prog X.w) k us := by
        intro k
        induction k with
        | nil => intro us r; cases r; exact .nil
        | cons i k ih =>
          intro us r
          cases r with
          | cons r1 r2 =>
            obtain ⟨t, rfl⟩ := r1
            exact .cons (show Value.isInt i (.int i t) = true by simp [Value.isInt]) (ih r2)
      have it : IsT X.prog X.w s.heap k a := ⟨o, its.toArray, n, ho, hc, hd, by simpa using items rv⟩
      refine ⟨(a, k) :: ps, by rw [List.map_cons, h1], by rw [List.map_cons, h2], by rw [List.map_cons, h3], fun p hp => ?_, fun p hp => ?_⟩
      · rcases List.mem_cons.mp hp with rfl | hp
        · exact it
        · exact h4 p hp
      · rcases List.mem_cons.mp hp with rfl | hp
        · exact v0
        · exact h5 p hp
end
end HW
/-! HwV: sorted(set(..)), len(set(..)). -/
namespace HW
open PySem PySem.Spec PyProof.Rows L2 C8

section
variable {X : Cx} {pins : List (Addr × Obj)} {σ : L2.St} {H : Hp} {s : Shared} {L : List Addr}
theorem inv_at (I : Inv X pins σ H s) {s1 : Shared} (k : ∀ b o, s.heap.get? b = some o → s1.heap.get? b = some o) (g : s1.gens = s.gens) (o : s1.os = s.os) : Inv X pins σ H s1 :=
  I.call' (ch := []) o (Un.kept k) (I.hok.kept k) (by rw [g]; exact I.bare) fun b hb => absurd hb (by simp)
/-- sorted(v), v anything that gives some of xs in some order -/
theorem sorted_colX (hc : X.calm = true) (hu : Um X) (I : Inv X pins σ H s) {v : Value} {xs zs : List PV} (ok : sortOk xs = true)
    (col : ∀ (A : Around) (E : Value → Shared → Prop) (R : List Value → Shared → Prop), A.handled = none →
      (∀ s1 acc vs ys, (∀ b o, s.heap.get? b = some o → s1.heap.get? b = some o) → s1.gens = s.gens → s1.os = s.os → Vals vs acc → VRs (wd X) L H ys vs → acc.length ≤ sizeLine → (∀ y ∈ ys, y ∈ xs) → sortV ys = zs → R acc s1) → wpAny (model X.prog X.w) A (collect v) R E s)
    {Q : VK} (hf : ∀ s1 p vs, Inv X pins σ (upd H p (.lst vs)) s1 → H p = none → VRs (wd X) L H zs vs → EP X pins σ Q (.ref p) s1) :
    wpAny (model X.prog X.w) X.A (call (.builtin "sorted") [v]) (EP X pins σ Q) X.xe s := by
  obtain ⟨hD, hA, hS, hDp⟩ := sortOk_facts ok
  refine Calls.call_function_entry kind_sorted plain_sorted entry_sorted (args_sorted1 _) ?_
  unfold Builtin.«sorted»
  refine wpAny_bind (m := checkCount "sorted" 1 1 _) (wpAny_pure ?_)
  have hh : X.A.in1.handled = none := I.ok.hd hc
  refine wpAny_bind (col X.A.in1 _ _ hh fun s1 acc vs ys hk hg hos rv vv hl sub ez => ?_)
  refine wpAny_bind (wpAny_newList ?_ hl)
  have I1 := inv_at I hk hg hos
  have hk2 : ∀ b o, s1.heap.get? b = some o → (s1.heap.push { cls := .type "list", data := .seq acc.toArray }).get? b = some o := fun b o e => Heap.get?_push_of_some _ e
  have e1 := each_of vv rv
  have hn : H s1.heap.objs.size = none := I1.hok.fresh (Nat.le_refl _)
  have hat : (s1.heap.push { cls := .type "list", data := .seq acc.toArray }).get? s1.heap.objs.size = some (seqObj "list" acc.toArray 0) := Heap.get?_push_size _ rfl
  have subM : ∀ d ∈ ys.map dOf, d ∈ xs.map dOf := fun d hd => by
    obtain ⟨y, hy, rfl⟩ := List.mem_map.mp hd
    exact List.mem_map.mpr ⟨y, sub y hy, rfl⟩
  have hS' : PySem.W.Sortable (ys.map dOf) := by
    rcases hS with h | h
    · exact .inl fun d hd => h d (subM d hd)
    · exact .inr fun d hd => h d (subM d hd)
  refine wpAny_bind (wpAny_holding (PySem.W.list_sort_data (A := X.A.in1) (s := { s1 with heap := s1.heap.push { cls := .type "list", data := .seq acc.toArray } }) hat e1 (each_reads I1 hk2 (fun p hp => hD p (sub p hp)) e1 (Nat.le_refl _)) (fun d hd d' hd' => hA d (subM d hd) d' (subM d' hd')) hS' (by rw [← vv.length, rv.length]; exact hl) (fun p hp => ?_) fun out ho eo => ?_))
  · have h1 := hDp p (sub p hp)
    have h2 : X.A.units + 100 < cLine := hu
    rw [Around.in1_units]
    omega
  · refine wpAny_pure ⟨_, rfl, ?_⟩
    obtain ⟨ws, rw1, rw2⟩ := of_each eo
    obtain ⟨e', he'⟩ := PyProof.Rows.sortedHeap_at (vs := acc) (out := out.toArray) hat
    have hlen : ws.length ≤ sizeLine := by rw [rw1.length, ho, ← vv.length, rv.length]; exact hl
    have rw2' : VRs (wd X) L H zs ws := by rw [← ez]; exact rw2
    refine hf _ s1.heap.objs.size ws (I1.laid (t' := s1.toks) (fun b o e => ?_) (Nat.le_refl _) ⟨hlen, out, e', rw1, he'⟩) hn rw2'
    have hb : b < s1.heap.objs.size := Heap.lt_size e
    rw [PyProof.Rows.sortedHeap_old (Nat.ne_of_lt hb) (Heap.lt_size (hk2 b o e))]
    exact hk2 b o e
/-- back from PVs -/
def toI : PV → Option Int
  | .int i => some i
  | _ => none
def toR : PV → Option (List Int)
  | .tup ys => asInts ys
  | _ => none
theorem asInts_map : ∀ k : List Int, asInts (k.map .int) = some k
  | [] => rfl
  | i :: k => by rw [List.map_cons, asInts, asInts_map k]; rfl
theorem toI_map (ns : List Int) : (ns.map PV.int).filterMap toI = ns := by
  induction ns with
  | nil => rfl
  | cons n ns ih => rw [List.map_cons, List.filterMap_cons]; show n :: _ = _; rw [ih]
theorem toR_map (ks : List (List Int)) : (ks.map tI).filterMap toR = ks := by
  induction ks with
  | nil => rfl
  | cons n ns ih =>
    rw [List.map_cons, List.filterMap_cons]
    have : toR (tI n) = some n := asInts_map n
    rw [this, ih]
theorem dedup_ints (ns : List Int) : ∃ ms : List Int, dedup (ns.map .int) = ms.map .int ∧ (∀ k, k ∈ ms ↔ k ∈ ns) ∧ ms.Nodup := by
  have h : plainSet (dedup (ns.map .int)) = true ∧ ∀ x ∈ dedup (ns.map PV.int), ∃ i, x = .int i := by
    have : ∀ x ∈ dedup (ns.map PV.int), ∃ i, x = .int i := fun x hx => by
      obtain ⟨i, _, rfl⟩ := List.mem_map.mp (mem_dedup.mp hx)
      exact ⟨i, rfl⟩
    refine ⟨?_, this⟩
    unfold plainSet
    rw [Bool.or_eq_true]
    left
    rw [List.all_eq_true]
    intro x hx
    obtain ⟨i, rfl⟩ := this x hx
    rfl
  have g : ∀ xs : List PV, (∀ x ∈ xs, ∃ i, x = PV.int i) → ∃ ms : List Int, xs = ms.map .int := by
    intro xs
    induction xs with
    | nil => intro _; exact ⟨[], rfl⟩
    | cons x xs ih =>
      intro h
      obtain ⟨i, rfl⟩ := h x (by simp)
      obtain ⟨ms, rfl⟩ := ih fun y hy => h y (by simp [hy])
      exact ⟨i :: ms, rfl⟩
  obtain ⟨ms, e⟩ := g _ h.2
  refine ⟨ms, e, fun k => ?_, ?_⟩
  · have h1 : PV.int k ∈ dedup (ns.map PV.int) ↔ PV.int k ∈ ns.map PV.int := mem_dedup
    rw [e] at h1
    simpa using h1
  · have := dedup_nodup (ns.map PV.int)
    rw [e] at this
    exact (List.pairwise_map.mp this).imp fun h z => h (by rw [z])
theorem dedup_tups (ks : List (List Int)) : ∃ ms : List (List Int), dedup (ks.map tI) = ms.map tI ∧ (∀ k, k ∈ ms ↔ k ∈ ks) ∧ ms.Nodup := by
  have h : ∀ x ∈ dedup (ks.map tI), ∃ i, x = tI i := fun x hx => by
    obtain ⟨i, _, rfl⟩ := List.mem_map.mp (mem_dedup.mp hx)
    exact ⟨i, rfl⟩
  have g : ∀ xs : List PV, (∀ x ∈ xs, ∃ i, x = tI i) → ∃ ms : List (List Int), xs = ms.map tI := by
    intro xs
    induction xs with
    | nil => intro _; exact ⟨[], rfl⟩
    | cons x xs ih =>
      intro h
      obtain ⟨i, rfl⟩ := h x (by simp)
      obtain ⟨ms, rfl⟩ := ih fun y hy => h y (by simp [hy])
      exact ⟨i :: ms, rfl⟩
  obtain ⟨ms, e⟩ := g _ h
  refine ⟨ms, e, fun k => ?_, ?_⟩
  · have h1 : tI k ∈ dedup (ks.map tI) ↔ tI k ∈ ks.map tI := mem_dedup
    rw [e, List.mem_map, List.mem_map] at h1
    exact ⟨fun hk => let ⟨a, h2, h3⟩ := h1.mp ⟨k, hk, rfl⟩; tI_inj h3 ▸ h2, fun hk => let ⟨a, h2, h3⟩ := h1.mpr ⟨k, hk, rfl⟩; tI_inj h3 ▸ h2⟩
  · have := dedup_nodup (ks.map tI)
    rw [e] at this
    exact (List.pairwise_map.mp this).imp fun h z => h (by rw [z])
/-- what a set of xs is -/
theorem seq_src (I : Inv X pins σ H s) {a : Addr} {vs : List V} (h : Rd H a (.lst vs) ∨ TupAt H a vs) : ∃ us : List Value, Vals vs us ∧ (s.heap.IsList a us.toArray ∨ s.heap.IsTuple a us.toArray) ∧ a < s.heap.objs.size := by
  rcases h with h | h
  · obtain ⟨us, rv, p, _⟩ := I.list (sqr (K := X.K) h)
    exact ⟨us, rv, .inl p.isList, let ⟨_, e, _⟩ := p.isList; Heap.lt_size e⟩
  · obtain ⟨us, rv, p, _⟩ := I.tuple (h.sq (K := X.K))
    exact ⟨us, rv, .inr p, let ⟨_, e, _⟩ := p; Heap.lt_size e⟩
theorem sort_set (hc : X.calm = true) (hu : Um X) (I : Inv X pins σ H s) {h h' : PHeap} (hr : HR (wd X) L h H) {a : Addr} {vs : List V} {xs : List PV} {al : Bool} {r : PV} {Q : VK} (src : Rd H a (.lst vs) ∨ TupAt H a vs) (v : VRs (wd X) L H xs vs) (pl : plainSet xs = true) (ok : sortOk xs = true) (hb : xs.length < 64)
    (e : mkList al (sortV (dedup xs)) h = .ok r h') (post : Post (wd X) L H r h' Q) :
    wpAny (model X.prog X.w) X.A (call (.type "set") [.ref a]) (fun u s1 => wpAny (model X.prog X.w) X.A (call (.builtin "sorted") [u]) (EP X pins σ Q) X.xe s1) X.xe s := by
  obtain ⟨us, rv, src', hl⟩ := seq_src I src
  have hh := I.ok.hd hc
  rcases plain_cases pl with ⟨ns, rfl⟩ | ⟨ks, rfl⟩
  · have e1 : vs = ns.map V.int := v.ints (asInts_map ns)
    subst e1
    have hi := intsAre_of rv
    rw [List.length_map] at hb
    refine set_made hh src' (loop_ints hh hl hi hb) fun h1 tk ⟨c, hc1, R⟩ kk => ?_
    have I1 : Inv X pins σ H { s with heap := h1, toks := tk } := I.kept kk
    refine sorted_set R hh (by omega) fun s' p out c' ns' k g o hz at_ ia pw mem hlen => ?_
    have hn : H p = none := I1.hok.fresh hz
    obtain ⟨ms, em, mm, mn⟩ := dedup_ints ns
    have nd : ns'.Nodup := pw.imp fun h e => by omega
    have pm : ns'.Perm ms := (List.perm_ext_iff_of_nodup nd mn).mpr fun z => by rw [mem z, mm z]; simp
    have es : sortV (dedup (ns.map .int)) = ns'.map .int := by
      rw [em, sortV_ints, ← sortI_eq pm (pw.imp fun h => by omega)]
    rw [es] at e
    have k0 : ∀ b o, s.heap.get? b = some o → s'.heap.get? b = some o := fun b o e => k b o (kk b o e)
    have new : ObjOk X.prog X.w (upd H p (.lst (ns'.map V.int))) s'.heap p (.lst (ns'.map V.int)) := by
      refine ⟨?_, out.toList, c', vals_of_ints ia, by simpa using at_⟩
      rw [List.length_map, hlen, sizeLine_eq]; omega
    have I2 : Inv X pins σ (upd H p (.lst (ns'.map V.int))) s' :=
      I1.call' (ch := []) o (Un.laid k hz hn) (I1.hok.laid k hz new) (by rw [g]; exact I.bare) fun b hb => absurd hb (by simp)
    exact mk_ep I2 hn e post hr (VRs.ofInts ns')
  · obtain ⟨ps, h1, rfl, rfl, h4, h5⟩ := tups_at I v rv
    subst h1
    rw [List.length_map, List.length_map] at hb
    have hu3 : X.A.units + 3 < cLine := by have : X.A.units + 100 < cLine := hu; omega
    refine set_made hh src' (loop_tups hu3 hl rfl h4 hb) fun hp tk ⟨Ls, es, ep, t, R, g⟩ kk => ?_
    have I1 : Inv X pins σ H { s with heap := hp, toks := tk } := I.kept kk
    obtain ⟨o, ho, hex, hd⟩ := R.ob
    have hsz : es.size = Ls.length := by
      have := congrArg List.length R.rows
      unfold rowsOf at this
      simpa using this
    have hvals : es.toList.map (·.2) = Ls.map fun q => Value.ref q.1 := by
      rw [R.rows]
      unfold rowsOf
      rw [List.map_map]
      rfl
    have sub : ∀ q ∈ Ls, q ∈ ps := fun q hq => List.mem_of_mem_take (g.sub q hq)
    have one : ∀ q ∈ Ls, ∀ r ∈ Ls, q.1 = r.1 → q = r := fun q hq r hr' e => by
      have a1 := R.tup q hq
      have a2 := R.tup r hr'
      rw [e] at a1
      exact Prod.ext e (a1.inj a2)
    obtain ⟨ms, em, mm, mn⟩ := dedup_tups (ps.map (·.2))
    have pm : (Ls.map (·.2)).Perm ms := (List.perm_ext_iff_of_nodup R.nd mn).mpr fun z => by
      rw [mm z]
      constructor
      · intro hz
        obtain ⟨q, hq, rfl⟩ := List.mem_map.mp hz
        exact List.mem_map.mpr ⟨q, sub q hq, rfl⟩
      · intro hz
        obtain ⟨q, hq, rfl⟩ := List.mem_map.mp hz
        exact g.all q (by rw [List.take_length]; exact hq)
    refine sorted_colX hc hu I1 (xs := (ps.map (·.2)).map tI) (zs := sortV (dedup ((ps.map (·.2)).map tI))) ok (fun A E W hA hW => ?_) fun s1 p vs I2 hn vz => mk_ep I2 hn e post hr vz
    refine collect_set (A := A) hA ⟨o, ho, hex.1, hd⟩ (SetTR.fits (s := { s with heap := hp, toks := tk }) R) (by unfold scanBound; have := R.few; omega) R.tab.ris R.led fun s1 out k1 hz g1 o1 pmv => ?_
    rw [hvals] at pmv
    have ord : ∀ out : List Value, (∀ v ∈ out, ∃ q ∈ Ls, v = Value.ref q.1) → ∃ L1 : List (Addr × List Int), out = L1.map (fun q => Value.ref q.1) ∧ ∀ q ∈ L1, q ∈ Ls := by
      intro out
      induction out with
      | nil => intro _; exact ⟨[], rfl, fun q hq => by cases hq⟩
      | cons v out ih =>
        intro hv
        obtain ⟨q, hq, rfl⟩ := hv v (by simp)
        obtain ⟨L1, rfl, hs⟩ := ih fun u hu => hv u (by simp [hu])
        refine ⟨q :: L1, rfl, fun r hr' => ?_⟩
        rcases List.mem_cons.mp hr' with rfl | z
        · exact hq
        · exact hs r z
    obtain ⟨L1, e9, hs⟩ := ord out fun v hv => by
      obtain ⟨q, hq, rfl⟩ := List.mem_map.mp (pmv.mem_iff.mp hv)
      exact ⟨q, hq, rfl⟩
    subst e9
    have nL : Ls.Nodup := nodup_of_map R.nd
    have nref : (Ls.map fun q => Value.ref q.1).Nodup := List.pairwise_map.mpr (nL.imp_of_mem fun {q r} hq hr' hne e => hne (one q hq r hr' (by injection e)))
    have n1 : L1.Nodup := nodup_of_map (pmv.nodup_iff.mpr nref)
    have pL : L1.Perm Ls := (List.perm_ext_iff_of_nodup n1 nL).mpr fun q => ⟨hs q, fun hq => by
      obtain ⟨r, hr', e⟩ := List.mem_map.mp (pmv.mem_iff.mpr (List.mem_map.mpr ⟨q, hq, rfl⟩))
      have : r.1 = q.1 := by injection e
      rw [← one r (hs r hr') q hq this]
      exact hr'⟩
    have rels : ∀ L1 : List (Addr × List Int), (∀ q ∈ L1, q ∈ Ls) → Vals (L1.map fun q => V.ref q.1) (L1.map fun q => Value.ref q.1) ∧ VRs (wd X) L H ((L1.map (·.2)).map tI) (L1.map fun q => V.ref q.1) := by
      intro L1
      induction L1 with
      | nil => intro _; exact ⟨.nil, .nil⟩
      | cons q L1 ih =>
        intro hs
        obtain ⟨i1, i2⟩ := ih fun r hr' => hs r (by simp [hr'])
        exact ⟨.cons rfl i1, .cons (h5 q (sub q (hs q (by simp)))) i2⟩
    obtain ⟨r1, r2⟩ := rels L1 hs
    refine hW s1 _ _ _ k1 g1 o1 r1 r2 ?_ (fun y hy => ?_) ?_
    · have := pL.length_eq
      have := R.few
      rw [List.length_map, sizeLine_eq]; omega
    · obtain ⟨z, hz', rfl⟩ := List.mem_map.mp hy
      obtain ⟨q, hq, rfl⟩ := List.mem_map.mp hz'
      exact List.mem_map.mpr ⟨q.2, List.mem_map.mpr ⟨q, sub q (hs q hq), rfl⟩, rfl⟩
    · rw [em, sortV_tups, sortV_tups]
      congr 1
      refine sortR_eq ((List.mergeSort_perm _ _).trans ((pL.map (·.2)).trans pm)) ?_
      exact (List.pairwise_mergeSort leR_trans leR_total _).imp fun h => of_decide_eq_true h
end
end HW
/-! HwW: list(range), tuple(range), sorted(set) as expressions. -/
namespace HW
open PySem PySem.Spec PyProof.Rows L2 C8

section
variable {X : Cx} {a b e : Expr} {f g : Env → PHeap → R PV} {p q pos pos2 : Pos}
def rR (X : Cx) (g : Env → PHeap → R (Int × Int)) : L2.St → Hp → (Int → Int → Hp → Prop) → Prop := fun σ H Q => ∃ L h env p h', HR (wd X) L h H ∧ ER (wd X) L H env σ ∧ g env h = .ok p h' ∧ PostH (wd X) L H h' (Q p.1 p.2)
def g1 (f : Env → PHeap → R PV) : Env → PHeap → R (Int × Int) := fun env h => (f env h).bind fun v h => (R.of (intOf v) h).bind fun i h => .ok (0, i) h
def g2 (f g : Env → PHeap → R PV) : Env → PHeap → R (Int × Int) := fun env h => (f env h).bind fun v h => (g env h).bind fun w h => (R.of (intOf v) h).bind fun i h => (R.of (intOf w) h).bind fun j h => .ok (i, j) h
theorem sr_1 (hg : Gl X "range") (hm : X.mg "range" = none) (ha : PE X a (rE X f)) (ho : okArg a = true) : PRg X (.Call (.Name "range" p) [a] [] pos) (rR X (g1 f)) := fun pins s σ H Q I ⟨L, h, env, pp, h', hr, er, e, post⟩ => by
  obtain ⟨v, h1, e1, e⟩ := R.bind_eq_ok e
  obtain ⟨i, e2, e⟩ := R.of_bind e
  cases e
  obtain rfl := int_of e2
  exact prg_1 hg hm ha (star_ok ho _ _) pins s σ H Q I ⟨L, h, env, _, _, hr, er, e1, fun x L1 H1 x1 hr1 v1 => by cases v1; exact ⟨_, rfl, post _ _ x1 hr1⟩⟩
theorem sr_2 (hg : Gl X "range") (hm : X.mg "range" = none) (ha : PE X a (rE X f)) (hb : PE X b (rE X g)) (ho : okArg a = true) (ho' : okArg b = true) : PRg X (.Call (.Name "range" p) [a, b] [] pos) (rR X (g2 f g)) := fun pins s σ H Q I ⟨L, h, env, pp, h', hr, er, e, post⟩ => by
  obtain ⟨v, h1, e1, e⟩ := R.bind_eq_ok e
  obtain ⟨w, h2, e2, e⟩ := R.bind_eq_ok e
  obtain ⟨i, e3, e⟩ := R.of_bind e
  obtain ⟨j, e4, e⟩ := R.of_bind e
  cases e
  obtain rfl := int_of e3
  obtain rfl := int_of e4
  exact prg_2 hg hm ha hb (star_ok ho _ _) (star_ok ho' _ _) (by rw [star_ok ho']; rfl) pins s σ H Q I ⟨L, h, env, _, _, hr, er, e1, fun x L1 H1 x1 hr1 v1 => ⟨L1, h1, env, _, _, hr1, er.mono x1, e2, fun y L2 H2 x2 hr2 v2 => by
    cases v1; cases v2; exact ⟨_, _, rfl, rfl, post _ _ (x1.tr hr x2) hr2⟩⟩⟩
theorem rg_vrs {Z : Wd} {L : List Addr} {H : Hp} (lo hi : Int) : VRs Z L H ((List.range (hi - lo).toNat).map fun (i : Nat) => PV.int (lo + i)) (rgV lo hi) := by
  unfold rgV
  have : ∀ l : List Nat, VRs Z L H (l.map fun (i : Nat) => PV.int (lo + i)) (l.map fun (i : Nat) => V.int (lo + i)) := by
    intro l
    induction l with
    | nil => exact .nil
    | cons x l ih => exact .cons (.int _) ih
  exact this _
theorem rangeOf_ok {lo hi : Int} {xs : List PV} (h : rangeOf lo hi = some xs) (hl : xs.length ≤ LIM) : RgOk lo hi ∧ xs = (List.range (hi - lo).toNat).map fun (i : Nat) => PV.int (lo + i) := by
  have w := range_w h
  obtain ⟨w1, w2⟩ := wide62_ w.1
  obtain ⟨w3, w4⟩ := wide62_ w.2
  unfold rangeOf at h
  split at h
  · cases h
    rw [List.length_map, List.length_range] at hl
    exact ⟨⟨w1, w2, w3, w4, hl⟩, rfl⟩
  · cases h
variable {g : Env → PHeap → R (Int × Int)}
theorem se_listRg {al : Bool} (hc : X.calm = true) (hg : Gl X "list") (hm : X.mg "list" = none) (he : PRg X e (rR X g)) (ho : okArg e = true) : PE X (.Call (.Name "list" p) [e] [] pos) (rE X fun env h => (g env h).bind fun p h => (R.of (rangeOf p.1 p.2) h).bind fun xs h => convI .list al xs h) := ⟨fun pins s σ H Q I ⟨L, h, env, v, h', hr, er, e0, post⟩ => by
  obtain ⟨pp, h1, e1, e0⟩ := R.bind_eq_ok e0
  obtain ⟨xs, e2, e0⟩ := R.of_bind e0
  simp only [convI] at e0
  split at e0
  · rename_i hl
    obtain ⟨ok, rfl⟩ := rangeOf_ok e2 hl
    refine thn ((pe_listRg hc hg hm he (star_ok ho _ _)).run pins s σ H (fun x H' => ∃ L1 H1 p, Ext L H L1 H1 ∧ HR (wd X) L1 h1 H1 ∧ x = .ref p ∧ H1 p = none ∧ H' = upd H1 p (.lst (rgV pp.1 pp.2))) I ⟨L, h, env, pp, h1, hr, er, e1, fun L1 H1 x1 hr1 => ⟨ok, fun p hp => ⟨L1, H1, p, x1, hr1, rfl, hp, rfl⟩⟩⟩) fun u s' ⟨x, H', I', rx, L1, H1, p, x1, hr1, ex, hp, eH⟩ => ?_
    subst ex eH
    cases rx
    exact mk_ep I' hp e0 (post.aft hr x1) hr1 (rg_vrs _ _)
  · cases e0⟩
theorem se_tupRg {al : Bool} (hc : X.calm = true) (hg : Gl X "tuple") (hm : X.mg "tuple" = none) (he : PRg X e (rR X g)) (ho : okArg e = true) : PE X (.Call (.Name "tuple" p) [e] [] pos) (rE X fun env h => (g env h).bind fun p h => (R.of (rangeOf p.1 p.2) h).bind fun xs h => convI .tuple al xs h) := ⟨fun pins s σ H Q I ⟨L, h, env, v, h', hr, er, e0, post⟩ => by
  obtain ⟨pp, h1, e1, e0⟩ := R.bind_eq_ok e0
  obtain ⟨xs, e2, e0⟩ := R.of_bind e0
  simp only [convI] at e0
  split at e0
  · rename_i hl
    cases e0
    obtain ⟨ok, rfl⟩ := rangeOf_ok e2 hl
    refine Call_ (ld_blt I hg hm boot_tuple (PyProof.Rows.callWith_type1 (args_cons (thn (he pins s σ H (fun lo hi H' => lo = pp.1 ∧ hi = pp.2 ∧ ∃ L1, Ext L H L1 H' ∧ HR (wd X) L1 h' H') I ⟨L, h, env, pp, h', hr, er, e1, fun L1 H1 x1 hr1 => ⟨rfl, rfl, L1, x1, hr1⟩⟩) fun x z1 ⟨r, lo, hi, t, u, v, H1, ex, hrr, I1, e3, e4, L1, x1, hr1⟩ => args_nil ?_) (star_ok ho _ _)) (star_ok ho _ _)))
    subst ex e3 e4
    obtain ⟨b1, b2, b3, b4, b5⟩ := ok
    refine call_tuple_range (n := (pp.2 - pp.1).toNat) (I1.ok.hd hc) hrr (small_one b1 b2 b3 b4) (rangeSize_nat pp.1 pp.2) b5 fun h2 tk acc hk hi => ?_
    have J2 : Inv X pins σ H1 { z1 with heap := h2, toks := tk } := I1.kept hk
    have := tup_ep J2 hr1 (post.aft hr x1) (rg_vrs pp.1 pp.2) (vals_rg hi) (by rw [rgV_length, sizeLine_eq]; omega) tk
    rw [show acc = acc.toList.toArray by simp]
    exact this
  · cases e0⟩
/-- sorted(set(e)) -/
theorem se_sortSet {al : Bool} (hc : X.calm = true) (hu : Um X) (hg : Gl X "sorted") (hm : X.mg "sorted" = none) (hg2 : Gl X "set") (hm2 : X.mg "set" = none) (ha : PE X a (rE X f)) (ho : okArg a = true) :
    PE X (.Call (.Name "sorted" p) [.Call (.Name "set" q) [a] [] pos2] [] pos) (rE X fun env h => (f env h).bind fun v h => convop .sortedSet al v h) := ⟨fun pins s σ H Q I ⟨L, h, env, v, h', hr, er, e0, post⟩ => by
  obtain ⟨pv, h1, e1, e0⟩ := R.bind_eq_ok e0
  simp only [convop] at e0
  obtain ⟨xs, e2, e0⟩ := R.of_bind e0
  split at e0
  · rename_i ok
    simp only [Bool.and_eq_true, decide_eq_true_eq] at ok
    refine wpAny_Call_Name_kw (ld_blt I hg hm rfl ?_)
    refine callWith_builtin1 (args_cons ?_ (star_ok rfl _ _)) (star_ok rfl _ _)
    refine Call_ (ld_blt I hg2 hm2 rfl (PyProof.Rows.callWith_type1 (args_cons (thn (ha.run pins s σ H (fun x H1 => ∃ L1, Ext L H L1 H1 ∧ HR (wd X) L1 h1 H1 ∧ VR (wd X) L1 H1 pv x) I ⟨L, h, env, pv, h1, hr, er, e1, fun x L1 H1 x1 hr1 v1 => ⟨L1, x1, hr1, v1⟩⟩) fun u s1 ⟨x, H1, I1, rx, L1, x1, hr1, v1⟩ => args_nil ?_) (star_ok ho _ _)) (star_ok ho _ _)))
    obtain ⟨d, vs, rfl, h3, h4⟩ := v1.seq hr1 e2
    cases rx
    exact thn (sort_set hc hu I1 hr1 h3 h4 ok.1.1 ok.1.2 ok.2 e0 (post.aft hr x1)) fun w s2 hw => args_nil hw
  · cases e0⟩
end
end HW
/-! HwX: how a def ends: its own cells are fixed. -/
namespace HW
open PySem PySem.Spec PyProof.Rows L2 C8

theorem belowp_maps {n : Nat} : ∀ {es : List (PV × PV)}, belowp n es = true → belows n (es.map (·.1)) = true ∧ belows n (es.map (·.2)) = true
  | [], _ => ⟨rfl, rfl⟩
  | (x, y) :: es, h => by
    rw [belowp, Bool.and_eq_true, Bool.and_eq_true] at h
    obtain ⟨h1, h2⟩ := belowp_maps h.2
    rw [List.map_cons, List.map_cons, belows, belows, Bool.and_eq_true, Bool.and_eq_true]
    exact ⟨⟨h.1.1, h1⟩, h.1.2, h2⟩
theorem belows_maps {n : Nat} : ∀ {es : List (PV × PV)}, belows n (es.map (·.1)) = true → belows n (es.map (·.2)) = true → belowp n es = true
  | [], _, _ => rfl
  | (x, y) :: es, h, h' => by
    rw [List.map_cons, belows, Bool.and_eq_true] at h h'
    rw [belowp, Bool.and_eq_true, Bool.and_eq_true]
    exact ⟨⟨h.1, h'.1⟩, belows_maps h.2 h'.2⟩
theorem kP_bel (n : Nat) : ∀ (es : List (PV × PV)) (kvs : List (L2.Key × V)), es.map (·.1) = kvs.map (fun p => kP p.1) → belows n (es.map (·.1)) = true
  | [], _, _ => rfl
  | e :: es, kvs, h => by
    cases kvs with
    | nil => cases h
    | cons q kvs =>
      rw [List.map_cons, List.map_cons] at h
      injection h with h5 h6
      rw [List.map_cons, belows, Bool.and_eq_true]
      exact ⟨by rw [h5]; cases q.1 <;> rfl, kP_bel n es kvs h6⟩
section
variable {Z : Wd} {L M : List Addr} {H H' : Hp} {h : PHeap}
mutual
/-- what names live cells of L alone -/
theorem VR.bel : ∀ {p : PV} {v : V}, VR Z L H p v → below L.length p = true
  | _, _, .non => rfl
  | _, _, .bl b => rfl
  | _, _, .int b => rfl
  | _, _, .str b => rfl
  | _, _, .tup _ _ h3 => by rw [HW.below]; exact VRs.bel h3
  | _, _, .lst _ _ h3 => by rw [HW.below]; exact VRs.bel h3
  | _, _, .scr _ _ => rfl
  | _, _, .scrK _ => rfl
  | _, _, .dctK _ _ h3 h4 => by rw [HW.below]; exact belows_maps (kP_bel _ _ _ h3) (VRs.bel h4)
  | _, _, .dctT _ _ _ _ _ h5 h6 => by rw [HW.below]; exact belows_maps (VRs.bel h5) (VRs.bel h6)
  | _, _, .ref h1 => by rw [HW.below, decide_eq_true_eq]; exact (List.getElem?_eq_some_iff.mp h1).1
theorem VRs.bel : ∀ {p : List PV} {v : List V}, VRs Z L H p v → belows L.length p = true
  | _, _, .nil => rfl
  | _, _, .cons h1 h2 => by rw [belows, Bool.and_eq_true]; exact ⟨VR.bel h1, VRs.bel h2⟩
end
mutual
/-- .. may be said of L alone -/
theorem VR.trim : ∀ {p : PV} {v : V}, VR Z (L ++ M) H p v → below L.length p = true → VR Z L H p v
  | _, _, .non, _ => .non
  | _, _, .bl b, _ => .bl b
  | _, _, .int b, _ => .int b
  | _, _, .str b, _ => .str b
  | _, _, .tup h1 h2 h3, hb => .tup h1 (fun q => h2 (List.mem_append_left _ q)) (VRs.trim h3 (by rw [HW.below] at hb; exact hb))
  | _, _, .lst h1 h2 h3, hb => .lst h1 (fun q => h2 (List.mem_append_left _ q)) (VRs.trim h3 (by rw [HW.below] at hb; exact hb))
  | _, _, .scr h1 h2, _ => .scr h1 (fun q => h2 (List.mem_append_left _ q))
  | _, _, .scrK h1, _ => .scrK h1
  | _, _, .dctK h1 h2 h3 h4, hb => .dctK h1 (fun q => h2 (List.mem_append_left _ q)) h3 (VRs.trim h4 (belowp_maps (by rw [HW.below] at hb; exact hb)).2)
  | _, _, .dctT h1 h2 h0 h3 h4 h5 h6, hb => .dctT h1 (fun q => h2 (List.mem_append_left _ q)) h0 h3 h4 (VRs.trim h5 (belowp_maps (by rw [HW.below] at hb; exact hb)).1) (VRs.trim h6 (belowp_maps (by rw [HW.below] at hb; exact hb)).2)
  | _, _, .ref h1, hb => .ref (by rw [HW.below, decide_eq_true_eq] at hb; rw [List.getElem?_append_left hb] at h1; exact h1)
theorem VRs.trim : ∀ {p : List PV} {v : List V}, VRs Z (L ++ M) H p v → belows L.length p = true → VRs Z L H p v
  | _, _, .nil, _ => .nil
  | _, _, .cons h1 h2, hb => by
    rw [belows, Bool.and_eq_true] at hb
    exact .cons (VR.trim h1 hb.1) (VRs.trim h2 hb.2)
end
theorem DP.bel {a : Addr} {W : HO → Prop} {es : List (PV × PV)} (x : DP Z L H a W es) : belowp L.length es = true := by
  cases x with
  | k h1 h2 h3 => exact belows_maps (kP_bel _ _ _ h2) (VRs.bel h3)
  | t h1 h0 h2 h3 h4 h5 => exact belows_maps (VRs.bel h4) (VRs.bel h5)
theorem CR.bel {a : Addr} {c : Cell} (x : CR Z L H a c) : belowC L.length c = true := by
  cases c with
  | lst xs => obtain ⟨vs, _, h2⟩ := x; exact VRs.bel h2
  | dct es => exact DP.bel x
  | dctL es => exact DP.bel x
  | obj _ _ => exact x.elim
theorem DP.trim {a : Addr} {W W' : HO → Prop} {es : List (PV × PV)} (x : DP Z (L ++ M) H a W es) (hb : belowp L.length es = true) (ag : Agr H H') (hw : ∀ u, W u → W' u) : DP Z L H' a W' es := by
  have hb' := belowp_maps hb
  cases x with
  | k h1 h2 h3 => exact .k (hw _ h1) h2 ((VRs.trim h3 hb'.2).agr ag)
  | t h1 h0 h2 h3 h4 h5 => exact .t (hw _ h1) h0 h2 h3 ((VRs.trim h4 hb'.1).agr ag) ((VRs.trim h5 hb'.2).agr ag)
theorem CR.trim {a : Addr} {c : Cell} (x : CR Z (L ++ M) H a c) (hb : belowC L.length c = true) (ag : Agr H H') (ha : H' a = H a) : CR Z L H' a c := by
  cases c with
  | lst xs => obtain ⟨vs, h1, h2⟩ := x; exact ⟨vs, by rw [ha]; exact h1, (VRs.trim h2 hb).agr ag⟩
  | dct es => exact DP.trim x hb ag fun u e => by rw [ha]; exact e
  | dctL es => exact DP.trim x hb ag fun u ⟨o, e⟩ => ⟨o, by rw [ha]; exact e⟩
  | obj _ _ => exact x.elim
/-- what leaves, its cells fixed -/
structure Fixed (H H2 : Hp) (M : List Addr) : Prop where
  out : ∀ a, a ∉ M → H2 a = H a
  fz : ∀ a ∈ M, ∀ u, H a = some u → Mut (some u) → FzAt H2 a u
  agr : Agr H H2
  dom : ∀ a, H a ≠ none → H2 a ≠ none
mutual
theorem frz_ok {H2 : Hp} (r : HR Z (L ++ M) h H) (fx : Fixed H H2 M) : ∀ (k : Nat) {p q : PV} {v : V}, VR Z (L ++ M) H p v → frz h L.length k p = some q → VR Z L H2 q v
  | 0, _, _, _, _, e => by cases e
  | k + 1, p, q, v, vp, e => by
    unfold frz at e
    split at e
    · rename_i hb
      cases e
      exact (VR.trim vp hb).agr fx.agr
    · rename_i hb
      split at e
      · rename_i m
        cases vp with
        | @ref _ a hm =>
          have hml : L.length ≤ m := by
            rw [HW.below, decide_eq_true_eq] at hb
            omega
          have hM : a ∈ M := by
            rw [List.getElem?_append_right hml] at hm
            exact List.mem_of_getElem? hm
          have hL : a ∉ L := fun q => (List.nodup_append.mp r.nd).2.2 a q a hM rfl
          split at e
          · rename_i xs hc
            obtain ⟨ys, e1, rfl⟩ := Option.map_eq_some_iff.mp e
            obtain ⟨vs, h1, h2⟩ := r.cell _ _ _ hc hm
            exact .lst (fx.fz a hM _ h1 trivial) hL (frzs_ok r fx k h2 e1)
          · rename_i es hc
            split at e
            · rename_i hk
              obtain ⟨ys, e1, rfl⟩ := Option.map_eq_some_iff.mp e
              have len : ys.length = es.length := by
                have : ∀ (k : Nat) (xs ys : List PV), frzs h L.length k xs = some ys → ys.length = xs.length := by
                  intro k xs ys e
                  cases k with
                  | zero => cases e
                  | succ k =>
                    rw [frzs] at e
                    clear e1
                    induction xs generalizing ys with
                    | nil => cases e; rfl
                    | cons x xs ih =>
                      rw [List.mapM_cons] at e
                      obtain ⟨z, _, e⟩ := Option.bind_eq_some_iff.mp e
                      obtain ⟨zs, e3, e⟩ := Option.bind_eq_some_iff.mp e
                      cases e
                      rw [List.length_cons, List.length_cons, ih _ e3]
                rw [this _ _ _ e1, List.length_map]
              have f1 : ((es.map (·.1)).zip ys).map (·.1) = es.map (·.1) := List.map_fst_zip (by rw [List.length_map]; omega)
              have f2 : ((es.map (·.1)).zip ys).map (·.2) = ys := List.map_snd_zip (by rw [List.length_map]; omega)
              have cr : DX Z (L ++ M) H a es := r.cell _ _ _ hc hm
              cases cr with
              | k h1 h2 h3 => exact .dctK (fx.fz a hM _ h1 trivial) hL (by rw [f1]; exact h2) (by rw [f2]; exact frzs_ok r fx k h3 e1)
              | t h1 h0 h2 h3 h4 h5 =>
                refine .dctT (fx.fz a hM _ h1 trivial) hL (fun z => ?_) (by rw [f1]; exact h2) ?_ (by rw [f1]; exact (VRs.trim h4 hk).agr fx.agr) (by rw [f2]; exact frzs_ok r fx k h5 e1)
                · have := congrArg List.length f1
                  rw [z] at this
                  simp at this
                  exact h0 (List.length_eq_zero_iff.mp this.symm)
                · have g : ∀ l : List (PV × PV), (l.all fun e => keyT e.1) = (l.map (·.1)).all keyT := fun l => by rw [List.all_map]; rfl
                  rw [g, f1, ← g]
                  exact h3
            · cases e
          · cases e
      · rename_i xs
        obtain ⟨ys, e1, rfl⟩ := Option.map_eq_some_iff.mp e
        cases vp with
        | tup h1 h2 h3 =>
          obtain ⟨o, t1, t2⟩ := h1
          exact .tup ⟨o, fx.agr _ _ _ t1, t2⟩ (fun q => h2 (List.mem_append_left _ q)) (frzs_ok r fx k h3 e1)
      · rename_i xs
        obtain ⟨ys, e1, rfl⟩ := Option.map_eq_some_iff.mp e
        cases vp with
        | lst h1 h2 h3 => exact .lst (h1.agr fx.agr) (fun q => h2 (List.mem_append_left _ q)) (frzs_ok r fx k h3 e1)
      · cases e
theorem frzs_ok {H2 : Hp} (r : HR Z (L ++ M) h H) (fx : Fixed H H2 M) : ∀ (k : Nat) {p q : List PV} {v : List V}, VRs Z (L ++ M) H p v → frzs h L.length k p = some q → VRs Z L H2 q v
  | 0, _, _, _, _, e => by cases e
  | k + 1, p, q, v, vp, e => by
    rw [frzs] at e
    have go : ∀ {p q : List PV} {v : List V}, VRs Z (L ++ M) H p v → p.mapM (frz h L.length k) = some q → VRs Z L H2 q v := by
      intro p
      induction p with
      | nil => intro q v vp e; cases vp; cases e; exact .nil
      | cons x p ih =>
        intro q v vp e
        rw [List.mapM_cons] at e
        obtain ⟨z, e2, e⟩ := Option.bind_eq_some_iff.mp e
        obtain ⟨zs, e3, e⟩ := Option.bind_eq_some_iff.mp e
        cases e
        cases vp with
        | cons v1 v2 => exact .cons (frz_ok r fx k v1 e2) (ih v2 e3)
    exact go vp e
end
/-- the cells that stood ahead -/
theorem outer_ok {H0 H2 : Hp} {h0 : PHeap} (r0 : HR Z L h0 H0) (r : HR Z (L ++ M) h H) (fx : Fixed H H2 M) (ok : okOuter h0 h = true) (hl : h0.length ≤ h.length) : HR Z L (h.take h0.length) H2 := by
  have e0 := r0.len
  refine ⟨by rw [List.length_take]; omega, (List.nodup_append.mp r.nd).1, fun n c a h1 h2 => ?_⟩
  have hn : n < L.length := (List.getElem?_eq_some_iff.mp h2).1
  have h1' : h[n]? = some c := by
    rw [List.getElem?_take] at h1
    split at h1
    · exact h1
    · cases h1
  have h2' : (L ++ M)[n]? = some a := by rw [List.getElem?_append_left hn]; exact h2
  have hM : a ∉ M := fun q => (List.nodup_append.mp r.nd).2.2 a (List.mem_of_getElem? h2) a q rfl
  refine CR.trim (r.cell n c a h1' h2') ?_ fx.agr (fx.out a hM)
  unfold okOuter at ok
  have := List.all_eq_true.mp ok n (List.mem_range.mpr (by omega))
  rw [Bool.or_eq_true] at this
  rcases this with q | q
  · have q := of_decide_eq_true q
    rw [h1'] at q
    exact (r0.cell n c a q.symm h2).bel
  · rw [h1'] at q
    rw [e0]
    exact q
end
section
variable {X : Cx} {pins : List (Addr × Obj)} {σ : L2.St} {s : Shared} {L : List Addr}
/-- all of M are fixed -/
theorem fix_all : ∀ (M : List Addr) {H : Hp}, Inv X pins σ H s → ∃ H2, Inv X pins σ H2 s ∧ Fixed H H2 M
  | [], H, I => ⟨H, I, fun _ _ => rfl, (by simp), fun _ _ _ e => e, fun _ e => e⟩
  | a :: M, H, I => by
    by_cases hm : ∃ u, H a = some u ∧ Mut (some u)
    · obtain ⟨u, hu, mu⟩ := hm
      obtain ⟨od, I1⟩ := I.lock hu mu
      obtain ⟨H2, I2, fx⟩ := fix_all M I1
      have hfr : ∀ o v, H a ≠ some (.frz o v) := fun o v e => by rw [hu] at e; cases e; exact mu
      refine ⟨H2, I2, fun b hb => ?_, fun b hb v hv mv => ?_, fun b o v e => fx.agr b o v ?_, fun b e => fx.dom b ?_⟩
      · rw [fx.out b fun q => hb (List.mem_cons_of_mem _ q), upd_ne fun q => hb (by rw [q]; exact List.mem_cons_self)]
      · by_cases q : b = a
        · subst q
          rw [hu] at hv
          cases hv
          exact ⟨od, fx.agr _ _ _ upd_same⟩
        · refine fx.fz b ((List.mem_cons.mp hb).resolve_left q) v ?_ mv
          rw [upd_ne q]
          exact hv
      · rw [upd_ne fun q => hfr o v (by rw [← q]; exact e)]
        exact e
      · unfold upd; split
        · simp
        · exact e
    · obtain ⟨H2, I2, fx⟩ := fix_all M I
      refine ⟨H2, I2, fun b hb => fx.out b fun q => hb (List.mem_cons_of_mem _ q), fun b hb v hv mv => ?_, fx.agr, fx.dom⟩
      rcases List.mem_cons.mp hb with q | q
      · subst q
        exact absurd ⟨v, hv, mv⟩ hm
      · exact fx.fz b q v hv mv
/-- a def's end -/
theorem finish_ok {keep : Bool} {H H1 : Hp} {L1 : List Addr} {h h1 h' : PHeap} {v r : PV} {x : V} (hr : HR (wd X) L h H) (I : Inv X pins σ H1 s) (ex : Ext L H L1 H1) (hr1 : HR (wd X) L1 h1 H1) (vx : VR (wd X) L1 H1 v x) (e : finish keep h v h1 = .ok r h') :
    ∃ L' H', Inv X pins σ H' s ∧ Ext L H L' H' ∧ HR (wd X) L' h' H' ∧ VR (wd X) L' H' r x := by
  unfold finish at e
  split at e
  · cases e
    exact ⟨L1, H1, I, ex, hr1, vx⟩
  · split at e
    · rename_i hk
      rw [Bool.and_eq_true, decide_eq_true_eq] at hk
      split at e
      · rename_i v' hv
        cases e
        obtain ⟨M, rfl, hM⟩ := ex.pre
        obtain ⟨H2, I2, fx⟩ := fix_all M I
        rw [← hr.len] at hv
        refine ⟨L, H2, I2, ⟨⟨[], by simp, by simp⟩, fun a o hn ho => ?_, fun a ha => fx.dom a (ex.dom a ha), fun a o u ho => fx.agr _ _ _ (ex.frz _ _ _ ho)⟩, outer_ok hr hr1 fx hk.1 hk.2, frz_ok hr1 fx 12 vx hv⟩
        rw [fx.out a fun q => by rw [hM a q] at ho; cases ho]
        exact ex.keep a o hn ho
      · cases e
    · cases e
def finF (keep : Bool) (f : Env → PHeap → R Out) : Env → PHeap → R PV := fun env h => (f env h).bind fun o h1 => match o with
  | .rt v => finish keep h v h1
  | .nx _ => finish keep h .non h1
  | _ => .bad
/-- a body's reading -/
def rF (X : Cx) (keep : Bool) (f : Env → PHeap → R Out) : TS := fun D σ H => ∃ L h env r h', HR (wd X) L h H ∧ ER (wd X) L H env σ ∧ finF keep f env h = .ok r h' ∧ ∀ x L' H', Ext L H L' H' → HR (wd X) L' h' H' → VR (wd X) L' H' r x → D.rt x H' ∧ (x = .non → ∀ σ, D.nx σ H')
theorem ss_fin {body : List Stmt} {keep : Bool} {f : Env → PHeap → R Out} (ps : PSs X body (rS X f)) : PSs X body (rF X keep f) := ⟨fun pins s σ H D I ⟨L, h, env, r, h', hr, er, e, post⟩ => by
  obtain ⟨o, h1, e1, e2⟩ := R.bind_eq_ok e
  refine thn (ps.run pins s σ H ⟨fun σ1 H1 => ∃ L1 ev, o = .nx ev ∧ Ext L H L1 H1 ∧ HR (wd X) L1 h1 H1, fun x H1 => ∃ L1 v, o = .rt v ∧ Ext L H L1 H1 ∧ HR (wd X) L1 h1 H1 ∧ VR (wd X) L1 H1 v x, fun _ _ => False, fun _ _ => False⟩ I ⟨L, h, env, o, h1, hr, er, e1, fun L1 H1 x1 hr1 => ?_⟩) fun fl s1 q => ?_
  · cases o with
    | nx ev => exact fun σ1 _ => ⟨L1, ev, rfl, x1, hr1⟩
    | rt v => exact fun x vx => ⟨L1, v, rfl, x1, hr1, vx⟩
    | bk e => cases e2
    | ct e => cases e2
  · cases fl with
    | next =>
      obtain ⟨σ1, H1, I1, L1, ev, rfl, x1, hr1⟩ := q
      obtain ⟨L', H', I2, x2, hr2, v2⟩ := finish_ok hr I1 x1 hr1 .non e2
      exact ⟨σ1, H', I2, (post _ L' H' x2 hr2 v2).2 rfl σ1⟩
    | ret w =>
      obtain ⟨x, σ1, H1, I1, rx, L1, v, rfl, x1, hr1, v1⟩ := q
      obtain ⟨L', H', I2, x2, hr2, v2⟩ := finish_ok hr I1 x1 hr1 v1 e2
      exact ⟨x, σ1, H', I2, rx, (post _ L' H' x2 hr2 v2).1⟩
    | brk => obtain ⟨_, _, _, q⟩ := q; exact q.elim
    | cont => obtain ⟨_, _, _, q⟩ := q; exact q.elim⟩
end
end HW
/-! HwY: a look at the text: that a term of the small language is what is written. -/
namespace HW
open PySem PySem.Spec PyProof.Rows L2 C8

structure Ck where
  N : List Str
  fns : List (Str × Nat)
  glb : List (Str × PV) := []
def visC (sc : Scope) (x : Str) : Bool := match sc.names.lookup x with
  | some .local => true
  | some .cell => true
  | some .free => true
  | _ => false
def glC (sc : Scope) (x : Str) : Bool := match sc.names.lookup x with
  | some .globalImplicit => true
  | _ => false
/-- a name that may be stored: cl, where its own cells are told -/
def locC (sc cl : Scope) (x : Str) : Bool := match sc.names.lookup x with
  | some .local => true
  | some .cell => match cl.names.lookup x with
    | some .cell => true
    | _ => false
  | _ => false
def okNm (x : Str) : Bool := !(x == ("__debug__" : Str)) && !(x == ("__classdict__" : Str)) && !decide (x = ("__name__" : Str))
def cstC (v : PV) (x : Expr) : Bool := match v, x with
  | .non, .Constant .none _ _ => true
  | .bl b, .Constant (.bool c) _ _ => b == c
  | .int i, .Constant (.int j) _ _ => decide (i = j)
  | .str s, .Constant (.str t) _ _ => decide (s = t)
  | _, _ => false
def okSet : Expr → Bool
  | .Set .. => false
  | _ => true
def isTup : Expr → Bool
  | .Tuple .. => true
  | _ => false
def bltNm : List Str := ["len", "abs", "max", "min", "int", "isinstance", "sorted", "list", "tuple", "sum", "all", "any", "dict", "set", "range", "enumerate", "zip", "bool", "str"]
def bNm : Blt → Str
  | .len => "len" | .abs => "abs" | .max2 => "max" | .min2 => "min" | .int => "int" | _ => ""
def cNm : Cnv → Str
  | .list => "list" | .tuple => "tuple" | .sorted => "sorted" | .sum => "sum" | .all => "all" | .any => "any" | .max => "max" | .min => "min" | .dict => "dict" | _ => ""
def mNm : Mth → Str
  | .dget => "get" | .dget1 => "get" | .lapp => "append" | .lext => "extend" | .lpop => "pop" | .lpopAt => "pop" | _ => ""
/-- a built-in's name at this place *)-/
def bC (sc : Scope) (n m : Str) : Bool := decide (n = m) && glC sc n && bltNm.contains n
def tysC (sc : Scope) : List Expr → List String → Bool
  | [], [] => true
  | .Name n _ :: es, T :: ts => decide (n = Str.ofString T) && bC sc n n && tyNames.contains T && tysC sc es ts
  | _, _ => false
def ownP (N : List Str) : List Nat → Option (List (Str × Nat))
  | [] => some []
  | i :: r => match N[i]?, ownP N r with
    | some x, some l => some ((x, i) :: l)
    | _, _ => none
mutual
def kTg (N : List Str) (sc cl : Scope) : Tg → Expr → Bool
  | .nm i, .Name x _ => decide (N[i]? = some x) && locC sc cl x
  | .tp ts, .Tuple es _ _ => es.all okArg && decide (es.length = ts.length) && kTgs N sc cl ts es
  | _, _ => false
def kTgs (N : List Str) (sc cl : Scope) : List Tg → List Expr → Bool
  | [], [] => true
  | t :: ts, e :: es => kTg N sc cl t e && kTgs N sc cl ts es
  | _, _ => false
end
mutual
def kE (G : Ck) (t : IE) (sc : Scope) (x : Expr) : Bool := match t with
  | .var i => match x with
    | .Name n _ => decide (G.N[i]? = some n) && visC sc n && okNm n
    | _ => false
  | .cst v => cstC v x
  | .glob g v => match x with
    | .Name n _ => decide (g = n) && glC sc n && okNm n && G.glb.any (fun p => decide (p.1 = n) && decide (p.2 = v))
    | _ => false
  | .tup es => match x with
    | .Tuple xs _ _ => decide (xs.length ≤ 1000) && kEs G es sc xs
    | _ => false
  | .lst _ es => match x with
    | .List xs _ => decide (xs.length ≤ 1000) && kEs G es sc xs
    | _ => false
  | .dct _ kvs => match kvs, x with
    | .nil, .Dict [] [] _ => true
    | _, _ => false
  | .bin op a b => match x with
    | .BinOp l o r _ => decide (o = pyB op) && kE G a sc l && kE G b sc r
    | _ => false
  | .neg a => match x with
    | .UnaryOp .USub l _ => kE G a sc l
    | _ => false
  | .not a => match x with
    | .UnaryOp .Not l _ => kE G a sc l
    | _ => false
  | .cmp op a b => match x with
    | .Compare l [o] [r] _ => decide (o = pyC op) && !behindInMarks o r && kE G a sc l && kE G b sc r
    | _ => false
  | .cmp2 op op' a b c => match x with
    | .Compare l [o, o'] [m, r] _ => decide (o = pyC op) && decide (o' = pyC op') && !lastMarks [o, o'] [m, r] && kE G a sc l && kE G b sc m && kE G c sc r
    | _ => false
  | .and a b => match x with
    | .BoolOp .And (l :: r :: rest) p => kE G a sc l && (if rest.isEmpty then kE G b sc r else kE G b sc (.BoolOp .And (r :: rest) p))
    | _ => false
  | .or a b => match x with
    | .BoolOp .Or (l :: r :: rest) p => kE G a sc l && (if rest.isEmpty then kE G b sc r else kE G b sc (.BoolOp .Or (r :: rest) p))
    | _ => false
  | .ife c a b => match x with
    | .IfExp t l r _ => kE G c sc t && kE G a sc l && kE G b sc r
    | _ => false
  | .sub a i => match x with
    | .Subscript l j _ => okIx j && kE G a sc l && kE G i sc j
    | _ => false
  | .slice a lo hi => match x with
    | .Subscript l (.Slice u v none _) _ => kE G a sc l && kO G lo sc u && kO G hi sc v
    | _ => false
  | .rev a st => match x with
    | .Subscript l (.Slice none none (some y) _) _ => kE G a sc l && kE G st sc y
    | _ => false
  | .call f es => match x with
    | .Call (.Name n _) args [] _ => (match G.fns[f]? with
        | some (m, k) => decide (m = n) && decide (args.length = k)
        | none => false) && glC sc n && okNm n && args.all okArg && kEs G es sc args
    | _ => false
  | .blt f es => match f with
    | .isi T => match es, x with
      | .cons e .nil, .Call (.Name n _) [a, .Name m _] [] _ => bC sc n "isinstance" && decide (m = Str.ofString T) && bC sc m m && tyNames.contains T && okArg a && kE G e sc a
      | _, _ => false
    | .isiT ts => match es, x with
      | .cons e .nil, .Call (.Name n _) [a, .Tuple tys _ _] [] _ => bC sc n "isinstance" && tysC sc tys ts && decide (ts.length ≤ 100) && okArg a && kE G e sc a
      | _, _ => false
    | .repr => false
    | f => match x with
      | .Call (.Name n _) (a :: args) [] _ => bC sc n (bNm f) && (a :: args).all okArg && kEs G es sc (a :: args)
      | _ => false
  | .meth m o es => match x with
    | .Call (.Attribute l nm ap) args [] cp => decide (nm = mNm m) && decide (mNm m ≠ "") && okBase l && (ap.endLine == cp.line) && args.all okArg && decide (args.length < 30) && kE G o sc l && kEs G es sc args
    | _ => false
  | .conv k _ e => match k with
    | .sortedSet => match x with
      | .Call (.Name n _) [.Call (.Name m _) [a] [] _] [] _ => bC sc n "sorted" && bC sc m "set" && okArg a && kE G e sc a
      | _ => false
    | .lenSet => false
    | k => match x with
      | .Call (.Name n _) [a] [] _ => bC sc n (cNm k) && okArg a && kE G e sc a
      | _ => false
  | .convI k _ it => match it, x with
    | .rng1 e, .Call (.Name n _) [.Call (.Name m _) [a] [] _] [] _ => (decide (k = .list) || decide (k = .tuple)) && bC sc n (cNm k) && bC sc m "range" && okArg a && kE G e sc a
    | .rng2 e e', .Call (.Name n _) [.Call (.Name m _) [a, b] [] _] [] _ => (decide (k = .list) || decide (k = .tuple)) && bC sc n (cNm k) && bC sc m "range" && okArg a && okArg b && kE G e sc a && kE G e' sc b
    | _, _ => false
  | .comp _ own tg it ifs elt => match x with
    | .ListComp e [⟨tge, iter, ifs', 0⟩] scope _ => kI G it sc (isTp tg) tge iter && (match ownP G.N own with
        | some ow => blkC G.N sc scope ow
        | none => false) && (tgIx tg).all (own.contains ·) && kTg G.N (relS scope sc) scope tg tge && kIfs G ifs (relS scope sc) ifs' && kE G elt (relS scope sc) e
    | _ => false
  | .dcomp _ own tg it ifs k v => match x with
    | .DictComp e e' [⟨tge, iter, ifs', 0⟩] scope _ => kI G it sc (isTp tg) tge iter && (match ownP G.N own with
        | some ow => blkC G.N sc scope ow
        | none => false) && (tgIx tg).all (own.contains ·) && kTg G.N (relS scope sc) scope tg tge && kIfs G ifs (relS scope sc) ifs' && kE G k (relS scope sc) e && kE G v (relS scope sc) e'
    | _ => false
def kEs (G : Ck) (ts : IEs) (sc : Scope) (xs : List Expr) : Bool := match ts, xs with
  | .nil, [] => true
  | .cons t ts, x :: xs => okArg x && kE G t sc x && kEs G ts sc xs
  | _, _ => false
def kIfs (G : Ck) (ts : IEs) (sc : Scope) (xs : List Expr) : Bool := match ts, xs with
  | .nil, [] => true
  | .cons t .nil, [x] => kE G t sc x
  | _, _ => false
def kO (G : Ck) (t : IO) (sc : Scope) (x : Option Expr) : Bool := match t, x with
  | .none, none => true
  | .some t, some x => kE G t sc x
  | _, _ => false
def kI (G : Ck) (t : II) (sc : Scope) (tp : Bool) (tge x : Expr) : Bool := match t with
  | .ex e => okSet x && kE G e sc x
  | .rng1 e => match x with
    | .Call (.Name n _) [a] [] _ => bC sc n "range" && okArg a && kE G e sc a
    | _ => false
  | .rng2 e e' => match x with
    | .Call (.Name n _) [a, b] [] _ => bC sc n "range" && okArg a && okArg b && kE G e sc a && kE G e' sc b
    | _ => false
  | .enum e => match x with
    | .Call (.Name n _) [a] [] _ => tp && isTup tge && bC sc n "enumerate" && okArg a && kE G e sc a
    | _ => false
  | .zip e e' => match x with
    | .Call (.Name n _) [a, b] [] _ => tp && isTup tge && bC sc n "zip" && okArg a && okArg b && kE G e sc a && kE G e' sc b
    | _ => false
  | .items e => match x with
    | .Call (.Attribute l nm ap) [] [] cp => tp && isTup tge && decide (nm = "items") && okBase l && (ap.endLine == cp.line) && kE G e sc l
    | _ => false
  | .values e => match x with
    | .Call (.Attribute l nm ap) [] [] cp => decide (nm = "values") && okBase l && (ap.endLine == cp.line) && kE G e sc l
    | _ => false
end
end HW
/-! HwZ: the look is right: expressions. -/
namespace HW
open PySem PySem.Spec PyProof.Rows L2 C8

structure Gd (G : Ck) (ctx : List Sem) (X : Cx) : Prop where
  hN : X.N = G.N
  nd : X.N.Nodup
  calm : X.calm = true
  um : Um X
  pass : PassesOwn (model X.prog X.w) X.A X.env X.xe
  fns : ∀ (f : Nat) (n : Str) (k : Nat), G.fns[f]? = some (n, k) → ∃ (j m : Nat) (sem : Sem), ctx[f]? = some sem ∧ Room j X.A ∧ m ≤ j ∧ Cal X.prog X.w X.K X.mg X.base m n (spS (wd X) k sem) []
  blt : ∀ x ∈ bltNm, X.mg x = none
  glb : ∀ x v, (x, v) ∈ G.glb → ∃ u w, X.mg x = some u ∧ cOk v = some w ∧ RelV w u
theorem Gd.blk {G : Ck} {ctx : List Sem} {X : Cx} (g : Gd G ctx X) (s : Shared) (H : Hp) (sco : Scope) (cenv : PySem.Env) (fp : List Addr) : Gd G ctx (X.blk s H sco cenv fp) :=
  ⟨g.hN, g.nd, g.calm, g.um, PassesOwn.never, g.fns, g.blt, g.glb⟩
def isBO : Expr → Bool
  | .BoolOp .. => true
  | _ => false
/-- what is known of an expression that was looked at -/
structure OkX (X : Cx) (x : Expr) (f : Env → PHeap → R PV) : Prop where
  e : PE X x (rE X f)
  t : PT X x (rT X (dTr f))
  w : isBO x = true → PW X x (rT X (dTr f))
section
variable {G : Ck} {ctx : List Sem} {X : Cx} {x : Expr} {f : Env → PHeap → R PV}
theorem OkX.plain (hu : Um X) (pe : PE X x (rE X f)) (ho : okTest x = true) : OkX X x f := ⟨pe, st_plain hu pe (test_ok ho _), fun h => by cases x <;> simp [isBO, okTest] at h ho⟩
theorem visC_ok {sc : Scope} {n : Str} (h : visC sc n = true) : Vis sc n := by
  unfold visC at h
  split at h
  · rename_i q; exact .inl q
  · rename_i q; exact .inr (.inl q)
  · rename_i q; exact .inr (.inr q)
  · cases h
theorem glC_ok {n : Str} (h : glC X.env.scope n = true) : Gl X n := by
  unfold glC at h
  split at h
  · rename_i q; exact q
  · cases h
theorem okNm_ok {n : Str} (h : okNm n = true) : (n == ("__debug__" : Str)) = false ∧ (n == ("__classdict__" : Str)) = false ∧ n ≠ "__name__" := by
  unfold okNm at h
  simp only [Bool.and_eq_true, Bool.not_eq_true', decide_eq_false_iff_not] at h
  exact ⟨h.1.1, h.1.2, h.2⟩
theorem cstC_ok {v : PV} (h : cstC v x = true) : PE X x (rE X fun _ h => .ok v h) ∧ okTest x = true := by
  unfold cstC at h
  split at h
  · exact ⟨se_c rfl pe_non, rfl⟩
  · have := eq_of_beq h; subst this; exact ⟨se_c rfl pe_bl, rfl⟩
  · have := of_decide_eq_true h; subst this; exact ⟨se_c rfl pe_int, rfl⟩
  · have := of_decide_eq_true h; subst this; exact ⟨se_c rfl pe_str, rfl⟩
  · cases h
theorem bltNm_ok : ∀ n ∈ bltNm, okNm n = true := by decide +kernel
theorem bC_ok (g : Gd G ctx X) {n m : Str} (h : bC X.env.scope n m = true) : n = m ∧ Gl X n ∧ X.mg n = none ∧ (n == ("__debug__" : Str)) = false ∧ n ≠ "__name__" := by
  unfold bC at h
  simp only [Bool.and_eq_true, decide_eq_true_eq] at h
  have hm : n ∈ bltNm := by simpa using h.2
  have := okNm_ok (bltNm_ok n hm)
  exact ⟨h.1.1, glC_ok h.1.2, g.blt n hm, this.1, this.2.2⟩
theorem ty_boot : ∀ T ∈ tyNames, bootBuiltins (Str.ofString T) = some (.type T) := by
  intro T hT
  simp only [tyNames, List.mem_cons, List.not_mem_nil, or_false] at hT
  rcases hT with rfl | rfl | rfl | rfl | rfl | rfl | rfl <;> rfl
theorem tysC_ok (g : Gd G ctx X) : ∀ {es : List Expr} {ts : List String}, tysC X.env.scope es ts = true → Paired (fun e T => okArg e = true ∧ PE X e (tC (.ty T))) es ts
  | [], [], _ => .nil
  | [], _ :: _, h => by simp [tysC] at h
  | e :: es, [], h => by cases e <;> simp [tysC] at h
  | e :: es, T :: ts, h => by
    cases e <;> try (simp [tysC] at h; done)
    rename_i n p
    rw [tysC] at h
    simp only [Bool.and_eq_true, decide_eq_true_eq] at h
    obtain ⟨⟨⟨h1, h2⟩, h3⟩, h4⟩ := h
    obtain ⟨_, b1, b2, b3, b4⟩ := bC_ok g h2
    refine .cons ⟨rfl, pe_bltn b1 b2 (by rw [h1]; exact ty_boot T (by simpa using h3)) rfl b4 b3⟩ (tysC_ok g h4)
theorem ownP_ok {N : List Str} : ∀ {own : List Nat} {ow : List (Str × Nat)}, ownP N own = some ow → ow.map (·.2) = own
  | [], ow, h => by cases h; rfl
  | i :: r, ow, h => by
    rw [ownP] at h
    split at h
    · rename_i y l h1 h2
      cases h
      rw [List.map_cons, ownP_ok h2]
    · cases h
theorem fold_ok (h : okSet x = true) (env : PySem.Env) : ∀ v, foldedSetIterable x env v = pure v := fun v => by
  cases x <;> first | rfl | cases h
theorem ofT_get : OfT .dget "dict" := ofT_dict (m := .dget) fun _ _ h => h
theorem ofT_get1 : OfT .dget1 "dict" := ofT_dict (m := .dget1) fun _ _ h => h
theorem ofT_app : OfT .lapp "list" := ofT_list (m := .lapp) fun _ _ h => h
theorem ofT_ext : OfT .lext "list" := ofT_list (m := .lext) fun _ _ h => h
theorem ofT_pop : OfT .lpop "list" := ofT_list (m := .lpop) fun _ _ h => h
theorem ofT_popAt : OfT .lpopAt "list" := ofT_list (m := .lpopAt) fun _ _ h => h
/-- a method -/
theorem meth_ok (g : Gd G ctx X) {m : Mth} {fs : Env → PHeap → R (List PV)} {o : Expr} {es : List Expr} {ap cp : Pos} (hm : mNm m ≠ "") (ho : PE X o (rE X f)) (ha : PA X es (rA X fs)) (hok : es.all okArg = true) (hl : es.length < 30) (hbase : okBase o = true) (hline : (ap.endLine == cp.line) = true)
    (h0 : es = [] → fs = nilF) : PE X (.Call (.Attribute o (mNm m) ap) es [] cp) (rE X (methF m f fs)) := by
  have hu := g.um
  have go : ∀ {T id : String} (tyOk : OfT m T) (pa : PlainAttrs T) (slot : Slot T (mNm m) id) (hty : typeOf (.builtin id) = pure (.type "method_descriptor")) (hm : MtR X id (rMth X m)), PE X (.Call (.Attribute o (mNm m) ap) es [] cp) (rE X (methF m f fs)) := by
    intro T id tyOk pa slot hty hm
    cases es with
    | nil => rw [h0 rfl]; exact se_meth0 tyOk pa slot hty hm ho hbase hline
    | cons a es => exact se_meth tyOk pa slot hty hm ho ha hok hl hbase hline
  cases m with
  | dget => exact go ofT_get PySem.F.plainAttrs_dict PySem.F.slot_dict_get PySem.F.type_dict_get (mt_getD hu)
  | dget1 => exact go ofT_get1 PySem.F.plainAttrs_dict PySem.F.slot_dict_get PySem.F.type_dict_get (mt_getD1 hu)
  | lapp => exact go ofT_app PySem.F.plainAttrs_list PySem.F.slot_list_append PySem.F.type_list_append mt_app
  | lext => exact go ofT_ext PySem.F.plainAttrs_list PySem.F.slot_list_extend PySem.F.type_list_extend mt_ext
  | lpop => exact go ofT_pop PySem.F.plainAttrs_list PySem.F.slot_list_pop PySem.F.type_list_pop mt_popL
  | lpopAt => exact go ofT_popAt PySem.F.plainAttrs_list PySem.F.slot_list_pop PySem.F.type_list_pop mt_popAtL
  | _ => exact absurd rfl hm
end
end HW
/-! HxA: the look is right: expressions, the one theorem. -/
namespace HW
open PySem PySem.Spec PyProof.Rows L2 C8

section
variable {G : Ck} {ctx : List Sem} {X : Cx} {x : Expr} {f : Env → PHeap → R PV}
theorem sg_nmL (hN : X.N.Nodup) {i : Nat} {n : Str} {pos : Pos} (hi : X.N[i]? = some n) (hx : Loc X.env.scope n) (hf : X.fn n = true ∨ X.env.scope.names.lookup n = some .local) : PG X (.Name n pos) (rG X (.nm i)) :=
  imG (pg_name hN hi hx hf) fun v σ H Q ⟨L, h, env, p, env', hr, er, y, e, q⟩ => by
  rw [tgSet] at e
  split at e
  · cases e
    exact q _ (er.set y) fun vs hv => wipe_set (hv i (by simp [tgIx]))
  · cases e
theorem locC_ok {sc cl : Scope} {n : Str} (h : locC sc cl n = true) : Loc sc n ∧ (cl.names.lookup n = some .cell ∨ sc.names.lookup n = some .local) := by
  unfold locC at h
  split at h
  · rename_i q; exact ⟨.inl q, .inr q⟩
  · rename_i q
    split at h
    · rename_i q2; exact ⟨.inr q, .inl q2⟩
    · cases h
  · cases h
mutual
theorem kTg_ok {cl : Scope} (hc : X.calm = true) (hN : X.N.Nodup) (hcl : ∀ n, cl.names.lookup n = some .cell → X.fn n = true) : ∀ (t : Tg) {e : Expr}, kTg X.N X.env.scope cl t e = true → PG X e (rG X t)
  | .nm i, e, h => by
    cases e <;> try (simp [kTg] at h; done)
    simp only [kTg, Bool.and_eq_true, decide_eq_true_eq] at h
    obtain ⟨l1, l2⟩ := locC_ok h.2
    exact sg_nmL hN h.1 l1 (l2.imp (hcl _) id)
  | .tp ts, e, h => by
    cases e <;> try (simp [kTg] at h; done)
    simp only [kTg, Bool.and_eq_true, decide_eq_true_eq] at h
    exact sg_tp hc (kTgs_ok hc hN hcl ts h.2 h.1.1) h.1.1 h.1.2
theorem kTgs_ok {cl : Scope} (hc : X.calm = true) (hN : X.N.Nodup) (hcl : ∀ n, cl.names.lookup n = some .cell → X.fn n = true) : ∀ (ts : List Tg) {es : List Expr}, kTgs X.N X.env.scope cl ts es = true → es.all okArg = true → PGs X es (rGs X ts)
  | [], es, h, _ => by
    cases es with
    | nil => exact sgs_nil
    | cons e es => simp [kTgs] at h
  | t :: ts, es, h, ho => by
    cases es with
    | nil => simp [kTgs] at h
    | cons e es =>
      simp only [kTgs, Bool.and_eq_true] at h
      rw [List.all_cons, Bool.and_eq_true] at ho
      exact sgs_cons (kTg_ok hc hN hcl t h.1) (kTgs_ok hc hN hcl ts h.2 ho.2) ho.1
end
theorem dEs_len (ctx : List Sem) : ∀ (ts : IEs) {env : Env} {h h' : PHeap} {vs : List PV} {sc : Scope} {xs : List Expr}, kEs G ts sc xs = true → dEs ctx ts env h = .ok vs h' → vs.length = xs.length
  | .nil, env, h, h', vs, sc, xs, k, e => by
    cases xs with
    | nil => cases e; rfl
    | cons _ _ => simp [kEs] at k
  | .cons t ts, env, h, h', vs, sc, xs, k, e => by
    cases xs with
    | nil => simp [kEs] at k
    | cons x xs =>
      simp only [kEs, Bool.and_eq_true] at k
      obtain ⟨v, h1, _, e⟩ := R.bind_eq_ok e
      obtain ⟨ws, h2, e2, e⟩ := R.bind_eq_ok e
      cases e
      rw [List.length_cons, List.length_cons, dEs_len ctx ts k.2 e2]
theorem kEs_nil (ctx : List Sem) {ts : IEs} {sc : Scope} (k : kEs G ts sc [] = true) : dEs ctx ts = nilF := by
  cases ts with
  | nil => rfl
  | cons _ _ => simp [kEs] at k
theorem okArgs_of {sc : Scope} : ∀ {ts : IEs} {xs : List Expr}, kEs G ts sc xs = true → xs.all okArg = true
  | .nil, [], _ => rfl
  | .nil, _ :: _, k => by simp [kEs] at k
  | .cons _ _, [], k => by simp [kEs] at k
  | .cons t ts, x :: xs, k => by
    simp only [kEs, Bool.and_eq_true] at k
    rw [List.all_cons, Bool.and_eq_true]
    exact ⟨k.1.1, okArgs_of k.2⟩
/-- one test, or none -/
def ifsF (ctx : List Sem) (ts : IEs) : Env → PHeap → R Bool := dIfs ctx ts
theorem if1 (t : IE) : dIfs ctx (.cons t .nil) = dTr (dE ctx t) := by
  funext env h
  show (dE ctx t env h).bind (fun v h => (R.of (tru h v) h).bind fun b h => if b = true then R.ok true h else .ok false h) = (dE ctx t env h).bind fun v h => R.of (tru h v) h
  congr 1
  funext v h
  cases tru h v with
  | none => rfl
  | some b => cases b <;> rfl
theorem isTup_ok (h : isTup x = true) : ∃ es k p, x = .Tuple es k p := by
  cases x <;> first | exact ⟨_, _, _, rfl⟩ | cases h
/-- list(range), tuple(range) as they are told -/
theorem conv_rng {k : Cnv} {al : Bool} {g : Env → PHeap → R (Int × Int)} {F : Env → PHeap → R PV} (h : ∀ env h v h', F env h = .ok v h' → ((g env h).bind fun p h => (R.of (rangeOf p.1 p.2) h).bind fun xs h => convI k al xs h) = .ok v h')
    (pe : PE X x (rE X fun env h => (g env h).bind fun p h => (R.of (rangeOf p.1 p.2) h).bind fun xs h => convI k al xs h)) : PE X x (rE X F) :=
  imE pe fun σ H Q ⟨L, hh, env, v, h', hr, er, e, post⟩ => ⟨L, hh, env, v, h', hr, er, h _ _ _ _ e, post⟩
theorem rng1_eq {al : Bool} {k : Cnv} {e : IE} {env : Env} {h h' : PHeap} {v : PV} (eq : dE ctx (.convI k al (.rng1 e)) env h = .ok v h') : ((g1 (dE ctx e) env h).bind fun p h => (R.of (rangeOf p.1 p.2) h).bind fun xs h => convI k al xs h) = .ok v h' := by
  obtain ⟨p, h1, e1, e2⟩ := R.bind_eq_ok (show ((dI ctx (.rng1 e) env h).bind fun p h => convI k al p.1 h) = .ok v h' from eq)
  obtain ⟨w, h2, e3, e4⟩ := R.bind_eq_ok e1
  obtain ⟨xs, e5, e6⟩ := R.of_bind e4
  cases e6
  obtain ⟨j, e7, e8⟩ := Option.bind_eq_some_iff.mp e5
  unfold g1
  rw [e3]
  simp only [R.bind_ok, e7, R.of_some]
  rw [e8]
  exact e2
theorem rng2_eq {al : Bool} {k : Cnv} {e e' : IE} {env : Env} {h h' : PHeap} {v : PV} (eq : dE ctx (.convI k al (.rng2 e e')) env h = .ok v h') : ((g2 (dE ctx e) (dE ctx e') env h).bind fun p h => (R.of (rangeOf p.1 p.2) h).bind fun xs h => convI k al xs h) = .ok v h' := by
  obtain ⟨p, h1, e1, e2⟩ := R.bind_eq_ok (show ((dI ctx (.rng2 e e') env h).bind fun p h => convI k al p.1 h) = .ok v h' from eq)
  obtain ⟨w, h2, e3, e4⟩ := R.bind_eq_ok e1
  obtain ⟨w', h3, e3', e4⟩ := R.bind_eq_ok e4
  obtain ⟨xs, e5, e6⟩ := R.of_bind e4
  cases e6
  obtain ⟨i, e7, e8⟩ := Option.bind_eq_some_iff.mp e5
  obtain ⟨j, e9, e10⟩ := Option.bind_eq_some_iff.mp e8
  unfold g2
  rw [e3]
  simp only [R.bind_ok]
  rw [e3']
  simp only [R.bind_ok, e7, e9, R.of_some]
  rw [e10]
  exact e2
set_option maxHeartbeats 4000000 in
mutual
theorem okE : ∀ (t : IE) {X : Cx} {x : Expr}, Gd G ctx X → kE G t X.env.scope x = true → OkX X x (dE ctx t)
  | .var i, X, x, g, h => by
    unfold kE at h
    split at h
    · simp only [Bool.and_eq_true, decide_eq_true_eq] at h
      have n3 := okNm_ok h.2
      exact .plain g.um (se_var (by rw [g.hN]; exact h.1.1) (visC_ok h.1.2) n3.1 n3.2.1) rfl
    · cases h
  | .cst v, X, x, g, h => by
    unfold kE at h
    obtain ⟨h1, h2⟩ := cstC_ok (X := X) h
    exact .plain g.um h1 h2
  | .glob gn v, X, x, g, h => by
    unfold kE at h
    split at h
    · simp only [Bool.and_eq_true, decide_eq_true_eq, List.any_eq_true] at h
      obtain ⟨⟨⟨rfl, h2⟩, h3⟩, ⟨p, hp, h4, h5⟩⟩ := h
      have n3 := okNm_ok h3
      obtain ⟨u, w, m1, m2, m3⟩ := g.glb p.1 p.2 hp
      rw [h4] at m1
      rw [h5] at m2
      exact .plain g.um (se_c m2 (pe_glob (glC_ok h2) m1 m3 n3.1)) rfl
    · cases h
  | .tup es, X, x, g, h => by
    unfold kE at h
    split at h
    · simp only [Bool.and_eq_true, decide_eq_true_eq] at h
      exact .plain g.um (se_tup (okEs es g h.2) fun env hh vs h' e => by rw [dEs_len ctx es h.2 e, sizeLine_eq]; omega) rfl
    · cases h
  | .lst al es, X, x, g, h => by
    unfold kE at h
    split at h
    · simp only [Bool.and_eq_true, decide_eq_true_eq] at h
      exact .plain g.um (se_lst (okEs es g h.2) fun env hh vs h' e => by rw [dEs_len ctx es h.2 e, sizeLine_eq]; omega) rfl
    · cases h
  | .dct al kvs, X, x, g, h => by
    unfold kE at h
    split at h
    · exact .plain g.um se_dct0 rfl
    · cases h
  | .bin op a b, X, x, g, h => by
    unfold kE at h
    split at h
    · simp only [Bool.and_eq_true, decide_eq_true_eq] at h
      obtain ⟨⟨rfl, h1⟩, h2⟩ := h
      exact .plain g.um (se_bin (okE a g h1).e (okE b g h2).e) rfl
    · cases h
  | .neg a, X, x, g, h => by
    unfold kE at h
    split at h
    · rename_i l p
      have pe := se_neg (pos := p) (okE a g h).e
      exact ⟨pe, st_plain g.um pe fun _ => rfl, fun q => by cases q⟩
    · cases h
  | .not a, X, x, g, h => by
    unfold kE at h
    split at h
    · exact ⟨se_not g.um (okE a g h).e, st_not (okE a g h).t, fun q => by cases q⟩
    · cases h
  | .cmp op a b, X, x, g, h => by
    unfold kE at h
    split at h
    · simp only [Bool.and_eq_true, decide_eq_true_eq, Bool.not_eq_true'] at h
      obtain ⟨⟨⟨rfl, h0⟩, h1⟩, h2⟩ := h
      exact ⟨se_cmp g.um (okE a g h1).e (okE b g h2).e h0, st_cmp g.um (okE a g h1).e (okE b g h2).e h0, fun q => by cases q⟩
    · cases h
  | .cmp2 op op' a b c, X, x, g, h => by
    unfold kE at h
    split at h
    · simp only [Bool.and_eq_true, decide_eq_true_eq, Bool.not_eq_true'] at h
      obtain ⟨⟨⟨⟨⟨rfl, rfl⟩, h0⟩, h1⟩, h2⟩, h3⟩ := h
      exact ⟨se_cmp2 g.um (okE a g h1).e (okE b g h2).e (okE c g h3).e h0, st_cmp2 g.um (okE a g h1).e (okE b g h2).e (okE c g h3).e h0, fun q => by cases q⟩
    · cases h
  | .and a b, X, x, g, h => by
    unfold kE at h
    split at h
    · rename_i l r rest p
      rw [Bool.and_eq_true] at h
      have ha := okE a g h.1
      have hb : PE X (.BoolOp .And (r :: rest) p) (rE X (dE ctx b)) ∧ PW X (.BoolOp .And (r :: rest) p) (rT X (dTr (dE ctx b))) := by
        cases rest with
        | nil => have := okE b g (by simpa using h.2); exact ⟨pe_one this.e, pw_and1 this.t⟩
        | cons z zs => have := okE b g (by simpa using h.2); exact ⟨this.e, this.w rfl⟩
      have w := sw_and ha.t hb.2
      exact ⟨se_and g.um ha.e hb.1, w.pt, fun _ => w⟩
    · cases h
  | .or a b, X, x, g, h => by
    unfold kE at h
    split at h
    · rename_i l r rest p
      rw [Bool.and_eq_true] at h
      have ha := okE a g h.1
      have hb : PE X (.BoolOp .Or (r :: rest) p) (rE X (dE ctx b)) ∧ PW X (.BoolOp .Or (r :: rest) p) (rT X (dTr (dE ctx b))) := by
        cases rest with
        | nil => have := okE b g (by simpa using h.2); exact ⟨pe_one this.e, pw_or1 this.t⟩
        | cons z zs => have := okE b g (by simpa using h.2); exact ⟨this.e, this.w rfl⟩
      have w := sw_or ha.t hb.2
      exact ⟨se_or g.um ha.e hb.1, w.pt, fun _ => w⟩
    · cases h
  | .ife c a b, X, x, g, h => by
    unfold kE at h
    split at h
    · simp only [Bool.and_eq_true] at h
      exact ⟨se_ife (okE c g h.1.1).t (okE a g h.1.2).e (okE b g h.2).e, st_ife (okE c g h.1.1).t (okE a g h.1.2).t (okE b g h.2).t, fun q => by cases q⟩
    · cases h
  | .sub a i, X, x, g, h => by
    unfold kE at h
    split at h
    · simp only [Bool.and_eq_true] at h
      exact .plain g.um (se_ix (okE a g h.1.2).e (okE i g h.2).e (ix_ok h.1.1) g.um) rfl
    · cases h
  | .slice a lo hi, X, x, g, h => by
    unfold kE at h
    split at h
    · simp only [Bool.and_eq_true] at h
      exact .plain g.um (se_sl (okE a g h.1.1).e (okO lo g h.1.2) (okO hi g h.2)) rfl
    · cases h
  | .rev a st, X, x, g, h => by
    unfold kE at h
    split at h
    · simp only [Bool.and_eq_true] at h
      exact .plain g.um (se_rev (okE a g h.1).e (okE st g h.2).e) rfl
    · cases h
  | .call f es, X, x, g, h => by
    unfold kE at h
    split at h
    · rename_i n p args pos
      simp only [Bool.and_eq_true] at h
      obtain ⟨⟨⟨⟨h1, h2⟩, h3⟩, h4⟩, h5⟩ := h
      have n3 := okNm_ok h3
      split at h1
      · rename_i m k hf
        simp only [Bool.and_eq_true, decide_eq_true_eq] at h1
        obtain ⟨rfl, hk⟩ := h1
        obtain ⟨j, lv, sem, hs, hr, hj, cc⟩ := g.fns f m k hf
        have hd : dE ctx (.call f es) = fun env h => (dEs ctx es env h).bind fun vs h => sem vs h := by
          funext env h
          show ((dEs ctx es env h).bind fun vs h => (ctx.getD f fun _ _ => .bad) vs h) = _
          rw [List.getD_eq_getElem?_getD, hs]
          rfl
        rw [hd]
        cases args with
        | cons a args => exact .plain g.um (se_call cc hr hj (glC_ok h2) n3.1 (okEs es g h5) h4 fun env hh vs h' e => by rw [dEs_len ctx es h5 e]; exact hk) rfl
        | nil =>
          have e0 : k = 0 := by rw [← hk]; rfl
          subst e0
          rw [kEs_nil ctx h5]
          exact .plain g.um (se_call0 cc hr hj (glC_ok h2) n3.1) rfl
      · cases h1
    · cases h
  | .blt f es, X, x, g, h => by
    unfold kE at h
    cases f with
    | isi T =>
      dsimp only at h
      split at h
      · rename_i e n p a m p' pos
        simp only [Bool.and_eq_true, decide_eq_true_eq] at h
        obtain ⟨⟨⟨⟨⟨h1, rfl⟩, h3⟩, h4⟩, h5⟩, h6⟩ := h
        obtain ⟨rfl, b1, b2, _, _⟩ := bC_ok g h1
        obtain ⟨_, c1, c2, c3, c4⟩ := bC_ok g h3
        exact .plain g.um (se_isi b1 b2 c1 c2 (ty_boot T (by simpa using h4)) c4 c3 (okE e g h6).e h5) rfl
      · cases h
    | isiT ts =>
      dsimp only at h
      split at h
      · rename_i e n p a tys kk p' pos
        simp only [Bool.and_eq_true, decide_eq_true_eq] at h
        obtain ⟨⟨⟨⟨h1, h2⟩, h3⟩, h5⟩, h6⟩ := h
        obtain ⟨rfl, b1, b2, _, _⟩ := bC_ok g h1
        exact .plain g.um (se_isiT b1 b2 (tysC_ok g h2) h3 (okE e g h6).e h5) rfl
      · cases h
    | repr => cases h
    | len =>
      dsimp only at h
      split at h
      · simp only [Bool.and_eq_true] at h
        obtain ⟨⟨h1, h2⟩, h3⟩ := h
        obtain ⟨rfl, b1, b2, b3, b4⟩ := bC_ok g h1
        exact .plain g.um (se_blt (cr_len g.um) b1 b2 rfl b4 b3 (okEs es g h3) h2) rfl
      · cases h
    | abs =>
      dsimp only at h
      split at h
      · simp only [Bool.and_eq_true] at h
        obtain ⟨⟨h1, h2⟩, h3⟩ := h
        obtain ⟨rfl, b1, b2, b3, b4⟩ := bC_ok g h1
        exact .plain g.um (se_blt cr_abs b1 b2 rfl b4 b3 (okEs es g h3) h2) rfl
      · cases h
    | max2 =>
      dsimp only at h
      split at h
      · simp only [Bool.and_eq_true] at h
        obtain ⟨⟨h1, h2⟩, h3⟩ := h
        obtain ⟨rfl, b1, b2, b3, b4⟩ := bC_ok g h1
        exact .plain g.um (se_blt (cr_max2 g.calm) b1 b2 rfl b4 b3 (okEs es g h3) h2) rfl
      · cases h
    | min2 =>
      dsimp only at h
      split at h
      · simp only [Bool.and_eq_true] at h
        obtain ⟨⟨h1, h2⟩, h3⟩ := h
        obtain ⟨rfl, b1, b2, b3, b4⟩ := bC_ok g h1
        exact .plain g.um (se_blt (cr_min2 g.calm) b1 b2 rfl b4 b3 (okEs es g h3) h2) rfl
      · cases h
    | int =>
      dsimp only at h
      split at h
      · simp only [Bool.and_eq_true] at h
        obtain ⟨⟨h1, h2⟩, h3⟩ := h
        obtain ⟨rfl, b1, b2, b3, b4⟩ := bC_ok g h1
        exact .plain g.um (se_bltT cr_int b1 b2 rfl b4 b3 (okEs es g h3) h2) rfl
      · cases h
  | .meth m o es, X, x, g, h => by
    unfold kE at h
    split at h
    · rename_i l nm ap args cp
      simp only [Bool.and_eq_true, decide_eq_true_eq] at h
      obtain ⟨⟨⟨⟨⟨⟨⟨rfl, h2⟩, h3⟩, h4⟩, h5⟩, h6⟩, h7⟩, h8⟩ := h
      refine .plain g.um (meth_ok g h2 (okE o g h7).e (okEs es g h8) h5 h6 h3 h4 fun e => ?_) rfl
      subst e
      exact kEs_nil ctx h8
    · cases h
  | .conv k al e, X, x, g, h => by
    unfold kE at h
    cases k with
    | sortedSet =>
      dsimp only at h
      split at h
      · simp only [Bool.and_eq_true] at h
        obtain ⟨⟨⟨h1, h2⟩, h3⟩, h4⟩ := h
        obtain ⟨rfl, b1, b2, _, _⟩ := bC_ok g h1
        obtain ⟨rfl, c1, c2, _, _⟩ := bC_ok g h2
        exact .plain g.um (se_sortSet g.calm g.um b1 b2 c1 c2 (okE e g h4).e h3) rfl
      · cases h
    | lenSet => cases h
    | list =>
      dsimp only at h
      split at h
      · simp only [Bool.and_eq_true] at h
        obtain ⟨⟨h1, h2⟩, h3⟩ := h
        obtain ⟨rfl, b1, b2, b3, b4⟩ := bC_ok g h1
        exact .plain g.um (se_cnvT (cr_list g.calm al) b1 b2 rfl b4 b3 (okE e g h3).e h2) rfl
      · cases h
    | tuple =>
      dsimp only at h
      split at h
      · simp only [Bool.and_eq_true] at h
        obtain ⟨⟨h1, h2⟩, h3⟩ := h
        obtain ⟨rfl, b1, b2, b3, b4⟩ := bC_ok g h1
        exact .plain g.um (se_cnvT (cr_tuple al) b1 b2 rfl b4 b3 (okE e g h3).e h2) rfl
      · cases h
    | dict =>
      dsimp only at h
      split at h
      · simp only [Bool.and_eq_true] at h
        obtain ⟨⟨h1, h2⟩, h3⟩ := h
        obtain ⟨rfl, b1, b2, b3, b4⟩ := bC_ok g h1
        exact .plain g.um (se_cnvT (cr_dict g.calm g.um al) b1 b2 rfl b4 b3 (okE e g h3).e h2) rfl
      · cases h
    | sorted =>
      dsimp only at h
      split at h
      · simp only [Bool.and_eq_true] at h
        obtain ⟨⟨h1, h2⟩, h3⟩ := h
        obtain ⟨rfl, b1, b2, b3, b4⟩ := bC_ok g h1
        exact .plain g.um (se_cnv (cr_sortedP g.calm g.um al) b1 b2 rfl b4 b3 (okE e g h3).e h2) rfl
      · cases h
    | sum =>
      dsimp only at h
      split at h
      · simp only [Bool.and_eq_true] at h
        obtain ⟨⟨h1, h2⟩, h3⟩ := h
        obtain ⟨rfl, b1, b2, b3, b4⟩ := bC_ok g h1
        exact .plain g.um (se_cnv (cr_sumP g.calm al) b1 b2 rfl b4 b3 (okE e g h3).e h2) rfl
      · cases h
    | all =>
      dsimp only at h
      split at h
      · simp only [Bool.and_eq_true] at h
        obtain ⟨⟨h1, h2⟩, h3⟩ := h
        obtain ⟨rfl, b1, b2, b3, b4⟩ := bC_ok g h1
        exact .plain g.um (se_cnv (cr_allP g.calm al) b1 b2 rfl b4 b3 (okE e g h3).e h2) rfl
      · cases h
    | any =>
      dsimp only at h
      split at h
      · simp only [Bool.and_eq_true] at h
        obtain ⟨⟨h1, h2⟩, h3⟩ := h
        obtain ⟨rfl, b1, b2, b3, b4⟩ := bC_ok g h1
        exact .plain g.um (se_cnv (cr_anyP g.calm al) b1 b2 rfl b4 b3 (okE e g h3).e h2) rfl
      · cases h
    | max =>
      dsimp only at h
      split at h
      · simp only [Bool.and_eq_true] at h
        obtain ⟨⟨h1, h2⟩, h3⟩ := h
        obtain ⟨rfl, b1, b2, b3, b4⟩ := bC_ok g h1
        exact .plain g.um (se_cnv (cr_maxP g.calm al) b1 b2 rfl b4 b3 (okE e g h3).e h2) rfl
      · cases h
    | min =>
      dsimp only at h
      split at h
      · simp only [Bool.and_eq_true] at h
        obtain ⟨⟨h1, h2⟩, h3⟩ := h
        obtain ⟨rfl, b1, b2, b3, b4⟩ := bC_ok g h1
        exact .plain g.um (se_cnv (cr_minP g.calm al) b1 b2 rfl b4 b3 (okE e g h3).e h2) rfl
      · cases h
  | .convI k al it, X, x, g, h => by
    unfold kE at h
    split at h
    · rename_i e n p m p' a pos pos'
      simp only [Bool.and_eq_true, Bool.or_eq_true, decide_eq_true_eq] at h
      obtain ⟨⟨⟨⟨h0, h1⟩, h2⟩, h3⟩, h4⟩ := h
      obtain ⟨rfl, c1, c2, _, _⟩ := bC_ok g h2
      have pr := sr_1 (p := p') (pos := pos) c1 c2 (okE e g h4).e h3
      rcases h0 with rfl | rfl
      · obtain ⟨rfl, b1, b2, _, _⟩ := bC_ok g h1
        exact .plain g.um (conv_rng (fun _ _ _ _ => rng1_eq) (se_listRg g.calm b1 b2 pr rfl)) rfl
      · obtain ⟨rfl, b1, b2, _, _⟩ := bC_ok g h1
        exact .plain g.um (conv_rng (fun _ _ _ _ => rng1_eq) (se_tupRg g.calm b1 b2 pr rfl)) rfl
    · rename_i e e' n p m p' a b pos pos'
      simp only [Bool.and_eq_true, Bool.or_eq_true, decide_eq_true_eq] at h
      obtain ⟨⟨⟨⟨⟨⟨h0, h1⟩, h2⟩, h3⟩, h3'⟩, h4⟩, h5⟩ := h
      obtain ⟨rfl, c1, c2, _, _⟩ := bC_ok g h2
      have pr := sr_2 (p := p') (pos := pos) c1 c2 (okE e g h4).e (okE e' g h5).e h3 h3'
      rcases h0 with rfl | rfl
      · obtain ⟨rfl, b1, b2, _, _⟩ := bC_ok g h1
        exact .plain g.um (conv_rng (fun _ _ _ _ => rng2_eq) (se_listRg g.calm b1 b2 pr rfl)) rfl
      · obtain ⟨rfl, b1, b2, _, _⟩ := bC_ok g h1
        exact .plain g.um (conv_rng (fun _ _ _ _ => rng2_eq) (se_tupRg g.calm b1 b2 pr rfl)) rfl
    · cases h
  | .comp al own tg it ifs elt, X, x, g, h => by
    unfold kE at h
    split at h
    · rename_i e tge iter ifs' scope pos
      simp only [Bool.and_eq_true] at h
      obtain ⟨⟨⟨⟨⟨h1, h2⟩, h3⟩, h4⟩, h5⟩, h6⟩ := h
      split at h2
      · rename_i ow how
        obtain ⟨fl, hfl, pi, hs⟩ := okI it g h1
        have bo : BlkOk X.N X.env.scope scope ow := blkOk_by (by rw [g.hN]; exact h2)
        have ho := ownP_ok how
        have hown : ∀ i ∈ tgIx tg, i ∈ ow.map (·.2) := fun i hi => by
          rw [ho]
          have := List.all_eq_true.mp h3 i hi
          simpa using this
        have pe := se_lock (it := it) (se_comp (pos := pos) (al := al) g.calm g.nd pi bo
          (fun s H C cl fq => kTg_ok (X := X.blk s H scope (compEnvC scope cl C X.env) fq) (cl := scope) g.calm g.nd (fun n hn => by show (scope.names.lookup n == some .cell) = true; rw [hn]; rfl) tg (by rw [show (X.blk s H scope (compEnvC scope cl C X.env) fq).N = G.N from g.hN]; exact h4))
          (fun s H C cl fq => okIfs ifs (g.blk s H scope (compEnvC scope cl C X.env) fq) h5)
          (fun s H C cl fq => (okE elt (g.blk s H scope (compEnvC scope cl C X.env) fq) h6).e) hs hown hfl)
        rw [ho] at pe
        exact .plain g.um pe rfl
      · cases h2
    · cases h
  | .dcomp al own tg it ifs k v, X, x, g, h => by
    unfold kE at h
    split at h
    · rename_i e e' tge iter ifs' scope pos
      simp only [Bool.and_eq_true] at h
      obtain ⟨⟨⟨⟨⟨⟨h1, h2⟩, h3⟩, h4⟩, h5⟩, h6⟩, h7⟩ := h
      split at h2
      · rename_i ow how
        obtain ⟨fl, hfl, pi, hs⟩ := okI it g h1
        have bo : BlkOk X.N X.env.scope scope ow := blkOk_by (by rw [g.hN]; exact h2)
        have ho := ownP_ok how
        have hown : ∀ i ∈ tgIx tg, i ∈ ow.map (·.2) := fun i hi => by
          rw [ho]
          have := List.all_eq_true.mp h3 i hi
          simpa using this
        have pe := se_lock (it := it) (se_dcomp (pos := pos) (al := al) g.um g.calm g.nd pi bo
          (fun s H C cl fq => kTg_ok (X := X.blk s H scope (compEnvC scope cl C X.env) fq) (cl := scope) g.calm g.nd (fun n hn => by show (scope.names.lookup n == some .cell) = true; rw [hn]; rfl) tg (by rw [show (X.blk s H scope (compEnvC scope cl C X.env) fq).N = G.N from g.hN]; exact h4))
          (fun s H C cl fq => okIfs ifs (g.blk s H scope (compEnvC scope cl C X.env) fq) h5)
          (fun s H C cl fq => (okE k (g.blk s H scope (compEnvC scope cl C X.env) fq) h6).e)
          (fun s H C cl fq => (okE v (g.blk s H scope (compEnvC scope cl C X.env) fq) h7).e) hs hown hfl)
        rw [ho] at pe
        exact .plain g.um pe rfl
      · cases h2
    · cases h
theorem okEs : ∀ (ts : IEs) {X : Cx} {xs : List Expr}, Gd G ctx X → kEs G ts X.env.scope xs = true → PA X xs (rA X (dEs ctx ts))
  | .nil, X, xs, g, h => by
    cases xs with
    | nil => exact sa_nil
    | cons _ _ => simp [kEs] at h
  | .cons t ts, X, xs, g, h => by
    cases xs with
    | nil => simp [kEs] at h
    | cons x xs =>
      simp only [kEs, Bool.and_eq_true] at h
      exact sa_cons (okE t g h.1.2).e (okEs ts g h.2) h.1.1
theorem okIfs : ∀ (ts : IEs) {X : Cx} {xs : List Expr}, Gd G ctx X → kIfs G ts X.env.scope xs = true → PTs X xs (rT X (dIfs ctx ts))
  | .nil, X, xs, g, h => by
    cases xs with
    | nil => exact ⟨fun pins s σ H Q I ⟨L, hh, env, b, h', hr, er, e, post⟩ => pts_nil.run pins s σ H Q I (by cases e; exact post _ _ Ext.refl hr)⟩
    | cons _ _ => simp [kIfs] at h
  | .cons t .nil, X, xs, g, h => by
    match xs with
    | [] => simp [kIfs] at h
    | [x] =>
      simp only [kIfs] at h
      rw [if1]
      exact pts_one (okE t g h).t
    | _ :: _ :: _ => simp [kIfs] at h
  | .cons _ (.cons _ _), X, xs, g, h => by
    match xs with
    | [] => simp [kIfs] at h
    | [x] => simp [kIfs] at h
    | _ :: _ :: _ => simp [kIfs] at h
theorem okO : ∀ (t : IO) {X : Cx} {x : Option Expr}, Gd G ctx X → kO G t X.env.scope x = true → PO X x (rO X (dO ctx t))
  | .none, X, x, g, h => by
    cases x with
    | none => exact so_none
    | some _ => simp [kO] at h
  | .some t, X, x, g, h => by
    cases x with
    | none => simp [kO] at h
    | some x =>
      simp only [kO] at h
      exact so_some (okE t g h).e
theorem okI : ∀ (t : II) {X : Cx} {tp : Bool} {tge x : Expr}, Gd G ctx X → kI G t X.env.scope tp tge x = true → ∃ fl : Bool, (fl = true → tp = true) ∧ PI X tge x (rI X fl (dI ctx t)) ∧ ∀ v, foldedSetIterable x X.env v = pure v
  | .ex e, X, tp, tge, x, g, h => by
    simp only [kI, Bool.and_eq_true] at h
    exact ⟨false, (fun q => by cases q), si_ex (okE e g h.2).e, fold_ok h.1 _⟩
  | .rng1 e, X, tp, tge, x, g, h => by
    unfold kI at h
    split at h
    · simp only [Bool.and_eq_true] at h
      obtain ⟨rfl, b1, b2, _, _⟩ := bC_ok g h.1.1
      exact ⟨false, (fun q => by cases q), si_rng1 b1 b2 (okE e g h.2).e h.1.2, fun _ => rfl⟩
    · cases h
  | .rng2 e e', X, tp, tge, x, g, h => by
    unfold kI at h
    split at h
    · simp only [Bool.and_eq_true] at h
      obtain ⟨⟨⟨⟨h1, h2⟩, h3⟩, h4⟩, h5⟩ := h
      obtain ⟨rfl, b1, b2, _, _⟩ := bC_ok g h1
      exact ⟨false, (fun q => by cases q), si_rng2 b1 b2 (okE e g h4).e (okE e' g h5).e h2 h3, fun _ => rfl⟩
    · cases h
  | .enum e, X, tp, tge, x, g, h => by
    unfold kI at h
    split at h
    · simp only [Bool.and_eq_true] at h
      obtain ⟨⟨⟨⟨h1, h2⟩, h3⟩, h4⟩, h5⟩ := h
      obtain ⟨es, k, p, rfl⟩ := isTup_ok h2
      obtain ⟨rfl, b1, b2, _, _⟩ := bC_ok g h3
      exact ⟨true, (fun _ => h1), si_enum b1 b2 (okE e g h5).e h4, fun _ => rfl⟩
    · cases h
  | .zip e e', X, tp, tge, x, g, h => by
    unfold kI at h
    split at h
    · simp only [Bool.and_eq_true] at h
      obtain ⟨⟨⟨⟨⟨⟨h1, h2⟩, h3⟩, h4⟩, h5⟩, h6⟩, h7⟩ := h
      obtain ⟨es, k, p, rfl⟩ := isTup_ok h2
      obtain ⟨rfl, b1, b2, _, _⟩ := bC_ok g h3
      exact ⟨true, (fun _ => h1), si_zip b1 b2 (okE e g h6).e (okE e' g h7).e h4 h5, fun _ => rfl⟩
    · cases h
  | .items e, X, tp, tge, x, g, h => by
    unfold kI at h
    split at h
    · simp only [Bool.and_eq_true, decide_eq_true_eq] at h
      obtain ⟨⟨⟨⟨⟨h1, h2⟩, h3⟩, h4⟩, h5⟩, h6⟩ := h
      obtain ⟨es, k, p, rfl⟩ := isTup_ok h2
      subst h3
      exact ⟨true, (fun _ => h1), si_items (okE e g h6).e h4 h5, fun _ => rfl⟩
    · cases h
  | .values e, X, tp, tge, x, g, h => by
    unfold kI at h
    split at h
    · simp only [Bool.and_eq_true, decide_eq_true_eq] at h
      obtain ⟨⟨⟨h3, h4⟩, h5⟩, h6⟩ := h
      subst h3
      exact ⟨false, (fun q => by cases q), si_values (okE e g h6).e h4 h5, fun _ => rfl⟩
    · cases h
end
end
end HW
/-! HxB: the look at statements. -/
namespace HW
open PySem PySem.Spec PyProof.Rows L2 C8

/-- a comprehension's value that is swapped with the name on its line -/
def swB (sc : Scope) (n : Str) (p : Pos) (v : Expr) : Bool := match v with
  | .ListComp _ _ s _ => decide (sc.names.lookup n = some .local) && (p.line == v.pos.line) && !(s.names.any fun (m, k) => m == n && (k == .local || k == .cell))
  | .DictComp _ _ _ s _ => decide (sc.names.lookup n = some .local) && (p.line == v.pos.line) && !(s.names.any fun (m, k) => m == n && (k == .local || k == .cell))
  | _ => false
def okNoSet : Expr → Bool
  | .SetComp .. => false
  | _ => true
/-- a comprehension is told as one *)-/
def compC (e : IE) (v : Expr) : Bool := match v with
  | .ListComp .. => match e with
    | .comp .. => true
    | _ => false
  | .DictComp .. => match e with
    | .dcomp .. => true
    | _ => false
  | _ => true
def locL (sc : Scope) (n : Str) : Bool := match sc.names.lookup n with
  | some .local => true
  | _ => false
mutual
def kS (G : Ck) (t : IS) (sc : Scope) (x : Stmt) : Bool := match t with
  | .expr e => match x with
    | .Expr v _ => okNoComp v && kE G e sc v
    | _ => false
  | .asg tg e => match tg, x with
    | .tg (.nm i), .Assign [.Name n _] v _ => decide (G.N[i]? = some n) && locC sc sc n && okNoSet v && compC e v && kE G e sc v
    | .tg (.tp ts), .Assign [.Tuple es k p] v _ => okNoComp v && okNoTup v && kTg G.N sc sc (.tp ts) (.Tuple es k p) && kE G e sc v
    | .sub o i, .Assign [.Subscript l j _] v _ => okNoComp v && okNoTup v && okIx j && kE G o sc l && kE G i sc j && kE G e sc v
    | _, _ => false
  | .par ts es => match ts, x with
    | [.tg (.nm i), .tg (.nm j)], .Assign [.Tuple [.Name n p, .Name m q] _ _] (.Tuple [a, b] _ _) _ => decide (G.N[i]? = some n) && decide (G.N[j]? = some m) && decide (i ≠ j) && locL sc n && locL sc m && decide (n ≠ m) && (p.line == q.line) &&
        !([a, b].all (foldedForSure 8)) && !([a, b].all (constantsAlone 8)) && kEs G es sc [a, b]
    | [.tg (.nm i), .tg (.nm j), .tg (.nm l)], .Assign [.Tuple [.Name n p, .Name m q, .Name o r] _ _] (.Tuple [a, b, c] _ _) _ => decide (G.N[i]? = some n) && decide (G.N[j]? = some m) && decide (G.N[l]? = some o) && decide (i ≠ j) && decide (i ≠ l) && decide (j ≠ l) &&
        locL sc n && locL sc m && locL sc o && decide (n ≠ m) && decide (n ≠ o) && decide (m ≠ o) && (p.line == q.line) && (p.line == r.line) && !([a, b, c].all (foldedForSure 8)) && !([a, b, c].all (constantsAlone 8)) && kEs G es sc [a, b, c]
    | _, _ => false
  | .ret e => match x with
    | .Return (some v) _ => kE G e sc v
    | _ => false
  | .retN => match x with
    | .Return none _ => true
    | _ => false
  | .pass => match x with
    | .Pass _ => true
    | .Expr (.Constant (.str _) _ _) _ => true
    | _ => false
  | .brk => match x with
    | .Break _ => true
    | _ => false
  | .cont => match x with
    | .Continue _ => true
    | _ => false
  | .ifs c a b => match x with
    | .If t xs ys _ => kE G c sc t && kSs G a sc xs && kSs G b sc ys
    | _ => false
  | .for_ tg it b => match x with
    | .For tge iter body [] _ => kI G it sc (isTp tg) tge iter && kTg G.N sc sc tg tge && kSs G b sc body
    | _ => false
  | .while_ _ c b => match x with
    | .While t body [] _ => kE G c sc t && kSs G b sc body
    | _ => false
  | _ => false
def kSs (G : Ck) (ts : ISs) (sc : Scope) (xs : List Stmt) : Bool := match ts, xs with
  | .nil, [] => true
  | .cons t ts, x :: xs => kS G t sc x && kSs G ts sc xs
  | _, _ => false
end
section
variable {G : Ck} {ctx : List Sem} {X : Cx}
theorem blk_fn (hk : X.env.scope.kind = .function) : X.env.blockKind = .function := by unfold Env.blockKind; rw [hk]; rfl
theorem swB_ok (hk : X.env.scope.kind = .function) {n : Str} {p : Pos} {v : Expr} {l : Nat} (h : okNoSet v = true) : swapsWith v (some (.Name n p)) l X.env = pure (swB X.env.scope n p v) := by
  have hb := blk_fn hk
  cases v <;> first | rfl | skip
  · rename_i elt gs s pos
    unfold swapsWith swB
    simp only [hb]
    show pure (_ && (X.env.kindOf n == some .local) && _ && _) = pure _
    congr 1
    have : (X.env.kindOf n == some .local) = decide (X.env.scope.names.lookup n = some .local) := by
      unfold Env.kindOf
      by_cases q : X.env.scope.names.lookup n = some .local
      · rw [decide_eq_true q, q]; rfl
      · rw [decide_eq_false q]; exact beq_eq_false_iff_ne.mpr q
    rw [this]
    rfl
  · cases h
  · rename_i k v gs s pos
    unfold swapsWith swB
    simp only [hb]
    show pure (_ && (X.env.kindOf n == some .local) && _ && _) = pure _
    congr 1
    have : (X.env.kindOf n == some .local) = decide (X.env.scope.names.lookup n = some .local) := by
      unfold Env.kindOf
      by_cases q : X.env.scope.names.lookup n = some .local
      · rw [decide_eq_true q, q]; rfl
      · rw [decide_eq_false q]; exact beq_eq_false_iff_ne.mpr q
    rw [this]
    rfl
theorem ss_setL {a : Expr} {f : Env → PHeap → R PV} {p pos : Pos} (hN : X.N.Nodup) {i : Nat} {x : Str} (hi : X.N[i]? = some x) (hx : Loc X.env.scope x) (hf : X.fn x = true ∨ X.env.scope.names.lookup x = some .local) (ha : PE X a (rE X f)) (hs : swapsWith a (some (.Name x p)) pos.line X.env = pure false) : PS X (.Assign [.Name x p] a pos) (rS X (setF i f)) :=
  imS (ps_set hN hi hx ha hs hf) fun D σ H ⟨L, h, env, o, h', hr, er, e, post⟩ => by
  obtain ⟨v, e1, rfl⟩ := setF_ok e
  exact ⟨L, h, env, v, h', hr, er, e1, fun x L1 H1 x1 hr1 v1 => post _ _ x1 hr1 _ ((er.mono x1).set v1)⟩
/-- the lock about the value is one about the statement -/
theorem setF_lock {i : Nat} {it : II} {F : Env → PHeap → R PV} {env : Env} {h h' : PHeap} {o : Out} (e : setF i (lkF it F) env h = .ok o h') : lkS it (setF i F) env h = .ok o h' := by
  obtain ⟨v, e1, e2⟩ := setF_ok e
  have hi : i < env.length := by
    obtain ⟨w, h1, q1, q2⟩ := R.bind_eq_ok e
    obtain ⟨env', q3, _⟩ := R.of_bind q2
    rw [tgSet] at q3
    split at q3
    · rename_i q; exact q
    · cases q3
  subst e2
  have mk : ∀ {h h' : PHeap}, F env h = .ok v h' → setF i F env h = .ok (.nx (env.set i (some v))) h' := fun {h h'} q => by
    unfold setF
    rw [q]
    simp only [R.bind_ok, tgSet, hi, if_true, R.of_some]
  unfold lkF at e1
  unfold lkS
  cases hl : lockI it env h with
  | none => rw [hl] at e1; exact mk e1
  | some n =>
    rw [hl] at e1
    obtain ⟨es, g, hc, e3, hg, rfl⟩ := withLock_ok e1
    unfold withLock
    simp only [hc, mk e3, R.bind_ok, hg, if_true]
theorem rS_of {st : Stmt} {f g : Env → PHeap → R Out} (h : PS X st (rS X g)) (i : ∀ env h o h', f env h = .ok o h' → g env h = .ok o h') : PS X st (rS X f) := imS h fun D σ H ⟨L, hh, env, o, h', hr, er, e, post⟩ => ⟨L, hh, env, o, h', hr, er, i _ _ _ _ e, post⟩
theorem locL_ok {sc : Scope} {n : Str} (h : locL sc n = true) : sc.names.lookup n = some .local := by
  unfold locL at h
  split at h
  · rename_i q; exact q
  · cases h
theorem any_no {es : List Expr} {g : Expr → Bool} (h : es.all okArg = true) (hg : ∀ e, okArg e = true → g e = false) : es.any g = false := by
  rw [List.any_eq_false]
  intro e he
  rw [hg e (List.all_eq_true.mp h e he)]
  decide
theorem swap2 (hk : X.env.scope.kind = .function) {n m : Str} {p q pt pt2 : Pos} {a b : Expr} {kt k2 : Nat} (hn : X.env.scope.names.lookup n = some .local) (hm : X.env.scope.names.lookup m = some .local) (hnm : n ≠ m) (hl : (p.line == q.line) = true) (ho : [a, b].all okArg = true)
    (hf : [a, b].all (foldedForSure 8) = false) (hc : [a, b].all (constantsAlone 8) = false) : swappedStores [.Tuple [.Name n p, .Name m q] kt pt] (.Tuple [a, b] k2 pt2) X.env = pure (some [n, m]) := by
  have hb := blk_fn hk
  have k1 : X.env.kindOf n = some .local := hn
  have k2' : X.env.kindOf m = some .local := hm
  have hl' : q.line = p.line := (eq_of_beq hl).symm
  unfold swappedStores
  dsimp only
  rw [any_no ho (fun e he => by cases e <;> first | rfl | cases he)]
  simp only [hb, hf, hc, k1, k2', hl', List.filterMap_cons, List.filterMap_nil, List.head?_cons, Option.map_some, Option.getD_some, Expr.pos, List.length_cons, List.length_nil]
  have e1 : (m == n) = false := beq_eq_false_iff_ne.mpr (Ne.symm hnm)
  simp [List.eraseDups, List.eraseDupsBy, List.eraseDupsBy.loop, e1]
theorem swap3 (hk : X.env.scope.kind = .function) {n m o : Str} {p q r pt pt2 : Pos} {a b c : Expr} {kt k2 : Nat} (hn : X.env.scope.names.lookup n = some .local) (hm : X.env.scope.names.lookup m = some .local) (h3 : X.env.scope.names.lookup o = some .local) (hnm : n ≠ m) (hno : n ≠ o) (hmo : m ≠ o) (hl : (p.line == q.line) = true) (hl2 : (p.line == r.line) = true) (ho : [a, b, c].all okArg = true)
    (hf : [a, b, c].all (foldedForSure 8) = false) (hc : [a, b, c].all (constantsAlone 8) = false) : swappedStores [.Tuple [.Name n p, .Name m q, .Name o r] kt pt] (.Tuple [a, b, c] k2 pt2) X.env = pure (some [n, m, o]) := by
  have hb := blk_fn hk
  have k1 : X.env.kindOf n = some .local := hn
  have k2' : X.env.kindOf m = some .local := hm
  have k3 : X.env.kindOf o = some .local := h3
  have hl' : q.line = p.line := (eq_of_beq hl).symm
  have hl2' : r.line = p.line := (eq_of_beq hl2).symm
  unfold swappedStores
  dsimp only
  rw [any_no ho (fun e he => by cases e <;> first | rfl | cases he)]
  simp only [hb, hf, hc, k1, k2', k3, hl', hl2', List.filterMap_cons, List.filterMap_nil, List.head?_cons, Option.map_some, Option.getD_some, Expr.pos, List.length_cons, List.length_nil]
  have e1 : (m == n) = false := beq_eq_false_iff_ne.mpr (Ne.symm hnm)
  have e2 : (o == n) = false := beq_eq_false_iff_ne.mpr (Ne.symm hno)
  have e3 : (o == m) = false := beq_eq_false_iff_ne.mpr (Ne.symm hmo)
  simp [List.eraseDups, List.eraseDupsBy, List.eraseDupsBy.loop, e1, e2, e3]
section
variable {G : Ck} {ctx : List Sem}
/-- one name, any value -/
theorem named_ok {X : Cx} (g : Gd G ctx X) (hk : X.env.scope.kind = .function) (hfn : ∀ n, X.fn n = true) {i : Nat} {e : IE} {n : Str} {p pos : Pos} {v : Expr} (hi : X.N[i]? = some n) (hl : locC X.env.scope X.env.scope n = true) (hv : okNoSet v = true) (hcc : compC e v = true) (h : kE G e X.env.scope v = true) :
    PS X (.Assign [.Name n p] v pos) (rS X (setF i (dE ctx e))) := by
  have sw := swB_ok hk (n := n) (p := p) (l := pos.line) hv
  have pe := (okE e g h).e
  cases hb : swB X.env.scope n p v with
  | false =>
    rw [hb] at sw
    exact ss_setL g.nd hi (locC_ok hl).1 (.inl (hfn n)) pe sw
  | true =>
    rw [hb] at sw
    unfold swB at hb
    split at hb
    · rename_i elt gs s vp
      simp only [Bool.and_eq_true, decide_eq_true_eq] at hb
      have hloc := hb.1.1
      cases e <;> try (simp [compC] at hcc; done)
      unfold kE at h
      · rename_i al own tg it ifs elt'
        split at h
        · rename_i e tge iter ifs' scope pos2 heq
          cases heq
          simp only [Bool.and_eq_true] at h
          obtain ⟨⟨⟨⟨⟨h1, h2⟩, h3⟩, h4⟩, h5⟩, h6⟩ := h
          split at h2
          · rename_i ow how
            obtain ⟨fl, hfl, pi, hs⟩ := okI it g h1
            have bo : BlkOk X.N X.env.scope s ow := blkOk_by (by rw [g.hN]; exact h2)
            have ho := ownP_ok how
            have hown : ∀ i ∈ tgIx tg, i ∈ ow.map (·.2) := fun i hi => by
              rw [ho]
              have := List.all_eq_true.mp h3 i hi
              simpa using this
            have ps := ss_setLc (al := al) g.calm g.nd hi hloc sw pi bo
              (fun z H C cl fq => kTg_ok (X := X.blk z H s (compEnvC s cl C X.env) fq) (cl := s) g.calm g.nd (fun n hn => by show (s.names.lookup n == some .cell) = true; rw [hn]; rfl) tg (by rw [show (X.blk z H s (compEnvC s cl C X.env) fq).N = G.N from g.hN]; exact h4))
              (fun z H C cl fq => okIfs ifs (g.blk z H s (compEnvC s cl C X.env) fq) h5)
              (fun z H C cl fq => (okE elt' (g.blk z H s (compEnvC s cl C X.env) fq) h6).e) hs hown hfl
            rw [ho] at ps
            exact rS_of (ss_lock (it := it) ps) fun env h o h' => setF_lock
          · cases h2
        · cases h
    · rename_i ek ev gs s vp
      simp only [Bool.and_eq_true, decide_eq_true_eq] at hb
      have hloc := hb.1.1
      cases e <;> try (simp [compC] at hcc; done)
      unfold kE at h
      · rename_i al own tg it ifs k' v'
        split at h
        · rename_i e e' tge iter ifs' scope pos2 heq
          cases heq
          simp only [Bool.and_eq_true] at h
          obtain ⟨⟨⟨⟨⟨⟨h1, h2⟩, h3⟩, h4⟩, h5⟩, h6⟩, h7⟩ := h
          split at h2
          · rename_i ow how
            obtain ⟨fl, hfl, pi, hs⟩ := okI it g h1
            have bo : BlkOk X.N X.env.scope s ow := blkOk_by (by rw [g.hN]; exact h2)
            have ho := ownP_ok how
            have hown : ∀ i ∈ tgIx tg, i ∈ ow.map (·.2) := fun i hi => by
              rw [ho]
              have := List.all_eq_true.mp h3 i hi
              simpa using this
            have ps := ss_setDc (al := al) g.um g.calm g.nd hi hloc sw pi bo
              (fun z H C cl fq => kTg_ok (X := X.blk z H s (compEnvC s cl C X.env) fq) (cl := s) g.calm g.nd (fun n hn => by show (s.names.lookup n == some .cell) = true; rw [hn]; rfl) tg (by rw [show (X.blk z H s (compEnvC s cl C X.env) fq).N = G.N from g.hN]; exact h4))
              (fun z H C cl fq => okIfs ifs (g.blk z H s (compEnvC s cl C X.env) fq) h5)
              (fun z H C cl fq => (okE k' (g.blk z H s (compEnvC s cl C X.env) fq) h6).e)
              (fun z H C cl fq => (okE v' (g.blk z H s (compEnvC s cl C X.env) fq) h7).e) hs hown hfl
            rw [ho] at ps
            exact rS_of (ss_lock (it := it) ps) fun env h o h' => setF_lock
          · cases h2
        · cases h
    · cases hb
end
end
end HW
/-! HxC: the look at statements is right; a def by its body. -/
namespace HW
open PySem PySem.Spec PyProof.Rows L2 C8

section
variable {G : Ck} {ctx : List Sem}
theorem nm_ok {i : Nat} {v : PV} {env env' : Env} {h h' : PHeap} (e : dTg ctx (.tg (.nm i)) v env h = .ok env' h') : env' = env.set i (some v) ∧ h' = h := by
  obtain ⟨e1, rfl⟩ := R.of_eq_ok (show R.of (tgSet (.nm i) v env) h = .ok env' h' from e)
  rw [tgSet] at e1
  split at e1
  · cases e1; exact ⟨rfl, rfl⟩
  · cases e1
theorem par2_eq {i j : Nat} {es : IEs} {env : Env} {h h' : PHeap} {o : Out} (e : dS ctx (.par [.tg (.nm i), .tg (.nm j)] es) env h = .ok o h') : ((dEs ctx es env h).bind fun vs h => match vs with
      | [v, w] => .ok (.nx ((env.set i (some v)).set j (some w))) h
      | _ => .bad) = R.ok o h' := by
  obtain ⟨vs, h1, e1, e2⟩ := R.bind_eq_ok (show ((dEs ctx es env h).bind fun vs h => (dTgs ctx [.tg (.nm i), .tg (.nm j)] vs env h).bind fun env h => R.ok (.nx env) h) = .ok o h' from e)
  obtain ⟨env', h2, e3, e4⟩ := R.bind_eq_ok e2
  cases e4
  rw [e1]
  match vs with
  | [] => cases e3
  | [v] =>
    obtain ⟨env1, h3, e5, e6⟩ := R.bind_eq_ok (show ((dTg ctx (.tg (.nm i)) v env h1).bind fun env h => dTgs ctx [.tg (.nm j)] [] env h) = .ok env' h' from e3)
    cases e6
  | [v, w] =>
    obtain ⟨env1, h3, e5, e6⟩ := R.bind_eq_ok (show ((dTg ctx (.tg (.nm i)) v env h1).bind fun env h => dTgs ctx [.tg (.nm j)] [w] env h) = .ok env' h' from e3)
    obtain ⟨env2, h4, e7, e8⟩ := R.bind_eq_ok (show ((dTg ctx (.tg (.nm j)) w env1 h3).bind fun env h => dTgs ctx [] [] env h) = .ok env' h' from e6)
    obtain ⟨rfl, rfl⟩ := nm_ok e5
    obtain ⟨rfl, rfl⟩ := nm_ok e7
    cases e8
    rfl
  | v :: w :: z :: r =>
    obtain ⟨env1, h3, e5, e6⟩ := R.bind_eq_ok (show ((dTg ctx (.tg (.nm i)) v env h1).bind fun env h => dTgs ctx [.tg (.nm j)] (w :: z :: r) env h) = .ok env' h' from e3)
    obtain ⟨env2, h4, e7, e8⟩ := R.bind_eq_ok (show ((dTg ctx (.tg (.nm j)) w env1 h3).bind fun env h => dTgs ctx [] (z :: r) env h) = .ok env' h' from e6)
    cases e8
theorem par3_eq {i j l : Nat} {es : IEs} {env : Env} {h h' : PHeap} {o : Out} (e : dS ctx (.par [.tg (.nm i), .tg (.nm j), .tg (.nm l)] es) env h = .ok o h') : ((dEs ctx es env h).bind fun vs h => match vs with
      | [u, v, w] => .ok (.nx (((env.set i (some u)).set j (some v)).set l (some w))) h
      | _ => .bad) = R.ok o h' := by
  obtain ⟨vs, h1, e1, e2⟩ := R.bind_eq_ok (show ((dEs ctx es env h).bind fun vs h => (dTgs ctx [.tg (.nm i), .tg (.nm j), .tg (.nm l)] vs env h).bind fun env h => R.ok (.nx env) h) = .ok o h' from e)
  obtain ⟨env', h2, e3, e4⟩ := R.bind_eq_ok e2
  cases e4
  rw [e1]
  have step : ∀ {k : Nat} {ts : List ITgt} {ws : List PV} {env env' : Env} {h h' : PHeap}, dTgs ctx (.tg (.nm k) :: ts) ws env h = .ok env' h' → ∃ v r, ws = v :: r ∧ dTgs ctx ts r (env.set k (some v)) h = .ok env' h' := by
    intro k ts ws env env' h h' e
    cases ws with
    | nil => cases e
    | cons v r =>
      obtain ⟨env1, h3, e5, e6⟩ := R.bind_eq_ok (show ((dTg ctx (.tg (.nm k)) v env h).bind fun env h => dTgs ctx ts r env h) = .ok env' h' from e)
      obtain ⟨rfl, rfl⟩ := nm_ok e5
      exact ⟨v, r, rfl, e6⟩
  obtain ⟨u, r1, rfl, f1⟩ := step e3
  obtain ⟨v, r2, rfl, f2⟩ := step f1
  obtain ⟨w, r3, rfl, f3⟩ := step f2
  cases r3 with
  | nil => cases f3; rfl
  | cons _ _ => cases f3
set_option maxHeartbeats 4000000 in
mutual
theorem okS : ∀ (t : IS) {X : Cx} {x : Stmt}, Gd G ctx X → X.env.scope.kind = .function → (∀ n, X.fn n = true) → kS G t X.env.scope x = true → PS X x (rS X (dS ctx t))
  | .expr e, X, x, g, hk, hf, h => by
    unfold kS at h
    split at h
    · simp only [Bool.and_eq_true] at h
      exact ss_expr (okE e g h.2).e h.1
    · cases h
  | .asg tg e, X, x, g, hk, hf, h => by
    unfold kS at h
    split at h
    · rename_i i n p v pos
      simp only [Bool.and_eq_true, decide_eq_true_eq] at h
      obtain ⟨⟨⟨⟨h1, h2⟩, h3⟩, h4⟩, h5⟩ := h
      exact named_ok g hk hf (by rw [g.hN]; exact h1) h2 h3 h4 h5
    · rename_i ts es k p v pos
      simp only [Bool.and_eq_true] at h
      obtain ⟨⟨⟨h1, h2⟩, h3⟩, h4⟩ := h
      exact ss_tg (t := .tp ts) (okE e g h4).e (kTg_ok (cl := X.env.scope) g.calm g.nd (fun n _ => hf n) (.tp ts) (by rw [g.hN]; exact h3)) h1 h2 rfl
    · rename_i o i l j p v pos
      simp only [Bool.and_eq_true] at h
      obtain ⟨⟨⟨⟨⟨h1, h2⟩, h3⟩, h4⟩, h5⟩, h6⟩ := h
      exact ss_sub g.um (okE e g h6).e (okE o g h4).e (okE i g h5).e h1 h2 h3
    · cases h
  | .par ts es, X, x, g, hk, hf, h => by
    unfold kS at h
    split at h
    · rename_i i j n p m q kt pt a b k2 pt2 pos
      simp only [Bool.and_eq_true, decide_eq_true_eq, Bool.not_eq_true'] at h
      obtain ⟨⟨⟨⟨⟨⟨⟨⟨⟨h1, h2⟩, h3⟩, h4⟩, h5⟩, h6⟩, h7⟩, h8⟩, h9⟩, h10⟩ := h
      exact rS_of (ss_par2 (es := []) g.calm g.nd (by rw [g.hN]; exact h1) (by rw [g.hN]; exact h2) h3 (locL_ok h4) (locL_ok h5) (okEs es g h10) (swap2 hk (locL_ok h4) (locL_ok h5) h6 h7 (okArgs_of h10) h8 h9)) fun env h o h' => par2_eq
    · rename_i i j l n p m q o r kt pt a b c k2 pt2 pos
      simp only [Bool.and_eq_true, decide_eq_true_eq, Bool.not_eq_true'] at h
      obtain ⟨⟨⟨⟨⟨⟨⟨⟨⟨⟨⟨⟨⟨⟨⟨⟨h1, h2⟩, h3⟩, h4⟩, h5⟩, h6⟩, h7⟩, h8⟩, h9⟩, h10⟩, h11⟩, h12⟩, h13⟩, h14⟩, h15⟩, h16⟩, h17⟩ := h
      exact rS_of (ss_par3 (es := []) g.calm g.nd (by rw [g.hN]; exact h1) (by rw [g.hN]; exact h2) (by rw [g.hN]; exact h3) h4 h5 h6 (locL_ok h7) (locL_ok h8) (locL_ok h9) (okEs es g h17) (swap3 hk (locL_ok h7) (locL_ok h8) (locL_ok h9) h10 h11 h12 h13 h14 (okArgs_of h17) h15 h16)) fun env h o h' => par3_eq
    · cases h
  | .ret e, X, x, g, hk, hf, h => by
    unfold kS at h
    split at h
    · exact ss_ret (okE e g h).e
    · cases h
  | .retN, X, x, g, hk, hf, h => by
    unfold kS at h
    split at h
    · exact ss_retN
    · cases h
  | .pass, X, x, g, hk, hf, h => by
    unfold kS at h
    split at h
    · exact ss_next ps_pass
    · exact ss_next ps_doc
    · cases h
  | .brk, X, x, g, hk, hf, h => by
    unfold kS at h
    split at h
    · exact ss_brk
    · cases h
  | .cont, X, x, g, hk, hf, h => by
    unfold kS at h
    split at h
    · exact ss_cont
    · cases h
  | .ifs c a b, X, x, g, hk, hf, h => by
    unfold kS at h
    split at h
    · simp only [Bool.and_eq_true] at h
      exact ss_if (okE c g h.1.1).t (okSs a g hk hf h.1.2) (okSs b g hk hf h.2)
    · cases h
  | .for_ tg it b, X, x, g, hk, hf, h => by
    unfold kS at h
    split at h
    · simp only [Bool.and_eq_true] at h
      obtain ⟨fl, hfl, pi, hs⟩ := okI it g h.1.1
      exact ss_lock (it := it) (ss_for g.pass g.calm pi hfl (kTg_ok (cl := X.env.scope) g.calm g.nd (fun n _ => hf n) tg (by rw [g.hN]; exact h.1.2)) (okSs b g hk hf h.2) hs)
    · cases h
  | .while_ n c b, X, x, g, hk, hf, h => by
    unfold kS at h
    split at h
    · simp only [Bool.and_eq_true] at h
      exact ss_while g.pass (okE c g h.1).t (okSs b g hk hf h.2)
    · cases h
  | .aug _ _ _, X, x, g, hk, hf, h => by unfold kS at h; cases h
  | .augS _ _ _ _, X, x, g, hk, hf, h => by unfold kS at h; cases h
  | .raise_ _, X, x, g, hk, hf, h => by unfold kS at h; cases h
theorem okSs : ∀ (ts : ISs) {X : Cx} {xs : List Stmt}, Gd G ctx X → X.env.scope.kind = .function → (∀ n, X.fn n = true) → kSs G ts X.env.scope xs = true → PSs X xs (rS X (dSs ctx ts))
  | .nil, X, xs, g, hk, hf, h => by
    cases xs with
    | nil => exact sss_nil
    | cons _ _ => simp [kSs] at h
  | .cons t ts, X, xs, g, hk, hf, h => by
    cases xs with
    | nil => simp [kSs] at h
    | cons x xs =>
      simp only [kSs, Bool.and_eq_true] at h
      exact sss_cons (okS t g hk hf h.1) (okSs ts g hk hf h.2)
end
end
/-! ### a def -/
/-- what is looked at of a def's text: its names, its parameters, its body -/
def kF (G : Ck) (f : IFun) (st : Stmt) (ps : List Str) : Bool := scC G.N ps (fnScope st) && kSs G f.body (fnScope st) (fnBody st) && decide (f.n = G.N.length) && decide (f.np = ps.length)
section
variable {P : Program} {w : World} {K : PySem.W.Frag} {mg : Str → Option Value} {base : Heap}
/-- the world that a def's names are looked up in -/
structure Gl0 (P : Program) (w : World) (K : PySem.W.Frag) (mg : Str → Option Value) (base : Heap) (G : Ck) (ctx : List Sem) (k : Nat) : Prop where
  fns : ∀ (f : Nat) (n : Str) (a : Nat), G.fns[f]? = some (n, a) → ∃ (m : Nat) (sem : Sem), ctx[f]? = some sem ∧ m ≤ k ∧ Cal P w K mg base m n (spS ⟨P, w, K⟩ a sem) []
  blt : ∀ x ∈ bltNm, mg x = none
  glb : ∀ x v, (x, v) ∈ G.glb → ∃ u w, mg x = some u ∧ cOk v = some w ∧ RelV w u
theorem start_er {Z : Wd} {L : List Addr} {H : Hp} {N : List Str} {ps : List PV} {vs : List V} (v : VRs Z L H ps vs) (hl : ps.length ≤ N.length) : ER Z L H (ps.map some ++ List.replicate (N.length - ps.length) none) (L2.start N vs) := by
  have e := v.length
  unfold L2.start
  refine ⟨by simp [e], fun i p h1 => ?_⟩
  by_cases hi : i < ps.length
  · rw [List.getElem?_append_left (by simpa using hi), List.getElem?_map] at h1
    obtain ⟨q, h2, h3⟩ := Option.map_eq_some_iff.mp h1
    cases h3
    obtain ⟨x, h4, h5⟩ := v.get' h2
    refine ⟨x, ?_, h5⟩
    rw [List.getElem?_append_left (by simpa [e] using hi), List.getElem?_map, h4]
    rfl
  · rw [List.getElem?_append_right (by simpa using hi), List.getElem?_replicate] at h1
    split at h1 <;> cases h1
theorem def_ok {x : Str} {st : Stmt} {fa : Addr} {fd : FuncData} {ps : List Str} {k : Nat} {G : Ck} {ctx : List Sem} {f : IFun} (F : Def K mg x st fa fd) (b : Binds K fd ps []) (gl : Gl0 P w K mg base G ctx k) (h : kF G f st ps = true) :
    Cal P w K mg base (k + 1) x (spS ⟨P, w, K⟩ ps.length (runFn f ctx)) [] := by
  unfold kF at h
  simp only [Bool.and_eq_true, decide_eq_true_eq] at h
  obtain ⟨⟨⟨h1, h2⟩, h3⟩, h4⟩ := h
  have S := fnScope_by h1
  refine cal0 F b .nil S (fun vs H Q E ⟨L, hh, p, r, h', hr, v, e, _⟩ => by rw [v.length, e]) fun cdv A outer s H vs Q E room ⟨L, hh, p, r, h', hr, v, hn, e, post⟩ => ?_
  let X : Cx := (cxOf C8.CX0 P w K mg base G.N x (fnScope st) fa cdv A outer s H E).nox
  have um : Um X := by
    have := room.un
    show (A.deeper (envOfC x (fnScope st) s.heap.objs.size fa cdv)).units + 100 < cLine
    omega
  have g : Gd G ctx X := ⟨rfl, S.nd, rfl, um, PassesOwn.never, fun f n a q => by
    obtain ⟨m, sem, q1, q2, q3⟩ := gl.fns f n a q
    exact ⟨k, m, sem, q1, room, q2, q3⟩, gl.blt, gl.glb⟩
  have ps' := ss_fin (keep := f.keep) (okSs f.body g S.kind (fun _ => rfl) h2)
  refine ⟨_, ps', L, hh, p.map some ++ List.replicate (G.N.length - p.length) none, r, h', hr, start_er v ?_, ?_, fun x L' H' e' r' v' => ⟨post x L' H' e' r' v', fun ex σ => by subst ex; exact post _ L' H' e' r' v'⟩⟩
  · rw [hn, ← S.pre, List.length_take]
    exact Nat.min_le_right _ _
  · unfold runFn at e
    rw [if_pos (by rw [hn, h4])] at e
    rw [h3, h4, ← hn] at e
    exact e
end
end HW
/-! HxD: a law's defs, all together. -/
namespace HW
open PySem PySem.Spec PyProof.Rows L2 C8

section
variable {P : Program} {w : World} {K : PySem.W.Frag} {mg : Str → Option Value} {base : Heap}
theorem mkDef {h : Heap} (X : K.In h) (G : h.Ns mainGlobals mg) {x : Str} {st : Stmt} {ps : List Str} {f : Addr} {od an : Option Addr} {osl : Array (Option Value)} {oc kV doc pm cdv ct : Value}
    (hb : ∀ (kV doc pm : Value) (an : Option Addr) (cdv ct : Value) (us : List Value), us.length = ps.length → bindArgs (PySem.W.fnOf x x (C8.fnArgs st) (C8.fnBody st) (C8.fnScope st) .none kV doc pm an cdv ct) ⟨us, []⟩ = pure (ps.zip us))
    (a : PySem.W.nsIn K mainGlobals x = some (some (.ref f))) (l : K.lookup f = some ⟨oc, od, .func (PySem.W.fnOf x x (C8.fnArgs st) (C8.fnBody st) (C8.fnScope st) .none kV doc pm an cdv ct), osl⟩) (c : PySem.W.codeIn K cdv x = true) (k : PySem.W.keepIn K (.ref f) = true) :
    ∃ f fd, C8.Def K mg x st f fd ∧ L2.Binds K fd ps [] := by
  have F : C8.Fun K x x st f (PySem.W.fnOf x x (C8.fnArgs st) (C8.fnBody st) (C8.fnScope st) .none kV doc pm an cdv ct) := ⟨oc, od, .none, kV, doc, pm, an, cdv, ct, osl, rfl, l, c⟩
  exact ⟨f, _, ⟨F, PySem.W.mg_of X G a, k⟩, F.binds rfl hb⟩
theorem mkGlb {h : Heap} (X : K.In h) (G : h.Ns mainGlobals mg) {x : Str} {u : Value} {v : V} (a : PySem.W.nsIn K mainGlobals x = some (some u)) (r : RelV v u) : ∃ u, mg x = some u ∧ RelV v u := ⟨u, PySem.W.mg_of X G a, r⟩
/-- the callees, each at a level *)-/
abbrev FnsAt (P : Program) (w : World) (K : PySem.W.Frag) (mg : Str → Option Value) (base : Heap) (k : Nat) : List (Str × Nat) → List Sem → Prop := Paired fun p sem => ∃ m, m ≤ k ∧ Cal P w K mg base m p.1 (spS ⟨P, w, K⟩ p.2 sem) []
theorem fns_get {k : Nat} : ∀ {l : List (Str × Nat)} {ctx : List Sem}, FnsAt P w K mg base k l ctx → ∀ (f : Nat) (n : Str) (a : Nat), l[f]? = some (n, a) → ∃ (m : Nat) (sem : Sem), ctx[f]? = some sem ∧ m ≤ k ∧ Cal P w K mg base m n (spS ⟨P, w, K⟩ a sem) []
  | _, _, .nil, f, n, a, h => by simp at h
  | _, _, .cons h1 h2, 0, n, a, h => by
    simp only [List.getElem?_cons_zero, Option.some.injEq] at h
    subst h
    obtain ⟨m, q1, q2⟩ := h1
    exact ⟨m, _, rfl, q1, q2⟩
  | _, _, .cons h1 h2, f + 1, n, a, h => by
    obtain ⟨m, sem, q1, q2, q3⟩ := fns_get h2 f n a (by simpa using h)
    exact ⟨m, sem, by simpa using q1, q2, q3⟩
abbrev GlbAt (mg : Str → Option Value) (l : List (Str × PV)) : Prop := ∀ p ∈ l, ∃ u w, mg p.1 = some u ∧ cOk p.2 = some w ∧ RelV w u
theorem GlbAt.nil : GlbAt mg [] := fun p hp => by cases hp
theorem GlbAt.cons {x : Str} {v : PV} {y : V} {l : List (Str × PV)} (h1 : ∃ u, mg x = some u ∧ RelV y u) (hc : cOk v = some y) (h2 : GlbAt mg l) : GlbAt mg ((x, v) :: l) := fun p hp => by
  rcases List.mem_cons.mp hp with rfl | hp
  · obtain ⟨u, q1, q2⟩ := h1
    exact ⟨u, y, q1, hc, q2⟩
  · exact h2 p hp
theorem cal_def {x : Str} {st : Stmt} {ps : List Str} {k : Nat} {G : Ck} {ctx : List Sem} {f : IFun} (F : ∃ fa fd, C8.Def K mg x st fa fd ∧ L2.Binds K fd ps []) (b : ∀ x ∈ bltNm, mg x = none) (fs : FnsAt P w K mg base k G.fns ctx) (gs : GlbAt mg G.glb) (h : kF G f st ps = true) :
    Cal P w K mg base (k + 1) x (spS ⟨P, w, K⟩ ps.length (runFn f ctx)) [] := by
  obtain ⟨fa, fd, F, bb⟩ := F
  exact def_ok F bb ⟨fns_get fs, b, fun x v hp => gs (x, v) hp⟩ h
/-- what never answers may be called by any def's name -/
theorem cal_bad {x : Str} {st : Stmt} {ps : List Str} {k : Nat} {N : List Str} (F : ∃ fa fd, C8.Def K mg x st fa fd ∧ L2.Binds K fd ps []) (S : scC N ps (C8.fnScope st) = true) : Cal P w K mg base (k + 1) x (spS ⟨P, w, K⟩ ps.length fun _ _ => .bad) [] := by
  obtain ⟨fa, fd, F, bb⟩ := F
  exact cal0 F bb .nil (fnScope_by S) (fun vs H Q E ⟨_, _, p, _, _, _, v, e, _⟩ => by rw [v.length, e]) fun cdv A outer s H vs Q E room ⟨_, _, _, _, _, _, _, _, e, _⟩ => by cases e
end
end HW
/-! HxE: the law's own head. -/
namespace HW
open PySem PySem.Spec PyProof.Rows L2 C8

section
variable {P : Program} {w : World} {K : PySem.W.Frag} {mg : Str → Option Value} {base : Heap}
/-- def_ok, of the function object that is known -/
theorem def_fn {x : Str} {st : Stmt} {fa : Addr} {fd : FuncData} {ps : List Str} {k : Nat} {G : Ck} {ctx : List Sem} {f : IFun} (F : C8.Def K mg x st fa fd) (gl : Gl0 P w K mg base G ctx k) (h : kF G f st ps = true) :
    FnOk P w K mg base C8.CX0 (k + 1) fa fd ps (spS ⟨P, w, K⟩ ps.length (runFn f ctx)) := by
  unfold kF at h
  simp only [Bool.and_eq_true, decide_eq_true_eq] at h
  obtain ⟨⟨⟨h1, h2⟩, h3⟩, h4⟩ := h
  have S := fnScope_by h1
  refine fn0 F.fn S (fun vs H Q E ⟨L, hh, p, r, h', hr, v, e, _⟩ => by rw [v.length, e]) fun cdv A outer s H vs Q E room ⟨L, hh, p, r, h', hr, v, hn, e, post⟩ => ?_
  let X : Cx := (cxOf C8.CX0 P w K mg base G.N x (fnScope st) fa cdv A outer s H E).nox
  have um : Um X := by
    have := room.un
    show (A.deeper (envOfC x (fnScope st) s.heap.objs.size fa cdv)).units + 100 < cLine
    omega
  have g : Gd G ctx X := ⟨rfl, S.nd, rfl, um, PassesOwn.never, fun f n a q => by
    obtain ⟨m, sem, q1, q2, q3⟩ := gl.fns f n a q
    exact ⟨k, m, sem, q1, room, q2, q3⟩, gl.blt, gl.glb⟩
  have ps' := ss_fin (keep := f.keep) (okSs f.body g S.kind (fun _ => rfl) h2)
  refine ⟨_, ps', L, hh, p.map some ++ List.replicate (G.N.length - p.length) none, r, h', hr, start_er v ?_, ?_, fun x L' H' e' r' v' => ⟨post x L' H' e' r' v', fun ex σ => by subst ex; exact post _ L' H' e' r' v'⟩⟩
  · rw [hn, ← S.pre, List.length_take]
    exact Nat.min_le_right _ _
  · unfold runFn at e
    rw [if_pos (by rw [hn, h4])] at e
    rw [h3, h4, ← hn] at e
    exact e
abbrev LawAt (K : PySem.W.Frag) (mg : Str → Option Value) (st : Stmt) (x : Str) : Prop := ∃ fa fd, C8.Def K mg "law" st fa fd ∧ ∀ (s : Shared) (u : Value), BindsTo s fd ⟨[u], []⟩ [(x, u)]
theorem mkLaw {h : Heap} (X : K.In h) (G : h.Ns mainGlobals mg) {st : Stmt} {y : Str} {f : Addr} {od an : Option Addr} {osl : Array (Option Value)} {oc kV doc pm cdv ct : Value}
    (hb : ∀ (kV doc pm : Value) (an : Option Addr) (cdv ct : Value) (u : Value), bindArgs (PySem.W.fnOf "law" "law" (C8.fnArgs st) (C8.fnBody st) (C8.fnScope st) .none kV doc pm an cdv ct) ⟨[u], []⟩ = pure [(y, u)])
    (a : PySem.W.nsIn K mainGlobals "law" = some (some (.ref f))) (l : K.lookup f = some ⟨oc, od, .func (PySem.W.fnOf "law" "law" (C8.fnArgs st) (C8.fnBody st) (C8.fnScope st) .none kV doc pm an cdv ct), osl⟩) (c : PySem.W.codeIn K cdv "law" = true) (k : PySem.W.keepIn K (.ref f) = true) :
    LawAt K mg st y := by
  have F : C8.Fun K "law" "law" st f (PySem.W.fnOf "law" "law" (C8.fnArgs st) (C8.fnBody st) (C8.fnScope st) .none kV doc pm an cdv ct) := ⟨oc, od, .none, kV, doc, pm, an, cdv, ct, osl, rfl, l, c⟩
  exact ⟨f, _, ⟨F, PySem.W.mg_of X G a, k⟩, fun s u => .of_eq (hb _ _ _ _ _ _ _)⟩
theorem law_fn {st : Stmt} {x : Str} {fa : Addr} {k : Nat} {G : Ck} {ctx : List Sem} {f : IFun} (F : LawAt K mg st x) (hmg : mg "law" = some (.ref fa)) (b : ∀ x ∈ bltNm, mg x = none) (fs : ∀ base, FnsAt P w K mg base k G.fns ctx) (gs : GlbAt mg G.glb) (h : kF G f st [x] = true) :
    ∃ fd : FuncData, (∀ (s : Shared) (u : Value), BindsTo s fd ⟨[u], []⟩ [(x, u)]) ∧ ∀ base : Heap, K.In base → base.Ns mainGlobals mg → FnOk P w K mg base L2.CX0 (k + 1) fa fd [x] (spS ⟨P, w, K⟩ 1 (runFn f ctx)) := by
  obtain ⟨fa', fd, F, bb⟩ := F
  have e := hmg.symm.trans F.mgf
  cases e
  exact ⟨fd, bb, fun base _ _ => def_fn F ⟨fns_get (fs base), b, fun x v hp => gs (x, v) hp⟩ h⟩
end
/-- the law answers True of every script: the promise that the head asks for -/
theorem law_sp {Z : Wd} {H : Hp} {a : Addr} {ns : List Int} {sem : Sem} (hO : Only H) (hS : SqL Z.K H a (ns.map V.int)) {E : XK} {h' : PHeap} (m : sem [.scr ns] [] = .ok (.bl true) h') : spS Z 1 sem [.ref a] H (fun v _ => v = .bl true) E := by
  have nil : HR Z [] [] H := ⟨rfl, .nil, fun n c a h => by simp at h⟩
  have v : VR Z [] H (.scr ns) (.ref a) := by
    rcases hS with h | h
    · rcases h with h | h
      · rcases hO a with q | ⟨o, xs, q⟩
        · rw [q] at h; cases h
        · rw [q] at h; cases h
      · exact .scr h (by simp)
    · exact .scrK fun G => .inr h
  exact ⟨[], [], _, _, _, nil, .cons v .nil, rfl, m, fun x L' H' _ _ v => by cases v; rfl⟩
end HW
namespace K10
open PySem HW
def topS (i : Nat) : Stmt := PySem.Challenge.pw_hollowstead_k10_complexes_and_chains.main.body.getD i (.Pass ⟨0, 0, 0, 0⟩)
def if_is_integer : IFun := ⟨1, 1, (.cons (.ret (.and (.blt (.isi "int") (.cons (.var 0) .nil)) (.not (.blt (.isi "bool") (.cons (.var 0) .nil))))) .nil), false⟩
def ck_is_integer : Ck := ⟨["value"], [], []⟩
theorem kf_is_integer : kF ck_is_integer if_is_integer (topS 4) ["value"] = true := by decide +kernel
def if_is_face : IFun := ⟨1, 3, (.cons (.ifs (.or (.not (.blt (.isi "tuple") (.cons (.var 0) .nil))) (.or (.cmp .eq (.blt .len (.cons (.var 0) .nil)) (.cst (.int 0))) (.not (.conv .all false (.comp false [1] (.nm 1) (.ex (.var 0)) .nil (.and (.call 0 (.cons (.var 1) .nil)) (.cmp .ge (.var 1) (.cst (.int 0))))))))) (.cons (.ret (.cst (.bl false))) .nil) .nil) (.cons (.ret (.conv .all false (.comp false [1, 2] (.tp [(.nm 1), (.nm 2)]) (.zip (.var 0) (.slice (.var 0) (.some (.cst (.int 1))) .none)) .nil (.cmp .lt (.var 1) (.var 2))))) .nil)), false⟩
def ck_is_face : Ck := ⟨["value", "one", "two"], [("is_integer", 1)], []⟩
theorem kf_is_face : kF ck_is_face if_is_face (topS 5) ["value"] = true := by decide +kernel
def if_is_within : IFun := ⟨2, 3, (.cons (.ret (.conv .all false (.comp false [2] (.nm 2) (.ex (.var 0)) .nil (.cmp .isin (.var 2) (.var 1))))) .nil), false⟩
def ck_is_within : Ck := ⟨["face", "other", "corner"], [], []⟩
theorem kf_is_within : kF ck_is_within if_is_within (topS 6) ["face", "other"] = true := by decide +kernel
def if_are_greatest : IFun := ⟨1, 3, (.cons (.ifs (.or (.not (.blt (.isi "tuple") (.cons (.var 0) .nil))) (.not (.conv .all false (.comp false [1] (.nm 1) (.ex (.var 0)) .nil (.call 0 (.cons (.var 1) .nil)))))) (.cons (.ret (.cst (.bl false))) .nil) .nil) (.cons (.ifs (.not (.conv .all false (.comp false [1, 2] (.tp [(.nm 1), (.nm 2)]) (.zip (.var 0) (.slice (.var 0) (.some (.cst (.int 1))) .none)) .nil (.cmp .lt (.var 1) (.var 2))))) (.cons (.ret (.cst (.bl false))) .nil) .nil) (.cons (.for_ (.nm 1) (.ex (.var 0)) (.cons (.ifs (.conv .any false (.comp false [2] (.nm 2) (.ex (.var 0)) .nil (.and (.cmp .ne (.var 1) (.var 2)) (.call 1 (.cons (.var 1) (.cons (.var 2) .nil)))))) (.cons (.ret (.cst (.bl false))) .nil) .nil) .nil)) (.cons (.ret (.cst (.bl true))) .nil)))), false⟩
def ck_are_greatest : Ck := ⟨["value", "one", "two"], [("is_face", 1), ("is_within", 2)], []⟩
theorem kf_are_greatest : kF ck_are_greatest if_are_greatest (topS 7) ["value"] = true := by decide +kernel
def if_corners_of : IFun := ⟨1, 4, (.cons (.asg (.tg (.nm 1)) (.dct true .nil)) (.cons (.for_ (.nm 2) (.ex (.var 0)) (.cons (.for_ (.nm 3) (.ex (.var 2)) (.cons (.asg (.sub (.var 1) (.var 3)) (.cst (.bl true))) .nil)) .nil)) (.cons (.ret (.conv .sorted false (.var 1))) .nil))), false⟩
def ck_corners_of : Ck := ⟨["faces", "found", "face", "corner"], [], []⟩
theorem kf_corners_of : kF ck_corners_of if_corners_of (topS 8) ["faces"] = true := by decide +kernel
def if_is_complex : IFun := ⟨1, 3, (.cons (.ifs (.or (.not (.blt (.isi "tuple") (.cons (.var 0) .nil))) (.or (.not (.cmp2 .lt .le (.cst (.int 0)) (.blt .len (.cons (.var 0) .nil)) (.glob "MOST_FACES" (.int 60)))) (.not (.call 0 (.cons (.var 0) .nil))))) (.cons (.ret (.cst (.bl false))) .nil) .nil) (.cons (.asg (.tg (.nm 1)) (.call 1 (.cons (.var 0) .nil))) (.cons (.ifs (.or (.cmp .gt (.blt .len (.cons (.var 1) .nil)) (.glob "MOST_CORNERS" (.int 12))) (.cmp .ne (.var 1) (.convI .list false (.rng1 (.blt .len (.cons (.var 1) .nil)))))) (.cons (.ret (.cst (.bl false))) .nil) .nil) (.cons (.ret (.conv .all false (.comp false [2] (.nm 2) (.ex (.var 0)) .nil (.cmp .le (.blt .len (.cons (.var 2) .nil)) (.bin .add (.glob "MOST_DIMENSION" (.int 4)) (.cst (.int 1))))))) .nil)))), false⟩
def ck_is_complex : Ck := ⟨["value", "corners", "face"], [("are_greatest", 1), ("corners_of", 1)], [("MOST_FACES", (.int 60)), ("MOST_CORNERS", (.int 12)), ("MOST_DIMENSION", (.int 4))]⟩
theorem kf_is_complex : kF ck_is_complex if_is_complex (topS 9) ["value"] = true := by decide +kernel
def if_parts_of_face : IFun := ⟨1, 4, (.cons (.asg (.tg (.nm 1)) (.lst false (.cons (.tup .nil) .nil))) (.cons (.for_ (.nm 2) (.ex (.var 0)) (.cons (.asg (.tg (.nm 1)) (.bin .add (.var 1) (.comp false [3] (.nm 3) (.ex (.var 1)) .nil (.bin .add (.var 3) (.tup (.cons (.var 2) .nil)))))) .nil)) (.cons (.ret (.slice (.var 1) (.some (.cst (.int 1))) .none)) .nil))), false⟩
def ck_parts_of_face : Ck := ⟨["face", "found", "corner", "one"], [], []⟩
theorem kf_parts_of_face : kF ck_parts_of_face if_parts_of_face (topS 10) ["face"] = true := by decide +kernel
def if_all_faces : IFun := ⟨1, 4, (.cons (.asg (.tg (.nm 1)) (.dct true .nil)) (.cons (.for_ (.nm 2) (.ex (.var 0)) (.cons (.for_ (.nm 3) (.ex (.call 0 (.cons (.var 2) .nil))) (.cons (.asg (.sub (.var 1) (.var 3)) (.cst (.bl true))) .nil)) .nil)) (.cons (.ret (.var 1)) .nil))), false⟩
def ck_all_faces : Ck := ⟨["greatest", "found", "face", "one"], [("parts_of_face", 1)], []⟩
theorem kf_all_faces : kF ck_all_faces if_all_faces (topS 11) ["greatest"] = true := by decide +kernel
def if_faces_of : IFun := ⟨2, 3, (.cons (.ret (.conv .tuple false (.conv .sorted false (.comp false [2] (.nm 2) (.ex (.call 0 (.cons (.var 0) .nil))) (.cons (.cmp .eq (.blt .len (.cons (.var 2) .nil)) (.bin .add (.var 1) (.cst (.int 1)))) .nil) (.var 2))))) .nil), false⟩
def ck_faces_of : Ck := ⟨["shape", "d", "face"], [("all_faces", 1)], []⟩
theorem kf_faces_of : kF ck_faces_of if_faces_of (topS 12) ["shape", "d"] = true := by decide +kernel
def if_is_part : IFun := ⟨2, 4, (.cons (.ifs (.not (.call 0 (.cons (.var 1) .nil))) (.cons (.ret (.cst (.bl false))) .nil) .nil) (.cons (.asg (.tg (.nm 2)) (.call 1 (.cons (.var 0) .nil))) (.cons (.ret (.conv .all false (.comp false [3] (.nm 3) (.ex (.var 1)) .nil (.cmp .isin (.var 3) (.var 2))))) .nil))), false⟩
def ck_is_part : Ck := ⟨["shape", "value", "known", "face"], [("are_greatest", 1), ("all_faces", 1)], []⟩
theorem kf_is_part : kF ck_is_part if_is_part (topS 13) ["shape", "value"] = true := by decide +kernel
def if_told : IFun := ⟨1, 3, (.cons (.ret (.conv .tuple false (.conv .sorted false (.comp false [1, 2] (.tp [(.nm 1), (.nm 2)]) (.items (.var 0)) (.cons (.cmp .ne (.var 2) (.cst (.int 0))) .nil) (.tup (.cons (.var 1) (.cons (.var 2) .nil))))))) .nil), false⟩
def ck_told : Ck := ⟨["table", "face", "n"], [], []⟩
theorem kf_told : kF ck_told if_told (topS 15) ["table"] = true := by decide +kernel
def if_sides_of : IFun := ⟨1, 2, (.cons (.ifs (.cmp .eq (.blt .len (.cons (.var 0) .nil)) (.cst (.int 1))) (.cons (.ret (.lst false .nil)) .nil) .nil) (.cons (.ret (.comp false [1] (.nm 1) (.rng1 (.blt .len (.cons (.var 0) .nil))) .nil (.tup (.cons (.bin .add (.slice (.var 0) .none (.some (.var 1))) (.slice (.var 0) (.some (.bin .add (.var 1) (.cst (.int 1)))) .none)) (.cons (.bin .sub (.cst (.int 1)) (.bin .mul (.cst (.int 2)) (.bin .mod (.var 1) (.cst (.int 2))))) .nil))))) .nil)), false⟩
def ck_sides_of : Ck := ⟨["face", "k"], [], []⟩
theorem kf_sides_of : kF ck_sides_of if_sides_of (topS 16) ["face"] = true := by decide +kernel
def if_boundary : IFun := ⟨1, 6, (.cons (.asg (.tg (.nm 1)) (.dct true .nil)) (.cons (.for_ (.tp [(.nm 2), (.nm 3)]) (.ex (.var 0)) (.cons (.for_ (.tp [(.nm 4), (.nm 5)]) (.ex (.call 0 (.cons (.var 2) .nil))) (.cons (.asg (.sub (.var 1) (.var 4)) (.bin .add (.meth .dget (.var 1) (.cons (.var 4) (.cons (.cst (.int 0)) .nil))) (.bin .mul (.var 5) (.var 3)))) .nil)) .nil)) (.cons (.ret (.call 1 (.cons (.var 1) .nil))) .nil))), false⟩
def ck_boundary : Ck := ⟨["chain", "found", "face", "n", "side", "sign"], [("sides_of", 1), ("told", 1)], []⟩
theorem kf_boundary : kF ck_boundary if_boundary (topS 17) ["chain"] = true := by decide +kernel
def if_value_on : IFun := ⟨2, 5, (.cons (.asg (.tg (.nm 2)) (.conv .dict false (.var 0))) (.cons (.ret (.conv .sum false (.comp false [3, 4] (.tp [(.nm 3), (.nm 4)]) (.ex (.var 1)) .nil (.bin .mul (.meth .dget (.var 2) (.cons (.var 3) (.cons (.cst (.int 0)) .nil))) (.var 4))))) .nil)), false⟩
def ck_value_on : Ck := ⟨["cochain", "chain", "table", "face", "n"], [], []⟩
theorem kf_value_on : kF ck_value_on if_value_on (topS 18) ["cochain", "chain"] = true := by decide +kernel
def if_coboundary : IFun := ⟨2, 4, (.cons (.ifs (.not (.var 1)) (.cons (.ret (.tup .nil)) .nil) .nil) (.cons (.asg (.tg (.nm 2)) (.dct true .nil)) (.cons (.for_ (.nm 3) (.ex (.call 0 (.cons (.var 0) (.cons (.blt .len (.cons (.sub (.sub (.var 1) (.cst (.int 0))) (.cst (.int 0))) .nil)) .nil)))) (.cons (.asg (.sub (.var 2) (.var 3)) (.call 1 (.cons (.var 1) (.cons (.call 2 (.cons (.tup (.cons (.tup (.cons (.var 3) (.cons (.cst (.int 1)) .nil))) .nil)) .nil)) .nil)))) .nil)) (.cons (.ret (.call 3 (.cons (.var 2) .nil))) .nil)))), false⟩
def ck_coboundary : Ck := ⟨["shape", "cochain", "found", "face"], [("faces_of", 2), ("value_on", 2), ("boundary", 1), ("told", 1)], []⟩
theorem kf_coboundary : kF ck_coboundary if_coboundary (topS 19) ["shape", "cochain"] = true := by decide +kernel
def if_added : IFun := ⟨2, 5, (.cons (.asg (.tg (.nm 2)) (.conv .dict true (.var 0))) (.cons (.for_ (.tp [(.nm 3), (.nm 4)]) (.ex (.var 1)) (.cons (.asg (.sub (.var 2) (.var 3)) (.bin .add (.meth .dget (.var 2) (.cons (.var 3) (.cons (.cst (.int 0)) .nil))) (.var 4))) .nil)) (.cons (.ret (.call 0 (.cons (.var 2) .nil))) .nil))), false⟩
def ck_added : Ck := ⟨["first", "second", "found", "face", "n"], [("told", 1)], []⟩
theorem kf_added : kF ck_added if_added (topS 20) ["first", "second"] = true := by decide +kernel
def if_multiple : IFun := ⟨2, 4, (.cons (.ret (.call 0 (.cons (.dcomp false [2, 3] (.tp [(.nm 2), (.nm 3)]) (.ex (.var 0)) .nil (.var 2) (.bin .mul (.var 1) (.var 3))) .nil))) .nil), false⟩
def ck_multiple : Ck := ⟨["chain", "k", "face", "n"], [("told", 1)], []⟩
theorem kf_multiple : kF ck_multiple if_multiple (topS 21) ["chain", "k"] = true := by decide +kernel
def if__law_start : IFun := ⟨1, 2, (.cons (.ret (.lst true (.cons (.comp false [1] (.nm 1) (.ex (.slice (.var 0) .none (.some (.cst (.int 63))))) .nil (.blt .int (.cons (.var 1) .nil))) (.cons (.cst (.int 0)) (.cons (.cst (.int 0)) (.cons (.cst (.int 0)) (.cons (.cst (.int 20)) .nil))))))) .nil), true⟩
def ck__law_start : Ck := ⟨["script", "cell"], [], []⟩
theorem kf__law_start : kF ck__law_start if__law_start (topS 23) ["script"] = true := by decide +kernel
def if__law_fill : IFun := ⟨1, 2, (.cons (.asg (.sub (.var 0) (.cst (.int 3))) (.bin .add (.sub (.var 0) (.cst (.int 3))) (.cst (.int 1)))) (.cons (.asg (.tg (.nm 1)) (.bin .add (.bin .mul (.sub (.var 0) (.cst (.int 3))) (.cst (.int 69621))) (.cst (.int 12345)))) (.cons (.ifs (.cmp .lt (.sub (.var 0) (.cst (.int 1))) (.blt .len (.cons (.sub (.var 0) (.cst (.int 0))) .nil))) (.cons (.asg (.tg (.nm 1)) (.sub (.sub (.var 0) (.cst (.int 0))) (.sub (.var 0) (.cst (.int 1))))) (.cons (.asg (.sub (.var 0) (.cst (.int 1))) (.bin .add (.sub (.var 0) (.cst (.int 1))) (.cst (.int 1)))) (.cons (.ifs (.cmp .lt (.var 1) (.cst (.int 0))) (.cons (.asg (.tg (.nm 1)) (.bin .sub (.bin .sub (.cst (.int 0)) (.cst (.int 1))) (.var 1))) .nil) .nil) (.cons (.ifs (.cmp .ge (.var 1) (.bin .pow (.cst (.int 10)) (.cst (.int 18)))) (.cons (.ret (.var 1)) .nil) .nil) .nil)))) .nil) (.cons (.ifs (.and (.sub (.var 0) (.cst (.int 0))) (.cmp .ge (.sub (.var 0) (.cst (.int 1))) (.blt .len (.cons (.sub (.var 0) (.cst (.int 0))) .nil)))) (.cons (.asg (.tg (.nm 1)) (.bin .add (.var 1) (.bin .mod (.blt .int (.cons (.sub (.sub (.var 0) (.cst (.int 0))) (.neg (.cst (.int 1)))) .nil)) (.cst (.int 1000003))))) .nil) .nil) (.cons (.asg (.tg (.nm 1)) (.bin .mod (.blt .int (.cons (.bin .add (.bin .mul (.var 1) (.cst (.int 48271))) (.bin .mul (.sub (.var 0) (.cst (.int 3))) (.cst (.int 69621)))) .nil)) (.cst (.int 2147483647)))) (.cons (.ret (.bin .add (.bin .fdiv (.blt .int (.cons (.bin .add (.bin .add (.bin .mul (.var 1) (.var 1)) (.bin .mul (.sub (.var 0) (.cst (.int 3))) (.cst (.int 7919)))) (.cst (.int 11))) .nil)) (.cst (.int 64))) (.cst (.int 36028797018963968)))) .nil)))))), false⟩
def ck__law_fill : Ck := ⟨["c", "number"], [], []⟩
theorem kf__law_fill : kF ck__law_fill if__law_fill (topS 24) ["c"] = true := by decide +kernel
def if__law_take : IFun := ⟨2, 3, (.cons (.ifs (.cmp .lt (.sub (.var 0) (.cst (.int 2))) (.var 1)) (.cons (.asg (.sub (.var 0) (.cst (.int 2))) (.call 0 (.cons (.var 0) .nil))) .nil) .nil) (.cons (.asg (.tg (.nm 2)) (.bin .mod (.blt .int (.cons (.sub (.var 0) (.cst (.int 2))) .nil)) (.var 1))) (.cons (.asg (.sub (.var 0) (.cst (.int 2))) (.bin .fdiv (.sub (.var 0) (.cst (.int 2))) (.var 1))) (.cons (.ret (.var 2)) .nil)))), false⟩
def ck__law_take : Ck := ⟨["c", "many", "digit"], [("_law_fill", 1)], []⟩
theorem kf__law_take : kF ck__law_take if__law_take (topS 25) ["c", "many"] = true := by decide +kernel
def if__law_is_int : IFun := ⟨1, 1, (.cons (.ret (.and (.blt (.isi "int") (.cons (.var 0) .nil)) (.not (.blt (.isi "bool") (.cons (.var 0) .nil))))) .nil), false⟩
def ck__law_is_int : Ck := ⟨["value"], [], []⟩
theorem kf__law_is_int : kF ck__law_is_int if__law_is_int (topS 26) ["value"] = true := by decide +kernel
def if__law_alike : IFun := ⟨2, 3, (.cons (.ifs (.blt (.isi "tuple") (.cons (.var 1) .nil)) (.cons (.ret (.and (.blt (.isi "tuple") (.cons (.var 0) .nil)) (.and (.cmp .eq (.blt .len (.cons (.var 0) .nil)) (.blt .len (.cons (.var 1) .nil))) (.conv .all false (.comp false [2] (.nm 2) (.rng1 (.blt .len (.cons (.var 1) .nil))) .nil (.call 0 (.cons (.sub (.var 0) (.var 2)) (.cons (.sub (.var 1) (.var 2)) .nil)))))))) .nil) .nil) (.cons (.ifs (.cmp .is (.var 1) (.cst .non)) (.cons (.ret (.cmp .is (.var 0) (.cst .non))) .nil) .nil) (.cons (.ifs (.or (.blt (.isi "bool") (.cons (.var 0) .nil)) (.cmp .ne (.blt (.isi "str") (.cons (.var 0) .nil)) (.blt (.isi "str") (.cons (.var 1) .nil)))) (.cons (.ret (.cst (.bl false))) .nil) .nil) (.cons (.ret (.and (.blt (.isiT ["int", "str"]) (.cons (.var 0) .nil)) (.cmp .eq (.var 0) (.var 1)))) .nil)))), false⟩
def ck__law_alike : Ck := ⟨["value", "due", "k"], [("_law_alike", 2)], []⟩
theorem kf__law_alike : kF ck__law_alike if__law_alike (topS 27) ["value", "due"] = true := by decide +kernel
def if__law_spoilt : IFun := ⟨2, 3, (.cons (.ifs (.blt (.isi "str") (.cons (.var 1) .nil)) (.cons (.ret (.sub (.lst false (.cons (.cst (.str (Str.ofString ""))) (.cons (.cst (.str (Str.ofString "way"))) (.cons (.cst (.str (Str.ofString "apart"))) (.cons (.cst (.str (Str.ofString "open"))) (.cons (.cst (.str (Str.ofString "turned"))) (.cons (.cst (.str (Str.ofString "cycle"))) (.cons (.cst (.str (Str.ofString "smith"))) (.cons (.cst (.str (Str.ofString "holes"))) (.cons (.cst (.str (Str.ofString "fills"))) (.cons (.cst (.str (Str.ofString "bars"))) (.cons (.cst (.str (Str.ofString "comes"))) .nil)))))))))))) (.call 0 (.cons (.var 0) (.cons (.cst (.int 11)) .nil))))) .nil) .nil) (.cons (.ifs (.not (.blt (.isi "tuple") (.cons (.var 1) .nil))) (.cons (.ret (.sub (.lst false (.cons (.cst (.int 0)) (.cons (.cst (.int 1)) (.cons (.cst (.int 2)) (.cons (.neg (.cst (.int 1))) (.cons (.cst (.bl true)) (.cons (.cst .non) (.cons (.cst (.int 3)) .nil)))))))) (.call 0 (.cons (.var 0) (.cons (.cst (.int 7)) .nil))))) .nil) .nil) (.cons (.ifs (.or (.not (.var 1)) (.cmp .eq (.call 0 (.cons (.var 0) (.cons (.cst (.int 5)) .nil))) (.cst (.int 0)))) (.cons (.ret (.sub (.lst false (.cons (.slice (.var 1) (.some (.cst (.int 1))) .none) (.cons (.slice (.var 1) .none (.some (.neg (.cst (.int 1))))) (.cons (.bin .add (.var 1) (.slice (.var 1) (.some (.neg (.cst (.int 1)))) .none)) (.cons (.rev (.var 1) (.neg (.cst (.int 1)))) (.cons (.conv .list false (.var 1)) (.cons (.bin .add (.var 1) (.tup (.cons (.cst (.int 0)) .nil))) (.cons (.tup .nil) (.cons (.tup (.cons (.cst (.int 1)) (.cons (.cst (.int 0)) .nil))) .nil))))))))) (.call 0 (.cons (.var 0) (.cons (.cst (.int 8)) .nil))))) .nil) .nil) (.cons (.asg (.tg (.nm 2)) (.call 0 (.cons (.var 0) (.cons (.blt .len (.cons (.var 1) .nil)) .nil)))) (.cons (.ret (.bin .add (.bin .add (.slice (.var 1) .none (.some (.var 2))) (.tup (.cons (.call 1 (.cons (.var 0) (.cons (.sub (.var 1) (.var 2)) .nil))) .nil))) (.slice (.var 1) (.some (.bin .add (.var 2) (.cst (.int 1)))) .none))) .nil))))), false⟩
def ck__law_spoilt : Ck := ⟨["c", "value", "k"], [("_law_take", 2), ("_law_spoilt", 2)], []⟩
theorem kf__law_spoilt : kF ck__law_spoilt if__law_spoilt (topS 28) ["c", "value"] = true := by decide +kernel
def if__law_bent : IFun := ⟨3, 4, (.cons (.for_ (.nm 3) (.rng1 (.bin .mul (.blt .int (.cons (.cmp .gt (.var 2) (.cst (.int 0))) .nil)) (.bin .add (.cst (.int 1)) (.call 0 (.cons (.var 0) (.cons (.cst (.int 2)) .nil)))))) (.cons (.asg (.tg (.nm 1)) (.call 1 (.cons (.var 0) (.cons (.var 1) .nil)))) .nil)) (.cons (.ret (.var 1)) .nil)), false⟩
def ck__law_bent : Ck := ⟨["c", "value", "turn", "k"], [("_law_take", 2), ("_law_spoilt", 2)], []⟩
theorem kf__law_bent : kF ck__law_bent if__law_bent (topS 29) ["c", "value", "turn"] = true := by decide +kernel
def if__law_parts_of : IFun := ⟨1, 4, (.cons (.asg (.tg (.nm 1)) (.lst false (.cons (.tup .nil) .nil))) (.cons (.for_ (.nm 2) (.ex (.var 0)) (.cons (.asg (.tg (.nm 1)) (.bin .add (.var 1) (.comp false [3] (.nm 3) (.ex (.var 1)) .nil (.bin .add (.var 3) (.tup (.cons (.var 2) .nil)))))) .nil)) (.cons (.ret (.comp false [3] (.nm 3) (.ex (.var 1)) (.cons (.var 3) .nil) (.var 3))) .nil))), false⟩
def ck__law_parts_of : Ck := ⟨["face", "found", "corner", "one"], [], []⟩
theorem kf__law_parts_of : kF ck__law_parts_of if__law_parts_of (topS 30) ["face"] = true := by decide +kernel
def if__law_faces : IFun := ⟨1, 4, (.cons (.asg (.tg (.nm 1)) (.dct true .nil)) (.cons (.for_ (.nm 2) (.ex (.var 0)) (.cons (.for_ (.nm 3) (.ex (.call 0 (.cons (.var 2) .nil))) (.cons (.asg (.sub (.var 1) (.var 3)) (.cst (.bl true))) .nil)) .nil)) (.cons (.ret (.conv .sorted false (.var 1))) .nil))), false⟩
def ck__law_faces : Ck := ⟨["shape", "found", "face", "one"], [("_law_parts_of", 1)], []⟩
theorem kf__law_faces : kF ck__law_faces if__law_faces (topS 31) ["shape"] = true := by decide +kernel
def if__law_level : IFun := ⟨2, 3, (.cons (.ret (.comp false [2] (.nm 2) (.ex (.call 0 (.cons (.var 0) .nil))) (.cons (.cmp .eq (.blt .len (.cons (.var 2) .nil)) (.bin .add (.var 1) (.cst (.int 1)))) .nil) (.var 2))) .nil), false⟩
def ck__law_level : Ck := ⟨["shape", "d", "face"], [("_law_faces", 1)], []⟩
theorem kf__law_level : kF ck__law_level if__law_level (topS 32) ["shape", "d"] = true := by decide +kernel
def if__law_inside : IFun := ⟨2, 3, (.cons (.ret (.conv .all false (.comp false [2] (.nm 2) (.ex (.var 0)) .nil (.cmp .isin (.var 2) (.var 1))))) .nil), false⟩
def ck__law_inside : Ck := ⟨["one", "two", "k"], [], []⟩
theorem kf__law_inside : kF ck__law_inside if__law_inside (topS 33) ["one", "two"] = true := by decide +kernel
def if__law_greatest : IFun := ⟨1, 4, (.cons (.asg (.tg (.nm 1)) (.conv .sortedSet false (.var 0))) (.cons (.ret (.conv .tuple false (.comp false [2] (.nm 2) (.ex (.var 1)) (.cons (.not (.conv .any false (.comp false [3] (.nm 3) (.ex (.var 1)) .nil (.and (.cmp .ne (.var 2) (.var 3)) (.call 0 (.cons (.var 2) (.cons (.var 3) .nil))))))) .nil) (.var 2)))) .nil)), false⟩
def ck__law_greatest : Ck := ⟨["faces", "rows", "one", "two"], [("_law_inside", 2)], []⟩
theorem kf__law_greatest : kF ck__law_greatest if__law_greatest (topS 34) ["faces"] = true := by decide +kernel
def if__law_plane : IFun := ⟨0, 0, (.cons (.ret (.tup (.cons (.tup (.cons (.cst (.int 0)) (.cons (.cst (.int 1)) (.cons (.cst (.int 4)) .nil)))) (.cons (.tup (.cons (.cst (.int 0)) (.cons (.cst (.int 1)) (.cons (.cst (.int 5)) .nil)))) (.cons (.tup (.cons (.cst (.int 0)) (.cons (.cst (.int 2)) (.cons (.cst (.int 3)) .nil)))) (.cons (.tup (.cons (.cst (.int 0)) (.cons (.cst (.int 2)) (.cons (.cst (.int 5)) .nil)))) (.cons (.tup (.cons (.cst (.int 0)) (.cons (.cst (.int 3)) (.cons (.cst (.int 4)) .nil)))) (.cons (.tup (.cons (.cst (.int 1)) (.cons (.cst (.int 2)) (.cons (.cst (.int 3)) .nil)))) (.cons (.tup (.cons (.cst (.int 1)) (.cons (.cst (.int 2)) (.cons (.cst (.int 4)) .nil)))) (.cons (.tup (.cons (.cst (.int 1)) (.cons (.cst (.int 3)) (.cons (.cst (.int 5)) .nil)))) (.cons (.tup (.cons (.cst (.int 2)) (.cons (.cst (.int 4)) (.cons (.cst (.int 5)) .nil)))) (.cons (.tup (.cons (.cst (.int 3)) (.cons (.cst (.int 4)) (.cons (.cst (.int 5)) .nil)))) .nil)))))))))))) .nil), false⟩
def ck__law_plane : Ck := ⟨[], [], []⟩
theorem kf__law_plane : kF ck__law_plane if__law_plane (topS 35) [] = true := by decide +kernel
def if__law_shape : IFun := ⟨1, 6, (.cons (.asg (.tg (.nm 1)) (.call 0 (.cons (.var 0) (.cons (.cst (.int 8)) .nil)))) (.cons (.ifs (.cmp .eq (.var 1) (.cst (.int 0))) (.cons (.ret (.call 1 .nil)) .nil) .nil) (.cons (.ifs (.cmp .eq (.var 1) (.cst (.int 1))) (.cons (.ret (.tup (.cons (.tup (.cons (.cst (.int 0)) (.cons (.cst (.int 1)) (.cons (.cst (.int 2)) .nil)))) (.cons (.tup (.cons (.cst (.int 0)) (.cons (.cst (.int 1)) (.cons (.cst (.int 3)) .nil)))) (.cons (.tup (.cons (.cst (.int 0)) (.cons (.cst (.int 2)) (.cons (.cst (.int 3)) .nil)))) (.cons (.tup (.cons (.cst (.int 1)) (.cons (.cst (.int 2)) (.cons (.cst (.int 3)) .nil)))) .nil)))))) .nil) .nil) (.cons (.asg (.tg (.nm 2)) (.bin .add (.cst (.int 1)) (.call 0 (.cons (.var 0) (.cons (.cst (.int 5)) .nil))))) (.cons (.asg (.tg (.nm 3)) (.comp true [5] (.nm 5) (.rng1 (.var 2)) .nil (.tup (.cons (.var 5) .nil)))) (.cons (.for_ (.nm 4) (.ex (.call 2 (.cons (.convI .tuple false (.rng1 (.var 2))) .nil))) (.cons (.ifs (.and (.cmp2 .lt .lt (.cst (.int 1)) (.blt .len (.cons (.var 4) .nil)) (.cst (.int 5))) (.cmp .eq (.call 0 (.cons (.var 0) (.cons (.sub (.lst false (.cons (.cst (.int 3)) (.cons (.cst (.int 2)) (.cons (.cst (.int 3)) (.cons (.cst (.int 4)) (.cons (.cst (.int 4)) .nil)))))) (.blt .len (.cons (.var 4) .nil))) .nil))) (.cst (.int 0)))) (.cons (.expr (.meth .lapp (.var 3) (.cons (.var 4) .nil))) .nil) .nil) .nil)) (.cons (.ret (.call 3 (.cons (.var 3) .nil))) .nil))))))), false⟩
def ck__law_shape : Ck := ⟨["c", "kind", "n", "faces", "face", "k"], [("_law_take", 2), ("_law_plane", 0), ("_law_parts_of", 1), ("_law_greatest", 1)], []⟩
theorem kf__law_shape : kF ck__law_shape if__law_shape (topS 36) ["c"] = true := by decide +kernel
def if__law_sides : IFun := ⟨1, 2, (.cons (.ifs (.cmp .eq (.blt .len (.cons (.var 0) .nil)) (.cst (.int 1))) (.cons (.ret (.lst false .nil)) .nil) .nil) (.cons (.ret (.comp false [1] (.nm 1) (.rng1 (.blt .len (.cons (.var 0) .nil))) .nil (.tup (.cons (.bin .add (.slice (.var 0) .none (.some (.var 1))) (.slice (.var 0) (.some (.bin .add (.var 1) (.cst (.int 1)))) .none)) (.cons (.bin .sub (.cst (.int 1)) (.bin .mul (.cst (.int 2)) (.bin .mod (.var 1) (.cst (.int 2))))) .nil))))) .nil)), false⟩
def ck__law_sides : Ck := ⟨["face", "k"], [], []⟩
theorem kf__law_sides : kF ck__law_sides if__law_sides (topS 37) ["face"] = true := by decide +kernel
def if__law_chain : IFun := ⟨1, 2, (.cons (.ret (.conv .tuple false (.conv .sorted false (.comp false [1] (.nm 1) (.ex (.var 0)) (.cons (.cmp .ne (.sub (.var 0) (.var 1)) (.cst (.int 0))) .nil) (.tup (.cons (.var 1) (.cons (.sub (.var 0) (.var 1)) .nil))))))) .nil), false⟩
def ck__law_chain : Ck := ⟨["table", "face"], [], []⟩
theorem kf__law_chain : kF ck__law_chain if__law_chain (topS 38) ["table"] = true := by decide +kernel
def if__law_boundary : IFun := ⟨1, 6, (.cons (.asg (.tg (.nm 1)) (.dct true .nil)) (.cons (.for_ (.tp [(.nm 2), (.nm 3)]) (.ex (.var 0)) (.cons (.for_ (.tp [(.nm 4), (.nm 5)]) (.ex (.call 0 (.cons (.var 2) .nil))) (.cons (.asg (.sub (.var 1) (.var 4)) (.bin .add (.meth .dget (.var 1) (.cons (.var 4) (.cons (.cst (.int 0)) .nil))) (.bin .mul (.var 5) (.var 3)))) .nil)) .nil)) (.cons (.ret (.call 1 (.cons (.var 1) .nil))) .nil))), false⟩
def ck__law_boundary : Ck := ⟨["chain", "found", "face", "n", "side", "sign"], [("_law_sides", 1), ("_law_chain", 1)], []⟩
theorem kf__law_boundary : kF ck__law_boundary if__law_boundary (topS 39) ["chain"] = true := by decide +kernel
def if__law_value : IFun := ⟨2, 5, (.cons (.asg (.tg (.nm 2)) (.conv .dict false (.var 0))) (.cons (.ret (.conv .sum false (.comp false [3, 4] (.tp [(.nm 3), (.nm 4)]) (.ex (.var 1)) .nil (.bin .mul (.meth .dget (.var 2) (.cons (.var 3) (.cons (.cst (.int 0)) .nil))) (.var 4))))) .nil)), false⟩
def ck__law_value : Ck := ⟨["cochain", "chain", "table", "face", "n"], [], []⟩
theorem kf__law_value : kF ck__law_value if__law_value (topS 40) ["cochain", "chain"] = true := by decide +kernel
def if__law_coboundary : IFun := ⟨2, 4, (.cons (.asg (.tg (.nm 2)) (.dct true .nil)) (.cons (.ifs (.var 1) (.cons (.for_ (.nm 3) (.ex (.call 0 (.cons (.var 0) (.cons (.blt .len (.cons (.sub (.sub (.var 1) (.cst (.int 0))) (.cst (.int 0))) .nil)) .nil)))) (.cons (.asg (.sub (.var 2) (.var 3)) (.call 1 (.cons (.var 1) (.cons (.call 2 (.cons (.tup (.cons (.tup (.cons (.var 3) (.cons (.cst (.int 1)) .nil))) .nil)) .nil)) .nil)))) .nil)) .nil) .nil) (.cons (.ret (.call 3 (.cons (.var 2) .nil))) .nil))), false⟩
def ck__law_coboundary : Ck := ⟨["shape", "cochain", "found", "face"], [("_law_level", 2), ("_law_value", 2), ("_law_boundary", 1), ("_law_chain", 1)], []⟩
theorem kf__law_coboundary : kF ck__law_coboundary if__law_coboundary (topS 41) ["shape", "cochain"] = true := by decide +kernel
def if__law_some : IFun := ⟨2, 3, (.cons (.ret (.call 0 (.cons (.conv .dict false (.comp false [2] (.nm 2) (.ex (.var 1)) .nil (.tup (.cons (.var 2) (.cons (.bin .sub (.call 1 (.cons (.var 0) (.cons (.cst (.int 5)) .nil))) (.cst (.int 2))) .nil))))) .nil))) .nil), false⟩
def ck__law_some : Ck := ⟨["c", "faces", "face"], [("_law_chain", 1), ("_law_take", 2)], []⟩
theorem kf__law_some : kF ck__law_some if__law_some (topS 42) ["c", "faces"] = true := by decide +kernel
def if__law_are_greatest : IFun := ⟨1, 3, (.cons (.ifs (.not (.blt (.isi "tuple") (.cons (.var 0) .nil))) (.cons (.ret (.cst (.bl false))) .nil) .nil) (.cons (.for_ (.nm 1) (.ex (.var 0)) (.cons (.ifs (.or (.not (.blt (.isi "tuple") (.cons (.var 1) .nil))) (.or (.not (.var 1)) (.not (.conv .all false (.comp false [2] (.nm 2) (.ex (.var 1)) .nil (.and (.call 0 (.cons (.var 2) .nil)) (.cmp .ge (.var 2) (.cst (.int 0))))))))) (.cons (.ret (.cst (.bl false))) .nil) .nil) (.cons (.ifs (.cmp .ne (.conv .list false (.var 1)) (.conv .sortedSet false (.var 1))) (.cons (.ret (.cst (.bl false))) .nil) .nil) .nil))) (.cons (.ret (.cmp .eq (.var 0) (.call 1 (.cons (.var 0) .nil)))) .nil))), false⟩
def ck__law_are_greatest : Ck := ⟨["value", "face", "one"], [("_law_is_int", 1), ("_law_greatest", 1)], []⟩
theorem kf__law_are_greatest : kF ck__law_are_greatest if__law_are_greatest (topS 43) ["value"] = true := by decide +kernel
def if__law_is_complex : IFun := ⟨1, 3, (.cons (.ifs (.or (.not (.call 0 (.cons (.var 0) .nil))) (.or (.not (.cmp2 .le .le (.cst (.int 1)) (.blt .len (.cons (.var 0) .nil)) (.cst (.int 60)))) (.conv .any false (.comp false [2] (.nm 2) (.ex (.var 0)) .nil (.cmp .gt (.blt .len (.cons (.var 2) .nil)) (.cst (.int 5))))))) (.cons (.ret (.cst (.bl false))) .nil) .nil) (.cons (.asg (.tg (.nm 1)) (.comp false [2] (.nm 2) (.ex (.call 1 (.cons (.var 0) .nil))) (.cons (.cmp .eq (.blt .len (.cons (.var 2) .nil)) (.cst (.int 1))) .nil) (.sub (.var 2) (.cst (.int 0))))) (.cons (.ret (.and (.cmp .le (.blt .len (.cons (.var 1) .nil)) (.cst (.int 12))) (.cmp .eq (.var 1) (.convI .list false (.rng1 (.blt .len (.cons (.var 1) .nil))))))) .nil))), false⟩
def ck__law_is_complex : Ck := ⟨["value", "corners", "face"], [("_law_are_greatest", 1), ("_law_faces", 1)], []⟩
theorem kf__law_is_complex : kF ck__law_is_complex if__law_is_complex (topS 44) ["value"] = true := by decide +kernel
def if_law : IFun := ⟨1, 19, (.cons (.asg (.tg (.nm 1)) (.call 0 (.cons (.var 0) .nil))) (.cons (.asg (.tg (.nm 2)) (.call 1 (.cons (.var 1) .nil))) (.cons (.asg (.tg (.nm 3)) (.call 2 (.cons (.var 2) .nil))) (.cons (.for_ (.nm 4) (.rng1 (.cst (.int 6))) (.cons (.asg (.tg (.nm 6)) (.call 3 (.cons (.var 1) (.cons (.var 2) (.cons (.var 4) .nil))))) (.cons (.asg (.tg (.nm 7)) (.call 4 (.cons (.var 6) .nil))) (.cons (.ifs (.or (.not (.blt (.isi "bool") (.cons (.var 7) .nil))) (.cmp .ne (.var 7) (.call 5 (.cons (.var 6) .nil)))) (.cons (.ret (.cst (.bl false))) .nil) .nil) (.cons (.asg (.tg (.nm 8)) (.call 6 (.cons (.comp false [11] (.nm 11) (.rng1 (.call 7 (.cons (.var 1) (.cons (.cst (.int 4)) .nil)))) .nil (.sub (.var 3) (.call 7 (.cons (.var 1) (.cons (.blt .len (.cons (.var 3) .nil)) .nil))))) .nil))) (.cons (.asg (.tg (.nm 8)) (.call 3 (.cons (.var 1) (.cons (.var 8) (.cons (.bin .mod (.var 4) (.cst (.int 2))) .nil))))) (.cons (.asg (.tg (.nm 9)) (.and (.call 8 (.cons (.var 8) .nil)) (.conv .all false (.comp false [17] (.nm 17) (.ex (.var 8)) .nil (.cmp .isin (.var 17) (.var 3)))))) (.cons (.asg (.tg (.nm 7)) (.call 9 (.cons (.var 2) (.cons (.var 8) .nil)))) (.cons (.ifs (.or (.not (.blt (.isi "bool") (.cons (.var 7) .nil))) (.cmp .ne (.var 7) (.var 9))) (.cons (.ret (.cst (.bl false))) .nil) .nil) .nil))))))))) (.cons (.ifs (.not (.conv .all false (.comp false [5] (.nm 5) (.rng1 (.cst (.int 5))) .nil (.call 10 (.cons (.call 11 (.cons (.var 2) (.cons (.var 5) .nil))) (.cons (.conv .tuple false (.call 12 (.cons (.var 2) (.cons (.var 5) .nil)))) .nil)))))) (.cons (.ret (.cst (.bl false))) .nil) .nil) (.cons (.for_ (.nm 5) (.rng1 (.cst (.int 4))) (.cons (.par [(.tg (.nm 12)), (.tg (.nm 13))] (.cons (.call 12 (.cons (.var 2) (.cons (.var 5) .nil))) (.cons (.call 12 (.cons (.var 2) (.cons (.bin .add (.var 5) (.cst (.int 1))) .nil))) .nil))) (.cons (.par [(.tg (.nm 14)), (.tg (.nm 15)), (.tg (.nm 16))] (.cons (.call 13 (.cons (.var 1) (.cons (.var 12) .nil))) (.cons (.call 13 (.cons (.var 1) (.cons (.var 12) .nil))) (.cons (.call 13 (.cons (.var 1) (.cons (.var 13) .nil))) .nil)))) (.cons (.asg (.tg (.nm 10)) (.conv .dict true (.var 14))) (.cons (.for_ (.tp [(.nm 17), (.nm 18)]) (.ex (.var 15)) (.cons (.asg (.sub (.var 10) (.var 17)) (.bin .add (.meth .dget (.var 10) (.cons (.var 17) (.cons (.cst (.int 0)) .nil))) (.var 18))) .nil)) (.cons (.asg (.tg (.nm 11)) (.bin .sub (.call 7 (.cons (.var 1) (.cons (.cst (.int 5)) .nil))) (.cst (.int 2)))) (.cons (.ifs (.not (.call 10 (.cons (.call 14 (.cons (.var 14) (.cons (.var 15) .nil))) (.cons (.call 15 (.cons (.var 10) .nil)) .nil)))) (.cons (.ret (.cst (.bl false))) .nil) .nil) (.cons (.ifs (.not (.call 10 (.cons (.call 16 (.cons (.var 14) (.cons (.var 11) .nil))) (.cons (.call 15 (.cons (.conv .dict false (.comp false [17, 18] (.tp [(.nm 17), (.nm 18)]) (.ex (.var 14)) .nil (.tup (.cons (.var 17) (.cons (.bin .mul (.var 11) (.var 18)) .nil))))) .nil)) .nil)))) (.cons (.ret (.cst (.bl false))) .nil) .nil) (.cons (.ifs (.or (.not (.call 10 (.cons (.call 17 (.cons (.var 16) .nil)) (.cons (.call 18 (.cons (.var 16) .nil)) .nil)))) (.cmp .ne (.call 17 (.cons (.call 17 (.cons (.var 16) .nil)) .nil)) (.tup .nil))) (.cons (.ret (.cst (.bl false))) .nil) .nil) (.cons (.ifs (.or (.not (.call 10 (.cons (.call 19 (.cons (.var 2) (.cons (.var 14) .nil))) (.cons (.call 20 (.cons (.var 2) (.cons (.var 14) .nil))) .nil)))) (.cmp .ne (.call 19 (.cons (.var 2) (.cons (.call 19 (.cons (.var 2) (.cons (.var 14) .nil))) .nil))) (.tup .nil))) (.cons (.ret (.cst (.bl false))) .nil) .nil) (.cons (.ifs (.or (.cmp .ne (.call 21 (.cons (.var 14) (.cons (.var 15) .nil))) (.call 22 (.cons (.var 14) (.cons (.var 15) .nil)))) (.cmp .ne (.call 21 (.cons (.call 19 (.cons (.var 2) (.cons (.var 14) .nil))) (.cons (.var 16) .nil))) (.call 21 (.cons (.var 14) (.cons (.call 17 (.cons (.var 16) .nil)) .nil))))) (.cons (.ret (.cst (.bl false))) .nil) .nil) .nil))))))))))) (.cons (.ret (.cst (.bl true))) .nil))))))), false⟩
def ck_law : Ck := ⟨["script", "c", "shape", "faces", "turn", "d", "value", "told_v", "part", "due", "total", "k", "level", "higher", "one", "two", "three", "face", "n"], [("_law_start", 1), ("_law_shape", 1), ("_law_faces", 1), ("_law_bent", 3), ("is_complex", 1), ("_law_is_complex", 1), ("_law_greatest", 1), ("_law_take", 2), ("_law_are_greatest", 1), ("is_part", 2), ("_law_alike", 2), ("faces_of", 2), ("_law_level", 2), ("_law_some", 2), ("added", 2), ("_law_chain", 1), ("multiple", 2), ("boundary", 1), ("_law_boundary", 1), ("coboundary", 2), ("_law_coboundary", 2), ("value_on", 2), ("_law_value", 2)], []⟩
theorem kf_law : kF ck_law if_law (topS 45) ["script"] = true := by decide +kernel
end K10
namespace K10
open PySem PySem.Spec PyProof.Rows L2 C8 HW
abbrev DefAt (K : PySem.W.Frag) (mg : Str → Option Value) (x : Str) (st : Stmt) (ps : List Str) : Prop := ∃ fa fd, C8.Def K mg x st fa fd ∧ L2.Binds K fd ps []
structure Top (K : PySem.W.Frag) (mg : Str → Option Value) : Prop where
  d_is_integer : DefAt K mg "is_integer" (topS 4) ["value"]
  d_is_face : DefAt K mg "is_face" (topS 5) ["value"]
  d_is_within : DefAt K mg "is_within" (topS 6) ["face", "other"]
  d_are_greatest : DefAt K mg "are_greatest" (topS 7) ["value"]
  d_corners_of : DefAt K mg "corners_of" (topS 8) ["faces"]
  d_is_complex : DefAt K mg "is_complex" (topS 9) ["value"]
  d_parts_of_face : DefAt K mg "parts_of_face" (topS 10) ["face"]
  d_all_faces : DefAt K mg "all_faces" (topS 11) ["greatest"]
  d_faces_of : DefAt K mg "faces_of" (topS 12) ["shape", "d"]
  d_is_part : DefAt K mg "is_part" (topS 13) ["shape", "value"]
  d_told : DefAt K mg "told" (topS 15) ["table"]
  d_sides_of : DefAt K mg "sides_of" (topS 16) ["face"]
  d_boundary : DefAt K mg "boundary" (topS 17) ["chain"]
  d_value_on : DefAt K mg "value_on" (topS 18) ["cochain", "chain"]
  d_coboundary : DefAt K mg "coboundary" (topS 19) ["shape", "cochain"]
  d_added : DefAt K mg "added" (topS 20) ["first", "second"]
  d_multiple : DefAt K mg "multiple" (topS 21) ["chain", "k"]
  d__law_start : DefAt K mg "_law_start" (topS 23) ["script"]
  d__law_fill : DefAt K mg "_law_fill" (topS 24) ["c"]
  d__law_take : DefAt K mg "_law_take" (topS 25) ["c", "many"]
  d__law_is_int : DefAt K mg "_law_is_int" (topS 26) ["value"]
  d__law_alike : DefAt K mg "_law_alike" (topS 27) ["value", "due"]
  d__law_spoilt : DefAt K mg "_law_spoilt" (topS 28) ["c", "value"]
  d__law_bent : DefAt K mg "_law_bent" (topS 29) ["c", "value", "turn"]
  d__law_parts_of : DefAt K mg "_law_parts_of" (topS 30) ["face"]
  d__law_faces : DefAt K mg "_law_faces" (topS 31) ["shape"]
  d__law_level : DefAt K mg "_law_level" (topS 32) ["shape", "d"]
  d__law_inside : DefAt K mg "_law_inside" (topS 33) ["one", "two"]
  d__law_greatest : DefAt K mg "_law_greatest" (topS 34) ["faces"]
  d__law_plane : DefAt K mg "_law_plane" (topS 35) []
  d__law_shape : DefAt K mg "_law_shape" (topS 36) ["c"]
  d__law_sides : DefAt K mg "_law_sides" (topS 37) ["face"]
  d__law_chain : DefAt K mg "_law_chain" (topS 38) ["table"]
  d__law_boundary : DefAt K mg "_law_boundary" (topS 39) ["chain"]
  d__law_value : DefAt K mg "_law_value" (topS 40) ["cochain", "chain"]
  d__law_coboundary : DefAt K mg "_law_coboundary" (topS 41) ["shape", "cochain"]
  d__law_some : DefAt K mg "_law_some" (topS 42) ["c", "faces"]
  d__law_are_greatest : DefAt K mg "_law_are_greatest" (topS 43) ["value"]
  d__law_is_complex : DefAt K mg "_law_is_complex" (topS 44) ["value"]
  d_law : DefAt K mg "law" (topS 45) ["script"]
  g_MOST_CORNERS : ∃ u, mg "MOST_CORNERS" = some u ∧ L2.RelV (.int 12) u
  g_MOST_DIMENSION : ∃ u, mg "MOST_DIMENSION" = some u ∧ L2.RelV (.int 4) u
  g_MOST_FACES : ∃ u, mg "MOST_FACES" = some u ∧ L2.RelV (.int 60) u
  b : ∀ x ∈ bltNm, mg x = none
section
variable {P : Program} {w : World} {K : PySem.W.Frag} {mg : Str → Option Value} {base : Heap}
def s_is_integer : Sem := runFn if_is_integer []
theorem c_is_integer (T : Top K mg) : Cal P w K mg base 1 "is_integer" (spS ⟨P, w, K⟩ 1 s_is_integer) [] := cal_def (G := ck_is_integer) T.d_is_integer T.b .nil .nil kf_is_integer
def s_is_face : Sem := runFn if_is_face [s_is_integer]
theorem c_is_face (T : Top K mg) : Cal P w K mg base 2 "is_face" (spS ⟨P, w, K⟩ 1 s_is_face) [] := cal_def (G := ck_is_face) T.d_is_face T.b (.cons ⟨_, (by decide), (c_is_integer T)⟩ .nil) .nil kf_is_face
def s_is_within : Sem := runFn if_is_within []
theorem c_is_within (T : Top K mg) : Cal P w K mg base 1 "is_within" (spS ⟨P, w, K⟩ 2 s_is_within) [] := cal_def (G := ck_is_within) T.d_is_within T.b .nil .nil kf_is_within
def s_are_greatest : Sem := runFn if_are_greatest [s_is_face, s_is_within]
theorem c_are_greatest (T : Top K mg) : Cal P w K mg base 3 "are_greatest" (spS ⟨P, w, K⟩ 1 s_are_greatest) [] := cal_def (G := ck_are_greatest) T.d_are_greatest T.b (.cons ⟨_, (by decide), (c_is_face T)⟩ (.cons ⟨_, (by decide), (c_is_within T)⟩ .nil)) .nil kf_are_greatest
def s_corners_of : Sem := runFn if_corners_of []
theorem c_corners_of (T : Top K mg) : Cal P w K mg base 1 "corners_of" (spS ⟨P, w, K⟩ 1 s_corners_of) [] := cal_def (G := ck_corners_of) T.d_corners_of T.b .nil .nil kf_corners_of
def s_is_complex : Sem := runFn if_is_complex [s_are_greatest, s_corners_of]
theorem c_is_complex (T : Top K mg) : Cal P w K mg base 4 "is_complex" (spS ⟨P, w, K⟩ 1 s_is_complex) [] := cal_def (G := ck_is_complex) T.d_is_complex T.b (.cons ⟨_, (by decide), (c_are_greatest T)⟩ (.cons ⟨_, (by decide), (c_corners_of T)⟩ .nil)) (.cons T.g_MOST_FACES rfl (.cons T.g_MOST_CORNERS rfl (.cons T.g_MOST_DIMENSION rfl .nil))) kf_is_complex
def s_parts_of_face : Sem := runFn if_parts_of_face []
theorem c_parts_of_face (T : Top K mg) : Cal P w K mg base 1 "parts_of_face" (spS ⟨P, w, K⟩ 1 s_parts_of_face) [] := cal_def (G := ck_parts_of_face) T.d_parts_of_face T.b .nil .nil kf_parts_of_face
def s_all_faces : Sem := runFn if_all_faces [s_parts_of_face]
theorem c_all_faces (T : Top K mg) : Cal P w K mg base 2 "all_faces" (spS ⟨P, w, K⟩ 1 s_all_faces) [] := cal_def (G := ck_all_faces) T.d_all_faces T.b (.cons ⟨_, (by decide), (c_parts_of_face T)⟩ .nil) .nil kf_all_faces
def s_faces_of : Sem := runFn if_faces_of [s_all_faces]
theorem c_faces_of (T : Top K mg) : Cal P w K mg base 3 "faces_of" (spS ⟨P, w, K⟩ 2 s_faces_of) [] := cal_def (G := ck_faces_of) T.d_faces_of T.b (.cons ⟨_, (by decide), (c_all_faces T)⟩ .nil) .nil kf_faces_of
def s_is_part : Sem := runFn if_is_part [s_are_greatest, s_all_faces]
theorem c_is_part (T : Top K mg) : Cal P w K mg base 4 "is_part" (spS ⟨P, w, K⟩ 2 s_is_part) [] := cal_def (G := ck_is_part) T.d_is_part T.b (.cons ⟨_, (by decide), (c_are_greatest T)⟩ (.cons ⟨_, (by decide), (c_all_faces T)⟩ .nil)) .nil kf_is_part
def s_told : Sem := runFn if_told []
theorem c_told (T : Top K mg) : Cal P w K mg base 1 "told" (spS ⟨P, w, K⟩ 1 s_told) [] := cal_def (G := ck_told) T.d_told T.b .nil .nil kf_told
def s_sides_of : Sem := runFn if_sides_of []
theorem c_sides_of (T : Top K mg) : Cal P w K mg base 1 "sides_of" (spS ⟨P, w, K⟩ 1 s_sides_of) [] := cal_def (G := ck_sides_of) T.d_sides_of T.b .nil .nil kf_sides_of
def s_boundary : Sem := runFn if_boundary [s_sides_of, s_told]
theorem c_boundary (T : Top K mg) : Cal P w K mg base 2 "boundary" (spS ⟨P, w, K⟩ 1 s_boundary) [] := cal_def (G := ck_boundary) T.d_boundary T.b (.cons ⟨_, (by decide), (c_sides_of T)⟩ (.cons ⟨_, (by decide), (c_told T)⟩ .nil)) .nil kf_boundary
def s_value_on : Sem := runFn if_value_on []
theorem c_value_on (T : Top K mg) : Cal P w K mg base 1 "value_on" (spS ⟨P, w, K⟩ 2 s_value_on) [] := cal_def (G := ck_value_on) T.d_value_on T.b .nil .nil kf_value_on
def s_coboundary : Sem := runFn if_coboundary [s_faces_of, s_value_on, s_boundary, s_told]
theorem c_coboundary (T : Top K mg) : Cal P w K mg base 4 "coboundary" (spS ⟨P, w, K⟩ 2 s_coboundary) [] := cal_def (G := ck_coboundary) T.d_coboundary T.b (.cons ⟨_, (by decide), (c_faces_of T)⟩ (.cons ⟨_, (by decide), (c_value_on T)⟩ (.cons ⟨_, (by decide), (c_boundary T)⟩ (.cons ⟨_, (by decide), (c_told T)⟩ .nil)))) .nil kf_coboundary
def s_added : Sem := runFn if_added [s_told]
theorem c_added (T : Top K mg) : Cal P w K mg base 2 "added" (spS ⟨P, w, K⟩ 2 s_added) [] := cal_def (G := ck_added) T.d_added T.b (.cons ⟨_, (by decide), (c_told T)⟩ .nil) .nil kf_added
def s_multiple : Sem := runFn if_multiple [s_told]
theorem c_multiple (T : Top K mg) : Cal P w K mg base 2 "multiple" (spS ⟨P, w, K⟩ 2 s_multiple) [] := cal_def (G := ck_multiple) T.d_multiple T.b (.cons ⟨_, (by decide), (c_told T)⟩ .nil) .nil kf_multiple
def s__law_start : Sem := runFn if__law_start []
theorem c__law_start (T : Top K mg) : Cal P w K mg base 1 "_law_start" (spS ⟨P, w, K⟩ 1 s__law_start) [] := cal_def (G := ck__law_start) T.d__law_start T.b .nil .nil kf__law_start
def s__law_fill : Sem := runFn if__law_fill []
theorem c__law_fill (T : Top K mg) : Cal P w K mg base 1 "_law_fill" (spS ⟨P, w, K⟩ 1 s__law_fill) [] := cal_def (G := ck__law_fill) T.d__law_fill T.b .nil .nil kf__law_fill
def s__law_take : Sem := runFn if__law_take [s__law_fill]
theorem c__law_take (T : Top K mg) : Cal P w K mg base 2 "_law_take" (spS ⟨P, w, K⟩ 2 s__law_take) [] := cal_def (G := ck__law_take) T.d__law_take T.b (.cons ⟨_, (by decide), (c__law_fill T)⟩ .nil) .nil kf__law_take
def s__law_is_int : Sem := runFn if__law_is_int []
theorem c__law_is_int (T : Top K mg) : Cal P w K mg base 1 "_law_is_int" (spS ⟨P, w, K⟩ 1 s__law_is_int) [] := cal_def (G := ck__law_is_int) T.d__law_is_int T.b .nil .nil kf__law_is_int
def r__law_alike : Nat → Sem | 0 => fun _ _ => .bad | n + 1 => runFn if__law_alike [r__law_alike n]
def s__law_alike : Sem := r__law_alike 6
theorem cr__law_alike (T : Top K mg) : ∀ n, Cal P w K mg base (0 + n + 1) "_law_alike" (spS ⟨P, w, K⟩ 2 (r__law_alike n)) []
  | 0 => cal_bad (N := ck__law_alike.N) T.d__law_alike (by decide +kernel)
  | n + 1 => cal_def (G := ck__law_alike) T.d__law_alike T.b (.cons ⟨_, (by omega), (cr__law_alike T n)⟩ .nil) .nil kf__law_alike
theorem c__law_alike (T : Top K mg) : Cal P w K mg base 7 "_law_alike" (spS ⟨P, w, K⟩ 2 s__law_alike) [] := cr__law_alike T 6
def r__law_spoilt : Nat → Sem | 0 => fun _ _ => .bad | n + 1 => runFn if__law_spoilt [s__law_take, r__law_spoilt n]
def s__law_spoilt : Sem := r__law_spoilt 6
theorem cr__law_spoilt (T : Top K mg) : ∀ n, Cal P w K mg base (2 + n + 1) "_law_spoilt" (spS ⟨P, w, K⟩ 2 (r__law_spoilt n)) []
  | 0 => cal_bad (N := ck__law_spoilt.N) T.d__law_spoilt (by decide +kernel)
  | n + 1 => cal_def (G := ck__law_spoilt) T.d__law_spoilt T.b (.cons ⟨_, (by omega), (c__law_take T)⟩ (.cons ⟨_, (by omega), (cr__law_spoilt T n)⟩ .nil)) .nil kf__law_spoilt
theorem c__law_spoilt (T : Top K mg) : Cal P w K mg base 9 "_law_spoilt" (spS ⟨P, w, K⟩ 2 s__law_spoilt) [] := cr__law_spoilt T 6
def s__law_bent : Sem := runFn if__law_bent [s__law_take, s__law_spoilt]
theorem c__law_bent (T : Top K mg) : Cal P w K mg base 10 "_law_bent" (spS ⟨P, w, K⟩ 3 s__law_bent) [] := cal_def (G := ck__law_bent) T.d__law_bent T.b (.cons ⟨_, (by decide), (c__law_take T)⟩ (.cons ⟨_, (by decide), (c__law_spoilt T)⟩ .nil)) .nil kf__law_bent
def s__law_parts_of : Sem := runFn if__law_parts_of []
theorem c__law_parts_of (T : Top K mg) : Cal P w K mg base 1 "_law_parts_of" (spS ⟨P, w, K⟩ 1 s__law_parts_of) [] := cal_def (G := ck__law_parts_of) T.d__law_parts_of T.b .nil .nil kf__law_parts_of
def s__law_faces : Sem := runFn if__law_faces [s__law_parts_of]
theorem c__law_faces (T : Top K mg) : Cal P w K mg base 2 "_law_faces" (spS ⟨P, w, K⟩ 1 s__law_faces) [] := cal_def (G := ck__law_faces) T.d__law_faces T.b (.cons ⟨_, (by decide), (c__law_parts_of T)⟩ .nil) .nil kf__law_faces
def s__law_level : Sem := runFn if__law_level [s__law_faces]
theorem c__law_level (T : Top K mg) : Cal P w K mg base 3 "_law_level" (spS ⟨P, w, K⟩ 2 s__law_level) [] := cal_def (G := ck__law_level) T.d__law_level T.b (.cons ⟨_, (by decide), (c__law_faces T)⟩ .nil) .nil kf__law_level
def s__law_inside : Sem := runFn if__law_inside []
theorem c__law_inside (T : Top K mg) : Cal P w K mg base 1 "_law_inside" (spS ⟨P, w, K⟩ 2 s__law_inside) [] := cal_def (G := ck__law_inside) T.d__law_inside T.b .nil .nil kf__law_inside
def s__law_greatest : Sem := runFn if__law_greatest [s__law_inside]
theorem c__law_greatest (T : Top K mg) : Cal P w K mg base 2 "_law_greatest" (spS ⟨P, w, K⟩ 1 s__law_greatest) [] := cal_def (G := ck__law_greatest) T.d__law_greatest T.b (.cons ⟨_, (by decide), (c__law_inside T)⟩ .nil) .nil kf__law_greatest
def s__law_plane : Sem := runFn if__law_plane []
theorem c__law_plane (T : Top K mg) : Cal P w K mg base 1 "_law_plane" (spS ⟨P, w, K⟩ 0 s__law_plane) [] := cal_def (G := ck__law_plane) T.d__law_plane T.b .nil .nil kf__law_plane
def s__law_shape : Sem := runFn if__law_shape [s__law_take, s__law_plane, s__law_parts_of, s__law_greatest]
theorem c__law_shape (T : Top K mg) : Cal P w K mg base 3 "_law_shape" (spS ⟨P, w, K⟩ 1 s__law_shape) [] := cal_def (G := ck__law_shape) T.d__law_shape T.b (.cons ⟨_, (by decide), (c__law_take T)⟩ (.cons ⟨_, (by decide), (c__law_plane T)⟩ (.cons ⟨_, (by decide), (c__law_parts_of T)⟩ (.cons ⟨_, (by decide), (c__law_greatest T)⟩ .nil)))) .nil kf__law_shape
def s__law_sides : Sem := runFn if__law_sides []
theorem c__law_sides (T : Top K mg) : Cal P w K mg base 1 "_law_sides" (spS ⟨P, w, K⟩ 1 s__law_sides) [] := cal_def (G := ck__law_sides) T.d__law_sides T.b .nil .nil kf__law_sides
def s__law_chain : Sem := runFn if__law_chain []
theorem c__law_chain (T : Top K mg) : Cal P w K mg base 1 "_law_chain" (spS ⟨P, w, K⟩ 1 s__law_chain) [] := cal_def (G := ck__law_chain) T.d__law_chain T.b .nil .nil kf__law_chain
def s__law_boundary : Sem := runFn if__law_boundary [s__law_sides, s__law_chain]
theorem c__law_boundary (T : Top K mg) : Cal P w K mg base 2 "_law_boundary" (spS ⟨P, w, K⟩ 1 s__law_boundary) [] := cal_def (G := ck__law_boundary) T.d__law_boundary T.b (.cons ⟨_, (by decide), (c__law_sides T)⟩ (.cons ⟨_, (by decide), (c__law_chain T)⟩ .nil)) .nil kf__law_boundary
def s__law_value : Sem := runFn if__law_value []
theorem c__law_value (T : Top K mg) : Cal P w K mg base 1 "_law_value" (spS ⟨P, w, K⟩ 2 s__law_value) [] := cal_def (G := ck__law_value) T.d__law_value T.b .nil .nil kf__law_value
def s__law_coboundary : Sem := runFn if__law_coboundary [s__law_level, s__law_value, s__law_boundary, s__law_chain]
theorem c__law_coboundary (T : Top K mg) : Cal P w K mg base 4 "_law_coboundary" (spS ⟨P, w, K⟩ 2 s__law_coboundary) [] := cal_def (G := ck__law_coboundary) T.d__law_coboundary T.b (.cons ⟨_, (by decide), (c__law_level T)⟩ (.cons ⟨_, (by decide), (c__law_value T)⟩ (.cons ⟨_, (by decide), (c__law_boundary T)⟩ (.cons ⟨_, (by decide), (c__law_chain T)⟩ .nil)))) .nil kf__law_coboundary
def s__law_some : Sem := runFn if__law_some [s__law_chain, s__law_take]
theorem c__law_some (T : Top K mg) : Cal P w K mg base 3 "_law_some" (spS ⟨P, w, K⟩ 2 s__law_some) [] := cal_def (G := ck__law_some) T.d__law_some T.b (.cons ⟨_, (by decide), (c__law_chain T)⟩ (.cons ⟨_, (by decide), (c__law_take T)⟩ .nil)) .nil kf__law_some
def s__law_are_greatest : Sem := runFn if__law_are_greatest [s__law_is_int, s__law_greatest]
theorem c__law_are_greatest (T : Top K mg) : Cal P w K mg base 3 "_law_are_greatest" (spS ⟨P, w, K⟩ 1 s__law_are_greatest) [] := cal_def (G := ck__law_are_greatest) T.d__law_are_greatest T.b (.cons ⟨_, (by decide), (c__law_is_int T)⟩ (.cons ⟨_, (by decide), (c__law_greatest T)⟩ .nil)) .nil kf__law_are_greatest
def s__law_is_complex : Sem := runFn if__law_is_complex [s__law_are_greatest, s__law_faces]
theorem c__law_is_complex (T : Top K mg) : Cal P w K mg base 4 "_law_is_complex" (spS ⟨P, w, K⟩ 1 s__law_is_complex) [] := cal_def (G := ck__law_is_complex) T.d__law_is_complex T.b (.cons ⟨_, (by decide), (c__law_are_greatest T)⟩ (.cons ⟨_, (by decide), (c__law_faces T)⟩ .nil)) .nil kf__law_is_complex
def s_law : Sem := runFn if_law [s__law_start, s__law_shape, s__law_faces, s__law_bent, s_is_complex, s__law_is_complex, s__law_greatest, s__law_take, s__law_are_greatest, s_is_part, s__law_alike, s_faces_of, s__law_level, s__law_some, s_added, s__law_chain, s_multiple, s_boundary, s__law_boundary, s_coboundary, s__law_coboundary, s_value_on, s__law_value]
theorem c_law (T : Top K mg) : Cal P w K mg base 11 "law" (spS ⟨P, w, K⟩ 1 s_law) [] := cal_def (G := ck_law) T.d_law T.b (.cons ⟨_, (by decide), (c__law_start T)⟩ (.cons ⟨_, (by decide), (c__law_shape T)⟩ (.cons ⟨_, (by decide), (c__law_faces T)⟩ (.cons ⟨_, (by decide), (c__law_bent T)⟩ (.cons ⟨_, (by decide), (c_is_complex T)⟩ (.cons ⟨_, (by decide), (c__law_is_complex T)⟩ (.cons ⟨_, (by decide), (c__law_greatest T)⟩ (.cons ⟨_, (by decide), (c__law_take T)⟩ (.cons ⟨_, (by decide), (c__law_are_greatest T)⟩ (.cons ⟨_, (by decide), (c_is_part T)⟩ (.cons ⟨_, (by decide), (c__law_alike T)⟩ (.cons ⟨_, (by decide), (c_faces_of T)⟩ (.cons ⟨_, (by decide), (c__law_level T)⟩ (.cons ⟨_, (by decide), (c__law_some T)⟩ (.cons ⟨_, (by decide), (c_added T)⟩ (.cons ⟨_, (by decide), (c__law_chain T)⟩ (.cons ⟨_, (by decide), (c_multiple T)⟩ (.cons ⟨_, (by decide), (c_boundary T)⟩ (.cons ⟨_, (by decide), (c__law_boundary T)⟩ (.cons ⟨_, (by decide), (c_coboundary T)⟩ (.cons ⟨_, (by decide), (c__law_coboundary T)⟩ (.cons ⟨_, (by decide), (c_value_on T)⟩ (.cons ⟨_, (by decide), (c__law_value T)⟩ .nil))))))))))))))))))))))) .nil kf_law
end
-- levels {'is_integer': 1, 'is_face': 2, 'is_within': 1, 'are_greatest': 3, 'corners_of': 1, 'is_complex': 4, 'parts_of_face': 1, 'all_faces': 2, 'faces_of': 3, 'is_part': 4, 'told': 1, 'sides_of': 1, 'boundary': 2, 'value_on': 1, 'coboundary': 4, 'added': 2, 'multiple': 2, '_law_start': 1, '_law_fill': 1, '_law_take': 2, '_law_is_int': 1, '_law_alike': 7, '_law_spoilt': 9, '_law_bent': 10, '_law_parts_of': 1, '_law_faces': 2, '_law_level': 3, '_law_inside': 1, '_law_greatest': 2, '_law_plane': 1, '_law_shape': 3, '_law_sides': 1, '_law_chain': 1, '_law_boundary': 2, '_law_value': 1, '_law_coboundary': 4, '_law_some': 3, '_law_are_greatest': 3, '_law_is_complex': 4, 'law': 11}
end K10
namespace K10
open PySem HW
/-- the number box's cell *)-/
def box (ns : List Int) (i left k : Int) : Cell := .lst [.lst (ns.map .int), .int i, .int left, .int k, .int 20]
theorem compGo_ints {ctx : List Sem} {h : PHeap} {tg : PV → HW.Env → Option HW.Env} {env : HW.Env} {elt : HW.Env → PHeap → R PV} (f : Int → PV) (ht : ∀ i, ∃ e1, tg (.int i) env = some e1 ∧ elt e1 h = .ok (f i) h) : ∀ (ns : List Int) (acc : List PV), acc.length + ns.length < LIM →
    compGo (fun _ => true) tg (fun _ h => .ok true h) elt env (ns.map .int) h acc = .ok (acc ++ ns.map f) h
  | [], acc, _ => by simp [compGo]
  | i :: ns, acc, hl => by
    obtain ⟨e1, q1, q2⟩ := ht i
    simp only [List.length_cons] at hl
    have := compGo_ints (ctx := ctx) f ht ns (acc ++ [f i]) (by simp; omega)
    simp only [List.map_cons, compGo, if_true, q1, R.bind_ok, q2]
    rw [if_pos (by omega), this]
    simp
theorem start_ev (ns : List Int) (hl : ns.length ≤ 63) : s__law_start [.scr ns] [] = .ok (.ref 0) [box ns 0 0 0] := by
  have e : sliceOf ([] : PHeap) (.scr ns) none (some 63) = some (.lst (ns.map .int)) := by
    show some (PV.lst (cut _ _ _)) = _
    rw [cut_whole _ _ _ rfl (by simp [HT.sIx]; omega)]
  have hc := compGo_ints (ctx := []) (h := []) (tg := tgSet (.nm 1)) (env := [some (PV.scr ns), none]) (elt := fun (x : HW.Env) x_1 => dE [] (.blt .int (.cons (.var 1) .nil)) x x_1) PV.int (fun i => ⟨_, rfl, by simp [dE, dEs, bltop, bInt]⟩) ns [] (by simp [LIM]; omega)
  simp [s__law_start, runFn, if__law_start, dSs, dS, dE, dEs, dI, lockI, lockE, withLock, dO, intOf, e, walkSrc, mkList, HW.finish, wipeE, dIfs]
  simp [dE, dEs] at hc
  rw [hc]
  simp [box]
theorem belows_ints (n : Nat) : ∀ ns : List Int, belows n (ns.map .int) = true
  | [] => rfl
  | i :: ns => by simp [belows, below, belows_ints n ns]
theorem finish_box {ns : List Int} {i left k i' left' k' : Int} {t : PHeap} {v : PV} (hv : ∀ n, below n v = true) : HW.finish false (box ns i left k :: t) v (box ns i' left' k' :: t) = .ok v (box ns i' left' k' :: t) := by
  have h1 : okOuter (box ns i left k :: t) (box ns i' left' k' :: t) = true := by
    simp only [okOuter, List.all_eq_true, List.mem_range, Bool.or_eq_true, decide_eq_true_eq]
    intro m hm
    cases m with
    | zero => exact .inr (by simp [box, belowC, belows, below, belows_ints])
    | succ m => exact .inl (by simp)
  have h2 : frz (box ns i' left' k' :: t) (box ns i left k :: t).length 12 v = some v := by
    unfold frz
    rw [if_pos (hv _)]
  unfold HW.finish
  rw [h1, h2]
  simp
/-! steps, as rewriting rules -/
section
variable {h : PHeap} {a b : Int}
theorem ev_add : binop .add (.int a) (.int b) h = some (.int (a + b)) := rfl
theorem ev_sub : binop .sub (.int a) (.int b) h = some (.int (a - b)) := rfl
theorem ev_mul (q : small a || small b) : binop .mul (.int a) (.int b) h = some (.int (a * b)) := by
  show (if _ then _ else _) = _
  rw [if_pos q]
theorem ev_mr (q : small b = true) : binop .mul (.int a) (.int b) h = some (.int (a * b)) := ev_mul (by simp [q])
theorem sm1 : small 69621 = true := by decide
theorem sm2 : small 48271 = true := by decide
theorem sm3 : small 7919 = true := by decide
theorem ev_f64 : binop .fdiv (.int a) (.int 64) h = some (.int (a.fdiv 64)) := rfl
theorem ev_m1 : binop .mod (.int a) (.int 1000003) h = some (.int (a.fmod 1000003)) := rfl
theorem ev_m2 : binop .mod (.int a) (.int 2147483647) h = some (.int (a.fmod 2147483647)) := rfl
theorem small_mod : small (a.fmod 2147483647) = true := by
  have h1 := Int.fmod_nonneg_of_pos a (b := 2147483647) (by decide)
  have h2 := Int.fmod_lt_of_pos a (b := 2147483647) (by decide)
  simp only [small, decide_eq_true_eq]
  omega
theorem ev_fdiv (q : b ≠ 0) (q2 : b.natAbs < 1073741824) : binop .fdiv (.int a) (.int b) h = some (.int (a.fdiv b)) := by
  show (if _ then _ else _) = _
  rw [if_pos ⟨q, q2⟩]
theorem ev_mod (q : b ≠ 0) : binop .mod (.int a) (.int b) h = some (.int (a.fmod b)) := by
  show (if _ then _ else _) = _
  rw [if_pos q]
theorem ev_lt : cmpop .lt (.int a) (.int b) h = some (decide (a < b)) := rfl
theorem ev_gt : cmpop .gt (.int a) (.int b) h = some (decide (b < a)) := rfl
theorem ev_le : cmpop .le (.int a) (.int b) h = some (decide (a ≤ b)) := rfl
theorem ev_ge : cmpop .ge (.int a) (.int b) h = some (decide (b ≤ a)) := rfl
theorem ev_bl {c : Bool} : tru h (.bl c) = some c := rfl
theorem ev_lst {xs : List PV} : itemOf h (.lst xs) (.int a) = L2.atI xs a := rfl
theorem ev_tup {xs : List PV} : itemOf h (.tup xs) (.int a) = L2.atI xs a := rfl
theorem ev_trl {xs : List PV} : tru h (.lst xs) = some (!xs.isEmpty) := rfl
theorem ev_trt {xs : List PV} : tru h (.tup xs) = some (!xs.isEmpty) := rfl
theorem ev_ll {xs : List PV} : bltop .len [.lst xs] h = some (.int xs.length) := rfl
theorem ev_lt' {xs : List PV} : bltop .len [.tup xs] h = some (.int xs.length) := rfl
theorem ev_int : bltop .int [.int a] h = some (.int a) := rfl
theorem ev_pow : binop .pow (.int 10) (.int 18) h = some (.int 1000000000000000000) := rfl
end
section
variable {ns : List Int} {i left k : Int} {t : PHeap}
theorem it0 : itemOf (box ns i left k :: t) (.ref 0) (.int 0) = some (.lst (ns.map .int)) := rfl
theorem it1 : itemOf (box ns i left k :: t) (.ref 0) (.int 1) = some (.int i) := rfl
theorem it2 : itemOf (box ns i left k :: t) (.ref 0) (.int 2) = some (.int left) := rfl
theorem it3 : itemOf (box ns i left k :: t) (.ref 0) (.int 3) = some (.int k) := rfl
theorem pt1 {z : Int} : putItem (box ns i left k :: t) (.ref 0) (.int 1) (.int z) = some (box ns z left k :: t) := rfl
theorem pt2 {z : Int} : putItem (box ns i left k :: t) (.ref 0) (.int 2) (.int z) = some (box ns i z k :: t) := rfl
theorem pt3 {z : Int} : putItem (box ns i left k :: t) (.ref 0) (.int 3) (.int z) = some (box ns i left z :: t) := rfl
/-- a take from 0 ≤ .. : what is left after many digits; the digit lies below many -/
theorem take_ev {many : Int} (hm : 1 ≤ many) (hm2 : many < 1073741824) (h : many ≤ left) : s__law_take [.ref 0, .int many] (box ns i left k :: t) = .ok (.int (left.fmod many)) (box ns i (left.fdiv many) k :: t) := by
  have n : ¬ left < many := by omega
  have z : many ≠ 0 := by omega
  have zz : many.natAbs < 1073741824 := by omega
  simp [s__law_take, runFn, if__law_take, dSs, dS, dE, dEs, dT, dTg, it2, pt2, cmpop, pyOrd, n, tru, bltop, bInt, binop, z, zz, tgSet]
  exact finish_box fun _ => by simp [below]
theorem atI_ints {ns : List Int} {j : Int} (h0 : 0 ≤ j) (h1 : j < ns.length) : ∃ z, L2.atI (ns.map PV.int) j = some (.int z) := by
  obtain ⟨n, rfl⟩ : ∃ n : Nat, j = n := ⟨j.toNat, by omega⟩
  have hn : n < ns.length := by omega
  exact ⟨ns[n], L2.atI_nat (by simp [hn])⟩
theorem v_pos {n k : Int} (hk : 0 ≤ k) : 0 ≤ (n.fmod 2147483647 * n.fmod 2147483647 + k * 7919 + 11).fdiv 64 + 36028797018963968 := by
  have h1 := Int.fmod_nonneg_of_pos n (b := 2147483647) (by decide)
  have h3 : 0 ≤ n.fmod 2147483647 * n.fmod 2147483647 := Int.mul_nonneg h1 h1
  have := Int.fdiv_nonneg (a := n.fmod 2147483647 * n.fmod 2147483647 + k * 7919 + 11) (b := 64) (by omega) (by decide)
  omega
theorem fill_ev (h0 : 0 ≤ i) (h1 : i ≤ ns.length) (hk : 0 ≤ k) : ∃ v i' : Int, 0 ≤ v ∧ 0 ≤ i' ∧ i' ≤ ns.length ∧ s__law_fill [.ref 0] (box ns i left k :: t) = .ok (.int v) (box ns i' left (k + 1) :: t) := by
  by_cases hi : i < ns.length
  · obtain ⟨z, hz⟩ := atI_ints h0 hi
    have hn : ns ≠ [] := by
      intro q
      subst q
      simp at hi
      omega
    obtain ⟨l, hl⟩ : ∃ z, L2.atI (ns.map PV.int) (-1) = some (.int z) := by
      have e : ns.map PV.int = ns.dropLast.map PV.int ++ [.int (ns.getLast hn)] := by
        rw [← List.map_singleton, ← List.map_append, List.dropLast_concat_getLast]
      exact ⟨_, by rw [e]; exact L2.atI_last _ _⟩
    by_cases hz0 : z < 0
    · by_cases hb : 1000000000000000000 ≤ -1 - z
      · refine ⟨?w11, i + 1, ?h11, by omega, by omega, ?e11⟩
        case e11 =>
          simp [s__law_fill, runFn, if__law_fill, dSs, dS, dE, dEs, dT, dTg, it0, it1, it3, pt3, pt1, tgSet, hi, hn, hz, hl, hz0, hb, intOf, ev_add, ev_sub, ev_lt, ev_le, ev_ge, ev_gt, ev_bl, ev_lst, ev_trl, ev_ll, ev_int, ev_pow, ev_mr, sm1, sm2, sm3, ev_f64, ev_m1, ev_m2, small_mod]
          exact finish_box (v := .int _) fun _ => rfl
        omega
      · by_cases he : (ns.length : Int) ≤ i + 1
        · refine ⟨?w12, i + 1, ?h12, by omega, by omega, ?e12⟩
          case e12 =>
            simp [s__law_fill, runFn, if__law_fill, dSs, dS, dE, dEs, dT, dTg, it0, it1, it3, pt3, pt1, tgSet, hi, hn, hz, hl, hz0, hb, he, intOf, ev_add, ev_sub, ev_lt, ev_le, ev_ge, ev_gt, ev_bl, ev_lst, ev_trl, ev_ll, ev_int, ev_pow, ev_mr, sm1, sm2, sm3, ev_f64, ev_m1, ev_m2, small_mod]
            exact finish_box (v := .int _) fun _ => rfl
          exact v_pos (by omega)
        · refine ⟨?w13, i + 1, ?h13, by omega, by omega, ?e13⟩
          case e13 =>
            simp [s__law_fill, runFn, if__law_fill, dSs, dS, dE, dEs, dT, dTg, it0, it1, it3, pt3, pt1, tgSet, hi, hn, hz, hl, hz0, hb, he, intOf, ev_add, ev_sub, ev_lt, ev_le, ev_ge, ev_gt, ev_bl, ev_lst, ev_trl, ev_ll, ev_int, ev_pow, ev_mr, sm1, sm2, sm3, ev_f64, ev_m1, ev_m2, small_mod]
            exact finish_box (v := .int _) fun _ => rfl
          exact v_pos (by omega)
    · by_cases hb : 1000000000000000000 ≤ z
      · refine ⟨?w14, i + 1, ?h14, by omega, by omega, ?e14⟩
        case e14 =>
          simp [s__law_fill, runFn, if__law_fill, dSs, dS, dE, dEs, dT, dTg, it0, it1, it3, pt3, pt1, tgSet, hi, hn, hz, hl, hz0, hb, intOf, ev_add, ev_sub, ev_lt, ev_le, ev_ge, ev_gt, ev_bl, ev_lst, ev_trl, ev_ll, ev_int, ev_pow, ev_mr, sm1, sm2, sm3, ev_f64, ev_m1, ev_m2, small_mod]
          exact finish_box (v := .int _) fun _ => rfl
        omega
      · by_cases he : (ns.length : Int) ≤ i + 1
        · refine ⟨?w15, i + 1, ?h15, by omega, by omega, ?e15⟩
          case e15 =>
            simp [s__law_fill, runFn, if__law_fill, dSs, dS, dE, dEs, dT, dTg, it0, it1, it3, pt3, pt1, tgSet, hi, hn, hz, hl, hz0, hb, he, intOf, ev_add, ev_sub, ev_lt, ev_le, ev_ge, ev_gt, ev_bl, ev_lst, ev_trl, ev_ll, ev_int, ev_pow, ev_mr, sm1, sm2, sm3, ev_f64, ev_m1, ev_m2, small_mod]
            exact finish_box (v := .int _) fun _ => rfl
          exact v_pos (by omega)
        · refine ⟨?w16, i + 1, ?h16, by omega, by omega, ?e16⟩
          case e16 =>
            simp [s__law_fill, runFn, if__law_fill, dSs, dS, dE, dEs, dT, dTg, it0, it1, it3, pt3, pt1, tgSet, hi, hn, hz, hl, hz0, hb, he, intOf, ev_add, ev_sub, ev_lt, ev_le, ev_ge, ev_gt, ev_bl, ev_lst, ev_trl, ev_ll, ev_int, ev_pow, ev_mr, sm1, sm2, sm3, ev_f64, ev_m1, ev_m2, small_mod]
            exact finish_box (v := .int _) fun _ => rfl
          exact v_pos (by omega)
  · have hi2 : ns.length ≤ i := by omega
    by_cases hn : ns = []
    · subst hn
      have hz : ¬ i < 0 := by omega
      refine ⟨?w, i, ?h, h0, h1, ?e⟩
      case e =>
        simp [s__law_fill, runFn, if__law_fill, dSs, dS, dE, dEs, dT, dTg, it0, it1, it3, pt3, pt1, tgSet, hi, hz, intOf, ev_add, ev_sub, ev_lt, ev_le, ev_ge, ev_gt, ev_bl, ev_lst, ev_trl, ev_ll, ev_int, ev_pow, ev_mr, sm1, sm2, sm3, ev_f64, ev_m1, ev_m2, small_mod]
        exact finish_box (v := .int _) fun _ => rfl
      exact v_pos (by omega)
    · obtain ⟨z, hz⟩ : ∃ z, L2.atI (ns.map PV.int) (-1) = some (.int z) := by
        have e : ns.map PV.int = ns.dropLast.map PV.int ++ [.int (ns.getLast hn)] := by
          rw [← List.map_singleton, ← List.map_append, List.dropLast_concat_getLast]
        exact ⟨_, by rw [e]; exact L2.atI_last _ _⟩
      refine ⟨?w2, i, ?h2, h0, h1, ?e2⟩
      case e2 =>
        simp [s__law_fill, runFn, if__law_fill, dSs, dS, dE, dEs, dT, dTg, it0, it1, it3, pt3, pt1, tgSet, hi, hi2, hn, hz, intOf, ev_add, ev_sub, ev_lt, ev_le, ev_ge, ev_gt, ev_bl, ev_lst, ev_trl, ev_ll, ev_int, ev_pow, ev_mr, sm1, sm2, sm3, ev_f64, ev_m1, ev_m2, small_mod]
        exact finish_box (v := .int _) fun _ => rfl
      exact v_pos (by omega)
/-- a digit: only its bounds matter *)-/
theorem take_any {many : Int} (h0 : 0 ≤ i) (h1 : i ≤ ns.length) (hk : 0 ≤ k) (hl : 0 ≤ left) (hm : 1 ≤ many) (hm2 : many < 1073741824) :
    ∃ d i' left' k' : Int, 0 ≤ d ∧ d < many ∧ 0 ≤ i' ∧ i' ≤ ns.length ∧ 0 ≤ left' ∧ 0 ≤ k' ∧ s__law_take [.ref 0, .int many] (box ns i left k :: t) = .ok (.int d) (box ns i' left' k' :: t) := by
  by_cases h : left < many
  · obtain ⟨v, i', q1, q2, q3, q4⟩ := fill_ev (left := left) (t := t) h0 h1 hk
    have z : many ≠ 0 := by omega
    have zz : many.natAbs < 1073741824 := by omega
    refine ⟨v.fmod many, i', v.fdiv many, k + 1, Int.fmod_nonneg_of_pos _ (by omega), Int.fmod_lt_of_pos _ (by omega), q2, q3, Int.fdiv_nonneg q1 (by omega), by omega, ?_⟩
    simp [s__law_take, runFn, if__law_take, dSs, dS, dE, dEs, dT, dTg, it2, pt2, cmpop, pyOrd, h, tru, bltop, bInt, binop, z, zz, tgSet, q4]
    exact finish_box fun _ => rfl
  · refine ⟨_, _, _, _, Int.fmod_nonneg_of_pos _ (by omega), Int.fmod_lt_of_pos _ (by omega), h0, h1, Int.fdiv_nonneg hl (by omega), hk, take_ev hm hm2 (by omega)⟩
end
end K10
namespace K10
open PySem HW
/-- a function that leaves the cells as they are *)-/
theorem finish_same {h : PHeap} {v : PV} (hv : below h.length v = true) : HW.finish false h v h = .ok v h := by
  have h1 : okOuter h h = true := by simp [okOuter]
  have h2 : frz h h.length 12 v = some v := by
    unfold frz
    rw [if_pos hv]
  unfold HW.finish
  rw [h1, h2]
  simp
/-- a value of plain data -/
def isI : PV → Bool
  | .int _ => true
  | _ => false
def plainV : PV → Bool
  | .ref _ => false
  | .dct _ => false
  | .scr _ => false
  | _ => true
theorem is_integer_ev {h : PHeap} {v : PV} (hv : plainV v = true) : s_is_integer [v] h = .ok (.bl (isI v)) h := by
  cases v <;> simp [plainV] at hv <;> simp [s_is_integer, runFn, if_is_integer, dSs, dS, dE, dEs, bltop, bIsi, tyOf, tyNames, isTy, isI, tru, asList] <;> exact finish_same rfl
theorem law_is_int_ev {h : PHeap} {v : PV} (hv : plainV v = true) : s__law_is_int [v] h = .ok (.bl (isI v)) h := by
  cases v <;> simp [plainV] at hv <;> simp [s__law_is_int, runFn, if__law_is_int, dSs, dS, dE, dEs, bltop, bIsi, tyOf, tyNames, isTy, isI, tru, asList] <;> exact finish_same rfl
/-- a list comprehension whose turns leave the cells *)-/
theorem comp_gen {h : PHeap} {chk : Chk} {tg : PV → HW.Env → Option HW.Env} {ok : HW.Env → PHeap → R Bool} {elt : HW.Env → PHeap → R PV} {env : HW.Env} (p : PV → Bool) (f : PV → PV) (hc : chk h = true) :
    ∀ (xs acc : List PV), (∀ x ∈ xs, ∃ e1, tg x env = some e1 ∧ ok e1 h = .ok (p x) h ∧ (p x = true → elt e1 h = .ok (f x) h)) → acc.length + xs.length ≤ LIM →
      compGo chk tg ok elt env xs h acc = .ok (acc ++ (xs.filter p).map f) h
  | [], acc, _, _ => by simp [compGo, hc]
  | x :: xs, acc, hx, hl => by
    obtain ⟨e1, q1, q2, q3⟩ := hx x (List.mem_cons_self ..)
    simp only [List.length_cons] at hl
    have r : ∀ y ∈ xs, _ := fun y hy => hx y (List.mem_cons_of_mem _ hy)
    cases hp : p x with
    | true =>
      have ih := comp_gen p f hc xs (acc ++ [f x]) r (by simp; omega)
      simp only [compGo, hc, if_true, q1, q2, hp, R.bind_ok, q3 hp]
      rw [if_pos (by omega), ih]
      simp [hp]
    | false =>
      have ih := comp_gen p f hc xs acc r (by omega)
      simp [compGo, hc, q1, q2, hp, ih]
theorem asBools_map (f : PV → Bool) : ∀ xs : List PV, asBools (xs.map fun x => .bl (f x)) = some (xs.map f)
  | [] => rfl
  | x :: xs => by simp [asBools, asBools_map f xs]
theorem all_map {h : PHeap} {al : Bool} (f : PV → Bool) (xs : List PV) : convop .all al (.lst (xs.map fun x => .bl (f x))) h = .ok (.bl (xs.all f)) h := by
  simp [convop, asList, asBools_map, List.all_map]
theorem any_map {h : PHeap} {al : Bool} (f : PV → Bool) (xs : List PV) : convop .any al (.lst (xs.map fun x => .bl (f x))) h = .ok (.bl (xs.any f)) h := by
  simp [convop, asList, asBools_map, List.any_map]
def isNatV : PV → Bool
  | .int i => decide (0 ≤ i)
  | _ => false
theorem nats_ev {h : PHeap} {env : HW.Env} (he : env.length = 3) {xs : List PV} (hx : ∀ x ∈ xs, plainV x = true) (hl : xs.length ≤ LIM) :
    compGo (fun _ => true) (tgSet (.nm 1)) (dIfs [s_is_integer] .nil) (dE [s_is_integer] (.and (.call 0 (.cons (.var 1) .nil)) (.cmp .ge (.var 1) (.cst (.int 0))))) env xs h [] = .ok (xs.map fun x => .bl (isNatV x)) h := by
  have := comp_gen (h := h) (chk := fun _ => true) (tg := tgSet (.nm 1)) (ok := dIfs [s_is_integer] .nil) (elt := dE [s_is_integer] (.and (.call 0 (.cons (.var 1) .nil)) (.cmp .ge (.var 1) (.cst (.int 0))))) (env := env) (fun _ => true) (fun x => .bl (isNatV x)) rfl xs [] (fun x q => ⟨env.set 1 (some x), by simp [tgSet, he], by simp [dIfs], fun _ => by
    have := hx x q
    simp [dE, dEs, he, is_integer_ev this]
    cases x <;> simp [plainV] at this <;> simp [isI, tru, isNatV, cmpop, pyOrd]⟩) (by simpa using hl)
  rw [this, List.filter_eq_self.mpr (fun _ _ => rfl)]
  rfl
end K10
namespace K10
open PySem HW
def pairLt : PV → Bool
  | .tup [.int a, .int b] => decide (a < b)
  | _ => false
theorem mem_zipOf {xs ys : List PV} {p : PV} (h : p ∈ zipOf xs ys) : ∃ x y, x ∈ xs ∧ y ∈ ys ∧ p = .tup [x, y] := by
  unfold zipOf at h
  rw [← List.map_uncurry_zip_eq_zipWith] at h
  obtain ⟨⟨x, y⟩, h1, rfl⟩ := List.mem_map.mp h
  exact ⟨x, y, (List.of_mem_zip h1).1, (List.of_mem_zip h1).2, rfl⟩
theorem cut_tail (xs : List PV) : cut xs (some 1) none = xs.drop 1 := by
  unfold cut
  have e : HT.sIx xs.length 0 (some 1) = min 1 xs.length := HT.sIx_nat _ _ 1
  rw [e, HT.sIx_none]
  cases xs with
  | nil => rfl
  | cons x xs => simp
def isFaceV : PV → Bool
  | .tup xs => !xs.isEmpty && xs.all isNatV && (zipOf xs (xs.drop 1)).all pairLt
  | _ => false
def plains (xs : List PV) : Prop := ∀ x ∈ xs, plainV x = true
end K10
namespace K10
abbrev Fc := List Int
/-! faces within a face -/
def subsG (acc : List Fc) (f : Fc) : List Fc := f.foldl (fun acc c => acc ++ acc.map (· ++ [c])) acc
def subs (f : Fc) : List Fc := subsG [[]] f
theorem mem_subsG {g : Fc} : ∀ {f : Fc} {acc : List Fc}, g ∈ subsG acc f ↔ ∃ a ∈ acc, ∃ t, t.Sublist f ∧ g = a ++ t
  | [], acc => by
    constructor
    · intro h
      exact ⟨g, h, [], List.Sublist.slnil, by simp⟩
    · rintro ⟨a, h1, t, h2, rfl⟩
      rw [List.sublist_nil.mp h2]
      simpa [subsG] using h1
  | c :: f, acc => by
    show g ∈ subsG (acc ++ acc.map (· ++ [c])) f ↔ _
    rw [mem_subsG]
    constructor
    · rintro ⟨a, h1, t, h2, rfl⟩
      rcases List.mem_append.mp h1 with h | h
      · exact ⟨a, h, t, h2.cons c, rfl⟩
      · obtain ⟨b, h3, rfl⟩ := List.mem_map.mp h
        exact ⟨b, h3, c :: t, h2.cons₂ c, by simp⟩
    · rintro ⟨a, h1, t, h2, rfl⟩
      rcases List.sublist_cons_iff.mp h2 with h | ⟨r, rfl, h⟩
      · exact ⟨a, List.mem_append.mpr (.inl h1), t, h, rfl⟩
      · exact ⟨a ++ [c], List.mem_append.mpr (.inr (List.mem_map.mpr ⟨a, h1, rfl⟩)), r, h, by simp⟩
theorem mem_subs {f g : Fc} : g ∈ subs f ↔ g.Sublist f := by
  unfold subs
  rw [mem_subsG]
  simp
theorem subsG_cons : ∀ (f : Fc) (acc : List Fc), (∀ a ∈ acc, a ≠ []) → ∃ r, subsG ([] :: acc) f = [] :: r ∧ ∀ a ∈ r, a ≠ []
  | [], acc, h => ⟨acc, rfl, h⟩
  | c :: f, acc, h => by
    show ∃ r, subsG (([] :: acc) ++ ([] :: acc).map (· ++ [c])) f = _ ∧ _
    rw [List.cons_append]
    refine subsG_cons f _ fun a ha => ?_
    rcases List.mem_append.mp ha with q | q
    · exact h a q
    · obtain ⟨b, _, rfl⟩ := List.mem_map.mp q
      simp
theorem length_subsG : ∀ (f : Fc) (acc : List Fc), (subsG acc f).length = acc.length * 2 ^ f.length
  | [], acc => by simp [subsG]
  | c :: f, acc => by
    show (subsG (acc ++ acc.map (· ++ [c])) f).length = _
    rw [length_subsG]
    simp [Nat.pow_succ]
    rw [← Nat.mul_two, Nat.mul_assoc, Nat.mul_comm 2]
def parts (f : Fc) : List Fc := (subs f).drop 1
theorem parts_eq (f : Fc) : (subs f).filter (fun g => !g.isEmpty) = parts f := by
  obtain ⟨r, h1, h2⟩ := subsG_cons f [] (by simp)
  unfold parts subs
  rw [h1]
  simp
  intro a ha q
  exact h2 a ha q
theorem mem_parts {f g : Fc} : g ∈ parts f ↔ g ≠ [] ∧ g.Sublist f := by
  rw [← parts_eq, List.mem_filter, mem_subs]
  cases g <;> simp
theorem length_parts (f : Fc) : (parts f).length ≤ 2 ^ f.length := by
  unfold parts subs
  rw [List.length_drop, length_subsG]
  simp
/-! each one once -/
def ins (S : List Fc) (f : Fc) : List Fc := if S.any (fun g => decide (g = f)) then S else S ++ [f]
theorem mem_ins {S : List Fc} {f g : Fc} : g ∈ ins S f ↔ g ∈ S ∨ g = f := by
  unfold ins
  split
  · rename_i h
    obtain ⟨x, h1, h2⟩ := List.any_eq_true.mp h
    have := of_decide_eq_true h2
    subst this
    exact ⟨.inl, fun h => h.elim id (fun e => e ▸ h1)⟩
  · simp
theorem nodup_ins {S : List Fc} {f : Fc} (h : S.Nodup) : (ins S f).Nodup := by
  unfold ins
  split
  · exact h
  · rename_i q
    refine List.nodup_append.mpr ⟨h, by simp, ?_⟩
    rintro a ha b hb rfl
    refine q (List.any_eq_true.mpr ⟨a, ha, ?_⟩)
    simpa using hb
theorem length_ins {S : List Fc} {f : Fc} : (ins S f).length ≤ S.length + 1 := by
  unfold ins
  split <;> simp
def insA (S : List Fc) (fs : List Fc) : List Fc := fs.foldl ins S
theorem mem_insA {g : Fc} : ∀ {fs S : List Fc}, g ∈ insA S fs ↔ g ∈ S ∨ g ∈ fs
  | [], S => by simp [insA]
  | f :: fs, S => by
    show g ∈ insA (ins S f) fs ↔ _
    rw [mem_insA, mem_ins, List.mem_cons, or_assoc]
theorem nodup_insA : ∀ {fs S : List Fc}, S.Nodup → (insA S fs).Nodup
  | [], S, h => h
  | f :: fs, S, h => nodup_insA (fs := fs) (S := ins S f) (nodup_ins h)
theorem length_insA : ∀ {fs S : List Fc}, (insA S fs).length ≤ S.length + fs.length
  | [], S => by simp [insA]
  | f :: fs, S => by
    show (insA (ins S f) fs).length ≤ _
    have := length_insA (fs := fs) (S := ins S f)
    have := length_ins (S := S) (f := f)
    simp only [List.length_cons]
    omega
def allG (S : List Fc) (s : List Fc) : List Fc := s.foldl (fun S f => insA S (parts f)) S
def allF (s : List Fc) : List Fc := allG [] s
theorem mem_allG {g : Fc} : ∀ {s S : List Fc}, g ∈ allG S s ↔ g ∈ S ∨ ∃ f ∈ s, g ∈ parts f
  | [], S => by simp [allG]
  | f :: s, S => by
    show g ∈ allG (insA S (parts f)) s ↔ _
    rw [mem_allG, mem_insA]
    simp [or_assoc]
theorem nodup_allG : ∀ {s S : List Fc}, S.Nodup → (allG S s).Nodup
  | [], S, h => h
  | f :: s, S, h => nodup_allG (s := s) (S := insA S (parts f)) (nodup_insA h)
theorem length_allG {m : Nat} : ∀ {s S : List Fc}, (∀ f ∈ s, f.length ≤ m) → (allG S s).length ≤ S.length + s.length * 2 ^ m
  | [], S, _ => by simp [allG]
  | f :: s, S, h => by
    show (allG (insA S (parts f)) s).length ≤ _
    have h1 := length_allG (s := s) (S := insA S (parts f)) fun g q => h g (List.mem_cons_of_mem _ q)
    have h2 := length_insA (fs := parts f) (S := S)
    have h3 := length_parts f
    have h4 : 2 ^ f.length ≤ 2 ^ m := Nat.pow_le_pow_right (by decide) (h f (List.mem_cons_self ..))
    rw [List.length_cons, Nat.add_mul]
    omega
theorem mem_allF {s : List Fc} {g : Fc} : g ∈ allF s ↔ ∃ f ∈ s, g ≠ [] ∧ g.Sublist f := by
  unfold allF
  rw [mem_allG]
  simp [mem_parts]
theorem nodup_allF (s : List Fc) : (allF s).Nodup := nodup_allG List.nodup_nil
theorem allF_sub {s : List Fc} {g k : Fc} (h : g ∈ allF s) (hk : k.Sublist g) (hn : k ≠ []) : k ∈ allF s := by
  obtain ⟨f, h1, _, h3⟩ := mem_allF.mp h
  exact mem_allF.mpr ⟨f, h1, hn, hk.trans h3⟩
/-! tables -/
abbrev Tb := List (Fc × Int)
def get : Tb → Fc → Int
  | [], _ => 0
  | p :: T, g => if p.1 = g then p.2 else get T g
def put (T : Tb) (f : Fc) (n : Int) : Tb := if T.any (fun e => decide (e.1 = f)) then T.map (fun e => if e.1 = f then (e.1, n) else e) else T ++ [(f, n)]
def nod (T : Tb) : Prop := (T.map (·.1)).Nodup
theorem put_keys (T : Tb) (f : Fc) (n : Int) : (put T f n).map (·.1) = ins (T.map (·.1)) f := by
  unfold put ins
  have e : (T.map (·.1)).any (fun g => decide (g = f)) = T.any (fun e => decide (e.1 = f)) := by
    rw [List.any_map]
    rfl
  rw [e]
  split
  · rw [List.map_map]
    refine List.map_congr_left fun p _ => ?_
    simp only [Function.comp]
    split <;> rfl
  · simp
theorem nod_put {T : Tb} (h : nod T) (f : Fc) (n : Int) : nod (put T f n) := by
  unfold nod
  rw [put_keys]
  exact nodup_ins h
/-- the sum of φ's values, each so many times -/
def lin (φ : Fc → Int) : Tb → Int
  | [] => 0
  | p :: T => φ p.1 * p.2 + lin φ T
theorem lin_append (φ : Fc → Int) : ∀ A B : Tb, lin φ (A ++ B) = lin φ A + lin φ B
  | [], B => by simp [lin]
  | p :: A, B => by simp [lin, lin_append φ A B, Int.add_assoc]
theorem lin_perm (φ : Fc → Int) {A B : Tb} (h : A.Perm B) : lin φ A = lin φ B := by
  induction h with
  | nil => rfl
  | cons x _ ih => simp [lin, ih]
  | swap x y l => simp [lin]; omega
  | trans _ _ ih1 ih2 => rw [ih1, ih2]
theorem lin_congr {φ ψ : Fc → Int} : ∀ {T : Tb}, (∀ p ∈ T, φ p.1 = ψ p.1) → lin φ T = lin ψ T
  | [], _ => rfl
  | p :: T, h => by
    unfold lin
    rw [h p (List.mem_cons_self ..), lin_congr fun q hq => h q (List.mem_cons_of_mem _ hq)]
theorem lin_zero {φ : Fc → Int} {T : Tb} (h : ∀ p ∈ T, φ p.1 = 0) : lin φ T = 0 := by
  induction T with
  | nil => rfl
  | cons p T ih => rw [lin, h p (List.mem_cons_self ..), ih fun q hq => h q (List.mem_cons_of_mem _ hq)]; simp
theorem get_none {f : Fc} : ∀ {T : Tb}, (∀ p ∈ T, p.1 ≠ f) → get T f = 0
  | [], _ => rfl
  | p :: T, h => by
    rw [get, if_neg (h p (List.mem_cons_self ..)), get_none fun q hq => h q (List.mem_cons_of_mem _ hq)]
theorem get_mem {p : Fc × Int} : ∀ {T : Tb}, nod T → p ∈ T → get T p.1 = p.2
  | q :: T, h, hp => by
    unfold nod at h
    rw [List.map_cons, List.nodup_cons] at h
    rcases List.mem_cons.mp hp with e | e
    · subst e
      rw [get, if_pos rfl]
    · rw [get, if_neg, get_mem h.2 e]
      intro x
      exact h.1 (x ▸ List.mem_map.mpr ⟨p, e, rfl⟩)
theorem lin_keys_no (φ : Fc → Int) (f : Fc) (n : Int) : ∀ {T : Tb}, (∀ p ∈ T, p.1 ≠ f) → lin φ (T.map fun e => if e.1 = f then (e.1, n) else e) = lin φ T
  | [], _ => rfl
  | p :: T, h => by
    rw [List.map_cons, if_neg (h p (List.mem_cons_self ..)), lin, lin, lin_keys_no φ f n fun q hq => h q (List.mem_cons_of_mem _ hq)]
theorem lin_put_in (φ : Fc → Int) (f : Fc) (n : Int) : ∀ {T : Tb}, nod T → (∃ p ∈ T, p.1 = f) → lin φ (T.map fun e => if e.1 = f then (e.1, n) else e) = lin φ T + φ f * (n - get T f)
  | p :: T, h, hp => by
    have h' := h
    unfold nod at h'
    rw [List.map_cons, List.nodup_cons] at h'
    by_cases e : p.1 = f
    · have no : ∀ q ∈ T, q.1 ≠ f := fun q hq x => h'.1 (e ▸ x ▸ List.mem_map.mpr ⟨q, hq, rfl⟩)
      rw [List.map_cons, if_pos e, lin, lin, lin_keys_no φ f n no, get, if_pos e, e]
      simp only [Int.mul_sub]
      omega
    · obtain ⟨q, h1, h2⟩ := hp
      have : ∃ p ∈ T, p.1 = f := by
        rcases List.mem_cons.mp h1 with x | x
        · exact absurd (x ▸ h2) e
        · exact ⟨q, x, h2⟩
      rw [List.map_cons, if_neg e, lin, lin, lin_put_in φ f n h'.2 this, get, if_neg e]
      omega
theorem lin_put (φ : Fc → Int) {T : Tb} (h : nod T) (f : Fc) (n : Int) : lin φ (put T f n) = lin φ T + φ f * (n - get T f) := by
  unfold put
  split
  · rename_i q
    obtain ⟨p, h1, h2⟩ := List.any_eq_true.mp q
    exact lin_put_in φ f n h ⟨p, h1, of_decide_eq_true h2⟩
  · rename_i q
    have no : ∀ p ∈ T, p.1 ≠ f := fun p hp e => q (List.any_eq_true.mpr ⟨p, hp, by simpa using e⟩)
    rw [lin_append, get_none no]
    simp [lin]
def upd (T : Tb) (p : Fc × Int) : Tb := put T p.1 (get T p.1 + p.2)
def updA (T L : Tb) : Tb := L.foldl upd T
theorem nod_upd {T : Tb} (h : nod T) (p : Fc × Int) : nod (upd T p) := nod_put h _ _
theorem nod_updA : ∀ {L T : Tb}, nod T → nod (updA T L)
  | [], T, h => h
  | p :: L, T, h => nod_updA (L := L) (nod_upd h p)
theorem lin_updA (φ : Fc → Int) : ∀ {L T : Tb}, nod T → lin φ (updA T L) = lin φ T + lin φ L
  | [], T, h => by simp [updA, lin]
  | p :: L, T, h => by
    show lin φ (updA (upd T p) L) = _
    rw [lin_updA φ (nod_upd h p), upd, lin_put φ h, lin]
    have : get T p.1 + p.2 - get T p.1 = p.2 := by omega
    rw [this]
    omega
def one1 (g : Fc) : Fc → Int := fun f => if f = g then 1 else 0
theorem get_lin (g : Fc) : ∀ {T : Tb}, nod T → get T g = lin (one1 g) T
  | [], _ => rfl
  | p :: T, h => by
    unfold nod at h
    rw [List.map_cons, List.nodup_cons] at h
    rw [get, lin, one1]
    split
    · rename_i e
      have : lin (one1 g) T = 0 := lin_zero fun q hq => by
        unfold one1
        rw [if_neg]
        intro x
        exact h.1 (e ▸ x ▸ List.mem_map.mpr ⟨q, hq, rfl⟩)
      rw [this]
      simp
    · rw [get_lin g (T := T) h.2]
      simp
def nz (p : Fc × Int) : Bool := decide (p.2 ≠ 0)
theorem lin_nz (φ : Fc → Int) : ∀ T : Tb, lin φ (T.filter nz) = lin φ T
  | [] => rfl
  | p :: T => by
    rw [List.filter_cons]
    split
    · rw [lin, lin, lin_nz φ T]
    · rename_i h
      have : p.2 = 0 := by simpa [nz] using h
      rw [lin, this, lin_nz φ T]
      simp
/-! sides -/
def sdA (f : Fc) : Tb := (List.range f.length).map fun k => (f.take k ++ f.drop (k + 1), 1 - 2 * ((k : Int) % 2))
def sd (f : Fc) : Tb := if f.length = 1 then [] else sdA f
def D : (Fc → Int) → Fc → Int
  | _, [] => 0
  | φ, x :: f => φ f - D (fun s => φ (x :: s)) f
theorem lin_map (φ : Fc → Int) (u : Fc → Fc) : ∀ T : Tb, lin φ (T.map fun p => (u p.1, -p.2)) = -lin (fun s => φ (u s)) T
  | [] => rfl
  | p :: T => by
    rw [List.map_cons, lin, lin, lin_map φ u T]
    simp only [Int.mul_neg]
    omega
theorem lin_sdA : ∀ (f : Fc) (φ : Fc → Int), lin φ (sdA f) = D φ f
  | [], φ => rfl
  | x :: f, φ => by
    have e : sdA (x :: f) = (f, 1) :: (sdA f).map fun p => (x :: p.1, -p.2) := by
      unfold sdA
      rw [List.length_cons, List.range_succ_eq_map, List.map_cons, List.map_map, List.map_map]
      congr 1
      refine List.map_congr_left fun k _ => ?_
      simp only [Function.comp, Prod.mk.injEq]
      refine ⟨by simp, ?_⟩
      omega
    rw [e, lin, lin_map, lin_sdA f, D]
    simp
    omega
theorem D_sub (φ ψ : Fc → Int) : ∀ (f : Fc), D (fun s => φ s - ψ s) f = D φ f - D ψ f := by
  intro f
  induction f generalizing φ ψ with
  | nil => rfl
  | cons x f ih =>
    simp only [D]
    rw [ih]
    omega
theorem DD : ∀ (f : Fc) (φ : Fc → Int), D (fun s => D φ s) f = 0
  | [], φ => rfl
  | x :: f, φ => by
    show D φ f - D (fun s => D φ (x :: s)) f = 0
    have e : (fun s => D φ (x :: s)) = fun s => φ s - D (fun t => φ (x :: t)) s := rfl
    rw [e, D_sub φ (fun s => D (fun t => φ (x :: t)) s), DD f]
    omega
theorem D_congr : ∀ {f : Fc} {φ ψ : Fc → Int}, (∀ s, s.length + 1 = f.length → φ s = ψ s) → D φ f = D ψ f
  | [], φ, ψ, _ => rfl
  | x :: f, φ, ψ, h => by
    rw [D, D, h f rfl, D_congr (f := f) (φ := fun s => φ (x :: s)) (ψ := fun s => ψ (x :: s)) fun s hs => h _ (by simp [hs])]
def cutE (φ : Fc → Int) : Fc → Int := fun s => if s = [] then 0 else φ s
theorem lin_sd (f : Fc) (φ : Fc → Int) : lin φ (sd f) = D (cutE φ) f := by
  unfold sd
  split
  · rename_i h
    obtain ⟨x, rfl⟩ := List.length_eq_one_iff.mp h
    rfl
  · rename_i h
    rw [lin_sdA]
    refine D_congr fun s hs => ?_
    rw [cutE, if_neg]
    rintro rfl
    exact h hs.symm
/-- the coboundary of a value -/
def del (φ : Fc → Int) (f : Fc) : Int := lin φ (sd f)
theorem del_del (φ : Fc → Int) (f : Fc) : del (del φ) f = 0 := by
  unfold del
  rw [lin_sd]
  have : cutE (fun f => lin φ (sd f)) = fun s => D (cutE φ) s := by
    funext s
    unfold cutE
    split
    · rename_i h
      subst h
      rfl
    · exact lin_sd s φ
  rw [this, DD]
theorem sd_mem {f : Fc} {p : Fc × Int} (h : p ∈ sd f) : p.1.Sublist f ∧ p.1.length + 1 = f.length ∧ p.1 ≠ [] := by
  unfold sd at h
  split at h
  · cases h
  · rename_i q
    obtain ⟨k, hk, rfl⟩ := List.mem_map.mp h
    have hk := List.mem_range.mp hk
    have l : (f.take k ++ f.drop (k + 1)).length + 1 = f.length := by
      simp
      omega
    refine ⟨?_, l, ?_⟩
    · have : (f.take k ++ f.drop (k + 1)).Sublist (f.take k ++ f.drop k) := List.Sublist.append (List.Sublist.refl _) (by
        rw [← List.drop_drop]
        exact List.drop_sublist _ _)
      rwa [List.take_append_drop] at this
    · intro e
      simp only at e
      rw [e] at l
      exact q l.symm
/-! the boundary -/
def bl (T : Tb) : Tb := T.flatMap fun p => (sd p.1).map fun q => (q.1, q.2 * p.2)
theorem lin_mulr (φ : Fc → Int) (n : Int) : ∀ T : Tb, lin φ (T.map fun q => (q.1, q.2 * n)) = lin φ T * n
  | [] => by simp [lin]
  | p :: T => by
    rw [List.map_cons, lin, lin, lin_mulr φ n T, Int.add_mul, Int.mul_assoc]
theorem lin_bl (φ : Fc → Int) : ∀ T : Tb, lin φ (bl T) = lin (del φ) T
  | [] => rfl
  | p :: T => by
    have e : bl (p :: T) = ((sd p.1).map fun q => (q.1, q.2 * p.2)) ++ bl T := by simp [bl]
    rw [e, lin_append, lin_bl φ T, lin_mulr, lin]
    rfl
def bnd (T : Tb) : Tb := updA [] (bl T)
theorem nod_nil : nod [] := List.nodup_nil
theorem nod_bnd (T : Tb) : nod (bnd T) := nod_updA nod_nil
theorem lin_bnd (φ : Fc → Int) (T : Tb) : lin φ (bnd T) = lin (del φ) T := by
  unfold bnd
  rw [lin_updA φ nod_nil, lin_bl]
  simp [lin]
end K10
namespace K10
open PySem HW
/-! values of data: what their parts are like -/
mutual
def tame : Nat → PV → Bool
  | _, .non => true
  | _, .bl _ => true
  | _, .int _ => true
  | n + 1, .tup xs => tames n xs
  | n + 1, .lst xs => tames n xs
  | _, _ => false
def tames : Nat → List PV → Bool
  | _, [] => true
  | n, x :: xs => tame n x && tames n xs
end
mutual
theorem tame_toD : ∀ (n : Nat) (v : PV), tame n v = true → ∃ d, toD v = some d ∧ d.canLay0 = true ∧ d.depth ≤ n
  | n, .non, _ => ⟨.none, rfl, rfl, by simp [PyData.depth]⟩
  | n, .bl b, _ => ⟨.bool b, rfl, rfl, by simp [PyData.depth]⟩
  | n, .int i, _ => ⟨.int i, rfl, rfl, by simp [PyData.depth]⟩
  | n + 1, .tup xs, h => by
    rw [tame] at h
    obtain ⟨ds, e, h1, h2⟩ := tames_toD n xs h
    exact ⟨.tuple ds, by rw [toD, e]; rfl, by rw [PyData.canLay0]; exact h1, by rw [PyData.depth]; omega⟩
  | n + 1, .lst xs, h => by
    rw [tame] at h
    obtain ⟨ds, e, h1, h2⟩ := tames_toD n xs h
    exact ⟨.list ds, by rw [toD, e]; rfl, by rw [PyData.canLay0]; exact h1, by rw [PyData.depth]; omega⟩
  | 0, .tup xs, h => by simp [tame] at h
  | 0, .lst xs, h => by simp [tame] at h
  | n, .str s, h => by simp [tame] at h
  | n, .dct s, h => by simp [tame] at h
  | n, .scr s, h => by simp [tame] at h
  | n, .ref s, h => by simp [tame] at h
theorem tames_toD : ∀ (n : Nat) (xs : List PV), tames n xs = true → ∃ ds, toDs xs = some ds ∧ PyData.canLayAll0 ds = true ∧ PyData.depthAll ds ≤ n
  | n, [], _ => ⟨[], rfl, rfl, by simp [PyData.depthAll]⟩
  | n, x :: xs, h => by
    rw [tames, Bool.and_eq_true] at h
    obtain ⟨d, e1, h1, h2⟩ := tame_toD n x h.1
    obtain ⟨ds, e2, h3, h4⟩ := tames_toD n xs h.2
    exact ⟨d :: ds, by rw [toDs, e1, e2], by rw [PyData.canLayAll0, h1, h3]; rfl, by rw [PyData.depthAll]; omega⟩
end
theorem tames_iff {n : Nat} : ∀ {xs : List PV}, tames n xs = true ↔ ∀ x ∈ xs, tame n x = true
  | [] => by simp [tames]
  | x :: xs => by simp [tames, tames_iff (xs := xs)]
mutual
theorem below_tame (m : Nat) : ∀ (n : Nat) (v : PV), tame n v = true → below m v = true
  | n, .non, _ => rfl
  | n, .bl b, _ => rfl
  | n, .int i, _ => rfl
  | n + 1, .tup xs, h => by
    rw [tame] at h
    rw [below]
    exact belows_tame m n xs h
  | n + 1, .lst xs, h => by
    rw [tame] at h
    rw [below]
    exact belows_tame m n xs h
  | 0, .tup xs, h => by simp [tame] at h
  | 0, .lst xs, h => by simp [tame] at h
  | n, .str s, h => by simp [tame] at h
  | n, .dct s, h => by simp [tame] at h
  | n, .scr s, h => by simp [tame] at h
  | n, .ref s, h => by simp [tame] at h
theorem belows_tame (m : Nat) : ∀ (n : Nat) (xs : List PV), tames n xs = true → belows m xs = true
  | n, [], _ => rfl
  | n, x :: xs, h => by
    rw [tames, Bool.and_eq_true] at h
    rw [belows, below_tame m n x h.1, belows_tame m n xs h.2]
    rfl
end
theorem tame_plain {n : Nat} {v : PV} (h : tame n v = true) : plainV v = true := by
  cases v <;> simp [tame] at h <;> rfl
theorem tame_res {n : Nat} {v : PV} (h : tame n v = true) (g : PHeap) : res g v = v := by
  cases v <;> simp [tame] at h <;> rfl
theorem tame_mono : ∀ {n m : Nat}, n ≤ m → ∀ {v : PV}, tame n v = true → tame m v = true := by
  intro n
  induction n with
  | zero =>
    intro m hm v h
    cases v <;> simp [tame] at h <;> simp [tame]
  | succ n ih =>
    intro m hm v h
    obtain ⟨k, rfl⟩ : ∃ k, m = k + 1 := ⟨m - 1, by omega⟩
    cases v with
    | tup xs =>
      rw [tame] at h ⊢
      exact tames_iff.mpr fun x hx => ih (by omega) (tames_iff.mp h x hx)
    | lst xs =>
      rw [tame] at h ⊢
      exact tames_iff.mpr fun x hx => ih (by omega) (tames_iff.mp h x hx)
    | _ => simp [tame] at h <;> simp [tame]
theorem eq_tame {n : Nat} (hn : n ≤ 64) {a b : PV} {g : PHeap} (ha : tame n a = true) (hb : tame n b = true) : ∃ d e, toD a = some d ∧ toD b = some e ∧ pyEq g a b = some (PyData.eqv d e) := by
  obtain ⟨d, d1, d2, d3⟩ := tame_toD n a ha
  obtain ⟨e, e1, e2, e3⟩ := tame_toD n b hb
  refine ⟨d, e, d1, e1, ?_⟩
  unfold pyEq
  rw [tame_res ha, tame_res hb, d1, e1]
  have h1 : SeqAt.shaped d = true := by
    unfold SeqAt.shaped
    rw [d2]
    simp
    omega
  have h2 : SeqAt.shaped e = true := by
    unfold SeqAt.shaped
    rw [e2]
    simp
    omega
  simp [h1, h2]
theorem eq_same {n : Nat} (hn : n ≤ 64) {a : PV} {g : PHeap} (ha : tame n a = true) : pyEq g a a = some true := by
  obtain ⟨d, e, h1, h2, h3⟩ := eq_tame (g := g) hn ha ha
  obtain ⟨d', d1, d2, _⟩ := tame_toD n a ha
  rw [d1] at h1 h2
  cases h1
  cases h2
  rw [h3, SeqAt.eqv_refl _ d2]
theorem tame_ints (n : Nat) (k : List Int) : tames n (k.map .int) = true := tames_iff.mpr fun x hx => by
  obtain ⟨i, _, rfl⟩ := List.mem_map.mp hx
  cases n <;> rfl
theorem tame_tI (n : Nat) (k : Fc) : tame (n + 1) (tI k) = true := by
  unfold tI
  rw [tame]
  exact tame_ints n k
theorem tame_tIs (n : Nat) (ks : List Fc) : tames (n + 1) (ks.map tI) = true := tames_iff.mpr fun x hx => by
  obtain ⟨i, _, rfl⟩ := List.mem_map.mp hx
  exact tame_tI n i
theorem eq_int {g : PHeap} (a b : Int) : pyEq g (.int a) (.int b) = some (decide (a = b)) := by
  obtain ⟨d, e, h1, h2, h3⟩ := eq_tame (n := 0) (g := g) (by omega) (a := .int a) (b := .int b) rfl rfl
  cases h1
  cases h2
  rw [h3]
  simp only [PyData.eqv]
  rfl
theorem eq_bool {g : PHeap} (a b : Bool) : pyEq g (.bl a) (.bl b) = some (decide (a = b)) := by
  obtain ⟨d, e, h1, h2, h3⟩ := eq_tame (n := 0) (g := g) (by omega) (a := .bl a) (b := .bl b) rfl rfl
  cases h1
  cases h2
  rw [h3]
  simp only [PyData.eqv]
  cases a <;> cases b <;> rfl
theorem eqv_ints : ∀ a b : List Int, PyData.eqvAll (a.map .int) (b.map .int) = decide (a = b)
  | [], [] => by simp [PyData.eqvAll]
  | [], _ :: _ => by simp [PyData.eqvAll]
  | _ :: _, [] => by simp [PyData.eqvAll]
  | a :: as, b :: bs => by
    rw [List.map_cons, List.map_cons, PyData.eqvAll, PyData.eqv, eqv_ints as bs]
    show (decide (a = b) && _) = _
    rw [← Bool.decide_and]
    exact decide_eq_decide.mpr (by rw [List.cons.injEq])
theorem any_ints (f : List Int) (c : Int) : ((f.map PyData.int).any fun e => PyData.eqv e (.int c)) = decide (c ∈ f) := by
  rw [List.any_map, Bool.eq_iff_iff, List.any_eq_true, decide_eq_true_eq]
  constructor
  · rintro ⟨y, hy, e⟩
    simp only [Function.comp, PyData.eqv, beq_iff_eq] at e
    exact e ▸ hy
  · intro h
    exact ⟨c, h, by simp [Function.comp, PyData.eqv]⟩
theorem eq_tI {g : PHeap} (a b : Fc) : pyEq g (tI a) (tI b) = some (decide (a = b)) := by
  obtain ⟨d, e, h1, h2, h3⟩ := eq_tame (n := 1) (g := g) (by omega) (tame_tI 0 a) (tame_tI 0 b)
  unfold tI at h1 h2
  rw [toD, toD_ints] at h1 h2
  cases h1
  cases h2
  rw [h3, PyData.eqv, eqv_ints]
theorem eq_ints {g : PHeap} (a b : List Int) : pyEq g (.lst (a.map .int)) (.lst (b.map .int)) = some (decide (a = b)) := by
  obtain ⟨d, e, h1, h2, h3⟩ := eq_tame (n := 1) (g := g) (by omega) (a := .lst (a.map .int)) (b := .lst (b.map .int)) (by rw [tame]; exact tame_ints 0 a) (by rw [tame]; exact tame_ints 0 b)
  rw [toD, toD_ints] at h1 h2
  cases h1
  cases h2
  rw [h3, PyData.eqv, eqv_ints]
theorem toD_tI (k : Fc) : toD (tI k) = some (.tuple (k.map .int)) := by
  unfold tI
  rw [toD, toD_ints]
  rfl
theorem toD_tIs : ∀ ks : List Fc, toDs (ks.map tI) = some (ks.map fun k => .tuple (k.map .int))
  | [] => rfl
  | k :: ks => by rw [List.map_cons, toDs, toD_tI, toD_tIs ks]; rfl
theorem eqv_tIs : ∀ a b : List Fc, PyData.eqvAll (a.map fun k => .tuple (k.map .int)) (b.map fun k => .tuple (k.map .int)) = decide (a = b)
  | [], [] => by simp [PyData.eqvAll]
  | [], _ :: _ => by simp [PyData.eqvAll]
  | _ :: _, [] => by simp [PyData.eqvAll]
  | a :: as, b :: bs => by
    rw [List.map_cons, List.map_cons, PyData.eqvAll, PyData.eqv, eqv_ints, eqv_tIs as bs, ← Bool.decide_and]
    exact decide_eq_decide.mpr (by rw [List.cons.injEq])
theorem eq_tIs {g : PHeap} (a b : List Fc) : pyEq g (.tup (a.map tI)) (.tup (b.map tI)) = some (decide (a = b)) := by
  obtain ⟨d, e, h1, h2, h3⟩ := eq_tame (n := 2) (g := g) (by omega) (a := .tup (a.map tI)) (b := .tup (b.map tI)) (by rw [tame]; exact tame_tIs 0 a) (by rw [tame]; exact tame_tIs 0 b)
  rw [toD, toD_tIs] at h1 h2
  cases h1
  cases h2
  rw [h3, PyData.eqv, eqv_tIs]
theorem shaped_of {n : Nat} (hn : n ≤ 64) {v : PV} {d : PyData} (h : tame n v = true) (e : toD v = some d) : SeqAt.shaped d = true := by
  obtain ⟨d', d1, d2, d3⟩ := tame_toD n v h
  rw [e] at d1
  cases d1
  unfold SeqAt.shaped
  rw [d2]
  simp
  omega
/-- c in face -/
theorem in_tI {g : PHeap} (c : Int) (f : Fc) : isIn g (.int c) (tI f) = some (decide (c ∈ f)) := by
  have h1 : SeqAt.shaped (.int c) = true := shaped_of (n := 0) (by omega) (v := .int c) rfl rfl
  have h2 : SeqAt.shaped (.list (f.map .int)) = true := shaped_of (n := 1) (by omega) (v := .lst (f.map .int)) (by rw [tame]; exact tame_ints 0 f) (by rw [toD, toD_ints]; rfl)
  show (match toD (res g (.int c)), toDs (f.map .int) with
      | some d, some ds => if SeqAt.shaped d && SeqAt.shaped (.list ds) then some (ds.any fun e => PyData.eqv e d) else none
      | _, _ => none) = _
  rw [toD_ints]
  show (if SeqAt.shaped (.int c) && SeqAt.shaped (.list (f.map .int)) then some _ else none) = _
  rw [h1, h2]
  simp only [Bool.and_self, if_true]
  exact congrArg some (any_ints f c)
theorem any_tIs (ks : List Fc) (f : Fc) : ((ks.map fun k => PyData.tuple (k.map .int)).any fun e => PyData.eqv e (.tuple (f.map .int))) = decide (f ∈ ks) := by
  rw [List.any_map, Bool.eq_iff_iff, List.any_eq_true, decide_eq_true_eq]
  constructor
  · rintro ⟨y, hy, e⟩
    simp only [Function.comp, PyData.eqv, eqv_ints, decide_eq_true_eq] at e
    exact e ▸ hy
  · intro h
    exact ⟨f, h, by simp only [Function.comp, PyData.eqv, eqv_ints, decide_true]⟩
/-- face in faces -/
theorem in_tIs {g : PHeap} (f : Fc) (ks : List Fc) : isIn g (tI f) (.lst (ks.map tI)) = some (decide (f ∈ ks)) := by
  have h1 : SeqAt.shaped (.tuple (f.map .int)) = true := shaped_of (n := 1) (by omega) (tame_tI 0 f) (toD_tI f)
  have h2 : SeqAt.shaped (.list (ks.map fun k => .tuple (k.map .int))) = true := shaped_of (n := 2) (by omega) (v := .lst (ks.map tI)) (by rw [tame]; exact tame_tIs 0 ks) (by rw [toD, toD_tIs]; rfl)
  show (match toD (tI f), toDs (ks.map tI) with
      | some d, some ds => if SeqAt.shaped d && SeqAt.shaped (.list ds) then some (ds.any fun e => PyData.eqv e d) else none
      | _, _ => none) = _
  rw [toD_tIs, toD_tI]
  show (if SeqAt.shaped _ && SeqAt.shaped _ then some _ else none) = _
  rw [h1, h2]
  simp only [Bool.and_self, if_true]
  exact congrArg some (any_tIs ks f)
/-! keys -/
theorem toN_ints : ∀ k : List Int, toNs (k.map .int) = some (k.map NestedKey.num)
  | [] => rfl
  | i :: k => by rw [List.map_cons, toNs, toN, toN_ints k]; rfl
theorem depth_nums : ∀ k : List Int, NestedKey.depthAll (k.map NestedKey.num) = 0
  | [] => rfl
  | i :: k => by rw [List.map_cons, NestedKey.depthAll, NestedKey.depth, depth_nums k]; rfl
theorem keyT_tI (f : Fc) : keyT (tI f) = true := by
  unfold tI keyT
  simp [toN, toN_ints, NestedKey.depth, depth_nums]
theorem keyOk_tI {es : List (PV × PV)} (h : ∀ e ∈ es, ∃ f, e.1 = tI f) (f : Fc) : keyOk es (tI f) = true := by
  unfold keyOk
  rw [Bool.or_eq_true]
  right
  rw [keyT_tI, Bool.true_and, List.all_eq_true]
  intro e he
  obtain ⟨k, q⟩ := h e he
  rw [q]
  exact keyT_tI k
theorem keyOk_int {es : List (PV × PV)} (h : ∀ e ∈ es, ∃ f, e.1 = .int f) (f : Int) : keyOk es (.int f) = true := by
  unfold keyOk
  rw [Bool.or_eq_true]
  left
  simp only [keyV, Bool.true_and, List.all_eq_true]
  intro e he
  obtain ⟨k, q⟩ := h e he
  rw [q]
def db (S : List Fc) : List (PV × PV) := S.map fun f => (tI f, .bl true)
theorem db_keys (S : List Fc) : ∀ e ∈ db S, ∃ f, e.1 = tI f := fun e he => by
  obtain ⟨f, _, rfl⟩ := List.mem_map.mp he
  exact ⟨f, rfl⟩
theorem tI_iff {a b : Fc} : tI a = tI b ↔ a = b := ⟨tI_inj, fun e => e ▸ rfl⟩
theorem db_any (S : List Fc) (f : Fc) : (db S).any (fun e => decide (e.1 = tI f)) = S.any (fun g => decide (g = f)) := by
  unfold db
  rw [List.any_map]
  congr 1
  funext g
  simp only [Function.comp, tI_iff]
theorem db_put (S : List Fc) (f : Fc) : dPut (db S) (tI f) (.bl true) = db (ins S f) := by
  unfold dPut ins
  rw [db_any]
  split
  · unfold db
    rw [List.map_map]
    refine List.map_congr_left fun g _ => ?_
    simp only [Function.comp]
    split <;> rfl
  · simp [db]
theorem in_db {g : PHeap} (f : Fc) (S : List Fc) : isIn g (tI f) (.dct (db S)) = some (decide (f ∈ S)) := by
  show (if keyOk (db S) (tI f) then some ((db S).any fun e => decide (e.1 = tI f)) else none) = _
  rw [if_pos (keyOk_tI (db_keys S) f), db_any]
  congr 1
  rw [Bool.eq_iff_iff, List.any_eq_true, decide_eq_true_eq]
  constructor
  · rintro ⟨x, h, e⟩
    exact (of_decide_eq_true e) ▸ h
  · intro h
    exact ⟨f, h, by simp⟩
theorem lt_tI {g : PHeap} (a b : Fc) : pyOrd .lt g (tI a) (tI b) = some (decide (a < b)) := by
  have h1 : SeqAt.shaped (.tuple (a.map .int)) = true := shaped_of (n := 1) (by omega) (tame_tI 0 a) (toD_tI a)
  have h2 : SeqAt.shaped (.tuple (b.map .int)) = true := shaped_of (n := 1) (by omega) (tame_tI 0 b) (toD_tI b)
  show (match toD (tI a), toD (tI b) with
    | some d, some e => if PySem.W.alike d e && !isNone d && SeqAt.shaped d && SeqAt.shaped e then some (ordD .lt d e) else none
    | _, _ => none) = _
  rw [toD_tI, toD_tI]
  have al : ∀ a b : List Int, PySem.W.alikeAll (a.map .int) (b.map .int) = true := by
    intro a
    induction a with
    | nil => intro b; simp [PySem.W.alikeAll]
    | cons x a ih => intro b; cases b <;> simp [PySem.W.alikeAll, PySem.W.alike, ih]
  show (if PySem.W.alike (.tuple (a.map .int)) (.tuple (b.map .int)) && !isNone (.tuple (a.map .int)) && SeqAt.shaped _ && SeqAt.shaped _ then some (PySem.W.dataLt _ _) else none) = _
  rw [h1, h2, dataLt_tup, PySem.W.alike, al]
  rfl
end K10
namespace K10
open PySem HW
/-! the evaluator's steps, as rewriting rules *)-/
def rngV (v : PV) (h : PHeap) : R (List PV) := R.of ((intOf v).bind (rangeOf 0)) h
theorem rangeOf_nat {n : Nat} (hn : n ≤ 16777216) : rangeOf 0 (n : Int) = some ((List.range n).map fun (i : Nat) => PV.int i) := by
  unfold rangeOf wide62
  have h1 : (decide (-(2 ^ 62) ≤ (0 : Int) ∧ (0 : Int) < 2 ^ 62)) = true := by decide
  have h2 : (decide (-(2 ^ 62) ≤ (n : Int) ∧ (n : Int) < 2 ^ 62)) = true := by
    rw [decide_eq_true_eq]
    omega
  rw [h1, h2]
  simp
theorem rngV_nat {n : Nat} {h : PHeap} (hn : n ≤ 16777216) : rngV (.int n) h = .ok ((List.range n).map fun (i : Nat) => PV.int i) h := by
  unfold rngV
  rw [intOf, Option.bind_some, rangeOf_nat hn, R.of_some]
section
variable {ctx : List Sem} {env : HW.Env} {h : PHeap}
@[simp] theorem x_var {i : Nat} : dE ctx (.var i) env h = match env[i]? with
    | some (some v) => .ok v h
    | _ => .bad := by unfold dE; rfl
@[simp] theorem x_cst {v : PV} : dE ctx (.cst v) env h = .ok v h := by unfold dE; rfl
@[simp] theorem x_glob {x : Str} {v : PV} : dE ctx (.glob x v) env h = .ok v h := by unfold dE; rfl
@[simp] theorem x_tup {es : IEs} : dE ctx (.tup es) env h = (dEs ctx es env h).bind fun vs h => .ok (.tup vs) h := by rw [dE]
@[simp] theorem x_lst {al : Bool} {es : IEs} : dE ctx (.lst al es) env h = (dEs ctx es env h).bind fun vs h => mkList al vs h := by rw [dE]
@[simp] theorem x_dct {al : Bool} {es : IEs} : dE ctx (.dct al es) env h = (dEs ctx es env h).bind fun vs h => (R.of ((pairUp vs).bind (putAll [])) h).bind fun es h => mkDict al es h := by rw [dE]
@[simp] theorem x_bin {op : BOp} {a b : IE} : dE ctx (.bin op a b) env h = (dE ctx a env h).bind fun x h => (dE ctx b env h).bind fun y h => R.of (binop op x y h) h := by rw [dE]
@[simp] theorem x_neg {a : IE} : dE ctx (.neg a) env h = (dE ctx a env h).bind fun x h => R.of ((intOf x).map fun i => .int (-i)) h := by rw [dE]
@[simp] theorem x_not {a : IE} : dE ctx (.not a) env h = (dE ctx a env h).bind fun x h => R.of ((tru h x).map fun c => .bl (!c)) h := by rw [dE]
@[simp] theorem x_cmp {op : COp} {a b : IE} : dE ctx (.cmp op a b) env h = (dE ctx a env h).bind fun x h => (dE ctx b env h).bind fun y h => R.of ((cmpop op x y h).map .bl) h := by rw [dE]
@[simp] theorem x_cmp2 {op op' : COp} {a b c : IE} : dE ctx (.cmp2 op op' a b c) env h = (dE ctx a env h).bind fun x h => (dE ctx b env h).bind fun y h => (R.of (cmpop op x y h) h).bind fun t h =>
      if t then (dE ctx c env h).bind fun z h => R.of ((cmpop op' y z h).map .bl) h else .ok (.bl false) h := by rw [dE]
@[simp] theorem x_and {a b : IE} : dE ctx (.and a b) env h = (dE ctx a env h).bind fun x h => (R.of (tru h x) h).bind fun t h => if t then dE ctx b env h else .ok x h := by rw [dE]
@[simp] theorem x_or {a b : IE} : dE ctx (.or a b) env h = (dE ctx a env h).bind fun x h => (R.of (tru h x) h).bind fun t h => if t then .ok x h else dE ctx b env h := by rw [dE]
@[simp] theorem x_ife {c a b : IE} : dE ctx (.ife c a b) env h = (dE ctx c env h).bind fun x h => (R.of (tru h x) h).bind fun t h => if t then dE ctx a env h else dE ctx b env h := by rw [dE]
@[simp] theorem x_sub {a i : IE} : dE ctx (.sub a i) env h = (dE ctx a env h).bind fun x h => (dE ctx i env h).bind fun y h => R.of (itemOf h x y) h := by rw [dE]
@[simp] theorem x_slice {a : IE} {lo hi : IO} : dE ctx (.slice a lo hi) env h = (dE ctx a env h).bind fun x h => (dO ctx lo env h).bind fun l h => (dO ctx hi env h).bind fun u h => R.of (sliceOf h x l u) h := by rw [dE]
@[simp] theorem x_rev {a st : IE} : dE ctx (.rev a st) env h = (dE ctx a env h).bind fun x h => (dE ctx st env h).bind fun y h => R.of (if y = .int (-1) then revOf h x else none) h := by rw [dE]
@[simp] theorem x_call {f : Nat} {es : IEs} : dE ctx (.call f es) env h = (dEs ctx es env h).bind fun vs h => (ctx.getD f fun _ _ => .bad) vs h := by rw [dE]
@[simp] theorem x_blt {f : Blt} {es : IEs} : dE ctx (.blt f es) env h = (dEs ctx es env h).bind fun vs h => R.of (bltop f vs h) h := by rw [dE]
@[simp] theorem x_meth {m : Mth} {o : IE} {es : IEs} : dE ctx (.meth m o es) env h = (dE ctx o env h).bind fun x h => if recv m h x then (dEs ctx es env h).bind fun vs h => methop m x vs h else .bad := by rw [dE]
@[simp] theorem x_conv {k : Cnv} {al : Bool} {e : IE} : dE ctx (.conv k al e) env h = (dE ctx e env h).bind fun v h => convop k al v h := by rw [dE]
@[simp] theorem x_convI {k : Cnv} {al : Bool} {it : II} : dE ctx (.convI k al it) env h = withLock (lockI it env h) (fun h => (dI ctx it env h).bind fun p h => convI k al p.1 h) h := by rw [dE]
@[simp] theorem x_comp {al : Bool} {own : List Nat} {tg : Tg} {it : II} {ifs : IEs} {elt : IE} : dE ctx (.comp al own tg it ifs elt) env h = withLock (lockI it env h) (fun h => (dI ctx it env h).bind fun p h =>
      (compGo p.2 (tgSet tg) (dIfs ctx ifs) (dE ctx elt) (wipeE env own) p.1 h []).bind fun acc h => mkList al acc h) h := by rw [dE]
@[simp] theorem x_dcomp {al : Bool} {own : List Nat} {tg : Tg} {it : II} {ifs : IEs} {k v : IE} : dE ctx (.dcomp al own tg it ifs k v) env h = withLock (lockI it env h) (fun h => (dI ctx it env h).bind fun p h =>
      (dcompGo p.2 (tgSet tg) (dIfs ctx ifs) (dE ctx k) (dE ctx v) (wipeE env own) p.1 h []).bind fun acc h => mkDict al acc h) h := by rw [dE]
@[simp] theorem x_nil : dEs ctx .nil env h = .ok [] h := by rw [dEs]
@[simp] theorem x_cons {e : IE} {es : IEs} : dEs ctx (.cons e es) env h = (dE ctx e env h).bind fun v h => (dEs ctx es env h).bind fun vs h => .ok (v :: vs) h := by rw [dEs]
@[simp] theorem x_inil : dIfs ctx .nil env h = .ok true h := by rw [dIfs]
@[simp] theorem x_icons {e : IE} {es : IEs} : dIfs ctx (.cons e es) env h = (dE ctx e env h).bind fun v h => (R.of (tru h v) h).bind fun t h => if t then dIfs ctx es env h else .ok false h := by rw [dIfs]
@[simp] theorem x_onone : dO ctx .none env h = .ok none h := by rw [dO]
@[simp] theorem x_osome {e : IE} : dO ctx (.some e) env h = (dE ctx e env h).bind fun v h => (R.of (intOf v) h).bind fun i h => .ok (some i) h := by rw [dO]
@[simp] theorem x_ex {e : IE} : dI ctx (.ex e) env h = (dE ctx e env h).bind fun v h => R.of (walkSrc h v) h := by rw [dI]
@[simp] theorem x_rng1 {e : IE} : dI ctx (.rng1 e) env h = (dE ctx e env h).bind fun v h => (rngV v h).bind fun xs h => .ok (xs, fun _ => true) h := by rw [dI] <;> rfl
@[simp] theorem x_zip {a b : IE} : dI ctx (.zip a b) env h = (dE ctx a env h).bind fun v h => (dE ctx b env h).bind fun w h => (R.of (zipSrc h v w) h).bind fun p h => .ok (zipOf p.1.1 p.1.2, p.2) h := by rw [dI]
@[simp] theorem x_items {d : IE} : dI ctx (.items d) env h = (dE ctx d env h).bind fun v h => (R.of (dictSrc h v) h).bind fun p h => .ok (p.1.map fun e => .tup [e.1, e.2], p.2) h := by rw [dI]
@[simp] theorem x_tg {t : Tg} {v : PV} : dTg ctx (.tg t) v env h = R.of (tgSet t v env) h := by rw [dTg]
@[simp] theorem x_tsub {o i : IE} {v : PV} : dTg ctx (.sub o i) v env h = (dE ctx o env h).bind fun x h => (dE ctx i env h).bind fun y h => match putItem h x y v with
    | some h' => .ok env h'
    | none => .bad := by rw [dTg] <;> rfl
@[simp] theorem x_tgs0 : dTgs ctx [] [] env h = .ok env h := by rw [dTgs]
@[simp] theorem x_tgs {t : ITgt} {ts : List ITgt} {v : PV} {vs : List PV} : dTgs ctx (t :: ts) (v :: vs) env h = (dTg ctx t v env h).bind fun env h => dTgs ctx ts vs env h := by rw [dTgs]
@[simp] theorem x_expr {e : IE} : dS ctx (.expr e) env h = (dE ctx e env h).bind fun _ h => .ok (.nx env) h := by rw [dS]
@[simp] theorem x_asg {t : ITgt} {e : IE} : dS ctx (.asg t e) env h = (dE ctx e env h).bind fun v h => (dTg ctx t v env h).bind fun env h => .ok (.nx env) h := by rw [dS]
@[simp] theorem x_par {ts : List ITgt} {es : IEs} : dS ctx (.par ts es) env h = (dEs ctx es env h).bind fun vs h => (dTgs ctx ts vs env h).bind fun env h => .ok (.nx env) h := by rw [dS]
@[simp] theorem x_ret {e : IE} : dS ctx (.ret e) env h = (dE ctx e env h).bind fun v h => .ok (.rt v) h := by rw [dS]
@[simp] theorem x_ifs {c : IE} {a b : ISs} : dS ctx (.ifs c a b) env h = (dT ctx c env h).bind fun t h => if t then dSs ctx a env h else dSs ctx b env h := by rw [dS]
@[simp] theorem x_for {tg : Tg} {it : II} {b : ISs} : dS ctx (.for_ tg it b) env h = withLock (lockI it env h) (fun h => (dI ctx it env h).bind fun p h => forGo p.2 (tgSet tg) (dSs ctx b) p.1 env h) h := by rw [dS]
@[simp] theorem x_snil : dSs ctx .nil env h = .ok (.nx env) h := by rw [dSs]
@[simp] theorem x_scons {s : IS} {ss : ISs} : dSs ctx (.cons s ss) env h = (dS ctx s env h).bind fun o h => match o with
    | .nx env => dSs ctx ss env h
    | o => .ok o h := by rw [dSs] <;> rfl
@[simp] theorem x_T {e : IE} : dT ctx e env h = (dE ctx e env h).bind fun v h => R.of (tru h v) h := rfl
@[simp] theorem x_tnm {i : Nat} {v : PV} : tgSet (.nm i) v env = if i < env.length then some (env.set i (some v)) else none := by rw [tgSet]
@[simp] theorem x_ttp {ts : List Tg} {xs : List PV} : tgSet (.tp ts) (.tup xs) env = if xs.length = ts.length then tgSets ts xs env else none := by rw [tgSet]
@[simp] theorem x_tns0 {xs : List PV} : tgSets [] xs env = some env := by rw [tgSets]
@[simp] theorem x_tns {t : Tg} {ts : List Tg} {x : PV} {xs : List PV} : tgSets (t :: ts) (x :: xs) env = match tgSet t x env with
    | some env1 => tgSets ts xs env1
    | none => none := by rw [tgSets] <;> rfl
@[simp] theorem x_w0 : wipeE env [] = env := rfl
@[simp] theorem x_w {v : Nat} {vs : List Nat} : wipeE env (v :: vs) = (wipeE env vs).set v none := rfl
@[simp] theorem x_lk {α : Type} {f : PHeap → R α} : withLock none f h = f h := rfl
@[simp] theorem x_lkv {i : Nat} : lockI (.ex (.var i)) env h = lockV i env h := rfl
@[simp] theorem x_lkr {e : IE} : lockI (.rng1 e) env h = none := rfl
@[simp] theorem x_lkz {a b : IE} : lockI (.zip a b) env h = none := rfl
@[simp] theorem x_lkc {f : Nat} {es : IEs} : lockI (.ex (.call f es)) env h = none := rfl
@[simp] theorem x_lki {i : Nat} : lockI (.items (.var i)) env h = lockV i env h := rfl
@[simp] theorem x_mkf {vs : List PV} : mkList false vs h = .ok (.lst vs) h := rfl
@[simp] theorem x_mkt {vs : List PV} : mkList true vs h = .ok (.ref h.length) (h ++ [.lst vs]) := rfl
@[simp] theorem x_mdf {vs : List (PV × PV)} : mkDict false vs h = .ok (.dct vs) h := rfl
@[simp] theorem x_mdt {vs : List (PV × PV)} : mkDict true vs h = .ok (.ref h.length) (h ++ [.dct vs]) := rfl
@[simp] theorem x_wt {xs : List PV} : walkSrc h (.tup xs) = some (xs, fun _ => true) := rfl
@[simp] theorem x_wl {xs : List PV} : walkSrc h (.lst xs) = some (xs, fun _ => true) := rfl
@[simp] theorem x_wd {es : List (PV × PV)} : walkSrc h (.dct es) = some (es.map (·.1), fun _ => true) := rfl
@[simp] theorem x_wI {f : Fc} : walkSrc h (tI f) = some (f.map .int, fun _ => true) := rfl
@[simp] theorem x_intOf {i : Int} : intOf (.int i) = some i := rfl
@[simp] theorem x_trb {c : Bool} : tru h (.bl c) = some c := rfl
@[simp] theorem x_tri {i : Int} : tru h (.int i) = some (i != 0) := rfl
@[simp] theorem x_trl {xs : List PV} : tru h (.lst xs) = some (!xs.isEmpty) := rfl
@[simp] theorem x_trt {xs : List PV} : tru h (.tup xs) = some (!xs.isEmpty) := rfl
@[simp] theorem x_trI {f : Fc} : tru h (tI f) = some (!f.isEmpty) := by
  show some (!(f.map PV.int).isEmpty) = _
  simp
@[simp] theorem x_eq {a b : PV} : cmpop .eq a b h = pyEq h a b := rfl
@[simp] theorem x_ne {a b : PV} : cmpop .ne a b h = (pyEq h a b).map (!·) := rfl
@[simp] theorem x_lt {a b : PV} : cmpop .lt a b h = pyOrd .lt h a b := rfl
@[simp] theorem x_lti {a b : Int} : pyOrd .lt h (.int a) (.int b) = some (decide (a < b)) := rfl
@[simp] theorem x_lei {a b : Int} : cmpop .le (.int a) (.int b) h = some (decide (a ≤ b)) := rfl
@[simp] theorem x_gti {a b : Int} : cmpop .gt (.int a) (.int b) h = some (decide (b < a)) := rfl
@[simp] theorem x_gei {a b : Int} : cmpop .ge (.int a) (.int b) h = some (decide (b ≤ a)) := rfl
@[simp] theorem x_isin {a b : PV} : cmpop .isin a b h = isIn h a b := rfl
@[simp] theorem x_lenl {xs : List PV} : bltop .len [.lst xs] h = some (.int xs.length) := rfl
@[simp] theorem x_lent {xs : List PV} : bltop .len [.tup xs] h = some (.int xs.length) := rfl
@[simp] theorem x_lenI {f : Fc} : bltop .len [tI f] h = some (.int f.length) := by
  show some (PV.int (f.map PV.int).length) = _
  simp
@[simp] theorem x_add {a b : Int} : binop .add (.int a) (.int b) h = some (.int (a + b)) := rfl
@[simp] theorem x_subi {a b : Int} : binop .sub (.int a) (.int b) h = some (.int (a - b)) := rfl
@[simp] theorem x_in1 {a : Int} : bltop .int [.int a] h = some (.int a) := rfl
@[simp] theorem x_in2 {a : Bool} : bltop .int [.bl a] h = some (.int (if a then 1 else 0)) := rfl
theorem x_isi {T : String} {v : PV} : bltop (.isi T) [v] h = if tyNames.contains T then (tyOf h v).map fun t => .bl (isTy t T) else none := rfl
section
variable {xs : List PV} {i : Int} {c : Bool} {f : Fc}
@[simp] theorem y1 : bltop (.isi "tuple") [.tup xs] h = some (.bl true) := rfl
@[simp] theorem y2 : bltop (.isi "tuple") [.lst xs] h = some (.bl false) := rfl
@[simp] theorem y3 : bltop (.isi "tuple") [.int i] h = some (.bl false) := rfl
@[simp] theorem y4 : bltop (.isi "tuple") [.bl c] h = some (.bl false) := rfl
@[simp] theorem y5 : bltop (.isi "tuple") [.non] h = some (.bl false) := rfl
@[simp] theorem y6 : bltop (.isi "tuple") [tI f] h = some (.bl true) := rfl
@[simp] theorem z1 : bltop (.isi "str") [.tup xs] h = some (.bl false) := rfl
@[simp] theorem z2 : bltop (.isi "str") [.lst xs] h = some (.bl false) := rfl
@[simp] theorem z3 : bltop (.isi "str") [.int i] h = some (.bl false) := rfl
@[simp] theorem z4 : bltop (.isi "str") [.bl c] h = some (.bl false) := rfl
@[simp] theorem z5 : bltop (.isi "str") [.non] h = some (.bl false) := rfl
@[simp] theorem z6 : bltop (.isi "bool") [.int i] h = some (.bl false) := rfl
@[simp] theorem z7 : bltop (.isi "bool") [.bl c] h = some (.bl true) := rfl
@[simp] theorem z8 : bltop (.isiT ["int", "str"]) [.int i] h = some (.bl true) := rfl
@[simp] theorem z9 : cmpop .is (.int i) .non h = some false := by simp [cmpop]
end
theorem x_ibool {c : Bool} : bltop (.isi "bool") [.bl c] h = some (.bl true) := rfl
end
/-! walks *)-/
theorem comp_enc {τ : Type} {enc : τ → PV} {h : PHeap} {chk : Chk} {tg : PV → HW.Env → Option HW.Env} {ok : HW.Env → PHeap → R Bool} {elt : HW.Env → PHeap → R PV} {env : HW.Env} (p : τ → Bool) (f : τ → PV) (hc : chk h = true) :
    ∀ (ts : List τ) (acc : List PV), (∀ t ∈ ts, ∃ e1, tg (enc t) env = some e1 ∧ ok e1 h = .ok (p t) h ∧ (p t = true → elt e1 h = .ok (f t) h)) → acc.length + ts.length ≤ LIM →
      compGo chk tg ok elt env (ts.map enc) h acc = .ok (acc ++ (ts.filter p).map f) h
  | [], acc, _, _ => by simp [compGo, hc]
  | t :: ts, acc, hx, hl => by
    obtain ⟨e1, q1, q2, q3⟩ := hx t (List.mem_cons_self ..)
    simp only [List.length_cons] at hl
    have r : ∀ y ∈ ts, _ := fun y hy => hx y (List.mem_cons_of_mem _ hy)
    rw [List.map_cons]
    cases hp : p t with
    | true =>
      have ih := comp_enc p f hc ts (acc ++ [f t]) r (by simp; omega)
      simp only [compGo, hc, if_true, q1, q2, hp, R.bind_ok, q3 hp]
      rw [if_pos (by omega), ih]
      simp [hp]
    | false =>
      have ih := comp_enc p f hc ts acc r (by omega)
      simp [compGo, hc, q1, q2, hp, ih]
/-- without a test *)-/
theorem comp_map {τ : Type} {enc : τ → PV} {ctx : List Sem} {h : PHeap} {chk : Chk} {tg : PV → HW.Env → Option HW.Env} {elt : HW.Env → PHeap → R PV} {env : HW.Env} (f : τ → PV) (hc : chk h = true) (ts : List τ)
    (hx : ∀ t ∈ ts, ∃ e1, tg (enc t) env = some e1 ∧ elt e1 h = .ok (f t) h) (hl : ts.length ≤ LIM) :
      compGo chk tg (dIfs ctx .nil) elt env (ts.map enc) h [] = .ok (ts.map f) h := by
  rw [comp_enc (fun _ => true) f hc ts [] (fun t ht => let ⟨e1, q1, q2⟩ := hx t ht; ⟨e1, q1, by simp, fun _ => q2⟩) (by simpa using hl), List.filter_eq_self.mpr fun _ _ => rfl]
  rfl
theorem asBools_enc {τ : Type} (f : τ → Bool) : ∀ xs : List τ, asBools (xs.map fun x => .bl (f x)) = some (xs.map f)
  | [] => rfl
  | x :: xs => by simp [asBools, asBools_enc f xs]
theorem all_enc {τ : Type} {h : PHeap} {al : Bool} (f : τ → Bool) (xs : List τ) : convop .all al (.lst (xs.map fun x => .bl (f x))) h = .ok (.bl (xs.all f)) h := by
  simp [convop, asList, asBools_enc, List.all_map]
theorem any_enc {τ : Type} {h : PHeap} {al : Bool} (f : τ → Bool) (xs : List τ) : convop .any al (.lst (xs.map fun x => .bl (f x))) h = .ok (.bl (xs.any f)) h := by
  simp [convop, asList, asBools_enc, List.any_map]
theorem for_inv {τ α : Type} {enc : τ → PV} {chk : Chk} {tg : PV → HW.Env → Option HW.Env} {body : HW.Env → PHeap → R Out} (step : α → τ → α) (I : List τ → α → HW.Env → PHeap → Prop)
    (hc : ∀ ts a env h, I ts a env h → chk h = true)
    (hs : ∀ t ts a env h, I (t :: ts) a env h → ∃ e1, tg (enc t) env = some e1 ∧ ∃ e2 h2, body e1 h = .ok (.nx e2) h2 ∧ I ts (step a t) e2 h2) :
    ∀ ts a env h, I ts a env h → ∃ env' h', forGo chk tg body (ts.map enc) env h = .ok (.nx env') h' ∧ I [] (ts.foldl step a) env' h'
  | [], a, env, h, i => ⟨env, h, by simp [forGo, hc _ _ _ _ i], i⟩
  | t :: ts, a, env, h, i => by
    obtain ⟨e1, q1, e2, h2, q2, i2⟩ := hs t ts a env h i
    obtain ⟨env', h', q3, i3⟩ := for_inv step I hc hs ts (step a t) e2 h2 i2
    exact ⟨env', h', by simp [forGo, hc _ _ _ _ i, q1, q2, q3], i3⟩
/-- a walk that may return: the first one that is bad *)-/
theorem for_all {τ : Type} {enc : τ → PV} {chk : Chk} {tg : PV → HW.Env → Option HW.Env} {body : HW.Env → PHeap → R Out} {h : PHeap} {v : PV} (p : τ → Bool) (I : HW.Env → Prop) (hc : chk h = true)
    (hs : ∀ t env, I env → ∃ e1, tg (enc t) env = some e1 ∧ (p t = false → body e1 h = .ok (.rt v) h) ∧ (p t = true → ∃ e2, body e1 h = .ok (.nx e2) h ∧ I e2)) :
    ∀ (ts : List τ) (env : HW.Env), I env → (ts.all p = false → forGo chk tg body (ts.map enc) env h = .ok (.rt v) h) ∧ (ts.all p = true → ∃ env', forGo chk tg body (ts.map enc) env h = .ok (.nx env') h ∧ I env')
  | [], env, i => ⟨by simp, fun _ => ⟨env, by simp [forGo, hc], i⟩⟩
  | t :: ts, env, i => by
    obtain ⟨e1, q1, q2, q3⟩ := hs t env i
    cases hp : p t with
    | false => exact ⟨fun _ => by simp [forGo, hc, q1, q2 hp], by simp [hp]⟩
    | true =>
      obtain ⟨e2, q4, i2⟩ := q3 hp
      obtain ⟨r1, r2⟩ := for_all p I hc hs ts e2 i2
      refine ⟨fun a => ?_, fun a => ?_⟩
      · simp only [List.all_cons, hp, Bool.true_and] at a
        simp [forGo, hc, q1, q4, r1 a]
      · simp only [List.all_cons, hp, Bool.true_and] at a
        obtain ⟨env', r3, r4⟩ := r2 a
        exact ⟨env', by simp [forGo, hc, q1, q4, r3], r4⟩
/-- a function that has left new cells behind *)-/
theorem finish_ext {h t : PHeap} {v : PV} (hv : below h.length v = true) : HW.finish false h v (h ++ t) = .ok v h := by
  have h1 : okOuter h (h ++ t) = true := by
    unfold okOuter
    rw [List.all_eq_true]
    intro m hm
    rw [List.mem_range] at hm
    rw [List.getElem?_append_left hm]
    simp
  have h2 : frz (h ++ t) h.length 12 v = some v := by
    unfold frz
    rw [if_pos hv]
  unfold HW.finish
  rw [h1, h2]
  simp
end K10
namespace K10
open PySem HW
section
variable {h : PHeap}
theorem x_addl {x y : List PV} (q : x.length + y.length ≤ LIM) : binop .add (.lst x) (.lst y) h = some (.lst (x ++ y)) := by
  show (if x.length + y.length ≤ LIM then some (PV.lst (x ++ y)) else none) = _
  rw [if_pos q]
theorem x_addt {x y : List PV} (q : x.length + y.length ≤ LIM) : binop .add (.tup x) (.tup y) h = some (.tup (x ++ y)) := by
  show (if x.length + y.length ≤ LIM then some (PV.tup (x ++ y)) else none) = _
  rw [if_pos q]
theorem x_addI {f : Fc} {c : Int} (q : f.length < LIM) : binop .add (tI f) (.tup [.int c]) h = some (tI (f ++ [c])) := by
  unfold tI
  rw [x_addt (by simp; exact q)]
  simp
@[simp] theorem x_sl1 {xs : List PV} : sliceOf h (.lst xs) (some 1) none = some (.lst (xs.drop 1)) := by
  show some (PV.lst (cut xs (some 1) none)) = _
  rw [cut_tail]
@[simp] theorem x_st1 {xs : List PV} : sliceOf h (.tup xs) (some 1) none = some (.tup (xs.drop 1)) := by
  show some (PV.tup (cut xs (some 1) none)) = _
  rw [cut_tail]
theorem below_lst_tI (n : Nat) (ks : List Fc) : below n (.lst (ks.map tI)) = true := below_tame n 2 _ (by rw [tame]; exact tame_tIs 0 ks)
theorem below_tup_tI (n : Nat) (ks : List Fc) : below n (.tup (ks.map tI)) = true := below_tame n 2 _ (by rw [tame]; exact tame_tIs 0 ks)
theorem parts_loop {ctx : List Sem} {v : PV} {f : Fc} (hl : f.length ≤ 12) :
    ∃ c, forGo (fun _ => true) (tgSet (.nm 2)) (dSs ctx (.cons (.asg (.tg (.nm 1)) (.bin .add (.var 1) (.comp false [3] (.nm 3) (.ex (.var 1)) .nil (.bin .add (.var 3) (.tup (.cons (.var 2) .nil)))))) .nil)) (f.map .int) [some v, some (.lst [.tup []]), none, none] h =
      .ok (.nx [some v, some (.lst ((subs f).map tI)), c, none]) h := by
  have := for_inv (enc := PV.int) (chk := fun _ => true) (tg := tgSet (.nm 2)) (body := dSs ctx (.cons (.asg (.tg (.nm 1)) (.bin .add (.var 1) (.comp false [3] (.nm 3) (.ex (.var 1)) .nil (.bin .add (.var 3) (.tup (.cons (.var 2) .nil)))))) .nil))
    (step := fun (acc : List Fc) c => acc ++ acc.map (· ++ [c]))
    (I := fun ts acc env g => g = h ∧ (∃ c, env = [some v, some (.lst (acc.map tI)), c, none]) ∧ acc.length * 2 ^ ts.length ≤ 4096 ∧ ∀ a ∈ acc, a.length + ts.length ≤ 12)
    (fun _ _ _ _ _ => rfl) (by
      rintro t ts a env g ⟨rfl, ⟨c, rfl⟩, h1, h2⟩
      have l : a.length * 2 ≤ 4096 := by
        rw [List.length_cons, Nat.pow_succ] at h1
        have : 1 ≤ 2 ^ ts.length := Nat.one_le_two_pow
        have : a.length * 2 ≤ a.length * (2 ^ ts.length * 2) := Nat.mul_le_mul_left _ (by omega)
        omega
      refine ⟨[some v, some (.lst (a.map tI)), some (.int t), none], by simp, [some v, some (.lst ((a ++ a.map (· ++ [t])).map tI)), some (.int t), none], g, ?_, rfl, ⟨_, rfl⟩, ?_, ?_⟩
      · simp [lockV]
        rw [comp_map (fun a => tI (a ++ [t])) rfl _ (fun b hb => ⟨_, by simp; rfl, by
          have := h2 b hb
          simp
          rw [x_addI (by simp [LIM]; omega)]
          rfl⟩) (by simp [LIM]; omega)]
        simp
        rw [x_addl (by simp [LIM]; omega)]
        simp
      · simp only [List.length_append, List.length_map]
        rw [List.length_cons, Nat.pow_succ] at h1
        rw [← Nat.mul_two, Nat.mul_assoc, Nat.mul_comm 2]
        exact h1
      · intro b hb
        rcases List.mem_append.mp hb with q | q
        · have := h2 b q
          simp only [List.length_cons] at this
          omega
        · obtain ⟨d, hd, rfl⟩ := List.mem_map.mp q
          have := h2 d hd
          simp only [List.length_cons] at this
          simp
          omega) f [[]] [some v, some (.lst [.tup []]), none, none] h ⟨rfl, ⟨none, rfl⟩, by
        have : 2 ^ f.length ≤ 2 ^ 12 := Nat.pow_le_pow_right (by decide) hl
        simpa using this, by simpa using hl⟩
  obtain ⟨env', h', q, rfl, ⟨c, rfl⟩, _⟩ := this
  exact ⟨c, q⟩
theorem length_subs (f : Fc) : (subs f).length = 2 ^ f.length := by
  unfold subs
  rw [length_subsG]
  simp
theorem parts_ev {f : Fc} (hl : f.length ≤ 12) : s_parts_of_face [tI f] h = .ok (.lst ((parts f).map tI)) h := by
  obtain ⟨c, q⟩ := parts_loop (ctx := []) (v := tI f) (h := h) hl
  rw [show tI f = .tup (f.map .int) from rfl] at q ⊢
  simp [s_parts_of_face, runFn, if_parts_of_face, lockV]
  rw [q]
  simp
  rw [show ((subs f).map tI).tail = (parts f).map tI from by simp [parts]]
  exact finish_same (below_lst_tI _ _)
theorem law_parts_ev {f : Fc} (hl : f.length ≤ 12) : s__law_parts_of [tI f] h = .ok (.lst ((parts f).map tI)) h := by
  obtain ⟨c, q⟩ := parts_loop (ctx := []) (v := tI f) (h := h) hl
  have l : (subs f).length ≤ 4096 := by
    rw [length_subs]
    exact Nat.pow_le_pow_right (n := 2) (by decide) hl
  rw [show tI f = .tup (f.map .int) from rfl] at q ⊢
  simp [s__law_parts_of, runFn, if__law_parts_of, lockV]
  rw [q]
  simp [lockV]
  rw [comp_enc (fun a : Fc => !a.isEmpty) tI rfl _ _ (fun b hb => ⟨_, by simp; rfl, by simp; cases b <;> simp, fun _ => by simp⟩) (by simp [LIM]; omega)]
  simp [parts_eq]
  exact finish_same (below_lst_tI _ _)
end
end K10
namespace K10
open PySem HW
section
variable {h : PHeap}
@[simp] theorem ite_ok {p : Prop} [Decidable p] : (if p then R.ok true h else R.ok false h) = R.ok (decide p) h := by
  split <;> simp [*]
theorem mapM_frz {g : PHeap} {n k : Nat} : ∀ {xs : List PV}, (∀ x ∈ xs, below n x = true) → xs.mapM (frz g n (k + 1)) = some xs
  | [], _ => rfl
  | x :: xs, hx => by
    rw [List.mapM_cons, mapM_frz (xs := xs) fun y hy => hx y (List.mem_cons_of_mem _ hy)]
    have : frz g n (k + 1) x = some x := by
      unfold frz
      rw [if_pos (hx x (List.mem_cons_self ..))]
    rw [this]
    rfl
theorem belows_all {n : Nat} : ∀ {xs : List PV}, (∀ x ∈ xs, below n x = true) → belows n xs = true
  | [], _ => rfl
  | x :: xs, hx => by
    rw [belows, hx x (List.mem_cons_self ..), belows_all fun y hy => hx y (List.mem_cons_of_mem _ hy)]
    rfl
theorem zip_fst_snd {α β : Type} : ∀ es : List (α × β), (es.map (·.1)).zip (es.map (·.2)) = es
  | [] => rfl
  | e :: es => by simp [zip_fst_snd es]
theorem at_last {c : Cell} : (h ++ [c])[h.length]? = some c := by simp
theorem set_last {c d : Cell} : (h ++ [c]).set h.length d = h ++ [d] := by
  rw [List.set_append_right _ _ (Nat.le_refl _)]
  simp
theorem finish_dct {es : List (PV × PV)} (hk : ∀ e ∈ es, below h.length e.1 = true ∧ below h.length e.2 = true) : HW.finish false h (.ref h.length) (h ++ [.dct es]) = .ok (.dct es) h := by
  have h1 : okOuter h (h ++ [.dct es]) = true := by
    unfold okOuter
    rw [List.all_eq_true]
    intro m hm
    rw [List.mem_range] at hm
    rw [List.getElem?_append_left hm]
    simp
  have h2 : frz (h ++ [.dct es]) h.length 12 (.ref h.length) = some (.dct es) := by
    unfold frz
    have n : below h.length (.ref h.length) = false := by simp [below]
    rw [n]
    simp only [Bool.false_eq_true, if_false, at_last]
    rw [if_pos (belows_all fun x hx => by
      obtain ⟨e, he, rfl⟩ := List.mem_map.mp hx
      exact (hk e he).1)]
    unfold frzs
    rw [mapM_frz (k := 9) fun x hx => by
      obtain ⟨e, he, rfl⟩ := List.mem_map.mp hx
      exact (hk e he).2]
    simp [zip_fst_snd]
  unfold HW.finish
  rw [h1, h2]
  simp
theorem put_dct {es : List (PV × PV)} {k v : PV} (hk : keyOk es k = true) (hl : es.length < LIM) : putItem (h ++ [.dct es]) (.ref h.length) k v = some (h ++ [.dct (dPut es k v)]) := by
  unfold putItem
  simp only [at_last]
  rw [hk]
  simp [hl, set_last]
theorem put_db {S : List Fc} {f : Fc} (hl : S.length < LIM) : putItem (h ++ [.dct (db S)]) (.ref h.length) (tI f) (.bl true) = some (h ++ [.dct (db (ins S f))]) := by
  rw [put_dct (keyOk_tI (db_keys S) f) (by simpa [db] using hl), db_put]
structure Sm (s : List Fc) : Prop where
  n : s.length ≤ 64
  l : ∀ f ∈ s, f.length ≤ 12
theorem ins_inner {ctx : List Sem} {v : PV} {f : Fc} {S fs : List Fc} {d : Option PV} (hl : S.length + fs.length ≤ 1000000) :
    ∃ d', forGo (fun _ => true) (tgSet (.nm 3)) (dSs ctx (.cons (.asg (.sub (.var 1) (.var 3)) (.cst (.bl true))) .nil)) (fs.map tI) [some v, some (.ref h.length), some (tI f), d] (h ++ [.dct (db S)]) =
      .ok (.nx [some v, some (.ref h.length), some (tI f), d']) (h ++ [.dct (db (insA S fs))]) := by
  obtain ⟨e, g, q, rfl, ⟨d', rfl⟩, _⟩ := for_inv (enc := tI) (chk := fun _ => true) (tg := tgSet (.nm 3)) (body := dSs ctx (.cons (.asg (.sub (.var 1) (.var 3)) (.cst (.bl true))) .nil))
    (step := ins) (I := fun ts S env g => g = h ++ [.dct (db S)] ∧ (∃ d, env = [some v, some (.ref h.length), some (tI f), d]) ∧ S.length + ts.length ≤ 1000000)
    (fun _ _ _ _ _ => rfl) (by
      rintro t ts a env g ⟨rfl, ⟨c, rfl⟩, h1⟩
      refine ⟨[some v, some (.ref h.length), some (tI f), some (tI t)], by simp, [some v, some (.ref h.length), some (tI f), some (tI t)], h ++ [.dct (db (ins a t))], ?_, rfl, ⟨_, rfl⟩, ?_⟩
      · simp only [List.length_cons] at h1
        simp [put_db (show a.length < LIM by simp [LIM]; omega)]
      · have := length_ins (S := a) (f := t)
        simp only [List.length_cons] at h1
        omega) fs S [some v, some (.ref h.length), some (tI f), d] _ ⟨rfl, ⟨d, rfl⟩, hl⟩
  exact ⟨d', q⟩
theorem faces_loop {sem : Sem} (hsem : ∀ (f : Fc) (g : PHeap), f.length ≤ 12 → sem [tI f] g = .ok (.lst ((parts f).map tI)) g) {v : PV} {s : List Fc} (hs : Sm s) :
    ∃ c d, forGo (fun _ => true) (tgSet (.nm 2)) (dSs [sem] (.cons (.for_ (.nm 3) (.ex (.call 0 (.cons (.var 2) .nil))) (.cons (.asg (.sub (.var 1) (.var 3)) (.cst (.bl true))) .nil)) .nil)) (s.map tI) [some v, some (.ref h.length), none, none] (h ++ [.dct []]) =
      .ok (.nx [some v, some (.ref h.length), c, d]) (h ++ [.dct (db (allF s))]) := by
  obtain ⟨e, g, q, rfl, ⟨c, d, rfl⟩, _⟩ := for_inv (enc := tI) (chk := fun _ => true) (tg := tgSet (.nm 2)) (body := dSs [sem] (.cons (.for_ (.nm 3) (.ex (.call 0 (.cons (.var 2) .nil))) (.cons (.asg (.sub (.var 1) (.var 3)) (.cst (.bl true))) .nil)) .nil))
    (step := fun S f => insA S (parts f)) (I := fun ts S env g => g = h ++ [.dct (db S)] ∧ (∃ c d, env = [some v, some (.ref h.length), c, d]) ∧ S.length + ts.length * 4096 ≤ 300000 ∧ ∀ f ∈ ts, f.length ≤ 12)
    (fun _ _ _ _ _ => rfl) (by
      rintro t ts a env g ⟨rfl, ⟨c, d, rfl⟩, h1, h2⟩
      have l1 := h2 t (List.mem_cons_self ..)
      have l2 := length_parts t
      have l3 : 2 ^ t.length ≤ 2 ^ 12 := Nat.pow_le_pow_right (by decide) l1
      simp only [List.length_cons, Nat.add_mul] at h1
      obtain ⟨d', q⟩ := ins_inner (h := h) (ctx := [sem]) (v := v) (f := t) (S := a) (fs := parts t) (d := d) (by omega)
      refine ⟨[some v, some (.ref h.length), some (tI t), d], by simp, [some v, some (.ref h.length), some (tI t), d'], h ++ [.dct (db (insA a (parts t)))], ?_, rfl, ⟨_, _, rfl⟩, ?_, fun f hf => h2 f (List.mem_cons_of_mem _ hf)⟩
      · simp [hsem t _ l1, q]
      · have := length_insA (fs := parts t) (S := a)
        omega) s [] [some v, some (.ref h.length), none, none] (h ++ [.dct []]) ⟨rfl, ⟨_, _, rfl⟩, by have := hs.n; simp; omega, hs.l⟩
  exact ⟨c, d, q⟩
theorem below_tI (n : Nat) (f : Fc) : below n (tI f) = true := below_tame n 1 _ (tame_tI 0 f)
theorem all_faces_ev {s : List Fc} (hs : Sm s) : s_all_faces [.tup (s.map tI)] h = .ok (.dct (db (allF s))) h := by
  obtain ⟨c, d, q⟩ := faces_loop (h := h) (sem := s_parts_of_face) (fun f g hl => parts_ev hl) (v := .tup (s.map tI)) hs
  simp [s_all_faces, runFn, if_all_faces, lockV, pairUp, putAll]
  rw [q]
  simp
  exact finish_dct fun e he => by
    obtain ⟨f, _, rfl⟩ := List.mem_map.mp he
    exact ⟨below_tI _ f, rfl⟩
def sortF (l : List Fc) : List Fc := l.mergeSort leR
theorem sortOk_tI {ks : List Fc} (hne : ∀ k ∈ ks, k ≠ []) : sortOk (ks.map tI) = true := by
  have al : ∀ a b : List Int, PySem.W.alikeAll (a.map .int) (b.map .int) = true := by
    intro a
    induction a with
    | nil => intro b; simp [PySem.W.alikeAll]
    | cons x a ih => intro b; cases b <;> simp [PySem.W.alikeAll, PySem.W.alike, ih]
  have dp : ∀ a : List Int, PyData.depthAll (a.map .int) = 0 := by
    intro a
    induction a with
    | nil => simp [PyData.depthAll]
    | cons x a ih => simp [PyData.depthAll, PyData.depth, ih]
  unfold sortOk
  rw [toD_tIs]
  simp only [Bool.and_eq_true, Bool.or_eq_true]
  refine ⟨⟨?_, ?_⟩, .inl ?_⟩
  · simp [List.all_eq_true, PySem.W.alike, al]
  · simp [List.all_eq_true, PyData.depth, dp]
  · simp only [List.all_map, List.all_eq_true]
    intro k hk
    have := hne k hk
    cases k with
    | nil => exact absurd rfl this
    | cons x k => rfl
theorem db_fst (S : List Fc) : (db S).map (·.1) = S.map tI := by simp [db]
theorem allF_ne {s : List Fc} : ∀ k ∈ allF s, k ≠ [] := fun k hk => by
  obtain ⟨_, _, h, _⟩ := mem_allF.mp hk
  exact h
theorem law_faces_ev {s : List Fc} (hs : Sm s) : s__law_faces [.tup (s.map tI)] h = .ok (.lst ((sortF (allF s)).map tI)) h := by
  obtain ⟨c, d, q⟩ := faces_loop (h := h) (sem := s__law_parts_of) (fun f g hl => law_parts_ev hl) (v := .tup (s.map tI)) hs
  simp [s__law_faces, runFn, if__law_faces, lockV, pairUp, putAll]
  rw [q]
  have e : anySrc (h ++ [.dct (db (allF s))]) (.ref h.length) = some ((allF s).map tI) := by
    simp [anySrc, srcOf, db]
  simp [convop, e, sortOk_tI allF_ne, sortV_tups]
  exact finish_ext (below_lst_tI _ _)
theorem mem_sortF {l : List Fc} {f : Fc} : f ∈ sortF l ↔ f ∈ l := List.mem_mergeSort
theorem sortF_perm (l : List Fc) : (sortF l).Perm l := List.mergeSort_perm l leR
def lvl (s : List Fc) (d : Int) : List Fc := (sortF (allF s)).filter fun f => decide ((f.length : Int) = d + 1)
theorem allF_small {s : List Fc} (hs : Sm s) : (allF s).length ≤ 262144 := by
  have := length_allG (m := 12) (s := s) (S := []) hs.l
  have h2 := hs.n
  unfold allF
  simp at this
  omega
theorem eq_int' {g : PHeap} (a b : Int) : pyEq g (.int a) (.int b) = some (decide (a = b)) := eq_int a b
theorem level_ev {s : List Fc} (hs : Sm s) (d : Int) : s__law_level [.tup (s.map tI), .int d] h = .ok (.lst ((lvl s d).map tI)) h := by
  have l := allF_small hs
  simp [s__law_level, runFn, if__law_level, lockV, law_faces_ev hs]
  rw [comp_enc (fun f : Fc => decide ((f.length : Int) = d + 1)) tI rfl _ _ (fun b hb => ⟨_, by simp; rfl, by simp [eq_int], fun _ => by simp⟩) (by
    rw [(sortF_perm _).length_eq]
    simp [LIM]
    omega)]
  simp
  exact finish_same (below_lst_tI _ _)
theorem sortF_filter (p : Fc → Bool) (l : List Fc) : (sortF l).filter p = sortF (l.filter p) := by
  refine sortR_eq ((sortF_perm l).filter p) ?_
  have : (sortF l).Pairwise (· ≤ ·) := (List.pairwise_mergeSort leR_trans leR_total l).imp fun h => of_decide_eq_true h
  exact this.filter p
theorem faces_of_ev {s : List Fc} (hs : Sm s) (d : Int) : s_faces_of [.tup (s.map tI), .int d] h = .ok (.tup ((lvl s d).map tI)) h := by
  have l := allF_small hs
  simp [s_faces_of, runFn, if_faces_of, lockV, all_faces_ev hs]
  rw [show (db (allF s)).map (fun x => x.1) = (allF s).map tI from db_fst _]
  rw [comp_enc (fun f : Fc => decide ((f.length : Int) = d + 1)) tI rfl _ _ (fun b hb => ⟨_, by simp; rfl, by simp [eq_int], fun _ => by simp⟩) (by
    simp [LIM]
    omega)]
  have e : ∀ {x : List PV}, anySrc h (.lst x) = some x := rfl
  have e2 : ∀ {x : List PV}, asSeq h (.lst x) = some x := rfl
  simp [convop, e]
  rw [sortOk_tI (fun k hk => allF_ne k (List.mem_filter.mp hk |>.1)), sortV_tups]
  simp [e2]
  rw [show ((allF s).filter fun f => decide ((f.length : Int) = d + 1)).mergeSort leR = lvl s d from (sortF_filter _ _).symm]
  exact finish_same (below_tup_tI _ _)
end
end K10
namespace K10
open PySem HW
def cp (p : Fc × Int) : PV := .tup [tI p.1, .int p.2]
def ch (T : Tb) : PV := .tup (T.map cp)
def dc (T : Tb) : List (PV × PV) := T.map fun p => (tI p.1, .int p.2)
theorem put_length (T : Tb) (f : Fc) (n : Int) : (put T f n).length ≤ T.length + 1 := by
  unfold put
  split <;> simp
theorem updA_length : ∀ (L T : Tb), (updA T L).length ≤ T.length + L.length
  | [], T => by simp [updA]
  | p :: L, T => by
    have h1 := updA_length L (upd T p)
    have h2 := put_length T p.1 (get T p.1 + p.2)
    have h3 : (upd T p).length ≤ T.length + 1 := h2
    show (updA (upd T p) L).length ≤ _
    simp only [List.length_cons]
    omega
theorem sd_length (f : Fc) : (sd f).length ≤ f.length := by
  unfold sd sdA
  split <;> simp
theorem sd_sign {f : Fc} {p : Fc × Int} (h : p ∈ sd f) : p.2 = 1 ∨ p.2 = -1 := by
  unfold sd at h
  split at h
  · cases h
  · obtain ⟨k, _, rfl⟩ := List.mem_map.mp h
    simp only
    omega
theorem updA_append (T A B : Tb) : updA T (A ++ B) = updA (updA T A) B := List.foldl_append
theorem tame_cp (p : Fc × Int) : tame 2 (cp p) = true := by
  unfold cp
  rw [tame, tames, tames, tames, tame_tI]
  rfl
theorem tame_ch (T : Tb) : tame 3 (ch T) = true := by
  unfold ch
  rw [tame]
  exact tames_iff.mpr fun x hx => by
    obtain ⟨p, _, rfl⟩ := List.mem_map.mp hx
    exact tame_cp p
theorem below_ch (n : Nat) (T : Tb) : below n (ch T) = true := below_tame n 3 _ (tame_ch T)
theorem below_cps (n : Nat) (T : Tb) : below n (.lst (T.map cp)) = true := below_tame n 3 _ (by
  rw [tame]
  exact tames_iff.mpr fun x hx => by
    obtain ⟨p, _, rfl⟩ := List.mem_map.mp hx
    exact tame_cp p)
theorem dc_keys (S : Tb) : ∀ e ∈ dc S, ∃ f, e.1 = tI f := fun e he => by
  obtain ⟨f, _, rfl⟩ := List.mem_map.mp he
  exact ⟨f.1, rfl⟩
theorem dc_any (S : Tb) (f : Fc) : (dc S).any (fun e => decide (e.1 = tI f)) = S.any (fun g => decide (g.1 = f)) := by
  unfold dc
  rw [List.any_map]
  congr 1
  funext g
  simp only [Function.comp, tI_iff]
theorem dc_put (S : Tb) (f : Fc) (n : Int) : dPut (dc S) (tI f) (.int n) = dc (put S f n) := by
  unfold dPut put
  rw [dc_any]
  split
  · unfold dc
    rw [List.map_map, List.map_map]
    refine List.map_congr_left fun g _ => ?_
    simp only [Function.comp, tI_iff]
    split <;> rfl
  · simp [dc]
theorem dc_find (f : Fc) : ∀ S : Tb, (dFind (dc S) (tI f)).getD (.int 0) = .int (get S f)
  | [] => rfl
  | p :: S => by
    have ih := dc_find f S
    unfold dFind dc at ih ⊢
    rw [List.map_cons, List.find?_cons]
    by_cases e : p.1 = f
    · subst e
      simp [get]
    · have e2 : ¬ tI p.1 = tI f := fun q => e (tI_inj q)
      simp only [e2, decide_false, get, if_neg e]
      exact ih
theorem dc_find' {S : Tb} (hn : nod S) {p : Fc × Int} (hp : p ∈ S) : dFind (dc S) (tI p.1) = some (.int p.2) := by
  have h1 := dc_find p.1 S
  rw [get_mem hn hp] at h1
  cases q : dFind (dc S) (tI p.1) with
  | none =>
    exfalso
    unfold dFind at q
    rw [Option.map_eq_none_iff, List.find?_eq_none] at q
    exact q (tI p.1, .int p.2) (List.mem_map.mpr ⟨p, hp, rfl⟩) (by simp)
  | some v =>
    rw [q] at h1
    simp at h1
    rw [h1]
section
variable {h : PHeap}
theorem cut_take (xs : List PV) (k : Nat) : cut xs none (some (k : Int)) = xs.take k := by
  unfold cut
  have e : HT.sIx xs.length xs.length (some (k : Int)) = min k xs.length := HT.sIx_nat _ _ k
  rw [e, HT.sIx_none]
  simp
theorem cut_drop (xs : List PV) (k : Nat) : cut xs (some (k : Int)) none = xs.drop k := by
  unfold cut
  have e : HT.sIx xs.length 0 (some (k : Int)) = min k xs.length := HT.sIx_nat _ _ k
  rw [e, HT.sIx_none]
  by_cases q : k ≤ xs.length
  · rw [Nat.min_eq_left q]
    rw [List.take_of_length_le (by simp)]
  · rw [Nat.min_eq_right (by omega), List.drop_of_length_le (Nat.le_refl _), List.drop_of_length_le (by omega)]
    simp
theorem x_slt {f : Fc} {k : Nat} : sliceOf h (tI f) none (some (k : Int)) = some (tI (f.take k)) := by
  show some (PV.tup (cut _ _ _)) = _
  rw [cut_take, ← List.map_take, tI]
theorem x_sld {f : Fc} {k : Nat} : sliceOf h (tI f) (some ((k : Int) + 1)) none = some (tI (f.drop (k + 1))) := by
  show some (PV.tup (cut _ _ _)) = _
  rw [show (k : Int) + 1 = ((k + 1 : Nat) : Int) by simp, cut_drop, ← List.map_drop, tI]
theorem x_addII {a b : Fc} (q : a.length + b.length ≤ LIM) : binop .add (tI a) (tI b) h = some (tI (a ++ b)) := by
  unfold tI
  rw [x_addt (by simpa using q)]
  simp
theorem sm_2 : small 2 = true := by decide
theorem sides_key {f : Fc} (hl : f.length ≤ 12) (ctx : List Sem) : compGo (fun _ => true) (tgSet (.nm 1)) (dIfs ctx .nil) (dE ctx (.tup (.cons (.bin .add (.slice (.var 0) .none (.some (.var 1))) (.slice (.var 0) (.some (.bin .add (.var 1) (.cst (.int 1)))) .none)) (.cons (.bin .sub (.cst (.int 1)) (.bin .mul (.cst (.int 2)) (.bin .mod (.var 1) (.cst (.int 2))))) .nil)))) [some (tI f), none] ((List.range f.length).map fun (i : Nat) => PV.int i) h [] = .ok ((sdA f).map cp) h := by
  have l1 : (List.range f.length).length ≤ LIM := by
    rw [List.length_range]
    exact Nat.le_trans hl (by decide)
  have l2 : ∀ k, (f.take k).length + (f.drop (k + 1)).length ≤ LIM := fun k => by
    have : (f.take k).length + (f.drop (k + 1)).length ≤ 12 := by
      simp -implicitDefEqProofs
      omega
    exact Nat.le_trans this (by decide)
  rw [comp_map (fun k : Nat => cp (f.take k ++ f.drop (k + 1), 1 - 2 * ((k : Int) % 2))) rfl _ (fun k hk => ⟨_, by simp; rfl, by
      simp -implicitDefEqProofs [x_slt, x_sld]
      rw [x_addII (l2 k)]
      simp -implicitDefEqProofs
      rw [ev_mod (by decide)]
      simp -implicitDefEqProofs
      rw [ev_mul (by simp -implicitDefEqProofs [sm_2])]
      simp -implicitDefEqProofs [cp, Int.fmod_eq_emod_of_nonneg]⟩) l1]
  simp -implicitDefEqProofs [sdA, Function.comp_def]
theorem sides_one {f : Fc} (hl : f.length ≤ 12) : s_sides_of [tI f] h = .ok (.lst ((sd f).map cp)) h := by
  have l : f.length ≤ 16777216 := Nat.le_trans hl (by decide)
  simp -implicitDefEqProofs [s_sides_of, runFn, if_sides_of, eq_int]
  by_cases q : f.length = 1
  · simp -implicitDefEqProofs [q, sd]
    exact finish_same rfl
  · have q' : ¬ (f.length : Int) = 1 := by omega
    simp -implicitDefEqProofs [q']
    rw [rngV_nat l]
    simp -implicitDefEqProofs
    rw [sides_key hl]
    simp -implicitDefEqProofs
    have : sd f = sdA f := if_neg q
    rw [← this]
    exact finish_same (below_cps _ _)
theorem sides_two {f : Fc} (hl : f.length ≤ 12) : s__law_sides [tI f] h = .ok (.lst ((sd f).map cp)) h := by
  have l : f.length ≤ 16777216 := Nat.le_trans hl (by decide)
  simp -implicitDefEqProofs [s__law_sides, runFn, if__law_sides, eq_int]
  by_cases q : f.length = 1
  · simp -implicitDefEqProofs [q, sd]
    exact finish_same rfl
  · have q' : ¬ (f.length : Int) = 1 := by omega
    simp -implicitDefEqProofs [q']
    rw [rngV_nat l]
    simp -implicitDefEqProofs
    rw [sides_key hl]
    simp -implicitDefEqProofs
    have : sd f = sdA f := if_neg q
    rw [← this]
    exact finish_same (below_cps _ _)
/-! tables made to chains *)-/
def leC (p q : Fc × Int) : Bool := PySem.W.dataLe false dOf (cp p) (cp q)
def tld (T : Tb) : Tb := (T.filter nz).mergeSort leC
theorem tld_perm (T : Tb) : (tld T).Perm (T.filter nz) := List.mergeSort_perm _ _
theorem sortV_cp (T : Tb) : sortV (T.map cp) = (T.mergeSort leC).map cp := by
  unfold sortV
  rw [List.map_mergeSort]
  intro a _ b _
  rfl
theorem toD_cps : ∀ T : Tb, toDs (T.map cp) = some (T.map fun p => .tuple [.tuple (p.1.map .int), .int p.2])
  | [] => rfl
  | p :: T => by
    rw [List.map_cons, toDs, toD_cps T]
    unfold cp
    rw [toD, toDs, toDs, toDs, toD_tI]
    rfl
theorem sortOk_cp (T : Tb) : sortOk (T.map cp) = true := by
  have al : ∀ a b : List Int, PySem.W.alikeAll (a.map .int) (b.map .int) = true := by
    intro a
    induction a with
    | nil => intro b; simp [PySem.W.alikeAll]
    | cons x a ih => intro b; cases b <;> simp [PySem.W.alikeAll, PySem.W.alike, ih]
  have dp : ∀ a : List Int, PyData.depthAll (a.map .int) = 0 := by
    intro a
    induction a with
    | nil => simp [PyData.depthAll]
    | cons x a ih => simp [PyData.depthAll, PyData.depth, ih]
  unfold sortOk
  rw [toD_cps]
  simp only [Bool.and_eq_true, Bool.or_eq_true]
  refine ⟨⟨?_, ?_⟩, .inl ?_⟩
  · simp [List.all_eq_true, PySem.W.alike, PySem.W.alikeAll, al]
  · simp [List.all_eq_true, PyData.depth, PyData.depthAll, dp]
  · simp [List.all_map, List.all_eq_true]
@[simp] theorem x_ttcp {i j : Nat} {p : Fc × Int} {env : HW.Env} : tgSet (.tp [.nm i, .nm j]) (cp p) env = if i < env.length then (if j < env.length then some ((env.set i (some (tI p.1))).set j (some (.int p.2))) else none) else none := by
  unfold cp
  simp
  by_cases q : i < env.length <;> simp [q]
  by_cases q2 : j < env.length <;> simp [q2]
theorem nz_ok {n : Int} : ((pyEq h (.int n) (.int 0)).map (!·)) = some (decide (n ≠ 0)) := by
  rw [eq_int]
  simp
theorem told_ev {T : Tb} (hl : T.length ≤ LIM) : s_told [.dct (dc T)] h = .ok (ch (tld T)) h := by
  have e1 : ∀ {x : List PV}, anySrc h (.lst x) = some x := rfl
  have e2 : ∀ {x : List PV}, asSeq h (.lst x) = some x := rfl
  simp [s_told, runFn, if_told, lockV, dictSrc]
  rw [show (dc T).map (fun e => PV.tup [e.1, e.2]) = T.map cp from by simp [dc, cp, Function.comp_def]]
  rw [comp_enc nz cp rfl _ _ (fun b hb => ⟨_, by simp; rfl, by simp [eq_int, nz], fun _ => by simp [cp]⟩) (by simpa using hl)]
  simp [convop, e1, e2, sortOk_cp, sortV_cp]
  exact finish_same (below_ch _ _)
theorem lock_last {α : Type} {f : PHeap → R α} {es : List (PV × PV)} : withLock (some h.length) f (h ++ [.dct es]) = (f (h ++ [.dctL es])).bind fun r g => if g[h.length]? = some (.dctL es) then .ok r (g.set h.length (.dct es)) else .bad := by
  unfold withLock
  simp [at_last, set_last]
theorem told_live {T : Tb} (hl : T.length ≤ LIM) : s_told [.ref h.length] (h ++ [.dct (dc T)]) = .ok (ch (tld T)) (h ++ [.dct (dc T)]) := by
  have e1 : ∀ {x : List PV} {g : PHeap}, anySrc g (.lst x) = some x := rfl
  have e2 : ∀ {x : List PV} {g : PHeap}, asSeq g (.lst x) = some x := rfl
  simp [s_told, runFn, if_told, lockV, dictSrc, lock_last]
  rw [show (dc T).map (fun e => PV.tup [e.1, e.2]) = T.map cp from by simp [dc, cp, Function.comp_def]]
  rw [comp_enc nz cp (by simp) _ _ (fun b hb => ⟨_, by simp; rfl, by simp [eq_int, nz], fun _ => by simp [cp]⟩) (by simpa using hl)]
  simp [convop, e1, e2, sortOk_cp, sortV_cp, set_last]
  exact finish_same (below_ch _ _)
theorem chain_ev {T : Tb} (hn : nod T) (hl : T.length ≤ LIM) : s__law_chain [.dct (dc T)] h = .ok (ch (tld T)) h := by
  have e1 : ∀ {x : List PV}, anySrc h (.lst x) = some x := rfl
  have e2 : ∀ {x : List PV}, asSeq h (.lst x) = some x := rfl
  have e3 : ∀ p ∈ T, itemOf h (.dct (dc T)) (tI p.1) = some (.int p.2) := fun p hp => by
    show (if keyOk (dc T) (tI p.1) then dFind (dc T) (tI p.1) else none) = _
    rw [if_pos (keyOk_tI (dc_keys T) _), dc_find' hn hp]
  simp [s__law_chain, runFn, if__law_chain, lockV]
  rw [show (dc T).map (fun x => x.1) = T.map (fun p => tI p.1) from by simp [dc, Function.comp_def]]
  rw [comp_enc nz cp rfl _ _ (fun b hb => ⟨_, by simp; rfl, by simp [eq_int, nz, e3 b hb], fun _ => by simp [cp, e3 b hb]⟩) (by simpa using hl)]
  simp [convop, e1, e2, sortOk_cp, sortV_cp]
  exact finish_same (below_ch _ _)
theorem chain_live {T : Tb} (hn : nod T) (hl : T.length ≤ LIM) : s__law_chain [.ref h.length] (h ++ [.dct (dc T)]) = .ok (ch (tld T)) (h ++ [.dct (dc T)]) := by
  have e1 : ∀ {x : List PV} {g : PHeap}, anySrc g (.lst x) = some x := rfl
  have e2 : ∀ {x : List PV} {g : PHeap}, asSeq g (.lst x) = some x := rfl
  have e3 : ∀ p ∈ T, itemOf (h ++ [.dctL (dc T)]) (.ref h.length) (tI p.1) = some (.int p.2) := fun p hp => by
    unfold itemOf asDict
    simp only [at_last]
    rw [if_pos (keyOk_tI (dc_keys T) _), dc_find' hn hp]
  simp [s__law_chain, runFn, if__law_chain, lockV, lock_last, walkSrc]
  rw [show (dc T).map (fun x => x.1) = T.map (fun p => tI p.1) from by simp [dc, Function.comp_def]]
  rw [comp_enc nz cp (by simp) _ _ (fun b hb => ⟨_, by simp; rfl, by simp [eq_int, nz, e3 b hb], fun _ => by simp [cp, e3 b hb]⟩) (by simpa using hl)]
  simp [convop, e1, e2, sortOk_cp, sortV_cp, set_last]
  exact finish_same (below_ch _ _)
end
end K10
namespace K10
open PySem HW
theorem lin_one1_abs (g : Fc) : ∀ L : Tb, (∀ q ∈ L, q.2 = 1 ∨ q.2 = -1) → (lin (one1 g) L).natAbs ≤ L.length
  | [], _ => by simp [lin]
  | p :: L, h => by
    have ih := lin_one1_abs g L fun q hq => h q (List.mem_cons_of_mem _ hq)
    have h1 := h p (List.mem_cons_self ..)
    rw [lin, List.length_cons]
    unfold one1
    unfold one1 at ih
    split
    · rcases h1 with e | e <;> rw [e] <;> omega
    · simp
      omega
theorem bnd_small {f : Fc} (hl : f.length ≤ 12) {p : Fc × Int} (hp : p ∈ bnd [(f, 1)]) : small p.2 = true := by
  have h1 : p.2 = lin (one1 p.1) (sd f) := by
    rw [← get_mem (nod_bnd _) hp, get_lin _ (nod_bnd _), lin_bnd]
    simp [lin, del]
  have h2 := lin_one1_abs p.1 (sd f) fun q hq => sd_sign hq
  have h3 := sd_length f
  rw [← h1] at h2
  unfold small
  rw [decide_eq_true_eq]
  omega
theorem tld_small {T : Tb} (h : ∀ p ∈ T, small p.2 = true) : ∀ p ∈ tld T, small p.2 = true := fun p hp =>
  h p (List.mem_filter.mp ((tld_perm T).mem_iff.mp hp)).1
theorem tld_length (T : Tb) : (tld T).length ≤ T.length := by
  rw [(tld_perm T).length_eq]
  exact List.length_filter_le _ _
theorem nod_tld {T : Tb} (h : nod T) : nod (tld T) := by
  unfold nod at h ⊢
  exact (((tld_perm T).map _).nodup_iff).mpr ((List.filter_sublist.map _).nodup h)
theorem tld_keys {T : Tb} {p : Fc × Int} (h : p ∈ tld T) : p ∈ T := (List.mem_filter.mp ((tld_perm T).mem_iff.mp h)).1
theorem mem_put {T : Tb} {f : Fc} {n : Int} {p : Fc × Int} (h : p ∈ put T f n) : p ∈ T ∨ p.1 = f := by
  unfold put at h
  split at h
  · obtain ⟨q, h1, h2⟩ := List.mem_map.mp h
    split at h2
    · rename_i e
      subst h2
      exact .inr e
    · exact .inl (h2 ▸ h1)
  · rcases List.mem_append.mp h with q | q
    · exact .inl q
    · simp at q
      exact .inr (by rw [q])
theorem mem_updA {p : Fc × Int} : ∀ {L T : Tb}, p ∈ updA T L → (∃ q ∈ T, q.1 = p.1) ∨ ∃ q ∈ L, q.1 = p.1
  | [], T, h => .inl ⟨p, h, rfl⟩
  | q :: L, T, h => by
    rcases mem_updA (L := L) (T := upd T q) h with ⟨r, h1, h2⟩ | ⟨r, h1, h2⟩
    · rcases mem_put h1 with x | x
      · exact .inl ⟨r, x, h2⟩
      · exact .inr ⟨q, List.mem_cons_self .., by rw [← h2, x]⟩
    · exact .inr ⟨r, List.mem_cons_of_mem _ h1, h2⟩
theorem mem_bl {T : Tb} {q : Fc × Int} (h : q ∈ bl T) : ∃ p ∈ T, ∃ r ∈ sd p.1, q.1 = r.1 := by
  unfold bl at h
  obtain ⟨p, h1, h2⟩ := List.mem_flatMap.mp h
  obtain ⟨r, h3, rfl⟩ := List.mem_map.mp h2
  exact ⟨p, h1, r, h3, rfl⟩
theorem mem_bnd {T : Tb} {p : Fc × Int} (h : p ∈ bnd T) : ∃ q ∈ T, ∃ r ∈ sd q.1, p.1 = r.1 := by
  rcases mem_updA h with ⟨q, h1, _⟩ | ⟨q, h1, h2⟩
  · cases h1
  · obtain ⟨a, h3, r, h4, h5⟩ := mem_bl h1
    exact ⟨a, h3, r, h4, h2.symm.trans h5⟩
theorem bl_length {T : Tb} (hf : ∀ p ∈ T, p.1.length ≤ 12) : (bl T).length ≤ T.length * 12 := by
  induction T with
  | nil => simp [bl]
  | cons p T ih =>
    have h1 := ih fun q hq => hf q (List.mem_cons_of_mem _ hq)
    have h2 := sd_length p.1
    have h3 := hf p (List.mem_cons_self ..)
    have e : bl (p :: T) = ((sd p.1).map fun q => (q.1, q.2 * p.2)) ++ bl T := by simp [bl]
    rw [e]
    simp only [List.length_append, List.length_map, List.length_cons]
    omega
theorem bnd_length {T : Tb} (hf : ∀ p ∈ T, p.1.length ≤ 12) : (bnd T).length ≤ T.length * 12 := by
  have h1 := updA_length (bl T) []
  have h2 := bl_length hf
  unfold bnd
  simp at h1
  omega
section
variable {h : PHeap}
@[simp] theorem x_rcl {es : List (PV × PV)} : recv .dget (h ++ [.dct es]) (.ref h.length) = true := by
  simp [recv, asDict]
@[simp] theorem x_rcf {es : List (PV × PV)} : recv .dget h (.dct es) = true := rfl
@[simp] theorem x_dgl {D : Tb} {s : Fc} : methop .dget (.ref h.length) [tI s, .int 0] (h ++ [.dct (dc D)]) = .ok (.int (get D s)) (h ++ [.dct (dc D)]) := by
  simp [methop, mGet, asDict, keyOk_tI (dc_keys D), dc_find]
@[simp] theorem x_dgf {D : Tb} {s : Fc} : methop .dget (.dct (dc D)) [tI s, .int 0] h = .ok (.int (get D s)) h := by
  simp [methop, mGet, asDict, keyOk_tI (dc_keys D), dc_find]
theorem put_dcl {D : Tb} {s : Fc} {n : Int} (hl : D.length < LIM) : putItem (h ++ [.dct (dc D)]) (.ref h.length) (tI s) (.int n) = some (h ++ [.dct (dc (put D s n))]) := by
  rw [put_dct (keyOk_tI (dc_keys D) s) (by simpa [dc] using hl), dc_put]
theorem bnd_inner {ctx : List Sem} {v : PV} {f : Fc} {n : Int} {D L : Tb} {d4 d5 : Option PV} (hl : D.length + L.length ≤ 16000000) (hs : ∀ q ∈ L, q.2 = 1 ∨ q.2 = -1) :
    ∃ e4 e5, forGo (fun _ => true) (tgSet (.tp [.nm 4, .nm 5])) (dSs ctx (.cons (.asg (.sub (.var 1) (.var 4)) (.bin .add (.meth .dget (.var 1) (.cons (.var 4) (.cons (.cst (.int 0)) .nil))) (.bin .mul (.var 5) (.var 3)))) .nil)) (L.map cp) [some v, some (.ref h.length), some (tI f), some (.int n), d4, d5] (h ++ [.dct (dc D)]) =
      .ok (.nx [some v, some (.ref h.length), some (tI f), some (.int n), e4, e5]) (h ++ [.dct (dc (updA D (L.map fun q => (q.1, q.2 * n))))]) := by
  obtain ⟨e, g, q, rfl, ⟨e4, e5, rfl⟩, _⟩ := for_inv (enc := cp) (chk := fun _ => true) (tg := tgSet (.tp [.nm 4, .nm 5])) (body := dSs ctx (.cons (.asg (.sub (.var 1) (.var 4)) (.bin .add (.meth .dget (.var 1) (.cons (.var 4) (.cons (.cst (.int 0)) .nil))) (.bin .mul (.var 5) (.var 3)))) .nil))
    (step := fun D q => upd D (q.1, q.2 * n)) (I := fun ts D env g => g = h ++ [.dct (dc D)] ∧ (∃ d4 d5, env = [some v, some (.ref h.length), some (tI f), some (.int n), d4, d5]) ∧ D.length + ts.length ≤ 16000000 ∧ ∀ q ∈ ts, q.2 = 1 ∨ q.2 = -1)
    (fun _ _ _ _ _ => rfl) (by
      rintro t ts a env g ⟨rfl, ⟨d4, d5, rfl⟩, h1, h2⟩
      refine ⟨[some v, some (.ref h.length), some (tI f), some (.int n), some (tI t.1), some (.int t.2)], by simp, _, h ++ [.dct (dc (upd a (t.1, t.2 * n)))], ?_, rfl, ⟨some (tI t.1), some (.int t.2), rfl⟩, ?_, fun q hq => h2 q (List.mem_cons_of_mem _ hq)⟩
      · simp only [List.length_cons] at h1
        have sm : small t.2 = true := by
          rcases h2 t (List.mem_cons_self ..) with q | q <;> rw [q] <;> decide
        simp
        rw [ev_mul (by simp [sm])]
        simp
        rw [put_dcl (by simp [LIM]; omega)]
        simp [upd]
      · have := put_length a t.1 (get a t.1 + t.2 * n)
        simp only [List.length_cons] at h1
        show (put a t.1 (get a t.1 + t.2 * n)).length + ts.length ≤ _
        omega) L D [some v, some (.ref h.length), some (tI f), some (.int n), d4, d5] _ ⟨rfl, ⟨_, _, rfl⟩, hl, hs⟩
  refine ⟨e4, e5, ?_⟩
  rw [q]
  unfold updA
  rw [List.foldl_map]
theorem bnd_fold : ∀ (T D : Tb), T.foldl (fun D p => updA D ((sd p.1).map fun q => (q.1, q.2 * p.2))) D = updA D (bl T)
  | [], D => rfl
  | p :: T, D => by
    have e : bl (p :: T) = ((sd p.1).map fun q => (q.1, q.2 * p.2)) ++ bl T := by simp [bl]
    rw [List.foldl_cons, bnd_fold T, e, updA_append]
theorem bnd_loop {sem sem2 : Sem} (hsem : ∀ (f : Fc) (g : PHeap), f.length ≤ 12 → sem [tI f] g = .ok (.lst ((sd f).map cp)) g) {v : PV} {T : Tb} (hl : T.length ≤ 1000000) (hf : ∀ p ∈ T, p.1.length ≤ 12) :
    ∃ a b c d, forGo (fun _ => true) (tgSet (.tp [.nm 2, .nm 3])) (dSs [sem, sem2] (.cons (.for_ (.tp [(.nm 4), (.nm 5)]) (.ex (.call 0 (.cons (.var 2) .nil))) (.cons (.asg (.sub (.var 1) (.var 4)) (.bin .add (.meth .dget (.var 1) (.cons (.var 4) (.cons (.cst (.int 0)) .nil))) (.bin .mul (.var 5) (.var 3)))) .nil)) .nil)) (T.map cp) [some v, some (.ref h.length), none, none, none, none] (h ++ [.dct (dc [])]) =
      .ok (.nx [some v, some (.ref h.length), a, b, c, d]) (h ++ [.dct (dc (bnd T))]) := by
  obtain ⟨e, g, q, rfl, ⟨a, b, c, d, rfl⟩, _⟩ := for_inv (enc := cp) (chk := fun _ => true) (tg := tgSet (.tp [.nm 2, .nm 3])) (body := dSs [sem, sem2] (.cons (.for_ (.tp [(.nm 4), (.nm 5)]) (.ex (.call 0 (.cons (.var 2) .nil))) (.cons (.asg (.sub (.var 1) (.var 4)) (.bin .add (.meth .dget (.var 1) (.cons (.var 4) (.cons (.cst (.int 0)) .nil))) (.bin .mul (.var 5) (.var 3)))) .nil)) .nil))
    (step := fun D p => updA D ((sd p.1).map fun q => (q.1, q.2 * p.2))) (I := fun ts D env g => g = h ++ [.dct (dc D)] ∧ (∃ a b c d, env = [some v, some (.ref h.length), a, b, c, d]) ∧ D.length + ts.length * 12 ≤ 12000000 ∧ ∀ p ∈ ts, p.1.length ≤ 12)
    (fun _ _ _ _ _ => rfl) (by
      rintro t ts a env g ⟨rfl, ⟨d2, d3, d4, d5, rfl⟩, h1, h2⟩
      have l1 := h2 t (List.mem_cons_self ..)
      have l2 := sd_length t.1
      simp only [List.length_cons] at h1
      obtain ⟨e4, e5, q⟩ := bnd_inner (h := h) (ctx := [sem, sem2]) (v := v) (f := t.1) (n := t.2) (D := a) (L := sd t.1) (d4 := d4) (d5 := d5) (by omega) fun q hq => sd_sign hq
      refine ⟨[some v, some (.ref h.length), some (tI t.1), some (.int t.2), d4, d5], by simp, _, h ++ [.dct (dc (updA a ((sd t.1).map fun q => (q.1, q.2 * t.2))))], ?_, rfl, ⟨some (tI t.1), some (.int t.2), e4, e5, rfl⟩, ?_, fun q hq => h2 q (List.mem_cons_of_mem _ hq)⟩
      · simp [hsem t.1 _ l1, q]
      · have := updA_length ((sd t.1).map fun q => (q.1, q.2 * t.2)) a
        simp only [List.length_map] at this
        omega) T [] [some v, some (.ref h.length), none, none, none, none] (h ++ [.dct (dc [])]) ⟨rfl, ⟨_, _, _, _, rfl⟩, by simp; omega, hf⟩
  refine ⟨a, b, c, d, ?_⟩
  rw [q, bnd_fold]
  rfl
theorem boundary_ev {T : Tb} (hl : T.length ≤ 1000000) (hf : ∀ p ∈ T, p.1.length ≤ 12) : s_boundary [ch T] h = .ok (ch (tld (bnd T))) h := by
  obtain ⟨a, b, c, d, q⟩ := bnd_loop (h := h) (sem := s_sides_of) (sem2 := s_told) (fun f g hl => sides_one hl) (v := ch T) hl hf
  have l := bnd_length hf
  unfold ch at q ⊢
  simp [s_boundary, runFn, if_boundary, lockV, pairUp, putAll]
  rw [show ([] : List (PV × PV)) = dc [] from rfl, q]
  simp
  rw [told_live (by simp [LIM]; omega)]
  simp
  exact finish_ext (below_ch _ _)
theorem law_boundary_ev {T : Tb} (hl : T.length ≤ 1000000) (hf : ∀ p ∈ T, p.1.length ≤ 12) : s__law_boundary [ch T] h = .ok (ch (tld (bnd T))) h := by
  obtain ⟨a, b, c, d, q⟩ := bnd_loop (h := h) (sem := s__law_sides) (sem2 := s__law_chain) (fun f g hl => sides_two hl) (v := ch T) hl hf
  have l := bnd_length hf
  unfold ch at q ⊢
  simp [s__law_boundary, runFn, if__law_boundary, lockV, pairUp, putAll]
  rw [show ([] : List (PV × PV)) = dc [] from rfl, q]
  simp
  rw [chain_live (nod_bnd T) (by simp [LIM]; omega)]
  simp
  exact finish_ext (below_ch _ _)
/-! the value *)-/
theorem put_new {T : Tb} {p : Fc × Int} (h : ∀ q ∈ T, q.1 ≠ p.1) : put T p.1 p.2 = T ++ [p] := by
  unfold put
  rw [if_neg]
  intro x
  obtain ⟨q, h1, h2⟩ := List.any_eq_true.mp x
  exact h q h1 (of_decide_eq_true h2)
theorem putAll_dc : ∀ (A acc : Tb), nod (acc ++ A) → acc.length + A.length ≤ LIM → putAll (dc acc) (dc A) = some (dc (acc ++ A))
  | [], acc, _, _ => by simp [dc, putAll]
  | p :: A, acc, hn, hl => by
    simp only [List.length_cons] at hl
    have e : acc ++ p :: A = (acc ++ [p]) ++ A := by simp
    have no : ∀ q ∈ acc, q.1 ≠ p.1 := fun q hq x => by
      unfold nod at hn
      rw [List.map_append, List.nodup_append] at hn
      exact hn.2.2 q.1 (List.mem_map.mpr ⟨q, hq, rfl⟩) p.1 (by simp) x
    have ih := putAll_dc A (acc ++ [p]) (e ▸ hn) (by simp; omega)
    show putAll (dc acc) ((tI p.1, .int p.2) :: dc A) = _
    rw [putAll, keyOk_tI (dc_keys acc), dc_put, put_new no]
    have l : (dc acc).length < LIM := by
      simp [dc]
      omega
    simp [l, ih]
theorem mapM_pairOf : ∀ A : Tb, (A.map cp).mapM pairOf = some (dc A)
  | [] => rfl
  | p :: A => by
    rw [List.map_cons, List.mapM_cons, mapM_pairOf A]
    rfl
theorem dict_src {A : Tb} (hn : nod A) (hl : A.length ≤ LIM) : ((A.map cp).mapM pairOf).bind (putAll []) = some (dc A) := by
  rw [mapM_pairOf]
  have := putAll_dc A [] (by simpa using hn) (by simpa using hl)
  simpa [dc] using this
theorem dict_t {al : Bool} {A : Tb} (hn : nod A) (hl : A.length ≤ LIM) : convop .dict al (.tup (A.map cp)) h = mkDict al (dc A) h := by
  show (R.of ((asSeq h (.tup (A.map cp))).bind fun xs => (xs.mapM pairOf).bind (putAll [])) h).bind (fun es h => mkDict al es h) = _
  show (R.of (((A.map cp).mapM pairOf).bind (putAll [])) h).bind (fun es h => mkDict al es h) = _
  rw [dict_src hn hl]
  rfl
theorem dict_l {al : Bool} {A : Tb} (hn : nod A) (hl : A.length ≤ LIM) : convop .dict al (.lst (A.map cp)) h = mkDict al (dc A) h := by
  show (R.of (((A.map cp).mapM pairOf).bind (putAll [])) h).bind (fun es h => mkDict al es h) = _
  rw [dict_src hn hl]
  rfl
theorem asInts_enc {τ : Type} (f : τ → Int) : ∀ xs : List τ, asInts (xs.map fun x => .int (f x)) = some (xs.map f)
  | [] => rfl
  | x :: xs => by simp [asInts, asInts_enc f xs]
theorem lin_sum (φ : Fc → Int) : ∀ B : Tb, (B.map fun p => φ p.1 * p.2).sum = lin φ B
  | [] => rfl
  | p :: B => by simp [lin, lin_sum φ B]
theorem value_same : s__law_value = s_value_on := rfl
theorem value_ev {A B : Tb} (hn : nod A) (hl : A.length ≤ LIM) (hb : B.length ≤ LIM) (hs : ∀ p ∈ B, (small (get A p.1) || small p.2) = true) : s_value_on [ch A, ch B] h = .ok (.int (lin (get A) B)) h := by
  unfold ch
  simp [s_value_on, runFn, if_value_on, lockV, dict_t hn hl]
  rw [comp_map (fun p => .int (get A p.1 * p.2)) rfl _ (fun b hb => ⟨_, by simp; rfl, by
    simp
    rw [ev_mul (hs b hb)]
    rfl⟩) (by simpa using hb)]
  have e : ∀ {x : List PV}, asList h (.lst x) = some x := rfl
  simp [convop, e, asInts_enc, lin_sum]
  exact finish_same rfl
end
end K10
namespace K10
open PySem HW
theorem put_fold (φ : Fc → Int) : ∀ (L : List Fc) (D : Tb), L.Nodup → (∀ f ∈ L, ∀ q ∈ D, q.1 ≠ f) → L.foldl (fun D f => put D f (φ f)) D = D ++ L.map fun f => (f, φ f)
  | [], D, _, _ => by simp
  | f :: L, D, hn, hd => by
    rw [List.nodup_cons] at hn
    rw [List.foldl_cons, put_new (p := (f, φ f)) (fun q hq => hd f (List.mem_cons_self ..) q hq), put_fold φ L _ hn.2 ?_]
    · simp
    · intro g hg q hq e
      rcases List.mem_append.mp hq with x | x
      · exact hd g (List.mem_cons_of_mem _ hg) q x e
      · simp at x
        subst x
        have e : f = g := e
        rw [← e] at hg
        exact hn.1 hg
def cobT (L : List Fc) (A : Tb) : Tb := L.map fun f => (f, lin (get A) (tld (bnd [(f, 1)])))
def cob (s : List Fc) : Tb → Tb
  | [] => []
  | a :: A => tld (cobT (lvl s a.1.length) (a :: A))
theorem nodup_lvl (s : List Fc) (d : Int) : (lvl s d).Nodup := ((sortF_perm _).nodup_iff.mpr (nodup_allF s)).filter _
theorem mem_lvl {s : List Fc} {d : Int} {f : Fc} : f ∈ lvl s d ↔ f ∈ allF s ∧ (f.length : Int) = d + 1 := by
  unfold lvl
  rw [List.mem_filter, mem_sortF, decide_eq_true_eq]
theorem lvl_length {s : List Fc} (hs : Sm s) (d : Int) : (lvl s d).length ≤ 262144 := by
  have h1 := allF_small hs
  have h2 : (lvl s d).length ≤ (sortF (allF s)).length := List.length_filter_le _ _
  rw [(sortF_perm _).length_eq] at h2
  omega
theorem allF_len {s : List Fc} (hs : Sm s) {f : Fc} (h : f ∈ allF s) : f.length ≤ 12 := by
  obtain ⟨g, h1, _, h2⟩ := mem_allF.mp h
  exact Nat.le_trans h2.length_le (hs.l g h1)
theorem nod_cobT {L : List Fc} (h : L.Nodup) (A : Tb) : nod (cobT L A) := by
  unfold nod cobT
  rw [List.map_map]
  have e : L.map ((fun x : Fc × Int => x.1) ∘ fun f => (f, lin (get A) (tld (bnd [(f, 1)])))) = L := by
    simp [Function.comp_def]
  rw [e]
  exact h
section
variable {h : PHeap}
@[simp] theorem x_it0 {x : PV} {xs : List PV} : itemOf h (.tup (x :: xs)) (.int 0) = some x := L2.atI_nat (j := 0) rfl
@[simp] theorem x_it0l {x : PV} {xs : List PV} : itemOf h (.lst (x :: xs)) (.int 0) = some x := L2.atI_nat (j := 0) rfl
@[simp] theorem x_itc {p : Fc × Int} : itemOf h (cp p) (.int 0) = some (tI p.1) := L2.atI_nat (j := 0) rfl
theorem bnd1_ok {f : Fc} (hl : f.length ≤ 12) : (tld (bnd [(f, 1)])).length ≤ LIM := by
  have h1 := tld_length (bnd [(f, 1)])
  have h2 := bnd_length (T := [(f, 1)]) (by simpa using hl)
  simp [LIM] at *
  omega
theorem cob_loop {s0 sb s3 : Sem} (hsb : ∀ (f : Fc) (g : PHeap), f.length ≤ 12 → sb [ch [(f, 1)]] g = .ok (ch (tld (bnd [(f, 1)]))) g) {v : PV} {A : Tb} (hn : nod A) (hl : A.length ≤ 1000000) {L : List Fc} (hL : L.length ≤ 1000000) (hf : ∀ f ∈ L, f.length ≤ 12) :
    ∃ d, forGo (fun _ => true) (tgSet (.nm 3)) (dSs [s0, s_value_on, sb, s3] (.cons (.asg (.sub (.var 2) (.var 3)) (.call 1 (.cons (.var 1) (.cons (.call 2 (.cons (.tup (.cons (.tup (.cons (.var 3) (.cons (.cst (.int 1)) .nil))) .nil)) .nil)) .nil)))) .nil)) (L.map tI) [some v, some (ch A), some (.ref h.length), none] (h ++ [.dct (dc [])]) =
      .ok (.nx [some v, some (ch A), some (.ref h.length), d]) (h ++ [.dct (dc (L.foldl (fun D f => put D f (lin (get A) (tld (bnd [(f, 1)])))) []))]) := by
  obtain ⟨e, g, q, rfl, ⟨d, rfl⟩, _⟩ := for_inv (enc := tI) (chk := fun _ => true) (tg := tgSet (.nm 3)) (body := dSs [s0, s_value_on, sb, s3] (.cons (.asg (.sub (.var 2) (.var 3)) (.call 1 (.cons (.var 1) (.cons (.call 2 (.cons (.tup (.cons (.tup (.cons (.var 3) (.cons (.cst (.int 1)) .nil))) .nil)) .nil)) .nil)))) .nil))
    (step := fun D f => put D f (lin (get A) (tld (bnd [(f, 1)])))) (I := fun ts D env g => g = h ++ [.dct (dc D)] ∧ (∃ d, env = [some v, some (ch A), some (.ref h.length), d]) ∧ D.length + ts.length ≤ 1000000 ∧ ∀ f ∈ ts, f.length ≤ 12)
    (fun _ _ _ _ _ => rfl) (by
      rintro t ts a env g ⟨rfl, ⟨d, rfl⟩, h1, h2⟩
      have l1 := h2 t (List.mem_cons_self ..)
      simp only [List.length_cons] at h1
      refine ⟨[some v, some (ch A), some (.ref h.length), some (tI t)], by simp, _, h ++ [.dct (dc (put a t (lin (get A) (tld (bnd [(t, 1)])))))], ?_, rfl, ⟨some (tI t), rfl⟩, ?_, fun q hq => h2 q (List.mem_cons_of_mem _ hq)⟩
      · have e : PV.tup [.tup [tI t, .int 1]] = ch [(t, 1)] := rfl
        simp
        rw [e, hsb t _ l1]
        simp
        rw [value_ev hn (by simp [LIM]; omega) (bnd1_ok l1) (fun p hp => by rw [tld_small (fun q hq => bnd_small l1 hq) p hp]; simp)]
        simp
        rw [put_dcl (by simp [LIM]; omega)]
        rfl
      · have := put_length a t (lin (get A) (tld (bnd [(t, 1)])))
        show (put a t (lin (get A) (tld (bnd [(t, 1)])))).length + ts.length ≤ _
        omega) L [] [some v, some (ch A), some (.ref h.length), none] (h ++ [.dct (dc [])]) ⟨rfl, ⟨_, rfl⟩, by simpa using hL, hf⟩
  exact ⟨d, q⟩
theorem cobT_length (L : List Fc) (A : Tb) : (cobT L A).length = L.length := by simp [cobT]
theorem b1_ev (f : Fc) (g : PHeap) (hl : f.length ≤ 12) : s_boundary [ch [(f, 1)]] g = .ok (ch (tld (bnd [(f, 1)]))) g := boundary_ev (by simp) (by simpa using hl)
theorem b2_ev (f : Fc) (g : PHeap) (hl : f.length ≤ 12) : s__law_boundary [ch [(f, 1)]] g = .ok (ch (tld (bnd [(f, 1)]))) g := law_boundary_ev (by simp) (by simpa using hl)
theorem fold_cobT {L : List Fc} (h : L.Nodup) (A : Tb) : L.foldl (fun D f => put D f (lin (get A) (tld (bnd [(f, 1)])))) [] = cobT L A := by
  rw [put_fold (fun f => lin (get A) (tld (bnd [(f, 1)]))) L [] h (by simp)]
  rfl
theorem coboundary_ev {s : List Fc} (hs : Sm s) {A : Tb} (hn : nod A) (hl : A.length ≤ 1000000) : s_coboundary [.tup (s.map tI), ch A] h = .ok (ch (cob s A)) h := by
  cases A with
  | nil =>
    unfold ch
    simp [s_coboundary, runFn, if_coboundary]
    exact finish_same rfl
  | cons a A =>
    have L := lvl_length hs a.1.length
    obtain ⟨d, q⟩ := cob_loop (h := h) (s0 := s_faces_of) (sb := s_boundary) (s3 := s_told) b1_ev (v := .tup (s.map tI)) hn hl (L := lvl s a.1.length) (by omega) (fun f hf => allF_len hs (mem_lvl.mp hf).1)
    rw [fold_cobT (nodup_lvl _ _)] at q
    have e : ch (a :: A) = .tup (cp a :: A.map cp) := rfl
    rw [e] at q ⊢
    simp [s_coboundary, runFn, if_coboundary, pairUp, putAll, faces_of_ev hs]
    rw [show ([] : List (PV × PV)) = dc [] from rfl, q]
    simp
    rw [told_live (by rw [cobT_length]; simp [LIM]; omega)]
    simp
    exact finish_ext (below_ch _ _)
theorem tld_nil : tld [] = [] := by simp [tld]
theorem law_coboundary_ev {s : List Fc} (hs : Sm s) {A : Tb} (hn : nod A) (hl : A.length ≤ 1000000) : s__law_coboundary [.tup (s.map tI), ch A] h = .ok (ch (cob s A)) h := by
  cases A with
  | nil =>
    unfold ch
    simp [s__law_coboundary, runFn, if__law_coboundary, pairUp, putAll]
    rw [show ([] : List (PV × PV)) = dc [] from rfl, chain_live nod_nil (by simp)]
    simp
    rw [tld_nil]
    exact finish_ext (below_ch _ [])
  | cons a A =>
    have L := lvl_length hs a.1.length
    obtain ⟨d, q⟩ := cob_loop (h := h) (s0 := s__law_level) (sb := s__law_boundary) (s3 := s__law_chain) b2_ev (v := .tup (s.map tI)) hn hl (L := lvl s a.1.length) (by omega) (fun f hf => allF_len hs (mem_lvl.mp hf).1)
    rw [fold_cobT (nodup_lvl _ _)] at q
    have e : ch (a :: A) = .tup (cp a :: A.map cp) := rfl
    rw [e] at q ⊢
    simp [s__law_coboundary, runFn, if__law_coboundary, pairUp, putAll, level_ev hs, value_same]
    rw [show ([] : List (PV × PV)) = dc [] from rfl, q]
    simp
    rw [chain_live (nod_cobT (nodup_lvl _ _) _) (by rw [cobT_length]; simp [LIM]; omega)]
    simp
    exact finish_ext (below_ch _ _)
/-! sums *)-/
theorem add_loop {ctx : List Sem} {i j k : Nat} (hij : i ≠ j) (hik : i ≠ k) (hjk : j ≠ k) {env : HW.Env} (hi : env[i]? = some (some (.ref h.length))) (hj : j < env.length) (hk : k < env.length) {D B : Tb} (hl : D.length + B.length ≤ 1000000) :
    ∃ x y, forGo (fun _ => true) (tgSet (.tp [.nm j, .nm k])) (dSs ctx (.cons (.asg (.sub (.var i) (.var j)) (.bin .add (.meth .dget (.var i) (.cons (.var j) (.cons (.cst (.int 0)) .nil))) (.var k))) .nil)) (B.map cp) env (h ++ [.dct (dc D)]) =
      .ok (.nx ((env.set j x).set k y)) (h ++ [.dct (dc (updA D B))]) := by
  obtain ⟨e, g, q, rfl, ⟨x, y, rfl⟩, _⟩ := for_inv (enc := cp) (chk := fun _ => true) (tg := tgSet (.tp [.nm j, .nm k])) (body := dSs ctx (.cons (.asg (.sub (.var i) (.var j)) (.bin .add (.meth .dget (.var i) (.cons (.var j) (.cons (.cst (.int 0)) .nil))) (.var k))) .nil))
    (step := upd) (I := fun ts D env1 g => g = h ++ [.dct (dc D)] ∧ (∃ x y, env1 = (env.set j x).set k y) ∧ D.length + ts.length ≤ 1000000)
    (fun _ _ _ _ _ => rfl) (by
      rintro t ts a env1 g ⟨rfl, ⟨x, y, rfl⟩, h1⟩
      simp only [List.length_cons] at h1
      refine ⟨(env.set j (some (tI t.1))).set k (some (.int t.2)), ?_, _, h ++ [.dct (dc (upd a t))], ?_, rfl, ⟨some (tI t.1), some (.int t.2), rfl⟩, ?_⟩
      · simp [hj, hk]
        rw [List.set_comm _ _ (Ne.symm hjk)]
        simp
      · have g1 : ((env.set j (some (tI t.1))).set k (some (.int t.2)))[i]? = some (some (.ref h.length)) := by
          rw [List.getElem?_set_ne (Ne.symm hik), List.getElem?_set_ne (Ne.symm hij), hi]
        have g2 : ((env.set j (some (tI t.1))).set k (some (.int t.2)))[j]? = some (some (tI t.1)) := by
          rw [List.getElem?_set_ne (Ne.symm hjk), List.getElem?_set_self hj]
        have g3 : ((env.set j (some (tI t.1))).set k (some (.int t.2)))[k]? = some (some (.int t.2)) := by
          rw [List.getElem?_set_self (by simpa using hk)]
        simp only [x_scons, x_asg, x_bin, x_meth, x_var, x_cons, x_nil, x_cst, x_tsub, g1, g2, g3, R.bind_ok, x_rcl, if_true, x_dgl, x_add, R.of_some, x_snil]
        rw [put_dcl (by simp [LIM]; omega)]
        rfl
      · have := put_length a t.1 (get a t.1 + t.2)
        show (put a t.1 (get a t.1 + t.2)).length + ts.length ≤ _
        omega) B D env (h ++ [.dct (dc D)]) ⟨rfl, ⟨env[j], env[k], by simp⟩, hl⟩
  exact ⟨x, y, q⟩
theorem added_ev {A B : Tb} (hn : nod A) (hl : A.length + B.length ≤ 1000000) : s_added [ch A, ch B] h = .ok (ch (tld (updA A B))) h := by
  unfold ch
  obtain ⟨x, y, q⟩ := add_loop (h := h) (ctx := [s_told]) (i := 2) (j := 3) (k := 4) (by decide) (by decide) (by decide) (env := [some (.tup (A.map cp)), some (.tup (B.map cp)), some (.ref h.length), none, none]) rfl (by simp) (by simp) hl
  simp [s_added, runFn, if_added, lockV, dict_t hn (show A.length ≤ LIM by simp [LIM]; omega)]
  rw [q]
  have := updA_length B A
  simp
  rw [told_live (by simp [LIM]; omega)]
  simp
  exact finish_ext (below_ch _ _)
/-! so many times *)-/
def mulT (k : Int) (A : Tb) : Tb := A.map fun p => (p.1, k * p.2)
theorem nod_mulT {A : Tb} (h : nod A) (k : Int) : nod (mulT k A) := by
  unfold nod mulT
  rw [List.map_map]
  exact h
theorem dcomp_dc {ctx : List Sem} {chk : Chk} {tg : PV → HW.Env → Option HW.Env} {kx vx : HW.Env → PHeap → R PV} {env : HW.Env} (φ : Fc × Int → Int) (hc : chk h = true) :
    ∀ (A acc : Tb), (∀ p ∈ A, ∃ e1, tg (cp p) env = some e1 ∧ kx e1 h = .ok (tI p.1) h ∧ vx e1 h = .ok (.int (φ p)) h) → nod (acc ++ A) → acc.length + A.length ≤ LIM →
      dcompGo chk tg (dIfs ctx .nil) kx vx env (A.map cp) h (dc acc) = .ok (dc (acc ++ A.map fun p => (p.1, φ p))) h
  | [], acc, _, _, _ => by simp [dcompGo, hc]
  | p :: A, acc, hx, hn, hl => by
    obtain ⟨e1, q1, q2, q3⟩ := hx p (List.mem_cons_self ..)
    simp only [List.length_cons] at hl
    have hn' : nod ((acc ++ [(p.1, φ p)]) ++ A) := by
      unfold nod at hn ⊢
      simpa using hn
    have no : ∀ q ∈ acc, q.1 ≠ p.1 := fun q hq x => by
      unfold nod at hn
      rw [List.map_append, List.nodup_append] at hn
      exact hn.2.2 q.1 (List.mem_map.mpr ⟨q, hq, rfl⟩) p.1 (by simp) x
    have ih := dcomp_dc (ctx := ctx) φ hc A (acc ++ [(p.1, φ p)]) (fun q hq => hx q (List.mem_cons_of_mem _ hq)) hn' (by simp; omega)
    have l : (dc acc).length < LIM := by
      simp [dc]
      omega
    have e : dPut (dc acc) (tI p.1) (.int (φ p)) = dc (acc ++ [(p.1, φ p)]) := by
      rw [dc_put, put_new (p := (p.1, φ p)) no]
    simp [dcompGo, hc, q1, q2, q3, keyOk_tI (dc_keys acc), l, e, ih]
theorem multiple_ev {A : Tb} {k : Int} (hk : small k = true) (hn : nod A) (hl : A.length ≤ LIM) : s_multiple [ch A, .int k] h = .ok (ch (tld (mulT k A))) h := by
  unfold ch
  simp [s_multiple, runFn, if_multiple, lockV]
  rw [show ([] : List (PV × PV)) = dc [] from rfl, dcomp_dc (fun p => k * p.2) rfl A [] (fun p hp => ⟨_, by simp; rfl, by simp, by
    simp
    rw [ev_mul (by simp [hk])]
    rfl⟩) (by simpa using hn) (by simpa using hl)]
  simp
  rw [show A.map (fun p => (p.1, k * p.2)) = mulT k A from rfl, told_ev (by simpa [mulT] using hl)]
  simp
  exact finish_same (below_ch _ _)
/-! alike *)-/
def tt : Nat → PV → Bool
  | _, .int _ => true
  | n + 1, .tup xs => xs.all (tt n)
  | _, _ => false
theorem tt_tame : ∀ (n : Nat) (v : PV), tt n v = true → tame n v = true := by
  intro n
  induction n with
  | zero => intro v h; cases v <;> simp [tt] at h <;> rfl
  | succ n ih =>
    intro v h
    cases v with
    | tup xs =>
      rw [tame]
      rw [tt, List.all_eq_true] at h
      exact tames_iff.mpr fun x hx => ih x (h x hx)
    | int i => rfl
    | _ => simp [tt] at h
def short : Nat → PV → Bool
  | n + 1, .tup xs => decide (xs.length ≤ LIM) && xs.all (short n)
  | _, _ => true
theorem alike_ev : ∀ (n : Nat) (v : PV), tt n v = true → short n v = true → r__law_alike (n + 1) [v, v] h = .ok (.bl true) h := by
  intro n
  induction n with
  | zero =>
    intro v hv _
    cases v <;> simp [tt] at hv
    rename_i i
    simp [r__law_alike, runFn, if__law_alike, eq_bool, eq_int]
    exact finish_same rfl
  | succ n ih =>
    intro v hv hs
    cases v with
    | int i =>
      simp [r__law_alike, runFn, if__law_alike, eq_bool, eq_int]
      exact finish_same rfl
    | tup xs =>
      rw [tt, List.all_eq_true] at hv
      rw [short, Bool.and_eq_true, List.all_eq_true, decide_eq_true_eq] at hs
      have l : xs.length ≤ 16777216 := hs.1
      have hx := fun x hx => ih x (hv x hx) (hs.2 x hx)
      rw [r__law_alike]
      simp -implicitDefEqProofs [runFn, if__law_alike, eq_int, rngV_nat l]
      rw [comp_map (fun k : Nat => .bl true) rfl _ (fun k hk => by
        have hk := List.mem_range.mp hk
        have e : itemOf h (.tup xs) (.int (k : Int)) = some xs[k] := L2.atI_nat (by simp [hk])
        exact ⟨_, by simp; rfl, by
          simp [e]
          exact hx xs[k] (List.getElem_mem hk)⟩) (by simpa using hs.1)]
      simp -implicitDefEqProofs
      rw [show (List.range xs.length).map (fun _ => PV.bl true) = (List.range xs.length).map (fun x => PV.bl ((fun _ => true) x)) from rfl, all_enc]
      simp -implicitDefEqProofs
      rw [show ((List.range xs.length).all fun x => true) = true from List.all_eq_true.mpr fun _ _ => rfl]
      exact finish_same (v := .bl true) rfl
    | _ => simp [tt] at hv
theorem tt_ch (T : Tb) : tt 5 (ch T) = true := by
  simp [ch, tt, cp, tI, List.all_eq_true]
theorem short_ch {T : Tb} (hl : T.length ≤ LIM) (hf : ∀ p ∈ T, p.1.length ≤ LIM) : short 5 (ch T) = true := by
  simp [ch, short, cp, tI, List.all_eq_true, hl]
  intro a b hp
  exact ⟨by decide, hf _ hp⟩
theorem alike_ch {T : Tb} (hl : T.length ≤ LIM) (hf : ∀ p ∈ T, p.1.length ≤ LIM) : s__law_alike [ch T, ch T] h = .ok (.bl true) h :=
  alike_ev 5 _ (tt_ch T) (short_ch hl hf)
theorem alike_fs {ks : List Fc} (hl : ks.length ≤ LIM) (hf : ∀ f ∈ ks, f.length ≤ LIM) : s__law_alike [.tup (ks.map tI), .tup (ks.map tI)] h = .ok (.bl true) h :=
  alike_ev 5 _ (by simp [tt, tI, List.all_eq_true]) (by
    simp [short, tI, List.all_eq_true, hl]
    exact hf)
end
end K10
namespace K10
open PySem HW
theorem lin_tld (φ : Fc → Int) (T : Tb) : lin φ (tld T) = lin φ T := (lin_perm φ (tld_perm T)).trans (lin_nz φ T)
theorem tld_zero {T : Tb} (h : ∀ p ∈ T, p.2 = 0) : tld T = [] := by
  have : T.filter nz = [] := List.filter_eq_nil_iff.mpr fun p hp => by simp [nz, h p hp]
  unfold tld
  rw [this]
  simp
theorem bb (T : Tb) : tld (bnd (tld (bnd T))) = [] := tld_zero fun p hp => by
  rw [← get_mem (nod_bnd _) hp, get_lin _ (nod_bnd _), lin_bnd, lin_tld, lin_bnd]
  exact lin_zero fun q _ => del_del _ _
theorem lin_b1 (φ : Fc → Int) (f : Fc) : lin φ (tld (bnd [(f, 1)])) = del φ f := by
  rw [lin_tld, lin_bnd]
  simp [lin]
theorem get_cob {L : List Fc} (hL : L.Nodup) {A : Tb} {f : Fc} (hf : f ∈ L) : get (tld (cobT L A)) f = del (get A) f := by
  have n1 := nod_cobT hL A
  rw [get_lin _ (nod_tld n1), lin_tld, ← get_lin _ n1]
  have m : (f, lin (get A) (tld (bnd [(f, 1)]))) ∈ cobT L A := List.mem_map.mpr ⟨f, hf, rfl⟩
  have := get_mem n1 m
  rw [this]
  exact lin_b1 _ _
theorem get_nil : get [] = fun _ => 0 := by
  funext g
  rfl
theorem cob_cons {s : List Fc} {A : Tb} {l : Nat} (hA : ∀ p ∈ A, p.1.length = l) (hn : A ≠ []) : cob s A = tld (cobT (lvl s l) A) := by
  cases A with
  | nil => exact absurd rfl hn
  | cons a A => rw [cob, hA a (List.mem_cons_self ..)]
theorem adj {s : List Fc} {A B : Tb} {l : Nat} (hA : ∀ p ∈ A, p.1.length = l) (hB : ∀ p ∈ B, p.1 ∈ lvl s l) : lin (get (cob s A)) B = lin (get A) (tld (bnd B)) := by
  by_cases e : A = []
  · subst e
    rw [cob, get_nil, lin_zero (fun _ _ => rfl), lin_zero (fun _ _ => rfl)]
  · rw [cob_cons hA e, lin_tld, lin_bnd]
    exact lin_congr fun p hp => get_cob (nodup_lvl _ _) (hB p hp)
theorem cob_cob {s : List Fc} {A : Tb} {l : Nat} (hA : ∀ p ∈ A, p.1.length = l) : cob s (cob s A) = [] := by
  by_cases e : A = []
  · subst e
    rfl
  · rw [cob_cons hA e]
    have hk : ∀ p ∈ tld (cobT (lvl s l) A), p.1.length = l + 1 := fun p hp => by
      obtain ⟨f, hf, rfl⟩ := List.mem_map.mp (tld_keys hp)
      have := (mem_lvl.mp hf).2
      show f.length = l + 1
      omega
    by_cases e2 : tld (cobT (lvl s l) A) = []
    · rw [e2]
      rfl
    · rw [cob_cons hk e2]
      refine tld_zero fun p hp => ?_
      obtain ⟨f, hf, rfl⟩ := List.mem_map.mp hp
      show lin _ _ = 0
      rw [lin_b1]
      unfold del
      rw [lin_congr (ψ := del (get A)) fun r hr => ?_]
      · exact del_del _ _
      · have h1 := sd_mem hr
        have h2 := mem_lvl.mp hf
        refine get_cob (nodup_lvl _ _) (mem_lvl.mpr ⟨allF_sub h2.1 h1.1 h1.2.2, ?_⟩)
        have := h1.2.1
        omega
/-! what is in order *)-/
theorem incr_iff {α : Type} (r : α → α → Prop) [DecidableRel r] (tr : ∀ a b c, r a b → r b c → r a c) : ∀ l : List α, (l.zip (l.drop 1)).all (fun p => decide (r p.1 p.2)) = true ↔ l.Pairwise r
  | [] => by simp
  | [a] => by simp
  | a :: b :: l => by
    have ih := incr_iff r tr (b :: l)
    simp only [List.drop_succ_cons, List.drop_zero] at ih ⊢
    rw [List.zip_cons_cons, List.all_cons, Bool.and_eq_true, ih, decide_eq_true_eq, List.pairwise_cons (a := a) (l := b :: l)]
    constructor
    · rintro ⟨h1, h2⟩
      refine ⟨fun x hx => ?_, h2⟩
      rcases List.mem_cons.mp hx with e | e
      · exact e ▸ h1
      · exact tr _ _ _ h1 ((List.pairwise_cons.mp h2).1 x e)
    · rintro ⟨h1, h2⟩
      exact ⟨h1 b (List.mem_cons_self ..), h2⟩
def incI (f : Fc) : Bool := (f.zip (f.drop 1)).all fun p => decide (p.1 < p.2)
def incF (ks : List Fc) : Bool := (ks.zip (ks.drop 1)).all fun p => decide (p.1 < p.2)
theorem incI_iff (f : Fc) : incI f = true ↔ f.Pairwise (· < ·) := incr_iff (· < ·) (fun _ _ _ => Int.lt_trans) f
theorem incF_iff (ks : List Fc) : incF ks = true ↔ ks.Pairwise (· < ·) := incr_iff (· < ·) (fun _ _ _ => List.lt_trans) ks
theorem flt_irrefl (a : Fc) : ¬ a < a := List.lt_irrefl a
theorem flt_of {a b : Fc} (h : a ≤ b) (hn : a ≠ b) : a < b := by
  by_cases q : a < b
  · exact q
  · exact absurd (List.le_antisymm h (List.not_lt.mp q)) hn
/-- two rows in order with the same ones are the same *)-/
theorem uniqF {a b : List Fc} (ha : a.Pairwise (· < ·)) (hb : b.Pairwise (· < ·)) (hm : ∀ k, k ∈ a ↔ k ∈ b) : a = b := by
  have ne : ∀ {x y : Fc}, x < y → x ≠ y := fun h e => by
    subst e
    exact flt_irrefl _ h
  have na : a.Nodup := ha.imp ne
  have nb : b.Nodup := hb.imp ne
  refine List.Perm.eq_of_pairwise (le := (· < ·)) (fun x y _ _ h1 h2 => absurd (List.lt_trans h1 h2) (flt_irrefl _)) ha hb ((List.perm_ext_iff_of_nodup na nb).mpr hm)
theorem uniqI {a b : List Int} (ha : a.Pairwise (· < ·)) (hb : b.Pairwise (· < ·)) (hm : ∀ k, k ∈ a ↔ k ∈ b) : a = b := by
  have na : a.Nodup := ha.imp fun h e => by omega
  have nb : b.Nodup := hb.imp fun h e => by omega
  refine List.Perm.eq_of_pairwise (le := (· < ·)) (fun x y _ _ h1 h2 => by omega) ha hb ((List.perm_ext_iff_of_nodup na nb).mpr hm)
theorem sortF_lt {l : List Fc} (hn : l.Nodup) : (sortF l).Pairwise (· < ·) := by
  have h1 : (sortF l).Pairwise (· ≤ ·) := (List.pairwise_mergeSort leR_trans leR_total l).imp fun h => of_decide_eq_true h
  have h2 : (sortF l).Nodup := (sortF_perm l).nodup_iff.mpr hn
  exact (List.Pairwise.and h1 h2).imp fun h => flt_of h.1 h.2
theorem sortI_lt {l : List Int} (hn : l.Nodup) : (l.mergeSort leI).Pairwise (· < ·) := by
  have h1 : (l.mergeSort leI).Pairwise (· ≤ ·) := (List.pairwise_mergeSort leI_trans leI_total l).imp fun h => of_decide_eq_true h
  have h2 : (l.mergeSort leI).Nodup := (List.mergeSort_perm l leI).nodup_iff.mpr hn
  exact (List.Pairwise.and h1 h2).imp fun h => by
    have := h.1
    have := h.2
    omega
/-- sorted(set(..)) *)-/
theorem rows_F (ks : List Fc) : ∃ rows : List Fc, sortV (dedup (ks.map tI)) = rows.map tI ∧ rows.Pairwise (· < ·) ∧ ∀ k, k ∈ rows ↔ k ∈ ks := by
  obtain ⟨ms, h1, h2, h3⟩ := dedup_tups ks
  refine ⟨sortF ms, ?_, sortF_lt h3, fun k => mem_sortF.trans (h2 k)⟩
  rw [h1, sortV_tups]
  rfl
theorem rows_I (ks : List Int) : ∃ rows : List Int, sortV (dedup (ks.map .int)) = rows.map .int ∧ rows.Pairwise (· < ·) ∧ ∀ k, k ∈ rows ↔ k ∈ ks := by
  obtain ⟨ms, h1, h2, h3⟩ := dedup_ints ks
  refine ⟨ms.mergeSort leI, ?_, sortI_lt h3, fun k => List.mem_mergeSort.trans (h2 k)⟩
  rw [h1, sortV_ints]
/-! the greatest ones *)-/
def wit (a b : Fc) : Bool := a.all fun c => decide (c ∈ b)
def top1 (rows : List Fc) (a : Fc) : Bool := !rows.any fun b => decide (a ≠ b) && wit a b
def AGB (ks : List Fc) : Bool := incF ks && ks.all (top1 ks)
theorem AGB_iff {ks rows : List Fc} (hr : rows.Pairwise (· < ·)) (hm : ∀ k, k ∈ rows ↔ k ∈ ks) : AGB ks = decide (ks = rows.filter (top1 rows)) := by
  rw [Bool.eq_iff_iff, decide_eq_true_eq]
  unfold AGB
  rw [Bool.and_eq_true, incF_iff]
  constructor
  · rintro ⟨h1, h2⟩
    have e : ks = rows := uniqF h1 hr fun k => (hm k).symm
    subst e
    rw [List.filter_eq_self.mpr fun a ha => List.all_eq_true.mp h2 a ha]
  · intro e
    have h1 : ks.Pairwise (· < ·) := e ▸ hr.filter _
    refine ⟨h1, List.all_eq_true.mpr fun a ha => ?_⟩
    have e2 : ks = rows := uniqF h1 hr fun k => (hm k).symm
    rw [e] at ha
    have := (List.mem_filter.mp ha).2
    rw [← e2] at this
    exact this
end K10
namespace K10
open PySem HW
def good (m : Nat) : Nat → PV → Bool
  | _, .non => true
  | _, .bl _ => true
  | _, .int _ => true
  | n + 1, .tup xs => decide (xs.length ≤ m) && xs.all (good m n)
  | n + 1, .lst xs => decide (xs.length ≤ m) && xs.all (good m n)
  | _, _ => false
theorem good_tame {m : Nat} : ∀ {n : Nat} {v : PV}, good m n v = true → tame n v = true := by
  intro n
  induction n with
  | zero => intro v h; cases v <;> simp [good] at h <;> rfl
  | succ n ih =>
    intro v h
    cases v with
    | tup xs =>
      simp only [good, Bool.and_eq_true, List.all_eq_true] at h
      rw [tame]
      exact tames_iff.mpr fun x hx => ih (h.2 x hx)
    | lst xs =>
      simp only [good, Bool.and_eq_true, List.all_eq_true] at h
      rw [tame]
      exact tames_iff.mpr fun x hx => ih (h.2 x hx)
    | _ => simp [good] at h <;> rfl
theorem good_plain {m n : Nat} {v : PV} (h : good m n v = true) : plainV v = true := tame_plain (good_tame h)
theorem asInts_eq : ∀ {xs : List PV} {f : List Int}, asInts xs = some f → xs = f.map .int
  | [], f, h => by simp [asInts] at h; subst h; rfl
  | x :: xs, f, h => by
    cases x with
    | int i =>
      rw [asInts, Option.map_eq_some_iff] at h
      obtain ⟨g, h1, rfl⟩ := h
      rw [asInts_eq h1]
      rfl
    | _ => simp [asInts] at h
def natI (f : Fc) : Bool := f.all fun x => decide (0 ≤ x)
theorem natA : ∀ {xs : List PV}, xs.all isNatV = true → ∃ f, asInts xs = some f ∧ natI f = true
  | [], _ => ⟨[], rfl, rfl⟩
  | x :: xs, h => by
    rw [List.all_cons, Bool.and_eq_true] at h
    obtain ⟨f, h1, h2⟩ := natA h.2
    cases x with
    | int i => exact ⟨i :: f, by rw [asInts, h1]; rfl, by
        unfold natI at h2 ⊢
        rw [List.all_cons, h2, Bool.and_true]
        exact h.1⟩
    | _ => exact absurd h.1 (by simp [isNatV])
theorem natB {f : Fc} (h : natI f = true) : (f.map PV.int).all isNatV = true := by
  unfold natI at h
  rw [List.all_map, List.all_eq_true]
  exact fun x hx => List.all_eq_true.mp h x hx
def asFace : PV → Option Fc
  | .tup xs => match asInts xs with
    | some f => if !f.isEmpty && natI f && incI f then some f else none
    | none => none
  | _ => none
structure FaceOk (f : Fc) : Prop where
  n : f ≠ []
  p : ∀ x ∈ f, 0 ≤ x
  i : f.Pairwise (· < ·)
theorem asFace_eq {v : PV} {f : Fc} (h : asFace v = some f) : v = tI f ∧ FaceOk f := by
  cases v with
  | tup xs =>
    unfold asFace at h
    cases q : asInts xs with
    | none => simp [q] at h
    | some g =>
      simp only [q] at h
      split at h
      · rename_i c
        cases h
        rw [Bool.and_eq_true, Bool.and_eq_true] at c
        refine ⟨by rw [asInts_eq q, tI], ⟨?_, ?_, (incI_iff f).mp c.2⟩⟩
        · rintro rfl
          simp at c
        · intro x hx
          exact of_decide_eq_true (List.all_eq_true.mp c.1.2 x hx)
      · cases h
  | _ => simp [asFace] at h
theorem for_all2 {τ : Type} {enc : τ → PV} {chk : Chk} {tg : PV → HW.Env → Option HW.Env} {body : HW.Env → PHeap → R Out} {h : PHeap} {v : PV} (p : τ → Bool) (I : HW.Env → Prop) (hc : chk h = true) :
    ∀ (ts : List τ) (env : HW.Env), (∀ t ∈ ts, ∀ env, I env → ∃ e1, tg (enc t) env = some e1 ∧ (p t = false → body e1 h = .ok (.rt v) h) ∧ (p t = true → ∃ e2, body e1 h = .ok (.nx e2) h ∧ I e2)) →
      I env → (ts.all p = false → forGo chk tg body (ts.map enc) env h = .ok (.rt v) h) ∧ (ts.all p = true → ∃ env', forGo chk tg body (ts.map enc) env h = .ok (.nx env') h ∧ I env')
  | [], env, _, i => ⟨by simp, fun _ => ⟨env, by simp [forGo, hc], i⟩⟩
  | t :: ts, env, hs, i => by
    obtain ⟨e1, q1, q2, q3⟩ := hs t (List.mem_cons_self ..) env i
    cases hp : p t with
    | false => exact ⟨fun _ => by simp [forGo, hc, q1, q2 hp], by simp [hp]⟩
    | true =>
      obtain ⟨e2, q4, i2⟩ := q3 hp
      obtain ⟨r1, r2⟩ := for_all2 p I hc ts e2 (fun t ht => hs t (List.mem_cons_of_mem _ ht)) i2
      refine ⟨fun a => ?_, fun a => ?_⟩
      · simp only [List.all_cons, hp, Bool.true_and] at a
        simp [forGo, hc, q1, q4, r1 a]
      · simp only [List.all_cons, hp, Bool.true_and] at a
        obtain ⟨env', r3, r4⟩ := r2 a
        exact ⟨env', by simp [forGo, hc, q1, q4, r3], r4⟩
theorem zip_ints (f : Fc) : zipOf (f.map .int) ((f.map PV.int).drop 1) = (f.zip (f.drop 1)).map fun p => .tup [.int p.1, .int p.2] := by
  unfold zipOf
  rw [← List.map_drop, List.zipWith_map, ← List.map_uncurry_zip_eq_zipWith]
  rfl
theorem zip_faces (f : List Fc) : zipOf (f.map tI) ((f.map tI).drop 1) = (f.zip (f.drop 1)).map fun p => .tup [tI p.1, tI p.2] := by
  unfold zipOf
  rw [← List.map_drop, List.zipWith_map, ← List.map_uncurry_zip_eq_zipWith]
  rfl
section
variable {h : PHeap}
@[simp] theorem x_zt {xs ys : List PV} : zipSrc h (.tup xs) (.tup ys) = some ((xs, ys), fun _ => true) := rfl
theorem nats_comp {sem : Sem} {env : HW.Env} {i : Nat} {xs : List PV} (hi : i < env.length) (hs : ∀ (v : PV), plainV v = true → sem [v] h = .ok (.bl (isI v)) h) (hx : ∀ x ∈ xs, plainV x = true) (hl : xs.length ≤ LIM) :
    compGo (fun _ => true) (tgSet (.nm i)) (dIfs [sem] .nil) (dE [sem] (.and (.call 0 (.cons (.var i) .nil)) (.cmp .ge (.var i) (.cst (.int 0))))) env xs h [] = .ok (xs.map fun x => .bl (isNatV x)) h := by
  rw [comp_gen (fun _ => true) (fun x => .bl (isNatV x)) rfl xs [] (fun x q => ⟨env.set i (some x), by simp [hi], by simp, fun _ => by
    have q := hx x q
    simp [hi, hs x q]
    cases x <;> simp [plainV] at q <;> simp [isI, isNatV]⟩) (by simpa using hl), List.filter_eq_self.mpr (fun _ _ => rfl)]
  rfl
theorem nats_comp2 {sem s2 : Sem} {env : HW.Env} {i : Nat} {xs : List PV} (hi : i < env.length) (hs : ∀ (v : PV), plainV v = true → sem [v] h = .ok (.bl (isI v)) h) (hx : ∀ x ∈ xs, plainV x = true) (hl : xs.length ≤ LIM) :
    compGo (fun _ => true) (tgSet (.nm i)) (dIfs [sem, s2] .nil) (dE [sem, s2] (.and (.call 0 (.cons (.var i) .nil)) (.cmp .ge (.var i) (.cst (.int 0))))) env xs h [] = .ok (xs.map fun x => .bl (isNatV x)) h := by
  rw [comp_gen (fun _ => true) (fun x => .bl (isNatV x)) rfl xs [] (fun x q => ⟨env.set i (some x), by simp [hi], by simp, fun _ => by
    have q := hx x q
    simp [hi, hs x q]
    cases x <;> simp [plainV] at q <;> simp [isI, isNatV]⟩) (by simpa using hl), List.filter_eq_self.mpr (fun _ _ => rfl)]
  rfl
theorem good_items {m n : Nat} {xs : List PV} (hv : good m (n + 1) (.tup xs) = true) : xs.length ≤ m ∧ ∀ x ∈ xs, good m n x = true := by
  simp only [good, Bool.and_eq_true, List.all_eq_true, decide_eq_true_eq] at hv
  exact hv
theorem is_face_ev {m n : Nat} (hm : m ≤ 60) {v : PV} (hv : good m n v = true) : s_is_face [v] h = .ok (.bl (asFace v).isSome) h := by
  cases v with
  | tup xs =>
    cases n with
    | zero => simp [good] at hv
    | succ n =>
      have hx := good_items hv
      have hl : xs.length ≤ LIM := by simp [LIM]; omega
      cases xs with
      | nil =>
        simp [s_is_face, runFn, if_is_face, eq_int]
        exact finish_same (v := .bl false) rfl
      | cons x xs =>
        have nz : ¬ ((xs.length : Int) + 1 = 0) := by omega
        simp [s_is_face, runFn, if_is_face, eq_int, lockV, nz]
        rw [nats_comp (by simp) (fun v => is_integer_ev) (fun y hy => good_plain (hx.2 y hy)) hl]
        simp
        rw [show PV.bl (isNatV x) :: List.map (fun x => PV.bl (isNatV x)) xs = (x :: xs).map fun x => .bl (isNatV x) from rfl, all_enc]
        cases q : (x :: xs).all isNatV with
        | false =>
          have : asFace (.tup (x :: xs)) = none := by
            cases r : asFace (.tup (x :: xs)) with
            | none => rfl
            | some f =>
              obtain ⟨e, ok⟩ := asFace_eq r
              unfold tI at e
              injection e with e
              rw [e, natB (List.all_eq_true.mpr fun y hy => decide_eq_true (ok.p y hy))] at q
              cases q
          simp [this]
          exact finish_same (v := .bl false) rfl
        | true =>
          obtain ⟨f, f1, f2⟩ := natA q
          have e := asInts_eq f1
          have ne : f.isEmpty = false := by
            cases f with
            | nil => cases e
            | cons a f => rfl
          have af : (asFace (.tup (x :: xs))).isSome = incI f := by
            unfold asFace
            simp only [f1, f2, ne]
            cases incI f <;> rfl
          rw [af]
          have e2 : zipOf (x :: xs) xs = (f.zip (f.drop 1)).map fun p => .tup [.int p.1, .int p.2] := by
            rw [← zip_ints, ← e]
            rfl
          have fl : f.length ≤ LIM := by
            have := congrArg List.length e
            simp at this
            simp at hl
            omega
          simp [lockV, e2]
          rw [comp_map (fun p : Int × Int => .bl (decide (p.1 < p.2))) rfl _ (fun p hp => ⟨_, by simp; rfl, by simp⟩) (by simp; omega)]
          simp
          rw [all_enc, ← List.drop_one]
          exact finish_same (v := .bl _) rfl
  | _ =>
    cases n <;> simp [good] at hv <;> simp [s_is_face, runFn, if_is_face] <;> exact finish_same (v := .bl false) rfl
theorem within_ev {a b : Fc} (hl : a.length ≤ LIM) : s_is_within [tI a, tI b] h = .ok (.bl (wit a b)) h := by
  rw [show tI a = .tup (a.map .int) from rfl]
  simp [s_is_within, runFn, if_is_within, lockV]
  rw [comp_map (fun c : Int => .bl (decide (c ∈ b))) rfl _ (fun p hp => ⟨_, by simp; rfl, by simp [in_tI]⟩) hl]
  simp
  rw [all_enc]
  exact finish_same (v := .bl _) rfl
theorem inside_same : s__law_inside = s_is_within := rfl
theorem top_comp {s0 : List Sem} {n : Nat} {env : HW.Env} {i j : Nat} {rows : List Fc} {a : Fc} (hsem : s0.getD n (fun _ _ => .bad) = s_is_within) (hij : j ≠ i) (hi : env[i]? = some (some (tI a))) (hj : j < env.length) (hl : rows.length ≤ LIM) (ha : a.length ≤ LIM) :
    compGo (fun _ => true) (tgSet (.nm j)) (dIfs s0 .nil) (dE s0 (.and (.cmp .ne (.var i) (.var j)) (.call n (.cons (.var i) (.cons (.var j) .nil))))) env (rows.map tI) h [] = .ok (rows.map fun b => .bl (decide (a ≠ b) && wit a b)) h := by
  have g1 : ∀ x, (env.set j x)[i]? = some (some (tI a)) := fun x => by rw [List.getElem?_set_ne hij, hi]
  have g2 : ∀ x, (env.set j x)[j]? = some x := fun x => by rw [List.getElem?_set_self hj]
  rw [comp_map (fun b => .bl (decide (a ≠ b) && wit a b)) rfl _ (fun b hb => ⟨_, by simp [hj]; rfl, by
    simp only [x_and, x_cmp, x_var, g1, g2, R.bind_ok, x_ne, eq_tI, Option.map_some, R.of_some, x_trb, x_call, x_cons, x_nil, hsem, within_ev ha]
    by_cases q : a = b <;> simp [q]⟩) hl]
theorem all_asFace : ∀ {xs : List PV}, (xs.all fun x => (asFace x).isSome) = true → ∃ ks, xs.mapM asFace = some ks ∧ xs = ks.map tI ∧ ∀ f ∈ ks, FaceOk f
  | [], _ => ⟨[], rfl, rfl, by simp⟩
  | x :: xs, h => by
    rw [List.all_cons, Bool.and_eq_true] at h
    obtain ⟨ks, h1, h2, h3⟩ := all_asFace h.2
    obtain ⟨f, hf⟩ := Option.isSome_iff_exists.mp h.1
    obtain ⟨e, ok⟩ := asFace_eq hf
    refine ⟨f :: ks, by rw [List.mapM_cons, hf, h1]; rfl, by rw [List.map_cons, ← e, ← h2], ?_⟩
    intro g hg
    rcases List.mem_cons.mp hg with q | q
    · exact q ▸ ok
    · exact h3 g q
theorem no_asFace : ∀ {xs : List PV}, (xs.all fun x => (asFace x).isSome) = false → xs.mapM asFace = none
  | [], h => by simp at h
  | x :: xs, h => by
    rw [List.mapM_cons]
    cases q : asFace x with
    | none => rfl
    | some f =>
      rw [List.all_cons, q] at h
      rw [no_asFace (by simpa using h)]
      rfl
def facesO : PV → Option (List Fc)
  | .tup xs => xs.mapM asFace
  | _ => none
def agV (v : PV) : Bool := match facesO v with
  | some ks => AGB ks
  | none => false
theorem agV_tup (xs : List PV) : agV (.tup xs) = match xs.mapM asFace with
  | some ks => AGB ks
  | none => false := rfl
theorem are_greatest_ev {m n : Nat} (hm : m ≤ 60) {v : PV} (hv : good m n v = true) : s_are_greatest [v] h = .ok (.bl (agV v)) h := by
  cases v with
  | tup xs =>
    cases n with
    | zero => simp [good] at hv
    | succ n =>
      have hx := good_items hv
      have hl : xs.length ≤ LIM := by simp [LIM]; omega
      simp [s_are_greatest, runFn, if_are_greatest, lockV]
      rw [show xs = xs.map id from by simp, comp_map (enc := id) (fun x => .bl (asFace x).isSome) rfl _ (fun x hx' => ⟨_, by simp; rfl, by simp [is_face_ev hm (hx.2 x hx')]⟩) hl, ← show xs = xs.map id from by simp]
      simp
      rw [all_enc]
      cases q : xs.all fun x => (asFace x).isSome with
      | false =>
        have : agV (.tup xs) = false := by
          rw [agV_tup, no_asFace q]
        rw [this]
        simp
        exact finish_same (v := .bl false) rfl
      | true =>
        obtain ⟨ks, h1, h2, h3⟩ := all_asFace q
        have : agV (.tup xs) = AGB ks := by
          rw [agV_tup, h1]
        rw [this, h2]
        rw [h2] at hx
        have kl : ks.length ≤ LIM := by rw [h2] at hl; simpa using hl
        have fl : ∀ f ∈ ks, f.length ≤ LIM := fun f hf => by
          have := hx.2 (tI f) (List.mem_map.mpr ⟨f, hf, rfl⟩)
          cases n with
          | zero => simp [tI, good] at this
          | succ n =>
            have := (good_items this).1
            simp [LIM] at this ⊢
            omega
        simp [lockV]
        rw [show (List.map tI ks).tail = (ks.map tI).drop 1 from by simp, zip_faces]
        rw [comp_map (fun p : Fc × Fc => .bl (decide (p.1 < p.2))) rfl _ (fun p hp => ⟨_, by simp; rfl, by simp [lt_tI]⟩) (by simp; omega)]
        simp
        rw [all_enc, ← List.drop_one, show ((ks.zip (ks.drop 1)).all fun p => decide (p.1 < p.2)) = incF ks from rfl]
        cases qi : incF ks with
        | false =>
          simp [AGB, qi]
          exact finish_same (v := .bl false) rfl
        | true =>
          have body : ∀ t ∈ ks, ∀ b, compGo (fun _ => true) (tgSet (.nm 2)) (dIfs [s_is_face, s_is_within] .nil) (dE [s_is_face, s_is_within] (.and (.cmp .ne (.var 1) (.var 2)) (.call 1 (.cons (.var 1) (.cons (.var 2) .nil))))) [some (.tup (ks.map tI)), some (tI t), b] (ks.map tI) h [] = .ok (ks.map fun b => .bl (decide (t ≠ b) && wit t b)) h := fun t ht b =>
            top_comp (a := t) (i := 1) (j := 2) (n := 1) rfl (by decide) rfl (by simp) kl (fl t ht)
          have L := for_all2 (enc := tI) (chk := fun _ => true) (tg := tgSet (.nm 1)) (h := h) (v := .bl false) (body := dSs [s_is_face, s_is_within] (.cons (.ifs (.conv .any false (.comp false [2] (.nm 2) (.ex (.var 0)) .nil (.and (.cmp .ne (.var 1) (.var 2)) (.call 1 (.cons (.var 1) (.cons (.var 2) .nil)))))) (.cons (.ret (.cst (.bl false))) .nil) .nil) .nil))
            (top1 ks) (fun env => ∃ a b, env = [some (.tup (ks.map tI)), a, b]) rfl ks [some (.tup (ks.map tI)), none, none] (by
              rintro t ht env ⟨a, b, rfl⟩
              refine ⟨[some (.tup (ks.map tI)), some (tI t), b], by simp, ?_, ?_⟩
              · intro hp
                simp [lockV]
                rw [body t ht]
                simp only [R.bind_ok, x_mkf]
                rw [any_enc]
                unfold top1 at hp
                simp only [Bool.not_eq_false'] at hp
                rw [hp]
                simp
              · intro hp
                refine ⟨[some (.tup (ks.map tI)), some (tI t), b], ?_, _, _, rfl⟩
                simp [lockV]
                rw [body t ht]
                simp only [R.bind_ok, x_mkf]
                rw [any_enc]
                unfold top1 at hp
                simp only [Bool.not_eq_true'] at hp
                rw [hp]
                simp) ⟨_, _, rfl⟩
          cases qt : ks.all (top1 ks) with
          | false =>
            simp [lockV, L.1 qt, AGB, qt]
            exact finish_same (v := .bl false) rfl
          | true =>
            obtain ⟨env', e1, a, b, rfl⟩ := L.2 qt
            simp [lockV, e1, AGB, qt, qi]
            exact finish_same (v := .bl true) rfl
  | _ =>
    cases n <;> simp [good] at hv <;> simp [s_are_greatest, runFn, if_are_greatest, agV, facesO] <;> exact finish_same (v := .bl false) rfl
end
end K10
namespace K10
open PySem HW
theorem plainSet_tI (ks : List Fc) : plainSet (ks.map tI) = true := by
  unfold plainSet
  rw [Bool.or_eq_true]
  right
  rw [List.all_map, List.all_eq_true]
  intro k _
  show (asInts (k.map .int)).isSome = true
  rw [asInts_map]
  rfl
theorem plainSet_ints (ks : List Int) : plainSet (ks.map .int) = true := by
  unfold plainSet
  rw [Bool.or_eq_true]
  left
  rw [List.all_map, List.all_eq_true]
  intro k _
  rfl
theorem sortOk_ints (ks : List Int) : sortOk (ks.map .int) = true := by
  unfold sortOk
  rw [toD_ints]
  simp only [Bool.and_eq_true, Bool.or_eq_true]
  refine ⟨⟨?_, ?_⟩, .inr ?_⟩
  · simp [List.all_eq_true, PySem.W.alike]
  · simp [List.all_eq_true, PyData.depth]
  · simp [List.all_map, List.all_eq_true]
theorem asFace_no {ys : List PV} (q : ys.all isNatV = false) : asFace (.tup ys) = none := by
  cases r : asFace (.tup ys) with
  | none => rfl
  | some f =>
    obtain ⟨e, ok⟩ := asFace_eq r
    unfold tI at e
    injection e with e
    rw [e, natB (List.all_eq_true.mpr fun y hy => decide_eq_true (ok.p y hy))] at q
    cases q
theorem asFace_yes {ys : List PV} (q : ys.all isNatV = true) : ∃ f : Fc, ys = f.map .int ∧ (asFace (.tup ys)).isSome = (!f.isEmpty && incI f) := by
  obtain ⟨f, f1, f2⟩ := natA q
  refine ⟨f, asInts_eq f1, ?_⟩
  unfold asFace
  simp only [f1, f2]
  cases f.isEmpty <;> cases incI f <;> rfl
section
variable {h : PHeap}
theorem law_greatest_ev {v : PV} {ks : List Fc} (hv : asSeq h v = some (ks.map tI)) (hl : ks.length < 64) (hne : ∀ k ∈ ks, k ≠ []) (hf : ∀ k ∈ ks, k.length ≤ LIM) :
    ∃ rows : List Fc, rows.Pairwise (· < ·) ∧ (∀ k, k ∈ rows ↔ k ∈ ks) ∧ rows.length ≤ ks.length ∧ s__law_greatest [v] h = .ok (.tup ((rows.filter (top1 rows)).map tI)) h := by
  obtain ⟨rows, h1, h2, h3⟩ := rows_F ks
  have rl0 : rows.length ≤ ks.length := by
    have nd : rows.Nodup := h2.imp fun {x y} q e => by
      subst e
      exact flt_irrefl _ q
    obtain ⟨ms, m1, m2, m3⟩ := dedup_tups ks
    have e : (sortV (dedup (ks.map tI))).length = rows.length := by rw [h1, List.length_map]
    have e2 : (sortV (dedup (ks.map tI))).length = (dedup (ks.map tI)).length := List.length_mergeSort _
    have e3 : ∀ xs : List PV, (dedup xs).length ≤ xs.length := by
      intro xs
      induction xs with
      | nil => simp [dedup]
      | cons x xs ih =>
        rw [dedup, List.length_cons, List.length_cons]
        have := List.length_filter_le (fun y => !decide (y = x)) (dedup xs)
        omega
    have e4 := e3 (ks.map tI)
    rw [List.length_map] at e4
    omega
  refine ⟨rows, h2, h3, rl0, ?_⟩
  have rl : rows.length ≤ LIM := by
    simp [LIM]
    omega
  have cs : convop .sortedSet false v h = .ok (.lst (rows.map tI)) h := by
    simp only [convop, hv, R.of_some, R.bind_ok]
    rw [plainSet_tI, sortOk_tI hne]
    simp [hl, h1]
  simp [s__law_greatest, runFn, if__law_greatest, cs, lockV]
  rw [comp_enc (top1 rows) tI rfl _ _ (fun a ha => ⟨[some v, some (.lst (rows.map tI)), some (tI a), none], by simp, by
    have al : a.length ≤ LIM := hf a ((h3 a).mp ha)
    simp [lockV]
    rw [top_comp (a := a) (i := 2) (j := 3) (n := 0) rfl (by decide) rfl (by simp) rl al]
    simp only [R.bind_ok, x_mkf]
    rw [any_enc]
    simp
    unfold top1
    simp, fun _ => by simp⟩) (by simpa using rl)]
  have e2 : ∀ {x : List PV}, asSeq h (.lst x) = some x := rfl
  simp [convop, e2]
  exact finish_same (below_tup_tI _ _)
theorem law_ag_body {m n : Nat} (hm : m ≤ 60) {t w : PV} {a b : Option PV} (ht : good m n t = true) :
    ((asFace t).isSome = false → dSs [s__law_is_int, s__law_greatest] (.cons (.ifs (.or (.not (.blt (.isi "tuple") (.cons (.var 1) .nil))) (.or (.not (.var 1)) (.not (.conv .all false (.comp false [2] (.nm 2) (.ex (.var 1)) .nil (.and (.call 0 (.cons (.var 2) .nil)) (.cmp .ge (.var 2) (.cst (.int 0))))))))) (.cons (.ret (.cst (.bl false))) .nil) .nil) (.cons (.ifs (.cmp .ne (.conv .list false (.var 1)) (.conv .sortedSet false (.var 1))) (.cons (.ret (.cst (.bl false))) .nil) .nil) .nil)) [some w, some t, b] h = .ok (.rt (.bl false)) h) ∧
    ((asFace t).isSome = true → dSs [s__law_is_int, s__law_greatest] (.cons (.ifs (.or (.not (.blt (.isi "tuple") (.cons (.var 1) .nil))) (.or (.not (.var 1)) (.not (.conv .all false (.comp false [2] (.nm 2) (.ex (.var 1)) .nil (.and (.call 0 (.cons (.var 2) .nil)) (.cmp .ge (.var 2) (.cst (.int 0))))))))) (.cons (.ret (.cst (.bl false))) .nil) .nil) (.cons (.ifs (.cmp .ne (.conv .list false (.var 1)) (.conv .sortedSet false (.var 1))) (.cons (.ret (.cst (.bl false))) .nil) .nil) .nil)) [some w, some t, b] h = .ok (.nx [some w, some t, b]) h) := by
  cases t with
  | tup xs =>
    cases n with
    | zero => simp [good] at ht
    | succ n =>
      have hx := good_items ht
      have hl : xs.length ≤ LIM := by simp [LIM]; omega
      cases q : xs.all isNatV with
      | false =>
        rw [asFace_no q]
        refine ⟨fun _ => ?_, fun x => by cases x⟩
        have ne : xs.isEmpty = false := by
          cases xs with
          | nil => cases q
          | cons x xs => rfl
        simp [lockV, ne]
        rw [nats_comp2 (by simp) (fun v => law_is_int_ev) (fun y hy => good_plain (hx.2 y hy)) hl]
        simp only [R.bind_ok, x_mkf]
        rw [all_enc, q]
        simp
      | true =>
        obtain ⟨f, e, e2⟩ := asFace_yes q
        rw [e2]
        cases fe : f.isEmpty with
        | true =>
          have : xs = [] := by
            rw [List.isEmpty_iff.mp fe] at e
            exact e
          subst this
          simp
        | false =>
          have ne : xs.isEmpty = false := by
            rw [e]
            cases f <;> simp at fe ⊢
          obtain ⟨rows, r1, r2, r3⟩ := rows_I f
          have c1 : convop .list false (.tup xs) h = .ok (.lst (f.map .int)) h := by
            rw [e]
            rfl
          have c2 : convop .sortedSet false (.tup xs) h = .ok (.lst (rows.map .int)) h := by
            have l : (f.map PV.int).length < 64 := by
              rw [← e]
              omega
            show (if plainSet xs && sortOk xs && decide (xs.length < 64) then mkList false (sortV (dedup xs)) h else .bad) = _
            rw [e, plainSet_ints, sortOk_ints]
            simp only [l, decide_true, Bool.and_self, if_true, r1, x_mkf]
          have c3 : incI f = decide (f = rows) := by
            rw [Bool.eq_iff_iff, incI_iff, decide_eq_true_eq]
            exact ⟨fun x => uniqI x r2 fun k => (r3 k).symm, fun x => x ▸ r2⟩
          have A := nats_comp2 (h := h) (env := [some w, some (.tup xs), none]) (s2 := s__law_greatest) (i := 2) (by simp) (fun v => law_is_int_ev) (fun y hy => good_plain (hx.2 y hy)) hl
          simp only [Bool.not_false, Bool.true_and, c3]
          constructor
          · intro x
            simp [lockV, ne]
            rw [A]
            simp only [R.bind_ok, x_mkf]
            rw [all_enc, q]
            simp at x
            simp [c1, c2, eq_ints, x]
          · intro x
            simp [lockV, ne]
            rw [A]
            simp only [R.bind_ok, x_mkf]
            rw [all_enc, q]
            simp at x
            simp [c1, c2, eq_ints, x]
  | _ =>
    cases n <;> simp [good] at ht <;> simp [asFace]
theorem good_fl {m n : Nat} (hm : m ≤ 60) {ks : List Fc} (hx : ∀ x ∈ ks.map tI, good m n x = true) : ∀ f ∈ ks, f.length ≤ 60 := fun f hf => by
  have := hx (tI f) (List.mem_map.mpr ⟨f, hf, rfl⟩)
  cases n with
  | zero => simp [tI, good] at this
  | succ n =>
    have := (good_items this).1
    simp at this ⊢
    omega
theorem law_are_greatest_ev {m n : Nat} (hm : m ≤ 60) {v : PV} (hv : good m n v = true) : s__law_are_greatest [v] h = .ok (.bl (agV v)) h := by
  cases v with
  | tup xs =>
    cases n with
    | zero => simp [good] at hv
    | succ n =>
      have hx := good_items hv
      have hl : xs.length ≤ LIM := by simp [LIM]; omega
      have L := for_all2 (enc := id) (chk := fun _ => true) (tg := tgSet (.nm 1)) (h := h) (v := .bl false) (body := dSs [s__law_is_int, s__law_greatest] (.cons (.ifs (.or (.not (.blt (.isi "tuple") (.cons (.var 1) .nil))) (.or (.not (.var 1)) (.not (.conv .all false (.comp false [2] (.nm 2) (.ex (.var 1)) .nil (.and (.call 0 (.cons (.var 2) .nil)) (.cmp .ge (.var 2) (.cst (.int 0))))))))) (.cons (.ret (.cst (.bl false))) .nil) .nil) (.cons (.ifs (.cmp .ne (.conv .list false (.var 1)) (.conv .sortedSet false (.var 1))) (.cons (.ret (.cst (.bl false))) .nil) .nil) .nil)))
        (fun x => (asFace x).isSome) (fun env => ∃ a b, env = [some (.tup xs), a, b]) rfl xs [some (.tup xs), none, none] (by
          rintro t ht env ⟨a, b, rfl⟩
          have B := law_ag_body (h := h) (w := .tup xs) (a := a) (b := b) hm (hx.2 t ht)
          exact ⟨[some (.tup xs), some t, b], by simp, B.1, fun p => ⟨_, B.2 p, _, _, rfl⟩⟩) ⟨_, _, rfl⟩
      rw [List.map_id] at L
      cases q : xs.all fun x => (asFace x).isSome with
      | false =>
        rw [agV_tup, no_asFace q]
        simp [s__law_are_greatest, runFn, if__law_are_greatest, lockV, L.1 q]
        exact finish_same (v := .bl false) rfl
      | true =>
        obtain ⟨ks, h1, h2, h3⟩ := all_asFace q
        obtain ⟨env', e1, a, b, rfl⟩ := L.2 q
        rw [agV_tup, h1]
        rw [h2] at hx e1 ⊢
        have fl := good_fl hm hx.2
        have kl : ks.length ≤ m := by simpa using hx.1
        obtain ⟨rows, r1, r2, _, r3⟩ := law_greatest_ev (h := h) (v := .tup (ks.map tI)) (ks := ks) rfl (by omega) (fun k hk => (h3 k hk).n) (fun k hk => by have := fl k hk; simp [LIM]; omega)
        simp [s__law_are_greatest, runFn, if__law_are_greatest, lockV, e1, r3, eq_tIs]
        rw [← AGB_iff r1 r2]
        exact finish_same (v := .bl _) rfl
  | _ =>
    cases n <;> simp [good] at hv <;> simp [s__law_are_greatest, runFn, if__law_are_greatest, agV, facesO] <;> exact finish_same (v := .bl false) rfl
end
end K10
namespace K10
open PySem HW
def insZ (S : List Int) (c : Int) : List Int := if S.any (fun g => decide (g = c)) then S else S ++ [c]
theorem mem_insZ {S : List Int} {f g : Int} : g ∈ insZ S f ↔ g ∈ S ∨ g = f := by
  unfold insZ
  split
  · rename_i h
    obtain ⟨x, h1, h2⟩ := List.any_eq_true.mp h
    have := of_decide_eq_true h2
    subst this
    exact ⟨.inl, fun h => h.elim id (fun e => e ▸ h1)⟩
  · simp
theorem nodup_insZ {S : List Int} {f : Int} (h : S.Nodup) : (insZ S f).Nodup := by
  unfold insZ
  split
  · exact h
  · rename_i q
    refine List.nodup_append.mpr ⟨h, by simp, ?_⟩
    rintro a ha b hb rfl
    refine q (List.any_eq_true.mpr ⟨a, ha, ?_⟩)
    simpa using hb
theorem length_insZ {S : List Int} {f : Int} : (insZ S f).length ≤ S.length + 1 := by
  unfold insZ
  split <;> simp
def insAZ (S fs : List Int) : List Int := fs.foldl insZ S
theorem mem_insAZ {g : Int} : ∀ {fs S : List Int}, g ∈ insAZ S fs ↔ g ∈ S ∨ g ∈ fs
  | [], S => by simp [insAZ]
  | f :: fs, S => by
    show g ∈ insAZ (insZ S f) fs ↔ _
    rw [mem_insAZ, mem_insZ, List.mem_cons, or_assoc]
theorem nodup_insAZ : ∀ {fs S : List Int}, S.Nodup → (insAZ S fs).Nodup
  | [], S, h => h
  | f :: fs, S, h => nodup_insAZ (fs := fs) (S := insZ S f) (nodup_insZ h)
theorem length_insAZ : ∀ {fs S : List Int}, (insAZ S fs).length ≤ S.length + fs.length
  | [], S => by simp [insAZ]
  | f :: fs, S => by
    show (insAZ (insZ S f) fs).length ≤ _
    have := length_insAZ (fs := fs) (S := insZ S f)
    have := length_insZ (S := S) (f := f)
    simp only [List.length_cons]
    omega
def crnG (S : List Int) (s : List Fc) : List Int := s.foldl insAZ S
theorem mem_crnG {g : Int} : ∀ {s : List Fc} {S : List Int}, g ∈ crnG S s ↔ g ∈ S ∨ ∃ f ∈ s, g ∈ f
  | [], S => by simp [crnG]
  | f :: s, S => by
    show g ∈ crnG (insAZ S f) s ↔ _
    rw [mem_crnG, mem_insAZ]
    simp [or_assoc]
theorem nodup_crnG : ∀ {s : List Fc} {S : List Int}, S.Nodup → (crnG S s).Nodup
  | [], S, h => h
  | f :: s, S, h => nodup_crnG (s := s) (S := insAZ S f) (nodup_insAZ h)
def cs (ks : List Fc) : List Int := (crnG [] ks).mergeSort leI
theorem cs_lt (ks : List Fc) : (cs ks).Pairwise (· < ·) := sortI_lt (nodup_crnG List.nodup_nil)
theorem mem_cs {ks : List Fc} {c : Int} : c ∈ cs ks ↔ ∃ f ∈ ks, c ∈ f := by
  unfold cs
  rw [List.mem_mergeSort, mem_crnG]
  simp
def di (S : List Int) : List (PV × PV) := S.map fun f => (.int f, .bl true)
theorem di_keys (S : List Int) : ∀ e ∈ di S, ∃ f, e.1 = .int f := fun e he => by
  obtain ⟨f, _, rfl⟩ := List.mem_map.mp he
  exact ⟨f, rfl⟩
theorem di_put (S : List Int) (f : Int) : dPut (di S) (.int f) (.bl true) = di (insZ S f) := by
  have a : (di S).any (fun e => decide (e.1 = .int f)) = S.any (fun g => decide (g = f)) := by
    unfold di
    rw [List.any_map]
    congr 1
    funext g
    simp only [Function.comp, PV.int.injEq]
  unfold dPut insZ
  rw [a]
  split
  · unfold di
    rw [List.map_map]
    refine List.map_congr_left fun g _ => ?_
    simp only [Function.comp]
    split <;> rfl
  · simp [di]
/-- the law's corners *)-/
def lcs (ks : List Fc) : List Int := ((sortF (allF ks)).filter fun f => decide ((f.length : Int) = 1)).map fun f => f.headD 0
theorem lcs_eq (ks : List Fc) : lcs ks = cs ks := by
  refine uniqI ?_ (cs_lt ks) fun c => ?_
  · unfold lcs
    rw [List.pairwise_map]
    refine List.Pairwise.imp_of_mem ?_ ((sortF_lt (nodup_allF ks)).filter _)
    intro a b ha hb hab
    have la := of_decide_eq_true (List.mem_filter.mp ha).2
    have lb := of_decide_eq_true (List.mem_filter.mp hb).2
    obtain ⟨x, rfl⟩ := List.length_eq_one_iff.mp (show a.length = 1 by omega)
    obtain ⟨y, rfl⟩ := List.length_eq_one_iff.mp (show b.length = 1 by omega)
    rw [List.cons_lt_cons_iff] at hab
    rcases hab with q | ⟨_, q⟩
    · exact q
    · exact absurd q (flt_irrefl _)
  · rw [mem_cs]
    unfold lcs
    rw [List.mem_map]
    constructor
    · rintro ⟨f, hf, rfl⟩
      have h1 := (List.mem_filter.mp hf).1
      have h2 := of_decide_eq_true (List.mem_filter.mp hf).2
      obtain ⟨x, rfl⟩ := List.length_eq_one_iff.mp (show f.length = 1 by omega)
      obtain ⟨g, g1, _, g2⟩ := mem_allF.mp (mem_sortF.mp h1)
      exact ⟨g, g1, g2.subset (by simp)⟩
    · rintro ⟨g, g1, g2⟩
      refine ⟨[c], List.mem_filter.mpr ⟨mem_sortF.mpr (mem_allF.mpr ⟨g, g1, by simp, List.singleton_sublist.mpr g2⟩), by simp⟩, rfl⟩
def rng (n : Nat) : List Int := (List.range n).map fun (i : Nat) => (i : Int)
section
variable {h : PHeap}
theorem crn_inner {ctx : List Sem} {v : PV} {f : Fc} {S fs : List Int} {d : Option PV} (hl : S.length + fs.length ≤ 1000000) :
    ∃ d', forGo (fun _ => true) (tgSet (.nm 3)) (dSs ctx (.cons (.asg (.sub (.var 1) (.var 3)) (.cst (.bl true))) .nil)) (fs.map .int) [some v, some (.ref h.length), some (tI f), d] (h ++ [.dct (di S)]) =
      .ok (.nx [some v, some (.ref h.length), some (tI f), d']) (h ++ [.dct (di (insAZ S fs))]) := by
  obtain ⟨e, g, q, rfl, ⟨d', rfl⟩, _⟩ := for_inv (enc := PV.int) (chk := fun _ => true) (tg := tgSet (.nm 3)) (body := dSs ctx (.cons (.asg (.sub (.var 1) (.var 3)) (.cst (.bl true))) .nil))
    (step := insZ) (I := fun ts S env g => g = h ++ [.dct (di S)] ∧ (∃ d, env = [some v, some (.ref h.length), some (tI f), d]) ∧ S.length + ts.length ≤ 1000000)
    (fun _ _ _ _ _ => rfl) (by
      rintro t ts a env g ⟨rfl, ⟨c, rfl⟩, h1⟩
      refine ⟨[some v, some (.ref h.length), some (tI f), some (.int t)], by simp, _, h ++ [.dct (di (insZ a t))], ?_, rfl, ⟨some (.int t), rfl⟩, ?_⟩
      · simp only [List.length_cons] at h1
        simp
        rw [put_dct (keyOk_int (di_keys a) t) (by simp [di, LIM]; omega), di_put]
        rfl
      · have := length_insZ (S := a) (f := t)
        simp only [List.length_cons] at h1
        omega) fs S [some v, some (.ref h.length), some (tI f), d] _ ⟨rfl, ⟨d, rfl⟩, hl⟩
  exact ⟨d', q⟩
theorem corners_ev {s : List Fc} (hn : s.length ≤ 60) (hf : ∀ f ∈ s, f.length ≤ 60) : s_corners_of [.tup (s.map tI)] h = .ok (.lst ((cs s).map .int)) h := by
  obtain ⟨e, g, q, rfl, ⟨c, d, rfl⟩, _⟩ := for_inv (enc := tI) (chk := fun _ => true) (tg := tgSet (.nm 2)) (body := dSs [] (.cons (.for_ (.nm 3) (.ex (.var 2)) (.cons (.asg (.sub (.var 1) (.var 3)) (.cst (.bl true))) .nil)) .nil))
    (step := insAZ) (I := fun ts S env g => g = h ++ [.dct (di S)] ∧ (∃ c d, env = [some (.tup (s.map tI)), some (.ref h.length), c, d]) ∧ S.length + ts.length * 60 ≤ 3600 ∧ ∀ f ∈ ts, f.length ≤ 60)
    (fun _ _ _ _ _ => rfl) (by
      rintro t ts a env g ⟨rfl, ⟨c, d, rfl⟩, h1, h2⟩
      have l1 := h2 t (List.mem_cons_self ..)
      simp only [List.length_cons, Nat.add_mul] at h1
      obtain ⟨d', q⟩ := crn_inner (h := h) (ctx := []) (v := .tup (s.map tI)) (f := t) (S := a) (fs := t) (d := d) (by omega)
      refine ⟨[some (.tup (s.map tI)), some (.ref h.length), some (tI t), d], by simp, _, h ++ [.dct (di (insAZ a t))], ?_, rfl, ⟨some (tI t), d', rfl⟩, ?_, fun f hf => h2 f (List.mem_cons_of_mem _ hf)⟩
      · have lk : lockV 2 [some (.tup (s.map tI)), some (.ref h.length), some (tI t), d] (h ++ [.dct (di a)]) = none := rfl
        simp [lk, q]
      · have := length_insAZ (fs := t) (S := a)
        omega) s [] [some (.tup (s.map tI)), some (.ref h.length), none, none] (h ++ [.dct (di [])]) ⟨rfl, ⟨_, _, rfl⟩, by simp; omega, hf⟩
  simp [s_corners_of, runFn, if_corners_of, lockV, pairUp, putAll]
  rw [show ([] : List (PV × PV)) = di [] from rfl, q]
  have e : anySrc (h ++ [.dct (di (s.foldl insAZ []))]) (.ref h.length) = some ((crnG [] s).map .int) := by
    simp [anySrc, srcOf, di, crnG]
  simp [convop, e, sortOk_ints, sortV_ints]
  exact finish_ext (below_tame _ 1 _ (by rw [tame]; exact tame_ints 0 _))
theorem rng_map (n : Nat) : (List.range n).map (fun (i : Nat) => PV.int i) = (rng n).map .int := by
  unfold rng
  rw [List.map_map]
  rfl
def CX (v : PV) : Bool := match facesO v with
  | some ks => AGB ks && decide (0 < ks.length) && (ks.all fun f => decide ((f.length : Int) ≤ 5)) && decide ((cs ks).length ≤ 12) && decide (cs ks = rng (cs ks).length)
  | none => false
theorem CX_tup (xs : List PV) : CX (.tup xs) = match xs.mapM asFace with
  | some ks => AGB ks && decide (0 < ks.length) && (ks.all fun f => decide ((f.length : Int) ≤ 5)) && decide ((cs ks).length ≤ 12) && decide (cs ks = rng (cs ks).length)
  | none => false := rfl
theorem ag_typed {m n : Nat} {xs : List PV} (hm : m ≤ 60) (hv : good m n (.tup xs) = true) (ha : agV (.tup xs) = true) : ∃ ks, xs.mapM asFace = some ks ∧ xs = ks.map tI ∧ (∀ f ∈ ks, FaceOk f) ∧ (∀ f ∈ ks, f.length ≤ 60) ∧ ks.length ≤ 60 ∧ AGB ks = true := by
  cases n with
  | zero => simp [good] at hv
  | succ n =>
    have hx := good_items hv
    cases q : xs.all fun x => (asFace x).isSome with
    | false =>
      rw [agV_tup, no_asFace q] at ha
      cases ha
    | true =>
      obtain ⟨ks, h1, h2, h3⟩ := all_asFace q
      rw [agV_tup, h1] at ha
      rw [h2] at hx
      exact ⟨ks, h1, h2, h3, good_fl hm hx.2, by have := hx.1; simp at this; omega, ha⟩
theorem ag_not {xs : List PV} (ha : agV (.tup xs) = false) : CX (.tup xs) = false := by
  rw [agV_tup] at ha
  rw [CX_tup]
  cases q : xs.mapM asFace with
  | none => rfl
  | some ks =>
    rw [q] at ha
    simp only at ha ⊢
    rw [ha]
    rfl
theorem is_complex_ev {m n : Nat} (hm : m ≤ 60) {v : PV} (hv : good m n v = true) : s_is_complex [v] h = .ok (.bl (CX v)) h := by
  cases v with
  | tup xs =>
    have A := are_greatest_ev (h := h) hm hv
    cases ha : agV (.tup xs) with
    | false =>
      rw [ag_not ha]
      rw [ha] at A
      have lx : (xs.length : Int) ≤ 60 := by
        cases n with
        | zero => simp [good] at hv
        | succ n =>
          have := (good_items hv).1
          omega
      by_cases l : 0 < xs.length
      · simp [s_is_complex, runFn, if_is_complex, A, l, lx]
        exact finish_same (v := .bl false) rfl
      · simp [s_is_complex, runFn, if_is_complex, A, l]
        exact finish_same (v := .bl false) rfl
    | true =>
      obtain ⟨ks, h1, h2, h3, h4, h5, h6⟩ := ag_typed hm hv ha
      rw [CX_tup, h1]
      rw [ha] at A
      rw [h2] at A ⊢
      simp only [h6, Bool.true_and]
      by_cases l : 0 < ks.length
      · have lx : (ks.length : Int) ≤ 60 := by omega
        have cl : (cs ks).length ≤ 16777216 := by
          have : (cs ks).length ≤ 3600 := by
            unfold cs
            rw [(List.mergeSort_perm _ _).length_eq]
            have G : ∀ (s : List Fc) (S : List Int), (∀ f ∈ s, f.length ≤ 60) → (crnG S s).length ≤ S.length + s.length * 60 := by
              intro s
              induction s with
              | nil => intro S _; simp [crnG]
              | cons f s ih =>
                intro S hs
                have i1 := ih (insAZ S f) fun g hg => hs g (List.mem_cons_of_mem _ hg)
                have i2 := length_insAZ (fs := f) (S := S)
                have i3 := hs f (List.mem_cons_self ..)
                show (crnG (insAZ S f) s).length ≤ _
                simp only [List.length_cons, Nat.add_mul]
                omega
            have := G ks [] h4
            simp at this
            omega
          omega
        have lim : (cs ks).length ≤ LIM := cl
        simp -implicitDefEqProofs [s_is_complex, runFn, if_is_complex, A, l, lx, corners_ev h5 h4]
        by_cases c1 : (cs ks).length ≤ 12
        · have c1' : ¬ (12 : Int) < ((cs ks).length : Int) := by omega
          simp -implicitDefEqProofs [c1', rngV_nat cl, convI, lim, rng_map, eq_ints]
          by_cases c2 : cs ks = rng (cs ks).length
          · simp -implicitDefEqProofs [← c2, c1, lockV, lim, eq_ints]
            rw [comp_map (fun f : Fc => .bl (decide ((f.length : Int) ≤ 5))) rfl _ (fun f hf => ⟨_, by simp; rfl, by simp⟩) (by simp [LIM]; omega)]
            simp -implicitDefEqProofs
            rw [all_enc]
            exact finish_same (v := .bl _) rfl
          · have rl : (rng (cs ks).length).length ≤ LIM := by
              unfold rng
              simpa using lim
            simp -implicitDefEqProofs [c2, rl, eq_ints]
            exact finish_same (v := .bl false) rfl
        · have c1' : (12 : Int) < ((cs ks).length : Int) := by omega
          simp -implicitDefEqProofs [c1', c1]
          exact finish_same (v := .bl false) rfl
      · simp [s_is_complex, runFn, if_is_complex, l]
        exact finish_same (v := .bl false) rfl
  | _ =>
    cases n <;> simp [good] at hv <;> simp [s_is_complex, runFn, if_is_complex, CX, facesO] <;> exact finish_same (v := .bl false) rfl
end
end K10
namespace K10
open PySem HW
section
variable {h : PHeap}
theorem cs_length {ks : List Fc} (h5 : ks.length ≤ 60) (h4 : ∀ f ∈ ks, f.length ≤ 60) : (cs ks).length ≤ 3600 := by
  unfold cs
  rw [(List.mergeSort_perm _ _).length_eq]
  have G : ∀ (s : List Fc) (S : List Int), (∀ f ∈ s, f.length ≤ 60) → (crnG S s).length ≤ S.length + s.length * 60 := by
    intro s
    induction s with
    | nil => intro S _; simp [crnG]
    | cons f s ih =>
      intro S hs
      have i1 := ih (insAZ S f) fun g hg => hs g (List.mem_cons_of_mem _ hg)
      have i2 := length_insAZ (fs := f) (S := S)
      have i3 := hs f (List.mem_cons_self ..)
      show (crnG (insAZ S f) s).length ≤ _
      simp only [List.length_cons, Nat.add_mul]
      omega
  have := G ks [] h4
  simp at this
  omega
theorem law_is_complex_ev {m n : Nat} (hm : m ≤ 60) {v : PV} (hv : good m n v = true) : s__law_is_complex [v] h = .ok (.bl (CX v)) h := by
  have A := law_are_greatest_ev (h := h) hm hv
  cases ha : agV v with
  | false =>
    have : CX v = false := by
      cases v with
      | tup xs => exact ag_not ha
      | _ => rfl
    rw [this]
    rw [ha] at A
    simp [s__law_is_complex, runFn, if__law_is_complex, A]
    exact finish_same (v := .bl false) rfl
  | true =>
    cases v with
    | tup xs =>
      obtain ⟨ks, h1, h2, h3, h4, h5, h6⟩ := ag_typed hm hv ha
      rw [CX_tup, h1]
      rw [ha] at A
      rw [h2] at A ⊢
      simp only [h6, Bool.true_and]
      have lx : (ks.length : Int) ≤ 60 := by omega
      by_cases l : 0 < ks.length
      · have l1 : (1 : Int) ≤ ks.length := by omega
        have cm := comp_map (ctx := [s__law_are_greatest, s__law_faces]) (enc := tI) (h := h) (chk := fun _ => true) (tg := tgSet (.nm 2)) (elt := dE [s__law_are_greatest, s__law_faces] (.cmp .gt (.blt .len (.cons (.var 2) .nil)) (.cst (.int 5)))) (env := [some (.tup (ks.map tI)), none, none])
          (fun f : Fc => .bl (decide ((5 : Int) < f.length))) rfl ks (fun f hf => ⟨_, by simp; rfl, by simp⟩) (by simp [LIM]; omega)
        cases q5 : ks.all fun f => decide ((f.length : Int) ≤ 5) with
        | false =>
          have a5 : (ks.any fun f => decide ((5 : Int) < f.length)) = true := by
            rw [List.all_eq_false] at q5
            obtain ⟨f, f1, f2⟩ := q5
            exact List.any_eq_true.mpr ⟨f, f1, by simp at f2 ⊢; omega⟩
          simp [s__law_is_complex, runFn, if__law_is_complex, A, l1, lx, lockV]
          rw [cm]
          simp only [R.bind_ok, x_mkf]
          rw [any_enc, a5]
          simp
          exact finish_same (v := .bl false) rfl
        | true =>
          have f5 : ∀ f ∈ ks, f.length ≤ 5 := fun f hf => by
            have := of_decide_eq_true (List.all_eq_true.mp q5 f hf)
            omega
          have a5 : (ks.any fun f => decide ((5 : Int) < f.length)) = false := by
            rw [List.any_eq_false]
            intro f hf
            have := f5 f hf
            simp
            omega
          have sm : Sm ks := ⟨by omega, fun f hf => by have := f5 f hf; omega⟩
          have lim : (cs ks).length ≤ LIM := by
            have := cs_length h5 h4
            simp [LIM]
            omega
          have cl : (cs ks).length ≤ 16777216 := lim
          have al := allF_small sm
          simp -implicitDefEqProofs [s__law_is_complex, runFn, if__law_is_complex, A, l1, lx, lockV]
          rw [cm]
          simp -implicitDefEqProofs
          rw [any_enc, a5]
          simp -implicitDefEqProofs [law_faces_ev sm]
          rw [comp_enc (fun f : Fc => decide ((f.length : Int) = 1)) (fun f => PV.int (f.headD 0)) rfl _ _ (fun b hb => ⟨_, by simp; rfl, by simp [eq_int], fun hp => by
            have l1 := of_decide_eq_true hp
            obtain ⟨x, rfl⟩ := List.length_eq_one_iff.mp (show b.length = 1 by omega)
            simp [tI]⟩) (by
              rw [(sortF_perm _).length_eq]
              simp [LIM]
              omega)]
          have e : List.map (fun f : Fc => PV.int (f.headD 0)) ((sortF (allF ks)).filter fun f => decide ((f.length : Int) = 1)) = (cs ks).map .int := by
            rw [← lcs_eq, lcs, List.map_map]
            rfl
          rw [e]
          by_cases c1 : (cs ks).length ≤ 12
          · have c1' : ((cs ks).length : Int) ≤ 12 := by omega
            have rl : (rng (cs ks).length).length ≤ LIM := by
              unfold rng
              simpa using lim
            simp -implicitDefEqProofs [c1', c1, l, rngV_nat cl, convI, rl, rng_map, eq_ints]
            exact finish_same (v := .bl _) rfl
          · have c1' : ¬ ((cs ks).length : Int) ≤ 12 := by omega
            simp -implicitDefEqProofs [c1', c1]
            exact finish_same (v := .bl false) rfl
      · have l1 : ¬ (1 : Int) ≤ ks.length := by omega
        simp [s__law_is_complex, runFn, if__law_is_complex, A, l, l1]
        exact finish_same (v := .bl false) rfl
    | _ => cases ha
/-! parts *)-/
def PT (s : List Fc) (v : PV) : Bool := match facesO v with
  | some ks => AGB ks && ks.all fun f => decide (f ∈ allF s)
  | none => false
theorem PT_tup (s : List Fc) (xs : List PV) : PT s (.tup xs) = match xs.mapM asFace with
  | some ks => AGB ks && ks.all fun f => decide (f ∈ allF s)
  | none => false := rfl
theorem PT_not {s : List Fc} {v : PV} (ha : agV v = false) : PT s v = false := by
  cases v with
  | tup xs =>
    rw [agV_tup] at ha
    rw [PT_tup]
    cases q : xs.mapM asFace with
    | none => rfl
    | some ks =>
      rw [q] at ha
      simp only at ha ⊢
      rw [ha]
      rfl
  | _ => rfl
theorem is_part_ev {m n : Nat} (hm : m ≤ 60) {s : List Fc} (hs : Sm s) {v : PV} (hv : good m n v = true) : s_is_part [.tup (s.map tI), v] h = .ok (.bl (PT s v)) h := by
  have A := are_greatest_ev (h := h) hm hv
  cases ha : agV v with
  | false =>
    rw [PT_not ha]
    rw [ha] at A
    simp [s_is_part, runFn, if_is_part, A]
    exact finish_same (v := .bl false) rfl
  | true =>
    cases v with
    | tup xs =>
      obtain ⟨ks, h1, h2, h3, h4, h5, h6⟩ := ag_typed hm hv ha
      rw [PT_tup, h1]
      rw [ha] at A
      rw [h2] at A ⊢
      simp only [h6, Bool.true_and]
      simp [s_is_part, runFn, if_is_part, A, all_faces_ev hs, lockV]
      rw [comp_map (fun f : Fc => .bl (decide (f ∈ allF s))) rfl _ (fun f hf => ⟨_, by simp; rfl, by simp [in_db]⟩) (by simp [LIM]; omega)]
      simp only [R.bind_ok, x_mkf]
      rw [all_enc]
      exact finish_same (v := .bl _) rfl
    | _ => cases ha
/-! the number box *)-/
def Bx (ns : List Int) (t g : PHeap) : Prop := ∃ i left k : Int, 0 ≤ i ∧ i ≤ ns.length ∧ 0 ≤ left ∧ 0 ≤ k ∧ g = box ns i left k :: t
theorem take_bx {ns : List Int} {t g : PHeap} (b : Bx ns t g) {many : Int} (h1 : 1 ≤ many) (h2 : many < 1073741824) : ∃ d g', 0 ≤ d ∧ d < many ∧ Bx ns t g' ∧ s__law_take [.ref 0, .int many] g = .ok (.int d) g' := by
  obtain ⟨i, left, k, b1, b2, b3, b4, rfl⟩ := b
  obtain ⟨d, i', left', k', q1, q2, q3, q4, q5, q6, q7⟩ := take_any (t := t) b1 b2 b4 b3 h1 h2
  exact ⟨d, _, q1, q2, ⟨i', left', k', q3, q4, q5, q6, rfl⟩, q7⟩
theorem finish_bx {ns : List Int} {t g g' e : PHeap} {v : PV} (b : Bx ns t g) (b' : Bx ns t g') (hv : ∀ n, below n v = true) : HW.finish false g v (g' ++ e) = .ok v g' := by
  obtain ⟨i, left, k, _, _, _, _, rfl⟩ := b
  obtain ⟨i', left', k', _, _, _, _, rfl⟩ := b'
  have h1 : okOuter (box ns i left k :: t) ((box ns i' left' k' :: t) ++ e) = true := by
    simp only [okOuter, List.all_eq_true, List.mem_range, Bool.or_eq_true, decide_eq_true_eq]
    intro m hm
    cases m with
    | zero => exact .inr (by simp [box, belowC, belows, below, belows_ints])
    | succ m =>
      refine .inl ?_
      simp only [List.length_cons] at hm
      simp only [List.cons_append, List.getElem?_cons_succ]
      rw [List.getElem?_append_left (by omega)]
  have h2 : frz ((box ns i' left' k' :: t) ++ e) (box ns i left k :: t).length 12 v = some v := by
    unfold frz
    rw [if_pos (hv _)]
  unfold HW.finish
  rw [h1, h2]
  simp
theorem finish_bx0 {ns : List Int} {t g g' : PHeap} {v : PV} (b : Bx ns t g) (b' : Bx ns t g') (hv : ∀ n, below n v = true) : HW.finish false g v g' = .ok v g' := by
  have := finish_bx (e := []) b b' hv
  rwa [List.append_nil] at this
end
end K10
namespace K10
open PySem HW
theorem mem_cut {xs : List PV} {lo hi : Option Int} {x : PV} (h : x ∈ cut xs lo hi) : x ∈ xs := by
  unfold cut at h
  exact List.mem_of_mem_drop (List.mem_of_mem_take h)
theorem length_cut (xs : List PV) (lo hi : Option Int) : (cut xs lo hi).length ≤ xs.length := by
  unfold cut
  simp
  omega
theorem cut_last (xs : List PV) : (cut xs (some (-1)) none).length ≤ 1 := by
  unfold cut
  rw [HT.sIx_none]
  have e : HT.sIx xs.length 0 (some (-1)) = xs.length - 1 := by
    show (if (-1 : Int) < 0 then ((-1 : Int) + (xs.length : Int)).toNat else min (-1 : Int).toNat xs.length) = _
    rw [if_pos (by decide)]
    omega
  rw [e]
  simp
  omega
theorem good_tup {m n : Nat} {xs : List PV} (h1 : xs.length ≤ m) (h2 : ∀ x ∈ xs, good m n x = true) : good m (n + 1) (.tup xs) = true := by
  simp only [good, Bool.and_eq_true, List.all_eq_true, decide_eq_true_eq]
  exact ⟨h1, h2⟩
theorem good_lst {m n : Nat} {xs : List PV} (h1 : xs.length ≤ m) (h2 : ∀ x ∈ xs, good m n x = true) : good m (n + 1) (.lst xs) = true := by
  simp only [good, Bool.and_eq_true, List.all_eq_true, decide_eq_true_eq]
  exact ⟨h1, h2⟩
theorem good_mono {m m' : Nat} (hm : m ≤ m') : ∀ {n : Nat} {v : PV}, good m n v = true → good m' n v = true := by
  intro n
  induction n with
  | zero => intro v h; cases v <;> simp [good] at h <;> rfl
  | succ n ih =>
    intro v h
    cases v with
    | tup xs =>
      simp only [good, Bool.and_eq_true, List.all_eq_true, decide_eq_true_eq] at h
      exact good_tup (by omega) fun x hx => ih (h.2 x hx)
    | lst xs =>
      simp only [good, Bool.and_eq_true, List.all_eq_true, decide_eq_true_eq] at h
      exact good_lst (by omega) fun x hx => ih (h.2 x hx)
    | _ => simp [good] at h <;> rfl
theorem good_int (m n : Nat) (i : Int) : good m n (.int i) = true := by cases n <;> rfl
theorem good_bl (m n : Nat) (i : Bool) : good m n (.bl i) = true := by cases n <;> rfl
theorem good_non (m n : Nat) : good m n .non = true := by cases n <;> rfl
theorem good_below {m n : Nat} {v : PV} (h : good m n v = true) (k : Nat) : below k v = true := below_tame k n v (good_tame h)
theorem item_mem {g : PHeap} {xs : List PV} {d : Int} (h0 : 0 ≤ d) (h1 : d < xs.length) : ∃ v ∈ xs, itemOf g (.lst xs) (.int d) = some v := by
  obtain ⟨k, rfl⟩ : ∃ k : Nat, d = k := ⟨d.toNat, by omega⟩
  have hk : k < xs.length := by omega
  exact ⟨xs[k], List.getElem_mem hk, L2.atI_nat (by simp [hk])⟩
theorem spoilt_other {ns : List Int} {t g : PHeap} {m n : Nat} {v : PV} (b : Bx ns t g) (hv : good m n v = true) (ht : ∀ xs, v ≠ .tup xs) :
    ∃ v' g', good (m + 1) n v' = true ∧ Bx ns t g' ∧ r__law_spoilt (n + 1) [.ref 0, v] g = .ok v' g' := by
  obtain ⟨d, g', d1, d2, b', e⟩ := take_bx b (many := 7) (by omega) (by omega)
  obtain ⟨v', v1, v2⟩ := item_mem (g := g') (xs := [.int 0, .int 1, .int 2, .int (-1), .bl true, .non, .int 3]) d1 (by simpa using d2)
  have hg : good (m + 1) n v' = true := by
    simp at v1
    rcases v1 with r | r | r | r | r | r | r <;> rw [r] <;> first | exact good_int _ _ _ | exact good_bl _ _ _ | exact good_non _ _
  refine ⟨v', g', hg, b', ?_⟩
  have w1 : bltop (.isi "str") [v] g = some (.bl false) := by
    cases v <;> cases n <;> simp [good] at hv <;> rfl
  have w2 : bltop (.isi "tuple") [v] g = some (.bl false) := by
    cases v <;> cases n <;> simp [good] at hv <;> first | rfl | exact absurd rfl (ht _)
  rw [r__law_spoilt]
  simp [runFn, if__law_spoilt, w1, w2, e, v2]
  exact finish_bx0 b b' (good_below hg)
@[simp] theorem x_rvt {h : PHeap} {xs : List PV} : revOf h (.tup xs) = some (.tup xs.reverse) := rfl
@[simp] theorem x_slm {h : PHeap} {xs : List PV} {lo hi : Option Int} : sliceOf h (.tup xs) lo hi = some (.tup (cut xs lo hi)) := rfl
@[simp] theorem x_cvl {h : PHeap} {xs : List PV} : convop .list false (.tup xs) h = .ok (.lst xs) h := rfl
theorem spoilt_ev {ns : List Int} {t : PHeap} {m : Nat} (hm : 1 ≤ m) (hm2 : m ≤ 60) : ∀ (n : Nat) (v : PV) (g : PHeap), good m n v = true → Bx ns t g →
    ∃ v' g', good (m + 1) n v' = true ∧ Bx ns t g' ∧ r__law_spoilt (n + 1) [.ref 0, v] g = .ok v' g' := by
  intro n
  induction n with
  | zero =>
    intro v g hv b
    exact spoilt_other b hv fun xs e => by
      subst e
      simp [good] at hv
  | succ n ih =>
    intro v g hv b
    by_cases ht : ∃ xs, v = .tup xs
    · obtain ⟨xs, rfl⟩ := ht
      have hx := good_items hv
      have hx' : ∀ x ∈ xs, good (m + 1) n x = true := fun x q => good_mono (by omega) (hx.2 x q)
      -- the eight
      have eight : ∀ g1 : PHeap, Bx ns t g1 → ∃ v' g', good (m + 1) (n + 1) v' = true ∧ Bx ns t g' ∧ ((s__law_take [.ref 0, .int 8] g1).bind fun y h => R.of (itemOf h (.lst [.tup (cut xs (some 1) none), .tup (cut xs none (some (-1))), .tup (xs ++ cut xs (some (-1)) none), .tup xs.reverse, .lst xs, .tup (xs ++ [.int 0]), .tup [], .tup [.int 1, .int 0]]) y) h) = .ok v' g' := by
        intro g1 b1
        obtain ⟨d, g', d1, d2, b', e⟩ := take_bx b1 (many := 8) (by omega) (by omega)
        obtain ⟨v', v1, v2⟩ := item_mem (g := g') (xs := [.tup (cut xs (some 1) none), .tup (cut xs none (some (-1))), .tup (xs ++ cut xs (some (-1)) none), .tup xs.reverse, .lst xs, .tup (xs ++ [.int 0]), .tup [], .tup [.int 1, .int 0]]) d1 (by simpa using d2)
        refine ⟨v', g', ?_, b', by rw [e]; simp only [R.bind_ok, v2, R.of_some]⟩
        have c1 := length_cut xs (some 1) none
        have c2 := length_cut xs none (some (-1))
        have c3 := cut_last xs
        simp only [List.mem_cons, List.not_mem_nil, or_false] at v1
        rcases v1 with r | r | r | r | r | r | r | r <;> rw [r]
        · exact good_tup (by omega) fun x q => hx' x (mem_cut q)
        · exact good_tup (by omega) fun x q => hx' x (mem_cut q)
        · exact good_tup (by rw [List.length_append]; omega) fun x q => (List.mem_append.mp q).elim (hx' x) fun q => hx' x (mem_cut q)
        · exact good_tup (by rw [List.length_reverse]; omega) fun x q => hx' x (List.mem_reverse.mp q)
        · exact good_lst (by omega) hx'
        · exact good_tup (by rw [List.length_append]; simp; omega) fun x q => (List.mem_append.mp q).elim (hx' x) fun q => by
            rw [List.mem_singleton.mp q]
            exact good_int _ _ _
        · exact good_tup (by simp) (by simp)
        · exact good_tup (by simp; omega) fun x q => by
            simp at q
            rcases q with r | r <;> rw [r] <;> exact good_int _ _ _
      have a1 : ∀ h : PHeap, binop .add (.tup xs) (.tup (cut xs (some (-1)) none)) h = some (.tup (xs ++ cut xs (some (-1)) none)) := fun h => x_addt (by
        have := cut_last xs
        simp [LIM]
        omega)
      have a2 : ∀ h : PHeap, binop .add (.tup xs) (.tup [.int 0]) h = some (.tup (xs ++ [.int 0])) := fun h => x_addt (by
        simp [LIM]
        omega)
      by_cases e0 : xs = []
      · obtain ⟨v', g', q1, q2, q3⟩ := eight g b
        refine ⟨v', g', q1, q2, ?_⟩
        subst e0
        rw [r__law_spoilt]
        simp [runFn, if__law_spoilt, a1, a2, -x_st1]
        simp only [List.reverse_nil, List.nil_append] at q3
        rw [q3]
        simp
        exact finish_bx0 b q2 (good_below q1)
      · have ne : xs.isEmpty = false := by
          cases xs with
          | nil => exact absurd rfl e0
          | cons x xs => rfl
        obtain ⟨d5, g5, d51, d52, b5, e5⟩ := take_bx b (many := 5) (by omega) (by omega)
        by_cases z : d5 = 0
        · obtain ⟨v', g', q1, q2, q3⟩ := eight g5 b5
          refine ⟨v', g', q1, q2, ?_⟩
          rw [r__law_spoilt]
          simp [runFn, if__law_spoilt, a1, a2, ne, e5, eq_int, z, -x_st1]
          rw [q3]
          simp
          exact finish_bx0 b q2 (good_below q1)
        · have lp : 0 < xs.length := by
            cases xs with
            | nil => exact absurd rfl e0
            | cons x xs => simp
          obtain ⟨d, g', d1, d2, b', e⟩ := take_bx b5 (many := xs.length) (by omega) (by omega)
          obtain ⟨k, rfl⟩ : ∃ k : Nat, d = k := ⟨d.toNat, by omega⟩
          have hk : k < xs.length := by omega
          obtain ⟨w, g2, w1, b2, w2⟩ := ih xs[k] g' (hx.2 _ (List.getElem_mem hk)) b'
          have it : itemOf g' (.tup xs) (.int (k : Int)) = some xs[k] := L2.atI_nat (by simp [hk])
          have hg : good (m + 1) (n + 1) (.tup (xs.take k ++ [w] ++ xs.drop (k + 1))) = true := good_tup (by simp; omega) fun x q => by
            rcases List.mem_append.mp q with q | q
            · rcases List.mem_append.mp q with q | q
              · exact hx' x (List.mem_of_mem_take q)
              · rw [List.mem_singleton.mp q]
                exact w1
            · exact hx' x (List.mem_of_mem_drop q)
          have s1 : ∀ h : PHeap, binop .add (.tup (xs.take k)) (.tup [w]) h = some (.tup (xs.take k ++ [w])) := fun h => x_addt (by
            simp [LIM]
            omega)
          have s2 : ∀ h : PHeap, binop .add (.tup (xs.take k ++ [w])) (.tup (xs.drop (k + 1))) h = some (.tup (xs.take k ++ [w] ++ xs.drop (k + 1))) := fun h => x_addt (by
            simp [LIM]
            omega)
          have s3 : cut xs (some ((k : Int) + 1)) none = xs.drop (k + 1) := cut_drop xs (k + 1)
          refine ⟨_, g2, hg, b2, ?_⟩
          rw [r__law_spoilt]
          simp only [runFn, if__law_spoilt]
          simp [ne, e5, eq_int, z, e, it, cut_take, s1, s2, s3, w2, -List.append_assoc]
          exact finish_bx0 b b2 (good_below hg)
    · exact spoilt_other b hv fun xs e => ht ⟨xs, e⟩
theorem bent_ev {ns : List Int} {t g : PHeap} {m : Nat} (hm : 1 ≤ m) (hm2 : m ≤ 50) {v : PV} {turn : Int} (hv : good m 5 v = true) (b : Bx ns t g) :
    ∃ v' g', good (m + 2) 5 v' = true ∧ Bx ns t g' ∧ s__law_bent [.ref 0, v, .int turn] g = .ok v' g' := by
  obtain ⟨d, g1, d1, d2, b1, e⟩ := take_bx b (many := 2) (by omega) (by omega)
  obtain ⟨k, hk, hk2⟩ : ∃ k : Nat, (if 0 < turn then (1 : Int) else 0) * (1 + d) = k ∧ k ≤ 2 := by
    split
    · exact ⟨(1 + d).toNat, by omega, by omega⟩
    · exact ⟨0, by simp, by omega⟩
  have sm : small (if 0 < turn then (1 : Int) else 0) = true := by
    split <;> decide
  obtain ⟨env', g', q, b', v', x, rfl, hv'⟩ := for_inv (enc := fun (i : Nat) => PV.int i) (chk := fun _ => true) (tg := tgSet (.nm 3)) (body := dSs [s__law_take, s__law_spoilt] (.cons (.asg (.tg (.nm 1)) (.call 1 (.cons (.var 0) (.cons (.var 1) .nil)))) .nil))
    (step := fun (_ : Unit) _ => ()) (I := fun ts _ env g => Bx ns t g ∧ ∃ v x, env = [some (.ref 0), some v, some (.int turn), x] ∧ good (m + 2 - ts.length) 5 v = true ∧ ts.length ≤ 2)
    (fun _ _ _ _ _ => rfl) (by
      rintro i ts _ env g ⟨b, v, x, rfl, hv, hl⟩
      simp only [List.length_cons] at hv hl
      obtain ⟨v', g', q1, q2, q3⟩ := spoilt_ev (ns := ns) (t := t) (m := m + 2 - (ts.length + 1)) (by omega) (by omega) 5 v g hv b
      refine ⟨[some (.ref 0), some v, some (.int turn), some (.int i)], by simp, [some (.ref 0), some v', some (.int turn), some (.int i)], g', ?_, q2, v', some (.int i), rfl, ?_, by omega⟩
      · have q3 : s__law_spoilt [.ref 0, v] g = .ok v' g' := q3
        simp [q3]
      · have : m + 2 - (ts.length + 1) + 1 = m + 2 - ts.length := by omega
        rwa [this] at q1) (List.range k) () [some (.ref 0), some v, some (.int turn), none] g1 ⟨b1, v, none, rfl, good_mono (by simp; omega) hv, by simpa using hk2⟩
  refine ⟨v', g', by simpa using hv'.1, b', ?_⟩
  simp -implicitDefEqProofs [s__law_bent, runFn, if__law_bent, e]
  rw [ev_mul (by simp only [sm, Bool.true_or]), R.of_some, R.bind_ok, hk, rngV_nat (by omega), R.bind_ok, R.bind_ok, q]
  simp -implicitDefEqProofs
  exact finish_bx0 b b' (good_below (by simpa using hv'.1))
/-! shapes *)-/
theorem nodup_len : ∀ {a b : List Int}, a.Nodup → (∀ x ∈ a, x ∈ b) → a.length ≤ b.length
  | [], b, _, _ => by simp
  | x :: a, b, hn, hs => by
    rw [List.nodup_cons] at hn
    have hx := hs x (List.mem_cons_self ..)
    have ih := nodup_len (b := b.erase x) hn.2 fun y hy => by
      refine (List.mem_erase_of_ne ?_).mpr (hs y (List.mem_cons_of_mem _ hy))
      rintro rfl
      exact hn.1 hy
    rw [List.length_erase_of_mem hx] at ih
    have := List.length_pos_of_mem hx
    simp only [List.length_cons]
    omega
theorem sub_eq {a b : Fc} (ha : a.Pairwise (· < ·)) (hb : b.Pairwise (· < ·)) (hs : ∀ x ∈ a, x ∈ b) (hl : b.length ≤ a.length) : a = b := by
  refine uniqI ha hb fun k => ⟨hs k, fun hk => ?_⟩
  by_cases q : k ∈ a
  · exact q
  · exfalso
    have := nodup_len (a := a) (b := b.erase k) (ha.imp fun h e => by omega) fun y hy => by
      refine (List.mem_erase_of_ne ?_).mpr (hs y hy)
      rintro rfl
      exact q hy
    rw [List.length_erase_of_mem hk] at this
    have := List.length_pos_of_mem hk
    omega
theorem longest : ∀ {rows : List Fc}, rows ≠ [] → ∃ a ∈ rows, ∀ b ∈ rows, b.length ≤ a.length
  | [], h => absurd rfl h
  | [a], _ => ⟨a, by simp, by simp⟩
  | a :: c :: rows, _ => by
    obtain ⟨b, h1, h2⟩ := longest (rows := c :: rows) (by simp)
    by_cases q : b.length ≤ a.length
    · refine ⟨a, by simp, fun x hx => ?_⟩
      rcases List.mem_cons.mp hx with e | e
      · rw [e]
        exact Nat.le_refl _
      · have := h2 x e
        omega
    · refine ⟨b, List.mem_cons_of_mem _ h1, fun x hx => ?_⟩
      rcases List.mem_cons.mp hx with e | e
      · rw [e]
        omega
      · exact h2 x e
theorem top_ne {rows : List Fc} (hi : ∀ f ∈ rows, f.Pairwise (· < ·)) (hn : rows ≠ []) : rows.filter (top1 rows) ≠ [] := by
  obtain ⟨a, h1, h2⟩ := longest hn
  refine List.ne_nil_of_mem (a := a) (List.mem_filter.mpr ⟨h1, ?_⟩)
  unfold top1
  rw [Bool.not_eq_true', List.any_eq_false]
  intro b hb
  simp only [Bool.and_eq_true, decide_eq_true_eq, not_and]
  intro ne w
  refine ne (sub_eq (hi a h1) (hi b hb) (fun x hx => of_decide_eq_true (List.all_eq_true.mp w x hx)) (h2 b hb))
structure Shp (s : List Fc) : Prop where
  e : s ≠ []
  n : s.length ≤ 40
  f : ∀ f ∈ s, f ≠ [] ∧ f.length ≤ 5
theorem Shp.sm {s : List Fc} (h : Shp s) : Sm s := ⟨by have := h.n; omega, fun f hf => by have := (h.f f hf).2; omega⟩
theorem Shp.good {s : List Fc} (h : Shp s) : good 40 5 (.tup (s.map tI)) = true := good_tup (by simpa using h.n) fun x hx => by
  obtain ⟨f, hf, rfl⟩ := List.mem_map.mp hx
  refine good_tup (by have := (h.f f hf).2; simp; omega) fun y hy => ?_
  obtain ⟨i, _, rfl⟩ := List.mem_map.mp hy
  exact good_int _ _ _
theorem bx_app {ns : List Int} {t g e : PHeap} (b : Bx ns t g) : Bx ns (t ++ e) (g ++ e) := by
  obtain ⟨i, left, k, b1, b2, b3, b4, rfl⟩ := b
  exact ⟨i, left, k, b1, b2, b3, b4, rfl⟩
theorem bx_split {ns : List Int} {t g e : PHeap} (b : Bx ns (t ++ e) g) : ∃ h, g = h ++ e ∧ Bx ns t h := by
  obtain ⟨i, left, k, b1, b2, b3, b4, rfl⟩ := b
  exact ⟨box ns i left k :: t, rfl, ⟨i, left, k, b1, b2, b3, b4, rfl⟩⟩
theorem bx_len {ns : List Int} {t g : PHeap} (b : Bx ns t g) : g.length = t.length + 1 := by
  obtain ⟨i, left, k, b1, b2, b3, b4, rfl⟩ := b
  simp
def plane : List Fc := [[0, 1, 4], [0, 1, 5], [0, 2, 3], [0, 2, 5], [0, 3, 4], [1, 2, 3], [1, 2, 4], [1, 3, 5], [2, 4, 5], [3, 4, 5]]
def hollow : List Fc := [[0, 1, 2], [0, 1, 3], [0, 2, 3], [1, 2, 3]]
theorem rng_lt (n : Nat) : (rng n).Pairwise (· < ·) := by
  unfold rng
  rw [List.pairwise_map]
  exact List.pairwise_lt_range.imp fun h => by omega
theorem rng_len (n : Nat) : (rng n).length = n := by simp [rng]
def singles (n : Nat) : List Fc := (List.range n).map fun (i : Nat) => [(i : Int)]
theorem shape_ev {ns : List Int} {t g : PHeap} (b : Bx ns t g) : ∃ s g', Shp s ∧ Bx ns t g' ∧ s__law_shape [.ref 0] g = .ok (.tup (s.map tI)) g' := by
  obtain ⟨kind, g1, k1, k2, b1, e1⟩ := take_bx b (many := 8) (by omega) (by omega)
  by_cases z0 : kind = 0
  · refine ⟨plane, g1, ⟨by decide, by decide, by decide⟩, b1, ?_⟩
    have e2 : ∀ h : PHeap, s__law_plane [] h = .ok (.tup (plane.map tI)) h := fun h => by
      simp [s__law_plane, runFn, if__law_plane]
      exact finish_same (below_tup_tI _ plane)
    simp [s__law_shape, runFn, if__law_shape, e1, eq_int, z0, e2]
    exact finish_bx0 b b1 fun n => below_tup_tI n plane
  · by_cases z1 : kind = 1
    · refine ⟨hollow, g1, ⟨by decide, by decide, by decide⟩, b1, ?_⟩
      simp [s__law_shape, runFn, if__law_shape, e1, eq_int, z0, z1]
      exact finish_bx0 b b1 fun n => below_tup_tI n hollow
    · obtain ⟨d, g2, d1, d2, b2, e2⟩ := take_bx b1 (many := 5) (by omega) (by omega)
      obtain ⟨n, hn, hn1, hn2⟩ : ∃ n : Nat, 1 + d = n ∧ 1 ≤ n ∧ n ≤ 5 := ⟨(1 + d).toNat, by omega, by omega, by omega⟩
      have gl := bx_len b2
      have c1 : compGo (fun _ => true) (tgSet (.nm 5)) (dIfs [s__law_take, s__law_plane, s__law_parts_of, s__law_greatest] .nil) (dE [s__law_take, s__law_plane, s__law_parts_of, s__law_greatest] (.tup (.cons (.var 5) .nil))) [some (.ref 0), some (.int kind), some (.int n), none, none, none] ((List.range n).map fun (i : Nat) => PV.int i) g2 [] = .ok ((List.range n).map fun (i : Nat) => tI [(i : Int)]) g2 :=
        comp_map (fun i : Nat => tI [(i : Int)]) rfl _ (fun i hi => ⟨_, by simp; rfl, by simp [tI]⟩) (by simp [LIM]; omega)
      have acc0 : (List.range n).map (fun (i : Nat) => tI [(i : Int)]) = (singles n).map tI := by
        rw [singles, List.map_map]
        rfl
      rw [acc0] at c1
      have pl := length_parts (rng n)
      rw [rng_len] at pl
      have p32 : 2 ^ n ≤ 2 ^ 5 := Nat.pow_le_pow_right (by decide) hn2
      obtain ⟨env', g', q, h', acc, b', rfl, ⟨x, y, rfl⟩, al, a0, af, _⟩ := for_inv (enc := tI) (chk := fun _ => true) (tg := tgSet (.nm 4)) (body := dSs [s__law_take, s__law_plane, s__law_parts_of, s__law_greatest] (.cons (.ifs (.and (.cmp2 .lt .lt (.cst (.int 1)) (.blt .len (.cons (.var 4) .nil)) (.cst (.int 5))) (.cmp .eq (.call 0 (.cons (.var 0) (.cons (.sub (.lst false (.cons (.cst (.int 3)) (.cons (.cst (.int 2)) (.cons (.cst (.int 3)) (.cons (.cst (.int 4)) (.cons (.cst (.int 4)) .nil)))))) (.blt .len (.cons (.var 4) .nil))) .nil))) (.cst (.int 0)))) (.cons (.expr (.meth .lapp (.var 3) (.cons (.var 4) .nil))) .nil) .nil) .nil))
        (step := fun (_ : Unit) _ => ()) (I := fun ts _ env g => ∃ h' acc, Bx ns t h' ∧ g = h' ++ [.lst (acc.map tI)] ∧ (∃ x y, env = [some (.ref 0), some (.int kind), some (.int n), some (.ref g2.length), x, y]) ∧ acc.length + ts.length ≤ 40 ∧ acc ≠ [] ∧ (∀ f ∈ acc, f ≠ [] ∧ f.length ≤ 5 ∧ f.Pairwise (· < ·)) ∧ ∀ f ∈ ts, f ≠ [] ∧ f.length ≤ 5 ∧ f.Pairwise (· < ·))
        (fun _ _ _ _ _ => rfl) (by
          rintro f ts _ env g ⟨h', acc, b', rfl, ⟨x, y, rfl⟩, al, a0, af, tf⟩
          have hl : h'.length = g2.length := by rw [bx_len b', gl]
          have tf' : ∀ f ∈ ts, f ≠ [] ∧ f.length ≤ 5 ∧ f.Pairwise (· < ·) := fun f hf => tf f (List.mem_cons_of_mem _ hf)
          have ff := tf f (List.mem_cons_self ..)
          simp only [List.length_cons] at al
          refine ⟨[some (.ref 0), some (.int kind), some (.int n), some (.ref g2.length), some (tI f), y], by simp, ?_⟩
          by_cases l1 : (1 : Int) < f.length
          · by_cases l2 : (f.length : Int) < 5
            · obtain ⟨w, w1, w2⟩ := item_mem (g := h' ++ [.lst (acc.map tI)]) (xs := [.int 3, .int 2, .int 3, .int 4, .int 4]) (d := f.length) (by omega) (by simpa using l2)
              obtain ⟨m, rfl, m1, m2⟩ : ∃ m : Int, w = .int m ∧ 1 ≤ m ∧ m ≤ 4 := by
                simp at w1
                rcases w1 with r | r | r | r <;> exact ⟨_, r, by omega, by omega⟩
              obtain ⟨d, gg, d1, d2, bb, e⟩ := take_bx (bx_app (e := [.lst (acc.map tI)]) b') (many := m) (by omega) (by omega)
              obtain ⟨h2, rfl, b2⟩ := bx_split bb
              have hl2 : h2.length = g2.length := by rw [bx_len b2, gl]
              by_cases z : d = 0
              · refine ⟨[some (.ref 0), some (.int kind), some (.int n), some (.ref g2.length), some (tI f), y], h2 ++ [.lst ((acc ++ [f]).map tI)], ?_, h2, acc ++ [f], b2, rfl, ⟨_, _, rfl⟩, by simp; omega, by simp, ?_, tf'⟩
                · have lim : acc.length < LIM := by simp [LIM]; omega
                  simp [l1, l2, w2, e, eq_int, z, recv, methop, mApp, asList, ← hl2, lim, set_last]
                · intro k hk
                  rcases List.mem_append.mp hk with r | r
                  · exact af k r
                  · rw [List.mem_singleton.mp r]
                    exact ff
              · refine ⟨[some (.ref 0), some (.int kind), some (.int n), some (.ref g2.length), some (tI f), y], h2 ++ [.lst (acc.map tI)], ?_, h2, acc, b2, rfl, ⟨_, _, rfl⟩, by omega, a0, af, tf'⟩
                simp [l1, l2, w2, e, eq_int, z]
            · refine ⟨[some (.ref 0), some (.int kind), some (.int n), some (.ref g2.length), some (tI f), y], h' ++ [.lst (acc.map tI)], ?_, h', acc, b', rfl, ⟨_, _, rfl⟩, by omega, a0, af, tf'⟩
              simp [l1, l2]
          · refine ⟨[some (.ref 0), some (.int kind), some (.int n), some (.ref g2.length), some (tI f), y], h' ++ [.lst (acc.map tI)], ?_, h', acc, b', rfl, ⟨_, _, rfl⟩, by omega, a0, af, tf'⟩
            simp [l1]) (parts (rng n)) () [some (.ref 0), some (.int kind), some (.int n), some (.ref g2.length), none, none] (g2 ++ [.lst ((singles n).map tI)])
        ⟨g2, _, b2, rfl, ⟨_, _, rfl⟩, by simp [singles]; omega, by
          intro e
          have := congrArg List.length e
          simp [singles] at this
          omega, fun f hf => by
          obtain ⟨i, _, rfl⟩ := List.mem_map.mp hf
          simp, fun f hf => by
          obtain ⟨p1, p2⟩ := mem_parts.mp hf
          have := p2.length_le
          rw [rng_len] at this
          exact ⟨p1, by omega, (rng_lt n).sublist p2⟩⟩
      have hl : h'.length = g2.length := by rw [bx_len b', gl]
      have as : asSeq (h' ++ [.lst (acc.map tI)]) (.ref g2.length) = some (acc.map tI) := by
        simp [asSeq, asList, ← hl]
      have al' : acc.length ≤ 40 := by simpa using al
      obtain ⟨rows, r1, r2, rl0, r3⟩ := law_greatest_ev (h := h' ++ [.lst (acc.map tI)]) (v := .ref g2.length) as (by omega) (fun k hk => (af k hk).1) (fun k hk => by have := (af k hk).2.1; simp [LIM]; omega)
      have rn : rows ≠ [] := by
        obtain ⟨a, ha⟩ := List.exists_mem_of_ne_nil acc a0
        exact List.ne_nil_of_mem ((r2 a).mpr ha)
      have rl : rows.length ≤ 40 := by omega
      refine ⟨rows.filter (top1 rows), h', ⟨top_ne (fun f hf => (af f ((r2 f).mp hf)).2.2) rn, Nat.le_trans (List.length_filter_le _ _) rl, fun f hf => ?_⟩, b', ?_⟩
      · have := af f ((r2 f).mp (List.mem_filter.mp hf).1)
        exact ⟨this.1, this.2.1⟩
      · have P : s__law_parts_of [.tup ((List.range n).map fun (i : Nat) => PV.int i)] (g2 ++ [.lst ((singles n).map tI)]) = .ok (.lst ((parts (rng n)).map tI)) (g2 ++ [.lst ((singles n).map tI)]) := by
          rw [rng_map]
          exact law_parts_ev (by rw [rng_len]; omega)
        have lim : n ≤ LIM := by simp [LIM]; omega
        simp -implicitDefEqProofs [s__law_shape, runFn, if__law_shape, e1, eq_int, z0, z1, e2]
        rw [hn]
        simp -implicitDefEqProofs [rngV_nat (show n ≤ 16777216 by omega)]
        rw [c1]
        simp -implicitDefEqProofs [convI, lim, rngV_nat (show n ≤ 16777216 by omega)]
        rw [P]
        simp -implicitDefEqProofs
        rw [q]
        simp -implicitDefEqProofs
        rw [r3]
        simp -implicitDefEqProofs
        exact finish_bx b b' (fun n => below_tup_tI n _)
end K10
namespace K10
open PySem HW
def p0 : IS := (.asg (.tg (.nm 6)) (.call 3 (.cons (.var 1) (.cons (.var 2) (.cons (.var 4) .nil)))))
def p1 : IS := (.asg (.tg (.nm 7)) (.call 4 (.cons (.var 6) .nil)))
def p2 : IS := (.ifs (.or (.not (.blt (.isi "bool") (.cons (.var 7) .nil))) (.cmp .ne (.var 7) (.call 5 (.cons (.var 6) .nil)))) (.cons (.ret (.cst (.bl false))) .nil) .nil)
def p3 : IS := (.asg (.tg (.nm 8)) (.call 6 (.cons (.comp false [11] (.nm 11) (.rng1 (.call 7 (.cons (.var 1) (.cons (.cst (.int 4)) .nil)))) .nil (.sub (.var 3) (.call 7 (.cons (.var 1) (.cons (.blt .len (.cons (.var 3) .nil)) .nil))))) .nil)))
def p4 : IS := (.asg (.tg (.nm 8)) (.call 3 (.cons (.var 1) (.cons (.var 8) (.cons (.bin .mod (.var 4) (.cst (.int 2))) .nil)))))
def p5 : IS := (.asg (.tg (.nm 9)) (.and (.call 8 (.cons (.var 8) .nil)) (.conv .all false (.comp false [17] (.nm 17) (.ex (.var 8)) .nil (.cmp .isin (.var 17) (.var 3))))))
def p6 : IS := (.asg (.tg (.nm 7)) (.call 9 (.cons (.var 2) (.cons (.var 8) .nil))))
def p7 : IS := (.ifs (.or (.not (.blt (.isi "bool") (.cons (.var 7) .nil))) (.cmp .ne (.var 7) (.var 9))) (.cons (.ret (.cst (.bl false))) .nil) .nil)
def q0 : IS := (.par [(.tg (.nm 12)), (.tg (.nm 13))] (.cons (.call 12 (.cons (.var 2) (.cons (.var 5) .nil))) (.cons (.call 12 (.cons (.var 2) (.cons (.bin .add (.var 5) (.cst (.int 1))) .nil))) .nil)))
def q1 : IS := (.par [(.tg (.nm 14)), (.tg (.nm 15)), (.tg (.nm 16))] (.cons (.call 13 (.cons (.var 1) (.cons (.var 12) .nil))) (.cons (.call 13 (.cons (.var 1) (.cons (.var 12) .nil))) (.cons (.call 13 (.cons (.var 1) (.cons (.var 13) .nil))) .nil))))
def q2 : IS := (.asg (.tg (.nm 10)) (.conv .dict true (.var 14)))
def q3 : IS := (.for_ (.tp [(.nm 17), (.nm 18)]) (.ex (.var 15)) (.cons (.asg (.sub (.var 10) (.var 17)) (.bin .add (.meth .dget (.var 10) (.cons (.var 17) (.cons (.cst (.int 0)) .nil))) (.var 18))) .nil))
def q4 : IS := (.asg (.tg (.nm 11)) (.bin .sub (.call 7 (.cons (.var 1) (.cons (.cst (.int 5)) .nil))) (.cst (.int 2))))
def q5 : IS := (.ifs (.not (.call 10 (.cons (.call 14 (.cons (.var 14) (.cons (.var 15) .nil))) (.cons (.call 15 (.cons (.var 10) .nil)) .nil)))) (.cons (.ret (.cst (.bl false))) .nil) .nil)
def q6 : IS := (.ifs (.not (.call 10 (.cons (.call 16 (.cons (.var 14) (.cons (.var 11) .nil))) (.cons (.call 15 (.cons (.conv .dict false (.comp false [17, 18] (.tp [(.nm 17), (.nm 18)]) (.ex (.var 14)) .nil (.tup (.cons (.var 17) (.cons (.bin .mul (.var 11) (.var 18)) .nil))))) .nil)) .nil)))) (.cons (.ret (.cst (.bl false))) .nil) .nil)
def q7 : IS := (.ifs (.or (.not (.call 10 (.cons (.call 17 (.cons (.var 16) .nil)) (.cons (.call 18 (.cons (.var 16) .nil)) .nil)))) (.cmp .ne (.call 17 (.cons (.call 17 (.cons (.var 16) .nil)) .nil)) (.tup .nil))) (.cons (.ret (.cst (.bl false))) .nil) .nil)
def q8 : IS := (.ifs (.or (.not (.call 10 (.cons (.call 19 (.cons (.var 2) (.cons (.var 14) .nil))) (.cons (.call 20 (.cons (.var 2) (.cons (.var 14) .nil))) .nil)))) (.cmp .ne (.call 19 (.cons (.var 2) (.cons (.call 19 (.cons (.var 2) (.cons (.var 14) .nil))) .nil))) (.tup .nil))) (.cons (.ret (.cst (.bl false))) .nil) .nil)
def q9 : IS := (.ifs (.or (.cmp .ne (.call 21 (.cons (.var 14) (.cons (.var 15) .nil))) (.call 22 (.cons (.var 14) (.cons (.var 15) .nil)))) (.cmp .ne (.call 21 (.cons (.call 19 (.cons (.var 2) (.cons (.var 14) .nil))) (.cons (.var 16) .nil))) (.call 21 (.cons (.var 14) (.cons (.call 17 (.cons (.var 16) .nil)) .nil))))) (.cons (.ret (.cst (.bl false))) .nil) .nil)
def pB : ISs := (.cons p0 (.cons p1 (.cons p2 (.cons p3 (.cons p4 (.cons p5 (.cons p6 (.cons p7 .nil))))))))
def qB : ISs := (.cons q0 (.cons q1 (.cons q2 (.cons q3 (.cons q4 (.cons q5 (.cons q6 (.cons q7 (.cons q8 (.cons q9 .nil))))))))))
def m0 : IS := (.asg (.tg (.nm 1)) (.call 0 (.cons (.var 0) .nil)))
def m1 : IS := (.asg (.tg (.nm 2)) (.call 1 (.cons (.var 1) .nil)))
def m2 : IS := (.asg (.tg (.nm 3)) (.call 2 (.cons (.var 2) .nil)))
def m3 : IS := (.for_ (.nm 4) (.rng1 (.cst (.int 6))) pB)
def m4 : IS := (.ifs (.not (.conv .all false (.comp false [5] (.nm 5) (.rng1 (.cst (.int 5))) .nil (.call 10 (.cons (.call 11 (.cons (.var 2) (.cons (.var 5) .nil))) (.cons (.conv .tuple false (.call 12 (.cons (.var 2) (.cons (.var 5) .nil)))) .nil)))))) (.cons (.ret (.cst (.bl false))) .nil) .nil)
def m5 : IS := (.for_ (.nm 5) (.rng1 (.cst (.int 4))) qB)
def m6 : IS := (.ret (.cst (.bl true)))
def mB : ISs := (.cons m0 (.cons m1 (.cons m2 (.cons m3 (.cons m4 (.cons m5 (.cons m6 .nil)))))))
def LC : List Sem := [s__law_start, s__law_shape, s__law_faces, s__law_bent, s_is_complex, s__law_is_complex, s__law_greatest, s__law_take, s__law_are_greatest, s_is_part, s__law_alike, s_faces_of, s__law_level, s__law_some, s_added, s__law_chain, s_multiple, s_boundary, s__law_boundary, s_coboundary, s__law_coboundary, s_value_on, s__law_value]
theorem s_law_eq : s_law = runFn ⟨1, 19, mB, false⟩ LC := rfl
@[simp] theorem lc0 : LC[0]? = some s__law_start := rfl
@[simp] theorem lc1 : LC[1]? = some s__law_shape := rfl
@[simp] theorem lc2 : LC[2]? = some s__law_faces := rfl
@[simp] theorem lc3 : LC[3]? = some s__law_bent := rfl
@[simp] theorem lc4 : LC[4]? = some s_is_complex := rfl
@[simp] theorem lc5 : LC[5]? = some s__law_is_complex := rfl
@[simp] theorem lc6 : LC[6]? = some s__law_greatest := rfl
@[simp] theorem lc7 : LC[7]? = some s__law_take := rfl
@[simp] theorem lc8 : LC[8]? = some s__law_are_greatest := rfl
@[simp] theorem lc9 : LC[9]? = some s_is_part := rfl
@[simp] theorem lc10 : LC[10]? = some s__law_alike := rfl
@[simp] theorem lc11 : LC[11]? = some s_faces_of := rfl
@[simp] theorem lc12 : LC[12]? = some s__law_level := rfl
@[simp] theorem lc13 : LC[13]? = some s__law_some := rfl
@[simp] theorem lc14 : LC[14]? = some s_added := rfl
@[simp] theorem lc15 : LC[15]? = some s__law_chain := rfl
@[simp] theorem lc16 : LC[16]? = some s_multiple := rfl
@[simp] theorem lc17 : LC[17]? = some s_boundary := rfl
@[simp] theorem lc18 : LC[18]? = some s__law_boundary := rfl
@[simp] theorem lc19 : LC[19]? = some s_coboundary := rfl
@[simp] theorem lc20 : LC[20]? = some s__law_coboundary := rfl
@[simp] theorem lc21 : LC[21]? = some s_value_on := rfl
@[simp] theorem lc22 : LC[22]? = some s__law_value := rfl
/-! drawn chains *)-/
structure Chn (L : List Fc) (A : Tb) : Prop where
  n : nod A
  k : ∀ p ∈ A, p.1 ∈ L
  s : ∀ p ∈ A, small p.2 = true
  l : A.length ≤ L.length
theorem small_of {z : Int} (h1 : -2 ≤ z) (h2 : z ≤ 2) : small z = true := by
  unfold small
  rw [decide_eq_true_eq]
  omega
theorem some_comp {ns : List Int} {t : PHeap} {env : HW.Env} (h0 : env[0]? = some (some (.ref 0))) (h2 : 2 < env.length) : ∀ (ks : List Fc) (acc : List PV) (g : PHeap), Bx ns t g → acc.length + ks.length ≤ LIM →
    ∃ (T : Tb) (g' : PHeap), T.map (·.1) = ks ∧ (∀ p ∈ T, -2 ≤ p.2 ∧ p.2 ≤ 2) ∧ Bx ns t g' ∧
      compGo (fun _ => true) (tgSet (.nm 2)) (dIfs [s__law_chain, s__law_take] .nil) (dE [s__law_chain, s__law_take] (.tup (.cons (.var 2) (.cons (.bin .sub (.call 1 (.cons (.var 0) (.cons (.cst (.int 5)) .nil))) (.cst (.int 2))) .nil)))) env (ks.map tI) g acc = .ok (acc ++ T.map cp) g'
  | [], acc, g, b, _ => ⟨[], g, rfl, by simp, b, by simp [compGo]⟩
  | f :: ks, acc, g, b, hl => by
    simp only [List.length_cons] at hl
    obtain ⟨d, g1, d1, d2, b1, e⟩ := take_bx b (many := 5) (by omega) (by omega)
    obtain ⟨T, g2, t1, t2, b2, q⟩ := some_comp h0 h2 ks (acc ++ [cp (f, d - 2)]) g1 b1 (by simp; omega)
    refine ⟨(f, d - 2) :: T, g2, by simp [t1], ?_, b2, ?_⟩
    · intro p hp
      rcases List.mem_cons.mp hp with r | r
      · rw [r]
        simp only
        omega
      · exact t2 p r
    · have lim : acc.length < LIM := by omega
      rw [List.map_cons]
      simp [compGo, h2, List.getElem?_set, h0, e, lim]
      rw [show PV.tup [tI f, .int (d - 2)] = cp (f, d - 2) from rfl, q]
      simp
theorem some_ev {ns : List Int} {t g : PHeap} {L : List Fc} (hn : L.Nodup) (hl : L.length ≤ 262144) (b : Bx ns t g) : ∃ A g', Chn L A ∧ Bx ns t g' ∧ s__law_some [.ref 0, .lst (L.map tI)] g = .ok (ch A) g' := by
  obtain ⟨T, g', t1, t2, b', q⟩ := some_comp (env := [some (.ref 0), some (.lst (L.map tI)), none]) rfl (by simp) L [] g b (by simp [LIM]; omega)
  have nt : nod T := by
    unfold nod
    rw [t1]
    exact hn
  have tl : T.length = L.length := by
    have := congrArg List.length t1
    simpa using this
  have lim : T.length ≤ LIM := by simp [LIM]; omega
  refine ⟨tld T, g', ⟨nod_tld nt, fun p hp => ?_, fun p hp => ?_, ?_⟩, b', ?_⟩
  · rw [← t1]
    exact List.mem_map.mpr ⟨p, tld_keys hp, rfl⟩
  · have := t2 p (tld_keys hp)
    exact small_of this.1 this.2
  · have := tld_length T
    omega
  · simp [s__law_some, runFn, if__law_some, lockV]
    rw [q]
    simp [dict_l nt lim, chain_ev nt lim]
    exact finish_bx0 b b' fun n => below_ch n _
/-! the law's turns *)-/
structure EOk (env : HW.Env) (s : List Fc) : Prop where
  l : env.length = 19
  c : env[1]? = some (some (.ref 0))
  sh : env[2]? = some (some (.tup (s.map tI)))
  fa : env[3]? = some (some (.lst ((sortF (allF s)).map tI)))
theorem EOk.set {env : HW.Env} {s : List Fc} (h : EOk env s) {i : Nat} (v : Option PV) (h1 : i ≠ 1) (h2 : i ≠ 2) (h3 : i ≠ 3) : EOk (env.set i v) s :=
  ⟨by rw [List.length_set, h.l], by rw [List.getElem?_set_ne h1, h.c], by rw [List.getElem?_set_ne h2, h.sh], by rw [List.getElem?_set_ne h3, h.fa]⟩
theorem pick_comp {ns : List Int} {t : PHeap} {env : HW.Env} {F : List Fc} (hF : F ≠ []) (hl : F.length < 1073741824) (h1 : env[1]? = some (some (.ref 0))) (h3 : env[3]? = some (some (.lst (F.map tI)))) (h11 : 11 < env.length) : ∀ (ks : List Nat) (acc : List PV) (g : PHeap), Bx ns t g → acc.length + ks.length ≤ LIM →
    ∃ (T : List Fc) (g' : PHeap), T.length = ks.length ∧ (∀ f ∈ T, f ∈ F) ∧ Bx ns t g' ∧
      compGo (fun _ => true) (tgSet (.nm 11)) (dIfs LC .nil) (dE LC (.sub (.var 3) (.call 7 (.cons (.var 1) (.cons (.blt .len (.cons (.var 3) .nil)) .nil))))) env (ks.map fun (i : Nat) => PV.int i) g acc = .ok (acc ++ T.map tI) g'
  | [], acc, g, b, _ => ⟨[], g, rfl, by simp, b, by simp [compGo]⟩
  | k :: ks, acc, g, b, hl2 => by
    simp only [List.length_cons] at hl2
    have pos : 0 < F.length := List.length_pos_iff.mpr hF
    obtain ⟨d, g1, d1, d2, b1, e⟩ := take_bx b (many := F.length) (by omega) (by omega)
    obtain ⟨v, v1, v2⟩ := item_mem (g := g1) (xs := F.map tI) d1 (by simpa using d2)
    obtain ⟨f, hf, rfl⟩ := List.mem_map.mp v1
    obtain ⟨T, g2, t1, t2, b2, q⟩ := pick_comp hF hl h1 h3 h11 ks (acc ++ [tI f]) g1 b1 (by simp; omega)
    refine ⟨f :: T, g2, by simp [t1], ?_, b2, ?_⟩
    · intro p hp
      rcases List.mem_cons.mp hp with r | r
      · rw [r]
        exact hf
      · exact t2 p r
    · have lim : acc.length < LIM := by omega
      rw [List.map_cons]
      simp [-getElem?_pos, compGo, h11, List.getElem?_set, h1, h3, e, v2, lim]
      rw [q]
      simp
theorem body1 {ns : List Int} {t g : PHeap} {env : HW.Env} {s : List Fc} {turn : Int} (E : EOk env s) (S : Shp s) (e4 : env[4]? = some (some (.int turn))) (b : Bx ns t g) :
    ∃ env' g', EOk env' s ∧ Bx ns t g' ∧ dSs LC pB env g = .ok (.nx env') g' := by
  obtain ⟨v, g1, hv, b1, q1⟩ := bent_ev (turn := turn) (by omega) (by omega) S.good b
  have P0 : dS LC p0 env g = .ok (.nx (env.set 6 (some v))) g1 := by
    simp [-getElem?_pos, p0, E.c, E.sh, e4, E.l, q1]
  have E1 := E.set (i := 6) (some v) (by decide) (by decide) (by decide)
  have P1 : dS LC p1 (env.set 6 (some v)) g1 = .ok (.nx ((env.set 6 (some v)).set 7 (some (.bl (CX v))))) g1 := by
    simp [-getElem?_pos, p1, E.l, is_complex_ev (by omega) hv]
  have E2 := E1.set (i := 7) (some (.bl (CX v))) (by decide) (by decide) (by decide)
  have P2 : dS LC p2 ((env.set 6 (some v)).set 7 (some (.bl (CX v)))) g1 = .ok (.nx ((env.set 6 (some v)).set 7 (some (.bl (CX v))))) g1 := by
    simp [-getElem?_pos, p2, E.l, List.getElem?_set, law_is_complex_ev (by omega) hv, eq_bool]
  generalize he2 : (env.set 6 (some v)).set 7 (some (.bl (CX v))) = env2 at *
  obtain ⟨k, g2, k1, k2, b2, q2⟩ := take_bx b1 (many := 4) (by omega) (by omega)
  obtain ⟨n, rfl⟩ : ∃ n : Nat, k = n := ⟨k.toNat, by omega⟩
  have al : (allF s).length ≤ 262144 := allF_small S.sm
  have fl : (sortF (allF s)).length ≤ 262144 := by rw [(sortF_perm _).length_eq]; exact al
  have fne : sortF (allF s) ≠ [] := by
    obtain ⟨f, hf⟩ := List.exists_mem_of_ne_nil s S.e
    exact List.ne_nil_of_mem (a := f) (mem_sortF.mpr (mem_allF.mpr ⟨f, hf, (S.f f hf).1, List.Sublist.refl _⟩))
  have E2w := E2.set (i := 11) none (by decide) (by decide) (by decide)
  obtain ⟨T, g3, t1, t2, b3, q3⟩ := pick_comp fne (by omega) E2w.c E2w.fa (by rw [E2w.l]; decide) (List.range n) [] g2 b2 (by simp [LIM]; omega)
  have tn : T.length < 64 := by rw [t1]; simp; omega
  have T5 : ∀ f ∈ T, f ≠ [] ∧ f.length ≤ 5 := fun f hf => by
    obtain ⟨a, a1, a2, a3⟩ := mem_allF.mp (mem_sortF.mp (t2 f hf))
    have := a3.length_le
    have := (S.f a a1).2
    exact ⟨a2, by omega⟩
  obtain ⟨rows, r1, r2, r0, r3⟩ := law_greatest_ev (h := g3) (v := .lst (T.map tI)) (ks := T) rfl tn (fun f hf => (T5 f hf).1) (fun f hf => by have := (T5 f hf).2; simp [LIM]; omega)
  have P3 : dS LC p3 env2 g1 = .ok (.nx (env2.set 8 (some (.tup ((rows.filter (top1 rows)).map tI))))) g3 := by
    simp -implicitDefEqProofs [-getElem?_pos, p3, E2.c, E2.l, q2, rngV_nat (show n ≤ 16777216 by omega)]
    rw [q3]
    simp -implicitDefEqProofs
    rw [r3]
    simp -implicitDefEqProofs [-getElem?_pos, E2.l]
  have gp : good 40 5 (.tup ((rows.filter (top1 rows)).map tI)) = true := good_tup (by
    have := List.length_filter_le (top1 rows) rows
    simp only [List.length_map]
    rw [List.length_range] at t1
    omega) fun x hx => by
      obtain ⟨f, hf, rfl⟩ := List.mem_map.mp hx
      have := T5 f ((r2 f).mp (List.mem_filter.mp hf).1)
      refine good_tup (by simp; omega) fun y hy => ?_
      obtain ⟨i, _, rfl⟩ := List.mem_map.mp hy
      exact good_int _ _ _
  have E3 := E2.set (i := 8) (some (.tup ((rows.filter (top1 rows)).map tI))) (by decide) (by decide) (by decide)
  have e43 : (env2.set 8 (some (.tup ((rows.filter (top1 rows)).map tI))))[4]? = some (some (.int turn)) := by
    rw [← he2]
    simp [List.getElem?_set, e4]
  have e83 : (env2.set 8 (some (.tup ((rows.filter (top1 rows)).map tI))))[8]? = some (some (.tup ((rows.filter (top1 rows)).map tI))) := by
    simp [E2.l]
  generalize env2.set 8 (some (.tup ((rows.filter (top1 rows)).map tI))) = env3 at *
  obtain ⟨w, g4, hw, b4, q4⟩ := bent_ev (turn := turn.fmod 2) (by omega) (by omega) gp b3
  have P4 : dS LC p4 env3 g3 = .ok (.nx (env3.set 8 (some w))) g4 := by
    simp [-getElem?_pos, p4, E3.c, e83, e43, E3.l]
    rw [ev_mod (by decide)]
    simp [-getElem?_pos, q4, E3.l]
  have E4 := E3.set (i := 8) (some w) (by decide) (by decide) (by decide)
  have e84 : (env3.set 8 (some w))[8]? = some (some w) := by simp [E3.l]
  generalize env3.set 8 (some w) = env4 at *
  have P5 : dS LC p5 env4 g4 = .ok (.nx (env4.set 9 (some (.bl (PT s w))))) g4 := by
    have A := law_are_greatest_ev (h := g4) (by omega) hw
    cases ha : agV w with
    | false =>
      rw [ha] at A
      rw [PT_not ha]
      simp [-getElem?_pos, p5, e84, A, E4.l]
    | true =>
      rw [ha] at A
      cases w with
      | tup xs =>
        obtain ⟨ks, h1, h2, h3, h4, h5, h6⟩ := ag_typed (by omega) hw ha
        rw [PT_tup, h1]
        simp only [h6, Bool.true_and]
        have lk : lockV 8 env4 g4 = none := by
          simp [-getElem?_pos, lockV, e84]
        simp [-getElem?_pos, p5, e84, A, lk]
        rw [h2, comp_map (fun f : Fc => .bl (decide (f ∈ allF s))) rfl _ (fun f hf => ⟨_, by simp [E4.l]; rfl, by simp [-getElem?_pos, List.getElem?_set, E4.l, E4.fa, in_tIs, mem_sortF]⟩) (by simp [LIM]; omega)]
        simp only [R.bind_ok, x_mkf]
        rw [all_enc]
        simp [E4.l]
      | _ => cases ha
  have P6 : dS LC p6 (env4.set 9 (some (.bl (PT s w)))) g4 = .ok (.nx ((env4.set 9 (some (.bl (PT s w)))).set 7 (some (.bl (PT s w))))) g4 := by
    simp [-getElem?_pos, p6, List.getElem?_set, E4.l, E4.sh, e84, is_part_ev (by omega) S.sm hw]
  have P7 : dS LC p7 ((env4.set 9 (some (.bl (PT s w)))).set 7 (some (.bl (PT s w)))) g4 = .ok (.nx ((env4.set 9 (some (.bl (PT s w)))).set 7 (some (.bl (PT s w))))) g4 := by
    simp [-getElem?_pos, p7, List.getElem?_set, E4.l, eq_bool]
  refine ⟨_, g4, (E4.set (i := 9) (some (.bl (PT s w))) (by decide) (by decide) (by decide)).set (i := 7) (some (.bl (PT s w))) (by decide) (by decide) (by decide), b4, ?_⟩
  simp only [pB, x_scons, P0, P1, P2, P3, P4, P5, P6, P7, R.bind_ok, x_snil]
end K10
namespace K10
open PySem HW
theorem lvl_small {s : List Fc} (S : Shp s) (d : Int) : (lvl s d).length ≤ 1280 := by
  have h1 := length_allG (m := 5) (s := s) (S := []) fun f hf => (S.f f hf).2
  have h2 := S.n
  have h3 : (lvl s d).length ≤ (sortF (allF s)).length := List.length_filter_le _ _
  rw [(sortF_perm _).length_eq] at h3
  unfold allF at h3
  simp at h1
  omega
theorem lvl_len12 {s : List Fc} (S : Shp s) {d : Int} {f : Fc} (h : f ∈ lvl s d) : f.length ≤ 12 := allF_len S.sm (mem_lvl.mp h).1
theorem get_small {A : Tb} (h : ∀ p ∈ A, small p.2 = true) (f : Fc) : small (get A f) = true := by
  induction A with
  | nil => rfl
  | cons p A ih =>
    rw [get]
    split
    · exact h p (List.mem_cons_self ..)
    · exact ih fun q hq => h q (List.mem_cons_of_mem _ hq)
theorem bnd_keys {T : Tb} (hf : ∀ p ∈ T, p.1.length ≤ 12) : ∀ p ∈ tld (bnd T), p.1.length ≤ 12 := fun p hp => by
  obtain ⟨q, h1, r, h2, h3⟩ := mem_bnd (tld_keys hp)
  have := (sd_mem h2).1.length_le
  have := hf q h1
  rw [h3]
  omega
theorem tb_length {T : Tb} (hf : ∀ p ∈ T, p.1.length ≤ 12) : (tld (bnd T)).length ≤ T.length * 12 := Nat.le_trans (tld_length _) (bnd_length hf)
theorem cob_length {s : List Fc} (S : Shp s) (A : Tb) : (cob s A).length ≤ 1280 := by
  cases A with
  | nil => simp [cob]
  | cons a A =>
    rw [cob]
    refine Nat.le_trans (tld_length _) ?_
    rw [cobT_length]
    exact lvl_small S _
theorem nod_cob {s : List Fc} (A : Tb) : nod (cob s A) := by
  cases A with
  | nil => exact nod_nil
  | cons a A => exact nod_tld (nod_cobT (nodup_lvl _ _) _)
theorem cob_keys {s : List Fc} (S : Shp s) (A : Tb) : ∀ p ∈ cob s A, p.1.length ≤ 12 := fun p hp => by
  cases A with
  | nil => cases hp
  | cons a A =>
    obtain ⟨f, hf, rfl⟩ := List.mem_map.mp (tld_keys hp)
    exact lvl_len12 S hf
section
variable {h : PHeap}
theorem dict_ch {al : Bool} {A : Tb} (hn : nod A) (hl : A.length ≤ LIM) : convop .dict al (ch A) h = mkDict al (dc A) h := dict_t hn hl
@[simp] theorem x_wch {A : Tb} : walkSrc h (ch A) = some (A.map cp, fun _ => true) := rfl
theorem lock_ch {i : Nat} {env : HW.Env} {A : Tb} (e : env[i]? = some (some (ch A))) : lockV i env h = none := by
  unfold lockV
  rw [e]
  rfl
theorem lim_of {n m : Nat} (h : n ≤ m) (hm : m ≤ 10000000) : n ≤ LIM := by
  simp [LIM]
  omega
theorem al_ch {T : Tb} (hl : T.length ≤ 1000000) (hf : ∀ p ∈ T, p.1.length ≤ 12) : s__law_alike [ch T, ch T] h = .ok (.bl true) h :=
  alike_ch (lim_of hl (by omega)) fun p hp => lim_of (hf p hp) (by omega)
theorem eq_nil : pyEq h (ch []) (.tup []) = some true := eq_same (n := 3) (by omega) (tame_ch [])
/-- what the last turns ask *)-/
structure Q (env : HW.Env) (s : List Fc) (d : Nat) (A B C : Tb) (k : Int) : Prop extends EOk env s where
  a : env[14]? = some (some (ch A))
  b : env[15]? = some (some (ch B))
  c' : env[16]? = some (some (ch C))
  kv : env[11]? = some (some (.int k))
  ka : Chn (lvl s d) A
  kb : Chn (lvl s d) B
  kc : Chn (lvl s ((d : Int) + 1)) C
  sk : small k = true
variable {env : HW.Env} {s : List Fc} {d : Nat} {A B C : Tb} {k : Int}
theorem Q5 (S : Shp s) (q : Q env s d A B C k) (e10 : env[10]? = some (some (.ref h.length))) : dS LC q5 env (h ++ [.dct (dc (updA A B))]) = .ok (.nx env) (h ++ [.dct (dc (updA A B))]) := by
  have l1 := lvl_small S d
  have l2 := q.ka.l
  have l3 := q.kb.l
  have l4 := updA_length B A
  have l5 := tld_length (updA A B)
  have r1 := fun g => added_ev (h := g) (A := A) (B := B) q.ka.n (by omega)
  have r2 := chain_live (h := h) (T := updA A B) (nod_updA q.ka.n) (lim_of (m := 3000) (by omega) (by omega))
  have r3 := fun g => al_ch (h := g) (T := tld (updA A B)) (by omega) fun p hp => by
    rcases mem_updA (tld_keys hp) with ⟨r, h1, h2⟩ | ⟨r, h1, h2⟩
    · rw [← h2]
      exact lvl_len12 S (q.ka.k r h1)
    · rw [← h2]
      exact lvl_len12 S (q.kb.k r h1)
  simp [-getElem?_pos, q5, q.a, q.b, e10, r1, r2, r3]
theorem Q6 (S : Shp s) (q : Q env s d A B C k) : dS LC q6 env h = .ok (.nx env) h := by
  have l1 := lvl_small S d
  have l2 := q.ka.l
  have l3 : (mulT k A).length = A.length := by simp [mulT]
  have l4 := tld_length (mulT k A)
  have r1 := fun g => multiple_ev (h := g) (A := A) (k := k) q.sk q.ka.n (lim_of (m := 3000) (by omega) (by omega))
  have r2 := fun g => chain_ev (h := g) (T := mulT k A) (nod_mulT q.ka.n k) (lim_of (m := 3000) (by omega) (by omega))
  have r4 := fun g => dict_l (h := g) (al := false) (A := mulT k A) (nod_mulT q.ka.n k) (lim_of (m := 3000) (by omega) (by omega))
  have r3 := fun g => al_ch (h := g) (T := tld (mulT k A)) (by omega) fun p hp => by
    obtain ⟨r, h1, h2⟩ := List.mem_map.mp (tld_keys hp)
    rw [← h2]
    exact lvl_len12 S (q.ka.k r h1)
  simp [-getElem?_pos, q6, q.a, q.kv, lock_ch q.a, r1]
  rw [comp_map (fun p => cp (p.1, k * p.2)) rfl _ (fun p hp => ⟨_, by simp [q.l]; rfl, by
    simp [-getElem?_pos, List.getElem?_set, q.l, q.kv]
    rw [ev_mul (by simp [q.sk])]
    rfl⟩) (lim_of (m := 3000) (by omega) (by omega))]
  rw [show A.map (fun p => cp (p.1, k * p.2)) = (mulT k A).map cp from by simp [mulT, Function.comp_def]]
  simp [r4, r2, r3]
theorem Q7 (S : Shp s) (q : Q env s d A B C k) : dS LC q7 env h = .ok (.nx env) h := by
  have l1 := lvl_small S ((d : Int) + 1)
  have l2 := q.kc.l
  have f1 : ∀ p ∈ C, p.1.length ≤ 12 := fun p hp => lvl_len12 S (q.kc.k p hp)
  have l3 := tb_length f1
  have r1 := fun g => boundary_ev (h := g) (T := C) (by omega) f1
  have r2 := fun g => law_boundary_ev (h := g) (T := C) (by omega) f1
  have r3 := fun g => boundary_ev (h := g) (T := tld (bnd C)) (by omega) (bnd_keys f1)
  have r4 := fun g => al_ch (h := g) (T := tld (bnd C)) (by omega) (bnd_keys f1)
  simp [-getElem?_pos, q7, q.c', r1, r2, r3, r4, bb, eq_nil]
theorem Q8 (S : Shp s) (q : Q env s d A B C k) : dS LC q8 env h = .ok (.nx env) h := by
  have l1 := lvl_small S d
  have l2 := q.ka.l
  have hA : ∀ p ∈ A, p.1.length = d + 1 := fun p hp => by
    have := (mem_lvl.mp (q.ka.k p hp)).2
    omega
  have l3 := cob_length S A
  have r1 := fun g => coboundary_ev (h := g) S.sm (A := A) q.ka.n (by omega)
  have r2 := fun g => law_coboundary_ev (h := g) S.sm (A := A) q.ka.n (by omega)
  have r3 := fun g => coboundary_ev (h := g) S.sm (A := cob s A) (nod_cob A) (by omega)
  have r4 := fun g => al_ch (h := g) (T := cob s A) (by omega) (cob_keys S A)
  simp [-getElem?_pos, q8, q.a, q.sh, r1, r2, r3, r4, cob_cob hA, eq_nil]
theorem Q9 (S : Shp s) (q : Q env s d A B C k) : dS LC q9 env h = .ok (.nx env) h := by
  have l1 := lvl_small S d
  have l1' := lvl_small S ((d : Int) + 1)
  have l2 := q.ka.l
  have l2' := q.kb.l
  have l2'' := q.kc.l
  have hA : ∀ p ∈ A, p.1.length = d + 1 := fun p hp => by
    have := (mem_lvl.mp (q.ka.k p hp)).2
    omega
  have hC : ∀ p ∈ C, p.1 ∈ lvl s ((d + 1 : Nat) : Int) := fun p hp => by
    have := q.kc.k p hp
    simpa using this
  have l3 := cob_length S A
  have f1 : ∀ p ∈ C, p.1.length ≤ 12 := fun p hp => lvl_len12 S (q.kc.k p hp)
  have l4 := tb_length f1
  have r1 := fun g => coboundary_ev (h := g) S.sm (A := A) q.ka.n (by omega)
  have r2 := fun g => boundary_ev (h := g) (T := C) (by omega) f1
  have v1 := fun g => value_ev (h := g) (A := A) (B := B) q.ka.n (lim_of (m := 3000) (by omega) (by omega)) (lim_of (m := 3000) (by omega) (by omega)) fun p hp => by rw [q.kb.s p hp]; simp
  have v2 := fun g => value_ev (h := g) (A := cob s A) (B := C) (nod_cob A) (lim_of (m := 3000) (by omega) (by omega)) (lim_of (m := 3000) (by omega) (by omega)) fun p hp => by rw [q.kc.s p hp]; simp
  have v3 := fun g => value_ev (h := g) (A := A) (B := tld (bnd C)) q.ka.n (lim_of (m := 3000) (by omega) (by omega)) (lim_of (m := 1000000) (by omega) (by omega)) fun p hp => by rw [get_small q.ka.s]; simp
  simp [-getElem?_pos, q9, q.a, q.b, q.c', q.sh, value_same, r1, r2, v1, v2, v3, eq_int, adj hA hC]
end
theorem body2 {ns : List Int} {t g : PHeap} {env : HW.Env} {s : List Fc} {d : Nat} (E : EOk env s) (S : Shp s) (e5 : env[5]? = some (some (.int d))) (b : Bx ns t g) :
    ∃ t' env' g', EOk env' s ∧ Bx ns t' g' ∧ dSs LC qB env g = .ok (.nx env') g' := by
  have l1 := lvl_small S d
  have l1' := lvl_small S ((d : Int) + 1)
  have P0 : dS LC q0 env g = .ok (.nx ((env.set 12 (some (.lst ((lvl s d).map tI)))).set 13 (some (.lst ((lvl s ((d : Int) + 1)).map tI))))) g := by
    simp [-getElem?_pos, q0, E.sh, e5, E.l, level_ev S.sm]
  have E1 := (E.set (i := 12) (some (.lst ((lvl s d).map tI))) (by decide) (by decide) (by decide)).set (i := 13) (some (.lst ((lvl s ((d : Int) + 1)).map tI))) (by decide) (by decide) (by decide)
  have e12 : ((env.set 12 (some (.lst ((lvl s d).map tI)))).set 13 (some (.lst ((lvl s ((d : Int) + 1)).map tI))))[12]? = some (some (.lst ((lvl s d).map tI))) := by
    simp [-getElem?_pos, List.getElem?_set, E.l]
  have e13 : ((env.set 12 (some (.lst ((lvl s d).map tI)))).set 13 (some (.lst ((lvl s ((d : Int) + 1)).map tI))))[13]? = some (some (.lst ((lvl s ((d : Int) + 1)).map tI))) := by
    simp [-getElem?_pos, List.getElem?_set, E.l]
  generalize (env.set 12 (some (.lst ((lvl s d).map tI)))).set 13 (some (.lst ((lvl s ((d : Int) + 1)).map tI))) = env1 at *
  obtain ⟨A, g1, ka, b1, r1⟩ := some_ev (L := lvl s d) (nodup_lvl _ _) (by omega) b
  obtain ⟨B, g2, kb, b2, r2⟩ := some_ev (L := lvl s d) (nodup_lvl _ _) (by omega) b1
  obtain ⟨C, g3, kc, b3, r3⟩ := some_ev (L := lvl s ((d : Int) + 1)) (nodup_lvl _ _) (by omega) b2
  have la := ka.l
  have lb := kb.l
  have P1 : dS LC q1 env1 g = .ok (.nx (((env1.set 14 (some (ch A))).set 15 (some (ch B))).set 16 (some (ch C)))) g3 := by
    simp [-getElem?_pos, q1, E1.c, e12, e13, E1.l, r1, r2, r3]
  have E2 := ((E1.set (i := 14) (some (ch A)) (by decide) (by decide) (by decide)).set (i := 15) (some (ch B)) (by decide) (by decide) (by decide)).set (i := 16) (some (ch C)) (by decide) (by decide) (by decide)
  have a2 : (((env1.set 14 (some (ch A))).set 15 (some (ch B))).set 16 (some (ch C)))[14]? = some (some (ch A)) := by
    simp [-getElem?_pos, List.getElem?_set, E1.l]
  have b2' : (((env1.set 14 (some (ch A))).set 15 (some (ch B))).set 16 (some (ch C)))[15]? = some (some (ch B)) := by
    simp [-getElem?_pos, List.getElem?_set, E1.l]
  have c2 : (((env1.set 14 (some (ch A))).set 15 (some (ch B))).set 16 (some (ch C)))[16]? = some (some (ch C)) := by
    simp [-getElem?_pos, List.getElem?_set, E1.l]
  generalize ((env1.set 14 (some (ch A))).set 15 (some (ch B))).set 16 (some (ch C)) = env2 at *
  have P2 : dS LC q2 env2 g3 = .ok (.nx (env2.set 10 (some (.ref g3.length)))) (g3 ++ [.dct (dc A)]) := by
    simp [-getElem?_pos, q2, a2, dict_ch ka.n (lim_of (m := 3000) (by omega) (by omega)), E2.l]
  have e103 : (env2.set 10 (some (.ref g3.length)))[10]? = some (some (.ref g3.length)) := by
    simp [-getElem?_pos, List.getElem?_set, E2.l]
  obtain ⟨x, y, r4⟩ := add_loop (h := g3) (ctx := LC) (i := 10) (j := 17) (k := 18) (by decide) (by decide) (by decide) (env := env2.set 10 (some (.ref g3.length))) e103 (by simp [E2.l]) (by simp [E2.l]) (D := A) (B := B) (by omega)
  have P3 : dS LC q3 (env2.set 10 (some (.ref g3.length))) (g3 ++ [.dct (dc A)]) = .ok (.nx (((env2.set 10 (some (.ref g3.length))).set 17 x).set 18 y)) (g3 ++ [.dct (dc (updA A B))]) := by
    have e15 : (env2.set 10 (some (.ref g3.length)))[15]? = some (some (ch B)) := by
      simp [-getElem?_pos, List.getElem?_set, E2.l, b2']
    simp only [q3, x_for, x_lkv, lock_ch e15, x_lk, x_ex, x_var, e15, R.bind_ok, x_wch, R.of_some, r4]
  have E3 := ((E2.set (i := 10) (some (.ref g3.length)) (by decide) (by decide) (by decide)).set (i := 17) x (by decide) (by decide) (by decide)).set (i := 18) y (by decide) (by decide) (by decide)
  have a3 : (((env2.set 10 (some (.ref g3.length))).set 17 x).set 18 y)[14]? = some (some (ch A)) := by
    simp [-getElem?_pos, List.getElem?_set, E2.l, a2]
  have b3' : (((env2.set 10 (some (.ref g3.length))).set 17 x).set 18 y)[15]? = some (some (ch B)) := by
    simp [-getElem?_pos, List.getElem?_set, E2.l, b2']
  have c3 : (((env2.set 10 (some (.ref g3.length))).set 17 x).set 18 y)[16]? = some (some (ch C)) := by
    simp [-getElem?_pos, List.getElem?_set, E2.l, c2]
  have d3 : (((env2.set 10 (some (.ref g3.length))).set 17 x).set 18 y)[10]? = some (some (.ref g3.length)) := by
    simp [-getElem?_pos, List.getElem?_set, E2.l]
  generalize ((env2.set 10 (some (.ref g3.length))).set 17 x).set 18 y = env3 at *
  obtain ⟨k, gg, k1, k2, bb', r5⟩ := take_bx (bx_app (e := [.dct (dc (updA A B))]) b3) (many := 5) (by omega) (by omega)
  obtain ⟨h5, rfl, b5⟩ := bx_split bb'
  have hl : h5.length = g3.length := by rw [bx_len b5, bx_len b3]
  have P4 : dS LC q4 env3 (g3 ++ [.dct (dc (updA A B))]) = .ok (.nx (env3.set 11 (some (.int (k - 2))))) (h5 ++ [.dct (dc (updA A B))]) := by
    simp [-getElem?_pos, q4, E3.c, E3.l, r5]
  have E4 := E3.set (i := 11) (some (.int (k - 2))) (by decide) (by decide) (by decide)
  have QQ : Q (env3.set 11 (some (.int (k - 2)))) s d A B C (k - 2) :=
    { E4 with
      a := by simp [-getElem?_pos, List.getElem?_set, E3.l, a3]
      b := by simp [-getElem?_pos, List.getElem?_set, E3.l, b3']
      c' := by simp [-getElem?_pos, List.getElem?_set, E3.l, c3]
      kv := by simp [-getElem?_pos, List.getElem?_set, E3.l]
      ka := ka
      kb := kb
      kc := kc
      sk := small_of (by omega) (by omega) }
  have d4 : (env3.set 11 (some (.int (k - 2))))[10]? = some (some (.ref h5.length)) := by
    simp [-getElem?_pos, List.getElem?_set, E3.l, d3, hl]
  refine ⟨t ++ [.dct (dc (updA A B))], _, _, E4, bx_app b5, ?_⟩
  simp only [qB, x_scons, P0, P1, P2, P3, P4, Q5 S QQ d4, Q6 S QQ, Q7 S QQ, Q8 S QQ, Q9 S QQ, R.bind_ok, x_snil]
theorem rngV6 {h : PHeap} : rngV (.int 6) h = .ok ((List.range 6).map fun (i : Nat) => PV.int i) h := rngV_nat (n := 6) (by decide)
theorem rngV5 {h : PHeap} : rngV (.int 5) h = .ok ((List.range 5).map fun (i : Nat) => PV.int i) h := rngV_nat (n := 5) (by decide)
theorem rngV4 {h : PHeap} : rngV (.int 4) h = .ok ((List.range 4).map fun (i : Nat) => PV.int i) h := rngV_nat (n := 4) (by decide)
theorem math (ns : List Int) (hl : ns.length ≤ 63) (_ : ∀ z ∈ ns, Builtin.Int.intBits z ≤ 1048576) : ∃ h, s_law [.scr ns] [] = .ok (.bl true) h := by
  have st := start_ev ns hl
  have b0 : Bx ns [] [box ns 0 0 0] := ⟨0, 0, 0, by omega, by omega, by omega, by omega, rfl⟩
  obtain ⟨s, g1, S, b1, sh⟩ := shape_ev b0
  have env0 : ∃ e : HW.Env, e = [some (.scr ns), some (.ref 0), some (.tup (s.map tI)), some (.lst ((sortF (allF s)).map tI)), none, none, none, none, none, none, none, none, none, none, none, none, none, none, none] := ⟨_, rfl⟩
  obtain ⟨env, he⟩ := env0
  have E : EOk env s := by
    subst he
    exact ⟨rfl, rfl, rfl, rfl⟩
  have M012 : dSs LC mB (some (.scr ns) :: List.replicate 18 none) [] = dSs LC (.cons m3 (.cons m4 (.cons m5 (.cons m6 .nil)))) env g1 := by
    have f := law_faces_ev (h := g1) S.sm
    subst he
    simp only [mB, x_scons]
    simp [m0, m1, m2, st, sh, f, -x_scons]
  obtain ⟨env1, g2, r3, b2, E2⟩ := for_inv (enc := fun (i : Nat) => PV.int i) (chk := fun _ => true) (tg := tgSet (.nm 4)) (body := dSs LC pB) (step := fun (_ : Unit) _ => ())
    (I := fun _ _ env g => Bx ns [] g ∧ EOk env s) (fun _ _ _ _ _ => rfl) (by
      rintro i ts _ env g ⟨b, E⟩
      obtain ⟨env', g', E', b', q⟩ := body1 (E.set (i := 4) (some (.int (i : Int))) (by decide) (by decide) (by decide)) S (turn := i) (by simp [-getElem?_pos, List.getElem?_set, E.l]) b
      exact ⟨env.set 4 (some (.int (i : Int))), by simp [E.l], env', g', q, b', E'⟩) (List.range 6) () env g1 ⟨b1, E⟩
  have M3 : dS LC m3 env g1 = .ok (.nx env1) g2 := by
    simp only [m3, x_for, x_lkr, x_lk, x_rng1, x_cst, R.bind_ok, rngV6, r3]
  have M4 : dS LC m4 env1 g2 = .ok (.nx env1) g2 := by
    have c : compGo (fun _ => true) (tgSet (.nm 5)) (dIfs LC .nil) (dE LC (.call 10 (.cons (.call 11 (.cons (.var 2) (.cons (.var 5) .nil))) (.cons (.conv .tuple false (.call 12 (.cons (.var 2) (.cons (.var 5) .nil)))) .nil)))) (env1.set 5 none) ((List.range 5).map fun (i : Nat) => PV.int i) g2 [] = .ok ((List.range 5).map fun (i : Nat) => PV.bl ((fun _ => true) i)) g2 := by
      refine comp_map (fun _ => .bl true) rfl _ (fun i _ => ⟨_, by simp [E2.l]; rfl, ?_⟩) (by simp [LIM])
      have e : ∀ {x : List PV} {h : PHeap}, convop .tuple false (.lst x) h = .ok (.tup x) h := rfl
      simp [-getElem?_pos, List.getElem?_set, E2.l, E2.sh, faces_of_ev S.sm, level_ev S.sm, e]
      exact alike_fs (lim_of (m := 3000) (by have := lvl_small S i; omega) (by omega)) fun f hf => lim_of (lvl_len12 S hf) (by omega)
    simp only [m4, x_ifs, x_T, x_not, x_conv, x_comp, x_lkr, x_lk, x_rng1, x_cst, R.bind_ok, rngV5, x_w, x_w0, c, x_mkf, all_enc]
    simp
  obtain ⟨env2, g3, r5, ⟨t, b3⟩, E3⟩ := for_inv (enc := fun (i : Nat) => PV.int i) (chk := fun _ => true) (tg := tgSet (.nm 5)) (body := dSs LC qB) (step := fun (_ : Unit) _ => ())
    (I := fun _ _ env g => (∃ t, Bx ns t g) ∧ EOk env s) (fun _ _ _ _ _ => rfl) (by
      rintro i ts _ env g ⟨⟨t, b⟩, E⟩
      obtain ⟨t', env', g', E', b', q⟩ := body2 (E.set (i := 5) (some (.int (i : Int))) (by decide) (by decide) (by decide)) S (d := i) (by simp [-getElem?_pos, List.getElem?_set, E.l]) b
      exact ⟨env.set 5 (some (.int (i : Int))), by simp [E.l], env', g', q, ⟨t', b'⟩, E'⟩) (List.range 4) () env1 g2 ⟨⟨[], b2⟩, E2⟩
  have M5 : dS LC m5 env1 g2 = .ok (.nx env2) g3 := by
    simp only [m5, x_for, x_lkr, x_lk, x_rng1, x_cst, R.bind_ok, rngV4, r5]
  refine ⟨[], ?_⟩
  rw [s_law_eq]
  show (dSs LC mB (some (.scr ns) :: List.replicate 18 none) []).bind _ = _
  rw [M012]
  simp only [x_scons, M3, M4, M5, m6, x_ret, x_cst, R.bind_ok]
  have := finish_ext (h := []) (t := g3) (v := .bl true) rfl
  simpa using this
end K10
namespace K10
open PySem PySem.Spec PyProof.Rows L2 C8 HW
theorem head {P : Program} {w : World} {K : PySem.W.Frag} {mg : Str → Option Value} {fa : Addr} (T : Top K mg) (F : LawAt K mg (topS 45) "script") (hmg : mg "law" = some (.ref fa)) :
    ∃ fd : FuncData, (∀ (s : Shared) (u : Value), BindsTo s fd ⟨[u], []⟩ [("script", u)]) ∧ ∀ base : Heap, K.In base → base.Ns mainGlobals mg → FnOk P w K mg base L2.CX0 11 fa fd ["script"] (spS ⟨P, w, K⟩ 1 s_law) :=
  law_fn (k := 10) (G := ck_law) F hmg T.b (fun base => (.cons ⟨_, (by decide), (c__law_start T)⟩ (.cons ⟨_, (by decide), (c__law_shape T)⟩ (.cons ⟨_, (by decide), (c__law_faces T)⟩ (.cons ⟨_, (by decide), (c__law_bent T)⟩ (.cons ⟨_, (by decide), (c_is_complex T)⟩ (.cons ⟨_, (by decide), (c__law_is_complex T)⟩ (.cons ⟨_, (by decide), (c__law_greatest T)⟩ (.cons ⟨_, (by decide), (c__law_take T)⟩ (.cons ⟨_, (by decide), (c__law_are_greatest T)⟩ (.cons ⟨_, (by decide), (c_is_part T)⟩ (.cons ⟨_, (by decide), (c__law_alike T)⟩ (.cons ⟨_, (by decide), (c_faces_of T)⟩ (.cons ⟨_, (by decide), (c__law_level T)⟩ (.cons ⟨_, (by decide), (c__law_some T)⟩ (.cons ⟨_, (by decide), (c_added T)⟩ (.cons ⟨_, (by decide), (c__law_chain T)⟩ (.cons ⟨_, (by decide), (c_multiple T)⟩ (.cons ⟨_, (by decide), (c_boundary T)⟩ (.cons ⟨_, (by decide), (c__law_boundary T)⟩ (.cons ⟨_, (by decide), (c_coboundary T)⟩ (.cons ⟨_, (by decide), (c__law_coboundary T)⟩ (.cons ⟨_, (by decide), (c_value_on T)⟩ (.cons ⟨_, (by decide), (c__law_value T)⟩ .nil)))))))))))))))))))))))) .nil kf_law
theorem blt_none {K : PySem.W.Frag} {mg : Str → Option Value} {h : Heap} (X : K.In h) (G : h.Ns mainGlobals mg) (z0 : PySem.W.nsIn K mainGlobals "len" = some none) (z1 : PySem.W.nsIn K mainGlobals "abs" = some none) (z2 : PySem.W.nsIn K mainGlobals "max" = some none) (z3 : PySem.W.nsIn K mainGlobals "min" = some none) (z4 : PySem.W.nsIn K mainGlobals "int" = some none) (z5 : PySem.W.nsIn K mainGlobals "isinstance" = some none) (z6 : PySem.W.nsIn K mainGlobals "sorted" = some none) (z7 : PySem.W.nsIn K mainGlobals "list" = some none) (z8 : PySem.W.nsIn K mainGlobals "tuple" = some none) (z9 : PySem.W.nsIn K mainGlobals "sum" = some none) (z10 : PySem.W.nsIn K mainGlobals "all" = some none) (z11 : PySem.W.nsIn K mainGlobals "any" = some none) (z12 : PySem.W.nsIn K mainGlobals "dict" = some none) (z13 : PySem.W.nsIn K mainGlobals "set" = some none) (z14 : PySem.W.nsIn K mainGlobals "range" = some none) (z15 : PySem.W.nsIn K mainGlobals "enumerate" = some none) (z16 : PySem.W.nsIn K mainGlobals "zip" = some none) (z17 : PySem.W.nsIn K mainGlobals "bool" = some none) (z18 : PySem.W.nsIn K mainGlobals "str" = some none) : ∀ x ∈ bltNm, mg x = none := by
  simp only [bltNm, List.forall_mem_cons, List.not_mem_nil, false_implies, implies_true, and_true]
  exact ⟨PySem.W.mg_none_of X G z0, PySem.W.mg_none_of X G z1, PySem.W.mg_none_of X G z2, PySem.W.mg_none_of X G z3, PySem.W.mg_none_of X G z4, PySem.W.mg_none_of X G z5, PySem.W.mg_none_of X G z6, PySem.W.mg_none_of X G z7, PySem.W.mg_none_of X G z8, PySem.W.mg_none_of X G z9, PySem.W.mg_none_of X G z10, PySem.W.mg_none_of X G z11, PySem.W.mg_none_of X G z12, PySem.W.mg_none_of X G z13, PySem.W.mg_none_of X G z14, PySem.W.mg_none_of X G z15, PySem.W.mg_none_of X G z16, PySem.W.mg_none_of X G z17, PySem.W.mg_none_of X G z18⟩
end K10
open PySem PySem.W PyProof.Rows
set_option maxHeartbeats 0 in
theorem PySem.Challenge.cw_hollowstead_k10_complexes_and_chains_holds : PySem.Challenge.rw_hollowstead_k10_complexes_and_chains.Holds := by
  w_on; o_law; k_head; (case hw => w_witness2)
  k_fill
  refine L2.walk_ofB (l := PySem.Challenge.rw_hollowstead_k10_complexes_and_chains) (n := 63) (k := 11) (x := "script") (CX := fun _ => L2.CX0) (sp := fun w => HW.spS ⟨(PySem.Challenge.rw_hollowstead_k10_complexes_and_chains).prog, w, _⟩ 1 K10.s_law) rfl (by decide) rfl ⟨rfl, by decide, by decide⟩ (fun w h Y => PySem.W.kIn_of Y) ?F (fun _ _ a ns hl hb hO hS => (K10.math ns hl hb).elim fun h m => HW.law_sp hO hS m) (fun _ _ _ _ _ h => h)
  case F =>
    intro w mg fa h KX G hmg
    refine' K10.head ⟨?d0, ?d1, ?d2, ?d3, ?d4, ?d5, ?d6, ?d7, ?d8, ?d9, ?d10, ?d11, ?d12, ?d13, ?d14, ?d15, ?d16, ?d17, ?d18, ?d19, ?d20, ?d21, ?d22, ?d23, ?d24, ?d25, ?d26, ?d27, ?d28, ?d29, ?d30, ?d31, ?d32, ?d33, ?d34, ?d35, ?d36, ?d37, ?d38, ?d39, ?gg_0, ?gg_1, ?gg_2, K10.blt_none KX G ?z0 ?z1 ?z2 ?z3 ?z4 ?z5 ?z6 ?z7 ?z8 ?z9 ?z10 ?z11 ?z12 ?z13 ?z14 ?z15 ?z16 ?z17 ?z18⟩ ?law hmg
    (case z0 => k_is); (case z1 => k_is); (case z2 => k_is); (case z3 => k_is); (case z4 => k_is); (case z5 => k_is); (case z6 => k_is); (case z7 => k_is); (case z8 => k_is); (case z9 => k_is); (case z10 => k_is); (case z11 => k_is); (case z12 => k_is); (case z13 => k_is); (case z14 => k_is); (case z15 => k_is); (case z16 => k_is); (case z17 => k_is); (case z18 => k_is)
    (case d0 => refine' HW.mkDef KX G ?hb ?a ?l ?c ?k; (case hb => exact fun _ _ _ _ _ _ us hl => match us, hl with | [_], _ => rfl); (case a => k_is); (case l => k_is); (case c => k_is); (case k => k_is))
    (case d1 => refine' HW.mkDef KX G ?hb ?a ?l ?c ?k; (case hb => exact fun _ _ _ _ _ _ us hl => match us, hl with | [_], _ => rfl); (case a => k_is); (case l => k_is); (case c => k_is); (case k => k_is))
    (case d2 => refine' HW.mkDef KX G ?hb ?a ?l ?c ?k; (case hb => exact fun _ _ _ _ _ _ us hl => match us, hl with | [_, _], _ => rfl); (case a => k_is); (case l => k_is); (case c => k_is); (case k => k_is))
    (case d3 => refine' HW.mkDef KX G ?hb ?a ?l ?c ?k; (case hb => exact fun _ _ _ _ _ _ us hl => match us, hl with | [_], _ => rfl); (case a => k_is); (case l => k_is); (case c => k_is); (case k => k_is))
    (case d4 => refine' HW.mkDef KX G ?hb ?a ?l ?c ?k; (case hb => exact fun _ _ _ _ _ _ us hl => match us, hl with | [_], _ => rfl); (case a => k_is); (case l => k_is); (case c => k_is); (case k => k_is))
    (case d5 => refine' HW.mkDef KX G ?hb ?a ?l ?c ?k; (case hb => exact fun _ _ _ _ _ _ us hl => match us, hl with | [_], _ => rfl); (case a => k_is); (case l => k_is); (case c => k_is); (case k => k_is))
    (case d6 => refine' HW.mkDef KX G ?hb ?a ?l ?c ?k; (case hb => exact fun _ _ _ _ _ _ us hl => match us, hl with | [_], _ => rfl); (case a => k_is); (case l => k_is); (case c => k_is); (case k => k_is))
    (case d7 => refine' HW.mkDef KX G ?hb ?a ?l ?c ?k; (case hb => exact fun _ _ _ _ _ _ us hl => match us, hl with | [_], _ => rfl); (case a => k_is); (case l => k_is); (case c => k_is); (case k => k_is))
    (case d8 => refine' HW.mkDef KX G ?hb ?a ?l ?c ?k; (case hb => exact fun _ _ _ _ _ _ us hl => match us, hl with | [_, _], _ => rfl); (case a => k_is); (case l => k_is); (case c => k_is); (case k => k_is))
    (case d9 => refine' HW.mkDef KX G ?hb ?a ?l ?c ?k; (case hb => exact fun _ _ _ _ _ _ us hl => match us, hl with | [_, _], _ => rfl); (case a => k_is); (case l => k_is); (case c => k_is); (case k => k_is))
    (case d10 => refine' HW.mkDef KX G ?hb ?a ?l ?c ?k; (case hb => exact fun _ _ _ _ _ _ us hl => match us, hl with | [_], _ => rfl); (case a => k_is); (case l => k_is); (case c => k_is); (case k => k_is))
    (case d11 => refine' HW.mkDef KX G ?hb ?a ?l ?c ?k; (case hb => exact fun _ _ _ _ _ _ us hl => match us, hl with | [_], _ => rfl); (case a => k_is); (case l => k_is); (case c => k_is); (case k => k_is))
    (case d12 => refine' HW.mkDef KX G ?hb ?a ?l ?c ?k; (case hb => exact fun _ _ _ _ _ _ us hl => match us, hl with | [_], _ => rfl); (case a => k_is); (case l => k_is); (case c => k_is); (case k => k_is))
    (case d13 => refine' HW.mkDef KX G ?hb ?a ?l ?c ?k; (case hb => exact fun _ _ _ _ _ _ us hl => match us, hl with | [_, _], _ => rfl); (case a => k_is); (case l => k_is); (case c => k_is); (case k => k_is))
    (case d14 => refine' HW.mkDef KX G ?hb ?a ?l ?c ?k; (case hb => exact fun _ _ _ _ _ _ us hl => match us, hl with | [_, _], _ => rfl); (case a => k_is); (case l => k_is); (case c => k_is); (case k => k_is))
    (case d15 => refine' HW.mkDef KX G ?hb ?a ?l ?c ?k; (case hb => exact fun _ _ _ _ _ _ us hl => match us, hl with | [_, _], _ => rfl); (case a => k_is); (case l => k_is); (case c => k_is); (case k => k_is))
    (case d16 => refine' HW.mkDef KX G ?hb ?a ?l ?c ?k; (case hb => exact fun _ _ _ _ _ _ us hl => match us, hl with | [_, _], _ => rfl); (case a => k_is); (case l => k_is); (case c => k_is); (case k => k_is))
    (case d17 => refine' HW.mkDef KX G ?hb ?a ?l ?c ?k; (case hb => exact fun _ _ _ _ _ _ us hl => match us, hl with | [_], _ => rfl); (case a => k_is); (case l => k_is); (case c => k_is); (case k => k_is))
    (case d18 => refine' HW.mkDef KX G ?hb ?a ?l ?c ?k; (case hb => exact fun _ _ _ _ _ _ us hl => match us, hl with | [_], _ => rfl); (case a => k_is); (case l => k_is); (case c => k_is); (case k => k_is))
    (case d19 => refine' HW.mkDef KX G ?hb ?a ?l ?c ?k; (case hb => exact fun _ _ _ _ _ _ us hl => match us, hl with | [_, _], _ => rfl); (case a => k_is); (case l => k_is); (case c => k_is); (case k => k_is))
    (case d20 => refine' HW.mkDef KX G ?hb ?a ?l ?c ?k; (case hb => exact fun _ _ _ _ _ _ us hl => match us, hl with | [_], _ => rfl); (case a => k_is); (case l => k_is); (case c => k_is); (case k => k_is))
    (case d21 => refine' HW.mkDef KX G ?hb ?a ?l ?c ?k; (case hb => exact fun _ _ _ _ _ _ us hl => match us, hl with | [_, _], _ => rfl); (case a => k_is); (case l => k_is); (case c => k_is); (case k => k_is))
    (case d22 => refine' HW.mkDef KX G ?hb ?a ?l ?c ?k; (case hb => exact fun _ _ _ _ _ _ us hl => match us, hl with | [_, _], _ => rfl); (case a => k_is); (case l => k_is); (case c => k_is); (case k => k_is))
    (case d23 => refine' HW.mkDef KX G ?hb ?a ?l ?c ?k; (case hb => exact fun _ _ _ _ _ _ us hl => match us, hl with | [_, _, _], _ => rfl); (case a => k_is); (case l => k_is); (case c => k_is); (case k => k_is))
    (case d24 => refine' HW.mkDef KX G ?hb ?a ?l ?c ?k; (case hb => exact fun _ _ _ _ _ _ us hl => match us, hl with | [_], _ => rfl); (case a => k_is); (case l => k_is); (case c => k_is); (case k => k_is))
    (case d25 => refine' HW.mkDef KX G ?hb ?a ?l ?c ?k; (case hb => exact fun _ _ _ _ _ _ us hl => match us, hl with | [_], _ => rfl); (case a => k_is); (case l => k_is); (case c => k_is); (case k => k_is))
    (case d26 => refine' HW.mkDef KX G ?hb ?a ?l ?c ?k; (case hb => exact fun _ _ _ _ _ _ us hl => match us, hl with | [_, _], _ => rfl); (case a => k_is); (case l => k_is); (case c => k_is); (case k => k_is))
    (case d27 => refine' HW.mkDef KX G ?hb ?a ?l ?c ?k; (case hb => exact fun _ _ _ _ _ _ us hl => match us, hl with | [_, _], _ => rfl); (case a => k_is); (case l => k_is); (case c => k_is); (case k => k_is))
    (case d28 => refine' HW.mkDef KX G ?hb ?a ?l ?c ?k; (case hb => exact fun _ _ _ _ _ _ us hl => match us, hl with | [_], _ => rfl); (case a => k_is); (case l => k_is); (case c => k_is); (case k => k_is))
    (case d29 => refine' HW.mkDef KX G ?hb ?a ?l ?c ?k; (case hb => exact fun _ _ _ _ _ _ us hl => match us, hl with | [], _ => rfl); (case a => k_is); (case l => k_is); (case c => k_is); (case k => k_is))
    (case d30 => refine' HW.mkDef KX G ?hb ?a ?l ?c ?k; (case hb => exact fun _ _ _ _ _ _ us hl => match us, hl with | [_], _ => rfl); (case a => k_is); (case l => k_is); (case c => k_is); (case k => k_is))
    (case d31 => refine' HW.mkDef KX G ?hb ?a ?l ?c ?k; (case hb => exact fun _ _ _ _ _ _ us hl => match us, hl with | [_], _ => rfl); (case a => k_is); (case l => k_is); (case c => k_is); (case k => k_is))
    (case d32 => refine' HW.mkDef KX G ?hb ?a ?l ?c ?k; (case hb => exact fun _ _ _ _ _ _ us hl => match us, hl with | [_], _ => rfl); (case a => k_is); (case l => k_is); (case c => k_is); (case k => k_is))
    (case d33 => refine' HW.mkDef KX G ?hb ?a ?l ?c ?k; (case hb => exact fun _ _ _ _ _ _ us hl => match us, hl with | [_], _ => rfl); (case a => k_is); (case l => k_is); (case c => k_is); (case k => k_is))
    (case d34 => refine' HW.mkDef KX G ?hb ?a ?l ?c ?k; (case hb => exact fun _ _ _ _ _ _ us hl => match us, hl with | [_, _], _ => rfl); (case a => k_is); (case l => k_is); (case c => k_is); (case k => k_is))
    (case d35 => refine' HW.mkDef KX G ?hb ?a ?l ?c ?k; (case hb => exact fun _ _ _ _ _ _ us hl => match us, hl with | [_, _], _ => rfl); (case a => k_is); (case l => k_is); (case c => k_is); (case k => k_is))
    (case d36 => refine' HW.mkDef KX G ?hb ?a ?l ?c ?k; (case hb => exact fun _ _ _ _ _ _ us hl => match us, hl with | [_, _], _ => rfl); (case a => k_is); (case l => k_is); (case c => k_is); (case k => k_is))
    (case d37 => refine' HW.mkDef KX G ?hb ?a ?l ?c ?k; (case hb => exact fun _ _ _ _ _ _ us hl => match us, hl with | [_], _ => rfl); (case a => k_is); (case l => k_is); (case c => k_is); (case k => k_is))
    (case d38 => refine' HW.mkDef KX G ?hb ?a ?l ?c ?k; (case hb => exact fun _ _ _ _ _ _ us hl => match us, hl with | [_], _ => rfl); (case a => k_is); (case l => k_is); (case c => k_is); (case k => k_is))
    (case d39 => refine' HW.mkDef KX G ?hb ?a ?l ?c ?k; (case hb => exact fun _ _ _ _ _ _ us hl => match us, hl with | [_], _ => rfl); (case a => k_is); (case l => k_is); (case c => k_is); (case k => k_is))
    (case gg_0 => refine' HW.mkGlb KX G ?a ?r; (case a => k_is); (case r => exact ⟨_, rfl⟩))
    (case gg_1 => refine' HW.mkGlb KX G ?a ?r; (case a => k_is); (case r => exact ⟨_, rfl⟩))
    (case gg_2 => refine' HW.mkGlb KX G ?a ?r; (case a => k_is); (case r => exact ⟨_, rfl⟩))
    (case law => refine' HW.mkLaw KX G ?hb ?a ?l ?c ?k; (case hb => exact fun _ _ _ _ _ _ _ => rfl); (case a => k_is); (case l => k_is); (case c => k_is); (case k => k_is))
