import PyProof.Rows.All
import Wide.All
import OpenK.AllK
import Wide.FinOn
import HandS.ForMost
import HandS.Wide
import HandS.TupAny
import HandS.TupMul
import HandS.Deep
import HandS.Style
import HandS.Flow
import HandS.RaiseMore
import HandS.Conv
import HandS.IsInst
import HandS.Iter
import HandS.Zip
import HandS.Walk
import KE.GoesEnum
import HandS.Exc
import HandS.Defaults
import HandS.WordsExc
import HandS.HeadEnd
import HandS.HeadHook4
import HandS.Codes
import PySem.Challenge.RW_windways_k02_ways_and_places_joined
import HandS.Head0
import HandS.Head1
import HandS.Head2
section
set_option Elab.async false
set_option linter.all false
set_option maxRecDepth 100000
/-! A small language (a part of Python), its values as trees, its runs as functions. -/
namespace Wm
open PySem

/-- a value: tuples are trees, lists and dicts and instances stand in the own heap; rol: a list that is only read (the script) -/
inductive W where
  | non | bl (b : Bool) | int (i : Int) | str (x : Str) | tup (ws : List W) | ref (n : Nat) | fn (i : Nat) | cls (i : Nat) | rol (ws : List W)
  deriving Inhabited

mutual
def W.beq : W → W → Bool
  | .non, .non => true
  | .bl a, .bl b => a == b
  | .int a, .int b => decide (a = b)
  | .str a, .str b => decide (a = b)
  | .tup a, .tup b => W.beqs a b
  | .ref a, .ref b => a == b
  | .fn a, .fn b => a == b
  | .cls a, .cls b => a == b
  | .rol a, .rol b => W.beqs a b
  | _, _ => false
def W.beqs : List W → List W → Bool
  | [], [] => true
  | a :: as, b :: bs => W.beq a b && W.beqs as bs
  | _, _ => false
end
mutual
theorem W.beq_eq : ∀ {a b : W}, W.beq a b = true → a = b
  | .non, b, h => by cases b <;> simp_all [W.beq]
  | .bl _, b, h => by cases b <;> simp_all [W.beq]
  | .int _, b, h => by cases b <;> simp_all [W.beq]
  | .str _, b, h => by cases b <;> simp_all [W.beq]
  | .ref _, b, h => by cases b <;> simp_all [W.beq]
  | .fn _, b, h => by cases b <;> simp_all [W.beq]
  | .cls _, b, h => by cases b <;> simp_all [W.beq]
  | .tup as, b, h => by
    cases b with
    | tup bs => rw [W.beqs_eq (show W.beqs as bs = true from h)]
    | _ => simp [W.beq] at h
  | .rol as, b, h => by
    cases b with
    | rol bs => rw [W.beqs_eq (show W.beqs as bs = true from h)]
    | _ => simp [W.beq] at h
theorem W.beqs_eq : ∀ {a b : List W}, W.beqs a b = true → a = b
  | [], b, h => by cases b <;> simp_all [W.beqs]
  | a :: as, b, h => by
    cases b with
    | nil => simp [W.beqs] at h
    | cons b bs =>
      have h' := Bool.and_eq_true_iff.mp (show (W.beq a b && W.beqs as bs) = true from h)
      rw [W.beq_eq h'.1, W.beqs_eq h'.2]
end
mutual
theorem W.beq_refl : ∀ a : W, W.beq a a = true
  | .non => rfl
  | .bl a => by simp [W.beq]
  | .int a => by simp [W.beq]
  | .str a => by simp [W.beq]
  | .ref a => by simp [W.beq]
  | .fn a => by simp [W.beq]
  | .cls a => by simp [W.beq]
  | .tup as => W.beqs_refl as
  | .rol as => W.beqs_refl as
theorem W.beqs_refl : ∀ a : List W, W.beqs a a = true
  | [] => rfl
  | a :: as => Bool.and_eq_true_iff.mpr ⟨W.beq_refl a, W.beqs_refl as⟩
end

/-- an object of the own heap: a list; a dict (tk: its keys are tuples) -/
inductive O where
  | lst (ws : List W) | dct (tk : Bool) (kvs : List (W × W)) | ins (c : Nat) (fs : List (Str × W))
  deriving Inhabited
abbrev OH := List O
def kvBeq : List (W × W) → List (W × W) → Bool
  | [], [] => true
  | a :: as, b :: bs => W.beq a.1 b.1 && W.beq a.2 b.2 && kvBeq as bs
  | _, _ => false
theorem kvBeq_eq : ∀ {a b : List (W × W)}, kvBeq a b = true → a = b
  | [], b, h => by cases b <;> simp_all [kvBeq]
  | (a1, a2) :: as, b, h => by
    cases b with
    | nil => simp [kvBeq] at h
    | cons b bs =>
      obtain ⟨b1, b2⟩ := b
      simp only [kvBeq, Bool.and_eq_true] at h
      rw [W.beq_eq h.1.1, W.beq_eq h.1.2, kvBeq_eq h.2]
theorem kvBeq_refl : ∀ a : List (W × W), kvBeq a a = true
  | [] => rfl
  | a :: as => by simp [kvBeq, W.beq_refl, kvBeq_refl as]
def fsBeq : List (Str × W) → List (Str × W) → Bool
  | [], [] => true
  | a :: as, b :: bs => decide (a.1 = b.1) && W.beq a.2 b.2 && fsBeq as bs
  | _, _ => false
theorem fsBeq_eq : ∀ {a b : List (Str × W)}, fsBeq a b = true → a = b
  | [], b, h => by cases b <;> simp_all [fsBeq]
  | (a1, a2) :: as, b, h => by
    cases b with
    | nil => simp [fsBeq] at h
    | cons b bs =>
      obtain ⟨b1, b2⟩ := b
      simp only [fsBeq, Bool.and_eq_true, decide_eq_true_eq] at h
      rw [h.1.1, W.beq_eq h.1.2, fsBeq_eq h.2]
theorem fsBeq_refl : ∀ a : List (Str × W), fsBeq a a = true
  | [] => rfl
  | a :: as => by simp [fsBeq, W.beq_refl, fsBeq_refl as]
def O.beq : O → O → Bool
  | .lst a, .lst b => W.beqs a b
  | .dct t a, .dct u b => t == u && kvBeq a b
  | .ins c a, .ins d b => c == d && fsBeq a b
  | _, _ => false
theorem O.beq_eq {a b : O} (h : O.beq a b = true) : a = b := by
  cases a <;> cases b <;> simp only [O.beq, Bool.and_eq_true, beq_iff_eq, Bool.false_eq_true] at h
  · rw [W.beqs_eq h]
  · rw [h.1, kvBeq_eq h.2]
  · rw [h.1, fsBeq_eq h.2]
theorem O.beq_refl (a : O) : O.beq a a = true := by cases a <;> simp [O.beq, W.beqs_refl, kvBeq_refl, fsBeq_refl]
def hBeq : OH → OH → Bool
  | [], [] => true
  | a :: as, b :: bs => O.beq a b && hBeq as bs
  | _, _ => false
theorem hBeq_eq : ∀ {a b : OH}, hBeq a b = true → a = b
  | [], b, h => by cases b <;> simp_all [hBeq]
  | a :: as, b, h => by
    cases b with
    | nil => simp [hBeq] at h
    | cons b bs =>
      simp only [hBeq, Bool.and_eq_true] at h
      rw [O.beq_eq h.1, hBeq_eq h.2]
theorem hBeq_refl : ∀ a : OH, hBeq a a = true
  | [] => rfl
  | a :: as => by simp [hBeq, O.beq_refl, hBeq_refl as]
mutual
/-- no own object is named in it -/
def W.pure : W → Bool
  | .tup ws => W.pures ws
  | .rol ws => W.pures ws
  | .ref _ => false
  | _ => true
def W.pures : List W → Bool
  | [] => true
  | a :: as => W.pure a && W.pures as
end

mutual
/-- it names own objects below n alone -/
def W.low (n : Nat) : W → Bool
  | .tup ws => W.lows n ws
  | .rol ws => W.lows n ws
  | .ref i => Nat.blt i n
  | _ => true
def W.lows (n : Nat) : List W → Bool
  | [] => true
  | a :: as => W.low n a && W.lows n as
end
def O.low (n : Nat) : O → Bool
  | .lst ws => W.lows n ws
  | _ => false
/-- each object stands as it was, or names those below n alone -/
def keepOk (n : Nat) : OH → OH → Bool
  | o' :: r', o :: r => (O.beq o' o || O.low n o') && keepOk n r' r
  | [], [] => true
  | _, _ => false
/-- the heap h' may be cut back to the length of h -/
def cutOk (h h' : OH) : Bool := keepOk h.length (h'.take h.length) h
/-- what a run comes to -/
inductive R (α : Type) where
  | ok (a : α) (h : OH)
  | exc (c : Nat) (fs : List (Str × W)) (h : OH)
  | no
def R.bind {α β : Type} (r : R α) (f : α → OH → R β) : R β := match r with
  | .ok a h => f a h
  | .exc c fs h => .exc c fs h
  | .no => .no
@[simp] theorem R.bind_ok {α β : Type} (a : α) (h : OH) (f : α → OH → R β) : (R.ok a h).bind f = f a h := rfl
@[simp] theorem R.bind_exc {α β : Type} (c : Nat) (fs : List (Str × W)) (h : OH) (f : α → OH → R β) : (R.exc c fs h : R α).bind f = .exc c fs h := rfl
@[simp] theorem R.bind_no {α β : Type} (f : α → OH → R β) : (R.no : R α).bind f = .no := rfl
abbrev Sl := List (Option W)
def slLow (n : Nat) : Sl → Bool
  | [] => true
  | none :: r => slLow n r
  | some w :: r => W.low n w && slLow n r
/-- where a statement ends -/
inductive F where
  | nx | rt (w : W) | bk | ct
/-- a statement's run: how it ends, the slots -/
abbrev RS := R (F × Sl)

/-! ### the text -/
inductive Bop where
  | add | sub | mul | fdiv | mod | pow
  deriving DecidableEq
inductive Cop where
  | eq | ne | lt | le | gt | ge | inn | nin | is | isn
  deriving DecidableEq
inductive Bi where
  | len | int | abs | max2 | min2 | maxl | minl | sum | sorted | tuple | list | repr | all | any
  deriving DecidableEq
inductive Mt where
  | append | pop | popAt | extend | index
  deriving DecidableEq
/-- targets -/
inductive T where
  | nm (i : Nat) | nil | cons (a r : T)
/-- expressions, lists of them (nil, cons), what is walked (seq, rng, enum, zip) -/
inductive E where
  | v (i : Nat) | c (w : W)
  | nil | cons (a r : E)
  | bin (o : Bop) (a b : E) | neg (a : E)
  | cmp (o : Cop) (a b : E) | chain (o p : Cop) (a b c : E)
  | and (a b : E) | or (a b : E) | not (a : E)
  | ite (t a b : E)
  | call (f : Nat) (as : E)
  | bi (b : Bi) (as : E)
  | isi (a : E) (ts : List String)
  | mt (m : Mt) (o as : E)
  | tup (as : E) | lst (as : E)
  | ix (a b : E) | sl (a lo hi : E) | rev (a : E)
  | lc (e : E) (own : List Nat) (t : T) (it : E) (cond : E)
  | lrg (a : E)
  | gc (a : E)
  | seq (a : E) | rng1 (a : E) | rng2 (a b : E) | enum (a : E) | zip (a b : E)
/-- statements -/
inductive S where
  | skip | sq (a b : S)
  | asg (t : T) (e : E)
  | par (is : List Nat) (as : E)
  | seti (o i e : E)
  | ex (e : E) | ret (e : E) | retn
  | ite (t : E) (a b : S)
  | whl (t : E) (b : S)
  | for (t : T) (it : E) (b : S)
  | brk | cnt
  | gc (own : List Nat) (b : S)
end Wm
end

section
set_option Elab.async false
set_option linter.all false
set_option maxRecDepth 100000
namespace Wm
open PySem

/-! ### slots, objects -/
def getS : Sl → Nat → Option W
  | [], _ => none
  | x :: _, 0 => x
  | _ :: r, i + 1 => getS r i
def setS : Sl → Nat → Option W → Sl
  | [], _, _ => []
  | _ :: r, 0, w => w :: r
  | x :: r, i + 1, w => x :: setS r i w
def wipeS (s : Sl) : List Nat → Sl
  | [] => s
  | i :: is => setS (wipeS s is) i none
def line : Nat := 16000000
/-- the items of a list object -/
def items (h : OH) (n : Nat) : Option (List W) := match h[n]? with
  | some (.lst ws) => some ws
  | _ => none
def lstAt (h : OH) (n : Nat) : Option (List W) := match h[n]? with
  | some (.lst ws) => some ws
  | _ => none
/-- the items of a list or tuple -/
def seqOf (h : OH) : W → Option (List W)
  | .tup ws => some ws
  | .ref n => items h n
  | _ => none
def alloc (o : O) (h : OH) : R W := .ok (.ref h.length) (h ++ [o])
def newLst (ws : List W) (h : OH) : R W := if Nat.ble ws.length line = true then alloc (.lst ws) h else .no
def newTup (ws : List W) (h : OH) : R W := if Nat.ble ws.length line = true then .ok (.tup ws) h else .no

/-! ### data -/
def toDl (f : W → Option PyData) : List W → Option (List PyData)
  | [] => some []
  | w :: ws => match f w, toDl f ws with
    | some d, some ds => some (d :: ds)
    | _, _ => none
def toD (h : OH) : Nat → W → Option PyData
  | 0, w => match w with
    | .non => some .none
    | .bl b => some (.bool b)
    | .int i => some (.int i)
    | .str x => if PyData.strOk x = true then some (.str x) else none
    | _ => none
  | n + 1, w => match w with
    | .non => some .none
    | .bl b => some (.bool b)
    | .int i => some (.int i)
    | .str x => if PyData.strOk x = true then some (.str x) else none
    | .tup ws => (toDl (toD h n) ws).map .tuple
    | .ref r => match items h r with
      | some ws => (toDl (toD h n) ws).map .list
      | none => none
    | _ => none
abbrev deep : Nat := 60
/-- equality: ints alone at once, else as data -/
def eqW (h : OH) : W → W → Option Bool
  | .int i, .int j => some (decide (i = j))
  | .str x, .str y => some (decide (x = y))
  | .bl a, .bl b => some (a == b)
  | .non, .non => some true
  | x, y => match toD h deep x, toD h deep y with
    | some d, some e => some (PyData.eqv d e)
    | _, _ => none
def flat : W → Bool
  | .non | .bl _ | .int _ | .str _ => true
  | _ => false
def eqF : W → W → Bool
  | .non, .non => true
  | .bl a, .bl b => a == b
  | .bl a, .int b => decide ((if a then 1 else 0) = b)
  | .int a, .bl b => decide (a = (if b then 1 else 0))
  | .int a, .int b => decide (a = b)
  | .str a, .str b => decide (a = b)
  | _, _ => false
def inW (h : OH) (x y : W) : Option Bool := match seqOf h y with
  | some ws => if (flat x && ws.all flat) = true then some (ws.any fun z => eqF z x) else match toD h deep x, toDl (toD h 59) ws with
    | some d, some ds => some (ds.any fun z => PyData.eqv z d)
    | _, _ => none
  | none => match y with
    | .ref n => match h[n]? with
      | some (.dct _ kvs) => match toD h deep x, toDl (toD h 59) (kvs.map (·.1)) with
        | some d, some ds => some (ds.any fun z => PyData.eqv z d)
        | _, _ => none
      | _ => none
    | _ => none
def intsW : List W → Option (List Int)
  | [] => some []
  | .int i :: r => (intsW r).map fun l => i :: l
  | _ :: _ => none
/-- tuples of ints in their order -/
def lexI : List Int → List Int → Bool
  | [], [] => false
  | [], _ :: _ => true
  | _ :: _, [] => false
  | x :: xs, y :: ys => if x = y then lexI xs ys else decide (x < y)
def lexW (a b : List W) : Option Bool := match intsW a, intsW b with
  | some ns, some ms => some (lexI ns ms)
  | _, _ => none
def bR (o : Option Bool) (h : OH) : R W := match o with
  | some b => .ok (.bl b) h
  | none => .no
def isNon : W → Bool
  | .non => true
  | _ => false
def cmpW : Cop → W → W → OH → R W
  | .eq, x, y, h => bR (eqW h x y) h
  | .ne, x, y, h => bR ((eqW h x y).map not) h
  | .inn, x, y, h => bR (inW h x y) h
  | .nin, x, y, h => bR ((inW h x y).map not) h
  | .is, x, .non, h => .ok (.bl (isNon x)) h
  | .isn, x, .non, h => .ok (.bl (!isNon x)) h
  | .lt, .int i, .int j, h => .ok (.bl (decide (i < j))) h
  | .le, .int i, .int j, h => .ok (.bl (decide (i ≤ j))) h
  | .gt, .int i, .int j, h => .ok (.bl (decide (j < i))) h
  | .ge, .int i, .int j, h => .ok (.bl (decide (j ≤ i))) h
  | .lt, .tup a, .tup b, h => bR (lexW a b) h
  | _, _, _, _ => .no
def mulOk (i j : Int) : Bool := decide (i.natAbs < 2 ^ 64) || decide (j.natAbs < 2 ^ 64) || decide (i.natAbs.log2 + j.natAbs.log2 < 1000000)
def flatRep (k : Nat) (ws : List W) : List W := (List.replicate k ws).flatten
def b2I (b : Bool) : Int := if b then 1 else 0
def binW : Bop → W → W → OH → R W
  | .add, .int i, .int j, h => .ok (.int (i + j)) h
  | .sub, .int i, .int j, h => .ok (.int (i - j)) h
  | .mul, .int i, .int j, h => if mulOk i j = true then .ok (.int (i * j)) h else .no
  | .mod, .int i, .int j, h => if 0 < j then .ok (.int (i % j)) h else .no
  | .fdiv, .int i, .int j, h => if 0 < j ∧ j.natAbs.log2 < 9000 then .ok (.int (i / j)) h else .no
  | .pow, .int i, .int j, h => if 0 ≤ j ∧ j ≤ 1000000 ∧ i.natAbs < 2 ^ 64 then .ok (.int (i ^ j.toNat)) h else .no
  | .add, .str x, .str y, h => if Nat.ble (x.length + y.length) line = true then .ok (.str (x ++ y)) h else .no
  | .add, .tup a, .tup b, h => if Nat.ble (a.length + b.length) line = true then .ok (.tup (a ++ b)) h else .no
  | .add, .ref m, .ref n, h => match lstAt h m, lstAt h n with
    | some a, some b => if Nat.ble (a.length + b.length) line = true then alloc (.lst (a ++ b)) h else .no
    | _, _ => .no
  | .mul, .tup a, .int k, h => if 2 ≤ k ∧ k ≤ 1000 ∧ a ≠ [] ∧ a.length ≤ 1000 then .ok (.tup (flatRep k.toNat a)) h else .no
  | .mul, .ref m, .int k, h => match lstAt h m with
    | some a => if -(2 ^ 63) ≤ k ∧ k < 2 ^ 63 ∧ a.length * k.toNat ≤ line then alloc (.lst (flatRep k.toNat a)) h else .no
    | none => .no
  | _, _, _, _ => .no
def truW (h : OH) : W → Option Bool
  | .non => some false
  | .bl b => some b
  | .int i => some (decide (i ≠ 0))
  | .tup ws => some (!ws.isEmpty)
  | .ref n => (items h n).map fun ws => !ws.isEmpty
  | _ => none
/-- the place that an index means -/
def ixN (n : Nat) (i : Int) : Option Nat := if 0 ≤ i then (if i < n then some i.toNat else none) else if -(n : Int) ≤ i then some (i + n).toNat else none
def ixW : W → W → OH → R W
  | x, .int i, h => match seqOf h x with
    | some ws => match ixN ws.length i with
      | some j => match ws[j]? with
        | some w => .ok w h
        | none => .no
      | none => .no
    | none => .no
  | _, _, _ => .no
/-- a slice's ends -/
def endOf (n d : Nat) : Option Int → Nat
  | none => d
  | some v => if v < 0 then (v + (n : Int)).toNat else min v.toNat n
def cut (ws : List W) (lo hi : Option Int) : List W := (ws.drop (endOf ws.length 0 lo)).take (endOf ws.length ws.length hi - endOf ws.length 0 lo)
def slW : W → Option Int → Option Int → OH → R W
  | .tup ws, lo, hi, h => .ok (.tup (cut ws lo hi)) h
  | .ref n, lo, hi, h => match items h n with
    | some ws => alloc (.lst (cut ws lo hi)) h
    | none => .no
  | .rol ws, lo, hi, h => alloc (.lst (cut ws lo hi)) h
  | _, _, _, _ => .no
def revW : W → OH → R W
  | .tup ws, h => .ok (.tup ws.reverse) h
  | .ref n, h => match items h n with
    | some ws => alloc (.lst ws.reverse) h
    | none => .no
  | _, _ => .no
def boolsW : List W → Option (List Bool)
  | [] => some []
  | .bl b :: r => (boolsW r).map fun l => b :: l
  | _ :: _ => none
def insI (i : Int) : List Int → List Int
  | [] => [i]
  | j :: r => if i ≤ j then i :: j :: r else j :: insI i r
def sortI : List Int → List Int
  | [] => []
  | i :: r => insI i (sortI r)
def maxI : List Int → Int → Int
  | [], m => m
  | i :: r, m => maxI r (if m < i then i else m)
def minI : List Int → Int → Int
  | [], m => m
  | i :: r, m => minI r (if i < m then i else m)
def rangeI (lo : Int) : Nat → List W
  | 0 => []
  | n + 1 => .int lo :: rangeI (lo + 1) n
def within62 (i : Int) : Bool := decide (-(2 ^ 62) ≤ i) && decide (i < 2 ^ 62)
def biW : Bi → List W → OH → R W
  | .len, [x], h => match seqOf h x with
    | some ws => .ok (.int ws.length) h
    | none => match x with
      | .str z => if Nat.ble z.length line = true then .ok (.int z.length) h else .no
      | .rol ws => .ok (.int ws.length) h
      | _ => .no
  | .int, [.int i], h => .ok (.int i) h
  | .int, [.bl b], h => .ok (.int (b2I b)) h
  | .abs, [.int i], h => .ok (.int (if i < 0 then -i else i)) h
  | .max2, [.int i, .int j], h => .ok (.int (if j > i then j else i)) h
  | .min2, [.int i, .int j], h => .ok (.int (if j < i then j else i)) h
  | .maxl, [.ref n], h => match items h n with
    | some ws => match intsW ws with
      | some (i :: r) => .ok (.int (maxI r i)) h
      | _ => .no
    | none => .no
  | .minl, [.ref n], h => match items h n with
    | some ws => match intsW ws with
      | some (i :: r) => .ok (.int (minI r i)) h
      | _ => .no
    | none => .no
  | .sum, [.ref n], h => match items h n with
    | some ws => match intsW ws with
      | some l => .ok (.int l.sum) h
      | none => .no
    | none => .no
  | .sorted, [.ref n], h => match items h n with
    | some ws => match intsW ws with
      | some l => if l.length < 64 then alloc (.lst ((sortI l).map .int)) h else .no
      | none => .no
    | none => .no
  | .tuple, [.tup ws], h => .ok (.tup ws) h
  | .tuple, [.ref n], h => match items h n with
    | some ws => .ok (.tup ws) h
    | none => .no
  | .list, [x], h => match seqOf h x with
    | some ws => alloc (.lst ws) h
    | none => .no
  | .repr, [x], h => match toD h deep x with
    | some d => if (d.showable && Nat.ble d.shown.length line) = true then .ok (.str d.shown) h else .no
    | none => .no
  | .all, [.ref n], h => match items h n with
    | some ws => match boolsW ws with
      | some l => .ok (.bl (l.all id)) h
      | none => .no
    | none => .no
  | .any, [.ref n], h => match items h n with
    | some ws => match boolsW ws with
      | some l => .ok (.bl (l.any id)) h
      | none => .no
    | none => .no
  | _, _, _ => .no
/-- list(range(n)) -/
def lrgW : W → OH → R W
  | .int n, h => if within62 n = true then newLst (rangeI 0 n.toNat) h else .no
  | _, _ => .no
def isiW (h : OH) (x : W) (T : String) : Option Bool := match x with
  | .non => some (T == "NoneType")
  | .bl _ => some (T == "int" || T == "bool")
  | .int _ => some (T == "int")
  | .str _ => some (T == "str")
  | .tup _ => some (T == "tuple")
  | .ref n => match h[n]? with
    | some (.lst _) => some (T == "list")
    | some (.dct _ _) => some (T == "dict")
    | _ => none
  | _ => none
def seqIx (n : Nat) (i : Int) : Option Nat := if decide (-(2 ^ 63) ≤ i) && decide (i < 2 ^ 63) then ixN n i else none
def firstAt (f : W → Bool) : List W → Nat → Option Nat
  | [], _ => none
  | w :: r, k => if f w = true then some k else firstAt f r (k + 1)
def mtW : Mt → W → List W → OH → R W
  | .append, .ref n, [x], h => match lstAt h n with
    | some ws => if Nat.ble ws.length line = true then .ok .non (h.set n (.lst (ws ++ [x]))) else .no
    | none => .no
  | .extend, .ref n, [.ref k], h => match lstAt h n, lstAt h k with
    | some ws, some us => if Nat.ble (ws.length + us.length) line = true then .ok .non (h.set n (.lst (ws ++ us))) else .no
    | _, _ => .no
  | .pop, .ref n, [], h => match lstAt h n with
    | some ws => match ws[ws.length - 1]? with
      | some w => .ok w (h.set n (.lst ws.dropLast))
      | none => .no
    | none => .no
  | .popAt, .ref n, [.int i], h => match lstAt h n with
    | some ws => match seqIx ws.length i with
      | some k => match ws[k]? with
        | some w => .ok w (h.set n (.lst (ws.eraseIdx k)))
        | none => .no
      | none => .no
    | none => .no
  | _, _, _, _ => .no
def setIx : W → W → W → OH → R W
  | .ref n, .int i, x, h => match lstAt h n with
    | some ws => match ixN ws.length i with
      | some j => .ok .non (h.set n (.lst (ws.set j x)))
      | none => .no
    | none => .no
  | _, _, _, _ => .no
end Wm
end

section
set_option Elab.async false
set_option linter.all false
set_option maxRecDepth 100000
namespace Wm
open PySem

/-- what is walked: the items; the list objects that must stand still -/
abbrev It := List W × List (Nat × List W)
def still (h : OH) : List (Nat × List W) → Bool
  | [] => true
  | p :: r => (match items h p.1 with | some ws => W.beqs ws p.2 | none => false) && still h r
def zipT : List W → List W → List W
  | a :: as, b :: bs => .tup [a, b] :: zipT as bs
  | _, _ => []
def enumT : Int → List W → List W
  | _, [] => []
  | i, a :: as => .tup [.int i, a] :: enumT (i + 1) as
def watch (x : W) (ws : List W) : List (Nat × List W) := match x with
  | .ref n => [(n, ws)]
  | _ => []
/-- a target takes a value -/
def asgT : T → W → Sl → Option Sl
  | .nm i, w, s => some (setS s i (some w))
  | .nil, w, s => match w with
    | .tup [] => some s
    | _ => none
  | .cons a r, w, s => match w with
    | .tup (x :: xs) => match asgT a x s with
      | some s' => asgT r (.tup xs) s'
      | none => none
    | _ => none
def asgR (t : T) (w : W) (s : Sl) (h : OH) : R Sl := match asgT t w s with
  | some s' => .ok s' h
  | none => .no
def asB (w : W) (h : OH) : R Bool := match w with
  | .bl b => .ok b h
  | _ => .no
def asT (w : W) (h : OH) : R Bool := match truW h w with
  | some b => .ok b h
  | none => .no
def asI (w : W) (h : OH) : R (Option Int) := match w with
  | .int i => .ok (some i) h
  | _ => .no
def negW (w : W) (h : OH) : R W := match w with
  | .int i => .ok (.int (-i)) h
  | _ => .no
def isRef (w : W) (h : OH) : R Unit := match w with
  | .ref _ => .ok () h
  | _ => .no
def isiR (ts : List String) (x : W) (h : OH) : R W := match ts with
  | [T] => bR (isiW h x T) h
  | _ => .no
def seqIt (x : W) (h : OH) : R It := match seqOf h x with
  | some ws => .ok (ws, watch x ws) h
  | none => .no
def enumIt (x : W) (h : OH) : R It := match seqOf h x with
  | some ws => .ok (enumT 0 ws, watch x ws) h
  | none => .no
def bothRef : W → W → Bool
  | .ref _, .ref _ => true
  | .tup _, .tup _ => true
  | _, _ => false
def zipIt (x y : W) (h : OH) : R It := match seqOf h x, seqOf h y with
  | some ws, some us => if bothRef x y = true then .ok (zipT ws us, watch x ws ++ watch y us) h else .no
  | _, _ => .no
def rng1It (w : W) (h : OH) : R It := match w with
  | .int n => if within62 n = true then .ok (rangeI 0 n.toNat, []) h else .no
  | _ => .no
def rng2It (u w : W) (h : OH) : R It := match u, w with
  | .int a, .int b => if (within62 a && within62 b) = true then .ok (rangeI a (b - a).toNat, []) h else .no
  | _, _ => .no
/-- an exception inside a comprehension is not followed -/
def R.calm {α : Type} (r : R α) : R α := match r with
  | .exc _ _ _ => .no
  | r => r
def consO (o : Option W) (ys : List W) : List W := match o with
  | some y => y :: ys
  | none => ys
/-- the list comprehension's turns; none: the item is left out -/
def lcN (f : W → OH → R (Option W)) (wt : List (Nat × List W)) : List W → OH → R (List W)
  | [], h => if still h wt = true then .ok [] h else .no
  | w :: ws, h => if still h wt = true then (f w h).calm.bind fun o h1 => (lcN f wt ws h1).bind fun ys h2 => .ok (consO o ys) h2 else .no
def gcE (h : OH) (w : W) (h' : OH) : R W := if (W.low h.length w && cutOk h h') = true then .ok w (h'.take h.length) else .no
def gcB (h : OH) (b : Bool) (h' : OH) : R Bool := if cutOk h h' = true then .ok b (h'.take h.length) else .no
section
variable (G : Nat → List W → OH → R W)
mutual
def ev : E → Sl → OH → R W
  | .v i, s, h => match getS s i with
    | some w => .ok w h
    | none => .no
  | .c w, _, h => .ok w h
  | .bin o a b, s, h => (ev a s h).bind fun x h1 => (ev b s h1).bind fun y h2 => binW o x y h2
  | .neg a, s, h => (ev a s h).bind fun x h1 => negW x h1
  | .cmp o a b, s, h => (ev a s h).bind fun x h1 => (ev b s h1).bind fun y h2 => cmpW o x y h2
  | .chain o p a b c, s, h => (ev a s h).bind fun x h1 => (ev b s h1).bind fun y h2 => (cmpW o x y h2).bind fun z h3 => (asB z h3).bind fun k h4 =>
      if k = true then (ev c s h4).bind fun u h5 => cmpW p y u h5 else .ok (.bl false) h4
  | .and a b, s, h => (ev a s h).bind fun x h1 => (asT x h1).bind fun k h2 => if k = true then ev b s h2 else .ok x h2
  | .or a b, s, h => (ev a s h).bind fun x h1 => (asT x h1).bind fun k h2 => if k = true then .ok x h2 else ev b s h2
  | .not a, s, h => (ev a s h).bind fun x h1 => (asT x h1).bind fun k h2 => .ok (.bl (!k)) h2
  | .ite t a b, s, h => (evT t s h).bind fun k h1 => if k = true then ev a s h1 else ev b s h1
  | .call f as, s, h => (evs as s h).bind fun ws h1 => G f ws h1
  | .bi b as, s, h => (evs as s h).bind fun ws h1 => biW b ws h1
  | .isi a ts, s, h => (ev a s h).bind fun x h1 => isiR ts x h1
  | .mt m o as, s, h => (ev o s h).bind fun x h1 => (isRef x h1).bind fun _ h2 => (evs as s h2).bind fun ws h3 => mtW m x ws h3
  | .tup as, s, h => (evs as s h).bind fun ws h1 => newTup ws h1
  | .lst as, s, h => (evs as s h).bind fun ws h1 => newLst ws h1
  | .ix a b, s, h => (ev a s h).bind fun x h1 => (ev b s h1).bind fun y h2 => ixW x y h2
  | .sl a lo hi, s, h => (ev a s h).bind fun x h1 => (evO lo s h1).bind fun l h2 => (evO hi s h2).bind fun u h3 => slW x l u h3
  | .rev a, s, h => (ev a s h).bind fun x h1 => revW x h1
  | .lrg a, s, h => (ev a s h).bind fun x h1 => lrgW x h1
  | .gc a, s, h => (ev a s h).bind (gcE h)
  | .lc e own t it cond, s, h => (evI it s h).bind fun p h1 =>
      (lcN (fun w h2 => (asgR t w (wipeS s own) h2).bind fun s' h3 => (evC cond s' h3).bind fun k h4 => if k = true then (ev e s' h4).bind fun y h5 => .ok (some y) h5 else .ok none h4) p.2 p.1 h1).bind fun ys h6 => newLst ys h6
  | _, _, _ => .no
/-- as a test -/
def evT : E → Sl → OH → R Bool
  | .and a b, s, h => (evT a s h).bind fun k h1 => if k = true then evT b s h1 else .ok false h1
  | .or a b, s, h => (evT a s h).bind fun k h1 => if k = true then .ok true h1 else evT b s h1
  | .not a, s, h => (evT a s h).bind fun k h1 => .ok (!k) h1
  | .gc a, s, h => (evT a s h).bind (gcB h)
  | .cmp o a b, s, h => (ev a s h).bind fun x h1 => (ev b s h1).bind fun y h2 => (cmpW o x y h2).bind asB
  | .chain o p a b c, s, h => (ev a s h).bind fun x h1 => (ev b s h1).bind fun y h2 => (cmpW o x y h2).bind fun z h3 => (asB z h3).bind fun k h4 =>
      if k = true then (ev c s h4).bind fun u h5 => (cmpW p y u h5).bind asB else .ok false h4
  | .v i, s, h => (match getS s i with
    | some w => (R.ok w h : R W)
    | none => .no).bind asT
  | .c w, _, h => asT w h
  | .call f as, s, h => ((evs as s h).bind fun ws h1 => G f ws h1).bind asT
  | .bi b as, s, h => ((evs as s h).bind fun ws h1 => biW b ws h1).bind asT
  | .isi a ts, s, h => ((ev a s h).bind fun x h1 => isiR ts x h1).bind asT
  | .ix a b, s, h => ((ev a s h).bind fun x h1 => (ev b s h1).bind fun y h2 => ixW x y h2).bind asT
  | _, _, _ => .no
/-- a comprehension's test -/
def evC : E → Sl → OH → R Bool
  | .nil, _, h => .ok true h
  | .cons a .nil, s, h => evT a s h
  | _, _, _ => .no
/-- a list of expressions -/
def evs : E → Sl → OH → R (List W)
  | .nil, _, h => .ok [] h
  | .cons a r, s, h => (ev a s h).bind fun w h1 => (evs r s h1).bind fun ws h2 => .ok (w :: ws) h2
  | _, _, _ => .no
/-- an end of a slice -/
def evO : E → Sl → OH → R (Option Int)
  | .nil, _, h => .ok none h
  | .cons a .nil, s, h => (ev a s h).bind asI
  | _, _, _ => .no
/-- what is walked -/
def evI : E → Sl → OH → R It
  | .seq a, s, h => (ev a s h).bind seqIt
  | .rng1 a, s, h => (ev a s h).bind rng1It
  | .rng2 a b, s, h => (ev a s h).bind fun x h1 => (ev b s h1).bind fun y h2 => rng2It x y h2
  | .enum a, s, h => (ev a s h).bind enumIt
  | .zip a b, s, h => (ev a s h).bind fun x h1 => (ev b s h1).bind fun y h2 => zipIt x y h2
  | _, _, _ => .no
end
/-- how a turn's end goes on -/
def goOn (f : Sl → OH → RS) (p : F × Sl) (h : OH) : RS := match p.1 with
  | .nx => f p.2 h
  | .ct => f p.2 h
  | .bk => .ok (.nx, p.2) h
  | .rt w => .ok (.rt w, p.2) h
def thenS (f : Sl → OH → RS) (p : F × Sl) (h : OH) : RS := match p.1 with
  | .nx => f p.2 h
  | _ => .ok p h
def whlN (t : Sl → OH → R Bool) (b : Sl → OH → RS) : Nat → Sl → OH → RS
  | 0, _, _ => .no
  | n + 1, s, h => (t s h).bind fun k h1 => if k = true then (b s h1).bind (goOn (whlN t b n)) else .ok (.nx, s) h1
def forN (t : T) (b : Sl → OH → RS) (wt : List (Nat × List W)) : List W → Sl → OH → RS
  | [], s, h => if still h wt = true then .ok (.nx, s) h else .no
  | w :: ws, s, h => if still h wt = true then (asgR t w s h).bind fun s' h1 => (b s' h1).bind (goOn (forN t b wt ws)) else .no
def F.low (n : Nat) : F → Bool
  | .rt w => W.low n w
  | _ => true
/-- what the statement left in the heap is dropped, some slots are forgotten -/
def gcS (own : List Nat) (h : OH) (p : F × Sl) (h' : OH) : RS := if (F.low h.length p.1 && slLow h.length (wipeS p.2 own) && cutOk h h') = true then .ok (p.1, wipeS p.2 own) (h'.take h.length) else .no
abbrev fuel : Nat := 1000000
/-- a, b = x, y: all are reckoned, then stored -/
def parS : List Nat → List W → Sl → Option Sl
  | [], [], s => some s
  | i :: is, w :: ws, s => parS is ws (setS s i (some w))
  | _, _, _ => none
def parR (is : List Nat) (ws : List W) (s : Sl) (h : OH) : RS := match parS is ws s with
  | some s' => .ok (.nx, s') h
  | none => .no
def ex : S → Sl → OH → RS
  | .skip, s, h => .ok (.nx, s) h
  | .sq a b, s, h => (ex a s h).bind (thenS (ex b))
  | .asg t e, s, h => (ev G e s h).bind fun w h1 => (asgR t w s h1).bind fun s' h2 => .ok (.nx, s') h2
  | .par is as, s, h => (evs G as s h).bind fun ws h1 => parR is ws s h1
  | .seti o i e, s, h => (ev G e s h).bind fun x h1 => (ev G o s h1).bind fun y h2 => (ev G i s h2).bind fun z h3 => (setIx y z x h3).bind fun _ h4 => .ok (.nx, s) h4
  | .ex e, s, h => (ev G e s h).bind fun _ h1 => .ok (.nx, s) h1
  | .ret e, s, h => (ev G e s h).bind fun w h1 => .ok (.rt w, s) h1
  | .retn, s, h => .ok (.rt .non, s) h
  | .ite t a b, s, h => (evT G t s h).bind fun k h1 => if k = true then ex a s h1 else ex b s h1
  | .whl t b, s, h => whlN (evT G t) (ex b) fuel s h
  | .for t it b, s, h => (evI G it s h).bind fun p h1 => forN t (ex b) p.2 p.1 s h1
  | .gc own b, s, h => (ex b s h).bind (gcS own h)
  | .brk, s, h => .ok (.bk, s) h
  | .cnt, s, h => .ok (.ct, s) h
end
/-- a def: its slots, its parameters, its body; gc: what it leaves in the heap is dropped -/
structure Fn where
  slots : Nat
  params : Nat
  body : S
  gc : Bool
def startS (d : Fn) (ws : List W) : Sl := ws.map some ++ List.replicate (d.slots - ws.length) none
def fin (gc : Bool) (h : OH) (w : W) (h' : OH) : R W := if gc = true then (if (W.low h.length w && cutOk h h') = true then .ok w (h'.take h.length) else .no) else .ok w h'
def finS (gc : Bool) (h : OH) (p : F × Sl) (h' : OH) : R W := match p.1 with
  | .rt w => fin gc h w h'
  | .nx => fin gc h .non h'
  | _ => .no
def callN (tab : List Fn) : Nat → Nat → List W → OH → R W
  | 0, _, _, _ => .no
  | n + 1, f, ws, h => match tab[f]? with
    | some d => if Nat.beq ws.length d.params = true then (ex (callN tab n) d.body (startS d ws) h).bind (finS d.gc h) else .no
    | none => .no
end Wm
end

section
set_option Elab.async false
set_option linter.all false
set_option maxRecDepth 100000
set_option maxHeartbeats 4000000
set_option autoImplicit false
/-! The own language's states beside the machine's. -/
namespace Wm
open PySem PySem.Spec PyProof.Rows L2

/-- where the text's defs and classes stand -/
structure At where
  K : PySem.W.Frag
  fa : Nat → Addr
  ca : Nat → Addr
/-- a list that stands as it is -/
def SqR (K : PySem.W.Frag) (H : Hp) (a : Addr) (xs : List V) : Prop :=
  (∃ ob, H a = some (.frz ob (.lst xs))) ∨ ∃ (o : Obj) (its : Array Value) (n : Nat), K.lookup a = some o ∧ o.cls = .type "list" ∧ o.dict = none ∧ o.data = .seq its n ∧ its.size ≤ sizeLine ∧ Vals xs its.toList
theorem SqR.read {K : PySem.W.Frag} {H : Hp} {a : Addr} {xs : List V} (q : SqR K H a xs) : SqL K H a xs := q.elim (fun ⟨ob, e⟩ => .inl (.inr ⟨ob, e⟩)) .inr
mutual
inductive Rep (A : At) (m : List Addr) (H : Hp) : W → V → Prop
  | non : Rep A m H .non .non
  | bl (b : Bool) : Rep A m H (.bl b) (.bl b)
  | int (i : Int) : Rep A m H (.int i) (.int i)
  | str (x : Str) : Rep A m H (.str x) (.str x)
  | tup {a : Addr} {ws : List W} {vs : List V} : SqT A.K H a vs → Reps A m H ws vs → Rep A m H (.tup ws) (.ref a)
  | ref {n : Nat} {a : Addr} : m[n]? = some a → Rep A m H (.ref n) (.ref a)
  | fn (i : Nat) : Rep A m H (.fn i) (.ref (A.fa i))
  | cls (i : Nat) : Rep A m H (.cls i) (.ref (A.ca i))
  | rol {a : Addr} {ws : List W} {vs : List V} : SqR A.K H a vs → Reps A m H ws vs → Rep A m H (.rol ws) (.ref a)
inductive Reps (A : At) (m : List Addr) (H : Hp) : List W → List V → Prop
  | nil : Reps A m H [] []
  | cons {w : W} {ws : List W} {v : V} {vs : List V} : Rep A m H w v → Reps A m H ws vs → Reps A m H (w :: ws) (v :: vs)
end
def RepO (A : At) (m : List Addr) (H : Hp) (a : Addr) : O → Prop
  | .lst ws => ∃ vs, H a = some (.lst vs) ∧ Reps A m H ws vs
  | _ => False
structure RelH (A : At) (m : List Addr) (h : OH) (H : Hp) : Prop where
  len : m.length = h.length
  nd : m.Nodup
  ob : ∀ (n : Nat) (o : O), h[n]? = some o → ∃ a, m[n]? = some a ∧ RepO A m H a o
structure RelS (A : At) (m : List Addr) (H : Hp) (s : Sl) (σ : L2.St) : Prop where
  len : s.length = σ.length
  at_ : ∀ (i : Nat) (w : W), getS s i = some w → ∃ v, σ[i]? = some (some v) ∧ Rep A m H w v
/-- the heap has grown: the objects of the map may have turned, all others stand, new ones in the map are new -/
structure Grow (m : List Addr) (H : Hp) (m' : List Addr) (H' : Hp) : Prop where
  map : ∃ l, m' = m ++ l ∧ ∀ a ∈ l, a ∉ m → H a = none
  keep : ∀ a o, H a = some o → a ∉ m → H' a = some o
theorem Grow.refl (m : List Addr) (H : Hp) : Grow m H m H := ⟨⟨[], by simp, fun a h => by simp at h⟩, fun _ _ e _ => e⟩
theorem Grow.trans {m m1 m2 : List Addr} {H H1 H2 : Hp} (g : Grow m H m1 H1) (k : Grow m1 H1 m2 H2) : Grow m H m2 H2 := by
  obtain ⟨l1, rfl, e1⟩ := g.map
  obtain ⟨l2, rfl, e2⟩ := k.map
  refine ⟨⟨l1 ++ l2, by simp, fun a ha hm => ?_⟩, fun a o e hm => ?_⟩
  · by_cases h1 : a ∈ l1
    · exact e1 a h1 hm
    · have h2 : a ∈ l2 := (List.mem_append.mp ha).resolve_left h1
      have h3 := e2 a h2 (by simp [hm, h1])
      cases q : H a with
      | none => rfl
      | some o => rw [g.keep a o q hm] at h3; cases h3
  · refine k.keep a o (g.keep a o e hm) ?_
    intro hx
    rcases List.mem_append.mp hx with h1 | h1
    · exact hm h1
    · rw [e1 a h1 hm] at e; cases e
theorem Grow.get {m m' : List Addr} {H H' : Hp} (g : Grow m H m' H') {n : Nat} {a : Addr} (e : m[n]? = some a) : m'[n]? = some a := by
  obtain ⟨l, rfl, _⟩ := g.map
  obtain ⟨hn, _⟩ := List.getElem?_eq_some_iff.mp e
  rw [List.getElem?_append_left hn]
  exact e
section
variable {A : At} {m m' : List Addr} {h h' : OH} {H H' : Hp}
theorem RelH.some (r : RelH A m h H) {a : Addr} (ha : a ∈ m) : ∃ (n : Nat) (o : O), h[n]? = Option.some o ∧ m[n]? = Option.some a ∧ RepO A m H a o := by
  obtain ⟨n, hn, e⟩ := List.getElem_of_mem ha
  have hn' : n < h.length := by rw [← r.len]; exact hn
  obtain ⟨b, e1, e2⟩ := r.ob n h[n] (List.getElem?_eq_getElem hn')
  have e3 : m[n]? = Option.some a := by rw [List.getElem?_eq_getElem hn, e]
  rw [e3] at e1; cases e1
  exact ⟨n, h[n], List.getElem?_eq_getElem hn', e3, e2⟩
theorem RelH.there (r : RelH A m h H) {a : Addr} (ha : a ∈ m) : ∃ o, H a = Option.some o ∧ ∀ xs, o ≠ .tup xs ∧ ∀ ob y, o ≠ .frz ob y := by
  obtain ⟨n, o, _, _, q⟩ := r.some ha
  cases o with
  | lst ws => obtain ⟨vs, e, _⟩ := q; exact ⟨_, e, fun xs => ⟨nofun, fun ob y => nofun⟩⟩
  | dct _ _ => exact q.elim
  | ins _ _ => exact q.elim
theorem RelH.free (r : RelH A m h H) {a : Addr} (e : H a = none) : a ∉ m := fun ha => by
  obtain ⟨o, q, _⟩ := r.there ha
  rw [e] at q; cases q
theorem SqT.grow (r : RelH A m h H) (g : Grow m H m' H') {a : Addr} {vs : List V} (q : SqT A.K H a vs) : SqT A.K H' a vs := by
  rcases q with (q | ⟨ob, q⟩) | q
  · refine .inl (.inl (g.keep a _ q fun ha => ?_))
    obtain ⟨o, e, z⟩ := r.there ha
    rw [q] at e; cases e
    exact (z vs).1 rfl
  · refine .inl (.inr ⟨ob, g.keep a _ q fun ha => ?_⟩)
    obtain ⟨o, e, z⟩ := r.there ha
    rw [q] at e; cases e
    exact (z vs).2 ob _ rfl
  · exact .inr q
theorem SqR.grow (r : RelH A m h H) (g : Grow m H m' H') {a : Addr} {vs : List V} (q : SqR A.K H a vs) : SqR A.K H' a vs := by
  rcases q with ⟨ob, q⟩ | q
  · refine .inl ⟨ob, g.keep a _ q fun ha => ?_⟩
    obtain ⟨o, e, z⟩ := r.there ha
    rw [q] at e; cases e
    exact (z vs).2 ob _ rfl
  · exact .inr q
mutual
theorem Rep.grow (r : RelH A m h H) (g : Grow m H m' H') : ∀ {w : W} {v : V}, Rep A m H w v → Rep A m' H' w v
  | _, _, .non => .non
  | _, _, .bl b => .bl b
  | _, _, .int i => .int i
  | _, _, .str x => .str x
  | _, _, .tup q k => .tup (SqT.grow r g q) (Reps.grow r g k)
  | _, _, .ref e => .ref (g.get e)
  | _, _, .fn i => .fn i
  | _, _, .cls i => .cls i
  | _, _, .rol q k => .rol (SqR.grow r g q) (Reps.grow r g k)
theorem Reps.grow (r : RelH A m h H) (g : Grow m H m' H') : ∀ {ws : List W} {vs : List V}, Reps A m H ws vs → Reps A m' H' ws vs
  | _, _, .nil => .nil
  | _, _, .cons a b => .cons (Rep.grow r g a) (Reps.grow r g b)
end
theorem RelS.grow (r : RelH A m h H) (g : Grow m H m' H') {s : Sl} {σ : L2.St} (q : RelS A m H s σ) : RelS A m' H' s σ :=
  ⟨q.len, fun i w e => let ⟨v, e1, e2⟩ := q.at_ i w e; ⟨v, e1, e2.grow r g⟩⟩
theorem Reps.length : ∀ {ws : List W} {vs : List V}, Reps A m H ws vs → ws.length = vs.length
  | _, _, .nil => rfl
  | _, _, .cons _ b => congrArg Nat.succ b.length
theorem Reps.get : ∀ {ws : List W} {vs : List V} {n : Nat} {w : W}, Reps A m H ws vs → ws[n]? = Option.some w → ∃ v, vs[n]? = Option.some v ∧ Rep A m H w v
  | _, _, _, _, .nil, e => by simp at e
  | _, _, 0, _, .cons r _, e => by simp at e; subst e; exact ⟨_, rfl, r⟩
  | _, _, n + 1, w, .cons _ t, e => by
    obtain ⟨v, h1, h2⟩ := Reps.get (n := n) (w := w) t (by simpa using e)
    exact ⟨v, by simpa using h1, h2⟩
theorem Reps.append : ∀ {ws us : List W} {vs xs : List V}, Reps A m H ws vs → Reps A m H us xs → Reps A m H (ws ++ us) (vs ++ xs)
  | _, _, _, _, .nil, k => k
  | _, _, _, _, .cons a b, k => .cons a (b.append k)
theorem Reps.take : ∀ {ws : List W} {vs : List V} (n : Nat), Reps A m H ws vs → Reps A m H (ws.take n) (vs.take n)
  | _, _, 0, _ => .nil
  | _, _, _ + 1, .nil => .nil
  | _, _, n + 1, .cons a b => .cons a (b.take n)
theorem Reps.drop : ∀ {ws : List W} {vs : List V} (n : Nat), Reps A m H ws vs → Reps A m H (ws.drop n) (vs.drop n)
  | _, _, 0, r => r
  | _, _, _ + 1, .nil => .nil
  | _, _, n + 1, .cons a b => b.drop n
theorem Reps.set {w : W} {v : V} (r : Rep A m H w v) : ∀ {ws : List W} {vs : List V} (n : Nat), Reps A m H ws vs → Reps A m H (ws.set n w) (vs.set n v)
  | _, _, _, .nil => .nil
  | _, _, 0, .cons _ b => .cons r b
  | _, _, n + 1, .cons a b => .cons a (Reps.set r n b)
theorem Reps.dropLast {ws : List W} {vs : List V} (r : Reps A m H ws vs) : Reps A m H ws.dropLast vs.dropLast := by
  rw [List.dropLast_eq_take, List.dropLast_eq_take, r.length]
  exact r.take _
theorem Reps.erase : ∀ {ws : List W} {vs : List V} (n : Nat), Reps A m H ws vs → Reps A m H (ws.eraseIdx n) (vs.eraseIdx n)
  | _, _, _, .nil => .nil
  | _, _, 0, .cons _ b => b
  | _, _, n + 1, .cons a b => .cons a (b.erase n)
theorem Reps.reverse {ws : List W} {vs : List V} (r : Reps A m H ws vs) : Reps A m H ws.reverse vs.reverse := by
  induction r using Reps.rec (motive_1 := fun _ _ _ => True) with
  | nil => exact .nil
  | cons a b _ ih => simp only [List.reverse_cons]; exact Reps.append ih (.cons a .nil)
  | _ => trivial
theorem Reps.rep {ws : List W} {vs : List V} (r : Reps A m H ws vs) : ∀ k : Nat, Reps A m H (flatRep k ws) (List.replicate k vs).flatten
  | 0 => .nil
  | k + 1 => by
    unfold flatRep
    simp only [List.replicate_succ, List.flatten_cons]
    exact Reps.append r (Reps.rep r k)
/-- the map is a part of a greater one -/
theorem RelH.of_get {n : Nat} {o : O} (r : RelH A m h H) (e : h[n]? = Option.some o) : ∃ a, m[n]? = Option.some a ∧ RepO A m H a o := r.ob n o e
theorem RelH.lst {n : Nat} {ws : List W} (r : RelH A m h H) (e : lstAt h n = Option.some ws) {a : Addr} (ha : m[n]? = Option.some a) : ∃ vs, H a = Option.some (.lst vs) ∧ Reps A m H ws vs := by
  unfold lstAt at e
  split at e
  · rename_i us q
    cases e
    obtain ⟨b, e1, e2⟩ := r.ob n _ q
    rw [ha] at e1; cases e1
    exact e2
  · cases e
theorem RelH.its {n : Nat} {ws : List W} (r : RelH A m h H) (e : items h n = Option.some ws) {a : Addr} (ha : m[n]? = Option.some a) : ∃ vs, SqL A.K H a vs ∧ Reps A m H ws vs := by
  unfold items at e
  split at e
  · rename_i us q
    cases e
    obtain ⟨b, e1, vs, e2, e3⟩ := r.ob n _ q
    rw [ha] at e1; cases e1
    exact ⟨vs, .inl (.inl e2), e3⟩
  · cases e
/-- a new list -/
theorem RelH.new (r : RelH A m h H) {p : Addr} {ws : List W} {vs : List V} (hp : H p = none) (k : Reps A m H ws vs) :
    RelH A (m ++ [p]) (h ++ [.lst ws]) (upd H p (.lst vs)) ∧ Grow m H (m ++ [p]) (upd H p (.lst vs)) := by
  have pm : p ∉ m := r.free hp
  have g : Grow m H (m ++ [p]) (upd H p (.lst vs)) := ⟨⟨[p], rfl, fun a ha _ => by rw [List.mem_singleton.mp ha]; exact hp⟩, fun a o e _ => by
    rw [upd_ne (by intro z; rw [z, hp] at e; cases e)]; exact e⟩
  refine ⟨⟨by simp [r.len], ?_, fun n o e => ?_⟩, g⟩
  · rw [List.nodup_append]
    exact ⟨r.nd, by simp, fun a ha b hb => by rw [List.mem_singleton.mp hb]; intro z; exact pm (z ▸ ha)⟩
  · by_cases hn : n < h.length
    · rw [List.getElem?_append_left hn] at e
      obtain ⟨a, e1, e2⟩ := r.ob n o e
      refine ⟨a, g.get e1, ?_⟩
      have ham : a ∈ m := List.mem_of_getElem? e1
      have hne : a ≠ p := fun z => pm (z ▸ ham)
      cases o with
      | lst us => obtain ⟨xs, q1, q2⟩ := e2; exact ⟨xs, by rw [upd_ne hne]; exact q1, q2.grow r g⟩
      | dct _ _ => exact e2.elim
      | ins _ _ => exact e2.elim
    · have hn2 : n = h.length := by
        have := (List.getElem?_eq_some_iff.mp e).1
        simp at this; omega
      subst hn2
      simp at e
      subst e
      refine ⟨p, by rw [← r.len]; simp, vs, upd_same, k.grow r g⟩
/-- a list changed -/
theorem RelH.put (r : RelH A m h H) {n : Nat} {a : Addr} {us ws : List W} {vs : List V} (ha : m[n]? = Option.some a) (e0 : lstAt h n = Option.some us) (k : Reps A m H ws vs) :
    RelH A m (h.set n (.lst ws)) (upd H a (.lst vs)) ∧ Grow m H m (upd H a (.lst vs)) := by
  have ham : a ∈ m := List.mem_of_getElem? ha
  have g : Grow m H m (upd H a (.lst vs)) := ⟨⟨[], by simp, fun a h => by simp at h⟩, fun b o e hb => by rw [upd_ne (fun z : b = a => hb (by rw [z]; exact ham))]; exact e⟩
  refine ⟨⟨by simp [r.len], r.nd, fun i o e => ?_⟩, g⟩
  by_cases hi : i = n
  · subst hi
    have hl : i < h.length := by
      rw [← r.len]; exact (List.getElem?_eq_some_iff.mp ha).1
    rw [List.getElem?_set_self hl] at e
    cases e
    exact ⟨a, ha, vs, upd_same, k.grow r g⟩
  · rw [List.getElem?_set_ne (Ne.symm hi)] at e
    obtain ⟨b, e1, e2⟩ := r.ob i o e
    refine ⟨b, e1, ?_⟩
    have hne : b ≠ a := by
      intro z
      subst z
      have h1 := List.getElem?_eq_some_iff.mp e1
      have h2 := List.getElem?_eq_some_iff.mp ha
      obtain ⟨p1, q1⟩ := h1
      obtain ⟨p2, q2⟩ := h2
      exact hi ((List.getElem_inj r.nd).mp (q1.trans q2.symm))
    cases o with
    | lst us => obtain ⟨xs, q1, q2⟩ := e2; exact ⟨xs, by rw [upd_ne hne]; exact q1, q2.grow r g⟩
    | dct _ _ => exact e2.elim
    | ins _ _ => exact e2.elim
/-- an object beside the map -/
theorem RelH.side (r : RelH A m h H) {p : Addr} {o : HO} (hp : H p = none) : RelH A m h (upd H p o) ∧ Grow m H m (upd H p o) := by
  have pm : p ∉ m := r.free hp
  have g : Grow m H m (upd H p o) := ⟨⟨[], by simp, fun a h => by simp at h⟩, fun b u e hb => by rw [upd_ne (by intro z; rw [z, hp] at e; cases e)]; exact e⟩
  refine ⟨⟨r.len, r.nd, fun n o e => ?_⟩, g⟩
  obtain ⟨a, e1, e2⟩ := r.ob n o e
  have hne : a ≠ p := fun z => pm (z ▸ List.mem_of_getElem? e1)
  refine ⟨a, e1, ?_⟩
  cases o with
  | lst us => obtain ⟨xs, q1, q2⟩ := e2; exact ⟨xs, by rw [upd_ne hne]; exact q1, q2.grow r g⟩
  | dct _ _ => exact e2.elim
  | ins _ _ => exact e2.elim
end
end Wm
end

section
set_option Elab.async false
set_option linter.all false
set_option maxRecDepth 100000
set_option maxHeartbeats 4000000
set_option autoImplicit false
/-! The own language's runs as readings. -/
namespace Wm
open PySem PySem.Spec PyProof.Rows L2

/-- an exception's own dict -/
inductive RepF (A : At) (m : List Addr) (H : Hp) : List (Str × W) → List (Str × V) → Prop
  | nil : RepF A m H [] []
  | cons {x : Str} {w : W} {v : V} {fs : List (Str × W)} {gs : List (Str × V)} : Rep A m H w v → RepF A m H fs gs → RepF A m H ((x, w) :: fs) ((x, v) :: gs)
theorem RepF.grow {A : At} {m m' : List Addr} {h : OH} {H H' : Hp} (r : RelH A m h H) (g : Grow m H m' H') : ∀ {fs : List (Str × W)} {gs : List (Str × V)}, RepF A m H fs gs → RepF A m' H' fs gs
  | _, _, .nil => .nil
  | _, _, .cons a b => .cons (a.grow r g) (RepF.grow r g b)
def ExcRel (A : At) (m : List Addr) (H : Hp) (fs : List (Str × W)) (d : Option Addr) : Prop :=
  (fs = [] ∧ d = none) ∨ ∃ (dd : Addr) (gs : List (Str × V)), d = some dd ∧ H dd = some (.xd gs) ∧ RepF A m H fs gs

/-- a relation of own values and the layer's, that lasts -/
structure Rl (A : At) (α β : Type) where
  r : List Addr → Hp → α → β → Prop
  grow : ∀ {m m' : List Addr} {h : OH} {H H' : Hp} {a : α} {b : β}, RelH A m h H → Grow m H m' H' → r m H a b → r m' H' a b
section
variable (A : At)
def rW : Rl A W V := ⟨fun m H => Rep A m H, fun r g q => q.grow r g⟩
def rWs : Rl A (List W) (List V) := ⟨fun m H => Reps A m H, fun r g q => q.grow r g⟩
def rE (α : Type) : Rl A α α := ⟨fun _ _ a b => a = b, fun _ _ q => q⟩
def rNo : Rl A Unit Unit := ⟨fun _ _ _ _ => True, fun _ _ q => q⟩
def rP {α β γ δ : Type} (a : Rl A α β) (b : Rl A γ δ) : Rl A (α × γ) (β × δ) := ⟨fun m H x y => a.r m H x.1 y.1 ∧ b.r m H x.2 y.2, fun r g q => ⟨a.grow r g q.1, b.grow r g q.2⟩⟩
end
section
variable {A : At} (ew : XK)
/-- what a run's end asks -/
def Post {α β : Type} (rl : Rl A α β) (m : List Addr) (H : Hp) (r : R α) (Q : β → Hp → Prop) : Prop := match r with
  | .ok a h' => ∀ (m' : List Addr) (b : β) (H' : Hp), Grow m H m' H' → RelH A m' h' H' → rl.r m' H' a b → Q b H'
  | .exc c fs h' => ∀ (m' : List Addr) (d : Option Addr) (H' : Hp), Grow m H m' H' → RelH A m' h' H' → ExcRel A m' H' fs d → ew (.ref (A.ca c)) d H'
  | .no => False
/-- a run behind what has been reckoned (a, as b) -/
def tA {α β γ δ : Type} (ρ : Rl A α β) (rl : Rl A γ δ) (g : α → Sl → OH → R γ) (b : β) : L2.St → Hp → (δ → Hp → Prop) → Prop := fun σ H Q =>
  ∃ (m : List Addr) (h : OH) (s : Sl) (a : α), RelH A m h H ∧ RelS A m H s σ ∧ ρ.r m H a b ∧ Post ew rl m H (g a s h) Q
/-- a run -/
def tG {γ δ : Type} (rl : Rl A γ δ) (g : Sl → OH → R γ) : L2.St → Hp → (δ → Hp → Prop) → Prop := tA ew (rNo A) rl (fun _ => g) ()
variable {ew}
theorem Post.from {α β : Type} {rl : Rl A α β} {m m' : List Addr} {H H' : Hp} {r : R α} {Q : β → Hp → Prop} (g : Grow m H m' H') (p : Post ew rl m H r Q) : Post ew rl m' H' r Q := by
  cases r with
  | ok a h' => exact fun m2 b H2 g2 r2 q2 => p m2 b H2 (g.trans g2) r2 q2
  | exc c fs h' => exact fun m2 b H2 g2 r2 q2 => p m2 b H2 (g.trans g2) r2 q2
  | no => exact p
/-- one step, then the rest -/
theorem tA.step {α β γ δ ε ζ : Type} {ρ : Rl A α β} {rl : Rl A γ δ} {r1 : Rl A ε ζ} {c : α → Sl → OH → R ε} {g : α × ε → Sl → OH → R γ} {b : β} {σ : L2.St} {H : Hp} {Q : δ → Hp → Prop}
    (t : tA ew ρ rl (fun a s h => (c a s h).bind fun x h1 => g (a, x) s h1) b σ H Q) : tA ew ρ r1 c b σ H (fun y H1 => tA ew (rP A ρ r1) rl g (b, y) σ H1 Q) := by
  obtain ⟨m, h, s, a, rh, rs, ra, p⟩ := t
  refine ⟨m, h, s, a, rh, rs, ra, ?_⟩
  have p2 : Post ew rl m H ((c a s h).bind fun x h1 => g (a, x) s h1) Q := p
  revert p2
  cases c a s h with
  | ok x h1 => exact fun p m' y H' g' r' q => ⟨m', h1, s, (a, x), r', rs.grow rh g', ⟨ρ.grow rh g' ra, q⟩, Post.from g' p⟩
  | exc c fs h1 => exact fun p => p
  | no => exact fun p => p
/-- a run that does not look at what has been reckoned -/
theorem tA.forget {α β γ δ : Type} {ρ : Rl A α β} {rl : Rl A γ δ} {g : Sl → OH → R γ} {b : β} {σ : L2.St} {H : Hp} {Q : δ → Hp → Prop} (t : tA ew ρ rl (fun _ => g) b σ H Q) : tG ew rl g σ H Q := by
  obtain ⟨m, h, s, a, rh, rs, ra, p⟩ := t
  exact ⟨m, h, s, (), rh, rs, trivial, p⟩
theorem tA.imp {α β γ δ : Type} {ρ : Rl A α β} {rl : Rl A γ δ} {g g' : α → Sl → OH → R γ} {b : β} {σ : L2.St} {H : Hp} {Q : δ → Hp → Prop} (t : tA ew ρ rl g b σ H Q) (e : ∀ a s h, g a s h = g' a s h) : tA ew ρ rl g' b σ H Q := by
  obtain ⟨m, h, s, a, rh, rs, ra, p⟩ := t
  exact ⟨m, h, s, a, rh, rs, ra, by rw [← e]; exact p⟩
/-- a value is there -/
theorem Post.ok {α β : Type} {rl : Rl A α β} {m m' : List Addr} {H H' : Hp} {a : α} {b : β} {h' : OH} {Q : β → Hp → Prop} (p : Post ew rl m H (.ok a h') Q) (g : Grow m H m' H') (r : RelH A m' h' H') (q : rl.r m' H' a b) : Q b H' := p m' b H' g r q
end

theorem PE.weak {X : Cx} {e : Expr} {t t' : TE} (h : PE X e t) (i : ∀ σ H Q, t' σ H Q → t σ H Q) : PE X e t' := ⟨fun pins s σ H Q I q => h.run pins s σ H Q I (i σ H Q q)⟩
theorem PT.weak {X : Cx} {e : Expr} {t t' : TT} (h : PT X e t) (i : ∀ σ H Q, t' σ H Q → t σ H Q) : PT X e t' := ⟨fun pins s σ H Q I q => h.run pins s σ H Q I (i σ H Q q)⟩
theorem PA.weak {X : Cx} {es : List Expr} {t t' : TA} (h : PA X es t) (i : ∀ σ H Q, t' σ H Q → t σ H Q) : PA X es t' := ⟨fun pos pins s σ H Q I q => h.run pos pins s σ H Q I (i σ H Q q)⟩
theorem PS.weak {X : Cx} {st : Stmt} {t t' : TS} (h : PS X st t) (i : ∀ D σ H, t' D σ H → t D σ H) : PS X st t' := ⟨fun pins s σ H D I q => h.run pins s σ H D I (i D σ H q)⟩
theorem PSs.weak {X : Cx} {st : List Stmt} {t t' : TS} (h : PSs X st t) (i : ∀ D σ H, t' D σ H → t D σ H) : PSs X st t' := ⟨fun pins s σ H D I q => h.run pins s σ H D I (i D σ H q)⟩
theorem PI.weak {X : Cx} {tg e : Expr} {t t' : TI} (h : PI X tg e t) (i : ∀ σ H Q, t' σ H Q → t σ H Q) : PI X tg e t' := ⟨fun pins s σ H Q I q => h.run pins s σ H Q I (i σ H Q q)⟩
end Wm
end

section
set_option Elab.async false
set_option linter.all false
set_option maxRecDepth 100000
set_option maxHeartbeats 4000000
set_option autoImplicit false
/-! Each operation of the own language is one of the machine's. -/
namespace Wm
open PySem PySem.Spec PyProof.Rows L2

theorem line_le {n : Nat} (h : Nat.ble n line = true) : n < sizeLine := Nat.lt_of_le_of_lt (Nat.le_of_ble_eq_true h) (by decide)
section
variable {A : At} {X : Cx} {ew : XK}
/-- what the frame's context gives -/
structure Calm (A : At) (X : Cx) : Prop where
  K : X.K = A.K
  calm : X.calm = true
  un : X.A.units + 65 < cLine
  grd : X.A.guards = some []

variable (A) (ew)
/-- an operation of two values, as a reading -/
def o2 (f : W → W → OH → R W) : R2 := fun v u H Q => ∃ (m : List Addr) (h : OH) (x y : W), RelH A m h H ∧ Rep A m H x v ∧ Rep A m H y u ∧ Post ew (rW A) m H (f x y h) Q
variable {A} {ew}
theorem tA.o2 {α β : Type} {ρ : Rl A α β} {f : W → W → OH → R W} {p : α × W × W} {b : β} {v u : V} {σ : L2.St} {H : Hp} {Q : VK}
    (t : tA ew (rP A (rP A ρ (rW A)) (rW A)) (rW A) (fun a _ h => f a.1.2 a.2 h) ((b, v), u) σ H Q) : o2 A ew f v u H Q := by
  obtain ⟨m, h, s, a, rh, rs, ⟨⟨_, r1⟩, r2⟩, p⟩ := t
  exact ⟨m, h, a.1.2, a.2, rh, r1, r2, p⟩

theorem rep_tup {m : List Addr} {H : Hp} {ws : List W} {v : V} (r : Rep A m H (.tup ws) v) : ∃ a vs, v = .ref a ∧ SqT A.K H a vs ∧ Reps A m H ws vs := by
  cases r with
  | tup q k => exact ⟨_, _, rfl, q, k⟩
theorem rep_ref {m : List Addr} {H : Hp} {n : Nat} {v : V} (r : Rep A m H (.ref n) v) : ∃ a, v = .ref a ∧ m[n]? = some a := by
  cases r with
  | ref e => exact ⟨_, rfl, e⟩
theorem reps_nil {m : List Addr} {H : Hp} {vs : List V} (r : Reps A m H [] vs) : vs = [] := by cases r; rfl
theorem reps_cons {m : List Addr} {H : Hp} {w : W} {ws : List W} {vs : List V} (r : Reps A m H (w :: ws) vs) : ∃ v us, vs = v :: us ∧ Rep A m H w v ∧ Reps A m H ws us := by
  cases r with
  | cons a b => exact ⟨_, _, rfl, a, b⟩
/-- a value that leaves the heap as it is -/
theorem Post.now {m : List Addr} {H : Hp} {w : W} {v : V} {h : OH} {Q : VK} (p : Post ew (rW A) m H (.ok w h) Q) (rh : RelH A m h H) (r : Rep A m H w v) : Q v H := p m v H (Grow.refl m H) rh r
/-- a new tuple -/
theorem Post.tup {m : List Addr} {H : Hp} {ws : List W} {vs : List V} {h : OH} {Q : VK} (p : Post ew (rW A) m H (.ok (.tup ws) h) Q) (rh : RelH A m h H) (r : Reps A m H ws vs) : ∀ q, H q = none → Q (.ref q) (upd H q (.tup vs)) := fun q hq => by
  obtain ⟨r2, g⟩ := rh.side (o := .tup vs) hq
  exact p m (.ref q) _ g r2 (.tup (SqT.of upd_same) (r.grow rh g))
/-- a new list -/
theorem Post.lst {m : List Addr} {H : Hp} {ws : List W} {vs : List V} {h : OH} {Q : VK} (p : Post ew (rW A) m H (alloc (.lst ws) h) Q) (rh : RelH A m h H) (r : Reps A m H ws vs) : ∀ q, H q = none → Q (.ref q) (upd H q (.lst vs)) := fun q hq => by
  obtain ⟨r2, g⟩ := rh.new hq r
  exact p (m ++ [q]) (.ref q) _ g r2 (.ref (by rw [← rh.len]; simp))
/-- a list changed -/
theorem Post.put {m : List Addr} {H : Hp} {w : W} {v : V} {ws us : List W} {vs : List V} {h : OH} {Q : VK} {n : Nat} {a : Addr} (p : Post ew (rW A) m H (.ok w (h.set n (.lst ws))) Q) (rh : RelH A m h H) (ha : m[n]? = some a) (e0 : lstAt h n = some us) (r : Reps A m H ws vs)
    (rv : Rep A m H w v) : Q v (upd H a (.lst vs)) := by
  obtain ⟨r2, g⟩ := rh.put ha e0 r
  exact p m v _ g r2 (rv.grow rh g)

theorem mulOk_ok {i j : Int} (h : mulOk i j = true) : CMul i j ∨ CMulW i j := by
  unfold mulOk at h
  simp only [Bool.or_eq_true, decide_eq_true_eq] at h
  rcases h with (h | h) | h
  · exact .inl (.inl (by omega))
  · exact .inl (.inr (by omega))
  · exact .inr h
theorem bin_ok (C : Calm A X) (op : Operator) (o : Bop) (e : (match o with | .add => Operator.Add | .sub => .Sub | .mul => .Mult | .fdiv => .FloorDiv | .mod => .Mod | .pow => .Pow) = op) : OpR X (binaryOp op) (o2 A ew (binW o)) := by
  subst e
  intro pins s σ H x y v u Q I rx ry q
  obtain ⟨m, h, wx, wy, rh, r1, r2, p⟩ := q
  unfold binW at p
  split at p
  · cases r1; cases r2; exact op_add pins s σ H _ _ _ _ Q I rx ry ⟨_, _, rfl, rfl, p.now rh (.int _)⟩
  · cases r1; cases r2; exact op_sub pins s σ H _ _ _ _ Q I rx ry ⟨_, _, rfl, rfl, p.now rh (.int _)⟩
  · split at p
    · rename_i hm
      cases r1; cases r2
      rcases mulOk_ok hm with c | c
      · exact op_mul pins s σ H _ _ _ _ Q I rx ry ⟨_, _, rfl, rfl, c, p.now rh (.int _)⟩
      · exact op_mulW pins s σ H _ _ _ _ Q I rx ry ⟨_, _, rfl, rfl, c, p.now rh (.int _)⟩
    · exact p.elim
  · split at p
    · rename_i hm
      cases r1; cases r2
      exact op_mod pins s σ H _ _ _ _ Q I rx ry ⟨_, _, rfl, rfl, hm, p.now rh (.int _)⟩
    · exact p.elim
  · split at p
    · rename_i hm
      cases r1; cases r2
      exact op_fdivW pins s σ H _ _ _ _ Q I rx ry ⟨_, _, rfl, rfl, hm, p.now rh (.int _)⟩
    · exact p.elim
  · split at p
    · rename_i hm
      cases r1; cases r2
      exact op_pow pins s σ H _ _ _ _ Q I rx ry ⟨_, _, rfl, rfl, hm, p.now rh (.int _)⟩
    · exact p.elim
  · split at p
    · rename_i hm
      cases r1; cases r2
      exact op_add_str pins s σ H _ _ _ _ Q I rx ry ⟨_, _, rfl, rfl, Nat.le_of_lt (line_le hm), p.now rh (.str _)⟩
    · exact p.elim
  · split at p
    · rename_i a b hm
      obtain ⟨pa, vs, rfl, q1, k1⟩ := rep_tup r1
      obtain ⟨pb, us, rfl, q2, k2⟩ := rep_tup r2
      have hl := line_le hm
      rw [k1.length, k2.length] at hl
      refine op_catA pins s σ H _ _ _ _ Q I rx ry ⟨_, _, vs, us, rfl, rfl, by rw [C.K]; exact q1, by rw [C.K]; exact q2, Nat.le_of_lt hl, fun e => ?_, fun _ e => ?_, fun _ _ => p.tup rh (k1.append k2)⟩
      · subst e
        have e2 : a = [] := by have := k1.length; simpa using this
        subst e2
        exact p.now rh r2
      · subst e
        have e2 : b = [] := by have := k2.length; simpa using this
        subst e2
        rw [List.append_nil] at p
        exact p.now rh r1
    · exact p.elim
  · split at p
    · rename_i m1 n1 _ a b e1 e2
      split at p
      · rename_i hm
        obtain ⟨pa, rfl, i1⟩ := rep_ref r1
        obtain ⟨pb, rfl, i2⟩ := rep_ref r2
        obtain ⟨vs, q1, k1⟩ := rh.lst e1 i1
        obtain ⟨us, q2, k2⟩ := rh.lst e2 i2
        have hl := line_le hm
        rw [k1.length, k2.length] at hl
        exact op_cat pins s σ H _ _ _ _ Q I rx ry ⟨_, _, vs, us, rfl, rfl, q1, q2, Nat.le_of_lt hl, p.lst rh (k1.append k2)⟩
      · exact p.elim
    · exact p.elim
  · split at p
    · rename_i a k _ hm
      obtain ⟨pa, vs, rfl, q1, k1⟩ := rep_tup r1
      cases r2
      refine op_repT pins s σ H _ _ _ _ Q I rx ry ⟨_, _, vs, rfl, rfl, by rw [C.K]; exact q1, fun e => ?_, hm.1, hm.2.1, by rw [← k1.length]; exact hm.2.2.2, p.tup rh (k1.rep _)⟩
      subst e
      exact hm.2.2.1 (by have := k1.length; simpa using this)
    · exact p.elim
  · split at p
    · rename_i m1 k _ a e1
      split at p
      · rename_i hm
        obtain ⟨pa, rfl, i1⟩ := rep_ref r1
        obtain ⟨vs, q1, k1⟩ := rh.lst e1 i1
        cases r2
        refine op_rep pins s σ H _ _ _ _ Q I rx ry ⟨_, _, vs, rfl, rfl, q1, hm.1, hm.2.1, ?_, p.lst rh (k1.rep _)⟩
        rw [← k1.length]
        exact Nat.le_trans hm.2.2 (by decide)
      · exact p.elim
    · exact p.elim
  · exact p.elim
end
end Wm
end

section
set_option Elab.async false
set_option linter.all false
set_option maxRecDepth 100000
set_option maxHeartbeats 4000000
set_option autoImplicit false
namespace Wm
open PySem PySem.Spec PyProof.Rows L2
section
variable {A : At} {X : Cx} {ew : XK} {m : List Addr} {h : OH} {H : Hp}
/-- what own data are -/
def IsD (K : PySem.W.Frag) (H : Hp) (n : Nat) (v : V) (d : PyData) : Prop := Dp K H v d ∧ d.canLay0 = true ∧ d.depth ≤ n
theorem isDs {f : W → Option PyData} {n : Nat} (ih : ∀ (w : W) (d : PyData) (v : V), f w = some d → Rep A m H w v → IsD A.K H n v d) :
    ∀ (ws : List W) (ds : List PyData) (vs : List V), toDl f ws = some ds → Reps A m H ws vs → DpAll A.K H vs ds ∧ PyData.canLayAll0 ds = true ∧ PyData.depthAll ds ≤ n
  | [], ds, vs, e, r => by
    cases r
    simp only [toDl, Option.some.injEq] at e
    subst e
    exact ⟨.nil, by simp [PyData.canLayAll0], by simp [PyData.depthAll]⟩
  | w :: ws, ds, vs, e, r => by
    obtain ⟨v, us, rfl, r1, r2⟩ := reps_cons r
    unfold toDl at e
    split at e
    · rename_i d ds' e1 e2
      cases e
      obtain ⟨a1, a2, a3⟩ := ih w d v e1 r1
      obtain ⟨b1, b2, b3⟩ := isDs ih ws ds' us e2 r2
      exact ⟨.cons a1 b1, by simp [PyData.canLayAll0, a2, b2], by simp only [PyData.depthAll]; omega⟩
    · cases e
theorem toD_ok (rh : RelH A m h H) : ∀ (n : Nat) (w : W) (d : PyData) (v : V), toD h n w = some d → Rep A m H w v → IsD A.K H n v d := by
  intro n
  induction n with
  | zero =>
    intro w d v e r
    unfold toD at e
    split at e
    · cases e; cases r; exact ⟨.non, by simp [PyData.canLay0], by simp [PyData.depth]⟩
    · cases e; cases r; exact ⟨.bl _, by simp [PyData.canLay0], by simp [PyData.depth]⟩
    · cases e; cases r; exact ⟨.int _, by simp [PyData.canLay0], by simp [PyData.depth]⟩
    · split at e
      · rename_i ho
        cases e; cases r; exact ⟨.str _, by simp [PyData.canLay0, ho], by simp [PyData.depth]⟩
      · cases e
    · cases e
  | succ n ih =>
    intro w d v e r
    unfold toD at e
    split at e
    · cases e; cases r; exact ⟨.non, by simp [PyData.canLay0], by simp [PyData.depth]⟩
    · cases e; cases r; exact ⟨.bl _, by simp [PyData.canLay0], by simp [PyData.depth]⟩
    · cases e; cases r; exact ⟨.int _, by simp [PyData.canLay0], by simp [PyData.depth]⟩
    · split at e
      · rename_i ho
        cases e; cases r; exact ⟨.str _, by simp [PyData.canLay0, ho], by simp [PyData.depth]⟩
      · cases e
    · rename_i ws
      obtain ⟨ds, e1, rfl⟩ := Option.map_eq_some_iff.mp e
      obtain ⟨a, vs, rfl, q, k⟩ := rep_tup r
      obtain ⟨b1, b2, b3⟩ := isDs ih ws ds vs e1 k
      exact ⟨.tup q b1, by simp [PyData.canLay0, b2], by simp only [PyData.depth]; omega⟩
    · rename_i r0
      split at e
      · rename_i ws e0
        obtain ⟨ds, e1, rfl⟩ := Option.map_eq_some_iff.mp e
        obtain ⟨a, rfl, ia⟩ := rep_ref r
        obtain ⟨vs, q, k⟩ := rh.its e0 ia
        obtain ⟨b1, b2, b3⟩ := isDs ih ws ds vs e1 k
        exact ⟨.lst q b1, by simp [PyData.canLay0, b2], by simp only [PyData.depth]; omega⟩
      · cases e
    · cases e
theorem IsD.shaped {n : Nat} {v : V} {d : PyData} (i : IsD A.K H n v d) (hn : n ≤ 64) : SeqAt.shaped d = true := by
  unfold SeqAt.shaped
  rw [i.2.1, Bool.true_and, decide_eq_true_eq]
  exact Nat.le_trans i.2.2 hn
theorem bl_inj {a b : Bool} (h : V.bl a = V.bl b) : a = b := by injection h
/-- == and != -/
theorem eq_ok (C : Calm A X) (neg : Bool) : OpR X (compareOp (if neg = true then .NotEq else .Eq)) (o2 A ew fun x y h => bR ((eqW h x y).map fun b => if neg = true then !b else b) h) := by
  intro pins s σ H x y v u Q I rx ry q
  obtain ⟨m, h, wx, wy, rh, r1, r2, p0⟩ := q
  have sc : ∀ (b : Bool), L2.scal x y = true → b = decide (x = y) → Q (.bl (if neg = true then !b else b)) H → wpAny (model X.prog X.w) X.A (compareOp (if neg = true then .NotEq else .Eq) v u) (EP X pins σ Q) X.xe s := by
    intro b h1 h2 h3
    cases neg with
    | true => exact op_ne pins s σ H _ _ _ _ Q I rx ry ⟨h1, by rw [← h2]; exact h3⟩
    | false => exact op_eq pins s σ H _ _ _ _ Q I rx ry ⟨h1, by rw [← h2]; exact h3⟩
  have p : Post ew (rW A) m H (bR ((eqW h wx wy).map fun b => if neg = true then !b else b) h) Q := p0
  clear p0
  have fin : ∀ b, eqW h wx wy = some b → Q (.bl (if neg = true then !b else b)) H := fun b e => by
    rw [e] at p
    exact p.now rh (.bl _)
  have some_ : ∃ b, eqW h wx wy = some b := by
    cases e : eqW h wx wy with
    | some b => exact ⟨b, rfl⟩
    | none => rw [e] at p; exact p.elim
  obtain ⟨b, e0⟩ := some_
  have hq := fin b e0
  clear fin p
  unfold eqW at e0
  split at e0
  · rename_i i j
    cases e0
    cases r1; cases r2
    refine sc _ rfl ?_ hq
    by_cases e : i = j
    · subst e; simp
    · simp [e]
  · rename_i i j
    cases e0
    cases r1; cases r2
    refine sc _ rfl ?_ hq
    by_cases e : i = j
    · subst e; simp
    · simp [e]
  · rename_i i j
    cases e0
    cases r1; cases r2
    refine sc _ rfl ?_ hq
    cases i <;> cases j <;> rfl
  · cases e0
    cases r1; cases r2
    exact sc true rfl rfl hq
  · split at e0
    · rename_i d e e1 e2
      cases e0
      have i1 := toD_ok rh _ _ _ _ e1 r1
      have i2 := toD_ok rh _ _ _ _ e2 r2
      cases neg with
      | true => exact op_neD (by have := C.un; omega) pins s σ H _ _ _ _ Q I rx ry ⟨d, e, by rw [C.K]; exact i1.1, by rw [C.K]; exact i2.1, i1.shaped (by decide), i2.shaped (by decide), hq⟩
      | false => exact op_eqD (by have := C.un; omega) pins s σ H _ _ _ _ Q I rx ry ⟨d, e, by rw [C.K]; exact i1.1, by rw [C.K]; exact i2.1, i1.shaped (by decide), i2.shaped (by decide), hq⟩
    · cases e0
end
end Wm
end

section
set_option Elab.async false
set_option linter.all false
set_option maxRecDepth 100000
set_option maxHeartbeats 4000000
set_option autoImplicit false
namespace Wm
open PySem PySem.Spec PyProof.Rows L2
section
variable {A : At} {X : Cx} {ew : XK} {m : List Addr} {h : OH} {H : Hp}
theorem flat_rep {w : W} {v : V} (f : flat w = true) (r : Rep A m H w v) : flatV v = true := by
  cases r <;> first | rfl | cases f
theorem flats_rep : ∀ {ws : List W} {vs : List V}, ws.all flat = true → Reps A m H ws vs → vs.all flatV = true
  | [], _, _, r => by cases r; rfl
  | w :: ws, _, f, r => by
    obtain ⟨v, us, rfl, r1, r2⟩ := reps_cons r
    rw [List.all_cons, Bool.and_eq_true] at f ⊢
    exact ⟨flat_rep f.1 r1, flats_rep f.2 r2⟩
theorem eqF_rep {w z : W} {v u : V} (f : flat w = true) (g : flat z = true) (r : Rep A m H w v) (k : Rep A m H z u) : eqF z w = eqV u v := by
  cases r <;> cases k <;> first
    | (refine False.elim (Bool.noConfusion (show false = true from f)); done)
    | (refine False.elim (Bool.noConfusion (show false = true from g)); done)
    | rfl
    | (simp only [eqF, eqV]; apply Bool.eq_iff_iff.mpr; simp)
theorem inF_rep {w : W} {v : V} (f : flat w = true) (r : Rep A m H w v) : ∀ {ws : List W} {vs : List V}, ws.all flat = true → Reps A m H ws vs → (ws.any fun z => eqF z w) = inV v vs
  | [], _, _, k => by cases k; rfl
  | z :: ws, _, g, k => by
    obtain ⟨u, us, rfl, r1, r2⟩ := reps_cons k
    rw [List.all_cons, Bool.and_eq_true] at g
    have ih := inF_rep f r g.2 r2
    unfold inV at ih ⊢
    rw [List.any_cons, List.any_cons, eqF_rep f g.1 r r1, ih]
theorem seq_rep (rh : RelH A m h H) {w : W} {v : V} {ws : List W} (e : seqOf h w = some ws) (r : Rep A m H w v) : ∃ a vs, v = .ref a ∧ (SqL A.K H a vs ∨ SqT A.K H a vs) ∧ Reps A m H ws vs ∧ (∀ n, w = .ref n → SqL A.K H a vs) ∧ (∀ us, w = .tup us → SqT A.K H a vs) := by
  unfold seqOf at e
  split at e
  · cases e
    obtain ⟨a, vs, rfl, q, k⟩ := rep_tup r
    exact ⟨a, vs, rfl, .inr q, k, nofun, fun _ _ => q⟩
  · obtain ⟨a, rfl, ia⟩ := rep_ref r
    obtain ⟨vs, q, k⟩ := rh.its e ia
    exact ⟨a, vs, rfl, .inl q, k, fun _ _ => q, nofun⟩
  · cases e
theorem in_ok (C : Calm A X) (neg : Bool) : OpR X (compareOp (if neg = true then .NotIn else .In)) (o2 A ew fun x y h => bR ((inW h x y).map fun b => if neg = true then !b else b) h) := by
  intro pins s σ H x y v u Q I rx ry q
  obtain ⟨m, h, wx, wy, rh, r1, r2, p0⟩ := q
  have p : Post ew (rW A) m H (bR ((inW h wx wy).map fun b => if neg = true then !b else b) h) Q := p0
  clear p0
  have fin : ∀ b, inW h wx wy = some b → Q (.bl (if neg = true then !b else b)) H := fun b e => by
    rw [e] at p
    exact p.now rh (.bl _)
  have some_ : ∃ b, inW h wx wy = some b := by
    cases e : inW h wx wy with
    | some b => exact ⟨b, rfl⟩
    | none => rw [e] at p; exact p.elim
  obtain ⟨b, e0⟩ := some_
  have hq := fin b e0
  clear fin p
  unfold inW at e0
  split at e0
  · rename_i ws e1
    split at e0
    · rename_i hf
      rw [Bool.and_eq_true] at hf
      cases e0
      obtain ⟨a, vs, rfl, q, k, _, _⟩ := seq_rep rh e1 r2
      have hi := inF_rep hf.1 r1 hf.2 k
      rw [hi] at hq
      cases neg with
      | true => exact op_notIn_seq pins s σ H _ _ _ _ Q I rx ry ⟨a, vs, rfl, by rw [C.K]; exact q, flat_rep hf.1 r1, flats_rep hf.2 k, hq⟩
      | false => exact op_in_seq pins s σ H _ _ _ _ Q I rx ry ⟨a, vs, rfl, by rw [C.K]; exact q, flat_rep hf.1 r1, flats_rep hf.2 k, hq⟩
    · split at e0
      · rename_i d ds e2 e3
        cases e0
        obtain ⟨a, vs, rfl, q, k, ql, qt⟩ := seq_rep rh e1 r2
        have i1 := toD_ok rh _ _ _ _ e2 r1
        obtain ⟨b1, b2, b3⟩ := isDs (toD_ok rh 59) ws ds vs e3 k
        have sd := i1.shaped (by decide : 60 ≤ 64)
        have un := C.un
        cases wy with
        | ref n =>
          have sl : SeqAt.shaped (.list ds) = true := by
            unfold SeqAt.shaped
            rw [Bool.and_eq_true, decide_eq_true_eq]
            exact ⟨by simp [PyData.canLay0, b2], by simp only [PyData.depth]; omega⟩
          have hl : Dp A.K H (.ref a) (.list ds) := .lst (ql n rfl) b1
          cases neg with
          | true => exact op_notInD un pins s σ H _ _ _ _ Q I rx ry ⟨d, ds, by rw [C.K]; exact i1.1, by rw [C.K]; exact hl, sd, sl, hq⟩
          | false => exact op_inD un pins s σ H _ _ _ _ Q I rx ry ⟨d, ds, by rw [C.K]; exact i1.1, by rw [C.K]; exact hl, sd, sl, hq⟩
        | tup us =>
          have hl : Dp X.K H (.ref a) (.tuple ds) := .tup (by rw [C.K]; exact qt us rfl) (by rw [C.K]; exact b1)
          have hd : Dp X.K H x d := by rw [C.K]; exact i1.1
          obtain ⟨as, q1⟩ := Dp.reads I d x v hd rx
          obtain ⟨bs, q2⟩ := Dp.reads I (.tuple ds) _ u hl ry
          cases neg with
          | true => exact SeqAt.notIn_tuple_reads q2 q1 b2 i1.2.1 (room_in_shaped sd un) ⟨.bl _, H, I, rfl, hq⟩
          | false => exact SeqAt.in_tuple_reads q2 q1 b2 i1.2.1 (room_in_shaped sd un) ⟨.bl _, H, I, rfl, hq⟩
        | _ => cases e1
      · cases e0
  · split at e0
    · rename_i n _
      split at e0
      · rename_i _ e2
        obtain ⟨a, _, z⟩ := rh.ob n _ e2
        exact z.elim
      · cases e0
    · cases e0
end
end Wm
end

section
set_option Elab.async false
set_option linter.all false
set_option maxRecDepth 100000
set_option maxHeartbeats 4000000
set_option autoImplicit false
namespace Wm
open PySem PySem.Spec PyProof.Rows L2
section
variable {A : At} {X : Cx} {ew : XK} {m : List Addr} {h : OH} {H : Hp}
theorem intsW_eq : ∀ {ws : List W} {ns : List Int}, intsW ws = some ns → ws = ns.map .int
  | [], ns, e => by cases e; rfl
  | w :: ws, ns, e => by
    cases w with
    | int i =>
      obtain ⟨l, e1, e2⟩ := Option.map_eq_some_iff.mp (show (intsW ws).map (fun l => i :: l) = some ns from e)
      rw [← e2, intsW_eq e1]
      rfl
    | _ => cases e
theorem lexI_eq : ∀ ns ms : List Int, lexI ns ms = HT.lexLt ns ms
  | [], [] => rfl
  | [], _ :: _ => rfl
  | _ :: _, [] => rfl
  | x :: xs, y :: ys => by rw [HT.lexLt_cons, ← lexI_eq xs ys]; rfl
theorem lexW_ints (ws us : List W) (b : Bool) (e : lexW ws us = some b) : ∃ ns ms : List Int, ws = ns.map .int ∧ us = ms.map .int ∧ b = HT.lexLt ns ms := by
  unfold lexW at e
  split at e
  · rename_i ns ms e1 e2
    cases e
    exact ⟨ns, ms, intsW_eq e1, intsW_eq e2, lexI_eq ns ms⟩
  · cases e
theorem reps_ints : ∀ {ns : List Int} {vs : List V}, Reps A m H (ns.map .int) vs → vs = ns.map V.int
  | [], _, r => reps_nil r
  | i :: ns, _, r => by
    obtain ⟨v, us, rfl, r1, r2⟩ := reps_cons r
    cases r1
    rw [reps_ints r2]
    rfl
def copO : Cop → CmpOp
  | .eq => .Eq | .ne => .NotEq | .lt => .Lt | .le => .LtE | .gt => .Gt | .ge => .GtE | .inn => .In | .nin => .NotIn | .is => .Is | .isn => .IsNot
theorem map_id_bool (o : Option Bool) : (o.map fun b => if false = true then !b else b) = o := by cases o <;> rfl
theorem rep_non {w : W} {v : V} (r : Rep A m H w v) : isNon w = decide (v = .non) := by cases r <;> rfl
theorem cmp_ok (C : Calm A X) (o : Cop) : OpR X (compareOp (copO o)) (o2 A ew (cmpW o)) := by
  intro pins s σ H x y v u Q I rx ry q
  cases o with
  | eq =>
    refine eq_ok (ew := ew) C false pins s σ H x y v u Q I rx ry ?_
    obtain ⟨m, h, wx, wy, rh, r1, r2, p⟩ := q
    exact ⟨m, h, wx, wy, rh, r1, r2, by show Post _ _ _ _ (bR ((eqW h wx wy).map fun b => if false = true then !b else b) h) _; rw [map_id_bool]; exact p⟩
  | ne => exact eq_ok C true pins s σ H x y v u Q I rx ry q
  | inn =>
    refine in_ok (ew := ew) C false pins s σ H x y v u Q I rx ry ?_
    obtain ⟨m, h, wx, wy, rh, r1, r2, p⟩ := q
    exact ⟨m, h, wx, wy, rh, r1, r2, by show Post _ _ _ _ (bR ((inW h wx wy).map fun b => if false = true then !b else b) h) _; rw [map_id_bool]; exact p⟩
  | nin => exact in_ok C true pins s σ H x y v u Q I rx ry q
  | is =>
    obtain ⟨m, h, wx, wy, rh, r1, r2, p⟩ := q
    cases wy with
    | non =>
      cases r2
      refine op_isN pins s σ H _ _ _ _ Q I rx ry ⟨rfl, ?_⟩
      rw [← rep_non r1]
      exact p.now rh (.bl _)
    | _ => cases wx <;> exact p.elim
  | isn =>
    obtain ⟨m, h, wx, wy, rh, r1, r2, p⟩ := q
    cases wy with
    | non =>
      cases r2
      refine op_notN pins s σ H _ _ _ _ Q I rx ry ⟨rfl, ?_⟩
      rw [← rep_non r1]
      exact p.now rh (.bl _)
    | _ => cases wx <;> exact p.elim
  | lt =>
    obtain ⟨m, h, wx, wy, rh, r1, r2, p⟩ := q
    cases wx with
    | int i =>
      cases wy with
      | int j =>
        cases r1; cases r2
        exact op_lt pins s σ H _ _ _ _ Q I rx ry ⟨_, _, rfl, rfl, p.now rh (.bl _)⟩
      | _ => exact p.elim
    | tup ws =>
      cases wy with
      | tup us =>
        have p : Post ew (rW A) m H (bR (lexW ws us) h) Q := p
        cases e : lexW ws us with
        | none => rw [e] at p; exact p.elim
        | some b =>
          rw [e] at p
          obtain ⟨ns, ms, rfl, rfl, rfl⟩ := lexW_ints _ _ _ e
          obtain ⟨pa, vs, rfl, q1, k1⟩ := rep_tup r1
          obtain ⟨pb, ys, rfl, q2, k2⟩ := rep_tup r2
          rw [reps_ints k1] at q1
          rw [reps_ints k2] at q2
          have un := C.un
          exact op_ltT (by omega) pins s σ H _ _ _ _ Q I rx ry ⟨_, _, ns, ms, rfl, rfl, by rw [C.K]; exact q1, by rw [C.K]; exact q2, p.now rh (.bl _)⟩
      | _ => exact p.elim
    | _ => cases wy <;> exact p.elim
  | le =>
    obtain ⟨m, h, wx, wy, rh, r1, r2, p⟩ := q
    cases wx <;> cases wy <;> first
      | exact p.elim
      | (cases r1; cases r2; exact op_le pins s σ H _ _ _ _ Q I rx ry ⟨_, _, rfl, rfl, p.now rh (.bl _)⟩)
  | gt =>
    obtain ⟨m, h, wx, wy, rh, r1, r2, p⟩ := q
    cases wx <;> cases wy <;> first
      | exact p.elim
      | (cases r1; cases r2; exact op_gt pins s σ H _ _ _ _ Q I rx ry ⟨_, _, rfl, rfl, p.now rh (.bl _)⟩)
  | ge =>
    obtain ⟨m, h, wx, wy, rh, r1, r2, p⟩ := q
    cases wx <;> cases wy <;> first
      | exact p.elim
      | (cases r1; cases r2; exact op_ge pins s σ H _ _ _ _ Q I rx ry ⟨_, _, rfl, rfl, p.now rh (.bl _)⟩)
/-- truth -/
theorem tru_rep (rh : RelH A m h H) {w : W} {v : V} {k : Bool} (e : truW h w = some k) (r : Rep A m H w v) : TruV A.K v H k := by
  cases r with
  | non => simp only [truW, Option.some.injEq] at e; exact e.symm
  | bl b => simp only [truW, Option.some.injEq] at e; exact e.symm
  | int i =>
    simp only [truW, Option.some.injEq] at e
    rw [← e]
    show _ = (i != 0)
    by_cases hi : i = 0 <;> simp [hi]
  | str x => cases e
  | tup q k =>
    simp only [truW, Option.some.injEq] at e
    refine .inr (.inl ⟨_, q, ?_⟩)
    rw [← e]
    have := k.length
    cases k <;> rfl
  | ref i =>
    simp only [truW] at e
    obtain ⟨ws, e1, e2⟩ := Option.map_eq_some_iff.mp e
    obtain ⟨vs, q, k⟩ := rh.its e1 i
    refine .inl ⟨vs, q, ?_⟩
    rw [← e2]
    cases k <;> rfl
  | fn _ => cases e
  | cls _ => cases e
  | rol _ _ => cases e
/-- an item -/
theorem ixN_eq (n : Nat) (i : Int) : ixN n i = L2.ixN n i := rfl
theorem ix_ok (C : Calm A X) : IxR X (o2 A ew ixW) := by
  intro value slice pins s σ H x y v u Q I rx ry q hs
  obtain ⟨m, h, wx, wy, rh, r1, r2, p⟩ := q
  cases wy with
  | int i =>
    simp only [ixW] at p
    split at p
    · rename_i ws e1
      split at p
      · rename_i j e2
        split at p
        · rename_i w e3
          obtain ⟨a, vs, rfl, q, k, _, _⟩ := seq_rep rh e1 r1
          cases r2
          obtain ⟨v', e4, r4⟩ := k.get e3
          have ha : atI vs i = some v' := by
            unfold atI
            rw [← k.length, ← ixN_eq, e2]
            exact e4
          have hq := p.now rh r4
          rcases q with q | q
          · exact ix_seq value slice pins s σ H _ _ _ _ Q I rx ry (.inl ⟨_, _, _, _, rfl, rfl, by rw [C.K]; exact q, ha, hq⟩) hs
          · exact ix_seq value slice pins s σ H _ _ _ _ Q I rx ry (.inr (.inl ⟨_, _, _, _, rfl, rfl, by rw [C.K]; exact q, ha, hq⟩)) hs
        · exact p.elim
      · exact p.elim
    · exact p.elim
  | _ => simp only [ixW] at p; exact p.elim
/-- a slice -/
def o3 (A : At) (ew : XK) (f : W → Option Int → Option Int → OH → R W) : V → Option Int → Option Int → Hp → VK → Prop := fun v lo hi H Q =>
  ∃ (m : List Addr) (h : OH) (x : W), RelH A m h H ∧ Rep A m H x v ∧ Post ew (rW A) m H (f x lo hi h) Q
theorem endOf_eq (n d : Nat) (o : Option Int) : endOf n d o = HT.sIx n d o := by cases o <;> rfl
theorem cut_rep {ws : List W} {vs : List V} (k : Reps A m H ws vs) (lo hi : Option Int) : Reps A m H (cut ws lo hi) (cutV vs lo hi) := by
  unfold cut cutV
  rw [endOf_eq, endOf_eq, k.length]
  exact (k.drop _).take _
theorem sl_ok (C : Calm A X) : SlR X (o3 A ew slW) := by
  intro pins s σ H x v vl vu lo hi sl Q I rx hs pl pu q
  obtain ⟨m, h, wx, rh, r1, p⟩ := q
  unfold slW at p
  split at p
  · rename_i ws
    obtain ⟨a, vs, rfl, q, k⟩ := rep_tup r1
    refine sl_tupA pins s σ H _ _ _ _ _ _ _ Q I rx hs pl pu ⟨a, vs, rfl, by rw [C.K]; exact q, fun e => ?_, fun _ => p.tup rh (cut_rep k lo hi)⟩
    have e1 : cut ws lo hi = ws := by
      unfold cut
      rw [endOf_eq, endOf_eq, k.length, e.1, e.2, ← k.length]
      simp
    rw [e1] at p
    exact p.now rh r1
  · split at p
    · rename_i ws e1
      obtain ⟨a, rfl, ia⟩ := rep_ref r1
      obtain ⟨vs, q, k⟩ := rh.its e1 ia
      exact sl_list pins s σ H _ _ _ _ _ _ _ Q I rx hs pl pu ⟨a, vs, rfl, by rw [C.K]; exact q, p.lst rh (cut_rep k lo hi)⟩
    · exact p.elim
  · cases r1 with
    | rol q k => exact sl_list pins s σ H _ _ _ _ _ _ _ Q I rx hs pl pu ⟨_, _, rfl, by rw [C.K]; exact q.read, p.lst rh (cut_rep k lo hi)⟩
  · exact p.elim
end
end Wm
end

section
set_option Elab.async false
set_option linter.all false
set_option maxRecDepth 100000
set_option maxHeartbeats 4000000
set_option autoImplicit false
namespace Wm
open PySem PySem.Spec PyProof.Rows L2
section
variable {A : At} {X : Cx} {ew : XK} {m : List Addr} {h : OH} {H : Hp}
mutual
theorem noDict : ∀ d : PyData, d.canLay0 = true → d.hasDict = false
  | .none, _ => by simp [PyData.hasDict]
  | .bool _, _ => by simp [PyData.hasDict]
  | .int _, _ => by simp [PyData.hasDict]
  | .str _, _ => by simp [PyData.hasDict]
  | .list xs, h => by
    simp only [PyData.hasDict]
    exact noDicts xs (by simpa [PyData.canLay0] using h)
  | .tuple xs, h => by
    simp only [PyData.hasDict]
    exact noDicts xs (by simpa [PyData.canLay0] using h)
  | .dict _, h => by simp [PyData.canLay0] at h
theorem noDicts : ∀ ds : List PyData, PyData.canLayAll0 ds = true → PyData.hasDictAll ds = false
  | [], _ => by simp [PyData.hasDictAll]
  | d :: ds, h => by
    simp only [PyData.canLayAll0, Bool.and_eq_true] at h
    simp [PyData.hasDictAll, noDict d h.1, noDicts ds h.2]
end
variable (A) (ew)
def c1 (f : List W → OH → R W) : List V → Hp → VK → Prop := fun vs H Q => ∃ (m : List Addr) (h : OH) (ws : List W), RelH A m h H ∧ Reps A m H ws vs ∧ Post ew (rW A) m H (f ws h) Q
variable {A} {ew}
theorem repr_ok (C : Calm A X) : CallR X (.builtin "repr") (c1 A ew (biW .repr)) := by
  intro pins s σ H xs us Q I r q
  obtain ⟨m, h, ws, rh, r1, p⟩ := q
  match ws, r1, p with
  | [], _, p => exact p.elim
  | _ :: _ :: _, _, p => exact p.elim
  | [x], r1, p =>
    obtain ⟨v, vs, rfl, r2, r3⟩ := reps_cons r1
    cases r3
    simp only [biW] at p
    split at p
    · rename_i d e1
      split at p
      · rename_i hs
        rw [Bool.and_eq_true] at hs
        obtain ⟨u, rfl, ru⟩ := vals1 r
        have i1 := toD_ok rh _ _ _ _ e1 r2
        have hq : Q (.str d.shown) H := p.now rh (.str _)
        have hz : d.shown.length ≤ sizeLine := Nat.le_of_lt (line_le hs.2)
        have hD : Dp X.K H v d := by rw [C.K]; exact i1.1
        cases r2 with
        | non =>
          cases e1; cases ru
          exact PySem.P.repr_of_none ⟨.str _, H, I.tok _, ⟨_, rfl⟩, hq⟩
        | bl b =>
          cases e1; cases ru
          exact PySem.P.repr_of_bool ⟨.str _, H, I.tok _, ⟨_, rfl⟩, hq⟩
        | int i =>
          cases e1
          obtain ⟨t, rfl⟩ := ru
          exact PySem.P.repr_of_int (of_decide_eq_true hs.1) ⟨.str _, H, I.tok _, ⟨_, rfl⟩, hq⟩
        | str z =>
          simp only [toD] at e1
          split at e1
          · cases e1
            obtain ⟨t, rfl⟩ := ru
            exact PySem.P.repr_of_str ⟨.str _, H, I.tok _, ⟨_, rfl⟩, hq⟩ hz
          · cases e1
        | tup q k =>
          cases ru
          obtain ⟨as, hr⟩ := Dp.reads I d _ _ hD rfl
          have un := C.un
          have dp : d.depth ≤ 60 := i1.2.2
          refine PySem.repr_of_reads' hr hs.1 (fun z => by rw [noDict d i1.2.1] at z; cases z) C.grd (by omega) (fun _ _ e => e) (fun h' u tk hk => ?_) hz
          exact ⟨.str _, H, I.kept hk, ⟨_, rfl⟩, hq⟩
        | ref i =>
          cases ru
          obtain ⟨as, hr⟩ := Dp.reads I d _ _ hD rfl
          have un := C.un
          have dp : d.depth ≤ 60 := i1.2.2
          refine PySem.repr_of_reads' hr hs.1 (fun z => by rw [noDict d i1.2.1] at z; cases z) C.grd (by omega) (fun _ _ e => e) (fun h' u tk hk => ?_) hz
          exact ⟨.str _, H, I.kept hk, ⟨_, rfl⟩, hq⟩
        | fn _ => cases e1
        | cls _ => cases e1
        | rol _ _ => cases e1
      · exact p.elim
    · exact p.elim
theorem reps1 {w : W} {vs : List V} (r : Reps A m H [w] vs) : ∃ v, vs = [v] ∧ Rep A m H w v := by
  obtain ⟨v, us, rfl, r1, r2⟩ := reps_cons r
  cases r2
  exact ⟨v, rfl, r1⟩
theorem reps2 {w z : W} {vs : List V} (r : Reps A m H [w, z] vs) : ∃ v u, vs = [v, u] ∧ Rep A m H w v ∧ Rep A m H z u := by
  obtain ⟨v, us, rfl, r1, r2⟩ := reps_cons r
  obtain ⟨u, rfl, r3⟩ := reps1 r2
  exact ⟨v, u, rfl, r1, r3⟩
theorem boolsW_eq : ∀ {ws : List W} {bs : List Bool}, boolsW ws = some bs → ws = bs.map .bl
  | [], bs, e => by cases e; rfl
  | w :: ws, bs, e => by
    cases w with
    | bl i =>
      obtain ⟨l, e1, e2⟩ := Option.map_eq_some_iff.mp (show (boolsW ws).map (fun l => i :: l) = some bs from e)
      rw [← e2, boolsW_eq e1]
      rfl
    | _ => cases e
theorem reps_bools : ∀ {bs : List Bool} {vs : List V}, Reps A m H (bs.map .bl) vs → vs = bs.map V.bl
  | [], _, r => reps_nil r
  | i :: bs, _, r => by
    obtain ⟨v, us, rfl, r1, r2⟩ := reps_cons r
    cases r1
    rw [reps_bools r2]
    rfl
theorem reps_of_ints : ∀ ns : List Int, Reps A m H (ns.map .int) (ns.map V.int)
  | [] => .nil
  | _ :: ns => .cons (.int _) (reps_of_ints ns)
/-! sorting of ints -/
theorem insI_perm (i : Int) : ∀ l : List Int, (insI i l).Perm (i :: l)
  | [] => List.Perm.refl _
  | j :: r => by
    unfold insI
    split
    · exact List.Perm.refl _
    · exact ((insI_perm i r).cons j).trans (List.Perm.swap i j r)
theorem sortI_perm : ∀ l : List Int, (sortI l).Perm l
  | [] => List.Perm.refl _
  | i :: r => (insI_perm i _).trans ((sortI_perm r).cons i)
theorem insI_sorted (i : Int) : ∀ l : List Int, l.Pairwise (· ≤ ·) → (insI i l).Pairwise (· ≤ ·)
  | [], _ => by simp [insI]
  | j :: r, h => by
    rw [List.pairwise_cons] at h
    unfold insI
    split
    · rename_i hij
      rw [List.pairwise_cons]
      refine ⟨fun x hx => ?_, List.pairwise_cons.mpr h⟩
      rcases List.mem_cons.mp hx with e | hx
      · rw [e]; exact hij
      · exact Int.le_trans hij (h.1 x hx)
    · rename_i hij
      rw [List.pairwise_cons]
      refine ⟨fun x hx => ?_, insI_sorted i r h.2⟩
      rcases List.mem_cons.mp ((insI_perm i r).mem_iff.mp hx) with e | hx
      · rw [e]; omega
      · exact h.1 x hx
theorem sortI_sorted : ∀ l : List Int, (sortI l).Pairwise (· ≤ ·)
  | [] => .nil
  | i :: r => insI_sorted i _ (sortI_sorted r)
theorem sorted_unique {l r : List Int} (p : l.Perm r) (hl : l.Pairwise (· ≤ ·)) (hr : r.Pairwise (· ≤ ·)) : l = r :=
  p.eq_of_pairwise (fun _ _ _ _ a b => Int.le_antisymm a b) hl hr
theorem maxI_ge : ∀ (l : List Int) (m : Int), m ≤ maxI l m ∧ ∀ x ∈ l, x ≤ maxI l m
  | [], m => ⟨Int.le_refl _, fun x h => by simp at h⟩
  | i :: r, m => by
    have ih := maxI_ge r (if m < i then i else m)
    unfold maxI
    refine ⟨Int.le_trans (by split <;> omega) ih.1, fun x hx => ?_⟩
    rcases List.mem_cons.mp hx with e | hx
    · rw [e]; exact Int.le_trans (by split <;> omega) ih.1
    · exact ih.2 x hx
theorem maxI_mem : ∀ (l : List Int) (m : Int), maxI l m = m ∨ maxI l m ∈ l
  | [], m => .inl rfl
  | i :: r, m => by
    unfold maxI
    rcases maxI_mem r (if m < i then i else m) with e | e
    · rw [e]
      split
      · exact .inr List.mem_cons_self
      · exact .inl rfl
    · exact .inr (List.mem_cons_of_mem _ e)
theorem minI_le : ∀ (l : List Int) (m : Int), minI l m ≤ m ∧ ∀ x ∈ l, minI l m ≤ x
  | [], m => ⟨Int.le_refl _, fun x h => by simp at h⟩
  | i :: r, m => by
    have ih := minI_le r (if i < m then i else m)
    unfold minI
    refine ⟨Int.le_trans ih.1 (by split <;> omega), fun x hx => ?_⟩
    rcases List.mem_cons.mp hx with e | hx
    · rw [e]; exact Int.le_trans ih.1 (by split <;> omega)
    · exact ih.2 x hx
theorem minI_mem : ∀ (l : List Int) (m : Int), minI l m = m ∨ minI l m ∈ l
  | [], m => .inl rfl
  | i :: r, m => by
    unfold minI
    rcases minI_mem r (if i < m then i else m) with e | e
    · rw [e]
      split
      · exact .inr List.mem_cons_self
      · exact .inl rfl
    · exact .inr (List.mem_cons_of_mem _ e)
def biV : Bi → Value
  | .len => .builtin "len" | .int => .type "int" | .abs => .builtin "abs" | .max2 => .builtin "max" | .min2 => .builtin "min" | .maxl => .builtin "max" | .minl => .builtin "min"
  | .sum => .builtin "sum" | .sorted => .builtin "sorted" | .tuple => .type "tuple" | .list => .type "list" | .repr => .builtin "repr" | .all => .builtin "all" | .any => .builtin "any"
theorem bi_ok (C : Calm A X) (b : Bi) : CallR X (biV b) (c1 A ew (biW b)) := by
  intro pins s σ H xs us Q I r q
  cases b with
  | repr => exact repr_ok C pins s σ H xs us Q I r q
  | len =>
    obtain ⟨m, h, ws, rh, r1, p⟩ := q
    match ws, r1, p with
    | [], _, p => exact p.elim
    | _ :: _ :: _, _, p => exact p.elim
    | [x], r1, p =>
      obtain ⟨v, rfl, r2⟩ := reps1 r1
      simp only [biW] at p
      split at p
      · rename_i ws e
        obtain ⟨a, vs, rfl, q, k, _, _⟩ := seq_rep rh e r2
        rw [k.length] at p
        exact call_len pins s σ H _ us Q I r ⟨_, _, rfl, by rw [C.K]; exact q.elim (fun q => .inl ⟨vs, q, rfl⟩) (fun q => .inr ⟨vs, q, rfl⟩), p.now rh (.int _)⟩
      · cases x with
        | str z =>
          cases r2
          simp only at p
          split at p
          · rename_i hz
            exact call_len pins s σ H _ us Q I r ⟨_, _, rfl, ⟨Nat.le_of_lt (line_le hz), rfl⟩, p.now rh (.int _)⟩
          · exact p.elim
        | rol ws =>
          cases r2 with
          | rol q k =>
            simp only [k.length] at p
            exact call_len pins s σ H _ us Q I r ⟨_, _, rfl, by rw [C.K]; exact .inl ⟨_, q.read, rfl⟩, p.now rh (.int _)⟩
        | _ => exact p.elim
  | int =>
    obtain ⟨m, h, ws, rh, r1, p⟩ := q
    match ws, r1, p with
    | [], _, p => exact p.elim
    | x :: _ :: _, _, p => cases x <;> exact p.elim
    | [x], r1, p =>
      obtain ⟨v, rfl, r2⟩ := reps1 r1
      cases r2 with
      | int i => exact call_int1 pins s σ H _ us Q I r (.inl ⟨_, rfl, p.now rh (.int _)⟩)
      | bl k => exact call_int1 pins s σ H _ us Q I r (.inr ⟨_, rfl, p.now rh (.int _)⟩)
      | _ => exact p.elim
  | abs =>
    obtain ⟨m, h, ws, rh, r1, p⟩ := q
    match ws, r1, p with
    | [], _, p => exact p.elim
    | x :: _ :: _, _, p => cases x <;> exact p.elim
    | [x], r1, p =>
      obtain ⟨v, rfl, r2⟩ := reps1 r1
      cases r2 with
      | int i => exact call_abs pins s σ H _ us Q I r ⟨_, rfl, p.now rh (.int _)⟩
      | _ => exact p.elim
  | max2 =>
    obtain ⟨m, h, ws, rh, r1, p⟩ := q
    match ws, r1, p with
    | [], _, p => exact p.elim
    | [x], _, p => cases x <;> exact p.elim
    | x :: y :: _ :: _, _, p => cases x <;> cases y <;> exact p.elim
    | [x, y], r1, p =>
      obtain ⟨v, u, rfl, r2, r3⟩ := reps2 r1
      cases r2 <;> cases r3 <;> first
        | exact p.elim
        | exact call_max2 C.calm pins s σ H _ us Q I r ⟨_, _, rfl, p.now rh (.int _)⟩
  | min2 =>
    obtain ⟨m, h, ws, rh, r1, p⟩ := q
    match ws, r1, p with
    | [], _, p => exact p.elim
    | [x], _, p => cases x <;> exact p.elim
    | x :: y :: _ :: _, _, p => cases x <;> cases y <;> exact p.elim
    | [x, y], r1, p =>
      obtain ⟨v, u, rfl, r2, r3⟩ := reps2 r1
      cases r2 <;> cases r3 <;> first
        | exact p.elim
        | exact call_min2 C.calm pins s σ H _ us Q I r ⟨_, _, rfl, p.now rh (.int _)⟩
  | maxl =>
    obtain ⟨m, h, ws, rh, r1, p⟩ := q
    match ws, r1, p with
    | [], _, p => exact p.elim
    | x :: _ :: _, _, p => cases x <;> exact p.elim
    | [x], r1, p =>
      obtain ⟨v, rfl, r2⟩ := reps1 r1
      cases r2 with
      | ref i =>
        simp only [biW] at p
        split at p
        · rename_i ws e
          split at p
          · rename_i i0 r0 e2
            obtain ⟨vs, q, k⟩ := rh.its e i
            have e3 := intsW_eq e2
            subst e3
            rw [reps_ints k] at q
            refine cr_max C.calm pins s σ H _ us Q I r ⟨_, _, rfl, by rw [C.K]; exact q, by simp, fun M hM hle => ?_⟩
            have e4 : M = maxI r0 i0 := by
              have a1 := maxI_ge r0 i0
              have a2 := hle (maxI r0 i0) (by rcases maxI_mem r0 i0 with e | e; rw [e]; exact List.mem_cons_self; exact List.mem_cons_of_mem _ e)
              rcases List.mem_cons.mp hM with e | e
              · rw [e] at a2 ⊢; exact Int.le_antisymm a1.1 a2
              · exact Int.le_antisymm (a1.2 _ e) a2
            rw [e4]
            exact p.now rh (.int _)
          · exact p.elim
        · exact p.elim
      | _ => exact p.elim
  | minl =>
    obtain ⟨m, h, ws, rh, r1, p⟩ := q
    match ws, r1, p with
    | [], _, p => exact p.elim
    | x :: _ :: _, _, p => cases x <;> exact p.elim
    | [x], r1, p =>
      obtain ⟨v, rfl, r2⟩ := reps1 r1
      cases r2 with
      | ref i =>
        simp only [biW] at p
        split at p
        · rename_i ws e
          split at p
          · rename_i i0 r0 e2
            obtain ⟨vs, q, k⟩ := rh.its e i
            have e3 := intsW_eq e2
            subst e3
            rw [reps_ints k] at q
            refine cr_min C.calm pins s σ H _ us Q I r ⟨_, _, rfl, by rw [C.K]; exact q, by simp, fun M hM hle => ?_⟩
            have e4 : M = minI r0 i0 := by
              have a1 := minI_le r0 i0
              have a2 := hle (minI r0 i0) (by rcases minI_mem r0 i0 with e | e; rw [e]; exact List.mem_cons_self; exact List.mem_cons_of_mem _ e)
              rcases List.mem_cons.mp hM with e | e
              · rw [e] at a2 ⊢; exact Int.le_antisymm a2 a1.1
              · exact Int.le_antisymm a2 (a1.2 _ e)
            rw [e4]
            exact p.now rh (.int _)
          · exact p.elim
        · exact p.elim
      | _ => exact p.elim
  | sum =>
    obtain ⟨m, h, ws, rh, r1, p⟩ := q
    match ws, r1, p with
    | [], _, p => exact p.elim
    | x :: _ :: _, _, p => cases x <;> exact p.elim
    | [x], r1, p =>
      obtain ⟨v, rfl, r2⟩ := reps1 r1
      cases r2 with
      | ref i =>
        simp only [biW] at p
        split at p
        · rename_i ws e
          split at p
          · rename_i l e2
            obtain ⟨vs, q, k⟩ := rh.its e i
            have e3 := intsW_eq e2
            subst e3
            rw [reps_ints k] at q
            exact cr_sum C.calm pins s σ H _ us Q I r ⟨_, l, rfl, by rw [C.K]; exact q, p.now rh (.int _)⟩
          · exact p.elim
        · exact p.elim
      | _ => exact p.elim
  | sorted =>
    obtain ⟨m, h, ws, rh, r1, p⟩ := q
    match ws, r1, p with
    | [], _, p => exact p.elim
    | x :: _ :: _, _, p => cases x <;> exact p.elim
    | [x], r1, p =>
      obtain ⟨v, rfl, r2⟩ := reps1 r1
      cases r2 with
      | ref i =>
        simp only [biW] at p
        split at p
        · rename_i ws e
          split at p
          · rename_i l e2
            split at p
            · rename_i hl
              obtain ⟨vs, q, k⟩ := rh.its e i
              have e3 := intsW_eq e2
              subst e3
              rw [reps_ints k] at q
              refine cr_sorted pins s σ H _ us Q I r ⟨_, l, rfl, by rw [C.K]; exact q, hl, fun ns' a pm ps hn => ?_⟩
              rw [sorted_unique (pm.trans (sortI_perm l).symm) ps (sortI_sorted l)]
              exact p.lst rh (reps_of_ints _) a hn
            · exact p.elim
          · exact p.elim
        · exact p.elim
      | _ => exact p.elim
  | tuple =>
    obtain ⟨m, h, ws, rh, r1, p⟩ := q
    match ws, r1, p with
    | [], _, p => exact p.elim
    | x :: _ :: _, _, p => cases x <;> exact p.elim
    | [x], r1, p =>
      obtain ⟨v, rfl, r2⟩ := reps1 r1
      cases r2 with
      | tup q k => exact call_tuple_of pins s σ H _ us Q I r ⟨_, _, rfl, .inr ⟨by rw [C.K]; exact q, p.now rh (.tup q k)⟩⟩
      | ref i =>
        simp only [biW] at p
        split at p
        · rename_i ws e
          obtain ⟨vs, q, k⟩ := rh.its e i
          exact call_tuple_of pins s σ H _ us Q I r ⟨_, _, rfl, .inl ⟨by rw [C.K]; exact q, p.tup rh k⟩⟩
        · exact p.elim
      | _ => exact p.elim
  | list =>
    obtain ⟨m, h, ws, rh, r1, p⟩ := q
    match ws, r1, p with
    | [], _, p => exact p.elim
    | x :: _ :: _, _, p => cases x <;> exact p.elim
    | [x], r1, p =>
      obtain ⟨v, rfl, r2⟩ := reps1 r1
      simp only [biW] at p
      split at p
      · rename_i ws e
        obtain ⟨a, vs, rfl, q, k, _, _⟩ := seq_rep rh e r2
        exact call_list_of pins s σ H _ us Q I r ⟨_, vs, rfl, by rw [C.K]; exact q, p.lst rh k⟩
      · exact p.elim
  | all =>
    obtain ⟨m, h, ws, rh, r1, p⟩ := q
    match ws, r1, p with
    | [], _, p => exact p.elim
    | x :: _ :: _, _, p => cases x <;> exact p.elim
    | [x], r1, p =>
      obtain ⟨v, rfl, r2⟩ := reps1 r1
      cases r2 with
      | ref i =>
        simp only [biW] at p
        split at p
        · rename_i ws e
          split at p
          · rename_i l e2
            obtain ⟨vs, q, k⟩ := rh.its e i
            have e3 := boolsW_eq e2
            subst e3
            rw [reps_bools k] at q
            exact cr_all C.calm pins s σ H _ us Q I r ⟨_, l, rfl, by rw [C.K]; exact q, p.now rh (.bl _)⟩
          · exact p.elim
        · exact p.elim
      | _ => exact p.elim
  | any =>
    obtain ⟨m, h, ws, rh, r1, p⟩ := q
    match ws, r1, p with
    | [], _, p => exact p.elim
    | x :: _ :: _, _, p => cases x <;> exact p.elim
    | [x], r1, p =>
      obtain ⟨v, rfl, r2⟩ := reps1 r1
      cases r2 with
      | ref i =>
        simp only [biW] at p
        split at p
        · rename_i ws e
          split at p
          · rename_i l e2
            obtain ⟨vs, q, k⟩ := rh.its e i
            have e3 := boolsW_eq e2
            subst e3
            rw [reps_bools k] at q
            exact cr_any C.calm pins s σ H _ us Q I r ⟨_, l, rfl, by rw [C.K]; exact q, p.now rh (.bl _)⟩
          · exact p.elim
        · exact p.elim
      | _ => exact p.elim
end
end Wm
end

section
set_option Elab.async false
set_option linter.all false
set_option maxRecDepth 100000
set_option maxHeartbeats 4000000
set_option autoImplicit false
namespace Wm
open PySem PySem.Spec PyProof.Rows L2
section
variable {prog : Program} {w : World} {B : Around} {E0 : Value → Shared → Prop} {s : Shared}
theorem rev_places (n : Nat) : Builtin.Slice.slicePlaces ((n : Int) - 1) (-1) (-1) = n := by
  unfold Builtin.Slice.slicePlaces
  rw [if_neg (by decide)]
  by_cases h : n = 0
  · subst h; rfl
  · rw [if_pos (by omega)]
    have e : ((n : Int) - 1 - -1 - 1) / -(-1 : Int) = (n : Int) - 1 := by
      rw [show -(-1 : Int) = 1 by rfl, Int.ediv_one]; omega
    rw [e]
    omega
theorem rev_pick (xs : Array Value) : ((List.range xs.size).filterMap fun (k : Nat) => xs[(((xs.size : Int) - 1) + (k : Int) * (-1)).toNat]?).toArray = xs.toList.reverse.toArray := by
  have key : ∀ n : Nat, n ≤ xs.size → ((List.range n).filterMap fun (k : Nat) => xs[(((xs.size : Int) - 1) + (k : Int) * (-1)).toNat]?) = (xs.toList.reverse).take n := by
    intro n
    induction n with
    | zero => intro _; simp
    | succ n ih =>
      intro hn
      have hlt : xs.size - 1 - n < xs.size := by omega
      have e1 : (((xs.size : Int) - 1) + (n : Int) * (-1)).toNat = xs.size - 1 - n := by omega
      rw [List.range_succ, List.filterMap_append, ih (by omega)]
      simp only [List.filterMap_cons, List.filterMap_nil, e1]
      rw [Array.getElem?_eq_getElem hlt, List.take_succ, List.getElem?_reverse (by rw [Array.length_toList]; omega)]
      simp [hlt]
  rw [key xs.size (Nat.le_refl _), List.take_of_length_le (by simp)]
theorem rev_tuple {t sl : Addr} {its : Array Value} {Q : Value → Shared → Prop} {one : Tok} (ht : IsTup s.heap t its) (hs : s.heap.IsSliceOf sl .none .none (.int (-1) one))
    (q : Q (.ref s.heap.objs.size) { s with heap := s.heap.push { cls := .type "tuple", data := .seq its.toList.reverse.toArray } }) (hz : its.size ≤ sizeLine) : wpAny (model prog w) B (getItem (.ref t) (.ref sl)) Q E0 s := by
  have hz2 : sizeOk (.seq its.toList.reverse.toArray) := by
    show its.toList.reverse.toArray.size ≤ sizeLine
    simpa using hz
  obtain ⟨ob, hob, hcl, hdt⟩ := hs
  have tyS : s.TypeIs (.ref sl) "slice" := ⟨ob, hob, hcl⟩
  unfold getItem
  try with_reducible refine wpAny_holding ?_
  refine wpAny_bind (wpAny_sequenceKey ht.typeIs (by decide) ?_)
  refine wpAny_bind (wpAny_callSpecial?_slot (name := Str.ofString "__getitem__") ht.typeIs PyProof.Rows.slot_tuple_getitem (wpAny_call_entry PyProof.Rows.slot_tuple_getitem ht.typeIs entry_tuple_getitem ?_ (args_tuple_getitem _ _)))
  show wpAny _ _ (Builtin.Tuple.tupleItemsOf (.ref t) >>= _) _ _ s
  refine wpAny_bind (tupleItemsOf_ ht (wpAny_bind (wpAny_typeOf tyS ?_)))
  rw [if_pos (by decide)]
  refine wpAny_bind ?_
  unfold Builtin.Slice.sliceApplied Builtin.Slice.sliceFields
  refine wpAny_bind (wpAny_bind (wpAny_field hob hdt (x := .none) rfl (wpAny_bind (wpAny_field hob hdt (x := .none) rfl (wpAny_bind (wpAny_field hob hdt (x := .int (-1) one) rfl (wpAny_pure ?_)))))))
  refine wpAny_bind (slicePart_int ?_)
  show wpAny _ _ (if ((-1 : Int) == 0) = true then _ else _) _ _ s
  rw [if_neg (by decide)]
  refine wpAny_bind (slicePart_none (wpAny_bind (slicePart_none (wpAny_bind (wpAny_pure ?_)))))
  show wpAny _ _ (pure (((its.size : Int) - 1), (-1 : Int), Builtin.Slice.slicePlaces ((its.size : Int) - 1) (-1) (-1))) _ _ s
  rw [rev_places]
  refine wpAny_pure ?_
  show wpAny _ _ (if (((its.size : Int) - 1) == 0 && (-1 : Int) == 1 && its.size == its.size) = true then _ else _) _ _ s
  rw [if_neg (by simp)]
  show wpAny _ _ (Builtin.Tuple.tupleExact ((List.range its.size).filterMap fun (k : Nat) => its[(((its.size : Int) - 1) + (k : Int) * (-1)).toNat]?).toArray >>= _) _ _ s
  rw [rev_pick]
  first
    | exact wpAny_bind (m := Builtin.Tuple.tupleExact _) (wpAny_newObj_type (wpAny_pure ⟨_, rfl, wpAny_pure q⟩) hz2)
    | exact wpAny_bind (m := Builtin.Tuple.tupleExact _) (wpAny_newObj_type (wpAny_bind (wpAny_pure (wpAny_pure ⟨_, rfl, wpAny_pure q⟩))) hz2)
    | exact wpAny_bind (wpAny_bind (m := Builtin.Tuple.tupleExact _) (wpAny_newObj_type (wpAny_pure (wpAny_pure ⟨_, rfl, wpAny_pure q⟩)) hz2))
end
section
variable {A : At} {X : Cx} {ew : XK} {m : List Addr} {h : OH} {H : Hp}
/-- xs[::-1] -/
def c1v (A : At) (ew : XK) (f : W → OH → R W) : V → Hp → VK → Prop := fun v H Q => ∃ (m : List Addr) (h : OH) (x : W), RelH A m h H ∧ Rep A m H x v ∧ Post ew (rW A) m H (f x h) Q
theorem pe_rev (C : Calm A X) {e : Expr} {te : TE} {k : Nat} {p1 p2 p3 pos : Pos} (he : PE X e te) :
    PE X (.Subscript e (.Slice none none (some (.UnaryOp .USub (.Constant (.int 1) k p1) p2)) p3) pos) (fun σ H Q => te σ H fun v H1 => c1v A ew revW v H1 Q) := by
  refine ⟨fun pins s σ H Q I q => ?_⟩
  refine Subscript_ (thn (he.run pins s σ H _ I q) fun v s1 ⟨x, H1, I1, r1, q1⟩ => ?_)
  obtain ⟨m, h, wx, rh, rx, p⟩ := q1
  have mone : PO X (some (.UnaryOp .USub (.Constant (.int 1) k p1) p2)) (tPart (tUn (rU fun i => .int (-i)) (tC (.int 1)))) := po_some (pe_un un_neg pe_int)
  refine wpAny_Slice (thn (po_none.run pins s1 σ H1 (fun o K2 => o = none ∧ K2 = H1) I1 ⟨rfl, rfl⟩) fun vl s2 ⟨l, K2, I2, pl, z1, z2⟩ => ?_)
  subst z1 z2
  refine thn (po_none.run pins s2 σ K2 (fun o K3 => o = none ∧ K3 = K2) I2 ⟨rfl, rfl⟩) fun vu s3 ⟨u, K3, I3, pu, z1, z2⟩ => ?_
  subst z1 z2
  refine thn (mone.run pins s3 σ K3 (fun o K4 => o = some (-1) ∧ K4 = K3) I3 ⟨1, rfl, -1, rfl, rfl, rfl⟩) fun vs s4 ⟨o, K4, I4, ps, z1, z2⟩ => ?_
  subst z1 z2
  have I5 : Inv X pins σ K4 { s4 with heap := s4.heap.push { cls := .type "slice", data := .fields #[vl, vu, vs] } } := I4.kept (t' := s4.toks) fun b ob e => Heap.get?_push_of_some _ e
  have sub : ∀ a : Addr, subscripted (.Slice none none (some (.UnaryOp .USub (.Constant (.int 1) k p1) p2)) p3) false (.ref a) (.ref s4.heap.objs.size) = operate [.ref a, .ref s4.heap.objs.size] (getItem (.ref a) (.ref s4.heap.objs.size)) := fun a => by with_unfolding_all rfl
  unfold revW at p
  split at p
  · rename_i ws hx
    obtain ⟨a, xs, rfl, qa, ka⟩ := rep_tup rx
    cases r1
    obtain ⟨its, r, ht, hz⟩ := I5.tuple (show SqT X.K K4 a xs by rw [C.K]; exact qa)
    cases pl
    cases pu
    cases ps
    show wpAny (model X.prog X.w) X.A (subscriptTail e _ (.ref a) (.ref s4.heap.objs.size)) (EP X pins σ Q) X.xe _
    refine tail_any (ops := [.ref a, .ref s4.heap.objs.size]) ht.typeIs (PyProof.Rows.slot_tuple_getitem.lookup) ?_ (sub a)
    refine rev_tuple ht (Heap.IsSliceOf.new _ _ _ _) ?_ (by rw [List.size_toArray, ← r.length]; exact hz)
    have hl := r.length
    refine ⟨.ref _, _, I5.laid (t' := s4.toks) (o := .tup xs.reverse) (fun b ob e => Heap.get?_push_of_some _ e) (Nat.le_refl _) ?_, rfl, p.tup rh ka.reverse _ (I5.hok.fresh (Nat.le_refl _))⟩
    exact ⟨by rw [List.length_reverse]; exact hz, its.reverse, r.reverse, IsTup.new _ _⟩
  · split at p
    · rename_i ws e1
      obtain ⟨a, rfl, ia⟩ := rep_ref rx
      obtain ⟨xs, qa, ka⟩ := rh.its e1 ia
      cases r1
      obtain ⟨its, r, ht, hz⟩ := I5.list (show SqL X.K K4 a xs by rw [C.K]; exact qa)
      have hl := r.length
      show wpAny (model X.prog X.w) X.A (subscriptTail e _ (.ref a) (.ref s4.heap.objs.size)) (EP X pins σ Q) X.xe _
      refine tail_any (ops := [.ref a, .ref s4.heap.objs.size]) ht.isList.typeIs (PySem.slot_list_getitem.lookup) ?_ (sub a)
      refine wpAny_getItem_list_slice ht.isList (Heap.IsSliceOf.new _ vl vu vs) pl pu ps (by decide) ?_ (by rw [List.size_toArray]; omega)
      rw [PySem.W.krv_pick]
      refine ⟨.ref _, _, I5.laid (t' := s4.toks) (o := .lst xs.reverse) (fun b ob e => Heap.get?_push_of_some _ e) (Nat.le_refl _) ?_, rfl, p.lst rh ka.reverse _ (I5.hok.fresh (Nat.le_refl _))⟩
      exact ⟨by rw [List.length_reverse]; exact hz, _, 0, r.reverse, Heap.get?_push_size _ rfl⟩
    · exact p.elim
  · exact p.elim
end
end Wm
end

section
set_option Elab.async false
set_option linter.all false
set_option maxRecDepth 100000
set_option maxHeartbeats 4000000
set_option autoImplicit false
namespace Wm
open PySem PySem.Spec PyProof.Rows L2
section
variable {A : At} {X : Cx} {ew : XK} {m : List Addr} {h : OH} {H : Hp}
/-- methods -/
def c2 (A : At) (ew : XK) (f : W → List W → OH → R W) : V → List V → Hp → VK → Prop := fun v vs H Q => ∃ (m : List Addr) (h : OH) (x : W) (ws : List W), RelH A m h H ∧ Rep A m H x v ∧ Reps A m H ws vs ∧ Post ew (rW A) m H (f x ws h) Q
theorem seqIx_eq {n : Nat} {i : Int} {k : Nat} (e : seqIx n i = some k) : -(2 ^ 63) ≤ i ∧ i < 2 ^ 63 ∧ seqIndex? i n = some k := by
  unfold seqIx at e
  split at e
  · rename_i hb
    rw [Bool.and_eq_true, decide_eq_true_eq, decide_eq_true_eq] at hb
    exact ⟨hb.1, hb.2, (L2.ixN_seq (show L2.ixN n i = some k from e)).1⟩
  · cases e
theorem mt_append_ok (C : Calm A X) : MtM X "list.append" (c2 A ew (mtW .append)) := by
  intro pins s σ H x xs v us Q I rx rxs q
  obtain ⟨m, h, wx, ws, rh, r1, r2, p⟩ := q
  match wx, ws, r1, r2, p with
  | .ref n, [y], r1, r2, p =>
    obtain ⟨u, rfl, r3⟩ := reps1 r2
    obtain ⟨a, rfl, ia⟩ := rep_ref r1
    simp only [mtW] at p
    split at p
    · rename_i us' e
      split at p
      · rename_i hz
        obtain ⟨vs, q, k⟩ := rh.lst e ia
        have hl := line_le hz
        rw [k.length] at hl
        exact mt_append pins s σ H _ _ v us Q I rx rxs ⟨_, vs, u, rfl, rfl, q, hl, p.put rh ia e (k.append (.cons r3 .nil)) .non⟩
      · exact p.elim
    · exact p.elim
  | .ref n, [], _, _, p => exact p.elim
  | .ref n, _ :: _ :: _, _, _, p => exact p.elim
  | .non, _, _, _, p => exact p.elim
  | .bl _, _, _, _, p => exact p.elim
  | .int _, _, _, _, p => exact p.elim
  | .str _, _, _, _, p => exact p.elim
  | .tup _, _, _, _, p => exact p.elim
  | .fn _, _, _, _, p => exact p.elim
  | .cls _, _, _, _, p => exact p.elim
theorem mt_extend_ok (C : Calm A X) : MtM X "list.extend" (c2 A ew (mtW .extend)) := by
  intro pins s σ H x xs v us Q I rx rxs q
  obtain ⟨m, h, wx, ws, rh, r1, r2, p⟩ := q
  match wx, ws, r1, r2, p with
  | .ref n, [.ref k], r1, r2, p =>
    obtain ⟨u, rfl, r3⟩ := reps1 r2
    obtain ⟨a, rfl, ia⟩ := rep_ref r1
    obtain ⟨b, rfl, ib⟩ := rep_ref r3
    simp only [mtW] at p
    split at p
    · rename_i us' us2 e e2
      split at p
      · rename_i hz
        obtain ⟨vs, q, k⟩ := rh.lst e ia
        obtain ⟨vs2, q2, k2⟩ := rh.lst e2 ib
        have hl := line_le hz
        rw [k.length, k2.length] at hl
        exact mt_extend pins s σ H _ _ v us Q I rx rxs ⟨_, _, vs, vs2, rfl, rfl, q, q2, Nat.le_of_lt hl, p.put rh ia e (k.append k2) .non⟩
      · exact p.elim
    · exact p.elim
  | .ref n, [], _, _, p => exact p.elim
  | .ref n, [.non], _, _, p => exact p.elim
  | .ref n, [.bl _], _, _, p => exact p.elim
  | .ref n, [.int _], _, _, p => exact p.elim
  | .ref n, [.str _], _, _, p => exact p.elim
  | .ref n, [.tup _], _, _, p => exact p.elim
  | .ref n, [.fn _], _, _, p => exact p.elim
  | .ref n, [.cls _], _, _, p => exact p.elim
  | .ref n, x :: _ :: _, _, _, p => cases x <;> exact p.elim
  | .non, _, _, _, p => exact p.elim
  | .bl _, _, _, _, p => exact p.elim
  | .int _, _, _, _, p => exact p.elim
  | .str _, _, _, _, p => exact p.elim
  | .tup _, _, _, _, p => exact p.elim
  | .fn _, _, _, _, p => exact p.elim
  | .cls _, _, _, _, p => exact p.elim
theorem mt_pop_ok (C : Calm A X) : MtM X "list.pop" (c2 A ew (mtW .pop)) := by
  intro pins s σ H x xs v us Q I rx rxs q
  obtain ⟨m, h, wx, ws, rh, r1, r2, p⟩ := q
  match wx, ws, r1, r2, p with
  | .ref n, [], r1, r2, p =>
    have e0 := reps_nil r2
    subst e0
    obtain ⟨a, rfl, ia⟩ := rep_ref r1
    simp only [mtW] at p
    split at p
    · rename_i us' e
      split at p
      · rename_i w hw
        obtain ⟨vs, q, k⟩ := rh.lst e ia
        obtain ⟨u, hu, ru⟩ := k.get hw
        rw [k.length] at hu
        exact mt_pop pins s σ H _ _ v us Q I rx rxs ⟨_, vs, u, rfl, rfl, q, hu, p.put rh ia e k.dropLast ru⟩
      · exact p.elim
    · exact p.elim
  | .ref n, _ :: _, _, _, p => exact p.elim
  | .non, _, _, _, p => exact p.elim
  | .bl _, _, _, _, p => exact p.elim
  | .int _, _, _, _, p => exact p.elim
  | .str _, _, _, _, p => exact p.elim
  | .tup _, _, _, _, p => exact p.elim
  | .fn _, _, _, _, p => exact p.elim
  | .cls _, _, _, _, p => exact p.elim
theorem mt_popAt_ok (C : Calm A X) : MtM X "list.pop" (c2 A ew (mtW .popAt)) := by
  intro pins s σ H x xs v us Q I rx rxs q
  obtain ⟨m, h, wx, ws, rh, r1, r2, p⟩ := q
  match wx, ws, r1, r2, p with
  | .ref n, [.int i], r1, r2, p =>
    obtain ⟨u, rfl, r3⟩ := reps1 r2
    cases r3
    obtain ⟨a, rfl, ia⟩ := rep_ref r1
    simp only [mtW] at p
    split at p
    · rename_i us' e
      split at p
      · rename_i j hj
        split at p
        · rename_i w hw
          obtain ⟨vs, q, k⟩ := rh.lst e ia
          obtain ⟨u, hu, ru⟩ := k.get hw
          obtain ⟨b1, b2, b3⟩ := seqIx_eq hj
          rw [k.length] at b3
          exact mt_popAt pins s σ H _ _ v us Q I rx rxs ⟨_, vs, i, j, u, rfl, rfl, q, b1, b2, b3, hu, p.put rh ia e (k.erase j) ru⟩
        · exact p.elim
      · exact p.elim
    · exact p.elim
  | .ref n, [], _, _, p => exact p.elim
  | .ref n, [.non], _, _, p => exact p.elim
  | .ref n, [.bl _], _, _, p => exact p.elim
  | .ref n, [.ref _], _, _, p => exact p.elim
  | .ref n, [.str _], _, _, p => exact p.elim
  | .ref n, [.tup _], _, _, p => exact p.elim
  | .ref n, [.fn _], _, _, p => exact p.elim
  | .ref n, [.cls _], _, _, p => exact p.elim
  | .ref n, x :: _ :: _, _, _, p => cases x <;> exact p.elim
  | .non, _, _, _, p => exact p.elim
  | .bl _, _, _, _, p => exact p.elim
  | .int _, _, _, _, p => exact p.elim
  | .str _, _, _, _, p => exact p.elim
  | .tup _, _, _, _, p => exact p.elim
  | .fn _, _, _, _, p => exact p.elim
  | .cls _, _, _, _, p => exact p.elim
/-- o[i] = v -/
def c3 (A : At) (ew : XK) : TSet := fun o i v H Q => ∃ (m : List Addr) (h : OH) (wo wi wv : W), RelH A m h H ∧ Rep A m H wo o ∧ Rep A m H wi i ∧ Rep A m H wv v ∧ Post ew (rW A) m H (setIx wo wi wv h) fun _ H' => Q H'
theorem set_ok (C : Calm A X) : PSet X (c3 A ew) := by
  intro pins s σ H o i v ov iv u Q I r1 r2 r3 q
  obtain ⟨m, h, wo, wi, wv, rh, q1, q2, q3, p⟩ := q
  cases q1 with
  | ref ia =>
    cases q2 with
    | int j =>
      simp only [setIx] at p
      split at p
      · rename_i us e
        split at p
        · rename_i k hk
          obtain ⟨vs, q, kk⟩ := rh.lst e ia
          rw [kk.length] at hk
          exact set_list pins s σ H _ _ v ov iv u Q I r1 r2 r3 ⟨_, vs, _, k, rfl, rfl, q, hk, p.put rh ia e (Reps.set q3 k kk) .non⟩
        · exact p.elim
      · exact p.elim
    | _ => exact p.elim
  | _ => exact p.elim
/-- isinstance against a built-in class -/
def kitS (T : String) : Bool := ["int", "bool", "str", "tuple", "list", "dict"].contains T
theorem isi_ok (C : Calm A X) {T : String} (hT : kitS T = true) : CallR X (.builtin "isinstance") (fun vs H Q => ∃ (m : List Addr) (h : OH) (x : W) (v : V), vs = [v, .ty T] ∧ RelH A m h H ∧ Rep A m H x v ∧ Post ew (rW A) m H (bR (isiW h x T) h) Q) := by
  intro pins s σ H xs us Q I r q
  obtain ⟨m, h, x, v, rfl, rh, rx, p⟩ := q
  have go : ∀ (t : String) (b : Bool), TyX X.K H v (.type t) → PySem.W.kitOne X.K (.type t) (.type T) = some b → Q (.bl b) H → wpAny (model X.prog X.w) X.A (call (.builtin "isinstance") us) (EP X pins σ Q) X.xe s := fun t b h1 h2 h3 =>
    call_isi pins s σ H _ us Q I r ⟨v, .ty T, .type t, .type T, b, rfl, .ty T, h1, h2, h3⟩
  have six : T = "int" ∨ T = "bool" ∨ T = "str" ∨ T = "tuple" ∨ T = "list" ∨ T = "dict" := by
    have := hT
    unfold kitS at this
    simpa using this
  have tupT : ∀ {a : Addr} {vs : List V}, SqT A.K H a vs → TyX X.K H (.ref a) (.type "tuple") := fun q => by
    rcases q with (q | ⟨ob, q⟩) | ⟨o, its, n, e, c, _⟩
    · exact .base (.tup q)
    · exact .fTuple q
    · exact .kTuple (by rw [C.K]; exact e) c
  cases rx with
  | non => rcases six with rfl | rfl | rfl | rfl | rfl | rfl <;> exact go "NoneType" _ (.base .non) (kit_ty (by decide +kernel)) (p.now rh (.bl _))
  | bl k => rcases six with rfl | rfl | rfl | rfl | rfl | rfl <;> exact go "bool" _ (.base (.bl k)) (kit_ty (by decide +kernel)) (p.now rh (.bl _))
  | int k => rcases six with rfl | rfl | rfl | rfl | rfl | rfl <;> exact go "int" _ (.base (.int k)) (kit_ty (by decide +kernel)) (p.now rh (.bl _))
  | str k => rcases six with rfl | rfl | rfl | rfl | rfl | rfl <;> exact go "str" _ (.base (.str k)) (kit_ty (by decide +kernel)) (p.now rh (.bl _))
  | tup q k => rcases six with rfl | rfl | rfl | rfl | rfl | rfl <;> exact go "tuple" _ (tupT q) (kit_ty (by decide +kernel)) (p.now rh (.bl _))
  | ref ia =>
    simp only [isiW] at p
    split at p
    · rename_i ws e
      obtain ⟨b, e1, vs, e2, _⟩ := rh.ob _ _ e
      rw [ia] at e1; cases e1
      rcases six with rfl | rfl | rfl | rfl | rfl | rfl <;> exact go "list" _ (.base (.lst e2)) (kit_ty (by decide +kernel)) (p.now rh (.bl _))
    · rename_i e
      obtain ⟨b, e1, e2⟩ := rh.ob _ _ e
      exact e2.elim
    · exact p.elim
  | fn _ => exact p.elim
  | cls _ => exact p.elim
  | rol _ _ => exact p.elim
end
end Wm
end

section
set_option Elab.async false
set_option linter.all false
set_option maxRecDepth 100000
set_option maxHeartbeats 4000000
set_option autoImplicit false
/-! enumerate over a tuple. -/
namespace Wm
open PySem PySem.Spec PyProof.Rows L2
theorem enum1_meets {v : Value} {ob : Obj} {H : Heap → Prop} (B : Begins v ob H) :
    Meets (Builtin.«enumerate.__new__» ⟨[.type "enumerate", v], []⟩) (fun _ R s => H s.heap ∧
      R (.ok (.ret (.ref (s.heap.push ob).objs.size))) { s with heap := (s.heap.push ob).push { cls := .type "enumerate", data := .fields #[.none, .bool false, .ref s.heap.objs.size, rawInt 0, .none, .none] } }) :=
  .of_wp fun prog w A R s z => by
    obtain ⟨hp, gg, dd, tt, oo⟩ := s
    obtain ⟨z1, z2⟩ := z
    have se := sub_enumerate
    have go : ∀ {A' : Around} {E : Value → Shared → Prop} {Q : Value → Shared → Prop}, Q (.ref hp.objs.size) ⟨hp.push ob, gg, dd, tt, oo⟩ → wpAny (model prog w) A' (pyIter v) Q E ⟨hp, gg, dd, tt, oo⟩ :=
      fun q => B.iter prog w _ _ ⟨hp, gg, dd, tt, oo⟩ _ z1 q
    wp_walk using go
    refine wpAny_stack_any fun _ => wpAny_pure ?_
    split
    · rename_i c _ _ _ _ _
      cases (c == Value.type "enumerate") <;> (wp_walk using go; exact ⟨_, rfl, z2⟩)
    · wp_walk using go
      exact ⟨_, rfl, z2⟩
section
variable {prog : Program} {w : World} {A : Around} {E : Value → Shared → Prop} {s : Shared}
theorem enum1_call {v : Value} {ob : Obj} {H : Heap → Prop} {Q : Value → Shared → Prop} (B : Begins v ob H) (z1 : H s.heap)
    (q : ∀ h', IsEnum h' (s.heap.objs.size + 1) s.heap.objs.size 0 .none → h'.get? s.heap.objs.size = some ob → h'.objs.size = s.heap.objs.size + 2 →
      (∀ b o, s.heap.get? b = some o → h'.get? b = some o) → Q (.ref (s.heap.objs.size + 1)) { s with heap := h' }) :
    wpAny (model prog w) A (call (.type "enumerate") [v]) Q E s := by
  refine callType_new F.called_enumerate (by decide) (F.typeCall_enumerate_1 _) (F.newCall_enumerate_1 _) (fun obj => F.args_object_init_2 obj _) F.entry_enumerate_new (enum1_meets B) ⟨z1, ?_⟩
  have sz : (s.heap.push ob).objs.size = s.heap.objs.size + 1 := Heap.size_push ..
  show _ ∧ _
  rw [sz]
  have ie : IsEnum ((s.heap.push ob).push { cls := .type "enumerate", data := .fields #[.none, .bool false, .ref s.heap.objs.size, rawInt 0, .none, .none] }) (s.heap.objs.size + 1) s.heap.objs.size 0 .none := by
    have z := Heap.get?_push_size (s.heap.push ob) (o := { cls := .type "enumerate", data := .fields #[.none, .bool false, .ref s.heap.objs.size, rawInt 0, .none, .none] }) rfl
    rw [sz] at z
    exact z
  exact ⟨⟨_, ie, rfl⟩, q _ ie (Heap.get?_push_of_some _ (Heap.get?_push_size _ B.free)) (by rw [Heap.size_push, sz]) fun b o y => Heap.get?_push_of_some _ (Heap.get?_push_of_some _ y)⟩
end
def IteT (K : PySem.W.Frag) (a : Addr) : L2.It :=
  ⟨fun i H => ∃ (xs : List V) (x : V), SqT K H a xs ∧ xs[i]? = some x, fun i H v H' => ∃ T x, v = .ref T ∧ H T = none ∧ H' = upd H T (.tup [.int (i : Nat), x]) ∧ ∀ xs, SqT K H a xs → xs[i]? = some x, fun i H => ∃ xs : List V, SqT K H a xs ∧ xs.length ≤ i⟩
theorem turn_enumT {P : Program} {w : World} {K : PySem.W.Frag} {elts : List Expr} {kk : Nat} {tpos : Pos} (a e it : Addr) :
    L2.Turn P w K (.Tuple elts kk tpos) (IteT K a) [e, it] e (fun i h => (∃ old, IsEnum h e it ((i : Nat) : Int) old) ∧ h.IsTupleIter it a i ∧ e ≠ it) where
  mem := by simp
  obj := fun i h st b hb => by
    obtain ⟨⟨old, ie⟩, ⟨o, ho, _, hd⟩, _⟩ := st
    rcases (show b = e ∨ b = it by simpa using hb) with z | z
    · rw [z]; exact ⟨_, ie, fun v q => nomatch q⟩
    · rw [z]; exact ⟨o, ho, fun v q => by rw [hd] at q; cases q⟩
  keep := fun i h h' st k => ⟨let ⟨old, ie⟩ := st.1; ⟨old, k e (by simp) _ ie⟩, st.2.1.at fun o q => k it (by simp) o q, st.2.2⟩
  item := by
    intro X hP hw hK hc i pins s σ H E I hf st hg
    subst hP hw hK
    obtain ⟨⟨old, ie⟩, ti, ne⟩ := st
    obtain ⟨xs, x, sx, xi⟩ := hg
    obtain ⟨its, rv, tp, _⟩ := I.tuple sx
    obtain ⟨u, hu, ru⟩ := rv.get xi
    have le : e < s.heap.objs.size := Heap.lt_size ie
    have li : it < s.heap.objs.size := by obtain ⟨_, q, _⟩ := ti; exact Heap.lt_size q
    have la : a ≠ it := by
      obtain ⟨o1, q1, q2, _⟩ := tp
      obtain ⟨o2, q3, q4, _⟩ := ti
      rintro rfl
      rw [q1] at q3; cases q3
      rw [q2] at q4
      exact absurd q4 (by decide)
    have hi : i < its.toArray.size := by
      have := (List.getElem?_eq_some_iff.mp hu).1
      simpa using this
    have ea : e ∉ [it, a] := by
      obtain ⟨o1, q1, q2, _⟩ := tp
      intro z
      rcases (show e = it ∨ e = a by simpa using z) with z | z
      · exact ne z
      · have z2 : s.heap.get? e = some { cls := .type "enumerate", data := .fields #[.none, .bool false, .ref it, rawInt i, .none, old] } := ie
        rw [z, q1] at z2
        cases z2
        have q3 : Value.type "enumerate" = Value.type "tuple" := q2
        exact absurd q3 (by decide)
    refine wpAny_pyNext_enum_itemD (Draws.tuple (A := X.A.in1) (I.ok.hd hc) it a la its.toArray) ie ⟨ti, tp⟩ hi ne ea fun y h' tk hy io st' hT hsz hk => ?_
    have ey : y = u := by
      have z : its.toArray[i]? = some u := by simpa using hu
      rw [z] at hy
      exact (Option.some.inj hy).symm
    subst ey
    refine ⟨_, rfl, wpAny_letOwnedTupleGo_enum (s := { s with heap := h', toks := tk + 1 }) io fun h2 ie2 sb => ?_⟩
    have tT : h2.get? s.heap.objs.size = some { cls := .type "tuple", data := .seq #[.int i tk, y] } := (sb.2 _ (Nat.ne_of_gt le)).trans hT
    have new : ObjOk X.prog X.w (upd H s.heap.objs.size (.tup [.int (i : Nat), x])) h2 s.heap.objs.size (.tup [.int (i : Nat), x]) :=
      ⟨by show 2 ≤ sizeLine; decide, [.int i tk, y], .cons ⟨_, rfl⟩ (.cons ru .nil), ⟨_, tT, rfl, _, rfl⟩⟩
    have I1 : L2.Inv X pins σ (upd H s.heap.objs.size (.tup [.int (i : Nat), x])) { s with heap := h2, toks := tk + 1 } :=
      I.turnedNew (ch := [e, it]) (fun b ob hb q => (sb.2 b (fun z => hb (by simp [z]))).trans (hk b ob (fun z => hb (by simp [z])) (fun z => hb (by simp [z])) q)) hf (Nat.le_refl _) new
    refine ⟨.ref s.heap.objs.size, _, I1, rfl, ⟨_, x, rfl, I.hok.fresh (Nat.le_refl _), rfl, fun ys hy => by rw [I.tuple_inj hy sx]; exact xi⟩, ⟨⟨y, ?_⟩, st'.1.at fun o q => (sb.2 it (Ne.symm ne)).trans q, ne⟩, fun b hb => ?_⟩
    · rw [show ((i + 1 : Nat) : Int) = (i : Int) + 1 by omega]
      exact ie2
    · have lb : b < s.heap.objs.size := by
        rcases (show b = e ∨ b = it by simpa using hb) with z | z
        · rw [z]; exact le
        · rw [z]; exact li
      rw [upd_ne (Nat.ne_of_lt lb)]
      exact (hf b hb).1
  done := by
    intro X hP hw hK hc i pins s σ H E I hf st hg
    subst hP hw hK
    obtain ⟨⟨old, ie⟩, ti, ne⟩ := st
    obtain ⟨xs, sx, xi⟩ := hg
    obtain ⟨its, rv, tp, _⟩ := I.tuple sx
    obtain ⟨f0, f1, f2, f3, f4, f5⟩ := hf it (by simp)
    have ty : s.TypeIs (.ref e) "enumerate" := ⟨_, ie, rfl⟩
    have big : its.toArray[i]? = none := by
      have := rv.length
      simp
      omega
    unfold pyNext
    refine wpAny_bind (wpAny_attempt ?_)
    refine wpAny_callSpecial?_slot (name := Str.ofString "__next__") ty F.slot_enumerate_next ?_
    refine wpAny_call_entry F.slot_enumerate_next ty F.entry_enumerate_next ?_ (F.args_enumerate_next_1 _)
    show wpAny _ _ (field (.ref e) 2 >>= _) _ _ _
    refine wpAny_bind (wpAny_field ie rfl (x := .ref it) rfl (wpAny_bind ?_))
    refine wpAny_nextOf_tuple_end (A := X.A.in1) (I.ok.hd hc) ti tp big fun h' x eb hx' => ?_
    obtain ⟨o, ho, hcl⟩ := hx'
    exact wpAny_bind (wpAny_isInstance (T := "StopIteration") (b := true) ⟨o, ho, hcl⟩ isSubtype_stop (wpAny_pure ⟨rfl, I.turned (t' := s.toks) (fun b o hb q => eb b o hb q) f0 f1 f3 f4 f5⟩))
  self := fun B i s Q E st h => let ⟨⟨_, ie⟩, _⟩ := st; wpAny_pyIter_enum ie h
theorem pi_enumT {X : Cx} {e : Expr} {te : TE} {p pos tpos : Pos} {elts : List Expr} {kk : Nat} (hg : Gl X "enumerate") (hm : X.mg "enumerate" = none) (he : PE X e te) (ns : ∀ x p, e ≠ .Starred x p) :
    PI X (.Tuple elts kk tpos) (.Call (.Name "enumerate" p) [e] [] pos) (fun σ H R => te σ H fun v H1 => ∃ a xs, [v] = [V.ref a] ∧ ((SqL X.K H1 a xs ∧ R (Ite X.K a) H1) ∨ (SqT X.K H1 a xs ∧ R (IteT X.K a) H1))) := by
  have st : starEach [e] X.env = [(false, eval e X.env)] := by
    cases e with
    | Starred x p => exact absurd rfl (ns x p)
    | _ => simp only [starEach]
  refine ⟨fun pins s σ H R I q => ?_⟩
  have ha : PA X [e] (tCons te tNil) := pa_cons he pa_nil (by rw [st]; rfl)
  refine Call_ (ld_blt I hg hm boot_enumerate (PyProof.Rows.callWith_type1 (thn (ha.run pos pins s σ H (fun vs H1 => ∃ a xs, vs = [V.ref a] ∧ ((SqL X.K H1 a xs ∧ R (Ite X.K a) H1) ∨ (SqT X.K H1 a xs ∧ R (IteT X.K a) H1))) I ?_) fun us s1 ⟨vs, H1, I1, r1, q1⟩ => ?_) st rfl))
  · exact q
  · obtain ⟨a, xs, rfl, q⟩ := q1
    obtain ⟨u, rfl, ru⟩ := vals1 r1
    cases ru
    have stands : ∀ b : Addr, b ∈ [s1.heap.objs.size + 1, s1.heap.objs.size] → s1.heap.objs.size ≤ b := fun b hb => by
      rcases (show b = s1.heap.objs.size + 1 ∨ b = s1.heap.objs.size by simpa using hb) with z | z
      · rw [z]; exact Nat.le_add_right _ _
      · rw [z]; exact Nat.le_refl _
    rcases q with ⟨sx, q⟩ | ⟨sx, q⟩
    · obtain ⟨its, rv, lp, _⟩ := I1.list sx
      refine call_enumerate_list lp.isList fun h' ie it _ hk => wpAny_pyIter_enum ie ?_
      exact ⟨s1.heap.objs.size + 1, [s1.heap.objs.size + 1, s1.heap.objs.size], _, _, H1, rfl, I1.kept (t' := s1.toks) hk, turn_enum a _ _, ⟨⟨.none, ie⟩, it, Nat.succ_ne_self _⟩, fun b hb => I1.fpOk (stands b hb) (I1.hok.fresh (stands b hb)), q⟩
    · obtain ⟨its, rv, tp, _⟩ := I1.tuple sx
      refine enum1_call (begins_tuple a its.toArray) tp fun h' ie it _ hk => wpAny_pyIter_enum ie ?_
      exact ⟨s1.heap.objs.size + 1, [s1.heap.objs.size + 1, s1.heap.objs.size], _, _, H1, rfl, I1.kept (t' := s1.toks) hk, turn_enumT a _ _, ⟨⟨.none, ie⟩, ⟨_, it, rfl, rfl⟩, Nat.succ_ne_self _⟩, fun b hb => I1.fpOk (stands b hb) (I1.hok.fresh (stands b hb)), q⟩
end Wm
end

section
set_option Elab.async false
set_option linter.all false
set_option maxRecDepth 100000
set_option maxHeartbeats 4000000
set_option autoImplicit false
/-! The text beside the own language: a look that they agree. -/
namespace Wm
open PySem PySem.Spec PyProof.Rows L2

/-- a name that is read from a slot -/
def vis (sc : Scope) (x : Str) : Bool := match sc.names.lookup x with
  | some .local => true
  | some .cell => true
  | some .free => true
  | _ => false
/-- a name that may be stored -/
def loc (sc : Scope) (x : Str) : Bool := match sc.names.lookup x with
  | some .local => true
  | some .cell => true
  | _ => false
def isGl (sc : Scope) (x : Str) : Bool := match sc.names.lookup x with
  | some .globalImplicit => true
  | _ => false
def bopO : Bop → Operator
  | .add => .Add | .sub => .Sub | .mul => .Mult | .fdiv => .FloorDiv | .mod => .Mod | .pow => .Pow
def cstOk : W → Const → Bool
  | .non, .none => true
  | .bl a, .bool b => a == b
  | .int i, .int j => decide (i = j)
  | .str x, .str y => decide (x = y)
  | _, _ => false
def biN : Bi → Str
  | .len => "len" | .int => "int" | .abs => "abs" | .max2 => "max" | .min2 => "min" | .maxl => "max" | .minl => "min"
  | .sum => "sum" | .sorted => "sorted" | .tuple => "tuple" | .list => "list" | .repr => "repr" | .all => "all" | .any => "any"
def biNames : List Str := ["len", "int", "abs", "max", "min", "sum", "sorted", "tuple", "list", "repr", "all", "any", "range", "isinstance", "bool", "str", "dict", "enumerate", "zip"]
def mtN : Mt → Str
  | .append => "append" | .pop => "pop" | .popAt => "pop" | .extend => "extend" | .index => "index"
def notSet : Expr → Bool
  | .Set .. => false
  | _ => true
def notSlice : Expr → Bool
  | .Slice .. => false
  | _ => true
def notCall : Expr → Bool
  | .Call .. => false
  | _ => true
def notComp2 : Expr → Bool
  | .SetComp .. => false
  | .DictComp .. => false
  | _ => true
def notComp : Expr → Bool
  | .ListComp .. => false
  | .SetComp .. => false
  | .DictComp .. => false
  | _ => true
/-- what gives pairs wants a target of several names -/
def needT : E → Bool
  | .enum _ => true
  | .zip _ _ => true
  | _ => false
def isTup : Expr → Bool
  | .Tuple .. => true
  | _ => false
def slotsT : T → List Nat
  | .nm i => [i]
  | .nil => []
  | .cons a r => slotsT a ++ slotsT r
section
variable (nm : List Str) (cn : List (Str × W)) (N : List Str)
/-- a target -/
def chkT (raw : Scope) : T → Expr → Bool
  | .nm i => fun e => match e with
    | .Name x _ => decide (N[i]? = some x) && loc raw x
    | _ => false
  | .nil => fun e => match e with
    | .Tuple [] _ _ => true
    | _ => false
  | .cons a r => fun e => match e with
    | .Tuple (x :: xs) k p => chkT raw a x && chkT raw r (.Tuple xs k p)
    | _ => false
mutual
def chkE (sc : Scope) : E → Expr → Bool
  | .v i => fun e => match e with
    | .Name x _ => decide (N[i]? = some x) && vis sc x && !(x == ("__debug__" : Str)) && !(x == ("__classdict__" : Str))
    | _ => false
  | .c w => fun e => match e with
    | .Constant c _ _ => cstOk w c
    | .Name x _ => isGl sc x && !(x == ("__debug__" : Str)) && cn.any (fun p => decide (p.1 = x) && W.beq p.2 w)
    | _ => false
  | .bin o a b => fun e => match e with
    | .BinOp l op r _ => decide (bopO o = op) && chkE sc a l && chkE sc b r
    | _ => false
  | .neg a => fun e => match e with
    | .UnaryOp .USub x _ => chkE sc a x
    | _ => false
  | .cmp o a b => fun e => match e with
    | .Compare l [op] [r] _ => decide (copO o = op) && notSet r && chkE sc a l && chkE sc b r
    | _ => false
  | .chain o p a b c => fun e => match e with
    | .Compare l [o1, o2] [r1, r2] _ => decide (copO o = o1) && decide (copO p = o2) && notSet r2 && chkE sc a l && chkE sc b r1 && chkE sc c r2
    | _ => false
  | .and a b => fun e => match e with
    | .BoolOp .And [x, y] _ => chkE sc a x && chkE sc b y
    | .BoolOp .And (x :: y :: z :: r) p => chkE sc a x && chkE sc b (.BoolOp .And (y :: z :: r) p)
    | _ => false
  | .or a b => fun e => match e with
    | .BoolOp .Or [x, y] _ => chkE sc a x && chkE sc b y
    | .BoolOp .Or (x :: y :: z :: r) p => chkE sc a x && chkE sc b (.BoolOp .Or (y :: z :: r) p)
    | _ => false
  | .not a => fun e => match e with
    | .UnaryOp .Not x _ => chkE sc a x
    | _ => false
  | .ite t a b => fun e => match e with
    | .IfExp c x y _ => chkE sc t c && chkE sc a x && chkE sc b y
    | _ => false
  | .call f as => fun e => match e with
    | .Call (.Name x _) (y :: ys) [] _ => isGl sc x && !(x == ("__debug__" : Str)) && decide (nm[f]? = some x) && chkA sc as (y :: ys)
    | .Call (.Name x _) [] [] _ => isGl sc x && !(x == ("__debug__" : Str)) && decide (nm[f]? = some x) && chkA sc as []
    | _ => false
  | .bi b as => fun e => match e with
    | .Call (.Name x _) (y :: ys) [] _ => isGl sc x && decide (biN b = x) && chkA sc as (y :: ys)
    | _ => false
  | .lrg a => fun e => match e with
    | .Call (.Name x _) [.Call (.Name y _) [z] [] _] [] _ => decide (x = "list") && isGl sc x && decide (y = "range") && isGl sc y && chkE sc a z
    | _ => false
  | .isi a ts => fun e => match e with
    | .Call (.Name x _) [y, .Name t _] [] _ => isGl sc x && decide (x = "isinstance") && isGl sc t && (match ts with | [T] => kitS T && decide (Str.ofString T = t) | _ => false) && chkE sc a y
    | _ => false
  | .mt m o as => fun e => match e with
    | .Call (.Attribute y name ap) [] [] cp => decide (mtN m = name) && (ap.endLine == cp.line) && notCall y && decide (m = .pop) && chkE sc o y && chkA sc as []
    | .Call (.Attribute y name ap) [z] [] cp => decide (mtN m = name) && (ap.endLine == cp.line) && notCall y && decide (m ≠ .pop) && decide (m ≠ .index) && chkE sc o y && chkA sc as [z]
    | _ => false
  | .tup as => fun e => match e with
    | .Tuple es _ _ => chkA sc as es
    | _ => false
  | .lst as => fun e => match e with
    | .List es _ => chkA sc as es
    | _ => false
  | .ix a b => fun e => match e with
    | .Subscript x y _ => notSlice y && chkE sc a x && chkE sc b y
    | _ => false
  | .sl a lo hi => fun e => match e with
    | .Subscript x (.Slice l u none _) _ => chkE sc a x && chkO sc lo l && chkO sc hi u
    | _ => false
  | .rev a => fun e => match e with
    | .Subscript x (.Slice none none (some (.UnaryOp .USub (.Constant (.int i) _ _) _)) _) _ => decide (i = 1) && chkE sc a x
    | _ => false
  | .gc a => fun e => chkE sc a e
  | .lc el own t it cond => fun e => match e with
    | .ListComp elt [⟨tg, iter, ifs, 0⟩] scope _ => blkC N sc scope (own.map fun i => (N.getD i "", i)) && ((slotsT t).all fun i => decide (i ∈ own)) && notSet iter && (!needT it || isTup tg) && chkI sc it iter && chkT N scope t tg && chkC (relS scope sc) cond ifs && chkE (relS scope sc) el elt
    | _ => false
  | _ => fun _ => false
def chkA (sc : Scope) : E → List Expr → Bool
  | .nil => fun es => match es with
    | [] => true
    | _ => false
  | .cons a r => fun es => match es with
    | x :: xs => chkE sc a x && chkA sc r xs
    | _ => false
  | _ => fun _ => false
def chkO (sc : Scope) : E → Option Expr → Bool
  | .nil => fun e => match e with
    | none => true
    | _ => false
  | .cons a .nil => fun e => match e with
    | some x => chkE sc a x
    | _ => false
  | _ => fun _ => false
/-- a comprehension's ifs: none or one -/
def chkC (sc : Scope) : E → List Expr → Bool
  | .cons a .nil => fun es => match es with
    | [x] => chkE sc a x
    | _ => false
  | .nil => fun es => match es with
    | [] => true
    | _ => false
  | _ => fun _ => false
def chkI (sc : Scope) : E → Expr → Bool
  | .seq a => fun e => chkE sc a e
  | .rng1 a => fun e => match e with
    | .Call (.Name x _) [y] [] _ => decide (x = "range") && isGl sc x && chkE sc a y
    | _ => false
  | .rng2 a b => fun e => match e with
    | .Call (.Name x _) [y, z] [] _ => decide (x = "range") && isGl sc x && chkE sc a y && chkE sc b z
    | _ => false
  | .enum a => fun e => match e with
    | .Call (.Name x _) [y] [] _ => decide (x = "enumerate") && isGl sc x && chkE sc a y
    | _ => false
  | .zip a b => fun e => match e with
    | .Call (.Name x _) [y, z] [] _ => decide (x = "zip") && isGl sc x && chkE sc a y && chkE sc b z
    | _ => false
  | _ => fun _ => false
end
end
end Wm
end

section
set_option Elab.async false
set_option linter.all false
set_option maxRecDepth 100000
set_option maxHeartbeats 4000000
set_option autoImplicit false
/-! Runs of the own language are runs of the machine: expressions. -/
namespace Wm
open PySem PySem.Spec PyProof.Rows L2

/-- a def that keeps a promise where no repr is under way -/
structure FnW (P : Program) (w : World) (K : PySem.W.Frag) (mg : Str → Option Value) (base : Heap) (k : Nat) (f : Addr) (fd : FuncData) (ps : List Str) (sp : Sp) : Prop where
  len : ∀ vs H Q E, sp vs H Q E → vs.length = ps.length
  run : ∀ (B : Around) (outer : List Env) (s : Shared) (H : Hp) (args : Args) (us : List Value) (vs : List V) (Q : VK) (E : XK), B.guards = some [] → Room k B → Env0 P w K mg base B outer s H → BindsTo s fd args (ps.zip us) → Vals vs us → sp vs H Q E →
    codeAny (model P w) B (.call (.ref f) args) (CR (L2.CX P w) outer P w H s Q E) s
section
variable {X : Cx} {k : Nat} {f : Addr} {fd : FuncData} {ps : List Str} {sp : Sp} {E : XK}
theorem call_fnW {pins : List (Addr × Obj)} {σ : L2.St} {H : Hp} {s : Shared} {Q : VK} {us : List Value} {vs : List V} (F : FnW X.prog X.w X.K X.mg X.base k f fd ps sp) (hg : X.A.guards = some []) (hr : Room k X.A) (hb : Binds X.K fd ps [])
    (hx : Passes (L2.CX X.prog X.w) X E) (I : L2.Inv X pins σ H s) (r : Vals vs us) (q : sp vs H Q E) : wpAny (model X.prog X.w) X.A (call (.ref f) us) (EP X pins σ Q) X.xe s := by
  have hl : (us ++ ([] : List Value)).length = ps.length := by rw [List.append_nil, ← r.length]; exact F.len _ _ _ _ q
  have hb' := hb s us I.kIn hl
  rw [List.append_nil] at hb'
  refine wpAny_call (codeAny_mono (F.run X.A X.stack s H ⟨us, []⟩ us vs Q E hg hr I.env0 hb' r q) fun res s' hq => ?_)
  cases res with
  | error e => exact hx pins σ H s e s' I hq
  | ok fl => cases fl with
    | ret u => exact I.after hq
    | _ => exact hq.elim
end
def spW (A : At) (tab : List Fn) (k i : Nat) : Sp := fun vs H Q E => ∃ (m : List Addr) (h : OH) (ws : List W), RelH A m h H ∧ Reps A m H ws vs ∧ Post E (rW A) m H (callN tab k i ws h) Q
/-- where code runs -/
structure Ctx (A : At) (tab : List Fn) (nm : List Str) (cn : List (Str × W)) (N : List Str) (k : Nat) (X : Cx) (sc raw : Scope) (ew : XK) : Prop extends Calm A X where
  eN : X.N = N
  nd : N.Nodup
  sc : X.env.scope = sc
  room : Room k X.A
  pass : PassesOwn (model X.prog X.w) X.A X.env X.xe
  hx : Passes (L2.CX X.prog X.w) X ew
  tgt : ∀ x, loc raw x = true → Loc X.env.scope x ∧ (X.fn x = true ∨ X.env.scope.names.lookup x = some .local)
  blt : ∀ x ∈ biNames, X.mg x = none
  cns : ∀ x w, (x, w) ∈ cn → ∃ u v, X.mg x = some u ∧ RelV v u ∧ ∀ m H, Rep A m H w v
  fns : ∀ (i : Nat) (x : Str), nm[i]? = some x → ∃ f fd ps, X.mg x = some (.ref f) ∧ PySem.W.keepIn X.K (.ref f) = true ∧ Binds X.K fd ps [] ∧ FnW X.prog X.w X.K X.mg X.base k f fd ps (spW A tab k i)
section
variable {A : At} {ew : XK}
theorem Post.mono {α β : Type} {rl : Rl A α β} {m : List Addr} {H : Hp} {r : R α} {Q Q' : β → Hp → Prop} (p : Post ew rl m H r Q) (i : ∀ b H', Q b H' → Q' b H') : Post ew rl m H r Q' := by
  cases r with
  | ok a h' => exact fun m' b H' g r q => i b H' (p m' b H' g r q)
  | exc c fs h' => exact p
  | no => exact p
theorem tA.mono {α β γ δ : Type} {ρ : Rl A α β} {rl : Rl A γ δ} {g : α → Sl → OH → R γ} {b : β} {σ : L2.St} {H : Hp} {Q Q' : δ → Hp → Prop} (t : tA ew ρ rl g b σ H Q) (i : ∀ b H', Q b H' → Q' b H') : tA ew ρ rl g b σ H Q' := by
  obtain ⟨m, h, s, a, rh, rs, ra, p⟩ := t
  exact ⟨m, h, s, a, rh, rs, ra, p.mono i⟩
theorem tA.stepF {α β γ δ ε ζ : Type} {ρ : Rl A α β} {rl : Rl A γ δ} {b : β} {σ : L2.St} {H : Hp} {Q : δ → Hp → Prop} (r1 : Rl A ε ζ) (c : Sl → OH → R ε) (g : α × ε → Sl → OH → R γ)
    (t : tA ew ρ rl (fun a s h => (c s h).bind fun x h1 => g (a, x) s h1) b σ H Q) : tG ew r1 c σ H (fun y H1 => tA ew (rP A ρ r1) rl g (b, y) σ H1 Q) := (tA.step (r1 := r1) (c := fun _ => c) (g := g) t).forget
end
theorem notStar_map {env : Env} : ∀ {es : List Expr}, (∀ e ∈ es, ∀ x p, e ≠ .Starred x p) → starEach es env = es.map fun e => (false, eval e env)
  | [], _ => by simp [starEach]
  | e :: es, h => by
    have h1 : ∀ x p, e ≠ .Starred x p := h e List.mem_cons_self
    have h2 := notStar_map (env := env) fun e' he' => h e' (List.mem_cons_of_mem _ he')
    cases e with
    | Starred x p => exact absurd rfl (h1 x p)
    | _ => simp only [starEach, List.map_cons, h2]
theorem notStar_cons {env : Env} {e : Expr} {es : List Expr} (h : ∀ x p, e ≠ .Starred x p) : starEach (e :: es) env = (false, eval e env) :: starEach es env := by
  cases e with
  | Starred x p => exact absurd rfl (h x p)
  | _ => simp only [starEach]
section
variable (nm : List Str) (cn : List (Str × W)) (N : List Str)
theorem chkE_star (sc : Scope) (e' : E) (x : Expr) (p : Pos) : chkE nm cn N sc e' (.Starred x p) = false := by
  induction e' with
  | gc a ih => simp only [chkE]; exact ih
  | _ => simp only [chkE]
theorem chkA_star (sc : Scope) : ∀ (e' : E) (es : List Expr), chkA nm cn N sc e' es = true → ∀ e ∈ es, ∀ x p, e ≠ .Starred x p := by
  intro e' es
  induction es generalizing e' with
  | nil => intro _ e he; simp at he
  | cons y ys ih =>
    intro h e he x p
    cases e' with
    | cons a r =>
      simp only [chkA, Bool.and_eq_true] at h
      rcases List.mem_cons.mp he with rfl | he
      · intro z
        rw [z, chkE_star] at h
        cases h.1
      · exact ih r h.2 e he x p
    | nil => simp [chkA] at h
    | _ => simp [chkA] at h
end

/-! ### what is walked -/
structure IR (A : At) (J : L2.It) (ws : List W) (wt : List (Nat × List W)) (m0 : List Addr) (H0 : Hp) : Prop where
  go : ∀ (i : Nat) (w : W) (m : List Addr) (h : OH) (H : Hp), Grow m0 H0 m H → RelH A m h H → still h wt = true → ws[i]? = some w → J.go i H ∧ ∀ x H', J.yld i H x H' → Grow m H m H' ∧ RelH A m h H' ∧ Rep A m H' w x
  stop : ∀ (m : List Addr) (h : OH) (H : Hp), Grow m0 H0 m H → RelH A m h H → still h wt = true → J.stop ws.length H
theorem IR.grow {A : At} {J : L2.It} {ws : List W} {wt : List (Nat × List W)} {m0 m1 : List Addr} {H0 H1 : Hp} (q : IR A J ws wt m0 H0) (g : Grow m0 H0 m1 H1) : IR A J ws wt m1 H1 :=
  ⟨fun i w m h H g2 => q.go i w m h H (g.trans g2), fun m h H g2 => q.stop m h H (g.trans g2)⟩
def rI (A : At) : Rl A It L2.It := ⟨fun m H p J => IR A J p.1 p.2 m H, fun _ g q => q.grow g⟩
section
variable {A : At} {m : List Addr} {h : OH} {H : Hp}
theorem still_at {wt : List (Nat × List W)} {n : Nat} {ws : List W} (s : still h wt = true) (hm : (n, ws) ∈ wt) : items h n = some ws := by
  induction wt with
  | nil => simp at hm
  | cons p r ih =>
    rw [still, Bool.and_eq_true] at s
    rcases List.mem_cons.mp hm with e | e
    · subst e
      have s1 := s.1
      dsimp only at s1
      split at s1
      · rename_i us e2
        rw [e2, W.beqs_eq s1]
      · cases s1
    · exact ih s.2 e
theorem IR.list {K : PySem.W.Frag} (hK : A.K = K) {n : Nat} {ws : List W} {wt : List (Nat × List W)} {a : Addr} (hm : (n, ws) ∈ wt) (ha : m[n]? = some a) : IR A (Itl K a) ws wt m H := by
  subst hK
  refine ⟨fun i w m1 h1 H1 g r s e => ?_, fun m1 h1 H1 g r s => ?_⟩
  · obtain ⟨vs, q, k⟩ := r.its (still_at s hm) (g.get ha)
    obtain ⟨v, hv, rv⟩ := k.get e
    refine ⟨⟨vs, v, q, hv⟩, fun x H' y => ?_⟩
    obtain ⟨rfl, y⟩ := y
    have := y vs q
    rw [hv] at this; cases this
    exact ⟨Grow.refl _ _, r, rv⟩
  · obtain ⟨vs, q, k⟩ := r.its (still_at s hm) (g.get ha)
    exact ⟨vs, q, Nat.le_of_eq k.length.symm⟩
theorem IR.tuple {K : PySem.W.Frag} (hK : A.K = K) (rh : RelH A m h H) {ws : List W} {vs : List V} {wt : List (Nat × List W)} {a : Addr} (q : SqT A.K H a vs) (k : Reps A m H ws vs) : IR A (Itt K a) ws wt m H := by
  subst hK
  refine ⟨fun i w m1 h1 H1 g r s e => ?_, fun m1 h1 H1 g r s => ⟨vs, SqT.grow rh g q, Nat.le_of_eq k.length.symm⟩⟩
  obtain ⟨v, hv, rv⟩ := (Reps.grow rh g k).get e
  refine ⟨⟨vs, v, SqT.grow rh g q, hv⟩, fun x H' y => ?_⟩
  obtain ⟨rfl, y⟩ := y
  have := y vs (SqT.grow rh g q)
  rw [hv] at this; cases this
  exact ⟨Grow.refl _ _, r, rv⟩
theorem rangeI_get : ∀ (n : Nat) (lo : Int) (i : Nat) (w : W), (rangeI lo n)[i]? = some w → i < n ∧ w = .int (lo + i)
  | 0, lo, i, w, e => by simp [rangeI] at e
  | n + 1, lo, 0, w, e => by simp [rangeI] at e; exact ⟨by omega, by rw [← e]; simp⟩
  | n + 1, lo, i + 1, w, e => by
    obtain ⟨h1, h2⟩ := rangeI_get n (lo + 1) i w (by simpa [rangeI] using e)
    exact ⟨by omega, by rw [h2]; congr 1; omega⟩
theorem rangeI_length : ∀ (n : Nat) (lo : Int), (rangeI lo n).length = n
  | 0, _ => rfl
  | n + 1, lo => by simp [rangeI, rangeI_length n]
theorem IR.range (lo : Int) (n : Nat) (wt : List (Nat × List W)) : IR A (Itr lo n) (rangeI lo n) wt m H := by
  refine ⟨fun i w m1 h1 H1 g r s e => ?_, fun m1 h1 H1 g r s => Nat.le_of_eq (rangeI_length n lo).symm⟩
  obtain ⟨hi, rfl⟩ := rangeI_get n lo i w e
  refine ⟨hi, fun x H' y => ?_⟩
  obtain ⟨rfl, rfl⟩ := y
  exact ⟨Grow.refl _ _, r, .int _⟩
theorem enumT_get : ∀ (ws : List W) (k : Int) (i : Nat) (w : W), (enumT k ws)[i]? = some w → ∃ u, ws[i]? = some u ∧ w = .tup [.int (k + i), u]
  | [], k, i, w, e => by simp [enumT] at e
  | u :: ws, k, 0, w, e => by simp [enumT] at e; exact ⟨u, rfl, by rw [← e]; simp⟩
  | u :: ws, k, i + 1, w, e => by
    obtain ⟨z, h1, h2⟩ := enumT_get ws (k + 1) i w (by simpa [enumT] using e)
    exact ⟨z, by simpa using h1, by rw [h2]; congr 3; omega⟩
theorem enumT_length : ∀ (ws : List W) (k : Int), (enumT k ws).length = ws.length
  | [], _ => rfl
  | _ :: ws, k => by simp [enumT, enumT_length ws]
theorem pair_new {m1 : List Addr} {h1 : OH} {H1 : Hp} (r : RelH A m1 h1 H1) {w u : W} {x y : V} {T : Addr} (hT : H1 T = none) (rx : Rep A m1 H1 w x) (ry : Rep A m1 H1 u y) :
    Grow m1 H1 m1 (upd H1 T (.tup [x, y])) ∧ RelH A m1 h1 (upd H1 T (.tup [x, y])) ∧ Rep A m1 (upd H1 T (.tup [x, y])) (.tup [w, u]) (.ref T) := by
  obtain ⟨r2, g⟩ := r.side (o := .tup [x, y]) hT
  exact ⟨g, r2, .tup (SqT.of upd_same) (.cons (rx.grow r g) (.cons (ry.grow r g) .nil))⟩
theorem IR.enumL {K : PySem.W.Frag} (hK : A.K = K) {n : Nat} {ws : List W} {wt : List (Nat × List W)} {a : Addr} (hm : (n, ws) ∈ wt) (ha : m[n]? = some a) : IR A (Ite K a) (enumT 0 ws) wt m H := by
  subst hK
  refine ⟨fun i w m1 h1 H1 g r s e => ?_, fun m1 h1 H1 g r s => ?_⟩
  · obtain ⟨u, e1, rfl⟩ := enumT_get ws 0 i w e
    obtain ⟨vs, q, k⟩ := r.its (still_at s hm) (g.get ha)
    obtain ⟨v, hv, rv⟩ := k.get e1
    refine ⟨⟨vs, v, q, hv⟩, fun x H' y => ?_⟩
    obtain ⟨T, x', rfl, hT, rfl, y⟩ := y
    have := y vs q
    rw [hv] at this; cases this
    rw [Int.zero_add]
    exact pair_new r hT (.int _) rv
  · obtain ⟨vs, q, k⟩ := r.its (still_at s hm) (g.get ha)
    exact ⟨vs, q, by rw [enumT_length]; exact Nat.le_of_eq k.length.symm⟩
theorem IR.enumT {K : PySem.W.Frag} (hK : A.K = K) (rh : RelH A m h H) {ws : List W} {vs : List V} {wt : List (Nat × List W)} {a : Addr} (q : SqT A.K H a vs) (k : Reps A m H ws vs) : IR A (IteT K a) (Wm.enumT 0 ws) wt m H := by
  subst hK
  refine ⟨fun i w m1 h1 H1 g r s e => ?_, fun m1 h1 H1 g r s => ⟨vs, SqT.grow rh g q, by rw [enumT_length]; exact Nat.le_of_eq k.length.symm⟩⟩
  obtain ⟨u, e1, rfl⟩ := enumT_get ws 0 i w e
  obtain ⟨v, hv, rv⟩ := (Reps.grow rh g k).get e1
  refine ⟨⟨vs, v, SqT.grow rh g q, hv⟩, fun x H' y => ?_⟩
  obtain ⟨T, x', rfl, hT, rfl, y⟩ := y
  have := y vs (SqT.grow rh g q)
  rw [hv] at this; cases this
  rw [Int.zero_add]
  exact pair_new r hT (.int _) rv
theorem zipT_get : ∀ (ws us : List W) (i : Nat) (w : W), (zipT ws us)[i]? = some w → ∃ a b, ws[i]? = some a ∧ us[i]? = some b ∧ w = .tup [a, b]
  | [], us, i, w, e => by simp [zipT] at e
  | _ :: _, [], i, w, e => by simp [zipT] at e
  | a :: ws, b :: us, 0, w, e => by simp [zipT] at e; exact ⟨a, b, rfl, rfl, e.symm⟩
  | a :: ws, b :: us, i + 1, w, e => by
    obtain ⟨x, y, h1, h2, h3⟩ := zipT_get ws us i w (by simpa [zipT] using e)
    exact ⟨x, y, by simpa using h1, by simpa using h2, h3⟩
theorem zipT_length : ∀ (ws us : List W), (zipT ws us).length = min ws.length us.length
  | [], us => by simp [zipT]
  | _ :: _, [] => by simp [zipT]
  | a :: ws, b :: us => by simp [zipT, zipT_length ws us, Nat.succ_min_succ]
theorem IR.zipL {K : PySem.W.Frag} (hK : A.K = K) {n k : Nat} {ws us : List W} {wt : List (Nat × List W)} {a b : Addr} (hm : (n, ws) ∈ wt) (hk : (k, us) ∈ wt) (ha : m[n]? = some a) (hb : m[k]? = some b) : IR A (Itz K a b) (zipT ws us) wt m H := by
  subst hK
  refine ⟨fun i w m1 h1 H1 g r s e => ?_, fun m1 h1 H1 g r s => ?_⟩
  · obtain ⟨x, y, e1, e2, rfl⟩ := zipT_get ws us i w e
    obtain ⟨vs, q, k1⟩ := r.its (still_at s hm) (g.get ha)
    obtain ⟨vs2, q2, k2⟩ := r.its (still_at s hk) (g.get hb)
    obtain ⟨v, hv, rv⟩ := k1.get e1
    obtain ⟨v2, hv2, rv2⟩ := k2.get e2
    refine ⟨⟨vs, vs2, v, v2, q, q2, hv, hv2⟩, fun x H' y => ?_⟩
    obtain ⟨T, x', y', rfl, hT, rfl, y1, y2⟩ := y
    have z1 := y1 vs q
    rw [hv] at z1; cases z1
    have z2 := y2 vs2 q2
    rw [hv2] at z2; cases z2
    exact pair_new r hT rv rv2
  · obtain ⟨vs, q, k1⟩ := r.its (still_at s hm) (g.get ha)
    obtain ⟨vs2, q2, k2⟩ := r.its (still_at s hk) (g.get hb)
    have l1 := k1.length
    have l2 := k2.length
    exact ⟨vs, vs2, q, q2, by rw [zipT_length]; omega⟩
theorem IR.zipT {K : PySem.W.Frag} (hK : A.K = K) (rh : RelH A m h H) {ws us : List W} {vs vs2 : List V} {wt : List (Nat × List W)} {a b : Addr} (q : SqT A.K H a vs) (k1 : Reps A m H ws vs) (q2 : SqT A.K H b vs2) (k2 : Reps A m H us vs2) :
    IR A (RZ.ItzT K a b) (Wm.zipT ws us) wt m H := by
  subst hK
  have l1 := k1.length
  have l2 := k2.length
  refine ⟨fun i w m1 h1 H1 g r s e => ?_, fun m1 h1 H1 g r s => ⟨vs, vs2, SqT.grow rh g q, SqT.grow rh g q2, by rw [zipT_length]; omega⟩⟩
  obtain ⟨x, y, e1, e2, rfl⟩ := zipT_get ws us i w e
  obtain ⟨v, hv, rv⟩ := (Reps.grow rh g k1).get e1
  obtain ⟨v2, hv2, rv2⟩ := (Reps.grow rh g k2).get e2
  refine ⟨⟨vs, vs2, v, v2, SqT.grow rh g q, SqT.grow rh g q2, hv, hv2⟩, fun x H' y => ?_⟩
  obtain ⟨T, x', y', rfl, hT, rfl, y1, y2⟩ := y
  have z1 := y1 vs (SqT.grow rh g q)
  rw [hv] at z1; cases z1
  have z2 := y2 vs2 (SqT.grow rh g q2)
  rw [hv2] at z2; cases z2
  exact pair_new r hT rv rv2
end
end Wm
end

section
set_option Elab.async false
set_option linter.all false
set_option maxRecDepth 100000
set_option maxHeartbeats 4000000
set_option autoImplicit false
namespace Wm
open PySem PySem.Spec PyProof.Rows L2

section
variable {A : At} {tab : List Fn} {nm : List Str} {cn : List (Str × W)} {N : List Str} {k : Nat} {X : Cx} {sc raw : Scope} {ew : XK}
theorem Ctx.gl (C : Ctx A tab nm cn N k X sc raw ew) {x : Str} (h : isGl sc x = true) : Gl X x := by
  unfold isGl at h
  split at h
  · rename_i e
    show X.env.scope.names.lookup x = _
    rw [C.sc]
    exact e
  · cases h
theorem Ctx.vis (C : Ctx A tab nm cn N k X sc raw ew) {x : Str} (h : vis sc x = true) : Vis X.env.scope x := by
  unfold Wm.vis at h
  unfold Vis
  rw [C.sc]
  split at h
  · exact .inl (by assumption)
  · exact .inr (.inl (by assumption))
  · exact .inr (.inr (by assumption))
  · cases h
/-! ### the rule for a name -/
theorem pe_v (C : Ctx A tab nm cn N k X sc raw ew) {i : Nat} {e : Expr} (h : chkE nm cn N sc (.v i) e = true) : PE X e (tG ew (rW A) (ev (callN tab k) (.v i))) := by
  simp only [chkE] at h
  split at h
  · rename_i x p
    simp only [Bool.and_eq_true, Bool.not_eq_true', decide_eq_true_eq] at h
    refine PE.weak (pe_var (i := i) (by rw [C.eN]; exact h.1.1.1) (C.vis h.1.1.2) h.1.2 h.2) fun σ H Q t => ?_
    obtain ⟨m, hp, s, _, rh, rs, _, p⟩ := t
    have p : Post ew (rW A) m H (match getS s i with | some w => .ok w hp | none => .no) Q := p
    split at p
    · rename_i w e
      obtain ⟨v, e1, r⟩ := rs.at_ i w e
      exact ⟨v, e1, p.now rh r⟩
    · exact p.elim
  · cases h
theorem cst_ok {w : W} {c : Const} (h : cstOk w c = true) {j : Nat} {p : Pos} : ∃ v, PE X (.Constant c j p) (tC v) ∧ ∀ m H, Rep A m H w v := by
  unfold cstOk at h
  split at h
  · exact ⟨.non, pe_non, fun _ _ => .non⟩
  · rename_i a b
    have e : a = b := by simpa using h
    subst e
    exact ⟨.bl a, pe_bl, fun _ _ => .bl a⟩
  · rename_i a b
    have e : a = b := by simpa using h
    subst e
    exact ⟨.int a, pe_int, fun _ _ => .int a⟩
  · rename_i a b
    have e : a = b := by simpa using h
    subst e
    exact ⟨.str a, pe_str, fun _ _ => .str a⟩
  · cases h
theorem tG_c {w : W} {v : V} {σ : L2.St} {H : Hp} {Q : VK} {G : Nat → List W → OH → R W} (t : tG ew (rW A) (ev G (.c w)) σ H Q) (r : ∀ m H, Rep A m H w v) : Q v H := by
  obtain ⟨m, hp, s, _, rh, rs, _, p⟩ := t
  exact Post.now p rh (r m H)
theorem pe_c (C : Ctx A tab nm cn N k X sc raw ew) {w : W} {e : Expr} (h : chkE nm cn N sc (.c w) e = true) : PE X e (tG ew (rW A) (ev (callN tab k) (.c w))) := by
  simp only [chkE] at h
  split at h
  · obtain ⟨v, e1, r⟩ := cst_ok (A := A) (X := X) h
    exact PE.weak e1 fun σ H Q t => tG_c t r
  · rename_i x p
    simp only [Bool.and_eq_true, Bool.not_eq_true', List.any_eq_true, decide_eq_true_eq] at h
    obtain ⟨⟨h1, h2⟩, ⟨y, w'⟩, hm, rfl, hb⟩ := h
    have e := W.beq_eq hb
    dsimp only at e
    subst e
    obtain ⟨u, v, e1, e2, e3⟩ := C.cns _ _ hm
    exact PE.weak (pe_glob (C.gl h1) e1 e2 h2) fun σ H Q t => tG_c t e3
  · cases h
/-! ### what holds of each expression -/
structure Snd (A : At) (tab : List Fn) (nm : List Str) (cn : List (Str × W)) (N : List Str) (k : Nat) (a : E) : Prop where
  fe : ∀ (X : Cx) (sc raw : Scope) (ew : XK) (e : Expr), Ctx A tab nm cn N k X sc raw ew → chkE nm cn N sc a e = true → PE X e (tG ew (rW A) (ev (callN tab k) a))
  ft : ∀ (X : Cx) (sc raw : Scope) (ew : XK) (e : Expr), Ctx A tab nm cn N k X sc raw ew → chkE nm cn N sc a e = true → PT X e (tG ew (rE A Bool) (evT (callN tab k) a))
  fa : ∀ (X : Cx) (sc raw : Scope) (ew : XK) (es : List Expr), Ctx A tab nm cn N k X sc raw ew → chkA nm cn N sc a es = true → PA X es (tG ew (rWs A) (evs (callN tab k) a))
  fo : ∀ (X : Cx) (sc raw : Scope) (ew : XK) (e : Option Expr), Ctx A tab nm cn N k X sc raw ew → chkO nm cn N sc a e = true → PO X e (tG ew (rE A (Option Int)) (evO (callN tab k) a))
  fc : ∀ (X : Cx) (sc raw : Scope) (ew : XK) (es : List Expr), Ctx A tab nm cn N k X sc raw ew → chkC nm cn N sc a es = true → PTs X es (tG ew (rE A Bool) (evC (callN tab k) a))
  fi : ∀ (X : Cx) (sc raw : Scope) (ew : XK) (e tg : Expr), Ctx A tab nm cn N k X sc raw ew → (!needT a || isTup tg) = true → chkI nm cn N sc a e = true → PI X tg e (tG ew (rI A) (evI (callN tab k) a))
theorem no_post {α β : Type} {rl : Rl A α β} {σ : L2.St} {H : Hp} {Q : β → Hp → Prop} {g : Sl → OH → R α} (t : tG ew rl g σ H Q) (e : ∀ s h, g s h = .no) : False := by
  obtain ⟨m, hp, s, _, rh, rs, _, p⟩ := t
  have p : Post ew rl m H (g s hp) Q := p
  rw [e] at p
  exact p
/-- no run at all: any reading does -/
theorem PT.none {e : Expr} {g : Sl → OH → R Bool} (h : ∀ s h, g s h = .no) : PT X e (tG ew (rE A Bool) g) := ⟨fun _ _ _ _ _ _ t => (no_post t h).elim⟩
theorem PE.none {e : Expr} {g : Sl → OH → R W} (h : ∀ s h, g s h = .no) : PE X e (tG ew (rW A) g) := ⟨fun _ _ _ _ _ _ t => (no_post t h).elim⟩
/-- a run whose value is a truth value, as a test -/
theorem asB_ok {m : List Addr} {h : OH} {H : Hp} {w : W} {x : V} {Q : Bool → Hp → Prop} (rh : RelH A m h H) (r : Rep A m H w x) (p : Post ew (rE A Bool) m H (asB w h) Q) : ∃ c, x = .bl c ∧ Q c H := by
  cases r with
  | bl b => exact ⟨b, rfl, p m b H (Grow.refl _ _) rh rfl⟩
  | _ => exact p.elim
theorem asT_ok (hK : X.K = A.K) {m : List Addr} {h : OH} {H : Hp} {w : W} {x : V} {Q : Bool → Hp → Prop} (rh : RelH A m h H) (r : Rep A m H w x) (p : Post ew (rE A Bool) m H (asT w h) Q) : ∃ c, TruV X.K x H c ∧ Q c H := by
  unfold asT at p
  split at p
  · rename_i b e
    exact ⟨b, by rw [hK]; exact tru_rep rh e r, p m b H (Grow.refl _ _) rh rfl⟩
  · exact p.elim
theorem tG_toB {g : Sl → OH → R W} {σ : L2.St} {H : Hp} {Q : Bool → Hp → Prop} (t : tG ew (rE A Bool) (fun s h => (g s h).bind asB) σ H Q) : tG ew (rW A) g σ H (fun x H1 => ∃ c, x = .bl c ∧ Q c H1) := by
  refine (tA.stepF (rW A) g (fun p _ h => asB p.2 h) t).mono fun x H1 t1 => ?_
  obtain ⟨m, h, s, a, rh, rs, ⟨_, ra⟩, p⟩ := t1
  exact asB_ok rh ra p
theorem tG_toB2 (hK : X.K = A.K) {g : Sl → OH → R W} {σ : L2.St} {H : Hp} {Q : Bool → Hp → Prop} (t : tG ew (rE A Bool) (fun s h => (g s h).bind asT) σ H Q) : tG ew (rW A) g σ H (fun x H1 => ∃ c, TruV X.K x H1 c ∧ Q c H1) := by
  refine (tA.stepF (rW A) g (fun p _ h => asT p.2 h) t).mono fun x H1 t1 => ?_
  obtain ⟨m, h, s, a, rh, rs, ⟨_, ra⟩, p⟩ := t1
  exact asT_ok hK rh ra p
/-- the value's truth, where the machine just asks for it -/
theorem pt_of {e : Expr} {g : Sl → OH → R W} (hK : X.K = A.K) (h : PE X e (tG ew (rW A) g)) (he : ∀ whole, isTrue e X.env whole = (do let v ← whole; standAt e.pos; holding [v] (truthy v))) : PT X e (tG ew (rE A Bool) fun s h => (g s h).bind asT) :=
  PT.weak (pt_truth h he) fun σ H Q t => tG_toB2 hK t
end
end Wm
end

section
set_option Elab.async false
set_option linter.all false
set_option maxRecDepth 100000
set_option maxHeartbeats 4000000
set_option autoImplicit false
namespace Wm
open PySem PySem.Spec PyProof.Rows L2

section
variable {A : At} {tab : List Fn} {nm : List Str} {cn : List (Str × W)} {N : List Str} {k : Nat} {X : Cx} {sc raw : Scope} {ew : XK}
/-! the steps of a reading that are common -/
theorem two {α β : Type} {ga gb : Sl → OH → R W} {f : W → W → OH → R W} {σ : L2.St} {H : Hp} {Q : VK} (t : tG ew (rW A) (fun s h => (ga s h).bind fun x h1 => (gb s h1).bind fun y h2 => f x y h2) σ H Q) :
    tG ew (rW A) ga σ H (fun x H1 => tG ew (rW A) gb σ H1 (fun y H2 => o2 A ew f x y H2 Q)) :=
  (tA.stepF (ρ := rNo A) (rW A) ga (fun p s h => (gb s h).bind fun y h2 => f p.2 y h2) t).mono fun x H1 t1 =>
    (tA.stepF (ρ := rP A (rNo A) (rW A)) (rW A) gb (fun p _ h => f p.1.2 p.2 h) t1).mono fun y H2 ⟨m, h, s, a, rh, rs, ⟨⟨_, r1⟩, r2⟩, p⟩ => ⟨m, h, a.1.2, a.2, rh, r1, r2, p⟩
theorem one {ga : Sl → OH → R W} {f : W → OH → R W} {σ : L2.St} {H : Hp} {Q : VK} (t : tG ew (rW A) (fun s h => (ga s h).bind fun x h1 => f x h1) σ H Q) :
    tG ew (rW A) ga σ H (fun x H1 => c1v A ew f x H1 Q) :=
  (tA.stepF (ρ := rNo A) (rW A) ga (fun p _ h => f p.2 h) t).mono fun x H1 ⟨m, h, s, a, rh, rs, ⟨_, r1⟩, p⟩ => ⟨m, h, a.2, rh, r1, p⟩
theorem many {ga : Sl → OH → R (List W)} {f : List W → OH → R W} {σ : L2.St} {H : Hp} {Q : VK} (t : tG ew (rW A) (fun s h => (ga s h).bind fun x h1 => f x h1) σ H Q) :
    tG ew (rWs A) ga σ H (fun xs H1 => c1 A ew f xs H1 Q) :=
  (tA.stepF (ρ := rNo A) (rWs A) ga (fun p _ h => f p.2 h) t).mono fun x H1 ⟨m, h, s, a, rh, rs, ⟨_, r1⟩, p⟩ => ⟨m, h, a.2, rh, r1, p⟩
/-- an if by a test -/
theorem byTest {γ δ : Type} {rl : Rl A γ δ} {gt : Sl → OH → R Bool} {g1 g2 : Sl → OH → R γ} {σ : L2.St} {H : Hp} {Q : δ → Hp → Prop} (t : tG ew rl (fun s h => (gt s h).bind fun k h1 => if k = true then g1 s h1 else g2 s h1) σ H Q) :
    tG ew (rE A Bool) gt σ H (fun c H1 => if c = true then tG ew rl g1 σ H1 Q else tG ew rl g2 σ H1 Q) :=
  (tA.stepF (ρ := rNo A) (rE A Bool) gt (fun p s h => if p.2 = true then g1 s h else g2 s h) t).mono fun c H1 ⟨m, h, s, a, rh, rs, ⟨_, r1⟩, p⟩ => by
    have r1 : a.2 = c := r1
    have p : Post ew rl m H1 (if a.2 = true then g1 s h else g2 s h) Q := p
    rw [r1] at p
    cases c with
    | true => exact ⟨m, h, s, (), rh, rs, trivial, p⟩
    | false => exact ⟨m, h, s, (), rh, rs, trivial, p⟩
theorem tG_ok {γ δ : Type} {rl : Rl A γ δ} {a : γ} {b : δ} {σ : L2.St} {H : Hp} {Q : δ → Hp → Prop} (t : tG ew rl (fun _ h => .ok a h) σ H Q) (r : ∀ m H, rl.r m H a b) : Q b H := by
  obtain ⟨m, h, s, _, rh, rs, _, p⟩ := t
  exact p m b H (Grow.refl _ _) rh (r m H)
theorem snd_bin {o : Bop} {a b : E} (ha : Snd A tab nm cn N k a) (hb : Snd A tab nm cn N k b) (X : Cx) (sc raw : Scope) (ew : XK) (e : Expr) (C : Ctx A tab nm cn N k X sc raw ew) (h : chkE nm cn N sc (.bin o a b) e = true) : PE X e (tG ew (rW A) (ev (callN tab k) (.bin o a b))) := by
  simp only [chkE] at h
  split at h
  · rename_i l op r p
    simp only [Bool.and_eq_true, decide_eq_true_eq] at h
    exact PE.weak (pe_op (bin_ok C.toCalm op o h.1.1) (ha.fe X sc raw ew l C h.1.2) (hb.fe X sc raw ew r C h.2)) fun σ H Q t => two (α := Unit) (β := Unit) t
  · cases h
theorem snd_neg {a : E} (ha : Snd A tab nm cn N k a) (X : Cx) (sc raw : Scope) (ew : XK) (e : Expr) (C : Ctx A tab nm cn N k X sc raw ew) (h : chkE nm cn N sc (.neg a) e = true) : PE X e (tG ew (rW A) (ev (callN tab k) (.neg a))) := by
  simp only [chkE] at h
  split at h
  · rename_i x p
    refine PE.weak (pe_un un_neg (ha.fe X sc raw ew x C h)) fun σ H Q t => (one t).mono fun v H1 ⟨m, hp, w, rh, r, p⟩ => ?_
    cases r with
    | int i => exact ⟨i, rfl, p.now rh (.int _)⟩
    | _ => exact p.elim
  · cases h
theorem notSet_marks {op : CmpOp} {e : Expr} (h : notSet e = true) : behindInMarks op e = false := by
  cases e <;> first | rfl | cases h
theorem notSet_fold {e : Expr} (h : notSet e = true) (env : Env) (x : Value) : foldedSetIterable e env x = pure x := by
  cases e <;> first | rfl | cases h
theorem snd_cmp {o : Cop} {a b : E} (ha : Snd A tab nm cn N k a) (hb : Snd A tab nm cn N k b) (X : Cx) (sc raw : Scope) (ew : XK) (e : Expr) (C : Ctx A tab nm cn N k X sc raw ew) (h : chkE nm cn N sc (.cmp o a b) e = true) :
    PE X e (tG ew (rW A) (ev (callN tab k) (.cmp o a b))) ∧ PT X e (tG ew (rE A Bool) (evT (callN tab k) (.cmp o a b))) := by
  simp only [chkE] at h
  split at h
  · rename_i l op r p
    simp only [Bool.and_eq_true, decide_eq_true_eq] at h
    obtain ⟨⟨⟨rfl, hs⟩, h1⟩, h2⟩ := h
    refine ⟨PE.weak (pe_cmpR (cmp_ok C.toCalm o) (ha.fe X sc raw ew l C h1) (hb.fe X sc raw ew r C h2) (notSet_marks hs)) fun σ H Q t => two (α := Unit) (β := Unit) t, ?_⟩
    refine PT.weak (pt_cmpR (r := o2 A ew (cmpW o)) (cmp_ok C.toCalm o) (ha.fe X sc raw ew l C h1) (hb.fe X sc raw ew r C h2) (notSet_marks hs)) fun σ H Q t => ?_
    refine (tA.stepF (ρ := rNo A) (rW A) (ev (callN tab k) a) (fun p s h => (ev (callN tab k) b s h).bind fun y h2 => (cmpW o p.2 y h2).bind asB) t).mono fun x H1 t1 => ?_
    refine (tA.stepF (ρ := rP A (rNo A) (rW A)) (rW A) (ev (callN tab k) b) (fun p _ h => (cmpW o p.1.2 p.2 h).bind asB) t1).mono fun y H2 ⟨m, hp, s, a, rh, rs, ⟨⟨_, r1⟩, r2⟩, p⟩ => ?_
    refine ⟨m, hp, a.1.2, a.2, rh, r1, r2, ?_⟩
    have p : Post ew (rE A Bool) m H2 ((cmpW o a.1.2 a.2 hp).bind asB) Q := p
    revert p
    cases cmpW o a.1.2 a.2 hp with
    | ok w h1 => exact fun p m' b H' g r q => asB_ok r q (Post.from g p)
    | exc c fs h1 => exact fun p => p
    | no => exact fun p => p
  · cases h
theorem marks2 {o p : CmpOp} {b c : Expr} (h : notSet c = true) : lastMarks [o, p] [b, c] = false := by
  show behindInMarks p c = false
  exact notSet_marks h
theorem snd_chain {o p : Cop} {a b c : E} (ha : Snd A tab nm cn N k a) (hb : Snd A tab nm cn N k b) (hc : Snd A tab nm cn N k c) (X : Cx) (sc raw : Scope) (ew : XK) (e : Expr) (C : Ctx A tab nm cn N k X sc raw ew) (h : chkE nm cn N sc (.chain o p a b c) e = true) :
    PE X e (tG ew (rW A) (ev (callN tab k) (.chain o p a b c))) ∧ PT X e (tG ew (rE A Bool) (evT (callN tab k) (.chain o p a b c))) := by
  simp only [chkE] at h
  split at h
  · rename_i l o1 o2' r1 r2 pp
    simp only [Bool.and_eq_true, decide_eq_true_eq] at h
    obtain ⟨⟨⟨⟨⟨rfl, rfl⟩, hs⟩, h1⟩, h2⟩, h3⟩ := h
    refine ⟨PE.weak (pe_chain (r := o2 A ew (cmpW o)) (r' := o2 A ew (cmpW p)) (cmp_ok C.toCalm o) (cmp_ok C.toCalm p) (ha.fe X sc raw ew l C h1) (hb.fe X sc raw ew r1 C h2) (hc.fe X sc raw ew r2 C h3) (marks2 hs)) fun σ H Q t => ?_,
      PT.weak (pt_chain (r := o2 A ew (cmpW o)) (r' := o2 A ew (cmpW p)) (cmp_ok C.toCalm o) (cmp_ok C.toCalm p) (ha.fe X sc raw ew l C h1) (hb.fe X sc raw ew r1 C h2) (hc.fe X sc raw ew r2 C h3) (marks2 hs)) fun σ H Q t => ?_⟩
    · refine (tA.stepF (ρ := rNo A) (rW A) (ev (callN tab k) a) (fun q s h => (ev (callN tab k) b s h).bind fun y h2 => (cmpW o q.2 y h2).bind fun z h3 => (asB z h3).bind fun kk h4 => if kk = true then (ev (callN tab k) c s h4).bind fun u h5 => cmpW p y u h5 else .ok (.bl false) h4) t).mono fun x H1 t1 => ?_
      refine (tA.stepF (ρ := rP A (rNo A) (rW A)) (rW A) (ev (callN tab k) b) (fun q s h => (cmpW o q.1.2 q.2 h).bind fun z h3 => (asB z h3).bind fun kk h4 => if kk = true then (ev (callN tab k) c s h4).bind fun u h5 => cmpW p q.2 u h5 else .ok (.bl false) h4) t1).mono fun y H2 ⟨m, hp, s, a, rh, rs, ⟨⟨_, q1⟩, q2⟩, pz⟩ => ?_
      refine ⟨m, hp, a.1.2, a.2, rh, q1, q2, ?_⟩
      have pz : Post ew (rW A) m H2 ((cmpW o a.1.2 a.2 hp).bind fun z h3 => (asB z h3).bind fun kk h4 => if kk = true then (ev (callN tab k) c s h4).bind fun u h5 => cmpW p a.2 u h5 else .ok (.bl false) h4) Q := pz
      revert pz
      cases cmpW o a.1.2 a.2 hp with
      | ok w h3 =>
        intro pz m' b' H' g r q
        have pz := Post.from g pz
        cases q with
        | bl kk =>
          refine ⟨kk, rfl, ?_⟩
          cases kk with
          | true =>
            have t2 : tA ew (rP A (rNo A) (rW A)) (rW A) (fun q s h => (ev (callN tab k) c s h).bind fun u h5 => cmpW p q.2 u h5) ((), y) σ H' Q := ⟨m', h3, s, ((), a.2), r, rs.grow rh g, ⟨trivial, q2.grow rh g⟩, pz⟩
            exact (tA.stepF (ρ := rP A (rNo A) (rW A)) (rW A) (ev (callN tab k) c) (fun q _ h => cmpW p q.1.2 q.2 h) t2).mono fun z H3 ⟨m3, h4, s3, a3, rh3, rs3, ⟨⟨_, z1⟩, z2⟩, p3⟩ => ⟨m3, h4, a3.1.2, a3.2, rh3, z1, z2, p3⟩
          | false => exact Post.now pz r (.bl false)
        | _ => exact pz.elim
      | exc c fs h1 => exact fun p => p
      | no => exact fun p => p
    · refine (tA.stepF (ρ := rNo A) (rW A) (ev (callN tab k) a) (fun q s h => (ev (callN tab k) b s h).bind fun y h2 => (cmpW o q.2 y h2).bind fun z h3 => (asB z h3).bind fun kk h4 => if kk = true then (ev (callN tab k) c s h4).bind fun u h5 => (cmpW p y u h5).bind asB else .ok false h4) t).mono fun x H1 t1 => ?_
      refine (tA.stepF (ρ := rP A (rNo A) (rW A)) (rW A) (ev (callN tab k) b) (fun q s h => (cmpW o q.1.2 q.2 h).bind fun z h3 => (asB z h3).bind fun kk h4 => if kk = true then (ev (callN tab k) c s h4).bind fun u h5 => (cmpW p q.2 u h5).bind asB else .ok false h4) t1).mono fun y H2 ⟨m, hp, s, a, rh, rs, ⟨⟨_, q1⟩, q2⟩, pz⟩ => ?_
      refine ⟨m, hp, a.1.2, a.2, rh, q1, q2, ?_⟩
      have pz : Post ew (rE A Bool) m H2 ((cmpW o a.1.2 a.2 hp).bind fun z h3 => (asB z h3).bind fun kk h4 => if kk = true then (ev (callN tab k) c s h4).bind fun u h5 => (cmpW p a.2 u h5).bind asB else .ok false h4) Q := pz
      revert pz
      cases cmpW o a.1.2 a.2 hp with
      | ok w h3 =>
        intro pz m' b' H' g r q
        have pz := Post.from g pz
        cases q with
        | bl kk =>
          refine ⟨kk, rfl, ?_⟩
          cases kk with
          | true =>
            have t2 : tA ew (rP A (rNo A) (rW A)) (rE A Bool) (fun q s h => (ev (callN tab k) c s h).bind fun u h5 => (cmpW p q.2 u h5).bind asB) ((), y) σ H' Q := ⟨m', h3, s, ((), a.2), r, rs.grow rh g, ⟨trivial, q2.grow rh g⟩, pz⟩
            refine (tA.stepF (ρ := rP A (rNo A) (rW A)) (rW A) (ev (callN tab k) c) (fun q _ h => (cmpW p q.1.2 q.2 h).bind asB) t2).mono fun z H3 ⟨m3, h4, s3, a3, rh3, rs3, ⟨⟨_, z1⟩, z2⟩, p3⟩ => ?_
            refine ⟨m3, h4, a3.1.2, a3.2, rh3, z1, z2, ?_⟩
            have p3 : Post ew (rE A Bool) m3 H3 ((cmpW p a3.1.2 a3.2 h4).bind asB) Q := p3
            revert p3
            cases cmpW p a3.1.2 a3.2 h4 with
            | ok w h1 => exact fun p m' b H' g r q => asB_ok r q (Post.from g p)
            | exc c fs h1 => exact fun p => p
            | no => exact fun p => p
          | false => exact ⟨false, rfl, pz m' false H' (Grow.refl _ _) r rfl⟩
        | _ => exact pz.elim
      | exc c fs h1 => exact fun p => p
      | no => exact fun p => p
  · cases h
end
end Wm
end

section
set_option Elab.async false
set_option linter.all false
set_option maxRecDepth 100000
set_option maxHeartbeats 4000000
set_option autoImplicit false
namespace Wm
open PySem PySem.Spec PyProof.Rows L2

section
variable {A : At} {tab : List Fn} {nm : List Str} {cn : List (Str × W)} {N : List Str} {k : Nat} {X : Cx} {sc raw : Scope} {ew : XK}
theorem asT_eq {w : W} {h : OH} {b : Bool} (e : truW h w = some b) : asT w h = .ok b h := by
  unfold asT
  rw [e]
theorem asT_no {w : W} {h : OH} (e : truW h w = none) : asT w h = .no := by
  unfold asT
  rw [e]
/-- behind a truth: the value is at hand -/
theorem byTruth (hK : X.K = A.K) {γ δ : Type} {rl : Rl A γ δ} {ga : Sl → OH → R W} {g : W → Bool → Sl → OH → R γ} {σ : L2.St} {H : Hp} {Q : δ → Hp → Prop} (t : tG ew rl (fun s h => (ga s h).bind fun x h1 => (asT x h1).bind fun k h2 => g x k s h2) σ H Q) :
    tG ew (rW A) ga σ H (fun x H1 => ∃ c, TruV X.K x H1 c ∧ ∃ (m : List Addr) (h : OH) (s : Sl) (w : W), RelH A m h H1 ∧ RelS A m H1 s σ ∧ Rep A m H1 w x ∧ Post ew rl m H1 (g w c s h) Q) := by
  refine (tA.stepF (ρ := rNo A) (rW A) ga (fun p s h => (asT p.2 h).bind fun k h2 => g p.2 k s h2) t).mono fun x H1 ⟨m, h, s, a, rh, rs, ⟨_, r1⟩, p⟩ => ?_
  have p : Post ew rl m H1 ((asT a.2 h).bind fun k h2 => g a.2 k s h2) Q := p
  cases e : truW h a.2 with
  | none => rw [asT_no e] at p; exact p.elim
  | some b =>
    rw [asT_eq e] at p
    exact ⟨b, by rw [hK]; exact tru_rep rh e r1, m, h, s, a.2, rh, rs, r1, p⟩
theorem pw_any {op : BoolOp} {es : List Expr} {p : Pos} {t : TT} (h : PT X (.BoolOp op es p) t) : PW X (.BoolOp op es p) t := by
  refine ⟨fun whole pins s σ H Q I q => ?_⟩
  have z := h.run pins s σ H Q I q
  rw [arm_isTrue_BoolOp] at z ⊢
  exact z
theorem snd_and {a b : E} (ha : Snd A tab nm cn N k a) (hb : Snd A tab nm cn N k b) (X : Cx) (sc raw : Scope) (ew : XK) (e : Expr) (C : Ctx A tab nm cn N k X sc raw ew) (h : chkE nm cn N sc (.and a b) e = true) :
    PE X e (tG ew (rW A) (ev (callN tab k) (.and a b))) ∧ PT X e (tG ew (rE A Bool) (evT (callN tab k) (.and a b))) := by
  have fe : ∀ {x : Expr} {y : Expr} {r : List Expr} {p : Pos}, PE X x (tG ew (rW A) (ev (callN tab k) a)) → PE X (.BoolOp .And (y :: r) p) (tG ew (rW A) (ev (callN tab k) b)) → PE X (.BoolOp .And (x :: y :: r) p) (tG ew (rW A) (ev (callN tab k) (.and a b))) := by
    intro x y r p h1 h2
    refine PE.weak (pe_andT h1 h2) fun σ H Q t => ?_
    refine (byTruth (X := X) C.K (ga := ev (callN tab k) a) (g := fun x kk s h2 => if kk = true then ev (callN tab k) b s h2 else .ok x h2) t).mono fun x H1 ⟨c, hc, m, hp, s, w, rh, rs, r1, p⟩ => ⟨c, hc, ?_⟩
    cases c with
    | true => exact ⟨m, hp, s, (), rh, rs, trivial, p⟩
    | false => exact Post.now p rh r1
  have ft : ∀ {x : Expr} {y : Expr} {r : List Expr} {p : Pos}, PT X x (tG ew (rE A Bool) (evT (callN tab k) a)) → PW X (.BoolOp .And (y :: r) p) (tG ew (rE A Bool) (evT (callN tab k) b)) → PT X (.BoolOp .And (x :: y :: r) p) (tG ew (rE A Bool) (evT (callN tab k) (.and a b))) := by
    intro x y r p h1 h2
    refine PT.weak (PW.pt (pw_and h1 h2)) fun σ H Q t => ?_
    refine (byTest (gt := evT (callN tab k) a) (g1 := evT (callN tab k) b) (g2 := fun _ h => .ok false h) t).mono fun c H1 q => ?_
    cases c with
    | true => exact q
    | false => exact tG_ok q fun _ _ => rfl
  simp only [chkE] at h
  split at h
  · rename_i x y p
    simp only [Bool.and_eq_true] at h
    exact ⟨fe (ha.fe X sc raw ew x C h.1) (pe_one (hb.fe X sc raw ew y C h.2)), ft (ha.ft X sc raw ew x C h.1) (pw_and1 (hb.ft X sc raw ew y C h.2))⟩
  · rename_i x y z r p
    simp only [Bool.and_eq_true] at h
    exact ⟨fe (ha.fe X sc raw ew x C h.1) (hb.fe X sc raw ew _ C h.2), ft (ha.ft X sc raw ew x C h.1) (pw_any (hb.ft X sc raw ew _ C h.2))⟩
  · cases h
theorem snd_or {a b : E} (ha : Snd A tab nm cn N k a) (hb : Snd A tab nm cn N k b) (X : Cx) (sc raw : Scope) (ew : XK) (e : Expr) (C : Ctx A tab nm cn N k X sc raw ew) (h : chkE nm cn N sc (.or a b) e = true) :
    PE X e (tG ew (rW A) (ev (callN tab k) (.or a b))) ∧ PT X e (tG ew (rE A Bool) (evT (callN tab k) (.or a b))) := by
  have fe : ∀ {x : Expr} {y : Expr} {r : List Expr} {p : Pos}, PE X x (tG ew (rW A) (ev (callN tab k) a)) → PE X (.BoolOp .Or (y :: r) p) (tG ew (rW A) (ev (callN tab k) b)) → PE X (.BoolOp .Or (x :: y :: r) p) (tG ew (rW A) (ev (callN tab k) (.or a b))) := by
    intro x y r p h1 h2
    refine PE.weak (pe_orT h1 h2) fun σ H Q t => ?_
    refine (byTruth (X := X) C.K (ga := ev (callN tab k) a) (g := fun x kk s h2 => if kk = true then .ok x h2 else ev (callN tab k) b s h2) t).mono fun x H1 ⟨c, hc, m, hp, s, w, rh, rs, r1, p⟩ => ⟨c, hc, ?_⟩
    cases c with
    | true => exact Post.now p rh r1
    | false => exact ⟨m, hp, s, (), rh, rs, trivial, p⟩
  have ft : ∀ {x : Expr} {y : Expr} {r : List Expr} {p : Pos}, PT X x (tG ew (rE A Bool) (evT (callN tab k) a)) → PW X (.BoolOp .Or (y :: r) p) (tG ew (rE A Bool) (evT (callN tab k) b)) → PT X (.BoolOp .Or (x :: y :: r) p) (tG ew (rE A Bool) (evT (callN tab k) (.or a b))) := by
    intro x y r p h1 h2
    refine PT.weak (PW.pt (pw_or h1 h2)) fun σ H Q t => ?_
    refine (byTest (gt := evT (callN tab k) a) (g1 := fun _ h => .ok true h) (g2 := evT (callN tab k) b) t).mono fun c H1 q => ?_
    cases c with
    | true => exact tG_ok q fun _ _ => rfl
    | false => exact q
  simp only [chkE] at h
  split at h
  · rename_i x y p
    simp only [Bool.and_eq_true] at h
    exact ⟨fe (ha.fe X sc raw ew x C h.1) (pe_one (hb.fe X sc raw ew y C h.2)), ft (ha.ft X sc raw ew x C h.1) (pw_or1 (hb.ft X sc raw ew y C h.2))⟩
  · rename_i x y z r p
    simp only [Bool.and_eq_true] at h
    exact ⟨fe (ha.fe X sc raw ew x C h.1) (hb.fe X sc raw ew _ C h.2), ft (ha.ft X sc raw ew x C h.1) (pw_any (hb.ft X sc raw ew _ C h.2))⟩
  · cases h
theorem snd_not {a : E} (ha : Snd A tab nm cn N k a) (X : Cx) (sc raw : Scope) (ew : XK) (e : Expr) (C : Ctx A tab nm cn N k X sc raw ew) (h : chkE nm cn N sc (.not a) e = true) :
    PE X e (tG ew (rW A) (ev (callN tab k) (.not a))) ∧ PT X e (tG ew (rE A Bool) (evT (callN tab k) (.not a))) := by
  simp only [chkE] at h
  split at h
  · rename_i x p
    refine ⟨PE.weak (pe_notT (ha.fe X sc raw ew x C h)) fun σ H Q t => ?_, PT.weak (pt_not (ha.ft X sc raw ew x C h)) fun σ H Q t => ?_⟩
    · refine (byTruth (X := X) C.K (ga := ev (callN tab k) a) (g := fun x k s h2 => .ok (.bl (!k)) h2) t).mono fun x H1 ⟨c, hc, m, hp, s, w, rh, rs, r1, p⟩ => ⟨c, hc, Post.now p rh (.bl _)⟩
    · exact (tA.stepF (ρ := rNo A) (rE A Bool) (evT (callN tab k) a) (fun p _ h => .ok (!p.2) h) t).mono fun c H1 ⟨m, hp, s, a, rh, rs, ⟨_, r1⟩, p⟩ => p m _ H1 (Grow.refl _ _) rh (by rw [show a.2 = c from r1]; rfl)
  · cases h
theorem snd_ite {c a b : E} (hc : Snd A tab nm cn N k c) (ha : Snd A tab nm cn N k a) (hb : Snd A tab nm cn N k b) (X : Cx) (sc raw : Scope) (ew : XK) (e : Expr) (C : Ctx A tab nm cn N k X sc raw ew) (h : chkE nm cn N sc (.ite c a b) e = true) :
    PE X e (tG ew (rW A) (ev (callN tab k) (.ite c a b))) := by
  simp only [chkE] at h
  split at h
  · rename_i z x y p
    simp only [Bool.and_eq_true] at h
    exact PE.weak (pe_ifExp (hc.ft X sc raw ew z C h.1.1) (ha.fe X sc raw ew x C h.1.2) (hb.fe X sc raw ew y C h.2)) fun σ H Q t => byTest t
  · cases h
end
end Wm
end

section
set_option Elab.async false
set_option linter.all false
set_option maxRecDepth 100000
set_option maxHeartbeats 4000000
set_option autoImplicit false
namespace Wm
open PySem PySem.Spec PyProof.Rows L2

/-! ### targets -/
def lenT : T → Nat
  | .cons _ r => lenT r + 1
  | _ => 0
mutual
def gT (K : PySem.W.Frag) : T → TG
  | .nm i => gName i
  | .nil => gTup K 0 gNil
  | .cons a r => gTup K (lenT r + 1) (gCons (gT K a) (gTs K r))
def gTs (K : PySem.W.Frag) : T → TGs
  | .nm _ => fun _ _ _ _ => False
  | .nil => gNil
  | .cons a r => gCons (gT K a) (gTs K r)
end
section
variable {A : At} {tab : List Fn} {nm : List Str} {cn : List (Str × W)} {N : List Str} {k : Nat} {X : Cx} {sc raw : Scope} {ew : XK} {m : List Addr} {h : OH} {H : Hp}
theorem getS_get : ∀ (s : Sl) (i : Nat) (w : W), getS s i = some w → s[i]? = some (some w)
  | [], _, _, e => by cases e
  | x :: _, 0, w, e => by
    simp only [getS] at e
    simp [e]
  | _ :: r, i + 1, w, e => by simpa using getS_get r i w e
theorem getS_of : ∀ (s : Sl) (i : Nat) (w : W), s[i]? = some (some w) → getS s i = some w
  | [], _, _, e => by simp at e
  | x :: _, 0, w, e => by simp at e; simp [getS, e]
  | _ :: r, i + 1, w, e => getS_of r i w (by simpa using e)
theorem setS_eq : ∀ (s : Sl) (i : Nat) (o : Option W), setS s i o = s.set i o
  | [], _, _ => rfl
  | _ :: _, 0, _ => rfl
  | x :: r, i + 1, o => by simp [setS, setS_eq r i o]
theorem RelS.set {s : Sl} {σ : L2.St} {i : Nat} {w : W} {v : V} (q : RelS A m H s σ) (r : Rep A m H w v) : RelS A m H (setS s i (some w)) (σ.set i (some v)) := by
  rw [setS_eq]
  refine ⟨by simp [q.len], fun j u e => ?_⟩
  have e := getS_get _ _ _ e
  by_cases hj : j = i
  · subst hj
    have hl : j < s.length := by
      have := (List.getElem?_eq_some_iff.mp e).1
      simpa using this
    rw [List.getElem?_set_self hl] at e
    cases e
    rw [List.getElem?_set_self (by rw [← q.len]; exact hl)]
    exact ⟨v, rfl, r⟩
  · rw [List.getElem?_set_ne (Ne.symm hj)] at e
    rw [List.getElem?_set_ne (Ne.symm hj)]
    exact q.at_ j u (getS_of _ _ _ e)
theorem RelS.none {s : Sl} {σ : L2.St} {i : Nat} (q : RelS A m H s σ) : RelS A m H (setS s i Option.none) (σ.set i Option.none) := by
  rw [setS_eq]
  refine ⟨by simp [q.len], fun j u e => ?_⟩
  have e := getS_get _ _ _ e
  by_cases hj : j = i
  · subst hj
    have hl : j < s.length := by
      have := (List.getElem?_eq_some_iff.mp e).1
      simpa using this
    rw [List.getElem?_set_self hl] at e
    cases e
  · rw [List.getElem?_set_ne (Ne.symm hj)] at e
    rw [List.getElem?_set_ne (Ne.symm hj)]
    exact q.at_ j u (getS_of _ _ _ e)
theorem RelS.wipe {s : Sl} {σ : L2.St} (q : RelS A m H s σ) : ∀ own : List Nat, RelS A m H (wipeS s own) (L2.wipe σ own)
  | [] => q
  | _ :: r => (RelS.wipe q r).none
/-- two slot lists that are one but at some places -/
def Off (is : List Nat) (σ σ' : L2.St) : Prop := σ'.length = σ.length ∧ ∀ j, j ∉ is → σ'[j]? = σ[j]?
theorem wipe_at (τ : L2.St) (vs : List Nat) (j : Nat) : (L2.wipe τ vs)[j]? = if j ∈ vs then (if j < τ.length then some Option.none else Option.none) else τ[j]? := by
  have len : ∀ (τ : L2.St) (vs : List Nat), (L2.wipe τ vs).length = τ.length := fun τ vs => L2.wipe_length τ vs
  induction vs with
  | nil => simp [L2.wipe]
  | cons v vs ih =>
    simp only [L2.wipe]
    by_cases e : j = v
    · subst e
      by_cases hl : j < τ.length
      · rw [List.getElem?_set_self (by rw [len]; exact hl)]
        simp [hl]
      · have : ((L2.wipe τ vs).set j Option.none)[j]? = Option.none := List.getElem?_eq_none_iff.mpr (by rw [List.length_set, len]; omega)
        rw [this]
        simp [hl]
    · rw [List.getElem?_set_ne (Ne.symm e), ih]
      simp [e]
theorem wipe_wipe (τ : L2.St) (vs : List Nat) : L2.wipe (L2.wipe τ vs) vs = L2.wipe τ vs := by
  apply List.ext_getElem?
  intro j
  rw [wipe_at, wipe_at, L2.wipe_length]
  by_cases e : j ∈ vs
  · rw [if_pos e, if_pos e]
  · rw [if_neg e, if_neg e]
theorem Off.wipe {is own : List Nat} {σ σ' : L2.St} (h : Off is σ σ') (sub : ∀ i ∈ is, i ∈ own) : L2.wipe σ' own = L2.wipe σ own := by
  apply List.ext_getElem?
  intro j
  rw [wipe_at, wipe_at, h.1]
  by_cases e : j ∈ own
  · rw [if_pos e, if_pos e]
  · rw [if_neg e, if_neg e]
    exact h.2 j fun z => e (sub j z)
def isL : T → Bool
  | .nm _ => false
  | _ => true
def okT : T → Bool
  | .cons a r => okT a && isL r && okT r
  | _ => true
theorem lenT_of : ∀ {t : T} {ws : List W} {s s' : Sl}, okT t = true → isL t = true → asgT t (.tup ws) s = some s' → ws.length = lenT t
  | .nm i, _, _, _, _, z, _ => by cases z
  | .nil, ws, s, s', _, _, e => by
    cases ws with
    | nil => rfl
    | cons x xs => cases e
  | .cons a r, ws, s, s', o, _, e => by
    cases ws with
    | nil => cases e
    | cons x xs =>
      simp only [okT, Bool.and_eq_true] at o
      simp only [asgT] at e
      split at e
      · rename_i s1 _
        rw [List.length_cons, lenT_of o.2 o.1.2 e]
        rfl
      · cases e
theorem off_trans {is js : List Nat} {σ σ1 σ2 : L2.St} (a : Off is σ σ1) (b : Off js σ1 σ2) : Off (is ++ js) σ σ2 :=
  ⟨b.1.trans a.1, fun j hj => (b.2 j fun z => hj (List.mem_append_right _ z)).trans (a.2 j fun z => hj (List.mem_append_left _ z))⟩
mutual
theorem gT_ok {K : PySem.W.Frag} (hK : A.K = K) : ∀ (t : T) (w : W) (v : V) (s s' : Sl) (σ : L2.St) (Q : L2.St → Hp → Prop), okT t = true → asgT t w s = some s' → Rep A m H w v → RelS A m H s σ →
    (∀ σ', Off (slotsT t) σ σ' → RelS A m H s' σ' → Q σ' H) → gT K t v σ H Q
  | .nm i, w, v, s, s', σ, Q, _, e, r, q, z => by
    cases e
    exact z _ ⟨by simp, fun j hj => List.getElem?_set_ne (fun e => hj (by simp [slotsT, e]))⟩ (q.set r)
  | .nil, w, v, s, s', σ, Q, _, e, r, q, z => by
    cases w with
    | tup ws =>
      cases ws with
      | nil =>
        cases e
        obtain ⟨a, vs, rfl, sq, kk⟩ := rep_tup r
        cases kk
        exact ⟨a, [], rfl, by rw [← hK]; exact sq, rfl, rfl, z σ ⟨rfl, fun _ _ => rfl⟩ q⟩
      | cons _ _ => cases e
    | _ => cases e
  | .cons a r, w, v, s, s', σ, Q, o, e, rr, q, z => by
    cases w with
    | tup ws =>
      have hl := lenT_of o rfl e
      obtain ⟨p, vs, rfl, sq, kk⟩ := rep_tup rr
      refine ⟨p, vs, rfl, by rw [← hK]; exact sq, by rw [← kk.length, hl]; rfl, ?_⟩
      exact gTs_ok hK (.cons a r) ws vs s s' σ Q o rfl e kk q z
    | _ => cases e
theorem gTs_ok {K : PySem.W.Frag} (hK : A.K = K) : ∀ (t : T) (ws : List W) (vs : List V) (s s' : Sl) (σ : L2.St) (Q : L2.St → Hp → Prop), okT t = true → isL t = true → asgT t (.tup ws) s = some s' → Reps A m H ws vs → RelS A m H s σ →
    (∀ σ', Off (slotsT t) σ σ' → RelS A m H s' σ' → Q σ' H) → gTs K t vs σ H Q
  | .nm i, _, _, _, _, _, _, _, z, _, _, _, _ => by cases z
  | .nil, ws, vs, s, s', σ, Q, _, _, e, kk, q, z => by
    cases ws with
    | nil =>
      cases e
      cases kk
      exact ⟨rfl, z σ ⟨rfl, fun _ _ => rfl⟩ q⟩
    | cons _ _ => cases e
  | .cons a r, ws, vs, s, s', σ, Q, o, _, e, kk, q, z => by
    cases ws with
    | nil => cases e
    | cons x xs =>
      simp only [okT, Bool.and_eq_true] at o
      simp only [asgT] at e
      split at e
      · rename_i s1 e1
        obtain ⟨v, us, rfl, r1, r2⟩ := reps_cons kk
        refine ⟨v, us, rfl, gT_ok hK a x v s s1 σ _ o.1.1 e1 r1 q fun σ1 o1 q1 => ?_⟩
        exact gTs_ok hK r xs us s1 s' σ1 Q o.2 o.1.2 e r2 q1 fun σ2 o2 q2 => z σ2 (off_trans o1 o2) q2
      · cases e
end
/-- the look at a target, and its rule -/
theorem chkT_ok : ∀ (t : T) (e : Expr), chkT N raw t e = true → okT t = true ∧ (∀ x p, e ≠ .Starred x p) ∧ (isL t = true → ∃ es kk p, e = .Tuple es kk p)
  | .nm i, e, h => by
    simp only [chkT] at h
    split at h
    · exact ⟨rfl, nofun, by intro z; cases z⟩
    · cases h
  | .nil, e, h => by
    simp only [chkT] at h
    split at h
    · exact ⟨rfl, nofun, fun _ => ⟨_, _, _, rfl⟩⟩
    · cases h
  | .cons a r, e, h => by
    simp only [chkT] at h
    split at h
    · simp only [Bool.and_eq_true] at h
      obtain ⟨a1, _, _⟩ := chkT_ok a _ h.1
      obtain ⟨b1, _, _⟩ := chkT_ok r _ h.2
      refine ⟨?_, nofun, fun _ => ⟨_, _, _, rfl⟩⟩
      have il : isL r = true := by
        cases r with
        | nm i => simp [chkT] at h
        | _ => rfl
      simp [okT, a1, b1, il]
    · cases h
/-- what the targets of a look ask of the frame -/
structure Tgt (X : Cx) (N : List Str) (raw : Scope) : Prop where
  eN : X.N = N
  nd : N.Nodup
  calm : X.calm = true
  tgt : ∀ x, loc raw x = true → Loc X.env.scope x ∧ (X.fn x = true ∨ X.env.scope.names.lookup x = some .local)
theorem assign_each {env : Env} {e : Expr} {es : List Expr} (h : ∀ x p, e ≠ .Starred x p) : assignEach (e :: es) env = (false, assign e env) :: assignEach es env := by
  cases e with
  | Starred x p => exact absurd rfl (h x p)
  | _ => simp only [assignEach]
theorem chkT_tuple : ∀ (t : T) (es : List Expr) (kk : Nat) (p : Pos), chkT N raw t (.Tuple es kk p) = true → ∀ e ∈ es, ∀ x q, e ≠ .Starred x q
  | .nm i, es, kk, p, h => by simp [chkT] at h
  | .nil, [], kk, p, h => by intro e he; simp at he
  | .nil, _ :: _, kk, p, h => by simp [chkT] at h
  | .cons a r, [], kk, p, h => by simp [chkT] at h
  | .cons a r, y :: ys, kk, p, h => by
    simp only [chkT, Bool.and_eq_true] at h
    intro e he x q
    rcases List.mem_cons.mp he with e1 | he
    · rw [e1]; exact (chkT_ok a y h.1).2.1 x q
    · exact chkT_tuple r ys kk p h.2 e he x q
theorem each_len {env : Env} : ∀ {es : List Expr}, (∀ e ∈ es, ∀ x q, e ≠ .Starred x q) → (assignEach es env).length = es.length ∧ (assignEach es env).findIdx? (·.1) = none
  | [], _ => by simp [assignEach]
  | e :: es, h => by
    have h1 := each_len (env := env) (es := es) fun e' he' => h e' (List.mem_cons_of_mem _ he')
    rw [assign_each (h e List.mem_cons_self)]
    refine ⟨by simp [h1.1], ?_⟩
    rw [List.findIdx?_cons]
    simp [h1.2]
theorem chkT_len : ∀ (t : T) (es : List Expr) (kk : Nat) (p : Pos), chkT N raw t (.Tuple es kk p) = true → es.length = lenT t
  | .nm i, es, kk, p, h => by simp [chkT] at h
  | .nil, [], kk, p, h => rfl
  | .nil, _ :: _, kk, p, h => by simp [chkT] at h
  | .cons a r, [], kk, p, h => by simp [chkT] at h
  | .cons a r, y :: ys, kk, p, h => by
    simp only [chkT, Bool.and_eq_true] at h
    rw [List.length_cons, chkT_len r ys kk p h.2]
    rfl
mutual
theorem pg_T (C : Tgt X N raw) : ∀ (t : T) (e : Expr), chkT N raw t e = true → PG X e (gT X.K t)
  | .nm i, e, h => by
    simp only [chkT] at h
    split at h
    · rename_i x p
      simp only [Bool.and_eq_true, decide_eq_true_eq] at h
      obtain ⟨h1, h2⟩ := C.tgt x h.2
      exact pg_name (by rw [C.eN]; exact C.nd) (by rw [C.eN]; exact h.1) h1 h2
    · cases h
  | .nil, e, h => by
    simp only [chkT] at h
    split at h
    · exact pg_tup C.calm pgs_nil (by simp [assignEach]) (by simp [assignEach])
    · cases h
  | .cons a r, e, h => by
    have h0 := h
    simp only [chkT] at h
    split at h
    · rename_i x xs kk p
      have st := chkT_tuple _ _ _ _ h0
      have ln := chkT_len _ _ _ _ h0
      have el := each_len (env := X.env) st
      exact pg_tup C.calm (pgs_T C (.cons a r) (x :: xs) kk p h0) (by rw [el.1, ln]; rfl) el.2
    · cases h
theorem pgs_T (C : Tgt X N raw) : ∀ (t : T) (es : List Expr) (kk : Nat) (p : Pos), chkT N raw t (.Tuple es kk p) = true → PGs X es (gTs X.K t)
  | .nm i, es, kk, p, h => by simp [chkT] at h
  | .nil, [], kk, p, h => pgs_nil
  | .nil, _ :: _, kk, p, h => by simp [chkT] at h
  | .cons a r, [], kk, p, h => by simp [chkT] at h
  | .cons a r, y :: ys, kk, p, h => by
    have h0 := h
    simp only [chkT, Bool.and_eq_true] at h
    refine pgs_cons (pg_T C a y h.1) (pgs_T C r ys kk p h.2) ?_
    rw [assign_each (chkT_ok a y h.1).2.1]
    rfl
end
end
end Wm
end

section
set_option Elab.async false
set_option linter.all false
set_option maxRecDepth 100000
set_option maxHeartbeats 4000000
set_option autoImplicit false
/-! What lies below: the heap cut back. -/
namespace Wm
open PySem PySem.Spec PyProof.Rows L2

section
variable {A : At} {m : List Addr} {H H2 : Hp} {l : List Addr}
theorem Rep.low {w : W} {v : V} (r : Rep A (m ++ l) H2 w v) : W.low m.length w = true → Rep A m H2 w v := by
  refine Rep.rec (A := A) (m := m ++ l) (H := H2) (motive_1 := fun w v _ => W.low m.length w = true → Rep A m H2 w v) (motive_2 := fun ws vs _ => W.lows m.length ws = true → Reps A m H2 ws vs)
    ?_ ?_ ?_ ?_ ?_ ?_ ?_ ?_ ?_ ?_ ?_ r
  · intro _; exact .non
  · intro b _; exact .bl b
  · intro b _; exact .int b
  · intro b _; exact .str b
  · intro a ws vs q _ ih p; exact .tup q (ih p)
  · intro n a e p
    refine .ref ?_
    rw [List.getElem?_append_left (Nat.lt_of_lt_of_le (Nat.lt_of_succ_le (Nat.le_of_ble_eq_true p)) (Nat.le_refl _))] at e
    exact e
  · intro i _; exact .fn i
  · intro i _; exact .cls i
  · intro a ws vs q _ ih p; exact .rol q (ih p)
  · intro _; exact .nil
  · intro w ws v vs _ _ ih1 ih2 p
    have p := Bool.and_eq_true_iff.mp (show (W.low m.length w && W.lows m.length ws) = true from p)
    exact .cons (ih1 p.1) (ih2 p.2)
theorem Reps.low : ∀ {ws : List W} {vs : List V}, Reps A (m ++ l) H2 ws vs → W.lows m.length ws = true → Reps A m H2 ws vs
  | [], _, .nil, _ => .nil
  | _ :: _, _, .cons a b, p => by
    have p := Bool.and_eq_true_iff.mp (show (W.low m.length _ && W.lows m.length _) = true from p)
    exact .cons (a.low p.1) (b.low p.2)
theorem Rep.back {w : W} {v0 v : V} (r0 : Rep A m H w v0) (r : Rep A (m ++ l) H2 w v) : Rep A m H2 w v := by
  refine Rep.rec (A := A) (m := m) (H := H) (motive_1 := fun w _ _ => ∀ v, Rep A (m ++ l) H2 w v → Rep A m H2 w v) (motive_2 := fun ws _ _ => ∀ vs, Reps A (m ++ l) H2 ws vs → Reps A m H2 ws vs)
    ?_ ?_ ?_ ?_ ?_ ?_ ?_ ?_ ?_ ?_ ?_ r0 v r
  · intro v r; cases r; exact .non
  · intro b v r; cases r; exact .bl b
  · intro b v r; cases r; exact .int b
  · intro b v r; cases r; exact .str b
  · intro a ws vs _ _ ih v r
    cases r with
    | tup q k => exact .tup q (ih _ k)
  · intro n a e v r
    cases r with
    | ref e2 =>
      refine .ref ?_
      rw [List.getElem?_append_left (List.getElem?_eq_some_iff.mp e).1] at e2
      exact e2
  · intro i v r; cases r; exact .fn i
  · intro i v r; cases r; exact .cls i
  · intro a ws vs _ _ ih v r
    cases r with
    | rol q k => exact .rol q (ih _ k)
  · intro vs r; cases r; exact .nil
  · intro w ws v vs _ _ ih1 ih2 us r
    cases r with
    | cons a b => exact .cons (ih1 _ a) (ih2 _ b)
theorem Reps.back : ∀ {ws : List W} {vs0 vs : List V}, Reps A m H ws vs0 → Reps A (m ++ l) H2 ws vs → Reps A m H2 ws vs
  | [], _, _, _, .nil => .nil
  | _ :: _, _, _, .cons a0 b0, .cons a b => .cons (a0.back a) (b0.back b)
theorem keepOk_at : ∀ {h' h : OH} {n i : Nat} {o' : O}, keepOk n h' h = true → h'[i]? = some o' → ∃ o, h[i]? = some o ∧ (o' = o ∨ O.low n o' = true)
  | [], _, n, i, o, _, e => by simp at e
  | x :: r, [], n, i, o, p, e => by cases p
  | x :: r, y :: q, n, 0, o, p, e => by
    simp at e; subst e
    have p := (Bool.and_eq_true_iff.mp (show ((O.beq x y || O.low n x) && keepOk n r q) = true from p)).1
    exact ⟨y, rfl, (Bool.or_eq_true_iff.mp p).imp O.beq_eq id⟩
  | x :: r, y :: q, n, i + 1, o, p, e => keepOk_at (h' := r) (h := q) (Bool.and_eq_true_iff.mp (show ((O.beq x y || O.low n x) && keepOk n r q) = true from p)).2 (by simpa using e)
theorem RelH.cut {h h2 : OH} {m2 : List Addr} (r : RelH A m h H) (g : Grow m H m2 H2) (r2 : RelH A m2 h2 H2) (p : cutOk h h2 = true) : RelH A m (h2.take h.length) H2 ∧ Grow m H m H2 := by
  obtain ⟨l, rfl, _⟩ := g.map
  unfold cutOk at p
  rw [← r.len] at p ⊢
  have hl : m.length ≤ h2.length := by rw [← r2.len]; simp
  refine ⟨⟨by simp [Nat.min_eq_left hl], r.nd, fun n o en => ?_⟩, ⟨[], by simp, fun a ha => by simp at ha⟩, g.keep⟩
  have hn : n < m.length := by
    have := (List.getElem?_eq_some_iff.mp en).1
    simp at this; omega
  obtain ⟨o0, e0, lo⟩ := keepOk_at p en
  rw [List.getElem?_take_of_lt hn] at en
  obtain ⟨a, f1, f2⟩ := r2.ob n o en
  rw [List.getElem?_append_left hn] at f1
  refine ⟨a, f1, ?_⟩
  rcases lo with rfl | lo
  · obtain ⟨a0, g1, g2⟩ := r.ob n o e0
    rw [f1] at g1; cases g1
    cases o with
    | lst ws =>
      obtain ⟨vs, q, k⟩ := f2
      obtain ⟨vs0, _, k0⟩ := g2
      exact ⟨vs, q, k0.back k⟩
    | dct _ _ => exact f2.elim
    | ins _ _ => exact f2.elim
  · cases o with
    | lst ws =>
      obtain ⟨vs, q, k⟩ := f2
      exact ⟨vs, q, k.low lo⟩
    | dct _ _ => exact f2.elim
    | ins _ _ => exact f2.elim
theorem slLow_at : ∀ {s : Sl} {n i : Nat} {w : W}, slLow n s = true → s[i]? = some (some w) → W.low n w = true
  | [], n, i, w, _, e => by simp at e
  | none :: r, n, 0, w, p, e => by simp at e
  | some x :: r, n, 0, w, p, e => by
    simp at e; subst e
    exact (Bool.and_eq_true_iff.mp (show (W.low n x && slLow n r) = true from p)).1
  | none :: r, n, i + 1, w, p, e => slLow_at (s := r) p (by simpa using e)
  | some x :: r, n, i + 1, w, p, e => slLow_at (Bool.and_eq_true_iff.mp (show (W.low n x && slLow n r) = true from p)).2 (by simpa using e)
theorem wipeS_at : ∀ {own : List Nat} {s : Sl} {i : Nat} {w : W}, (wipeS s own)[i]? = some (some w) → s[i]? = some (some w)
  | [], _, _, _, e => e
  | j :: own, s, i, w, e => by
    simp only [wipeS, setS_eq] at e
    by_cases hj : i = j
    · subst hj
      by_cases hl : i < (wipeS s own).length
      · rw [List.getElem?_set_self hl] at e; cases e
      · rw [List.getElem?_eq_none (by simpa using hl)] at e; cases e
    · rw [List.getElem?_set_ne (Ne.symm hj)] at e
      exact wipeS_at e
theorem wipeS_len (s : Sl) : ∀ own : List Nat, (wipeS s own).length = s.length
  | [] => rfl
  | j :: own => by simp only [wipeS, setS_eq, List.length_set]; exact wipeS_len s own
theorem RelS.low {s : Sl} {σ : L2.St} {own : List Nat} (r : RelS A (m ++ l) H2 s σ) (p : slLow m.length (wipeS s own) = true) : RelS A m H2 (wipeS s own) σ :=
  ⟨(wipeS_len s own).trans r.len, fun i w e => by
    have e1 := getS_get _ _ _ e
    obtain ⟨v, e2, rv⟩ := r.at_ i w (getS_of _ _ _ (wipeS_at e1))
    exact ⟨v, e2, rv.low (slLow_at p e1)⟩⟩
/-- an expression whose leavings are dropped -/
theorem tG_gc {ew : XK} {g : Sl → OH → R W} {σ : L2.St} {Q : VK} (t : tG ew (rW A) (fun s h => (g s h).bind (gcE h)) σ H Q) : tG ew (rW A) g σ H Q := by
  obtain ⟨m, h, s, a, rh, rs, ra, p⟩ := t
  refine ⟨m, h, s, a, rh, rs, ra, ?_⟩
  have p : Post ew (rW A) m H ((g s h).bind (gcE h)) Q := p
  show Post ew (rW A) m H (g s h) Q
  revert p
  cases g s h with
  | exc c fs h2 => exact fun p => p
  | no => exact fun p => p
  | ok w h2 =>
    simp only [R.bind_ok, gcE]
    split
    · rename_i hc
      rw [Bool.and_eq_true] at hc
      obtain ⟨c1, c2⟩ := hc
      rw [← rh.len] at c1
      intro p m' v H' g' r' q'
      obtain ⟨r3, g3⟩ := rh.cut g' r' c2
      obtain ⟨l, rfl, _⟩ := g'.map
      exact p m v H' g3 r3 (Rep.low q' c1)
    · exact fun p => p.elim
theorem tG_gcB {ew : XK} {g : Sl → OH → R Bool} {σ : L2.St} {Q : Bool → Hp → Prop} (t : tG ew (rE A Bool) (fun s h => (g s h).bind (gcB h)) σ H Q) : tG ew (rE A Bool) g σ H Q := by
  obtain ⟨m, h, s, a, rh, rs, ra, p⟩ := t
  refine ⟨m, h, s, a, rh, rs, ra, ?_⟩
  have p : Post ew (rE A Bool) m H ((g s h).bind (gcB h)) Q := p
  show Post ew (rE A Bool) m H (g s h) Q
  revert p
  cases g s h with
  | exc c fs h2 => exact fun p => p
  | no => exact fun p => p
  | ok w h2 =>
    simp only [R.bind_ok, gcB]
    split
    · rename_i c2
      intro p m' v H' g' r' q'
      obtain ⟨r3, g3⟩ := rh.cut g' r' c2
      exact p m v H' g3 r3 q'
    · exact fun p => p.elim
end
end Wm
end

section
set_option Elab.async false
set_option linter.all false
set_option maxRecDepth 100000
set_option maxHeartbeats 4000000
set_option autoImplicit false
namespace Wm
open PySem PySem.Spec PyProof.Rows L2
section
variable {A : At} {tab : List Fn} {nm : List Str} {cn : List (Str × W)} {N : List Str} {k : Nat} {X : Cx} {sc raw : Scope} {ew : XK}
theorem any_back {pos : Pos} {env : Env} {es : List Expr} (h : ∀ e ∈ es, ∀ x p, e ≠ .Starred x p) : (backTo pos (starEach es env)).any (·.1) = false := by
  rw [notStar_map h]
  unfold backTo
  rw [List.any_eq_false]
  intro x hx
  simp only [List.mem_map] at hx
  obtain ⟨a, ⟨e, _, rfl⟩, rfl⟩ := hx
  exact Bool.false_ne_true
theorem tail_star {y : Expr} {ys : List Expr} (h : ∀ e ∈ y :: ys, ∀ x p, e ≠ .Starred x p) : (∀ x p, y ≠ .Starred x p) ∧ ∀ e ∈ ys, ∀ x p, e ≠ .Starred x p :=
  ⟨h y List.mem_cons_self, fun e he => h e (List.mem_cons_of_mem _ he)⟩
theorem snd_call {f : Nat} {as : E} (ha : Snd A tab nm cn N k as) (X : Cx) (sc raw : Scope) (ew : XK) (e : Expr) (C : Ctx A tab nm cn N k X sc raw ew) (h : chkE nm cn N sc (.call f as) e = true) :
    PE X e (tG ew (rW A) (ev (callN tab k) (.call f as))) ∧ ∃ x args kws pos, e = .Call x args kws pos := by
  simp only [chkE] at h
  split at h
  · rename_i x p y ys pos
    simp only [Bool.and_eq_true, Bool.not_eq_true', decide_eq_true_eq] at h
    obtain ⟨⟨⟨h1, h2⟩, h3⟩, h4⟩ := h
    obtain ⟨g, fd, ps, e1, e2, e3, e4⟩ := C.fns f x h3
    have st := chkA_star nm cn N sc as _ h4
    refine ⟨⟨fun pins s σ H Q I t => ?_⟩, _, _, _, _, rfl⟩
    refine wpAny_Call_Name_kw (ld_glob I (C.gl h1) e1 ?_ h2)
    refine PySem.W.callWith_K (h₀ := X.base) I.ok.mod.kin e2 (thn ((ha.fa X sc raw ew _ C h4).run pos pins s σ H _ I (many t)) fun us s1 ⟨vs, H1, I1, r, m, hp, ws, rh, rw, p⟩ => ⟨I1.kIn, ?_⟩) (notStar_cons (tail_star st).1) (any_back (tail_star st).2)
    exact call_fnW e4 C.grd C.room e3 C.hx I1 r ⟨m, hp, ws, rh, rw, p⟩
  · rename_i x p pos
    simp only [Bool.and_eq_true, Bool.not_eq_true', decide_eq_true_eq] at h
    obtain ⟨⟨⟨h1, h2⟩, h3⟩, h4⟩ := h
    obtain ⟨g, fd, ps, e1, e2, e3, e4⟩ := C.fns f x h3
    refine ⟨⟨fun pins s σ H Q I t => ?_⟩, _, _, _, _, rfl⟩
    refine wpAny_Call_Name_kw (ld_glob I (C.gl h1) e1 ?_ h2)
    refine PySem.W.callWith_K0 I.kIn e2 ?_
    obtain ⟨m, hp, s0, _, rh, rs, _, p⟩ := t
    cases as with
    | nil => exact call_fnW (us := []) (vs := []) e4 C.grd C.room e3 C.hx I .nil ⟨m, hp, [], rh, .nil, p⟩
    | _ => simp [chkA] at h4
  · cases h
theorem boot_bi (b : Bi) : bootBuiltins (biN b) = some (biV b) := by
  cases b <;> decide +kernel
theorem biN_mem (b : Bi) : biN b ∈ biNames := by cases b <;> decide +kernel
theorem biN_ne (b : Bi) : biN b ≠ "__name__" ∧ (biN b == ("__debug__" : Str)) = false := by cases b <;> exact ⟨by decide +kernel, by decide +kernel⟩
/-- f(e, ..) of a built-in -/
theorem pe_bi {f : Value} {r : List V → Hp → VK → Prop} {x : Str} {p pos : Pos} {y : Expr} {ys : List Expr} {t : TA} (hf : (∃ id, f = .builtin id) ∨ ∃ T, f = .type T) (hc : CallR X f r) (hg : Gl X x) (hm : X.mg x = none) (hv : bootBuiltins x = some f) (hn : x ≠ "__name__") (hd : (x == ("__debug__" : Str)) = false)
    (ha : PA X (y :: ys) t) (st : ∀ e ∈ y :: ys, ∀ x p, e ≠ .Starred x p) : PE X (.Call (.Name x p) (y :: ys) [] pos) (tCB r t) := by
  rcases hf with ⟨id, rfl⟩ | ⟨T, rfl⟩
  · exact pe_callB hc hg hm hv ha hn hd (notStar_cons (tail_star st).1) (any_back (tail_star st).2)
  · exact pe_callTy hc hg hm hv ha hn hd (notStar_cons (tail_star st).1) (any_back (tail_star st).2)
theorem snd_tup {as : E} (ha : Snd A tab nm cn N k as) (X : Cx) (sc raw : Scope) (ew : XK) (e : Expr) (C : Ctx A tab nm cn N k X sc raw ew) (h : chkE nm cn N sc (.tup as) e = true) : PE X e (tG ew (rW A) (ev (callN tab k) (.tup as))) := by
  simp only [chkE] at h
  split at h
  · rename_i es kk p
    refine PE.weak (pe_tup (ha.fa X sc raw ew es C h)) fun σ H Q t => (many t).mono fun vs H1 ⟨m, hp, ws, rh, r, p⟩ => ?_
    unfold newTup at p
    split at p
    · rename_i hl
      exact ⟨by rw [← r.length]; exact Nat.le_of_lt (line_le hl), p.tup rh r⟩
    · exact p.elim
  · cases h
theorem snd_lst {as : E} (ha : Snd A tab nm cn N k as) (X : Cx) (sc raw : Scope) (ew : XK) (e : Expr) (C : Ctx A tab nm cn N k X sc raw ew) (h : chkE nm cn N sc (.lst as) e = true) : PE X e (tG ew (rW A) (ev (callN tab k) (.lst as))) := by
  simp only [chkE] at h
  split at h
  · rename_i es p
    refine PE.weak (pe_lst (ha.fa X sc raw ew es C h)) fun σ H Q t => (many t).mono fun vs H1 ⟨m, hp, ws, rh, r, p⟩ => ?_
    unfold newLst at p
    split at p
    · rename_i hl
      exact ⟨by rw [← r.length]; exact Nat.le_of_lt (line_le hl), p.lst rh r⟩
    · exact p.elim
  · cases h
theorem plain_ix {e : Expr} (h : notSlice e = true) : PlainIx e := fun o i => by
  cases e <;> first | rfl | cases h
theorem snd_ix {a b : E} (ha : Snd A tab nm cn N k a) (hb : Snd A tab nm cn N k b) (X : Cx) (sc raw : Scope) (ew : XK) (e : Expr) (C : Ctx A tab nm cn N k X sc raw ew) (h : chkE nm cn N sc (.ix a b) e = true) :
    PE X e (tG ew (rW A) (ev (callN tab k) (.ix a b))) ∧ ∃ x y p, e = .Subscript x y p := by
  simp only [chkE] at h
  split at h
  · rename_i x y p
    simp only [Bool.and_eq_true] at h
    exact ⟨PE.weak (pe_ix (ix_ok C.toCalm) (ha.fe X sc raw ew x C h.1.2) (hb.fe X sc raw ew y C h.2) (plain_ix h.1.1)) fun σ H Q t => two (α := Unit) (β := Unit) t, _, _, _, rfl⟩
  · cases h
theorem snd_sl {a lo hi : E} (ha : Snd A tab nm cn N k a) (hl : Snd A tab nm cn N k lo) (hh : Snd A tab nm cn N k hi) (X : Cx) (sc raw : Scope) (ew : XK) (e : Expr) (C : Ctx A tab nm cn N k X sc raw ew) (h : chkE nm cn N sc (.sl a lo hi) e = true) :
    PE X e (tG ew (rW A) (ev (callN tab k) (.sl a lo hi))) := by
  simp only [chkE] at h
  split at h
  · rename_i x l u p2 p
    simp only [Bool.and_eq_true] at h
    refine PE.weak (pe_slice (sl_ok (ew := ew) C.toCalm) (ha.fe X sc raw ew x C h.1.1) (hl.fo X sc raw ew l C h.1.2) (hh.fo X sc raw ew u C h.2)) fun σ H Q t => ?_
    refine (tA.stepF (ρ := rNo A) (rW A) (ev (callN tab k) a) (fun p s h => (evO (callN tab k) lo s h).bind fun l h2 => (evO (callN tab k) hi s h2).bind fun u h3 => slW p.2 l u h3) t).mono fun v H1 t1 => ?_
    refine (tA.stepF (ρ := rP A (rNo A) (rW A)) (rE A (Option Int)) (evO (callN tab k) lo) (fun p s h => (evO (callN tab k) hi s h).bind fun u h3 => slW p.1.2 p.2 u h3) t1).mono fun l H2 t2 => ?_
    refine (tA.stepF (ρ := rP A (rP A (rNo A) (rW A)) (rE A (Option Int))) (rE A (Option Int)) (evO (callN tab k) hi) (fun p _ h => slW p.1.1.2 p.1.2 p.2 h) t2).mono fun u H3 ⟨m, hp, s, a, rh, rs, ⟨⟨⟨_, r1⟩, e1⟩, e2⟩, p⟩ => ?_
    have e1 : a.1.2 = l := e1
    have e2 : a.2 = u := e2
    refine ⟨m, hp, a.1.1.2, rh, r1, ?_⟩
    rw [← e1, ← e2]
    exact p
  · cases h
theorem snd_rev {a : E} (ha : Snd A tab nm cn N k a) (X : Cx) (sc raw : Scope) (ew : XK) (e : Expr) (C : Ctx A tab nm cn N k X sc raw ew) (h : chkE nm cn N sc (.rev a) e = true) : PE X e (tG ew (rW A) (ev (callN tab k) (.rev a))) := by
  simp only [chkE] at h
  split at h
  · simp only [Bool.and_eq_true, decide_eq_true_eq] at h
    obtain ⟨rfl, h⟩ := h
    exact PE.weak (pe_rev C.toCalm (ha.fe X sc raw ew _ C h)) fun σ H Q t => one t
  · cases h
theorem not_super {y : Expr} {name : Str} {env : Env} (h : notCall y = true) : attributeBase y name env (eval y env) = eval y env := by
  cases y <;> first | rfl | cases h
def mtI : Mt → String
  | .append => "list.append" | .pop => "list.pop" | .popAt => "list.pop" | .extend => "list.extend" | .index => "list.index"
theorem mt_ok (C : Calm A X) (mt : Mt) (h : mt ≠ .index) : MtR X (mtI mt) (c2 A ew (mtW mt)) := by
  cases mt with
  | append => exact mt_append_ok C
  | pop => exact mt_pop_ok C
  | popAt => exact mt_popAt_ok C
  | extend => exact mt_extend_ok C
  | index => exact absurd rfl h
theorem mt_slot (mt : Mt) : Slot "list" (mtN mt) (mtI mt) := by
  cases mt
  · exact PySem.F.slot_list_append
  · exact PySem.F.slot_list_pop
  · exact PySem.F.slot_list_pop
  · exact PySem.F.slot_list_extend
  · exact PySem.F.slot_list_index
theorem mt_type (mt : Mt) : typeOf (.builtin (mtI mt)) = pure (.type "method_descriptor") := by
  cases mt
  · exact PySem.F.type_list_append
  · exact PySem.F.type_list_pop
  · exact PySem.F.type_list_pop
  · exact PySem.F.type_list_extend
  · exact PySem.F.type_list_index
theorem ref_list (C : Calm A X) {m : List Addr} {h : OH} {H : Hp} {n : Nat} {v : V} (rh : RelH A m h H) (r : Rep A m H (.ref n) v) : tyV X.K "list" v H := by
  obtain ⟨a, rfl, ia⟩ := rep_ref r
  have hn : n < h.length := by rw [← rh.len]; exact (List.getElem?_eq_some_iff.mp ia).1
  obtain ⟨b, e1, e2⟩ := rh.ob n _ (List.getElem?_eq_getElem hn)
  rw [ia] at e1; cases e1
  cases e : h[n] with
  | lst ws => rw [e] at e2; obtain ⟨vs, q, _⟩ := e2; exact .inl ⟨rfl, vs, SqL.of q⟩
  | dct _ _ => rw [e] at e2; exact e2.elim
  | ins _ _ => rw [e] at e2; exact e2.elim
theorem tBM_of (C : Calm A X) {mt : Mt} {go : Sl → OH → R W} {ga : Sl → OH → R (List W)} {σ : L2.St} {H : Hp} {Q : VK} (t : tG ew (rW A) (fun s h => (go s h).bind fun x h1 => (isRef x h1).bind fun _ h2 => (ga s h2).bind fun ws h3 => mtW mt x ws h3) σ H Q) :
    tG ew (rW A) go σ H (fun x H1 => tyV X.K "list" x H1 ∧ tG ew (rWs A) ga σ H1 (fun xs H2 => c2 A ew (mtW mt) x xs H2 Q)) := by
  refine (tA.stepF (ρ := rNo A) (rW A) go (fun p s h => (isRef p.2 h).bind fun _ h2 => (ga s h2).bind fun ws h3 => mtW mt p.2 ws h3) t).mono fun x H1 ⟨m, h, s, a, rh, rs, ⟨_, r1⟩, p⟩ => ?_
  obtain ⟨a1, a2⟩ := a
  have r1 : Rep A m H1 a2 x := r1
  have p : Post ew (rW A) m H1 ((isRef a2 h).bind fun _ h2 => (ga s h2).bind fun ws h3 => mtW mt a2 ws h3) Q := p
  cases a2 with
  | ref n =>
    have t1 : tA ew (rP A (rNo A) (rW A)) (rW A) (fun p s h => (ga s h).bind fun ws h3 => mtW mt p.2 ws h3) ((), x) σ H1 Q := ⟨m, h, s, ((), .ref n), rh, rs, ⟨trivial, r1⟩, p⟩
    refine ⟨ref_list C rh r1, ?_⟩
    exact (tA.stepF (ρ := rP A (rNo A) (rW A)) (rWs A) ga (fun p _ h => mtW mt p.1.2 p.2 h) t1).mono fun xs H2 ⟨m2, h2, s2, b, rh2, rs2, ⟨⟨_, q1⟩, q2⟩, p2⟩ => ⟨m2, h2, b.1.2, b.2, rh2, q1, q2, p2⟩
  | _ => exact p.elim
theorem snd_mt {mt : Mt} {o as : E} (ho : Snd A tab nm cn N k o) (ha : Snd A tab nm cn N k as) (X : Cx) (sc raw : Scope) (ew : XK) (e : Expr) (C : Ctx A tab nm cn N k X sc raw ew) (h : chkE nm cn N sc (.mt mt o as) e = true) : PE X e (tG ew (rW A) (ev (callN tab k) (.mt mt o as))) := by
  simp only [chkE] at h
  split at h
  · rename_i y name ap cp
    simp only [Bool.and_eq_true, decide_eq_true_eq] at h
    obtain ⟨⟨⟨⟨⟨rfl, h2⟩, h3⟩, rfl⟩, h5⟩, h6⟩ := h
    refine PE.weak (pe_bm0 PySem.F.plainAttrs_list (mt_slot .pop) (mt_type .pop) (mt_ok (ew := ew) C.toCalm .pop (by decide)) (ho.fe X sc raw ew y C h5) (not_super h3) h2) fun σ H Q t => ?_
    refine (tBM_of C.toCalm (go := ev (callN tab k) o) (ga := evs (callN tab k) as) t).mono fun x H1 ⟨q1, q2⟩ => ⟨q1, ?_⟩
    cases as with
    | nil =>
      obtain ⟨m, hp, s, _, rh, rs, _, p⟩ := q2
      exact p m [] H1 (Grow.refl _ _) rh .nil
    | _ => simp [chkA] at h6
  · rename_i y name ap z cp
    simp only [Bool.and_eq_true, decide_eq_true_eq] at h
    obtain ⟨⟨⟨⟨⟨⟨rfl, h2⟩, h3⟩, h4⟩, h4'⟩, h5⟩, h6⟩ := h
    have st := chkA_star nm cn N sc as _ h6
    have s1 : starEach [z] X.env = [(false, eval z X.env)] := by rw [notStar_cons (st z (by simp))]; simp [starEach]
    refine PE.weak (pe_bm PySem.F.plainAttrs_list (mt_slot mt) (mt_type mt) (mt_ok (ew := ew) C.toCalm mt h4') (ho.fe X sc raw ew y C h5) (ha.fa X sc raw ew [z] C h6) (not_super h3) ?_ h2 (notStar_cons (st z (by simp))) (by simp [starEach, backTo])) fun σ H Q t => ?_
    · rw [s1]
      simp [backTo, backToKw, keywordEach]
    · exact tBM_of C.toCalm (go := ev (callN tab k) o) (ga := evs (callN tab k) as) t
  · cases h
theorem kit_boot {T : String} (h : kitS T = true) : bootBuiltins (Str.ofString T) = some (.type T) ∧ Str.ofString T ∈ biNames ∧ Str.ofString T ≠ "__name__" ∧ (Str.ofString T == ("__debug__" : Str)) = false := by
  have six : T = "int" ∨ T = "bool" ∨ T = "str" ∨ T = "tuple" ∨ T = "list" ∨ T = "dict" := by
    unfold kitS at h
    simpa using h
  rcases six with rfl | rfl | rfl | rfl | rfl | rfl <;> exact ⟨by decide +kernel, by decide +kernel, by decide +kernel, by decide +kernel⟩
theorem snd_isi {a : E} {ts : List String} (ha : Snd A tab nm cn N k a) (X : Cx) (sc raw : Scope) (ew : XK) (e : Expr) (C : Ctx A tab nm cn N k X sc raw ew) (h : chkE nm cn N sc (.isi a ts) e = true) :
    PE X e (tG ew (rW A) (ev (callN tab k) (.isi a ts))) ∧ ∃ x args kws pos, e = .Call x args kws pos := by
  simp only [chkE] at h
  split at h
  · rename_i x p y t p2 pos
    simp only [Bool.and_eq_true, decide_eq_true_eq] at h
    obtain ⟨⟨⟨⟨h1, rfl⟩, h3⟩, h4⟩, h5⟩ := h
    split at h4
    · rename_i T
      simp only [Bool.and_eq_true, decide_eq_true_eq] at h4
      obtain ⟨h4, rfl⟩ := h4
      obtain ⟨b1, b2, b3, b4⟩ := kit_boot h4
      have ns : ∀ x p, y ≠ .Starred x p := fun x p z => by rw [z, chkE_star] at h5; cases h5
      have hp : PE X (.Name (Str.ofString T) p2) (tC (.ty T)) := pe_bltn (C.gl h3) (C.blt _ b2) b1 rfl b3 b4
      have args : PA X [y, .Name (Str.ofString T) p2] (tCons (tG ew (rW A) (ev (callN tab k) a)) (tCons (tC (.ty T)) tNil)) := pa_cons (ha.fe X sc raw ew y C h5) (pa_cons hp pa_nil) (notStar_cons ns)
      have st : ∀ e ∈ [y, Expr.Name (Str.ofString T) p2], ∀ x p, e ≠ .Starred x p := by
        intro e he x p
        rcases (show e = y ∨ e = _ by simpa using he) with z | z
        · rw [z]; exact ns x p
        · rw [z]; exact nofun
      refine ⟨PE.weak (pe_bi (f := .builtin "isinstance") (.inl ⟨_, rfl⟩) (isi_ok (ew := ew) C.toCalm h4) (C.gl h1) (C.blt _ (by decide +kernel)) (by decide +kernel) (by decide +kernel) (by decide +kernel) args st) fun σ H Q t => ?_, _, _, _, _, rfl⟩
      exact (one t).mono fun v H1 ⟨m, hp, w, rh, r, p⟩ => ⟨m, hp, w, v, rfl, rh, r, p⟩
    · cases h4
  · cases h
end
end Wm
end

section
set_option Elab.async false
set_option linter.all false
set_option maxRecDepth 100000
set_option maxHeartbeats 4000000
set_option autoImplicit false
namespace Wm
open PySem PySem.Spec PyProof.Rows L2
section
variable {A : At} {tab : List Fn} {nm : List Str} {cn : List (Str × W)} {N : List Str} {k : Nat} {X : Cx} {sc raw : Scope} {ew : XK}
theorem biV_kind (b : Bi) : (∃ id, biV b = .builtin id) ∨ ∃ T, biV b = .type T := by
  cases b <;> first | exact .inl ⟨_, rfl⟩ | exact .inr ⟨_, rfl⟩
theorem rgV_rep {m : List Addr} {H : Hp} : ∀ (n : Nat) (lo : Int), Reps A m H (rangeI lo n) ((List.range n).map fun i => V.int (lo + (i : Nat)))
  | 0, _ => .nil
  | n + 1, lo => by
    rw [List.range_succ_eq_map, List.map_cons, List.map_map]
    refine .cons (by simpa using Rep.int lo) ?_
    have := rgV_rep (m := m) (H := H) n (lo + 1)
    have e : (List.range n).map ((fun i : Nat => V.int (lo + (i : Nat))) ∘ Nat.succ) = (List.range n).map fun i => V.int (lo + 1 + (i : Nat)) := by
      apply List.map_congr_left
      intro i _
      show V.int (lo + ((i + 1 : Nat) : Int)) = _
      congr 1
      omega
    rw [e]
    exact this
theorem snd_bi {b : Bi} {as : E} (ha : Snd A tab nm cn N k as) (X : Cx) (sc raw : Scope) (ew : XK) (e : Expr) (C : Ctx A tab nm cn N k X sc raw ew) (h : chkE nm cn N sc (.bi b as) e = true) :
    PE X e (tG ew (rW A) (ev (callN tab k) (.bi b as))) ∧ ∃ x args kws pos, e = .Call x args kws pos := by
  simp only [chkE] at h
  split at h
  · rename_i x p y ys pos
    simp only [Bool.and_eq_true, decide_eq_true_eq] at h
    obtain ⟨⟨h1, rfl⟩, h3⟩ := h
    exact ⟨PE.weak (pe_bi (biV_kind b) (bi_ok (ew := ew) C.toCalm b) (C.gl h1) (C.blt _ (biN_mem b)) (boot_bi b) (biN_ne b).1 (biN_ne b).2 (ha.fa X sc raw ew _ C h3) (chkA_star nm cn N sc as _ h3)) fun σ H Q t => many t, _, _, _, _, rfl⟩
  · cases h
theorem snd_lrg {a : E} (ha : Snd A tab nm cn N k a) (X : Cx) (sc raw : Scope) (ew : XK) (e : Expr) (C : Ctx A tab nm cn N k X sc raw ew) (h : chkE nm cn N sc (.lrg a) e = true) : PE X e (tG ew (rW A) (ev (callN tab k) (.lrg a))) := by
  simp only [chkE] at h
  split at h
  · rename_i x p y p2 z p3 p4
    simp only [Bool.and_eq_true, decide_eq_true_eq] at h
    obtain ⟨⟨⟨⟨rfl, h2⟩, rfl⟩, h4⟩, h5⟩ := h
    have sz : ∀ x p, z ≠ .Starred x p := fun x p e => by rw [e, chkE_star] at h5; cases h5
    refine PE.weak (pe_listRg C.calm (C.gl h2) (C.blt _ (by decide +kernel)) (prg_1 (C.gl h4) (C.blt _ (by decide +kernel)) (ha.fe X sc raw ew z C h5) (notStar_cons sz)) (notStar_cons (by intro x p; exact nofun))) fun σ H Q t => ?_
    refine (tA.stepF (ρ := rNo A) (rW A) (ev (callN tab k) a) (fun p _ h => lrgW p.2 h) t).mono fun x H1 ⟨m, hp, s, a, rh, rs, ⟨_, r1⟩, p⟩ => ?_
    obtain ⟨a1, a2⟩ := a
    have r1 : Rep A m H1 a2 x := r1
    have p : Post ew (rW A) m H1 (lrgW a2 hp) Q := p
    cases r1 with
    | int n =>
      simp only [lrgW] at p
      split at p
      · rename_i hw
        unfold newLst at p
        split at p
        · rename_i hl
          simp only [within62, Bool.and_eq_true, decide_eq_true_eq] at hw
          rw [rangeI_length] at hl
          have hl := Nat.le_of_ble_eq_true hl
          refine ⟨n, rfl, ⟨by decide, by decide, hw.1, hw.2, ?_⟩, ?_⟩
          · unfold line at hl; omega
          · have r := rgV_rep (A := A) (m := m) (H := H1) n.toNat 0
            intro q hq
            have e : rgV 0 n = (List.range n.toNat).map fun i => V.int (0 + (i : Nat)) := by
              unfold rgV
              rw [Int.sub_zero]
            rw [e]
            exact p.lst rh r q hq
        · exact p.elim
      · exact p.elim
    | _ => exact p.elim
  · cases h
/-! ### what is walked -/
theorem snd_seq {a : E} (ha : Snd A tab nm cn N k a) (X : Cx) (sc raw : Scope) (ew : XK) (e tg : Expr) (C : Ctx A tab nm cn N k X sc raw ew) (h : chkI nm cn N sc (.seq a) e = true) : PI X tg e (tG ew (rI A) (evI (callN tab k) (.seq a))) := by
  have h : chkE nm cn N sc a e = true := by simpa only [chkI] using h
  refine ⟨fun pins s σ H Q I t => ?_⟩
  have t1 := tA.stepF (ρ := rNo A) (rW A) (ev (callN tab k) a) (fun p _ h => seqIt p.2 h) t
  refine thn ((ha.fe X sc raw ew e C h).run pins s σ H _ I t1) fun v s1 ⟨x, H1, I1, rv, m, hp, so, b, rh, rs, ⟨_, r1⟩, p⟩ => ?_
  obtain ⟨b1, b2⟩ := b
  have r1 : Rep A m H1 b2 x := r1
  have p : Post ew (rI A) m H1 (seqIt b2 hp) Q := p
  unfold seqIt at p
  split at p
  · rename_i ws e1
    obtain ⟨a0, vs, rfl, q, kk, ql, qt⟩ := seq_rep rh e1 r1
    cases rv
    cases b2 with
    | ref n =>
      obtain ⟨a', ea, ia⟩ := rep_ref r1
      cases ea
      have sl := ql n rfl
      obtain ⟨its, rv', lp, _⟩ := I1.list (show SqL X.K H1 a0 vs by rw [C.K]; exact sl)
      refine wpAny_pyIter_list lp.isList ⟨s1.heap.objs.size, [s1.heap.objs.size], _, _, H1, rfl, I1.kept (t' := s1.toks) fun b o e => Heap.get?_push_of_some _ e, turn_list a0 _, ⟨_, Heap.get?_push_size _ rfl, rfl, rfl⟩, fun b hb => ?_, ?_⟩
      · rw [List.mem_singleton.mp hb]
        exact I1.fpOk (Nat.le_refl _) (I1.hok.fresh (Nat.le_refl _))
      · exact p m _ H1 (Grow.refl _ _) rh (IR.list C.K.symm (by simp [watch]) ia)
    | tup us =>
      have st := qt us rfl
      obtain ⟨its, rv', tp, _⟩ := I1.tuple (show SqT X.K H1 a0 vs by rw [C.K]; exact st)
      refine wpAny_pyIter_tuple (show s1.heap.IsTuple a0 its.toArray from tp) ⟨s1.heap.objs.size, [s1.heap.objs.size], _, _, H1, rfl, I1.kept (t' := s1.toks) fun b o e => Heap.get?_push_of_some _ e, turn_tuple a0 _, ⟨_, Heap.get?_push_size _ rfl, rfl, rfl⟩, fun b hb => ?_, ?_⟩
      · rw [List.mem_singleton.mp hb]
        exact I1.fpOk (Nat.le_refl _) (I1.hok.fresh (Nat.le_refl _))
      · exact p m _ H1 (Grow.refl _ _) rh (IR.tuple C.K.symm rh st kk)
    | _ => cases e1
  · exact p.elim
theorem snd_enum {a : E} (ha : Snd A tab nm cn N k a) (X : Cx) (sc raw : Scope) (ew : XK) (e tg : Expr) (C : Ctx A tab nm cn N k X sc raw ew) (ht : isTup tg = true) (h : chkI nm cn N sc (.enum a) e = true) : PI X tg e (tG ew (rI A) (evI (callN tab k) (.enum a))) := by
  simp only [chkI] at h
  split at h
  · rename_i x p y pos
    simp only [Bool.and_eq_true, decide_eq_true_eq] at h
    obtain ⟨⟨rfl, h2⟩, h3⟩ := h
    have ns : ∀ x p, y ≠ .Starred x p := fun x p z => by rw [z, chkE_star] at h3; cases h3
    cases tg with
    | Tuple elts kk tp =>
      refine PI.weak (pi_enumT (C.gl h2) (C.blt _ (by decide +kernel)) (ha.fe X sc raw ew y C h3) ns) fun σ H Q t => ?_
      refine (tA.stepF (ρ := rNo A) (rW A) (ev (callN tab k) a) (fun p _ h => enumIt p.2 h) t).mono fun v H1 ⟨m, hp, so, b, rh, rs, ⟨_, r1⟩, p⟩ => ?_
      obtain ⟨b1, b2⟩ := b
      have r1 : Rep A m H1 b2 v := r1
      have p : Post ew (rI A) m H1 (enumIt b2 hp) Q := p
      unfold enumIt at p
      split at p
      · rename_i ws e1
        obtain ⟨a0, vs, rfl, q, kk, ql, qt⟩ := seq_rep rh e1 r1
        refine ⟨a0, vs, rfl, ?_⟩
        cases b2 with
        | ref n =>
          obtain ⟨a', ea, ia⟩ := rep_ref r1
          cases ea
          exact .inl ⟨by rw [C.K]; exact ql n rfl, p m _ H1 (Grow.refl _ _) rh (IR.enumL C.K.symm (by simp [watch]) ia)⟩
        | tup us => exact .inr ⟨by rw [C.K]; exact qt us rfl, p m _ H1 (Grow.refl _ _) rh (IR.enumT C.K.symm rh (qt us rfl) kk)⟩
        | _ => cases e1
      · exact p.elim
    | _ => cases ht
  · cases h
theorem snd_zip {a b : E} (ha : Snd A tab nm cn N k a) (hb : Snd A tab nm cn N k b) (X : Cx) (sc raw : Scope) (ew : XK) (e tg : Expr) (C : Ctx A tab nm cn N k X sc raw ew) (ht : isTup tg = true) (h : chkI nm cn N sc (.zip a b) e = true) : PI X tg e (tG ew (rI A) (evI (callN tab k) (.zip a b))) := by
  simp only [chkI] at h
  split at h
  · rename_i x p y z pos
    simp only [Bool.and_eq_true, decide_eq_true_eq] at h
    obtain ⟨⟨⟨rfl, h2⟩, h3⟩, h4⟩ := h
    have ns : ∀ x p, y ≠ .Starred x p := fun x p z => by rw [z, chkE_star] at h3; cases h3
    have ns2 : ∀ x p, z ≠ .Starred x p := fun x p z => by rw [z, chkE_star] at h4; cases h4
    cases tg with
    | Tuple elts kk tp =>
      have args : PA X [y, z] (tCons (tG ew (rW A) (ev (callN tab k) a)) (tCons (tG ew (rW A) (ev (callN tab k) b)) tNil)) := pa_cons (ha.fe X sc raw ew y C h3) (pa_cons (hb.fe X sc raw ew z C h4) pa_nil (notStar_cons ns2)) (notStar_cons ns)
      refine PI.weak (RZ.pi_zipA (C.gl h2) (C.blt _ (by decide +kernel)) args (notStar_cons ns) (any_back (by intro e he; rw [List.mem_singleton.mp he]; exact ns2))) fun σ H Q t => ?_
      refine (tA.stepF (ρ := rNo A) (rW A) (ev (callN tab k) a) (fun p s h => (ev (callN tab k) b s h).bind fun y h2 => zipIt p.2 y h2) t).mono fun v H1 t1 => ?_
      refine (tA.stepF (ρ := rP A (rNo A) (rW A)) (rW A) (ev (callN tab k) b) (fun p _ h => zipIt p.1.2 p.2 h) t1).mono fun u H2 ⟨m, hp, so, c, rh, rs, ⟨⟨_, r1⟩, r2⟩, p⟩ => ?_
      obtain ⟨⟨c1, c2⟩, c3⟩ := c
      have r1 : Rep A m H2 c2 v := r1
      have r2 : Rep A m H2 c3 u := r2
      have p : Post ew (rI A) m H2 (zipIt c2 c3 hp) Q := p
      unfold zipIt at p
      split at p
      · rename_i ws us e1 e2
        split at p
        · rename_i hbr
          obtain ⟨a0, vs, rfl, q, kk, ql, qt⟩ := seq_rep rh e1 r1
          obtain ⟨b0, vs2, rfl, q2, kk2, ql2, qt2⟩ := seq_rep rh e2 r2
          refine ⟨a0, b0, vs, vs2, rfl, ?_⟩
          cases c2 with
          | ref n =>
            cases c3 with
            | ref n2 =>
              obtain ⟨a', ea, ia⟩ := rep_ref r1
              cases ea
              obtain ⟨b', eb, ib⟩ := rep_ref r2
              cases eb
              exact .inl ⟨by rw [C.K]; exact ql n rfl, by rw [C.K]; exact ql2 n2 rfl, p m _ H2 (Grow.refl _ _) rh (IR.zipL C.K.symm (by simp [watch]) (by simp [watch]) ia ib)⟩
            | _ => cases hbr
          | tup us1 =>
            cases c3 with
            | tup us2 => exact .inr ⟨by rw [C.K]; exact qt us1 rfl, by rw [C.K]; exact qt2 us2 rfl, p m _ H2 (Grow.refl _ _) rh (IR.zipT C.K.symm rh (qt us1 rfl) kk (qt2 us2 rfl) kk2)⟩
            | _ => cases hbr
          | _ => cases e1
        · exact p.elim
      · exact p.elim
    | _ => cases ht
  · cases h
theorem snd_rng1 {a : E} (ha : Snd A tab nm cn N k a) (X : Cx) (sc raw : Scope) (ew : XK) (e tg : Expr) (C : Ctx A tab nm cn N k X sc raw ew) (h : chkI nm cn N sc (.rng1 a) e = true) : PI X tg e (tG ew (rI A) (evI (callN tab k) (.rng1 a))) := by
  simp only [chkI] at h
  split at h
  · rename_i x p y pos
    simp only [Bool.and_eq_true, decide_eq_true_eq] at h
    obtain ⟨⟨rfl, h2⟩, h3⟩ := h
    have ns : ∀ x p, y ≠ .Starred x p := fun x p z => by rw [z, chkE_star] at h3; cases h3
    refine PI.weak (pi_range1 (C.gl h2) (C.blt _ (by decide +kernel)) (pa_cons (ha.fe X sc raw ew y C h3) pa_nil (notStar_cons ns)) (by rw [notStar_cons ns]; simp [starEach])) fun σ H Q t => ?_
    refine (tA.stepF (ρ := rNo A) (rW A) (ev (callN tab k) a) (fun p _ h => rng1It p.2 h) t).mono fun v H1 ⟨m, hp, so, c, rh, rs, ⟨_, r1⟩, p⟩ => ?_
    obtain ⟨c1, c2⟩ := c
    have r1 : Rep A m H1 c2 v := r1
    have p : Post ew (rI A) m H1 (rng1It c2 hp) Q := p
    cases r1 with
    | int n =>
      simp only [rng1It] at p
      split at p
      · rename_i hw
        simp only [within62, Bool.and_eq_true, decide_eq_true_eq] at hw
        exact ⟨n, rfl, hw.1, hw.2, p m _ H1 (Grow.refl _ _) rh (IR.range 0 _ _)⟩
      · exact p.elim
    | _ => exact p.elim
  · cases h
theorem snd_rng2 {a b : E} (ha : Snd A tab nm cn N k a) (hb : Snd A tab nm cn N k b) (X : Cx) (sc raw : Scope) (ew : XK) (e tg : Expr) (C : Ctx A tab nm cn N k X sc raw ew) (h : chkI nm cn N sc (.rng2 a b) e = true) : PI X tg e (tG ew (rI A) (evI (callN tab k) (.rng2 a b))) := by
  simp only [chkI] at h
  split at h
  · rename_i x p y z pos
    simp only [Bool.and_eq_true, decide_eq_true_eq] at h
    obtain ⟨⟨⟨rfl, h2⟩, h3⟩, h4⟩ := h
    have ns : ∀ x p, y ≠ .Starred x p := fun x p z => by rw [z, chkE_star] at h3; cases h3
    have ns2 : ∀ x p, z ≠ .Starred x p := fun x p z => by rw [z, chkE_star] at h4; cases h4
    refine PI.weak (pi_range2 (C.gl h2) (C.blt _ (by decide +kernel)) (pa_cons (ha.fe X sc raw ew y C h3) (pa_cons (hb.fe X sc raw ew z C h4) pa_nil (notStar_cons ns2)) (notStar_cons ns)) (by rw [notStar_cons ns, notStar_cons ns2]; simp [starEach]) (by rw [notStar_cons ns2]; simp [starEach])) fun σ H Q t => ?_
    refine (tA.stepF (ρ := rNo A) (rW A) (ev (callN tab k) a) (fun p s h => (ev (callN tab k) b s h).bind fun y h2 => rng2It p.2 y h2) t).mono fun v H1 t1 => ?_
    refine (tA.stepF (ρ := rP A (rNo A) (rW A)) (rW A) (ev (callN tab k) b) (fun p _ h => rng2It p.1.2 p.2 h) t1).mono fun u H2 ⟨m, hp, so, c, rh, rs, ⟨⟨_, r1⟩, r2⟩, p⟩ => ?_
    obtain ⟨⟨c1, c2⟩, c3⟩ := c
    have r1 : Rep A m H2 c2 v := r1
    have r2 : Rep A m H2 c3 u := r2
    have p : Post ew (rI A) m H2 (rng2It c2 c3 hp) Q := p
    cases r1 with
    | int i =>
      cases r2 with
      | int j =>
        simp only [rng2It] at p
        split at p
        · rename_i hw
          simp only [within62, Bool.and_eq_true, decide_eq_true_eq] at hw
          exact ⟨i, j, rfl, ⟨hw.1.1, hw.1.2, hw.2.1, hw.2.2⟩, p m _ H2 (Grow.refl _ _) rh (IR.range i _ _)⟩
        · exact p.elim
      | _ => exact p.elim
    | _ => exact p.elim
  · cases h
end
end Wm
end

section
set_option Elab.async false
set_option linter.all false
set_option maxRecDepth 100000
set_option maxHeartbeats 4000000
set_option autoImplicit false
/-! List comprehensions; all expressions. -/
namespace Wm
open PySem PySem.Spec PyProof.Rows L2

section
variable {A : At} {tab : List Fn} {nm : List Str} {cn : List (Str × W)} {N : List Str} {k : Nat} {X : Cx} {sc raw : Scope} {ew : XK}
theorem Ctx.tgtOf (C : Ctx A tab nm cn N k X sc raw ew) : Tgt X N raw := ⟨C.eN, C.nd, C.calm, C.tgt⟩
theorem Ctx.blk (C : Ctx A tab nm cn N k X sc raw ew) (s : Shared) (H : Hp) (scope : Scope) (Cd : Addr) (cl : List (Str × Addr)) (fp : List Addr) : Ctx A tab nm cn N k (X.blk s H scope (compEnvC scope cl Cd X.env) fp) (relS scope sc) scope E0 where
  K := C.K
  calm := C.calm
  un := C.un
  grd := C.grd
  eN := C.eN
  nd := C.nd
  sc := by
    show relS scope X.env.scope = _
    rw [C.sc]
  room := C.room
  pass := PassesOwn.never
  hx := passL
  tgt := fun x h => by
    have key : ∀ kk, kk ≠ .free → scope.names.lookup x = some kk → (relS scope X.env.scope).names.lookup x = some kk := fun kk hk e => lookup_relS_keep hk e
    unfold loc at h
    split at h
    · rename_i e
      exact ⟨.inl (key _ (by nofun) e), .inr (key _ (by nofun) e)⟩
    · rename_i e
      refine ⟨.inr (key _ (by nofun) e), .inl ?_⟩
      show (scope.names.lookup x == some NameKind.cell) = true
      rw [e]; rfl
    · cases h
  blt := C.blt
  cns := C.cns
  fns := C.fns

theorem lcN_cons {f : W → OH → R (Option W)} {wt : List (Nat × List W)} {w : W} {ws : List W} {h hf : OH} {zs : List W} (e : lcN f wt (w :: ws) h = .ok zs hf) :
    still h wt = true ∧ ∃ o h1 ys, f w h = .ok o h1 ∧ lcN f wt ws h1 = .ok ys hf ∧ zs = consO o ys := by
  simp only [lcN] at e
  split at e
  · rename_i hs
    refine ⟨hs, ?_⟩
    cases q : f w h with
    | ok o h1 =>
      rw [q] at e
      simp only [R.calm, R.bind_ok] at e
      cases q2 : lcN f wt ws h1 with
      | ok ys h2 =>
        rw [q2] at e
        simp only [R.bind_ok] at e
        cases e
        exact ⟨o, h1, ys, rfl, q2, rfl⟩
      | exc c fs h2 => rw [q2] at e; cases e
      | no => rw [q2] at e; cases e
    | exc c fs h1 => rw [q] at e; cases e
    | no => rw [q] at e; cases e
  · cases e
theorem lcN_calm {f : W → OH → R (Option W)} {wt : List (Nat × List W)} : ∀ {ws : List W} {h hf : OH} {c : Nat} {fs : List (Str × W)}, lcN f wt ws h ≠ .exc c fs hf
  | [], h, hf, c, fs => by
    simp only [lcN]
    split <;> nofun
  | w :: ws, h, hf, c, fs => by
    simp only [lcN]
    split
    · cases f w h with
      | ok o h1 =>
        simp only [R.calm, R.bind_ok]
        cases q2 : lcN f wt ws h1 with
        | ok ys h2 => simp only [R.bind_ok]; nofun
        | exc c fs h2 => exact absurd q2 lcN_calm
        | no => nofun
      | exc c fs h1 => nofun
      | no => nofun
    · nofun

mutual
theorem Rep.offD {m : List Addr} {H : Hp} {D : Addr} {acc acc2 : List V} (hD : H D = some (.lst acc)) : ∀ {w : W} {v : V}, Rep A m H w v → Rep A m (upd H D (.lst acc2)) w v
  | _, _, .non => .non
  | _, _, .bl b => .bl b
  | _, _, .int i => .int i
  | _, _, .str x => .str x
  | _, _, .tup q kk => .tup (by
      rcases q with (q | ⟨ob, q⟩) | q
      · exact .inl (.inl (by rw [upd_ne (by intro z; rw [z, hD] at q; cases q)]; exact q))
      · exact .inl (.inr ⟨ob, by rw [upd_ne (by intro z; rw [z, hD] at q; cases q)]; exact q⟩)
      · exact .inr q) (Reps.offD hD kk)
  | _, _, .ref e => .ref e
  | _, _, .fn i => .fn i
  | _, _, .cls i => .cls i
  | _, _, .rol q kk => .rol (q.elim (fun ⟨ob, q⟩ => .inl ⟨ob, by rw [upd_ne (by intro z; rw [z, hD] at q; cases q)]; exact q⟩) .inr) (Reps.offD hD kk)
theorem Reps.offD {m : List Addr} {H : Hp} {D : Addr} {acc acc2 : List V} (hD : H D = some (.lst acc)) : ∀ {ws : List W} {vs : List V}, Reps A m H ws vs → Reps A m (upd H D (.lst acc2)) ws vs
  | _, _, .nil => .nil
  | _, _, .cons a b => .cons (Rep.offD hD a) (Reps.offD hD b)
end
theorem RelH.offD {m : List Addr} {h : OH} {H : Hp} {D : Addr} {acc acc2 : List V} (r : RelH A m h H) (hD : H D = Option.some (HO.lst acc)) (hm : D ∉ m) : RelH A m h (upd H D (HO.lst acc2)) := by
  refine ⟨r.len, r.nd, fun n o e => ?_⟩
  obtain ⟨a, e1, e2⟩ := r.ob n o e
  have hne : a ≠ D := fun z => hm (z ▸ List.mem_of_getElem? e1)
  refine ⟨a, e1, ?_⟩
  cases o with
  | lst us => obtain ⟨xs, q1, q2⟩ := e2; exact ⟨xs, by rw [upd_ne hne]; exact q1, q2.offD hD⟩
  | dct _ _ => exact e2.elim
  | ins _ _ => exact e2.elim
/-- a new object comes into the map at its end -/
theorem RelH.take {m : List Addr} {h : OH} {H : Hp} {D : Addr} {ws : List W} {vs : List V} (r : RelH A m h H) (hD : H D = Option.some (HO.lst vs)) (hm : D ∉ m) (kk : Reps A m H ws vs) : RelH A (m ++ [D]) (h ++ [O.lst ws]) H := by
  have up : ∀ {w : W} {v : V}, Rep A m H w v → Rep A (m ++ [D]) H w v := by
    intro w v q
    have := Rep.rec (A := A) (m := m) (H := H) (motive_1 := fun w v _ => Rep A (m ++ [D]) H w v) (motive_2 := fun ws vs _ => Reps A (m ++ [D]) H ws vs) .non (fun b => .bl b) (fun i => .int i) (fun x => .str x) (fun q _ ih => .tup q ih)
      (fun {n a} e => .ref (by rw [List.getElem?_append_left (List.getElem?_eq_some_iff.mp e).1]; exact e)) (fun i => .fn i) (fun i => .cls i) (fun q _ ih => .rol q ih) .nil (fun _ _ a b => .cons a b) q
    exact this
  have ups : ∀ {ws : List W} {vs : List V}, Reps A m H ws vs → Reps A (m ++ [D]) H ws vs := by
    intro ws
    induction ws with
    | nil => intro vs q; cases q; exact .nil
    | cons w ws ih => intro vs q; cases q with | cons a b => exact .cons (up a) (ih b)
  refine ⟨by simp [r.len], ?_, fun n o e => ?_⟩
  · rw [List.nodup_append]
    exact ⟨r.nd, by simp, fun a ha b hb => by rw [List.mem_singleton.mp hb]; intro z; exact hm (z ▸ ha)⟩
  · by_cases hn : n < h.length
    · rw [List.getElem?_append_left hn] at e
      obtain ⟨a, e1, e2⟩ := r.ob n o e
      refine ⟨a, by rw [List.getElem?_append_left (List.getElem?_eq_some_iff.mp e1).1]; exact e1, ?_⟩
      cases o with
      | lst us => obtain ⟨xs, q1, q2⟩ := e2; exact ⟨xs, q1, ups q2⟩
      | dct _ _ => exact e2.elim
      | ins _ _ => exact e2.elim
    · have hn2 : n = h.length := by
        have := (List.getElem?_eq_some_iff.mp e).1
        simp at this; omega
      subst hn2
      simp at e
      subst e
      exact ⟨D, by rw [← r.len]; simp, vs, hD, ups kk⟩
theorem Grow.out {m m' : List Addr} {H H' : Hp} (g : Grow m H m' H') {D : Addr} {o : HO} (hD : H D = some o) (hm : D ∉ m) : D ∉ m' ∧ H' D = some o := by
  refine ⟨fun z => ?_, g.keep D o hD hm⟩
  obtain ⟨l, rfl, e⟩ := g.map
  rcases List.mem_append.mp z with z | z
  · exact hm z
  · rw [e D z hm] at hD; cases hD

theorem newLst_ok {ew : XK} {m : List Addr} {H : Hp} {ws : List W} {h : OH} {Q : VK} (p : Post ew (rW A) m H (newLst ws h) Q) : ws.length ≤ line ∧ Post ew (rW A) m H (.ok (.ref h.length) (h ++ [.lst ws])) Q := by
  unfold newLst at p
  split at p
  · rename_i hl
    exact ⟨Nat.le_of_ble_eq_true hl, p⟩
  · exact p.elim
/-- one turn's run, in the own language -/
def lcF (G : Nat → List W → OH → R W) (e : E) (own : List Nat) (t : T) (cond : E) (s : Sl) : W → OH → R (Option W) := fun w h2 => (asgR t w (wipeS s own) h2).bind fun s' h3 => (evC G cond s' h3).bind fun k h4 => if k = true then (ev G e s' h4).bind fun y h5 => .ok (some y) h5 else .ok none h4
theorem lcF_ok {G : Nat → List W → OH → R W} {e : E} {own : List Nat} {t : T} {cond : E} {s : Sl} {w : W} {h h1 : OH} {o : Option W} (q : lcF G e own t cond s w h = .ok o h1) :
    ∃ s' kk h4, asgT t w (wipeS s own) = some s' ∧ evC G cond s' h = .ok kk h4 ∧ ((kk = true ∧ ∃ y, ev G e s' h4 = .ok y h1 ∧ o = some y) ∨ (kk = false ∧ h1 = h4 ∧ o = none)) := by
  unfold lcF asgR at q
  cases a : asgT t w (wipeS s own) with
  | none => rw [a] at q; cases q
  | some s' =>
    rw [a] at q
    simp only [R.bind_ok] at q
    cases b : evC G cond s' h with
    | ok kk h4 =>
      rw [b] at q
      simp only [R.bind_ok] at q
      cases kk with
      | false => simp only [Bool.false_eq_true, if_false] at q; cases q; exact ⟨s', false, h1, rfl, b, .inr ⟨rfl, rfl, rfl⟩⟩
      | true =>
        simp only [if_true] at q
        cases c : ev G e s' h4 with
        | ok y h5 => rw [c] at q; simp only [R.bind_ok] at q; cases q; exact ⟨s', true, h4, rfl, b, .inl ⟨rfl, y, c, rfl⟩⟩
        | exc _ _ _ => rw [c] at q; cases q
        | no => rw [c] at q; cases q
    | exc _ _ _ => rw [b] at q; cases q
    | no => rw [b] at q; cases q
theorem tLc_of (hK : X.K = A.K) {e it cond : E} {own : List Nat} {t : T} {G : Nat → List W → OH → R W} (ok : okT t = true) (sub : ∀ i ∈ slotsT t, i ∈ own) {σ : L2.St} {H : Hp} {Q : VK} (tt : tG ew (rW A) (ev G (.lc e own t it cond)) σ H Q) :
    tLc (tG ew (rI A) (evI G it)) (gT X.K t) (tG E0 (rE A Bool) (evC G cond)) (tG E0 (rW A) (ev G e)) own σ H Q := by
  refine (tA.stepF (ρ := rNo A) (rI A) (evI G it) (fun p s h => (lcN (lcF G e own t cond s) p.2.2 p.2.1 h).bind fun ys h6 => newLst ys h6) tt).mono fun J H1 ⟨m, hp, so, c, rh, rs, ⟨_, ir⟩, p⟩ D hD => ?_
  obtain ⟨_, ws, wt⟩ := c
  have ir : IR A J ws wt m H1 := ir
  have p : Post ew (rW A) m H1 ((lcN (lcF G e own t cond so) wt ws hp).bind fun ys h6 => newLst ys h6) Q := p
  cases ez : lcN (lcF G e own t cond so) wt ws hp with
  | exc _ _ _ => exact absurd ez lcN_calm
  | no => rw [ez] at p; exact p.elim
  | ok zs hf =>
  rw [ez] at p
  obtain ⟨hl, p⟩ := newLst_ok p
  have hDm : D ∉ m := rh.free hD
  refine ⟨fun i μ H' => μ = ws.length - i ∧ i ≤ ws.length ∧ ∃ m' h' us acc ys, Grow m H1 m' H' ∧ RelH A m' h' H' ∧ D ∉ m' ∧ H' D = some (.lst acc) ∧ Reps A m' H' us acc ∧ lcN (lcF G e own t cond so) wt (ws.drop i) h' = .ok ys hf ∧ zs = us ++ ys,
    ⟨ws.length, by simp, Nat.zero_le _, m, hp, [], [], zs, (rh.side (o := .lst []) hD).2, (rh.side hD).1, hDm, upd_same, .nil, by simpa using ez, rfl⟩, ?_⟩
  rintro i μ H2 ⟨rfl, hi, m2, h2, us, acc, ys, g2, r2, hD2, e2, k2, z2, rfl⟩
  by_cases hlt : i < ws.length
  · refine .inr ?_
    rw [List.drop_eq_getElem_cons hlt] at z2
    obtain ⟨st, o, h3, ys', f2, z3, rfl⟩ := lcN_cons z2
    obtain ⟨go, yl⟩ := ir.go i ws[i] m2 h2 H2 g2 r2 st (by simp [hlt])
    refine ⟨go, fun H3 => ∃ m' h' us2 acc2 ys2, Grow m H1 m' H3 ∧ RelH A m' h' H3 ∧ D ∉ m' ∧ H3 D = some (.lst acc2) ∧ Reps A m' H3 us2 acc2 ∧ lcN (lcF G e own t cond so) wt (ws.drop (i + 1)) h' = .ok ys2 hf ∧ us ++ consO o ys' = us2 ++ ys2, fun H3 nx => ⟨_, ?_, rfl, hlt, nx⟩, fun x H3 y => ?_⟩
    · omega
    obtain ⟨g3, r3, rx⟩ := yl x H3 y
    obtain ⟨s', kk, h4, e4, c4, cs⟩ := lcF_ok f2
    have gg := g2.trans g3
    have sl : RelS A m2 H3 (wipeS so own) (L2.wipe σ own) := (rs.grow rh gg).wipe own
    refine gT_ok hK.symm t ws[i] x (wipeS so own) s' (L2.wipe σ own) _ ok e4 rx sl fun σ2 of r4 => ⟨?_, m2, h2, s', (), r3, r4, trivial, ?_⟩
    · rw [of.wipe sub, wipe_wipe]
    show Post E0 (rE A Bool) m2 H3 (evC G cond s' h2) _
    rw [c4]
    intro m5 b H5 g5 r5 eb
    have eb : kk = b := eb
    subst eb
    obtain ⟨hD3, e3⟩ := g3.out e2 hD2
    obtain ⟨hD5, e5⟩ := g5.out e3 hD3
    rcases cs with ⟨rfl, yv, c5, rfl⟩ | ⟨rfl, rfl, rfl⟩
    · rw [if_pos rfl]
      refine ⟨m5, h4, s', (), r5, r4.grow r3 g5, trivial, ?_⟩
      show Post E0 (rW A) m5 H5 (ev G e s' h4) _
      rw [c5]
      intro m6 vy H6 g6 r6 ry
      have ry : Rep A m6 H6 yv vy := ry
      obtain ⟨hD6, e6⟩ := g6.out e5 hD5
      have k6 := ((k2.grow r2 g3).grow r3 g5).grow r5 g6
      have hlen : acc.length < line := by
        rw [← k6.length]
        simp only [consO, List.length_append, List.length_cons] at hl
        omega
      refine ⟨acc, e6, Nat.lt_trans hlen (by decide), m6, h3, us ++ [yv], acc ++ [vy], ys', ?_, r6.offD e6 hD6, hD6, upd_same, Reps.append (k6.offD e6) (.cons (ry.offD e6) .nil), z3, by simp [consO]⟩
      have g := (gg.trans g5).trans g6
      refine ⟨g.map, fun a o ea ha => ?_⟩
      rw [upd_ne (by intro z; rw [z, hD] at ea; cases ea)]
      exact g.keep a o ea ha
    · rw [if_neg (by decide)]
      exact ⟨m5, h3, us, acc, ys', gg.trans g5, r5, hD5, e5, (k2.grow r2 g3).grow r3 g5, z3, rfl⟩
  · have hie : i = ws.length := by omega
    subst hie
    rw [List.drop_length] at z2
    simp only [lcN] at z2
    split at z2
    · rename_i st
      cases z2
      rw [List.append_nil] at p
      refine .inl ⟨ir.stop m2 hf H2 g2 r2 st, p (m2 ++ [D]) (.ref D) H2 ?_ (r2.take e2 hD2 k2) (.ref (by rw [← r2.len]; simp))⟩
      obtain ⟨l, rfl, el⟩ := g2.map
      refine ⟨⟨l ++ [D], by simp, fun a ha hm => ?_⟩, g2.keep⟩
      rcases List.mem_append.mp ha with z | z
      · exact el a z hm
      · rw [List.mem_singleton.mp z]; exact hD
    · cases z2
theorem snd_lc {e it cond : E} {own : List Nat} {t : T} (he : Snd A tab nm cn N k e) (hi : Snd A tab nm cn N k it) (hc : Snd A tab nm cn N k cond) (X : Cx) (sc raw : Scope) (ew : XK) (x : Expr) (C : Ctx A tab nm cn N k X sc raw ew) (h : chkE nm cn N sc (.lc e own t it cond) x = true) :
    PE X x (tG ew (rW A) (ev (callN tab k) (.lc e own t it cond))) := by
  simp only [chkE] at h
  split at h
  · rename_i elt tg iter ifs scope pos
    simp only [Bool.and_eq_true, List.all_eq_true, decide_eq_true_eq] at h
    obtain ⟨⟨⟨⟨⟨⟨⟨h1, h2⟩, h3⟩, h4⟩, h5⟩, h6⟩, h7⟩, h8⟩ := h
    have ov : (own.map fun i => (N.getD i "", i)).map (·.2) = own := by rw [List.map_map]; exact (List.map_congr_left fun _ _ => rfl).trans (List.map_id own)
    have bo := blkOk_by h1
    have tk := (chkT_ok t tg h6).1
    have pl := pe_lc (X := X) (g := gT X.K t) (elt := elt) (pos := pos) C.calm (by rw [C.eN]; exact C.nd) (hi.fi X sc raw ew iter tg C h4 h5) (by rw [C.eN, C.sc]; exact bo)
      (fun s H Cd cl fp => pg_T (C.blk s H scope Cd cl fp).tgtOf t tg h6) (fun s H Cd cl fp => hc.fc _ _ _ _ ifs (C.blk s H scope Cd cl fp) h7) (fun s H Cd cl fp => he.fe _ _ _ _ elt (C.blk s H scope Cd cl fp) h8) (fun x => notSet_fold h3 _ x)
    rw [ov] at pl
    exact PE.weak pl fun σ H Q t => tLc_of C.K tk h2 t
  · cases h
/-! ### all expressions -/
theorem no_fi {a : E} {X : Cx} {e tg : Expr} {sc : Scope} {t : TI} (d : ∀ sc e, chkI nm cn N sc a e = false) (h : chkI nm cn N sc a e = true) : PI X tg e t := by rw [d] at h; cases h
theorem no_fa {a : E} {X : Cx} {es : List Expr} {sc : Scope} {t : TA} (d : ∀ sc e, chkA nm cn N sc a e = false) (h : chkA nm cn N sc a es = true) : PA X es t := by rw [d] at h; cases h
theorem no_fo {a : E} {X : Cx} {es : Option Expr} {sc : Scope} {t : TO} (d : ∀ sc e, chkO nm cn N sc a e = false) (h : chkO nm cn N sc a es = true) : PO X es t := by rw [d] at h; cases h
theorem no_fc {a : E} {X : Cx} {es : List Expr} {sc : Scope} {t : TT} (d : ∀ sc e, chkC nm cn N sc a e = false) (h : chkC nm cn N sc a es = true) : PTs X es t := by rw [d] at h; cases h
theorem no_fe {a : E} {X : Cx} {e : Expr} {sc : Scope} {t : TE} (d : ∀ sc e, chkE nm cn N sc a e = false) (h : chkE nm cn N sc a e = true) : PE X e t := by rw [d] at h; cases h
theorem no_ft {a : E} {X : Cx} {e : Expr} {sc : Scope} {t : TT} (d : ∀ sc e, chkE nm cn N sc a e = false) (h : chkE nm cn N sc a e = true) : PT X e t := by rw [d] at h; cases h
/-- a plain expression: not a list, no thing walked -/
theorem Snd.plain {a : E} (da : ∀ sc e, chkA nm cn N sc a e = false) (do_ : ∀ sc e, chkO nm cn N sc a e = false) (dc : ∀ sc e, chkC nm cn N sc a e = false) (di : ∀ sc e, chkI nm cn N sc a e = false)
    (fe : ∀ (X : Cx) (sc raw : Scope) (ew : XK) (e : Expr), Ctx A tab nm cn N k X sc raw ew → chkE nm cn N sc a e = true → PE X e (tG ew (rW A) (ev (callN tab k) a)))
    (ft : ∀ (X : Cx) (sc raw : Scope) (ew : XK) (e : Expr), Ctx A tab nm cn N k X sc raw ew → chkE nm cn N sc a e = true → PT X e (tG ew (rE A Bool) (evT (callN tab k) a))) : Snd A tab nm cn N k a :=
  ⟨fe, ft, fun _ _ _ _ _ _ h => no_fa da h, fun _ _ _ _ _ _ h => no_fo do_ h, fun _ _ _ _ _ _ h => no_fc dc h, fun _ _ _ _ _ _ _ _ h => no_fi di h⟩
theorem Snd.plainN {a : E} (da : ∀ sc e, chkA nm cn N sc a e = false) (do_ : ∀ sc e, chkO nm cn N sc a e = false) (dc : ∀ sc e, chkC nm cn N sc a e = false) (di : ∀ sc e, chkI nm cn N sc a e = false)
    (fe : ∀ (X : Cx) (sc raw : Scope) (ew : XK) (e : Expr), Ctx A tab nm cn N k X sc raw ew → chkE nm cn N sc a e = true → PE X e (tG ew (rW A) (ev (callN tab k) a)))
    (ft : ∀ s h, evT (callN tab k) a s h = .no) : Snd A tab nm cn N k a :=
  Snd.plain da do_ dc di fe fun _ _ _ _ _ _ _ => PT.none ft
theorem Snd.walk {a : E} (de : ∀ sc e, chkE nm cn N sc a e = false) (da : ∀ sc e, chkA nm cn N sc a e = false) (do_ : ∀ sc e, chkO nm cn N sc a e = false) (dc : ∀ sc e, chkC nm cn N sc a e = false)
    (fi : ∀ (X : Cx) (sc raw : Scope) (ew : XK) (e tg : Expr), Ctx A tab nm cn N k X sc raw ew → (!needT a || isTup tg) = true → chkI nm cn N sc a e = true → PI X tg e (tG ew (rI A) (evI (callN tab k) a))) : Snd A tab nm cn N k a :=
  ⟨fun _ _ _ _ _ _ h => no_fe de h, fun _ _ _ _ _ _ h => no_ft de h, fun _ _ _ _ _ _ h => no_fa da h, fun _ _ _ _ _ _ h => no_fo do_ h, fun _ _ _ _ _ _ h => no_fc dc h, fi⟩
end
end Wm
end

section
set_option Elab.async false
set_option linter.all false
set_option maxRecDepth 100000
set_option maxHeartbeats 4000000
set_option autoImplicit false
/-! All expressions. -/
namespace Wm
open PySem PySem.Spec PyProof.Rows L2

section
variable {A : At} {tab : List Fn} {nm : List Str} {cn : List (Str × W)} {N : List Str} {k : Nat}
theorem ft_v {i : Nat} (X : Cx) (sc raw : Scope) (ew : XK) (e : Expr) (C : Ctx A tab nm cn N k X sc raw ew) (h : chkE nm cn N sc (.v i) e = true) : PT X e (tG ew (rE A Bool) (evT (callN tab k) (.v i))) := by
  have p := pt_of C.K (pe_v C h) (by
    simp only [chkE] at h
    split at h
    · intro w; rfl
    · cases h)
  exact p
theorem ft_c {w : W} (X : Cx) (sc raw : Scope) (ew : XK) (e : Expr) (C : Ctx A tab nm cn N k X sc raw ew) (h : chkE nm cn N sc (.c w) e = true) : PT X e (tG ew (rE A Bool) (evT (callN tab k) (.c w))) := by
  have p := pt_of C.K (pe_c C h) (by
    simp only [chkE] at h
    split at h
    · intro w; rfl
    · intro w; rfl
    · cases h)
  exact p
theorem ft_call {f : Nat} {as : E} (ha : Snd A tab nm cn N k as) (X : Cx) (sc raw : Scope) (ew : XK) (e : Expr) (C : Ctx A tab nm cn N k X sc raw ew) (h : chkE nm cn N sc (.call f as) e = true) : PT X e (tG ew (rE A Bool) (evT (callN tab k) (.call f as))) := by
  obtain ⟨q, ⟨_, _, _, _, rfl⟩⟩ := snd_call ha X sc raw ew e C h
  have p := pt_of C.K q fun w => rfl
  exact p
theorem ft_bi {b : Bi} {as : E} (ha : Snd A tab nm cn N k as) (X : Cx) (sc raw : Scope) (ew : XK) (e : Expr) (C : Ctx A tab nm cn N k X sc raw ew) (h : chkE nm cn N sc (.bi b as) e = true) : PT X e (tG ew (rE A Bool) (evT (callN tab k) (.bi b as))) := by
  obtain ⟨q, ⟨_, _, _, _, rfl⟩⟩ := snd_bi ha X sc raw ew e C h
  have p := pt_of C.K q fun w => rfl
  exact p
theorem ft_isi {a : E} {ts : List String} (ha : Snd A tab nm cn N k a) (X : Cx) (sc raw : Scope) (ew : XK) (e : Expr) (C : Ctx A tab nm cn N k X sc raw ew) (h : chkE nm cn N sc (.isi a ts) e = true) : PT X e (tG ew (rE A Bool) (evT (callN tab k) (.isi a ts))) := by
  obtain ⟨q, ⟨_, _, _, _, rfl⟩⟩ := snd_isi ha X sc raw ew e C h
  have p := pt_of C.K q fun w => rfl
  exact p
theorem ft_ix {a b : E} (ha : Snd A tab nm cn N k a) (hb : Snd A tab nm cn N k b) (X : Cx) (sc raw : Scope) (ew : XK) (e : Expr) (C : Ctx A tab nm cn N k X sc raw ew) (h : chkE nm cn N sc (.ix a b) e = true) : PT X e (tG ew (rE A Bool) (evT (callN tab k) (.ix a b))) := by
  obtain ⟨q, ⟨_, _, _, rfl⟩⟩ := snd_ix ha hb X sc raw ew e C h
  have p := pt_of C.K q fun w => rfl
  exact p
theorem snd : ∀ a : E, Snd A tab nm cn N k a := by
  intro a
  induction a with
  | v i => exact Snd.plain (fun _ _ => rfl) (fun _ _ => rfl) (fun _ _ => rfl) (fun _ _ => rfl) (fun X sc raw ew e C h => pe_v C h) ft_v
  | c w => exact Snd.plain (fun _ _ => rfl) (fun _ _ => rfl) (fun _ _ => rfl) (fun _ _ => rfl) (fun X sc raw ew e C h => pe_c C h) ft_c
  | nil =>
    refine ⟨fun _ _ _ _ _ _ h => no_fe (fun _ _ => rfl) h, fun _ _ _ _ _ _ h => no_ft (fun _ _ => rfl) h, fun X sc raw ew es C h => ?_, fun X sc raw ew es C h => ?_, fun X sc raw ew es C h => ?_, fun _ _ _ _ _ _ _ _ h => no_fi (fun _ _ => rfl) h⟩
    · simp only [chkA] at h
      split at h
      · exact PA.weak pa_nil fun σ H Q t => tG_ok t fun _ _ => .nil
      · cases h
    · simp only [chkO] at h
      split at h
      · exact ⟨fun pins s σ H Q I t => po_none.run pins s σ H Q I (tG_ok t fun _ _ => rfl)⟩
      · cases h
    · simp only [chkC] at h
      split at h
      · exact ⟨fun pins s σ H Q I t => pts_nil.run pins s σ H Q I (tG_ok t fun _ _ => rfl)⟩
      · cases h
  | cons a r ha hr =>
    refine ⟨fun _ _ _ _ _ _ h => no_fe (fun _ _ => rfl) h, fun _ _ _ _ _ _ h => no_ft (fun _ _ => rfl) h, fun X sc raw ew es C h => ?_, fun X sc raw ew es C h => ?_, fun X sc raw ew es C h => ?_, fun _ _ _ _ _ _ _ _ h => no_fi (fun _ _ => rfl) h⟩
    · simp only [chkA] at h
      split at h
      · rename_i x xs
        simp only [Bool.and_eq_true] at h
        have ns : ∀ y p, x ≠ .Starred y p := fun y p z => by rw [z, chkE_star] at h; cases h.1
        refine PA.weak (pa_cons (ha.fe X sc raw ew x C h.1) (hr.fa X sc raw ew xs C h.2) (notStar_cons ns)) fun σ H Q t => ?_
        refine (tA.stepF (ρ := rNo A) (rW A) (ev (callN tab k) a) (fun p s h => (evs (callN tab k) r s h).bind fun ws h2 => .ok (p.2 :: ws) h2) t).mono fun v H1 t1 => ?_
        refine (tA.stepF (ρ := rP A (rNo A) (rW A)) (rWs A) (evs (callN tab k) r) (fun p s h => .ok (p.1.2 :: p.2) h) t1).mono fun u H2 ⟨m, hp, so, c, rh, rs, ⟨⟨_, r1⟩, r2⟩, p⟩ => ?_
        exact p m _ H2 (Grow.refl _ _) rh (.cons r1 r2)
      · cases h
    · cases r with
      | nil =>
        simp only [chkO] at h
        split at h
        · rename_i x
          refine ⟨fun pins s σ H Q I t => (po_some (ha.fe X sc raw ew x C h)).run pins s σ H Q I ?_⟩
          refine (tA.stepF (ρ := rNo A) (rW A) (ev (callN tab k) a) (fun p s h => asI p.2 h) t).mono fun v H1 ⟨m, hp, so, c, rh, rs, ⟨_, r1⟩, p⟩ => ?_
          obtain ⟨c1, c2⟩ := c
          have r1 : Rep A m H1 c2 v := r1
          have p : Post ew (rE A (Option Int)) m H1 (asI c2 hp) Q := p
          cases r1 with
          | int i => exact ⟨i, rfl, p m _ H1 (Grow.refl _ _) rh rfl⟩
          | _ => exact p.elim
        · cases h
      | _ => exact no_fo (fun _ _ => rfl) h
    · cases r with
      | nil =>
        simp only [chkC] at h
        split at h
        · rename_i x
          exact pts_one (ha.ft X sc raw ew x C h)
        · cases h
      | _ => exact no_fc (fun _ _ => rfl) h
  | bin o a b ha hb => exact Snd.plainN (fun _ _ => rfl) (fun _ _ => rfl) (fun _ _ => rfl) (fun _ _ => rfl) (snd_bin ha hb) fun _ _ => rfl
  | neg a ha => exact Snd.plainN (fun _ _ => rfl) (fun _ _ => rfl) (fun _ _ => rfl) (fun _ _ => rfl) (snd_neg ha) fun _ _ => rfl
  | cmp o a b ha hb => exact Snd.plain (fun _ _ => rfl) (fun _ _ => rfl) (fun _ _ => rfl) (fun _ _ => rfl) (fun X sc raw ew e C h => (snd_cmp ha hb X sc raw ew e C h).1) (fun X sc raw ew e C h => (snd_cmp ha hb X sc raw ew e C h).2)
  | chain o p a b c ha hb hc => exact Snd.plain (fun _ _ => rfl) (fun _ _ => rfl) (fun _ _ => rfl) (fun _ _ => rfl) (fun X sc raw ew e C h => (snd_chain ha hb hc X sc raw ew e C h).1) (fun X sc raw ew e C h => (snd_chain ha hb hc X sc raw ew e C h).2)
  | and a b ha hb => exact Snd.plain (fun _ _ => rfl) (fun _ _ => rfl) (fun _ _ => rfl) (fun _ _ => rfl) (fun X sc raw ew e C h => (snd_and ha hb X sc raw ew e C h).1) (fun X sc raw ew e C h => (snd_and ha hb X sc raw ew e C h).2)
  | or a b ha hb => exact Snd.plain (fun _ _ => rfl) (fun _ _ => rfl) (fun _ _ => rfl) (fun _ _ => rfl) (fun X sc raw ew e C h => (snd_or ha hb X sc raw ew e C h).1) (fun X sc raw ew e C h => (snd_or ha hb X sc raw ew e C h).2)
  | not a ha => exact Snd.plain (fun _ _ => rfl) (fun _ _ => rfl) (fun _ _ => rfl) (fun _ _ => rfl) (fun X sc raw ew e C h => (snd_not ha X sc raw ew e C h).1) (fun X sc raw ew e C h => (snd_not ha X sc raw ew e C h).2)
  | ite t a b ht ha hb => exact Snd.plainN (fun _ _ => rfl) (fun _ _ => rfl) (fun _ _ => rfl) (fun _ _ => rfl) (snd_ite ht ha hb) fun _ _ => rfl
  | call f as ha => exact Snd.plain (fun _ _ => rfl) (fun _ _ => rfl) (fun _ _ => rfl) (fun _ _ => rfl) (fun X sc raw ew e C h => (snd_call ha X sc raw ew e C h).1) (ft_call ha)
  | bi b as ha => exact Snd.plain (fun _ _ => rfl) (fun _ _ => rfl) (fun _ _ => rfl) (fun _ _ => rfl) (fun X sc raw ew e C h => (snd_bi ha X sc raw ew e C h).1) (ft_bi ha)
  | isi a ts ha => exact Snd.plain (fun _ _ => rfl) (fun _ _ => rfl) (fun _ _ => rfl) (fun _ _ => rfl) (fun X sc raw ew e C h => (snd_isi ha X sc raw ew e C h).1) (ft_isi ha)
  | mt m o as ho ha => exact Snd.plainN (fun _ _ => rfl) (fun _ _ => rfl) (fun _ _ => rfl) (fun _ _ => rfl) (snd_mt ho ha) fun _ _ => rfl
  | tup as ha => exact Snd.plainN (fun _ _ => rfl) (fun _ _ => rfl) (fun _ _ => rfl) (fun _ _ => rfl) (snd_tup ha) fun _ _ => rfl
  | lst as ha => exact Snd.plainN (fun _ _ => rfl) (fun _ _ => rfl) (fun _ _ => rfl) (fun _ _ => rfl) (snd_lst ha) fun _ _ => rfl
  | ix a b ha hb => exact Snd.plain (fun _ _ => rfl) (fun _ _ => rfl) (fun _ _ => rfl) (fun _ _ => rfl) (fun X sc raw ew e C h => (snd_ix ha hb X sc raw ew e C h).1) (ft_ix ha hb)
  | sl a lo hi ha hl hh => exact Snd.plainN (fun _ _ => rfl) (fun _ _ => rfl) (fun _ _ => rfl) (fun _ _ => rfl) (snd_sl ha hl hh) fun _ _ => rfl
  | rev a ha => exact Snd.plainN (fun _ _ => rfl) (fun _ _ => rfl) (fun _ _ => rfl) (fun _ _ => rfl) (snd_rev ha) fun _ _ => rfl
  | lc e own t it cond he hi hc => exact Snd.plainN (fun _ _ => rfl) (fun _ _ => rfl) (fun _ _ => rfl) (fun _ _ => rfl) (snd_lc he hi hc) fun _ _ => rfl
  | lrg a ha => exact Snd.plainN (fun _ _ => rfl) (fun _ _ => rfl) (fun _ _ => rfl) (fun _ _ => rfl) (snd_lrg ha) fun _ _ => rfl
  | gc a ha => exact Snd.plain (fun _ _ => rfl) (fun _ _ => rfl) (fun _ _ => rfl) (fun _ _ => rfl) (fun X sc raw ew e C h => PE.weak (ha.fe X sc raw ew e C (by simpa only [chkE] using h)) fun σ H Q t => tG_gc t) (fun X sc raw ew e C h => PT.weak (ha.ft X sc raw ew e C (by simpa only [chkE] using h)) fun σ H Q t => tG_gcB t)
  | seq a ha => exact Snd.walk (fun _ _ => rfl) (fun _ _ => rfl) (fun _ _ => rfl) (fun _ _ => rfl) fun X sc raw ew e tg C _ h => snd_seq ha X sc raw ew e tg C h
  | rng1 a ha => exact Snd.walk (fun _ _ => rfl) (fun _ _ => rfl) (fun _ _ => rfl) (fun _ _ => rfl) fun X sc raw ew e tg C _ h => snd_rng1 ha X sc raw ew e tg C h
  | rng2 a b ha hb => exact Snd.walk (fun _ _ => rfl) (fun _ _ => rfl) (fun _ _ => rfl) (fun _ _ => rfl) fun X sc raw ew e tg C _ h => snd_rng2 ha hb X sc raw ew e tg C h
  | enum a ha => exact Snd.walk (fun _ _ => rfl) (fun _ _ => rfl) (fun _ _ => rfl) (fun _ _ => rfl) fun X sc raw ew e tg C ht h => snd_enum ha X sc raw ew e tg C (by simpa [needT] using ht) h
  | zip a b ha hb => exact Snd.walk (fun _ _ => rfl) (fun _ _ => rfl) (fun _ _ => rfl) (fun _ _ => rfl) fun X sc raw ew e tg C ht h => snd_zip ha hb X sc raw ew e tg C (by simpa [needT] using ht) h
end
end Wm
end

section
set_option Elab.async false
set_option linter.all false
set_option maxRecDepth 100000
set_option maxHeartbeats 4000000
set_option autoImplicit false
/-! Statements: their runs as readings, the look. -/
namespace Wm
open PySem PySem.Spec PyProof.Rows L2

section
variable {A : At} (ew : XK)
def PostF (A : At) (m : List Addr) (H : Hp) (p : F × Sl) (h' : OH) (D : Ends) : Prop := match p.1 with
  | .nx => ∀ (m' : List Addr) (σ' : L2.St) (H' : Hp), Grow m H m' H' → RelH A m' h' H' → RelS A m' H' p.2 σ' → D.nx σ' H'
  | .bk => ∀ (m' : List Addr) (σ' : L2.St) (H' : Hp), Grow m H m' H' → RelH A m' h' H' → RelS A m' H' p.2 σ' → D.bk σ' H'
  | .ct => ∀ (m' : List Addr) (σ' : L2.St) (H' : Hp), Grow m H m' H' → RelH A m' h' H' → RelS A m' H' p.2 σ' → D.ct σ' H'
  | .rt w => ∀ (m' : List Addr) (v : V) (H' : Hp), Grow m H m' H' → RelH A m' h' H' → Rep A m' H' w v → D.rt v H'
def PostS (A : At) (m : List Addr) (H : Hp) (r : RS) (D : Ends) : Prop := match r with
  | .ok p h' => PostF A m H p h' D
  | .exc c fs h' => ∀ (m' : List Addr) (d : Option Addr) (H' : Hp), Grow m H m' H' → RelH A m' h' H' → ExcRel A m' H' fs d → ew (.ref (A.ca c)) d H'
  | .no => False
/-- a statement's run behind what has been reckoned -/
def tSA {α β : Type} (ρ : Rl A α β) (g : α → Sl → OH → RS) (b : β) : TS := fun D σ H => ∃ (m : List Addr) (h : OH) (s : Sl) (a : α), RelH A m h H ∧ RelS A m H s σ ∧ ρ.r m H a b ∧ PostS ew A m H (g a s h) D
def tS (A : At) (g : Sl → OH → RS) : TS := tSA ew (rNo A) (fun _ => g) ()
variable {ew}
theorem PostF.from {m m' : List Addr} {H H' : Hp} {q : F × Sl} {h' : OH} {D : Ends} (g : Grow m H m' H') (p : PostF A m H q h' D) : PostF A m' H' q h' D := by
  obtain ⟨f, s⟩ := q
  cases f with
  | nx => exact fun m2 σ2 H2 g2 => p m2 σ2 H2 (g.trans g2)
  | bk => exact fun m2 σ2 H2 g2 => p m2 σ2 H2 (g.trans g2)
  | ct => exact fun m2 σ2 H2 g2 => p m2 σ2 H2 (g.trans g2)
  | rt w => exact fun m2 σ2 H2 g2 => p m2 σ2 H2 (g.trans g2)
theorem PostS.from {m m' : List Addr} {H H' : Hp} {r : RS} {D : Ends} (g : Grow m H m' H') (p : PostS ew A m H r D) : PostS ew A m' H' r D := by
  cases r with
  | ok a h' => exact PostF.from g p
  | exc c fs h' => exact fun m2 b H2 g2 r2 q2 => p m2 b H2 (g.trans g2) r2 q2
  | no => exact p
/-- an expression first -/
theorem tSA.step {α β ε ζ : Type} {ρ : Rl A α β} {r1 : Rl A ε ζ} {c : α → Sl → OH → R ε} {g : α × ε → Sl → OH → RS} {b : β} {σ : L2.St} {H : Hp} {D : Ends}
    (t : tSA ew ρ (fun a s h => (c a s h).bind fun x h1 => g (a, x) s h1) b D σ H) : tA ew ρ r1 c b σ H (fun y H1 => tSA ew (rP A ρ r1) g (b, y) D σ H1) := by
  obtain ⟨m, h, s, a, rh, rs, ra, p⟩ := t
  refine ⟨m, h, s, a, rh, rs, ra, ?_⟩
  have p2 : PostS ew A m H ((c a s h).bind fun x h1 => g (a, x) s h1) D := p
  revert p2
  cases c a s h with
  | ok x h1 => exact fun p m' y H' g' r' q => ⟨m', h1, s, (a, x), r', rs.grow rh g', ⟨ρ.grow rh g' ra, q⟩, PostS.from g' p⟩
  | exc c fs h1 => exact fun p => p
  | no => exact fun p => p
theorem tSA.stepF {α β ε ζ : Type} {ρ : Rl A α β} (r1 : Rl A ε ζ) (c : Sl → OH → R ε) (g : α × ε → Sl → OH → RS) {b : β} {σ : L2.St} {H : Hp} {D : Ends}
    (t : tSA ew ρ (fun a s h => (c s h).bind fun x h1 => g (a, x) s h1) b D σ H) : tG ew r1 c σ H (fun y H1 => tSA ew (rP A ρ r1) g (b, y) D σ H1) := (tSA.step (r1 := r1) (c := fun _ => c) (g := g) t).forget
theorem tSA.forget {α β : Type} {ρ : Rl A α β} {g : Sl → OH → RS} {b : β} {D : Ends} {σ : L2.St} {H : Hp} (t : tSA ew ρ (fun _ => g) b D σ H) : tS ew A g D σ H := by
  obtain ⟨m, h, s, a, rh, rs, ra, p⟩ := t
  exact ⟨m, h, s, (), rh, rs, trivial, p⟩
/-- a statement, then the rest -/
theorem tS.seq {g1 g2 : Sl → OH → RS} {D : Ends} {σ : L2.St} {H : Hp} (t : tS ew A (fun s h => (g1 s h).bind (thenS g2)) D σ H) : tSeq (tS ew A g1) (tS ew A g2) D σ H := by
  obtain ⟨m, h, s, a, rh, rs, ra, p⟩ := t
  refine ⟨m, h, s, a, rh, rs, ra, ?_⟩
  have p2 : PostS ew A m H ((g1 s h).bind (thenS g2)) D := p
  show PostS ew A m H (g1 s h) _
  revert p2
  cases g1 s h with
  | ok q h1 =>
    obtain ⟨f, s1⟩ := q
    cases f with
    | nx => exact fun p m' σ' H' g' r' q => ⟨m', h1, s1, (), r', q, trivial, PostS.from g' p⟩
    | bk => exact fun p => p
    | ct => exact fun p => p
    | rt w => exact fun p => p
  | exc c fs h1 => exact fun p => p
  | no => exact fun p => p
/-- a turn of a loop, then what goes on -/
theorem tS.turn {g1 g2 : Sl → OH → RS} {D : Ends} {m : List Addr} {h : OH} {s : Sl} {σ : L2.St} {H : Hp} {N : L2.St → Hp → Prop} (rh : RelH A m h H) (rs : RelS A m H s σ) (p : PostS ew A m H ((g1 s h).bind (goOn g2)) D)
    (hN : ∀ m' h' s' σ' H', Grow m H m' H' → RelH A m' h' H' → RelS A m' H' s' σ' → PostS ew A m' H' (g2 s' h') D → N σ' H') : tS ew A g1 { D with nx := N, ct := N, bk := D.nx } σ H := by
  refine ⟨m, h, s, (), rh, rs, trivial, ?_⟩
  show PostS ew A m H (g1 s h) _
  revert p
  cases g1 s h with
  | ok q h1 =>
    obtain ⟨f, s1⟩ := q
    cases f with
    | nx => exact fun p m' σ' H' g' r' q => hN m' h1 s1 σ' H' g' r' q (PostS.from g' p)
    | bk => exact fun p => p
    | ct => exact fun p m' σ' H' g' r' q => hN m' h1 s1 σ' H' g' r' q (PostS.from g' p)
    | rt w => exact fun p => p
  | exc c fs h1 => exact fun p => p
  | no => exact fun p => p
theorem tS.nx {D : Ends} {σ : L2.St} {H : Hp} (t : tS ew A (fun s h => .ok (.nx, s) h) D σ H) : D.nx σ H := by
  obtain ⟨m, h, s, a, rh, rs, ra, p⟩ := t
  exact p m σ H (Grow.refl _ _) rh rs
/-- while -/
theorem tS.whl {c : Sl → OH → R Bool} {b : Sl → OH → RS} {n : Nat} {D : Ends} {σ : L2.St} {H : Hp} (t : tS ew A (whlN c b n) D σ H) : tWhile (tG ew (rE A Bool) c) (tS ew A b) D σ H := by
  refine ⟨fun n σ H => tS ew A (whlN c b n) D σ H, ⟨n, t⟩, fun n σ1 H1 t => ?_⟩
  cases n with
  | zero => obtain ⟨m, h, s, a, rh, rs, ra, p⟩ := t; exact p.elim
  | succ n =>
    refine (tSA.stepF (ρ := rNo A) (rE A Bool) c (fun p s h => if p.2 = true then (b s h).bind (goOn (whlN c b n)) else .ok (.nx, s) h) t).mono fun k H2 t2 => ?_
    obtain ⟨m, h, s, a, rh, rs, ⟨_, ra⟩, p⟩ := t2
    obtain ⟨_, k1⟩ := a
    have ra : k1 = k := ra
    subst ra
    have p : PostS ew A m H2 (if k1 = true then (b s h).bind (goOn (whlN c b n)) else .ok (.nx, s) h) D := p
    cases k1 with
    | true =>
      rw [if_pos rfl] at p ⊢
      exact ⟨fun σ' H' => tS ew A (whlN c b n) D σ' H', fun σ' H' t' => ⟨n, Nat.lt_succ_self n, t'⟩, tS.turn rh rs p fun m' h' s' σ' H' _ r' q' p' => ⟨m', h', s', (), r', q', trivial, p'⟩⟩
    | false =>
      rw [if_neg (by decide)] at p ⊢
      exact p m σ1 H2 (Grow.refl _ _) rh rs
/-- for -/
theorem tS.for {K : PySem.W.Frag} (hK : A.K = K) {it : Sl → OH → R It} {t : T} {b : Sl → OH → RS} {D : Ends} {σ : L2.St} {H : Hp} (ok : okT t = true) (tt : tS ew A (fun s h => (it s h).bind fun p h1 => forN t b p.2 p.1 s h1) D σ H) :
    tFor (tG ew (rI A) it) (gT K t) (tS ew A b) D σ H := by
  refine (tSA.stepF (ρ := rNo A) (rI A) it (fun p s h => forN t b p.2.2 p.2.1 s h) tt).mono fun J H1 t1 => ?_
  obtain ⟨m, h, s, a, rh, rs, ⟨_, ir⟩, p⟩ := t1
  obtain ⟨_, ws, wt⟩ := a
  have ir : IR A J ws wt m H1 := ir
  have p : PostS ew A m H1 (forN t b wt ws s h) D := p
  refine ⟨fun i μ σ' H' => μ = ws.length - i ∧ i ≤ ws.length ∧ ∃ m' h' s', Grow m H1 m' H' ∧ RelH A m' h' H' ∧ RelS A m' H' s' σ' ∧ PostS ew A m' H' (forN t b wt (ws.drop i) s' h') D,
    ⟨ws.length, by simp, Nat.zero_le _, m, h, s, Grow.refl _ _, rh, rs, by simpa using p⟩, ?_⟩
  rintro i μ σ2 H2 ⟨rfl, hi, m2, h2, s2, g2, r2, q2, p2⟩
  by_cases hlt : i < ws.length
  · rw [List.drop_eq_getElem_cons hlt] at p2
    simp only [forN] at p2
    split at p2
    · rename_i st
      refine .inr ?_
      obtain ⟨go, yl⟩ := ir.go i ws[i] m2 h2 H2 g2 r2 st (by simp [hlt])
      refine ⟨go, fun σ3 H3 => i + 1 ≤ ws.length ∧ ∃ m' h' s', Grow m H1 m' H3 ∧ RelH A m' h' H3 ∧ RelS A m' H3 s' σ3 ∧ PostS ew A m' H3 (forN t b wt (ws.drop (i + 1)) s' h') D, fun σ3 H3 nx => ⟨ws.length - (i + 1), by omega, rfl, nx.1, nx.2⟩, fun x H3 y => ?_⟩
      obtain ⟨g3, r3, rx⟩ := yl x H3 y
      unfold asgR at p2
      cases e4 : asgT t ws[i] s2 with
      | none => rw [e4] at p2; exact p2.elim
      | some s4 =>
        rw [e4] at p2
        simp only [R.bind_ok] at p2
        refine gT_ok hK t ws[i] x s2 s4 σ2 _ ok e4 rx (q2.grow r2 g3) fun σ4 of r4 => ?_
        exact tS.turn r3 r4 (PostS.from g3 p2) fun m' h' s' σ' H' g' r' q' p' => ⟨hlt, m', h', s', (g2.trans g3).trans g', r', q', p'⟩
    · exact p2.elim
  · have e : i = ws.length := by omega
    subst e
    rw [List.drop_length] at p2
    simp only [forN] at p2
    split at p2
    · rename_i st
      exact .inl ⟨ir.stop m2 h2 H2 g2 r2 st, p2 m2 σ2 H2 (Grow.refl _ _) r2 q2⟩
    · exact p2.elim
theorem RelS.par {m : List Addr} {H : Hp} : ∀ {is : List Nat} {ws : List W} {vs : List V} {s s' : Sl} {σ : L2.St}, RelS A m H s σ → Reps A m H ws vs → parS is ws s = some s' → is.length = ws.length ∧ RelS A m H s' ((is.zip vs).foldl (fun τ p => τ.set p.1 (some p.2)) σ)
  | [], _, _, s, s', σ, q, .nil, e => by cases e; exact ⟨rfl, q⟩
  | [], _, _, s, s', σ, q, .cons _ _, e => by cases e
  | i :: is, _, _, s, s', σ, q, .nil, e => by cases e
  | i :: is, _, _, s, s', σ, q, .cons a b, e => by
    obtain ⟨h1, h2⟩ := RelS.par (q.set a) b (show parS is _ (setS s i _) = some s' from e)
    exact ⟨by simp [h1], h2⟩
end
section
variable {A : At} {m : List Addr} {H H2 : Hp} {l : List Addr}
/-- a statement whose leavings are dropped -/
theorem tS.gc {ew : XK} {own : List Nat} {g : Sl → OH → RS} {D : Ends} {σ : L2.St} {H : Hp} (t : tS ew A (fun s h => (g s h).bind (gcS own h)) D σ H) : tS ew A g D σ H := by
  obtain ⟨m, h, s, a, rh, rs, ra, p⟩ := t
  refine ⟨m, h, s, a, rh, rs, ra, ?_⟩
  have p : PostS ew A m H ((g s h).bind (gcS own h)) D := p
  show PostS ew A m H (g s h) D
  revert p
  cases g s h with
  | exc c fs h2 => exact fun p => p
  | no => exact fun p => p
  | ok q h2 =>
    obtain ⟨f, s2⟩ := q
    simp only [R.bind_ok, gcS]
    split
    · rename_i hc
      simp only [Bool.and_eq_true, ← rh.len] at hc
      obtain ⟨⟨c1, c2⟩, c3⟩ := hc
      intro p
      cases f with
      | nx =>
        intro m' σ' H' g' r' q'
        obtain ⟨r3, g3⟩ := rh.cut g' r' c3
        obtain ⟨l, rfl, _⟩ := g'.map
        exact p m σ' H' g3 r3 (q'.low c2)
      | bk =>
        intro m' σ' H' g' r' q'
        obtain ⟨r3, g3⟩ := rh.cut g' r' c3
        obtain ⟨l, rfl, _⟩ := g'.map
        exact p m σ' H' g3 r3 (q'.low c2)
      | ct =>
        intro m' σ' H' g' r' q'
        obtain ⟨r3, g3⟩ := rh.cut g' r' c3
        obtain ⟨l, rfl, _⟩ := g'.map
        exact p m σ' H' g3 r3 (q'.low c2)
      | rt w =>
        intro m' v H' g' r' q'
        obtain ⟨r3, g3⟩ := rh.cut g' r' c3
        obtain ⟨l, rfl, _⟩ := g'.map
        exact p m v H' g3 r3 (q'.low c1)
    · exact fun p => p.elim
end
/-! ### the look -/
section
/-- a value that a name takes over: [..] as a comprehension on one line with a local name -/
def swapB (sc : Scope) (tg e : Expr) : Bool := match e with
  | .ListComp _ _ s p => (match tg with
    | .Name t q => (match sc.names.lookup t with | some .local => true | _ => false) && (q.line == p.line) && !(s.names.any fun (n, k) => n == t && (k == .local || k == .cell))
    | _ => false)
  | _ => false
def isName : Expr → Bool
  | .Name .. => true
  | _ => false
def notGc : E → Bool
  | .gc _ => false
  | _ => true
def isLC : Expr → Bool
  | .ListComp .. => true
  | _ => false
/-- the names of a pair of tuples whose stores are swapped -/
def parNames (sc : Scope) (ts : List Expr) : List Str := ts.filterMap fun
    | .Name id pos => if sc.names.lookup id == some .local && pos.line == (ts.head?.map (·.pos.line)).getD 0 then some id else none
    | _ => none
/-- no swapped stores -/
def swNone (sc : Scope) (tg e : Expr) : Bool := match tg, e with
  | .Tuple ts _ _, .Tuple vs _ _ => (!(ts.length == 2 || ts.length == 3) || vs.length != ts.length) || ((parNames sc ts).length != ts.length || (parNames sc ts).eraseDups.length != (parNames sc ts).length)
  | .List .., _ => false
  | _, _ => true
def swSome (sc : Scope) (ts vs : List Expr) : Bool := (ts.length == 2 || ts.length == 3) && (vs.length == ts.length) && ((parNames sc ts).length == ts.length) && ((parNames sc ts).eraseDups.length == (parNames sc ts).length) && !(vs.all (foldedForSure 8)) && !(vs.all (constantsAlone 8))
variable (nm : List Str) (cn : List (Str × W)) (N : List Str) (sc : Scope)
mutual
def chk1 : S → Stmt → Bool
  | .skip => fun st => match st with
    | .Pass _ => true
    | .Expr (.Constant (.str _) _ _) _ => true
    | _ => false
  | .asg t e => fun st => match st with
    | .Assign [tg] x _ => chkT N sc t tg && chkE nm cn N sc e x && notComp2 x && swNone sc tg x && (!isLC x || notGc e)
    | _ => false
  | .par is as => fun st => match st with
    | .Assign [.Tuple ts _ _] (.Tuple vs _ _) _ => swSome sc ts vs && chkA nm cn N sc as vs && (match is, ts with
      | [i, j], [.Name x _, .Name y _] => decide (N[i]? = some x) && decide (N[j]? = some y) && decide (i ≠ j)
      | [i, j, l], [.Name x _, .Name y _, .Name z _] => decide (N[i]? = some x) && decide (N[j]? = some y) && decide (N[l]? = some z) && decide (i ≠ j) && decide (i ≠ l) && decide (j ≠ l)
      | _, _ => false)
    | _ => false
  | .seti o i e => fun st => match st with
    | .Assign [.Subscript x y _] z _ => notSlice y && notComp z && chkE nm cn N sc e z && chkE nm cn N sc o x && chkE nm cn N sc i y
    | _ => false
  | .ex e => fun st => match st with
    | .Expr x _ => notComp x && chkE nm cn N sc e x
    | _ => false
  | .ret e => fun st => match st with
    | .Return (some x) _ => chkE nm cn N sc e x
    | _ => false
  | .retn => fun st => match st with
    | .Return none _ => true
    | _ => false
  | .ite t a b => fun st => match st with
    | .If c p q _ => chkE nm cn N sc t c && chkS a p && chkS b q
    | _ => false
  | .whl t b => fun st => match st with
    | .While c p [] _ => chkE nm cn N sc t c && chkS b p
    | _ => false
  | .for t it b => fun st => match st with
    | .For tg iter p [] _ => notSet iter && (!needT it || isTup tg) && chkI nm cn N sc it iter && chkT N sc t tg && chkS b p
    | _ => false
  | .brk => fun st => match st with
    | .Break _ => true
    | _ => false
  | .cnt => fun st => match st with
    | .Continue _ => true
    | _ => false
  | .gc _ a => chk1 a
  | _ => fun _ => false
def chkS : S → List Stmt → Bool
  | .skip => fun sts => match sts with
    | [] => true
    | _ => false
  | .sq a b => fun sts => match sts with
    | x :: xs => chk1 a x && chkS b xs
    | _ => false
  | .gc _ a => chkS a
  | _ => fun _ => false
end
end
end Wm
end

section
set_option Elab.async false
set_option linter.all false
set_option maxRecDepth 100000
set_option maxHeartbeats 4000000
set_option autoImplicit false
/-! Statements. -/
namespace Wm
open PySem PySem.Spec PyProof.Rows L2

section
variable {env : Env} {sc : Scope}
theorem block_fun (hs : env.scope = sc) (hk : sc.kind = .function) : env.blockKind = .function := by
  unfold Env.blockKind
  rw [hs, hk]
  rfl
theorem swaps_no (hs : env.scope = sc) (hk : sc.kind = .function) {tg e : Expr} (hc : notComp2 e = true) (h : swapB sc tg e = false) (l : Nat) : swapsWith e (some tg) l env = pure false := by
  have hb := block_fun hs hk
  cases e with
  | ListComp elt gs s p =>
    cases tg with
    | Name t q =>
      have key : (env.kindOf t == some .local && q.line == p.line && !(s.names.any fun (n, k) => n == t && (k == .local || k == .cell))) = false := by
        rw [show env.kindOf t = sc.names.lookup t from by unfold Env.kindOf; rw [hs]]
        rw [← h]
        unfold swapB
        dsimp only
        congr 2
        cases sc.names.lookup t with
        | none => rfl
        | some k => cases k <;> rfl
      unfold swapsWith
      simp only [hb, Expr.pos]
      show (pure (_ : Bool) : Sem Bool) = _
      congr 1
    | _ => rfl
  | SetComp => cases hc
  | DictComp => cases hc
  | _ => rfl
theorem stores_no (hs : env.scope = sc) (hk : sc.kind = .function) {tg e : Expr} (h : swNone sc tg e = true) : swappedStores [tg] e env = pure none := by
  have hb := block_fun hs hk
  cases tg with
  | Tuple ts kk p =>
    cases e with
    | Tuple vs k2 p2 =>
      unfold swappedStores
      simp only [swNone] at h
      by_cases h1 : (!(ts.length == 2 || ts.length == 3) || vs.length != ts.length || env.blockKind != .function) = true
      · simp only [h1, if_true]
      · simp only [h1, Bool.false_eq_true, if_false]
        generalize List.any vs _ = bb
        cases bb with
        | true => rfl
        | false =>
          generalize hf : List.filterMap _ ts = nms
          have e : nms = parNames sc ts := by
            rw [← hf]
            unfold parNames Env.kindOf
            rw [hs]
            congr 1
          subst e
          rw [hb] at h1
          have h3 : ((parNames sc ts).length != ts.length || (parNames sc ts).eraseDups.length != (parNames sc ts).length) = true := by
            rcases Bool.or_eq_true_iff.mp h with z | z
            · exact absurd (by rw [z]; rfl) h1
            · exact z
          simp only [h3]
          rfl
    | _ => rfl
  | List ts p => cases h
  | _ => cases e <;> rfl
theorem stores_yes (hs : env.scope = sc) (hk : sc.kind = .function) {ts vs : List Expr} {kk k2 : Nat} {p p2 : Pos} (h : swSome sc ts vs = true) (hv : ∀ e ∈ vs, ∀ x p, e ≠ .Starred x p) : swappedStores [.Tuple ts kk p] (.Tuple vs k2 p2) env = pure (some (parNames sc ts)) := by
  have hb := block_fun hs hk
  simp only [swSome, Bool.and_eq_true, Bool.not_eq_true', beq_iff_eq] at h
  obtain ⟨⟨⟨⟨⟨h1, h2⟩, h3⟩, h4⟩, h5⟩, h6⟩ := h
  unfold swappedStores
  have c1 : (!(ts.length == 2 || ts.length == 3) || vs.length != ts.length || env.blockKind != .function) = false := by
    rw [h1, h2, hb]
    simp
  simp only [c1, Bool.false_eq_true, if_false]
  generalize hbb : List.any vs _ = bb
  have hbf : bb = false := by
    rw [← hbb, List.any_eq_false]
    intro e he
    cases e with
    | Starred x p => exact absurd rfl (hv _ he x p)
    | _ => simp
  subst hbf
  generalize hf : List.filterMap _ ts = nms
  have e : nms = parNames sc ts := by
    rw [← hf]
    unfold parNames Env.kindOf
    rw [hs]
    congr 1
  subst e
  have c3 : ((parNames sc ts).length != ts.length || (parNames sc ts).eraseDups.length != (parNames sc ts).length) = false := by
    rw [h4, h3]
    simp
  simp only [c3, h5, h6]
  rfl
end

section
variable {A : At} {tab : List Fn} {nm : List Str} {cn : List (Str × W)} {N : List Str} {k : Nat}
theorem parNames2 {sc : Scope} {x y : Str} {px py : Pos} (h : (parNames sc [.Name x px, .Name y py]).length = 2) : parNames sc [.Name x px, .Name y py] = [x, y] ∧ sc.names.lookup x = some .local ∧ sc.names.lookup y = some .local := by
  simp only [parNames, List.filterMap_cons, List.filterMap_nil] at h ⊢
  split at h
  · split at h
    · cases h
    · cases h
  · rename_i a ea
    split at h
    · cases h
    · rename_i b eb
      simp only [Option.ite_none_right_eq_some, Bool.and_eq_true, beq_iff_eq, Option.some.injEq] at ea eb
      obtain ⟨⟨e1, _⟩, rfl⟩ := ea
      obtain ⟨⟨e2, e3⟩, rfl⟩ := eb
      refine ⟨?_, e1, e2⟩
      simp [e1, e2, e3]
theorem parNames3 {sc : Scope} {x y z : Str} {px py pz : Pos} (h : (parNames sc [.Name x px, .Name y py, .Name z pz]).length = 3) :
    parNames sc [.Name x px, .Name y py, .Name z pz] = [x, y, z] ∧ sc.names.lookup x = some .local ∧ sc.names.lookup y = some .local ∧ sc.names.lookup z = some .local := by
  simp only [parNames, List.filterMap_cons, List.filterMap_nil] at h ⊢
  split at h
  · split at h
    · split at h <;> cases h
    · split at h <;> cases h
  · rename_i a ea
    split at h
    · split at h <;> cases h
    · rename_i b eb
      split at h
      · cases h
      · rename_i c ec
        simp only [Option.ite_none_right_eq_some, Bool.and_eq_true, beq_iff_eq, Option.some.injEq] at ea eb ec
        obtain ⟨⟨e1, _⟩, rfl⟩ := ea
        obtain ⟨⟨e2, e3⟩, rfl⟩ := eb
        obtain ⟨⟨e4, e5⟩, rfl⟩ := ec
        refine ⟨?_, e1, e2, e4⟩
        simp [e1, e2, e3, e4, e5]
/-- what holds of each statement -/
structure SndS (A : At) (tab : List Fn) (nm : List Str) (cn : List (Str × W)) (N : List Str) (k : Nat) (a : S) : Prop where
  f1 : ∀ (X : Cx) (sc : Scope) (ew : XK) (st : Stmt), Ctx A tab nm cn N k X sc sc ew → sc.kind = .function → chk1 nm cn N sc a st = true → PS X st (tS ew A (ex (callN tab k) a))
  fs : ∀ (X : Cx) (sc : Scope) (ew : XK) (sts : List Stmt), Ctx A tab nm cn N k X sc sc ew → sc.kind = .function → chkS nm cn N sc a sts = true → PSs X sts (tS ew A (ex (callN tab k) a))
theorem no_f1 {a : S} {X : Cx} {st : Stmt} {sc : Scope} {t : TS} (d : ∀ sc e, chk1 nm cn N sc a e = false) (h : chk1 nm cn N sc a st = true) : PS X st t := by rw [d] at h; cases h
theorem no_fs {a : S} {X : Cx} {sts : List Stmt} {sc : Scope} {t : TS} (d : ∀ sc e, chkS nm cn N sc a e = false) (h : chkS nm cn N sc a sts = true) : PSs X sts t := by rw [d] at h; cases h
theorem SndS.one {a : S} (d : ∀ sc e, chkS nm cn N sc a e = false) (f : ∀ (X : Cx) (sc : Scope) (ew : XK) (st : Stmt), Ctx A tab nm cn N k X sc sc ew → sc.kind = .function → chk1 nm cn N sc a st = true → PS X st (tS ew A (ex (callN tab k) a))) : SndS A tab nm cn N k a :=
  ⟨f, fun _ _ _ _ _ _ h => no_fs d h⟩
theorem sub_swaps {o i x : Expr} {p : Pos} (h : notComp x = true) (l : Nat) (env : Env) : swapsWithSole [.Subscript o i p] x l env = pure false := by cases x <;> first | rfl | cases h
theorem comp2_of {x : Expr} (h : notComp x = true) : notComp2 x = true := by cases x <;> first | rfl | cases h
theorem f_asg {t : T} {e : E} (X : Cx) (sc : Scope) (ew : XK) (st : Stmt) (C : Ctx A tab nm cn N k X sc sc ew) (hk : sc.kind = .function) (h : chk1 nm cn N sc (.asg t e) st = true) : PS X st (tS ew A (ex (callN tab k) (.asg t e))) := by
  simp only [chk1] at h
  split at h
  · rename_i tg x pos
    simp only [Bool.and_eq_true] at h
    obtain ⟨⟨⟨⟨h1, h2⟩, h3⟩, h4⟩, h5⟩ := h
    obtain ⟨tk, ns, _⟩ := chkT_ok t tg h1
    by_cases hs : swapB sc tg x = true
    · -- a comprehension that a name takes over
      unfold swapB at hs
      split at hs
      · rename_i elt gs scope p
        split at hs
        · rename_i y q _
          simp only [Bool.and_eq_true, Bool.not_eq_true'] at hs
          obtain ⟨⟨g1, g2⟩, g3⟩ := hs
          have g1 : sc.names.lookup y = some .local := by
            revert g1
            cases sc.names.lookup y with
            | none => intro z; cases z
            | some kd => cases kd <;> first | (intro _; rfl) | (intro z; cases z)
          cases t with
          | nm i =>
            simp only [chkT, Bool.and_eq_true, decide_eq_true_eq] at h1
            cases e with
            | lc el own t2 it cond =>
              simp only [chkE] at h2
              split at h2
              · rename_i elt' tg' iter ifs scope' pos' heq
                cases heq
                simp only [Bool.and_eq_true, List.all_eq_true, decide_eq_true_eq] at h2
                obtain ⟨⟨⟨⟨⟨⟨⟨a1, a2⟩, a3⟩, a4⟩, a5⟩, a6⟩, a7⟩, a8⟩ := h2
                have ov : (own.map fun i => (N.getD i "", i)).map (·.2) = own := by rw [List.map_map]; exact (List.map_congr_left fun _ _ => rfl).trans (List.map_id own)
                have hyl : X.env.scope.names.lookup y = some .local := by rw [C.sc]; exact g1
                have pl := ps_setLc (X := X) (i := i) (g := gT X.K t2) (elt := elt) (spos := pos) (py := q) (pos := p) C.calm (by rw [C.eN]; exact C.nd) (by rw [C.eN]; exact h1.1) hyl
                  (sw_true (by rw [C.sc]; exact hk) hyl g2 g3)
                  ((snd it).fi X sc sc ew iter tg' C a4 a5) (by rw [C.eN, C.sc]; exact blkOk_by a1)
                  (fun s H Cd cl fp => pg_T (C.blk s H scope Cd cl fp).tgtOf t2 tg' a6) (fun s H Cd cl fp => (snd cond).fc _ _ _ _ ifs (C.blk s H scope Cd cl fp) a7) (fun s H Cd cl fp => (snd el).fe _ _ _ _ elt (C.blk s H scope Cd cl fp) a8) (fun x => notSet_fold a3 _ x)
                rw [ov] at pl
                refine PS.weak pl fun D σ H tt => ?_
                refine tLc_of C.K (chkT_ok t2 tg' a6).1 a2 ?_
                refine (tSA.stepF (ρ := rNo A) (rW A) (ev (callN tab k) (.lc el own t2 it cond)) (fun p s h1 => (asgR (.nm i) p.2 s h1).bind fun s' h2 => .ok (.nx, s') h2) tt).mono fun v H1 ⟨m, hp, so, c, rh, rs, ⟨_, rv⟩, p⟩ => ?_
                exact p m _ H1 (Grow.refl _ _) rh (rs.set rv)
              · cases h2
            | gc a => simp [isLC, notGc] at h5
            | _ => simp [chkE] at h2
          | _ => simp [chkT] at h1
        · cases hs
      · cases hs
    · have hs : swapB sc tg x = false := by simpa using hs
      refine PS.weak (ps_asg ((snd e).fe X sc sc ew x C h2) (pg_T C.tgtOf t tg h1) (swaps_no C.sc hk h3 hs _) (stores_no C.sc hk h4) (by rw [assign_each ns]; rfl)) fun D σ H tt => ?_
      refine (tSA.stepF (ρ := rNo A) (rW A) (ev (callN tab k) e) (fun p s h1 => (asgR t p.2 s h1).bind fun s' h2 => .ok (.nx, s') h2) tt).mono fun v H1 ⟨m, hp, so, c, rh, rs, ⟨_, rv⟩, p⟩ => ?_
      obtain ⟨c1, c2⟩ := c
      have rv : Rep A m H1 c2 v := rv
      have p : PostS ew A m H1 ((asgR t c2 so hp).bind fun s' h2 => .ok (.nx, s') h2) D := p
      unfold asgR at p
      cases e4 : asgT t c2 so with
      | none => rw [e4] at p; exact p.elim
      | some s4 =>
        rw [e4] at p
        exact gT_ok C.K.symm t c2 v so s4 σ _ tk e4 rv rs fun σ4 of r4 => p m σ4 H1 (Grow.refl _ _) rh r4
  · cases h
theorem f_par {is : List Nat} {as : E} (X : Cx) (sc : Scope) (ew : XK) (st : Stmt) (C : Ctx A tab nm cn N k X sc sc ew) (hk : sc.kind = .function) (h : chk1 nm cn N sc (.par is as) st = true) : PS X st (tS ew A (ex (callN tab k) (.par is as))) := by
  simp only [chk1] at h
  split at h
  · rename_i ts kk p vs k2 p2 pos
    simp only [Bool.and_eq_true] at h
    obtain ⟨⟨h1, h2⟩, h3⟩ := h
    have hv := chkA_star nm cn N sc as vs h2
    have sy := stores_yes (kk := kk) (k2 := k2) (p := p) (p2 := p2) C.sc hk h1 hv
    simp only [swSome, Bool.and_eq_true, beq_iff_eq] at h1
    have pa := (snd as).fa X sc sc ew vs C h2
    have hN : X.N.Nodup := by rw [C.eN]; exact C.nd
    split at h3
    · rename_i i j x px y py
      simp only [Bool.and_eq_true, decide_eq_true_eq] at h3
      obtain ⟨e1, l1, l2⟩ := parNames2 h1.1.1.1.2
      rw [e1] at sy
      have hl : vs.length = 2 := h1.1.1.1.1.2
      match vs, hl with
      | [a, b], _ =>
        refine PS.weak (ps_par C.calm hN (by rw [C.eN]; exact h3.1.1) (by rw [C.eN]; exact h3.1.2) h3.2 (by rw [C.sc]; exact l1) (by rw [C.sc]; exact l2) pa sy) fun D σ H tt => ?_
        refine (tSA.stepF (ρ := rNo A) (rWs A) (evs (callN tab k) as) (fun p s h1 => parR [i, j] p.2 s h1) tt).mono fun us H1 ⟨m, hp, so, c, rh, rs, ⟨_, rv⟩, p⟩ => ?_
        obtain ⟨c1, c2⟩ := c
        have rv : Reps A m H1 c2 us := rv
        have p : PostS ew A m H1 (parR [i, j] c2 so hp) D := p
        unfold parR at p
        cases e4 : parS [i, j] c2 so with
        | none => rw [e4] at p; exact p.elim
        | some s4 =>
          rw [e4] at p
          obtain ⟨hl2, r4⟩ := RelS.par rs rv e4
          have hl3 : us.length = 2 := by rw [← rv.length, ← hl2]; rfl
          match us, hl3 with
          | [u1, u2], _ => exact ⟨u1, u2, rfl, p m _ H1 (Grow.refl _ _) rh r4⟩
    · rename_i i j l x px y py z pz
      simp only [Bool.and_eq_true, decide_eq_true_eq] at h3
      obtain ⟨e1, l1, l2, l3⟩ := parNames3 h1.1.1.1.2
      rw [e1] at sy
      have hl : vs.length = 3 := h1.1.1.1.1.2
      match vs, hl with
      | [a, b, c], _ =>
        obtain ⟨⟨⟨⟨⟨b1, b2⟩, b3⟩, b4⟩, b5⟩, b6⟩ := h3
        refine PS.weak (ps_par3 C.calm hN (by rw [C.eN]; exact b1) (by rw [C.eN]; exact b2) (by rw [C.eN]; exact b3) b4 b5 b6 (by rw [C.sc]; exact l1) (by rw [C.sc]; exact l2) (by rw [C.sc]; exact l3) pa sy) fun D σ H tt => ?_
        refine (tSA.stepF (ρ := rNo A) (rWs A) (evs (callN tab k) as) (fun p s h1 => parR [i, j, l] p.2 s h1) tt).mono fun us H1 ⟨m, hp, so, c, rh, rs, ⟨_, rv⟩, p⟩ => ?_
        obtain ⟨c1, c2⟩ := c
        have rv : Reps A m H1 c2 us := rv
        have p : PostS ew A m H1 (parR [i, j, l] c2 so hp) D := p
        unfold parR at p
        cases e4 : parS [i, j, l] c2 so with
        | none => rw [e4] at p; exact p.elim
        | some s4 =>
          rw [e4] at p
          obtain ⟨hl2, r4⟩ := RelS.par rs rv e4
          have hl3 : us.length = 3 := by rw [← rv.length, ← hl2]; rfl
          match us, hl3 with
          | [u1, u2, u3], _ => exact ⟨u1, u2, u3, rfl, p m _ H1 (Grow.refl _ _) rh r4⟩
    · cases h3
  · cases h
theorem f_seti {o i e : E} (X : Cx) (sc : Scope) (ew : XK) (st : Stmt) (C : Ctx A tab nm cn N k X sc sc ew) (hk : sc.kind = .function) (h : chk1 nm cn N sc (.seti o i e) st = true) : PS X st (tS ew A (ex (callN tab k) (.seti o i e))) := by
  simp only [chk1] at h
  split at h
  · rename_i x y tp z pos
    simp only [Bool.and_eq_true] at h
    obtain ⟨⟨⟨⟨h1, h2⟩, h3⟩, h4⟩, h5⟩ := h
    have pg : PG X (.Subscript x y tp) (gSub (tG ew (rW A) (ev (callN tab k) o)) (tG ew (rW A) (ev (callN tab k) i)) (c3 A ew)) := by
      refine pg_sub ((snd o).fe X sc sc ew x C h4) ((snd i).fe X sc sc ew y C h5) (set_ok C.toCalm) ?_
      cases y <;> first | (intro _; rfl) | cases h1
    refine PS.weak (ps_asg ((snd e).fe X sc sc ew z C h3) pg (sub_swaps h2 _ _) (by cases z <;> rfl) rfl) fun D σ H tt => ?_
    refine (tSA.stepF (ρ := rNo A) (rW A) (ev (callN tab k) e) (fun p s h1 => (ev (callN tab k) o s h1).bind fun y h2 => (ev (callN tab k) i s h2).bind fun z h3 => (setIx y z p.2 h3).bind fun _ h4 => .ok (.nx, s) h4) tt).mono fun v H1 t1 => ?_
    refine (tSA.stepF (ρ := rP A (rNo A) (rW A)) (rW A) (ev (callN tab k) o) (fun p s h2 => (ev (callN tab k) i s h2).bind fun z h3 => (setIx p.2 z p.1.2 h3).bind fun _ h4 => .ok (.nx, s) h4) t1).mono fun u H2 t2 => ?_
    refine (tSA.stepF (ρ := rP A (rP A (rNo A) (rW A)) (rW A)) (rW A) (ev (callN tab k) i) (fun p s h3 => (setIx p.1.2 p.2 p.1.1.2 h3).bind fun _ h4 => .ok (.nx, s) h4) t2).mono fun w H3 ⟨m, hp, so, c, rh, rs, ⟨⟨⟨_, r1⟩, r2⟩, r3⟩, p⟩ => ?_
    obtain ⟨⟨⟨c1, c2⟩, c3⟩, c4⟩ := c
    have p : PostS ew A m H3 ((setIx c3 c4 c2 hp).bind fun _ h4 => .ok (.nx, so) h4) D := p
    refine ⟨m, hp, c3, c4, c2, rh, r2, r3, r1, ?_⟩
    cases q : setIx c3 c4 c2 hp with
    | ok a h4 =>
      rw [q] at p
      exact fun m' b H' g' r' _ => p m' σ H' g' r' (rs.grow rh g')
    | exc c fs h4 => rw [q] at p; exact p
    | no => rw [q] at p; exact p
  · cases h
theorem ex_whl {G : Nat → List W → OH → R W} {t : E} {b : S} : ex G (.whl t b) = whlN (evT G t) (ex G b) fuel := by
  funext s h
  rw [ex]
theorem snds : ∀ a : S, SndS A tab nm cn N k a := by
  intro a
  induction a with
  | skip =>
    refine ⟨fun X sc ew st C hk h => ?_, fun X sc ew sts C hk h => ?_⟩
    · simp only [chk1] at h
      split at h
      · exact PS.weak ps_pass fun D σ H t => tS.nx t
      · exact PS.weak ps_doc fun D σ H t => tS.nx t
      · cases h
    · simp only [chkS] at h
      split at h
      · exact PSs.weak pss_nil fun D σ H t => t.nx
      · cases h
  | sq a b ha hb =>
    refine ⟨fun X sc ew st C hk h => no_f1 (fun _ _ => rfl) h, fun X sc ew sts C hk h => ?_⟩
    simp only [chkS] at h
    split at h
    · rename_i x xs
      simp only [Bool.and_eq_true] at h
      exact PSs.weak (pss_cons (ha.f1 X sc ew x C hk h.1) (hb.fs X sc ew xs C hk h.2)) fun D σ H t => t.seq
    · cases h
  | gc own b hb =>
    refine ⟨fun X sc ew st C hk h => PS.weak (hb.f1 X sc ew st C hk (by simpa only [chk1] using h)) fun D σ H t => tS.gc t, fun X sc ew sts C hk h => ?_⟩
    exact PSs.weak (hb.fs X sc ew sts C hk (by simpa only [chkS] using h)) fun D σ H t => tS.gc t
  | asg t e => exact SndS.one (fun _ _ => rfl) f_asg
  | par is as => exact SndS.one (fun _ _ => rfl) f_par
  | seti o i e => exact SndS.one (fun _ _ => rfl) f_seti
  | ex e =>
    refine SndS.one (fun _ _ => rfl) fun X sc ew st C hk h => ?_
    simp only [chk1] at h
    split at h
    · rename_i x pos
      simp only [Bool.and_eq_true] at h
      refine PS.weak (ps_expr ((snd e).fe X sc sc ew x C h.2) (by have z := h.1; cases x <;> first | rfl | cases z)) fun D σ H tt => ?_
      refine (tSA.stepF (ρ := rNo A) (rW A) (ev (callN tab k) e) (fun p s h1 => .ok (.nx, s) h1) tt).mono fun v H1 ⟨m, hp, so, c, rh, rs, ⟨_, rv⟩, p⟩ => ?_
      exact p m σ H1 (Grow.refl _ _) rh rs
    · cases h
  | ret e =>
    refine SndS.one (fun _ _ => rfl) fun X sc ew st C hk h => ?_
    simp only [chk1] at h
    split at h
    · rename_i x pos
      refine PS.weak (ps_ret ((snd e).fe X sc sc ew x C h)) fun D σ H tt => ?_
      refine (tSA.stepF (ρ := rNo A) (rW A) (ev (callN tab k) e) (fun p s h1 => .ok (.rt p.2, s) h1) tt).mono fun v H1 ⟨m, hp, so, c, rh, rs, ⟨_, rv⟩, p⟩ => ?_
      exact p m v H1 (Grow.refl _ _) rh rv
    · cases h
  | retn =>
    refine SndS.one (fun _ _ => rfl) fun X sc ew st C hk h => ?_
    simp only [chk1] at h
    split at h
    · refine PS.weak ps_retN fun D σ H ⟨m, hp, so, c, rh, rs, _, p⟩ => ?_
      exact p m .non H (Grow.refl _ _) rh .non
    · cases h
  | ite t a b ha hb =>
    refine SndS.one (fun _ _ => rfl) fun X sc ew st C hk h => ?_
    simp only [chk1] at h
    split at h
    · rename_i c p q pos
      simp only [Bool.and_eq_true] at h
      refine PS.weak (ps_if ((snd t).ft X sc sc ew c C h.1.1) (ha.fs X sc ew p C hk h.1.2) (hb.fs X sc ew q C hk h.2)) fun D σ H tt => ?_
      refine (tSA.stepF (ρ := rNo A) (rE A Bool) (evT (callN tab k) t) (fun p s h1 => if p.2 = true then ex (callN tab k) a s h1 else ex (callN tab k) b s h1) tt).mono fun kb H1 ⟨m, hp, so, c, rh, rs, ⟨_, rv⟩, p⟩ => ?_
      obtain ⟨c1, c2⟩ := c
      have rv : c2 = kb := rv
      subst rv
      have p : PostS ew A m H1 (if c2 = true then ex (callN tab k) a so hp else ex (callN tab k) b so hp) D := p
      cases c2 with
      | true => rw [if_pos rfl] at p ⊢; exact ⟨m, hp, so, (), rh, rs, trivial, p⟩
      | false => rw [if_neg (by decide)] at p ⊢; exact ⟨m, hp, so, (), rh, rs, trivial, p⟩
    · cases h
  | whl t b hb =>
    refine SndS.one (fun _ _ => rfl) fun X sc ew st C hk h => ?_
    simp only [chk1] at h
    split at h
    · rename_i c p pos
      simp only [Bool.and_eq_true] at h
      exact PS.weak (ps_while C.pass ((snd t).ft X sc sc ew c C h.1) (hb.fs X sc ew p C hk h.2)) fun D σ H tt => tS.whl (n := fuel) (by rw [← ex_whl]; exact tt)
    · cases h
  | «for» t it b hb =>
    refine SndS.one (fun _ _ => rfl) fun X sc ew st C hk h => ?_
    simp only [chk1] at h
    split at h
    · rename_i tg iter p pos
      simp only [Bool.and_eq_true] at h
      obtain ⟨⟨⟨⟨h1, h2⟩, h3⟩, h4⟩, h5⟩ := h
      exact PS.weak (ps_for C.pass C.calm ((snd it).fi X sc sc ew iter tg C h2 h3) (pg_T C.tgtOf t tg h4) (hb.fs X sc ew p C hk h5) fun x => notSet_fold h1 _ x) fun D σ H tt => tS.for C.K.symm (chkT_ok t tg h4).1 tt
    · cases h
  | brk =>
    refine SndS.one (fun _ _ => rfl) fun X sc ew st C hk h => ?_
    simp only [chk1] at h
    split at h
    · exact PS.weak ps_break fun D σ H ⟨m, hp, so, c, rh, rs, _, p⟩ => p m σ H (Grow.refl _ _) rh rs
    · cases h
  | cnt =>
    refine SndS.one (fun _ _ => rfl) fun X sc ew st C hk h => ?_
    simp only [chk1] at h
    split at h
    · exact PS.weak ps_continue fun D σ H ⟨m, hp, so, c, rh, rs, _, p⟩ => p m σ H (Grow.refl _ _) rh rs
    · cases h
end
end Wm
end

section
set_option Elab.async false
set_option linter.all false
set_option maxRecDepth 100000
set_option maxHeartbeats 4000000
set_option autoImplicit false
/-! Defs. -/
namespace Wm
open PySem PySem.Spec PyProof.Rows L2

/-- plain parameters: no defaults, no stars -/
def plainP (a : Arguments) : Bool := a.posonlyargs.isEmpty && a.vararg.isNone && a.kwonlyargs.isEmpty && a.kwarg.isNone
theorem look_zip : ∀ {ps : List Str} {us : List Value} {x : Str}, us.length = ps.length → x ∈ ps → ((ps.zip us).lookup x).isNone = false
  | [], _, x, _, h => by simp at h
  | p :: ps, [], x, hl, h => by simp at hl
  | p :: ps, u :: us, x, hl, h => by
    simp only [List.zip_cons_cons, List.lookup_cons]
    cases hb : x == p with
    | true => rfl
    | false =>
      rcases List.mem_cons.mp h with e | e
      · rw [e] at hb; simp at hb
      · exact look_zip (by simpa using hl) e
theorem binds_zip : ∀ {ps : List Str} {us : List Value}, us.length = ps.length → ps.Nodup → (ps.filterMap fun n => ((ps.zip us).lookup n).map fun v => (n, v)) = ps.zip us := by
  have key : ∀ (qs : List Str) (ps : List Str) (us : List Value), us.length = ps.length → ps.Nodup → qs.Nodup → (∀ x ∈ qs, x ∉ ps) → ∀ vs : List Value, vs.length = qs.length → (ps.filterMap fun n => ((qs.zip vs ++ ps.zip us).lookup n).map fun v => (n, v)) = ps.zip us := by
    intro qs ps
    induction ps generalizing qs with
    | nil => intros; rfl
    | cons p ps ih =>
      intro us hl nd nq dj vs hv
      cases us with
      | nil => simp at hl
      | cons u us =>
        have hp : (qs.zip vs ++ (p :: ps).zip (u :: us)).lookup p = some u := by
          have hq : ∀ (qs : List Str) (vs : List Value), p ∉ qs → (qs.zip vs ++ (p :: ps).zip (u :: us)).lookup p = some u := by
            intro qs
            induction qs with
            | nil => intro vs _; simp [List.lookup_cons]
            | cons q qs ih2 =>
              intro vs hq
              cases vs with
              | nil => simp [List.lookup_cons]
              | cons v vs =>
                simp only [List.zip_cons_cons, List.cons_append, List.lookup_cons]
                have : (p == q) = false := by
                  cases e : p == q with
                  | false => rfl
                  | true => exact absurd (by rw [eq_of_beq e]; exact List.mem_cons_self) hq
                rw [this]
                exact ih2 vs fun z => hq (List.mem_cons_of_mem _ z)
          exact hq qs vs fun z => dj p z List.mem_cons_self
        rw [List.filterMap_cons, hp]
        simp only [Option.map_some, List.zip_cons_cons, List.cons.injEq, true_and]
        have e : qs.zip vs ++ (p, u) :: ps.zip us = (qs ++ [p]).zip (vs ++ [u]) ++ ps.zip us := by
          rw [List.zip_append hv.symm]
          simp
        rw [e]
        refine ih (qs ++ [p]) us (by simpa using hl) (List.nodup_cons.mp nd).2 ?_ ?_ (vs ++ [u]) (by simp [hv])
        · rw [List.nodup_append]
          exact ⟨nq, by simp, fun a ha b hb => by rw [List.mem_singleton.mp hb]; intro z; exact dj a ha (by rw [z]; exact List.mem_cons_self)⟩
        · intro x hx
          rcases List.mem_append.mp hx with z | z
          · exact fun w => dj x z (List.mem_cons_of_mem _ w)
          · rw [List.mem_singleton.mp z]; exact (List.nodup_cons.mp nd).1
  intro ps us hl nd
  exact key [] ps us hl nd List.nodup_nil (by simp) [] rfl
theorem bind_plain {x qual : Str} {a : Arguments} {body : List Stmt} {scope : Scope} {kV doc pm : Value} {an : Option Addr} {cdv ct : Value} {us : List Value} (h : plainP a = true) (nd : (a.args.map (·.arg)).Nodup) (hl : us.length = (a.args.map (·.arg)).length) :
    bindArgs (PySem.W.fnOf x qual a body scope .none kV doc pm an cdv ct) ⟨us, []⟩ = pure ((a.args.map (·.arg)).zip us) := by
  obtain ⟨po, ar, va, ko, kd, kw, df⟩ := a
  simp only [plainP, Bool.and_eq_true, List.isEmpty_iff, Option.isNone_iff_eq_none] at h
  obtain ⟨⟨⟨rfl, rfl⟩, rfl⟩, rfl⟩ := h
  have hm : ((ar.map (·.arg)).take ((ar.map (·.arg)).length - ([] : List Value).length)).filter (fun n => (((ar.map (·.arg)).zip us).lookup n).isNone) = [] := by
    rw [List.filter_eq_nil_iff]
    intro n hn
    rw [look_zip hl (List.mem_of_mem_take hn)]
    decide
  have hb := binds_zip hl nd
  simp only [List.length_map] at hl hm
  unfold bindArgs PySem.W.fnOf
  simp only [List.map_nil, List.nil_append]
  have e0 : seqItems? Value.none = (pure none : Sem (Option (Array Value))) := rfl
  simp only [e0, pure_bind, List.length_map, hl, List.forIn_nil, Option.getD_none, gt_iff_lt, Nat.lt_irrefl, decide_false, Bool.false_and, Bool.false_eq_true, if_false, List.drop_nil, hm, List.isEmpty_nil, Bool.not_true, List.zip_nil_right, List.append_nil]
  rw [hb]

/-! ### a def by its body -/
section
variable {P : Program} {w : World} {K : PySem.W.Frag} {mg : Str → Option Value} {base : Heap}
/-- the def's rule, where no repr is under way -/
theorem FnW.of {x qual : Str} {params : Arguments} {body : List Stmt} {scope : Scope} {dvs : List V} {kws : List (Str × V)} {f : Addr} {fd : FuncData} {N ps : List Str} {k : Nat} {sp : Sp} (D : FunD K x qual params body scope dvs kws f fd) (Sc : FnScope N ps scope)
    (ln : ∀ vs H Q E, sp vs H Q E → vs.length = ps.length)
    (hb : ∀ (cdv : Value) (B : Around) (fr : List Env) (s : Shared) (H : Hp) (vs : List V) (Q : VK) (E : XK), B.guards = some [] → Room k (B.deeper (envOfC qual scope s.heap.objs.size f cdv)) → sp vs H Q E →
      ∃ t, PSs (cxOf (L2.CX P w) P w K mg base N qual scope f cdv B fr s H E) body t ∧ t { nx := fun _ H' => Q .non H', rt := Q } (start N vs) H) :
    FnW P w K mg base (k + 1) f fd ps sp := by
  obtain ⟨oc, od, dV, kV, doc, pm, an, cdv, ct, osl, rfl, look, code, _, _⟩ := D.ex
  refine ⟨ln, fun B fr s H args us vs Q E hg room e0 bnd rv hsp => ?_⟩
  have kin : K.In s.heap := e0.mod.kin.keeps fun b o e => (e0.bs b o e).1
  have nolim : s.heap.NoLimit := e0.mod.nolimit.keeps fun b o e => (e0.bs b o e).1
  have kinds : ∀ y ∈ ps.zip us, scope.names.lookup y.1 = some .local ∨ (scope.names.lookup y.1 = some .cell ∧ ((cellsFrom (s.heap.objs.size + 1) scope.names []).lookup y.1).isSome = true) := by
    rintro ⟨y, u⟩ hy
    exact (Sc.par y (List.of_mem_zip hy).1).imp id fun c => ⟨c, PySem.W.cellsFrom_some _ _ _ (.inl c)⟩
  refine codeAny_call_function room.depth (kin _ _ look) rfl Sc.co Sc.gen rfl (PySem.W.codeRec_of kin code) (bnd _ _ _ _ (wpAny_newFunctionEnv_cells Sc.kind kinds fun env he s1 ic => ?_))
  subst he
  refine ⟨nolim.keeps ic.toInCall.keep, codeAny_func ?_⟩
  obtain ⟨t, ht, hq⟩ := hb cdv B fr s H vs Q E hg (room.deeper _) hsp
  have inv := inv_start (CX := L2.CX P w) (E := E) Sc room.hd e0 (ln _ _ _ _ hsp) rv ic
  refine wpAny_mono (ht.run [] s1 (start N vs) H _ inv hq) (fun fl s' hs => ?_) fun _ _ z => z
  cases fl with
  | ret u =>
    obtain ⟨v, σ', H', J, rv', q⟩ := hs
    exact ⟨v, H', J.os, J.bare, J.base, J.hok, rv', q⟩
  | next =>
    obtain ⟨σ', H', J, q⟩ := hs
    exact ⟨V.non, H', J.os, J.bare, J.base, J.hok, rfl, q⟩
  | brk => obtain ⟨_, _, _, q⟩ := hs; exact q.elim
  | cont => obtain ⟨_, _, _, q⟩ := hs; exact q.elim
end
/-! ### the end of a def -/
theorem fin_ok {A : At} {m m2 : List Addr} {H H2 : Hp} {ew : XK} {gc : Bool} {h h2 : OH} {w : W} {v : V} {Q : VK} (rh : RelH A m h H) (p : Post ew (rW A) m H (fin gc h w h2) Q) (g : Grow m H m2 H2) (r2 : RelH A m2 h2 H2) (rv : Rep A m2 H2 w v) : Q v H2 := by
  unfold fin at p
  split at p
  · split at p
    · rename_i hc
      rw [Bool.and_eq_true] at hc
      obtain ⟨c1, c2⟩ := hc
      rw [← rh.len] at c1
      obtain ⟨r3, g3⟩ := rh.cut g r2 c2
      obtain ⟨l, rfl, _⟩ := g.map
      exact p m v H2 g3 r3 (Rep.low rv c1)
    · exact p.elim
  · exact p m2 v H2 g r2 rv
/-! ### all defs of a text, by the depth -/
/-- a def of the text: its name, its parameters, its names by slots, its statement -/
structure Df where
  x : Str
  ps : List Str
  N : List Str
  st : Stmt
def dfOk (nm : List Str) (cn : List (Str × W)) (d : Df) (f : Fn) : Bool :=
  plainP (defArgs d.st) && decide ((defArgs d.st).args.map (·.arg) = d.ps) && decide d.ps.Nodup && C8.scC d.N d.ps (defScope d.st) && Nat.beq f.slots d.N.length && Nat.beq f.params d.ps.length && chkS nm cn d.N (defScope d.st) f.body (defBody d.st)
/-- what the head tells -/
structure Said (A : At) (K : PySem.W.Frag) (mg : Str → Option Value) (cn : List (Str × W)) (ds : List Df) : Prop where
  blt : ∀ x ∈ biNames, mg x = none
  cns : ∀ x w, (x, w) ∈ cn → ∃ u v, mg x = some u ∧ RelV v u ∧ ∀ m H, Rep A m H w v
  fns : ∀ d ∈ ds, ∃ f fd, mg d.x = some (.ref f) ∧ FunD K d.x d.x (defArgs d.st) (defBody d.st) (defScope d.st) [] [] f fd
def allOk (cn : List (Str × W)) (ds : List Df) (tab : List Fn) : Bool := Nat.beq ds.length tab.length && (ds.zip tab).all fun p => dfOk (ds.map (·.x)) cn p.1 p.2
section
variable {A : At} {tab : List Fn} {ds : List Df} {cn : List (Str × W)} {P : Program} {w : World} {mg : Str → Option Value} {base : Heap}
theorem loc_ok {sc : Scope} {x : Str} (hx : loc sc x = true) : Loc sc x := by
  unfold loc at hx
  split at hx
  · rename_i q; exact .inl q
  · rename_i q; exact .inr q
  · cases hx
theorem RelS.begin {m : List Addr} {H : Hp} {ws : List W} {vs : List V} {N : List Str} {d : Fn} (r : Reps A m H ws vs) (hN : d.slots = N.length) : RelS A m H (startS d ws) (start N vs) := by
  have hl := r.length
  refine ⟨by simp [startS, L2.start, hl, hN], fun i u e => ?_⟩
  have e := getS_get _ _ _ e
  unfold startS at e
  unfold L2.start
  by_cases hi : i < ws.length
  · rw [List.getElem?_append_left (by simpa using hi), List.getElem?_map] at e
    rw [List.getElem?_append_left (by simpa [← hl] using hi), List.getElem?_map]
    cases q : ws[i]? with
    | none => rw [q] at e; cases e
    | some z =>
      rw [q] at e
      cases e
      obtain ⟨v, e1, e2⟩ := r.get q
      exact ⟨v, by rw [e1]; rfl, e2⟩
  · rw [List.getElem?_append_right (by simpa using hi), List.getElem?_replicate] at e
    split at e <;> cases e
theorem sp_len {k i : Nat} {d : Fn} (e : tab[i]? = some d) {vs : List V} {H : Hp} {Q : VK} {E : XK} (s : spW A tab k i vs H Q E) : vs.length = d.params := by
  obtain ⟨m, h, ws, rh, rv, p⟩ := s
  cases k with
  | zero => exact p.elim
  | succ k =>
    simp only [callN, e] at p
    split at p
    · rename_i hb
      rw [← rv.length]
      exact Nat.eq_of_beq_eq_true hb
    · exact p.elim
/-- the law's own defs keep their promise -/
theorem all_fns (sd : Said A A.K mg cn ds) (ok : allOk cn ds tab = true) : ∀ (k i : Nat) (d : Df), ds[i]? = some d → ∀ f fd, FunD A.K d.x d.x (defArgs d.st) (defBody d.st) (defScope d.st) [] [] f fd → FnW P w A.K mg base k f fd d.ps (spW A tab k i) := by
  simp only [allOk, Bool.and_eq_true, List.all_eq_true] at ok
  obtain ⟨hlen, hall⟩ := ok
  have hlen := Nat.eq_of_beq_eq_true hlen
  have ent : ∀ (i : Nat) (d : Df), ds[i]? = some d → ∃ t, tab[i]? = some t ∧ dfOk (ds.map (·.x)) cn d t = true := fun i d e => by
    have hi := (List.getElem?_eq_some_iff.mp e).1
    have ht : tab[i]? = some tab[i] := List.getElem?_eq_getElem (by omega)
    exact ⟨_, ht, hall (d, tab[i]) (List.mem_of_getElem? (i := i) (by rw [List.getElem?_zip_eq_some]; exact ⟨e, ht⟩))⟩
  intro k
  induction k with
  | zero =>
    intro i d e f fd D
    obtain ⟨t, et, hd⟩ := ent i d e
    exact ⟨fun vs H Q E ⟨m, h, ws, rh, rv, p⟩ => p.elim, fun _ _ _ _ _ _ _ _ _ _ _ _ _ _ ⟨m, h, ws, rh, rv, p⟩ => p.elim⟩
  | succ k ih =>
    intro i d e f fd D
    obtain ⟨t, et, hd⟩ := ent i d e
    simp only [dfOk, Bool.and_eq_true, decide_eq_true_eq] at hd
    obtain ⟨⟨⟨⟨⟨⟨h1, h2⟩, h3⟩, h4⟩, h5⟩, h6⟩, h7⟩ := hd
    have h5 := Nat.eq_of_beq_eq_true h5
    have h6 := Nat.eq_of_beq_eq_true h6
    have Sc := C8.fnScope_by h4
    refine FnW.of D Sc (fun vs H Q E s => (sp_len et s).trans h6) fun cdv B fr s H vs Q E hg room hsp => ?_
    obtain ⟨m, h, ws, rh, rv, p⟩ := hsp
    have C : Ctx A tab (ds.map (·.x)) cn d.N k (cxOf (L2.CX P w) P w A.K mg base d.N d.x (defScope d.st) f cdv B fr s H E) (defScope d.st) (defScope d.st) E := {
      K := rfl
      calm := rfl
      un := by
        have := room.un
        show (B.deeper (envOfC d.x (defScope d.st) s.heap.objs.size f cdv)).units + 65 < cLine
        omega
      grd := hg
      eN := rfl
      nd := Sc.nd
      sc := rfl
      room := room
      pass := passes_of rfl
      hx := passes_call (takes_of rfl rfl rfl rfl) fun _ _ _ _ z => z
      tgt := fun x hx => ⟨loc_ok hx, .inl rfl⟩
      blt := sd.blt
      cns := sd.cns
      fns := fun j x hj => by
        rw [List.getElem?_map] at hj
        obtain ⟨d2, e2, rfl⟩ := Option.map_eq_some_iff.mp hj
        obtain ⟨t2, et2, hd2⟩ := ent j d2 e2
        simp only [dfOk, Bool.and_eq_true, decide_eq_true_eq] at hd2
        obtain ⟨⟨⟨⟨⟨⟨g1, g2⟩, g3⟩, g4⟩, g5⟩, g6⟩, g7⟩ := hd2
        obtain ⟨f2, fd2, m2, D2⟩ := sd.fns d2 (List.mem_of_getElem? e2)
        refine ⟨f2, fd2, d2.ps, m2, D2.kp, D2.bindsN fun kV doc pm an cdv ct us hl => ?_, ih j d2 e2 f2 fd2 D2⟩
        rw [← g2] at hl g3 ⊢
        exact bind_plain g1 g3 hl }
    refine ⟨_, (snds t.body).fs _ _ _ _ C Sc.kind h7, m, h, startS t ws, (), rh, RelS.begin rv h5, trivial, ?_⟩
    simp only [callN, et] at p
    split at p
    · show PostS E A m H (ex (callN tab k) t.body (startS t ws) h) _
      revert p
      cases ex (callN tab k) t.body (startS t ws) h with
      | ok q h2 =>
        obtain ⟨fl, s2⟩ := q
        cases fl with
        | nx => exact fun p m2 σ2 H2 g2 r2 _ => fin_ok rh p g2 r2 .non
        | rt z => exact fun p m2 v H2 g2 r2 q2 => fin_ok rh p g2 r2 q2
        | bk => exact fun p => p.elim
        | ct => exact fun p => p.elim
      | exc c fs h2 => exact fun p => p
      | no => exact fun p => p
    · exact p.elim
end
end Wm
end

section
set_option Elab.async false
set_option linter.all false
set_option maxRecDepth 100000
set_option maxHeartbeats 4000000
set_option autoImplicit false
/-! A law's end. -/
namespace Wm
open PySem PySem.Spec PyProof.Rows L2

theorem relH_nil {A : At} {H : Hp} : RelH A [] [] H := ⟨rfl, List.nodup_nil, fun n o e => by simp at e⟩
theorem scr_ints {A : At} {m : List Addr} {H : Hp} : ∀ ns : List Int, Reps A m H (ns.map W.int) (ns.map V.int)
  | [] => .nil
  | i :: ns => .cons (.int i) (scr_ints ns)
section
variable {P : Program} {w : World} {A : At} {mg mb : Str → Option Value} {k i : Nat} {fa a : Addr} {fd : FuncData} {x : Str} {tab : List Fn} {s1 : Shared} {vs : List Value} {ns : List Int}
theorem sp_true {H : Hp} (q : SqR A.K H a (ns.map V.int)) {hh : OH} (e : callN tab k i [.rol (ns.map .int)] [] = .ok (.bl true) hh) : spW A tab k i [.ref a] H (fun v _ => v = .bl true) fun _ _ _ => False := by
  refine ⟨[], [], [.rol (ns.map .int)], relH_nil, .cons (.rol q (scr_ints ns)) .nil, ?_⟩
  rw [e]
  intro m' b H' _ _ r
  have r : Rep A m' H' (.bl true) b := r
  cases r
  rfl
/-- the call that a row asks for, over one account H of the script -/
theorem call_core {H : Hp} (kin : A.K.In s1.heap) (gl : s1.heap.Ns mainGlobals mg) (bl : s1.heap.Ns builtinsNs mb) (bb : ∀ y : Str, y ≠ "__name__" → mb y = bootBuiltins y) (nolim : s1.heap.NoLimit) (gens : s1.gens = #[])
    (ha : s1.heap.get? a = some { cls := .type "list", data := .seq vs.toArray }) (room : Room k callerA)
    (F : ∀ base : Heap, A.K.In base → base.Ns mainGlobals mg → FnW P w A.K mg base k fa fd [x] (spW A tab k i)) (bnd : ∀ (s : Shared) (u : Value), BindsTo s fd ⟨[u], []⟩ [(x, u)])
    (q : SqR A.K H a (ns.map V.int)) {hh : OH} (e : callN tab k i [.rol (ns.map .int)] [] = .ok (.bl true) hh) (hok : HOk P w H s1.heap) (only : ∀ b o, H b = some o → b = a ∧ ∃ ob xs, o = .frz ob (.lst xs)) (hK : H a ≠ none → A.K.lookup a = none) :
    codeAny (model P w) callerA (.call (.ref fa) ⟨[.ref a], []⟩) (fun r s' => r = .ok (.ret (.bool true)) ∧ OldK s1.heap s'.heap ∧ s'.os = s1.os ∧ AllBare s'.gens) s1 := by
  have free : ∀ {b : Addr}, b ≠ a → H b = none := fun {b} hb => by
    cases z : H b with
    | none => rfl
    | some o => exact absurd (only b o z).1 hb
  have nsH : ∀ {b : Addr} {m : Str → Option Value}, s1.heap.Ns b m → (hidT s1.heap H).Ns b m := by
    rintro b m ⟨o, es, ep, eo, ed, r⟩
    refine ⟨o, es, ep, hidT_get eo (free fun z => ?_), ed, r⟩
    rw [z, ha] at eo
    cases eo
    cases ed
  have kinH : A.K.In (hidT s1.heap H) := fun b o eo => hidT_get (kin b o eo) (by
    cases z : H b with
    | none => rfl
    | some u =>
      have hb := (only b u z).1
      subst hb
      rw [hK (by rw [z]; exact nofun)] at eo
      cases eo)
  have env0 : Env0 P w A.K mg (hidT s1.heap H) callerA [] s1 H := {
    frames := rfl
    mod := ⟨kinH, nsH gl, ⟨mb, nsH bl, bb⟩, nolim.elim fun mc z => ⟨mc, nsH z.1, z.2⟩⟩
    bs := fun _ _ z => of_hidT z
    bsz := Nat.le_of_eq (hidT_size _ _)
    funs := trivial
    frf := fun b hb => by simp [frs] at hb
    hok := hok
    bare := .of_eq gens }
  refine codeAny_mono ((F _ kinH (nsH gl)).run callerA [] s1 H ⟨[.ref a], []⟩ [.ref a] [.ref a] _ _ rfl room env0 (bnd s1 (.ref a)) (.cons rfl .nil) (sp_true q e)) fun r s' hr => ?_
  cases r with
  | error u =>
    obtain ⟨_, _, _, _, _, _, _, _, _, _, _, _, z⟩ := hr
    exact z.elim
  | ok fl =>
    cases fl with
    | ret u =>
      obtain ⟨v, H', os, bare, un, hok', rv, z⟩ := hr
      have z : v = .bl true := z
      subst z
      obtain rfl : u = Value.bool true := rv
      refine ⟨rfl, OldK.of_keep fun b o eo => ?_, os, bare⟩
      cases z : H b with
      | none => exact un.keep b o eo z (by simp [frs]) (by simp)
      | some y =>
        obtain ⟨rfl, ob, xs, rfl⟩ := only b y z
        have z2 := un.frzs _ ob _ z
        obtain ⟨e1, _⟩ := hok _ _ z
        obtain ⟨e2, _⟩ := hok' _ _ z2
        rw [eo] at e1
        cases e1
        exact e2
    | _ => exact False.elim hr
theorem call_law (kin : A.K.In s1.heap) (gl : s1.heap.Ns mainGlobals mg) (bl : s1.heap.Ns builtinsNs mb) (bb : ∀ y : Str, y ≠ "__name__" → mb y = bootBuiltins y) (nolim : s1.heap.NoLimit) (gens : s1.gens = #[])
    (ha : s1.heap.get? a = some { cls := .type "list", data := .seq vs.toArray }) (hi : IntsAre vs ns) (hl : ns.length ≤ sizeLine) (room : Room k callerA)
    (F : ∀ base : Heap, A.K.In base → base.Ns mainGlobals mg → FnW P w A.K mg base k fa fd [x] (spW A tab k i)) (bnd : ∀ (s : Shared) (u : Value), BindsTo s fd ⟨[u], []⟩ [(x, u)])
    {hh : OH} (e : callN tab k i [.rol (ns.map .int)] [] = .ok (.bl true) hh) :
    codeAny (model P w) callerA (.call (.ref fa) ⟨[.ref a], []⟩) (fun r s' => r = .ok (.ret (.bool true)) ∧ OldK s1.heap s'.heap ∧ s'.os = s1.os ∧ AllBare s'.gens) s1 := by
  have rv := vals_ints hi
  cases hk : A.K.lookup a with
  | some o =>
    have eo := kin a o hk
    rw [ha] at eo
    cases eo
    exact call_core (H := fun _ => none) kin gl bl bb nolim gens ha room F bnd (.inr ⟨_, vs.toArray, _, hk, rfl, rfl, rfl, by rw [List.size_toArray, hi.length]; exact hl, by simpa using rv⟩) e (fun b u z => by cases z) (fun b u z => by cases z) fun z => absurd rfl z
  | none =>
    have at_ : ∀ {b : Addr} {o : HO}, (if b = a then some (HO.frz { cls := .type "list", data := .seq vs.toArray } (.lst (ns.map V.int))) else none) = some o → b = a ∧ o = .frz { cls := .type "list", data := .seq vs.toArray } (.lst (ns.map V.int)) := fun {b o} z => by
      split at z
      · rename_i hb
        cases z
        exact ⟨hb, rfl⟩
      · cases z
    refine call_core (H := fun b => if b = a then some (.frz { cls := .type "list", data := .seq vs.toArray } (.lst (ns.map V.int))) else none) kin gl bl bb nolim gens ha room F bnd (.inl ⟨_, if_pos rfl⟩) e (fun b o z => ?_) (fun b o z => ?_) fun _ => hk
    · obtain ⟨rfl, rfl⟩ := at_ z
      exact ⟨ha, by rw [List.length_map]; exact hl, vs, _, rv, ha⟩
    · obtain ⟨rfl, rfl⟩ := at_ z
      exact ⟨rfl, _, _, rfl⟩
end
/-- the row, from the law's run in the own language -/
theorem walk {l : PySem.W.OpenLaw} {n k i : Nat} {q : Program} {loose : List Str} {XP : (Str → Option Value) → Heap → Prop} {YP : World → Heap → Prop} {d : DefRec} {x : Str} {tab : List Fn}
    (hn : l.most = some n) (hn2 : n ≤ sizeLine) (hdf : d.params.defaults = []) (room : Room k callerA) (plain : ∀ ns : List Int, ns.length ≤ n → ∃ hh, callN tab k i [.rol (ns.map .int)] [] = .ok (.bl true) hh)
    (F : ∀ (w : World) (mg : Str → Option Value) (fa : Addr) (h : Heap), YP w h → h.Ns mainGlobals mg → mg d.name = some (.ref fa) →
      ∃ (A : At) (fd : FuncData), A.K.In h ∧ (∀ (s : Shared) (u : Value), BindsTo s fd ⟨[u], []⟩ [(x, u)]) ∧ ∀ base : Heap, A.K.In base → base.Ns mainGlobals mg → FnW l.prog w A.K mg base k fa fd [x] (spW A tab k i)) :
    PySem.W.WalkO q loose XP YP l.row.toRowW d [] (fun f vs => PySem.call f vs) := by
  refine Att.attach_call hn hdf fun w s0 s1 mg mb fa o pm cd doc a vs ns G Y ho hd hcd hmg hobj hints hlen hg => ?_
  obtain ⟨A, fd, kin, bnd, hF⟩ := F w mg fa _ Y G.T.g hmg
  obtain ⟨hh, e⟩ := plain ns hlen
  exact call_law kin G.T.g G.T.b G.T.builtins G.T.nolimit hg hobj hints (Nat.le_trans hlen hn2) room hF bnd e
/-! ### what the head tells -/
def biFa : List He.Fa := biNames.map .free
/-- the constants of the module that are read -/
def cnFa : List (Str × W) → List He.Fa
  | [] => []
  | (x, .int i) :: r => .int x i :: cnFa r
  | (x, .str z) :: r => .str x z :: cnFa r
  | _ :: r => cnFa r
def cnOk : List (Str × W) → Bool
  | [] => true
  | (_, .int _) :: r => cnOk r
  | (_, .str _) :: r => cnOk r
  | _ => false
def dfD (d : Df) : He.DefD := ⟨(d.x, none), d.x, d.x, defArgs d.st, defBody d.st, defScope d.st, [], []⟩
def faOf (cn : List (Str × W)) (ds : List Df) : List He.Fa := ds.map (fun d => .glo d.x) ++ biFa ++ cnFa cn
def fnOf (ds : List Df) : List He.DefD := ds.map dfD
theorem cn_mem : ∀ {cn : List (Str × W)} {x : Str} {w : W}, cnOk cn = true → (x, w) ∈ cn → (∃ i, w = .int i ∧ He.Fa.int x i ∈ cnFa cn) ∨ ∃ z, w = .str z ∧ He.Fa.str x z ∈ cnFa cn
  | [], x, w, _, h => by simp at h
  | (y, u) :: r, x, w, ok, h => by
    cases u with
    | int i =>
      rcases List.mem_cons.mp h with e | e
      · cases e; exact .inl ⟨i, rfl, List.mem_cons_self⟩
      · exact (cn_mem (cn := r) ok e).imp (fun ⟨j, a, b⟩ => ⟨j, a, List.mem_cons_of_mem _ b⟩) fun ⟨j, a, b⟩ => ⟨j, a, List.mem_cons_of_mem _ b⟩
    | str i =>
      rcases List.mem_cons.mp h with e | e
      · cases e; exact .inr ⟨i, rfl, List.mem_cons_self⟩
      · exact (cn_mem (cn := r) ok e).imp (fun ⟨j, a, b⟩ => ⟨j, a, List.mem_cons_of_mem _ b⟩) fun ⟨j, a, b⟩ => ⟨j, a, List.mem_cons_of_mem _ b⟩
    | _ => cases ok
theorem said_of {K : PySem.W.Frag} {h : Heap} {mg : Str → Option Value} {cn : List (Str × W)} {ds : List Df} (kin : K.In h) (gl : h.Ns mainGlobals mg) (c : He.SaysD (faOf cn ds) (fnOf ds) K) (ok : cnOk cn = true) : Said ⟨K, fun _ => 0, fun _ => 0⟩ K mg cn ds where
  blt := fun x hx => He.free_ok kin gl (c.facts (List.mem_append_left _ (List.mem_append_right _ (List.mem_map.mpr ⟨x, hx, rfl⟩))))
  cns := fun x w hx => by
    rcases cn_mem ok hx with ⟨i, rfl, hm⟩ | ⟨z, rfl, hm⟩
    · obtain ⟨t, e⟩ := He.int_ok kin gl (c.facts (List.mem_append_right _ hm))
      exact ⟨_, .int i, e, ⟨t, rfl⟩, fun _ _ => .int i⟩
    · obtain ⟨t, e⟩ := He.str_ok kin gl (c.facts (List.mem_append_right _ hm))
      exact ⟨_, .str z, e, ⟨t, rfl⟩, fun _ _ => .str z⟩
  fns := fun d hd => by
    obtain ⟨fd, D⟩ := c.defs (d := dfD d) (List.mem_map.mpr ⟨d, hd, rfl⟩)
    exact ⟨_, fd, He.glo_ok kin gl (c.facts (List.mem_append_left _ (List.mem_append_left _ (List.mem_map.mpr ⟨d, hd, rfl⟩)))), D⟩
/-- the law's def, from the head -/
theorem entry {l : PySem.W.OpenLaw} {cn : List (Str × W)} {ds : List Df} {tab : List Fn} (ok : allOk cn ds tab = true) (okc : cnOk cn = true) {i k : Nat} {dl : Df} {x dn : Str} (hi : ds[i]? = some dl) (hps : dl.ps = [x]) (hdn : dn = dl.x) :
    ∀ (w : World) (mg : Str → Option Value) (fa : Addr) (h : Heap), (∃ K : PySem.W.Frag, K.In h ∧ He.SaysD (faOf cn ds) (fnOf ds) K) → h.Ns mainGlobals mg → mg dn = some (.ref fa) →
      ∃ (A : At) (fd : FuncData), A.K.In h ∧ (∀ (s : Shared) (u : Value), BindsTo s fd ⟨[u], []⟩ [(x, u)]) ∧ ∀ base : Heap, A.K.In base → base.Ns mainGlobals mg → FnW l.prog w A.K mg base k fa fd [x] (spW A tab k i) := by
  rintro w mg fa h ⟨K, kin, c⟩ gl hmg
  subst hdn
  have sd := said_of kin gl c okc
  have hd := List.mem_of_getElem? hi
  obtain ⟨fd, D⟩ := c.defs (d := dfD dl) (List.mem_map.mpr ⟨dl, hd, rfl⟩)
  have hfa := hmg.symm.trans (He.glo_ok kin gl (c.facts (List.mem_append_left _ (List.mem_append_left _ (List.mem_map.mpr ⟨dl, hd, rfl⟩)))))
  cases hfa
  refine ⟨⟨K, fun _ => 0, fun _ => 0⟩, fd, kin, fun s u => ?_, fun base _ _ => ?_⟩
  · have o := ok
    simp only [allOk, Bool.and_eq_true, List.all_eq_true] at o
    obtain ⟨hlen, hall⟩ := o
    have hlen := Nat.eq_of_beq_eq_true hlen
    have hil := (List.getElem?_eq_some_iff.mp hi).1
    have ht : tab[i]? = some tab[i] := List.getElem?_eq_getElem (by omega)
    have z := hall (dl, tab[i]) (List.mem_of_getElem? (i := i) (by rw [List.getElem?_zip_eq_some]; exact ⟨hi, ht⟩))
    simp only [dfOk, Bool.and_eq_true, decide_eq_true_eq] at z
    obtain ⟨⟨⟨⟨⟨⟨h1, h2⟩, h3⟩, h4⟩, h5⟩, h6⟩, h7⟩ := z
    have b := FunD.bindsA (ps := (defArgs dl.st).args.map (·.arg)) D (fun kV doc pm an cdv ct us hl => bind_plain h1 (by rw [h2]; exact h3) hl) s [u] (by rw [h2, hps]; rfl)
    rw [h2, hps] at b
    exact b
  · have F := all_fns (A := ⟨K, fun _ => 0, fun _ => 0⟩) (P := l.prog) (w := w) (base := base) sd ok k i dl hi _ fd D
    rw [hps] at F
    exact F
end Wm
end

section
set_option Elab.async false
set_option linter.all false
set_option maxRecDepth 100000
set_option maxHeartbeats 4000000
/-! The own language's runs in plain Lean: the law's pen. -/
namespace Wm
open PySem

/-! ### runs, by small steps -/
theorem ixW_lst {h : OH} {n : Nat} {ws : List W} {i : Int} {w : W} (e : h[n]? = some (.lst ws)) (hi : 0 ≤ i) (hw : ws[i.toNat]? = some w) : ixW (.ref n) (.int i) h = .ok w h := by
  have hl := (List.getElem?_eq_some_iff.mp hw).1
  simp only [ixW, seqOf, items, e, ixN, hi, if_true]
  rw [if_pos (by omega)]
  simp only [hw]
theorem ixW_tup {h : OH} {ws : List W} {i : Int} {w : W} (hi : 0 ≤ i) (hw : ws[i.toNat]? = some w) : ixW (.tup ws) (.int i) h = .ok w h := by
  have hl := (List.getElem?_eq_some_iff.mp hw).1
  simp only [ixW, seqOf, ixN, hi, if_true]
  rw [if_pos (by omega)]
  simp only [hw]
theorem setIx_lst {h : OH} {n : Nat} {ws : List W} {i : Int} {x : W} (e : h[n]? = some (.lst ws)) (hi : 0 ≤ i) (hl : i.toNat < ws.length) : setIx (.ref n) (.int i) x h = .ok .non (h.set n (.lst (ws.set i.toNat x))) := by
  simp only [setIx, lstAt, e, ixN, hi, if_true]
  rw [if_pos (by omega)]
/-- a for that runs to its end -/
theorem forN_inv {t : T} {b : Sl → OH → RS} {wt : List (Nat × List W)} (I : Nat → Sl → OH → Prop) (ws : List W)
    (step : ∀ i w s h, ws[i]? = some w → I i s h → still h wt = true ∧ ∃ s1, asgT t w s = some s1 ∧ ∃ f s2 h2, b s1 h = .ok (f, s2) h2 ∧ (f = .nx ∨ f = .ct) ∧ I (i + 1) s2 h2)
    (fin : ∀ s h, I ws.length s h → still h wt = true) {s : Sl} {h : OH} (h0 : I 0 s h) : ∃ s' h', forN t b wt ws s h = .ok (.nx, s') h' ∧ I ws.length s' h' := by
  have key : ∀ (us : List W) (i : Nat) (s : Sl) (h : OH), i + us.length = ws.length → ws.drop i = us → I i s h → ∃ s' h', forN t b wt us s h = .ok (.nx, s') h' ∧ I ws.length s' h' := by
    intro us
    induction us with
    | nil =>
      intro i s h hi _ q
      simp at hi
      subst hi
      exact ⟨s, h, by simp [forN, fin s h q], q⟩
    | cons u us ih =>
      intro i s h hi hd q
      have hw : ws[i]? = some u := by
        have := congrArg (fun l => l[0]?) hd
        simpa using this
      obtain ⟨st, s1, e1, f, s2, h2, e2, hf, q2⟩ := step i u s h hw q
      have hd2 : ws.drop (i + 1) = us := by
        have := congrArg List.tail hd
        simpa using this
      obtain ⟨s', h', e3, q3⟩ := ih (i + 1) s2 h2 (by simp at hi; omega) hd2 q2
      refine ⟨s', h', ?_, q3⟩
      simp only [forN, st, if_true, asgR, e1, R.bind_ok, e2]
      rcases hf with rfl | rfl <;> exact e3
  exact key ws 0 s h (by simp) rfl h0
@[simp] theorem O.beq_self (o : O) : O.beq o o = true := O.beq_refl o
theorem keepOk_refl (n : Nat) : ∀ h : OH, keepOk n h h = true
  | [] => rfl
  | o :: r => by simp [keepOk, keepOk_refl n r]
theorem ex_step {G : Nat → List W → OH → R W} {a b : S} {s s1 : Sl} {h h1 : OH} (e : ex G a s h = .ok (.nx, s1) h1) : ex G (.sq a b) s h = ex G b s1 h1 := by
  simp only [ex, e, R.bind_ok, thenS]
theorem ex_ret {G : Nat → List W → OH → R W} {a b : S} {s s1 : Sl} {h h1 : OH} {w : W} (e : ex G a s h = .ok (.rt w, s1) h1) : ex G (.sq a b) s h = .ok (.rt w, s1) h1 := by
  simp only [ex, e, R.bind_ok, thenS]
theorem ex_asg {G : Nat → List W → OH → R W} {i : Nat} {e : E} {s : Sl} {h h1 : OH} {w : W} (q : ev G e s h = .ok w h1) : ex G (.asg (.nm i) e) s h = .ok (.nx, setS s i (some w)) h1 := by
  simp only [ex, q, R.bind_ok, asgR, asgT]
/-- a call, one level deep -/
theorem enter {tab : List Fn} {n f : Nat} {d : Fn} {ws : List W} {h : OH} (e : tab[f]? = some d) (hl : Nat.beq ws.length d.params = true) : callN tab (n + 1) f ws h = (ex (callN tab n) d.body (startS d ws) h).bind (finS d.gc h) := by
  simp only [callN, e, hl, if_true]
/-! ### the pen -/
def penH (C : List Int) (s d : Int) (e : OH) : OH := .lst (C.map .int) :: .lst (C.map .int) :: .lst [.ref 1, .int s, .int d] :: e
def bPen : S :=
  .sq (.ret (.lst (.cons (.bi .list (.cons (.sl (.v 0) .nil (.cons (.c (.int 63)) .nil)) .nil)) (.cons (.c (.int 0)) (.cons (.c (.int 0)) .nil))))) .skip
def bFresh : S :=
  .sq (.par [6, 7] (.cons (.ix (.v 0) (.c (.int 1))) (.cons (.ix (.v 0) (.c (.int 0))) .nil))) (
  .sq (.seti (.v 0) (.c (.int 1)) (.bin .add (.v 6) (.c (.int 1)))) (
  .sq (.asg (.nm 1) (.ite (.gc (.cmp .ne (.v 7) (.lst .nil))) (.ix (.v 7) (.bin .mod (.bi .int (.cons (.v 6) .nil)) (.bi .len (.cons (.v 7) .nil)))) (.c (.int 0)))) (
  .sq (.ite (.and (.cmp .lt (.v 6) (.bi .len (.cons (.v 7) .nil))) (.cmp .ge (.v 1) (.bin .pow (.c (.int 10)) (.c (.int 18))))) (
   .sq (.ret (.bin .sub (.v 1) (.bin .pow (.c (.int 10)) (.c (.int 18))))) .skip) (.skip)) (
  .sq (.asg (.nm 2) (.c (.int 2305843009213693951))) (
  .sq (.asg (.nm 3) (.bin .mod (.bi .int (.cons (.bin .add (.bin .add (.bin .mul (.v 1) (.c (.int 48271))) (.bin .mul (.c (.int 60013)) (.v 6))) (.c (.int 31))) .nil)) (.v 2))) (
  .sq (.asg (.nm 4) (.v 3)) (
  .sq (.for (.nm 5) (.rng1 (.c (.int 6))) (
   .sq (.asg (.nm 3) (.bin .mod (.bi .int (.cons (.bin .add (.bin .add (.bin .mul (.v 3) (.v 3)) (.bin .mul (.bin .mul (.c (.int 70139)) (.bin .add (.v 5) (.c (.int 5)))) (.bin .add (.v 6) (.c (.int 1))))) (.v 1)) .nil)) (.v 2))) (
   .sq (.asg (.nm 4) (.bin .add (.bin .mul (.v 4) (.v 2)) (.v 3))) .skip))) (
  .sq (.ret (.v 4)) .skip))))))))
def fPen : Fn := ⟨1, 1, bPen, false⟩
def fFresh : Fn := ⟨8, 1, bFresh, false⟩
def bDraw (iF : Nat) : S :=
  .sq (.ite (.cmp .lt (.ix (.v 0) (.c (.int 2))) (.v 1)) (
   .sq (.seti (.v 0) (.c (.int 2)) (.call iF (.cons (.v 0) .nil))) .skip) (.skip)) (
  .sq (.asg (.nm 2) (.bin .mod (.bi .int (.cons (.ix (.v 0) (.c (.int 2))) .nil)) (.v 1))) (
  .sq (.seti (.v 0) (.c (.int 2)) (.bin .fdiv (.bi .int (.cons (.ix (.v 0) (.c (.int 2))) .nil)) (.v 1))) (
  .sq (.ret (.v 2)) .skip)))
def fDraw (iF : Nat) : Fn := ⟨3, 2, bDraw iF, false⟩
section
variable {tab : List Fn} {k : Nat}
theorem draw_ok {iF iD : Nat} (hD : tab[iD]? = some (fDraw iF)) (fresh : ∀ C s d e, 0 ≤ s → ∃ f, callN tab k iF [.ref 2] (penH C s d e) = .ok (.int f) (penH C (s + 1) d e)) (C : List Int) (s d : Int) (e : OH) (b : Int) (hb : 0 < b) (hb2 : b.natAbs.log2 < 9000) (hs : 0 ≤ s) :
    ∃ v s' d', 0 ≤ v ∧ v < b ∧ 0 ≤ s' ∧ callN tab (k + 1) iD [.ref 2, .int b] (penH C s d e) = .ok (.int v) (penH C s' d' e) := by
  simp only [callN, hD, fDraw]
  by_cases hd : d < b
  · obtain ⟨f, ef⟩ := fresh C s d e hs
    refine ⟨f % b, s + 1, f / b, ?_, ?_, by omega, ?_⟩
    · exact Int.emod_nonneg _ (by omega)
    · exact Int.emod_lt_of_pos _ hb
    unfold penH at ef ⊢
    simp [bDraw, ex, ev, evs, evT, startS, getS, setS, ixW, seqOf, items, ixN, cmpW, asB, hd, thenS, ef, setIx, lstAt, binW, biW, hb, hb2, asgR, asgT, finS, fin]
  · refine ⟨d % b, s, d / b, ?_, ?_, hs, ?_⟩
    · exact Int.emod_nonneg _ (by omega)
    · exact Int.emod_lt_of_pos _ hb
    unfold penH
    simp [bDraw, ex, ev, evs, evT, startS, getS, setS, ixW, seqOf, items, ixN, cmpW, asB, hd, thenS, setIx, lstAt, binW, biW, hb, hb2, asgR, asgT, finS, fin]
end
end Wm
end

section
set_option Elab.async false
set_option linter.all false
set_option maxRecDepth 100000
set_option maxHeartbeats 4000000
namespace Wm
open PySem
/-! ### data -/
@[simp] theorem toD_int (h : OH) (n : Nat) (i : Int) : toD h n (.int i) = some (.int i) := by cases n <;> rfl
@[simp] theorem toD_bl (h : OH) (n : Nat) (i : Bool) : toD h n (.bl i) = some (.bool i) := by cases n <;> rfl
@[simp] theorem toD_non (h : OH) (n : Nat) : toD h n .non = some .none := by cases n <;> rfl
theorem toDl_ints (h : OH) (n : Nat) : ∀ C : List Int, toDl (toD h n) (C.map .int) = some (C.map .int)
  | [] => rfl
  | i :: C => by simp [toDl, toDl_ints h n C]
theorem toD_ref {h : OH} {r n : Nat} {ws : List W} {ds : List PyData} (e : items h r = some ws) (ed : toDl (toD h n) ws = some ds) : toD h (n + 1) (.ref r) = some (.list ds) := by
  simp [toD, e, ed]
theorem toD_tup {h : OH} {n : Nat} {ws : List W} {ds : List PyData} (ed : toDl (toD h n) ws = some ds) : toD h (n + 1) (.tup ws) = some (.tuple ds) := by
  simp [toD, ed]
theorem toDl_len {f : W → Option PyData} : ∀ {ws : List W} {ds : List PyData}, toDl f ws = some ds → ds.length = ws.length
  | [], ds, e => by cases e; rfl
  | w :: ws, ds, e => by
    simp only [toDl] at e
    split at e
    · rename_i d ds' e1 e2
      cases e
      simp [toDl_len e2]
    · cases e
theorem eqW_nil {h : OH} {r n : Nat} {ws : List W} {ds : List PyData} (e1 : items h r = some ws) (ed : toDl (toD h 59) ws = some ds) (e2 : items h n = some []) : eqW h (.ref r) (.ref n) = some ws.isEmpty := by
  have h1 : toD h deep (.ref r) = some (.list ds) := toD_ref e1 ed
  have h2 : toD h deep (.ref n) = some (.list []) := toD_ref e2 rfl
  simp only [eqW, h1, h2]
  have := toDl_len ed
  cases ws with
  | nil => cases ds with
    | nil => rfl
    | cons _ _ => simp at this
  | cons _ _ => cases ds with
    | nil => simp at this
    | cons _ _ => rfl
theorem beqs_refl' (ws : List W) : W.beqs ws ws = true := W.beqs_refl ws
theorem cutOk_self (h e : OH) : cutOk h (h ++ e) = true := by simp [cutOk, keepOk_refl]
theorem lows_ints (n : Nat) : ∀ C : List Int, W.lows n (C.map .int) = true
  | [] => rfl
  | i :: C => by simp [W.lows, W.low, lows_ints n C]
section
variable {tab : List Fn} {k : Nat}
def prime : Int := 2305843009213693951
theorem mulOk_l {i j : Int} (h : i.natAbs < 2 ^ 64) : mulOk i j = true := by simp [mulOk, h]
theorem mulOk_r {i j : Int} (h : j.natAbs < 2 ^ 64) : mulOk i j = true := by simp [mulOk, h]
theorem evT_nil {G : Nat → List W → OH → R W} {s : Sl} {h : OH} {j r : Nat} {ws : List W} {ds : List PyData} (hs : getS s j = some (.ref r)) (e1 : items h r = some ws) (ed : toDl (toD (h ++ [.lst []]) 59) ws = some ds) (hr : r < h.length) :
    evT G (.gc (.cmp .ne (.v j) (.lst .nil))) s h = .ok (!ws.isEmpty) h := by
  have e2 : items (h ++ [.lst []]) r = some ws := by
    simp only [items] at e1 ⊢
    rw [List.getElem?_append_left hr]
    exact e1
  have e3 : items (h ++ [.lst []]) h.length = some [] := by simp [items]
  simp [evT, ev, evs, hs, newLst, alloc, cmpW, eqW_nil e2 ed e3, bR, asB, gcB, cutOk_self]
theorem cell_ok (C : List Int) (s d : Int) (e : OH) (hs : 0 ≤ s) : ∃ cell : Int, ∀ sl : Sl, getS sl 6 = some (.int s) → getS sl 7 = some (.ref 1) →
    ev (callN tab k) (.ite (.gc (.cmp .ne (.v 7) (.lst .nil))) (.ix (.v 7) (.bin .mod (.bi .int (.cons (.v 6) .nil)) (.bi .len (.cons (.v 7) .nil)))) (.c (.int 0))) sl (penH C (s + 1) d e) = .ok (.int cell) (penH C (s + 1) d e) := by
  have i1 : items (penH C (s + 1) d e) 1 = some (C.map .int) := rfl
  have el : penH C (s + 1) d e ++ [.lst []] = penH C (s + 1) d (e ++ [.lst []]) := rfl
  cases C with
  | nil =>
    refine ⟨0, fun sl h6 h7 => ?_⟩
    simp only [ev, evT_nil h7 i1 (toDl_ints _ _ _) (by simp [penH]), R.bind_ok]
    simp
  | cons c0 cs =>
    have hm : 0 ≤ s % ((cs.length : Int) + 1) := Int.emod_nonneg _ (by omega)
    have hl : (s % ((cs.length : Int) + 1)).toNat < (c0 :: cs).length := by
      have := Int.emod_lt_of_pos s (show (0 : Int) < (cs.length : Int) + 1 by omega)
      simp
      omega
    refine ⟨(c0 :: cs)[(s % ((cs.length : Int) + 1)).toNat], fun sl h6 h7 => ?_⟩
    simp only [ev, evT_nil h7 i1 (toDl_ints _ _ _) (by simp [penH]), R.bind_ok]
    have hp : (0 : Int) < (cs.length : Int) + 1 := by omega
    simp [evs, h6, h7, ev, biW, seqOf, i1, binW, hp]
    rw [ixW_lst (ws := (c0 :: cs).map .int) rfl hm (w := .int (c0 :: cs)[(s % ((cs.length : Int) + 1)).toNat]) (by rw [List.getElem?_map, List.getElem?_eq_getElem hl]; rfl)]
/-- the laps: their state and found -/
def lapI (h0 : OH) (seat cell : Int) (i : Nat) (s : Sl) (h : OH) : Prop :=
  h = h0 ∧ ∃ st fo lap, 0 ≤ st ∧ st < prime ∧ s = [some (.ref 2), some (.int cell), some (.int prime), some (.int st), some (.int fo), lap, some (.int seat), some (.ref 1)]
theorem fresh_ok {iF : Nat} (hF : tab[iF]? = some fFresh) (C : List Int) (s d : Int) (e : OH) (hs : 0 ≤ s) : ∃ f, callN tab (k + 1) iF [.ref 2] (penH C s d e) = .ok (.int f) (penH C (s + 1) d e) := by
  simp only [callN, hF, fFresh]
  obtain ⟨cell, hc⟩ := cell_ok (tab := tab) (k := k) C s d e hs
  have pos : (0 : Int) < prime := by decide
  have i1 : items (penH C (s + 1) d e) 1 = some (C.map .int) := rfl
  -- the loop
  have lp : ∀ st fo, 0 ≤ st → st < prime → ∃ st2 fo2 lap2, forN (.nm 5) (ex (callN tab k) (
   .sq (.asg (.nm 3) (.bin .mod (.bi .int (.cons (.bin .add (.bin .add (.bin .mul (.v 3) (.v 3)) (.bin .mul (.bin .mul (.c (.int 70139)) (.bin .add (.v 5) (.c (.int 5)))) (.bin .add (.v 6) (.c (.int 1))))) (.v 1)) .nil)) (.v 2))) (
   .sq (.asg (.nm 4) (.bin .add (.bin .mul (.v 4) (.v 2)) (.v 3))) .skip))) [] (rangeI 0 6) [some (.ref 2), some (.int cell), some (.int prime), some (.int st), some (.int fo), none, some (.int s), some (.ref 1)] (penH C (s + 1) d e) =
      .ok (.nx, [some (.ref 2), some (.int cell), some (.int prime), some (.int st2), some (.int fo2), lap2, some (.int s), some (.ref 1)]) (penH C (s + 1) d e) := by
    intro st fo h0 h1
    have step : ∀ i w sl h, (rangeI 0 6)[i]? = some w → lapI (penH C (s + 1) d e) s cell i sl h → still h [] = true ∧ ∃ s1, asgT (.nm 5) w sl = some s1 ∧ ∃ f s2 h2, ex (callN tab k) (
   .sq (.asg (.nm 3) (.bin .mod (.bi .int (.cons (.bin .add (.bin .add (.bin .mul (.v 3) (.v 3)) (.bin .mul (.bin .mul (.c (.int 70139)) (.bin .add (.v 5) (.c (.int 5)))) (.bin .add (.v 6) (.c (.int 1))))) (.v 1)) .nil)) (.v 2))) (
   .sq (.asg (.nm 4) (.bin .add (.bin .mul (.v 4) (.v 2)) (.v 3))) .skip)) s1 h = .ok (f, s2) h2 ∧ (f = .nx ∨ f = .ct) ∧ lapI (penH C (s + 1) d e) s cell (i + 1) s2 h2 := by
      rintro i w sl h hw ⟨rfl, st, fo, lap, q0, q1, rfl⟩
      obtain ⟨l, rfl, hl0, hl1⟩ : ∃ l : Int, w = .int l ∧ 0 ≤ l ∧ l < 6 := by
        rcases i with _ | _ | _ | _ | _ | _ | i <;> simp [rangeI] at hw <;> exact ⟨_, hw.symm, by decide, by decide⟩
      refine ⟨rfl, _, rfl, .nx, _, _, ?_, .inl rfl, rfl, (st * st + 70139 * (l + 5) * (s + 1) + cell) % prime, fo * prime + (st * st + 70139 * (l + 5) * (s + 1) + cell) % prime, some (.int l), Int.emod_nonneg _ (by decide), Int.emod_lt_of_pos _ pos, rfl⟩
      have m1 : mulOk st st = true := mulOk_l (by unfold prime at q1; omega)
      have m2 : mulOk 70139 (l + 5) = true := mulOk_l (by decide)
      have m3 : mulOk (70139 * (l + 5)) (s + 1) = true := mulOk_l (by omega)
      have m4 : mulOk fo prime = true := mulOk_r (by decide)
      simp [ex, ev, evs, getS, setS, binW, biW, m1, m2, m3, m4, pos, thenS, asgR, asgT]
    obtain ⟨s', h', e1, rfl, st2, fo2, lap2, _, _, rfl⟩ := forN_inv (wt := []) (t := .nm 5) (lapI (penH C (s + 1) d e) s cell) (rangeI 0 6) step (fun _ _ _ => rfl) (s := [some (.ref 2), some (.int cell), some (.int prime), some (.int st), some (.int fo), none, some (.int s), some (.ref 1)]) (h := penH C (s + 1) d e) ⟨rfl, st, fo, none, h0, h1, rfl⟩
    exact ⟨st2, fo2, lap2, e1⟩
  have m5 : mulOk cell 48271 = true := mulOk_r (by decide)
  have m6 : mulOk 60013 s = true := mulOk_l (by decide)
  have p10 : (10 : Int) ^ 18 = 1000000000000000000 := by decide
  have A1 : ex (callN tab k) (.par [6, 7] (.cons (.ix (.v 0) (.c (.int 1))) (.cons (.ix (.v 0) (.c (.int 0))) .nil))) [some (.ref 2), none, none, none, none, none, none, none] (penH C s d e) = .ok (.nx, [some (.ref 2), none, none, none, none, none, some (.int s), some (.ref 1)]) (penH C s d e) := by
    simp [penH, ex, ev, evs, getS, setS, ixW, seqOf, items, ixN, parR, parS]
  have A2 : ex (callN tab k) (.seti (.v 0) (.c (.int 1)) (.bin .add (.v 6) (.c (.int 1)))) [some (.ref 2), none, none, none, none, none, some (.int s), some (.ref 1)] (penH C s d e) = .ok (.nx, [some (.ref 2), none, none, none, none, none, some (.int s), some (.ref 1)]) (penH C (s + 1) d e) := by
    simp [penH, ex, ev, evs, getS, setS, ixN, setIx, lstAt, binW]
  have A3 := ex_asg (i := 1) (hc [some (.ref 2), none, none, none, none, none, some (.int s), some (.ref 1)] rfl rfl)
  have A4 : ∀ w, ex (callN tab k) (.asg (.nm 3) (.bin .mod (.bi .int (.cons (.bin .add (.bin .add (.bin .mul (.v 1) (.c (.int 48271))) (.bin .mul (.c (.int 60013)) (.v 6))) (.c (.int 31))) .nil)) (.v 2))) [some (.ref 2), some (.int cell), some (.int prime), none, none, none, some (.int s), some (.ref 1)] w =
      .ok (.nx, [some (.ref 2), some (.int cell), some (.int prime), some (.int ((cell * 48271 + 60013 * s + 31) % prime)), none, none, some (.int s), some (.ref 1)]) w := fun w => by
    simp [ex, ev, evs, getS, setS, binW, biW, m5, m6, pos, asgR, asgT]
  have hlen : biW .len [.ref 1] (penH C (s + 1) d e) = .ok (.int C.length) (penH C (s + 1) d e) := by simp [biW, seqOf, i1]
  have len2 : within62 6 = true := by decide
  obtain ⟨st2, fo2, lap2, hlp⟩ := lp ((cell * 48271 + 60013 * s + 31) % prime) ((cell * 48271 + 60013 * s + 31) % prime) (Int.emod_nonneg _ (by decide)) (Int.emod_lt_of_pos _ pos)
  by_cases hsl : s < (C.length : Int) ∧ 1000000000000000000 ≤ cell
  · refine ⟨cell - 10 ^ 18, ?_⟩
    show (ex (callN tab k) bFresh [some (.ref 2), none, none, none, none, none, none, none] (penH C s d e)).bind (finS false _) = _
    rw [bFresh, ex_step A1, ex_step A2, ex_step A3]
    rw [ex_ret (w := .int (cell - 10 ^ 18)) (s1 := [some (.ref 2), some (.int cell), none, none, none, none, some (.int s), some (.ref 1)]) (h1 := penH C (s + 1) d e)]
    · rfl
    · simp [ex, ev, evs, evT, getS, setS, cmpW, asB, hlen, hsl.1, hsl.2, binW, thenS]
  · refine ⟨fo2, ?_⟩
    show (ex (callN tab k) bFresh [some (.ref 2), none, none, none, none, none, none, none] (penH C s d e)).bind (finS false _) = _
    rw [bFresh, ex_step A1, ex_step A2, ex_step A3]
    rw [ex_step (s1 := [some (.ref 2), some (.int cell), none, none, none, none, some (.int s), some (.ref 1)]) (h1 := penH C (s + 1) d e)]
    · rw [ex_step (s1 := [some (.ref 2), some (.int cell), some (.int prime), none, none, none, some (.int s), some (.ref 1)]) (ex_asg (w := .int prime) (h1 := penH C (s + 1) d e) rfl)]
      rw [ex_step (A4 _)]
      rw [ex_step (s1 := [some (.ref 2), some (.int cell), some (.int prime), some (.int ((cell * 48271 + 60013 * s + 31) % prime)), some (.int ((cell * 48271 + 60013 * s + 31) % prime)), none, some (.int s), some (.ref 1)]) (ex_asg (w := .int ((cell * 48271 + 60013 * s + 31) % prime)) (h1 := penH C (s + 1) d e) rfl)]
      rw [ex_step (s1 := [some (.ref 2), some (.int cell), some (.int prime), some (.int st2), some (.int fo2), lap2, some (.int s), some (.ref 1)]) (h1 := penH C (s + 1) d e)]
      · simp [ex, ev, getS, thenS, finS, fin]
      · rw [← hlp]
        simp only [ex, evI, ev, R.bind_ok, rng1It, len2, if_true]
        rfl
    · simp [ex, ev, evs, evT, getS, setS, cmpW, asB, hlen, binW]
      by_cases h1 : s < (C.length : Int)
      · simp [h1] at hsl
        simp [h1, show ¬ (1000000000000000000 ≤ cell) by omega]
      · simp [h1]
end
end Wm
end

section
set_option Elab.async false
set_option linter.all false
set_option maxRecDepth 100000
set_option maxHeartbeats 4000000
namespace Wm
open PySem
/-! ### texts of data are short -/
mutual
def dSml : PyData → Bool
  | .none => true
  | .bool _ => true
  | .int i => decide (i.natAbs.log2 < 100)
  | .str _ => false
  | .list xs => dSmls xs
  | .tuple xs => dSmls xs
  | .dict _ => false
def dSmls : List PyData → Bool
  | [] => true
  | x :: xs => dSml x && dSmls xs
end
mutual
def dWt : PyData → Nat
  | .list xs => 3 + dWts xs
  | .tuple xs => 3 + dWts xs
  | _ => 102
def dWts : List PyData → Nat
  | [] => 0
  | x :: xs => (dWt x + 2) + dWts xs
end
theorem int_len {i : Int} (h : i.natAbs.log2 < 100) : (Str.ofString (toString i)).length ≤ 101 := by
  have := int_text_length_le (k := 100) (by decide) h
  rw [PyProof.Rows.ofString_length, String.length_toList]
  exact this
theorem strapp_len (a b : Str) : (a ++ b).length = a.length + b.length := Str.length_append a b
theorem textFrom_le : ∀ (ts : List Str) (k : Nat) (acc : Str), (textFrom k acc ts).length ≤ acc.length + piled ts
  | [], k, acc => by show acc.length ≤ _; omega
  | t :: r, k, acc => by
    have ih := textFrom_le r (k + 1) (acc ++ (if k > 0 then ", " else "" : String) ++ t)
    have e : textFrom k acc (t :: r) = textFrom (k + 1) (acc ++ (if k > 0 then ", " else "" : String) ++ t) r := rfl
    rw [e, piled_cons]
    refine Nat.le_trans ih ?_
    rw [strapp_len, strapp_len]
    have : (Str.ofString (if k > 0 then ", " else "" : String)).length ≤ 2 := by
      split <;> decide
    omega
theorem listText_le (ts : List Str) : (listText ts).length ≤ piled ts + 2 := by
  unfold listText
  rw [strapp_len]
  have := textFrom_le ts 0 "["
  have e1 : (Str.ofString "[").length = 1 := by decide
  have e2 : (Str.ofString "]").length = 1 := by decide
  omega
theorem tupleText_le (ts : List Str) : (tupleText ts).length ≤ piled ts + 3 := by
  unfold tupleText
  rw [strapp_len, strapp_len]
  have e1 : (Str.ofString "(").length = 1 := by decide
  have e2 : (Str.ofString (if ts.length == 1 then ",)" else ")" : String)).length ≤ 2 := by
    split <;> decide
  have e3 : (Str.join ", " ts).length ≤ piled ts := by
    by_cases h : ts = []
    · subst h; exact Nat.le_refl _
    · have := join_length_add ts h
      omega
  omega
mutual
theorem shown_le : ∀ d : PyData, dSml d = true → d.shown.length ≤ dWt d ∧ d.showable = true
  | .none, _ => ⟨by decide, rfl⟩
  | .bool b, _ => ⟨by cases b <;> decide, rfl⟩
  | .int i, h => by
    have h : i.natAbs.log2 < 100 := by simpa [dSml] using h
    exact ⟨Nat.le_succ_of_le (int_len h), by simp [PyData.showable]; omega⟩
  | .str _, h => by simp [dSml] at h
  | .dict _, h => by simp [dSml] at h
  | .list xs, h => by
    have q := shownAll_le xs (by simpa [dSml] using h)
    refine ⟨?_, by simpa [PyData.showable] using q.2⟩
    have := listText_le (PyData.shownAll xs)
    simp only [PyData.shown, dWt]
    omega
  | .tuple xs, h => by
    have q := shownAll_le xs (by simpa [dSml] using h)
    refine ⟨?_, by simpa [PyData.showable] using q.2⟩
    have := tupleText_le (PyData.shownAll xs)
    simp only [PyData.shown, dWt]
    omega
theorem shownAll_le : ∀ ds : List PyData, dSmls ds = true → piled (PyData.shownAll ds) ≤ dWts ds ∧ PyData.showableAll ds = true
  | [], _ => ⟨Nat.le_refl _, rfl⟩
  | d :: ds, h => by
    simp only [dSmls, Bool.and_eq_true] at h
    have h1 := shown_le d h.1
    have h2 := shownAll_le ds h.2
    refine ⟨?_, by simp [PyData.showableAll, h1.2, h2.2]⟩
    simp only [PyData.shownAll, piled_cons, dWts]
    omega
end
theorem repr_run {h : OH} {x : W} {d : PyData} (e : toD h deep x = some d) (hs : dSml d = true) (hw : dWt d ≤ line) : biW .repr [x] h = .ok (.str d.shown) h := by
  have q := shown_le d hs
  simp only [biW, e, q.2, Bool.true_and]
  rw [if_pos (Nat.ble_eq_true_of_le (Nat.le_trans q.1 hw))]
end Wm
end

section
set_option Elab.async false
set_option linter.all false
set_option maxRecDepth 100000
set_option maxHeartbeats 4000000
namespace Wm
open PySem
/-! ### objects behind the pen's -/
@[simp] theorem lst_pen3 (C : List Int) (s d : Int) (ws : List W) (e : OH) : lstAt (penH C s d (.lst ws :: e)) 3 = some ws := rfl
@[simp] theorem lst_pen4 (C : List Int) (s d : Int) (o : O) (ws : List W) (e : OH) : lstAt (penH C s d (o :: .lst ws :: e)) 4 = some ws := rfl
@[simp] theorem lst_pen5 (C : List Int) (s d : Int) (o o2 : O) (ws : List W) (e : OH) : lstAt (penH C s d (o :: o2 :: .lst ws :: e)) 5 = some ws := rfl
@[simp] theorem it_pen3 (C : List Int) (s d : Int) (ws : List W) (e : OH) : items (penH C s d (.lst ws :: e)) 3 = some ws := rfl
@[simp] theorem it_pen4 (C : List Int) (s d : Int) (o : O) (ws : List W) (e : OH) : items (penH C s d (o :: .lst ws :: e)) 4 = some ws := rfl
@[simp] theorem it_pen5 (C : List Int) (s d : Int) (o o2 : O) (ws : List W) (e : OH) : items (penH C s d (o :: o2 :: .lst ws :: e)) 5 = some ws := rfl
@[simp] theorem set_pen3 (C : List Int) (s d : Int) (o x : O) (e : OH) : (penH C s d (o :: e)).set 3 x = penH C s d (x :: e) := rfl
@[simp] theorem set_pen4 (C : List Int) (s d : Int) (o o2 x : O) (e : OH) : (penH C s d (o :: o2 :: e)).set 4 x = penH C s d (o :: x :: e) := rfl
@[simp] theorem set_pen5 (C : List Int) (s d : Int) (o o2 o3 x : O) (e : OH) : (penH C s d (o :: o2 :: o3 :: e)).set 5 x = penH C s d (o :: o2 :: x :: e) := rfl
@[simp] theorem len_pen (C : List Int) (s d : Int) (e : OH) : (penH C s d e).length = e.length + 3 := rfl
@[simp] theorem app_pen (C : List Int) (s d : Int) (e e2 : OH) : penH C s d e ++ e2 = penH C s d (e ++ e2) := rfl
theorem keepOk_app {n : Nat} : ∀ {a b : OH}, keepOk n a b = true → ∀ e : OH, keepOk n (a ++ e) (b ++ e) = true
  | [], [], _, e => keepOk_refl n e
  | [], _ :: _, h, _ => by cases h
  | _ :: _, [], h, _ => by cases h
  | x :: a, y :: b, h, e => by
    have h := Bool.and_eq_true_iff.mp (show ((O.beq x y || O.low n x) && keepOk n a b) = true from h)
    exact Bool.and_eq_true_iff.mpr ⟨h.1, keepOk_app h.2 e⟩
/-- the pen has turned, all behind it stands; more may lie behind -/
theorem cut_pen (C C' : List Int) (s d s' d' : Int) (e e2 : OH) : cutOk (penH C s d e) (penH C' s' d' (e ++ e2)) = true ∧ (penH C' s' d' (e ++ e2)).take (penH C s d e).length = penH C' s' d' e := by
  have t : (penH C' s' d' (e ++ e2)).take (penH C s d e).length = penH C' s' d' e := by simp [penH]
  refine ⟨?_, t⟩
  unfold cutOk
  rw [t]
  have k3 : keepOk (e.length + 3) [.lst (C'.map .int), .lst (C'.map .int), .lst [.ref 1, .int s', .int d']] [.lst (C.map .int), .lst (C.map .int), .lst [.ref 1, .int s, .int d]] = true := by
    have : Nat.blt 1 (e.length + 3) = true := Nat.ble_eq_true_of_le (by omega)
    simp [keepOk, O.low, W.lows, W.low, lows_ints, this]
  exact keepOk_app k3 e
/-! ### the pen's functions in a table -/
def bOneOf (iD : Nat) : S :=
  .sq (.ret (.ix (.v 1) (.call iD (.cons (.v 0) (.cons (.bi .len (.cons (.v 1) .nil)) .nil))))) .skip
def fOneOf (iD : Nat) : Fn := ⟨2, 2, bOneOf iD, false⟩
structure PenT (tab : List Fn) (iP iF iD iO : Nat) : Prop where
  hP : tab[iP]? = some fPen
  hF : tab[iF]? = some fFresh
  hD : tab[iD]? = some (fDraw iF)
  hO : tab[iO]? = some (fOneOf iD)
section
variable {tab : List Fn} {iP iF iD iO : Nat}
theorem PenT.pen (p : PenT tab iP iF iD iO) (k : Nat) (ns : List Int) : ∃ C, callN tab (k + 1) iP [.rol (ns.map .int)] [] = .ok (.ref 2) (penH C 0 0 []) := by
  refine ⟨ns.take (min 63 ns.length), ?_⟩
  simp only [callN, p.hP, fPen]
  have hl : (ns.take (min 63 ns.length)).length ≤ line := by
    rw [List.length_take]
    unfold line
    omega
  simp [bPen, ex, ev, evs, evO, startS, getS, asI, slW, alloc, biW, seqOf, items, newLst, cut, endOf, thenS, finS, fin, penH, line, List.map_take]
theorem PenT.draw (p : PenT tab iP iF iD iO) (k : Nat) (C : List Int) (s d : Int) (e : OH) (b : Int) (hb : 0 < b) (hb2 : b < 10 ^ 18) (hs : 0 ≤ s) :
    ∃ v s' d', 0 ≤ v ∧ v < b ∧ 0 ≤ s' ∧ callN tab (k + 2) iD [.ref 2, .int b] (penH C s d e) = .ok (.int v) (penH C s' d' e) := by
  refine draw_ok (k := k + 1) p.hD (fun C s d e hs => fresh_ok p.hF C s d e hs) C s d e b hb ?_ hs
  have : b.natAbs < 2 ^ 9000 := Nat.lt_of_lt_of_le (show b.natAbs < 10 ^ 18 by omega) (by decide +kernel)
  by_cases h0 : b.natAbs = 0
  · rw [h0]; decide
  · exact (Nat.log2_lt h0).mpr this
theorem PenT.one_of (p : PenT tab iP iF iD iO) (k : Nat) (C : List Int) (s d : Int) (e : OH) {x : W} {ws : List W} (hx : ∀ s d, seqOf (penH C s d e) x = some ws) (h0 : ws ≠ []) (hl : ws.length < 10 ^ 18) (hs : 0 ≤ s) :
    ∃ w s' d', w ∈ ws ∧ 0 ≤ s' ∧ callN tab (k + 3) iO [.ref 2, x] (penH C s d e) = .ok w (penH C s' d' e) := by
  have hp : 0 < ws.length := by cases ws with | nil => exact absurd rfl h0 | cons _ _ => simp
  obtain ⟨v, s', d', hv0, hv1, hs', ed⟩ := p.draw k C s d e ws.length (by omega) (by omega) hs
  have hvl : v.toNat < ws.length := by omega
  refine ⟨ws[v.toNat], s', d', List.getElem_mem hvl, hs', ?_⟩
  rw [enter p.hO rfl]
  have hlen : biW .len [x] (penH C s d e) = .ok (.int ws.length) (penH C s d e) := by simp [biW, hx]
  have hix : ixW x (.int v) (penH C s' d' e) = .ok ws[v.toNat] (penH C s' d' e) := by
    simp only [ixW, hx, ixN, hv0, if_true]
    rw [if_pos (by omega)]
    simp [hvl]
  simp [fOneOf, bOneOf, ex, ev, evs, startS, getS, hlen, ed, hix, thenS, finS, fin]
theorem PenT.drawK (p : PenT tab iP iF iD iO) {K : Nat} (hK : 2 ≤ K) (C : List Int) (s d : Int) (e : OH) (b : Int) (hb : 0 < b) (hb2 : b < 10 ^ 18) (hs : 0 ≤ s) :
    ∃ v s' d', 0 ≤ v ∧ v < b ∧ 0 ≤ s' ∧ callN tab K iD [.ref 2, .int b] (penH C s d e) = .ok (.int v) (penH C s' d' e) := by
  obtain ⟨k, rfl⟩ : ∃ k, K = k + 2 := ⟨K - 2, by omega⟩
  exact p.draw k C s d e b hb hb2 hs
theorem PenT.one_ofK (p : PenT tab iP iF iD iO) {K : Nat} (hK : 3 ≤ K) (C : List Int) (s d : Int) (e : OH) {x : W} {ws : List W} (hx : ∀ s d, seqOf (penH C s d e) x = some ws) (h0 : ws ≠ []) (hl : ws.length < 10 ^ 18) (hs : 0 ≤ s) :
    ∃ w s' d', w ∈ ws ∧ 0 ≤ s' ∧ callN tab K iO [.ref 2, x] (penH C s d e) = .ok w (penH C s' d' e) := by
  obtain ⟨k, rfl⟩ : ∃ k, K = k + 3 := ⟨K - 3, by omega⟩
  exact p.one_of k C s d e hx h0 hl hs
end
end Wm
end

section
set_option Elab.async false
set_option linter.all false
set_option maxRecDepth 100000
set_option maxHeartbeats 4000000
namespace Wm
open PySem
/-! ### more runs -/
theorem intsW_map : ∀ C : List Int, intsW (C.map W.int) = some C
  | [] => rfl
  | c :: C => by simp [intsW, intsW_map C]
theorem any_int (y : Int) : ∀ C : List Int, ((C.map W.int).any fun z => eqF z (.int y)) = decide (y ∈ C)
  | [] => rfl
  | c :: C => by
    rw [List.map_cons, List.any_cons, any_int y C]
    have e : eqF (.int c) (.int y) = decide (c = y) := rfl
    rw [e]
    by_cases h : c = y
    · simp [h]
    · have h2 : ¬ y = c := fun z => h z.symm
      simp [h, h2]
theorem all_flat : ∀ C : List Int, (C.map W.int).all flat = true
  | [] => rfl
  | c :: C => by simp [flat]
theorem inW_int {h : OH} {x : W} {C : List Int} (e : seqOf h x = some (C.map W.int)) (y : Int) : inW h (.int y) x = some (decide (y ∈ C)) := by
  simp only [inW, e, all_flat, any_int]
  rfl
theorem forN_rel {t : T} {b : Sl → OH → RS} {wt : List (Nat × List W)} {σ β : Type} (wf : β → W) (g : σ → β → σ) (Rl : Nat → σ → Sl → OH → Prop) :
    ∀ (xs : List β) (st : σ) (s : Sl) (h : OH), Rl xs.length st s h → (∀ n st s h x, x ∈ xs → Rl (n + 1) st s h → still h wt = true ∧ ∃ s1, asgT t (wf x) s = some s1 ∧ ∃ f s2 h2, b s1 h = .ok (f, s2) h2 ∧ (f = .nx ∨ f = .ct) ∧ Rl n (g st x) s2 h2) →
      (∀ st s h, Rl 0 st s h → still h wt = true) → ∃ s' h', forN t b wt (xs.map wf) s h = .ok (.nx, s') h' ∧ Rl 0 (xs.foldl g st) s' h'
  | [], st, s, h, r, _, hs => ⟨s, h, by simp [forN, hs st s h r], r⟩
  | x :: xs, st, s, h, r, step, hs => by
    obtain ⟨h1, s1, e1, f, s2, h2, e2, hf, r2⟩ := step xs.length st s h x List.mem_cons_self r
    obtain ⟨s', h', e3, r3⟩ := forN_rel wf g Rl xs (g st x) s2 h2 r2 (fun n st s h y hy => step n st s h y (List.mem_cons_of_mem _ hy)) hs
    refine ⟨s', h', ?_, r3⟩
    simp only [List.map_cons, forN, h1, if_true, asgR, e1, R.bind_ok, e2]
    rcases hf with rfl | rfl <;> exact e3
theorem whlN_inv {c : Sl → OH → R Bool} {b : Sl → OH → RS} (I : Nat → Sl → OH → Prop) (Fin : Sl → OH → Prop)
    (step : ∀ m s h, I m s h → (c s h = .ok false h ∧ Fin s h) ∨ (c s h = .ok true h ∧ ∃ f s2 h2, b s h = .ok (f, s2) h2 ∧ (f = .nx ∨ f = .ct) ∧ ∃ m2, m2 < m ∧ I m2 s2 h2)) :
    ∀ (n m : Nat) (s : Sl) (h : OH), I m s h → m < n → ∃ s' h', whlN c b n s h = .ok (.nx, s') h' ∧ Fin s' h'
  | 0, m, s, h, _, hn => by omega
  | n + 1, m, s, h, q, hn => by
    rcases step m s h q with ⟨e, f⟩ | ⟨e, f, s2, h2, e2, hf, m2, hm, q2⟩
    · exact ⟨s, h, by simp [whlN, e], f⟩
    · obtain ⟨s', h', e3, r3⟩ := whlN_inv I Fin step n m2 s2 h2 q2 (by omega)
      refine ⟨s', h', ?_, r3⟩
      simp only [whlN, e, R.bind_ok, if_true, e2]
      rcases hf with rfl | rfl <;> exact e3
theorem ex_for {G : Nat → List W → OH → R W} {t : T} {it : E} {b : S} {s : Sl} {h h1 : OH} {p : It} {r : RS} (e : evI G it s h = .ok p h1) (q : forN t (ex G b) p.2 p.1 s h1 = r) : ex G (.for t it b) s h = r := by
  simp only [ex, e, R.bind_ok, q]
theorem ex_whl' {G : Nat → List W → OH → R W} {t : E} {b : S} {s : Sl} {h : OH} {r : RS} (q : whlN (evT G t) (ex G b) fuel s h = r) : ex G (.whl t b) s h = r := by
  rw [ex, q]
/-- [] is there -/
theorem evT_notnil {G : Nat → List W → OH → R W} {s : Sl} {C : List Int} {sd d : Int} {e : OH} {j r : Nat} {ns : List Int} (hs : getS s j = some (.ref r)) (e1 : ∀ e2, items (penH C sd d (e ++ e2)) r = some (ns.map .int)) :
    evT G (.gc (.cmp .ne (.v j) (.lst .nil))) s (penH C sd d e) = .ok (!ns.isEmpty) (penH C sd d e) := by
  have hr : r < (penH C sd d e).length := by
    have := e1 []
    rw [List.append_nil] at this
    simp only [items] at this
    cases q : (penH C sd d e)[r]? with
    | none => rw [q] at this; cases this
    | some o => exact (List.getElem?_eq_some_iff.mp q).1
  have z := evT_nil (G := G) hs (by have := e1 []; rwa [List.append_nil] at this) (toDl_ints _ 59 ns) hr
  rw [z]
  cases ns <;> rfl
/-- one turn of a list comprehension -/
def lcR (G : Nat → List W → OH → R W) (e : E) (own : List Nat) (t : T) (cond : E) (s : Sl) : W → OH → R (Option W) := fun w h2 => (asgR t w (wipeS s own) h2).bind fun s' h3 => (evC G cond s' h3).bind fun k h4 => if k = true then (ev G e s' h4).bind fun y h5 => .ok (some y) h5 else .ok none h4
theorem ev_lc {G : Nat → List W → OH → R W} {e : E} {own : List Nat} {t : T} {it cond : E} {s : Sl} {h h1 h6 : OH} {p : It} {ys : List W} {r : R W} (ei : evI G it s h = .ok p h1) (el : lcN (lcR G e own t cond s) p.2 p.1 h1 = .ok ys h6) (en : newLst ys h6 = r) : ev G (.lc e own t it cond) s h = r := by
  rw [ev, ei]
  have el : lcN (fun w h2 => (asgR t w (wipeS s own) h2).bind fun s' h3 => (evC G cond s' h3).bind fun k h4 => if k = true then (ev G e s' h4).bind fun y h5 => .ok (some y) h5 else .ok none h4) p.2 p.1 h1 = .ok ys h6 := el
  simp only [R.bind_ok]
  rw [el]
  exact en
theorem ev_gc {G : Nat → List W → OH → R W} {a : E} {s : Sl} {h h1 h2 : OH} {w : W} (e : ev G a s h = .ok w h1) (hw : W.low h.length w = true) (c : cutOk h h1 = true) (t : h1.take h.length = h2) : ev G (.gc a) s h = .ok w h2 := by
  simp only [ev, e, R.bind_ok, gcE, hw, c, Bool.and_self, if_true, t]
theorem ev_bi1 {G : Nat → List W → OH → R W} {a : E} {b : Bi} {s : Sl} {h h1 : OH} {w : W} {r : R W} (e : ev G a s h = .ok w h1) (q : biW b [w] h1 = r) : ev G (.bi b (.cons a .nil)) s h = r := by
  simp only [ev, evs, e, R.bind_ok, q]
theorem ex_ret' {G : Nat → List W → OH → R W} {a : E} {b : S} {s : Sl} {h h1 : OH} {w : W} (e : ev G a s h = .ok w h1) : ex G (.sq (.ret a) b) s h = .ok (.rt w, s) h1 := by
  simp only [ex, e, R.bind_ok, thenS]
theorem lcN_run {f : W → OH → R (Option W)} {wt : List (Nat × List W)} (P : OH → Prop) (Q : W → Prop) (st : ∀ h, P h → still h wt = true) : ∀ (ws : List W) (h : OH), (∀ w h, w ∈ ws → P h → ∃ y h1, f w h = .ok (some y) h1 ∧ Q y ∧ P h1) → P h →
    ∃ ys h', lcN f wt ws h = .ok ys h' ∧ ys.length = ws.length ∧ (∀ y ∈ ys, Q y) ∧ P h'
  | [], h, _, p => ⟨[], h, by simp [lcN, st h p], rfl, by simp, p⟩
  | w :: ws, h, step, p => by
    obtain ⟨y, h1, e1, q1, p1⟩ := step w h List.mem_cons_self p
    obtain ⟨ys, h2, e2, l2, q2, p2⟩ := lcN_run P Q st ws h1 (fun w h hw => step w h (List.mem_cons_of_mem _ hw)) p1
    refine ⟨y :: ys, h2, by simp [lcN, st h p, e1, R.calm, e2, consO], by simp [l2], fun z hz => (List.mem_cons.mp hz).elim (fun e => e ▸ q1) (q2 z), p2⟩
theorem of_all {β : Type} {g : β → W} {ok : β → Prop} : ∀ {ys : List W}, (∀ y ∈ ys, ∃ p, y = g p ∧ ok p) → ∃ ps : List β, ys = ps.map g ∧ ∀ p ∈ ps, ok p
  | [], _ => ⟨[], rfl, by simp⟩
  | y :: ys, h => by
    obtain ⟨p, rfl, o⟩ := h y List.mem_cons_self
    obtain ⟨ps, rfl, q⟩ := of_all (g := g) (ok := ok) (ys := ys) fun z hz => h z (List.mem_cons_of_mem _ hz)
    exact ⟨p :: ps, rfl, fun z hz => (List.mem_cons.mp hz).elim (fun e => e ▸ o) (q z)⟩
end Wm
end

section
set_option linter.all false
/-! Places that ways join: plain lists. -/
namespace Wq
theorem le_of_sub {α : Type} [DecidableEq α] : ∀ {l m : List α}, l.Nodup → (∀ x ∈ l, x ∈ m) → l.length ≤ m.length
  | [], m, _, _ => Nat.zero_le _
  | a :: l, m, nd, h => by
    have ha := h a List.mem_cons_self
    have nd' := List.nodup_cons.mp nd
    have ih := le_of_sub (l := l) (m := m.erase a) nd'.2 fun x hx => by
      have hne : x ≠ a := fun e => nd'.1 (e ▸ hx)
      exact (List.mem_erase_of_ne hne).mpr (h x (List.mem_cons_of_mem _ hx))
    rw [List.length_erase_of_mem ha] at ih
    have : 0 < m.length := List.length_pos_of_mem ha
    simp only [List.length_cons]
    omega
theorem same_len {α : Type} [DecidableEq α] {l m : List α} (nl : l.Nodup) (nm : m.Nodup) (h : ∀ x, x ∈ l ↔ x ∈ m) : l.length = m.length :=
  Nat.le_antisymm (le_of_sub nl fun x hx => (h x).mp hx) (le_of_sub nm fun x hx => (h x).mpr hx)
def below (n : Nat) : List Int := (List.range n).map Int.ofNat
theorem mem_below {n : Nat} {x : Int} : x ∈ below n ↔ 0 ≤ x ∧ x < n := by
  unfold below
  rw [List.mem_map]
  constructor
  · rintro ⟨i, hi, rfl⟩
    rw [List.mem_range] at hi
    exact ⟨Int.natCast_nonneg i, Int.ofNat_lt.mpr hi⟩
  · rintro ⟨h0, h1⟩
    exact ⟨x.toNat, List.mem_range.mpr (by omega), Int.toNat_of_nonneg h0⟩
theorem len_below (n : Nat) : (below n).length = n := by simp [below]
theorem nodup_len {n : Nat} {l : List Int} (nd : l.Nodup) (h : ∀ x ∈ l, 0 ≤ x ∧ x < n) : l.length ≤ n := by
  rw [← len_below n]
  exact le_of_sub nd fun x hx => mem_below.mpr (h x hx)
theorem nodup_snoc {l : List Int} {y : Int} (nd : l.Nodup) (h : y ∉ l) : (l ++ [y]).Nodup := by
  rw [List.nodup_append]
  exact ⟨nd, by simp, fun a ha b hb => by rw [List.mem_singleton.mp hb]; intro z; exact h (z ▸ ha)⟩
/-! ### joined places -/
def Adj (E : List (Int × Int)) (a b : Int) : Prop := (a, b) ∈ E ∨ (b, a) ∈ E
inductive Rch (E : List (Int × Int)) (x : Int) : Int → Prop
  | refl : Rch E x x
  | step {a b : Int} : Rch E x a → Adj E a b → Rch E x b
def Closed (E : List (Int × Int)) (f : List Int) : Prop := ∀ a ∈ f, ∀ b, Adj E a b → b ∈ f
theorem all_in {E : List (Int × Int)} {x : Int} {f : List Int} (hx : x ∈ f) (c : Closed E f) {y : Int} (r : Rch E x y) : y ∈ f := by
  induction r with
  | refl => exact hx
  | step _ ad ih => exact c _ ih _ ad
/-! ### one way after another, from a place -/
def st2 (here : Int) (st : List Int × List Int) (e f : Int) : List Int × List Int := if e = here ∧ f ∉ st.1 then (st.1 ++ [f], st.2 ++ [f]) else st
def scan1 (here : Int) (st : List Int × List Int) (p : Int × Int) : List Int × List Int := st2 here (st2 here st p.1 p.2) p.2 p.1
theorem st2_ok (here : Int) (st : List Int × List Int) (e f : Int) : ∃ new, st2 here st e f = (st.1 ++ new, st.2 ++ new) ∧ (st.1.Nodup → (st.1 ++ new).Nodup) ∧ (∀ y ∈ new, e = here ∧ y = f) ∧ (e = here → f ∈ st.1 ++ new) := by
  unfold st2
  by_cases h : e = here ∧ f ∉ st.1
  · rw [if_pos h]
    exact ⟨[f], rfl, fun nd => nodup_snoc nd h.2, fun y hy => ⟨h.1, List.mem_singleton.mp hy⟩, fun _ => by simp⟩
  · rw [if_neg h]
    refine ⟨[], by simp, fun nd => by simpa using nd, by simp, fun he => ?_⟩
    simp only [not_and, Decidable.not_not] at h
    simpa using h he
theorem scan_ok (here : Int) : ∀ (E : List (Int × Int)) (st : List Int × List Int), ∃ new, E.foldl (scan1 here) st = (st.1 ++ new, st.2 ++ new) ∧ (st.1.Nodup → (st.1 ++ new).Nodup) ∧ (∀ y ∈ new, Adj E here y) ∧ (∀ p ∈ E, (p.1 = here → p.2 ∈ st.1 ++ new) ∧ (p.2 = here → p.1 ∈ st.1 ++ new))
  | [], st => ⟨[], by simp, fun nd => by simpa using nd, by simp, by simp⟩
  | p :: E, st => by
    obtain ⟨n1, e1, d1, a1, c1⟩ := st2_ok here st p.1 p.2
    obtain ⟨n2, e2, d2, a2, c2⟩ := st2_ok here (st2 here st p.1 p.2) p.2 p.1
    rw [e1] at e2 d2 c2
    obtain ⟨n3, e3, d3, a3, c3⟩ := scan_ok here E (scan1 here st p)
    have es : scan1 here st p = (st.1 ++ (n1 ++ n2), st.2 ++ (n1 ++ n2)) := by
      unfold scan1
      rw [e1, e2]
      simp
    rw [es] at e3 d3 c3
    dsimp only at e2 d2 c2 e3 d3 c3
    refine ⟨n1 ++ n2 ++ n3, ?_, fun nd => ?_, fun y hy => ?_, fun q hq => ?_⟩
    · rw [List.foldl_cons, es, e3]
      simp
    · have := d3 (by have := d2 (d1 nd); simpa using this)
      simpa using this
    · rcases List.mem_append.mp hy with hy | hy
      · rcases List.mem_append.mp hy with hy | hy
        · obtain ⟨h1, rfl⟩ := a1 y hy
          exact .inl (by rw [← h1]; exact List.mem_cons_self)
        · obtain ⟨h1, rfl⟩ := a2 y hy
          exact .inr (by rw [← h1]; exact List.mem_cons_self)
      · rcases a3 y hy with z | z
        · exact .inl (List.mem_cons_of_mem _ z)
        · exact .inr (List.mem_cons_of_mem _ z)
    · rcases List.mem_cons.mp hq with rfl | hq
      · refine ⟨fun h => ?_, fun h => ?_⟩
        · have z := List.mem_append_left (n2 ++ n3) (c1 h)
          rw [List.append_assoc] at z
          rw [List.append_assoc]
          exact z
        · have z := List.mem_append_left n3 (c2 h)
          rw [List.append_assoc st.1] at z
          rw [← List.append_assoc]
          exact z
      · have := c3 q hq
        simp only [List.append_assoc] at this ⊢
        exact this
/-- what stands while places wait -/
structure Wait (E : List (Int × Int)) (x : Int) (N : Nat) (f w : List Int) : Prop where
  nd : f.Nodup
  here : x ∈ f
  sub : ∀ a ∈ w, a ∈ f
  done : ∀ a ∈ f, a ∉ w → ∀ b, Adj E a b → b ∈ f
  rch : ∀ y ∈ f, Rch E x y
  low : ∀ y ∈ f, 0 ≤ y ∧ y < N
theorem Wait.start {E : List (Int × Int)} {x : Int} {N : Nat} (h : 0 ≤ x ∧ x < N) : Wait E x N [x] [x] :=
  ⟨by simp, by simp, by simp, fun a h1 h2 => absurd h1 h2, fun y hy => by rw [List.mem_singleton.mp hy]; exact .refl, fun y hy => by rw [List.mem_singleton.mp hy]; exact h⟩
theorem Wait.scan {E : List (Int × Int)} {x : Int} {N : Nat} {f w : List Int} {here : Int} (q : Wait E x N f (w ++ [here])) (hE : ∀ p ∈ E, (0 ≤ p.1 ∧ p.1 < N) ∧ (0 ≤ p.2 ∧ p.2 < N)) :
    ∃ new, E.foldl (scan1 here) (f, w) = (f ++ new, w ++ new) ∧ Wait E x N (f ++ new) (w ++ new) ∧ (w ++ new).length + 2 * (N - (f ++ new).length) < (w ++ [here]).length + 2 * (N - f.length) := by
  obtain ⟨new, e, d, a, c⟩ := scan_ok here E (f, w)
  dsimp only at e d c
  have low : ∀ y ∈ f ++ new, 0 ≤ y ∧ y < N := fun y hy => by
    rcases List.mem_append.mp hy with hy | hy
    · exact q.low y hy
    · rcases a y hy with z | z
      · exact (hE _ z).2
      · exact (hE _ z).1
  have nl := nodup_len (d q.nd) low
  refine ⟨new, e, ⟨d q.nd, List.mem_append_left _ q.here, fun y hy => ?_, fun y hy hn b ad => ?_, fun y hy => ?_, low⟩, ?_⟩
  · rcases List.mem_append.mp hy with hy | hy
    · exact List.mem_append_left _ (q.sub y (List.mem_append_left _ hy))
    · exact List.mem_append_right _ hy
  · simp only [List.mem_append, not_or] at hn
    rcases List.mem_append.mp hy with hy | hy
    · by_cases hh : y = here
      · subst hh
        rcases ad with z | z
        · exact (c _ z).1 rfl
        · exact (c _ z).2 rfl
      · exact List.mem_append_left _ (q.done y hy (by simp [hn.1, hh]) b ad)
    · exact absurd hy hn.2
  · rcases List.mem_append.mp hy with hy | hy
    · exact q.rch y hy
    · exact .step (q.rch here (q.sub here (by simp))) (a y hy)
  · simp only [List.length_append, List.length_cons, List.length_nil] at nl ⊢
    omega
theorem Wait.fin {E : List (Int × Int)} {x : Int} {N : Nat} {f : List Int} (q : Wait E x N f []) (y : Int) : y ∈ f ↔ Rch E x y :=
  ⟨q.rch y, fun r => all_in q.here (fun a ha b ad => q.done a ha (by simp) b ad) r⟩
/-! ### round after round -/
def eL (f : List Int) (a b : Int) : List Int := if a ∈ f ∧ b ∉ f then f ++ [b] else f
def edgeL (f : List Int) (p : Int × Int) : List Int := eL (eL f p.1 p.2) p.2 p.1
def roundL (E : List (Int × Int)) (f : List Int) : List Int := E.foldl edgeL f
theorem eL_ok (f : List Int) (a b : Int) : ∃ new, eL f a b = f ++ new ∧ (f.Nodup → (f ++ new).Nodup) ∧ (∀ y ∈ new, a ∈ f ∧ y = b) ∧ (new = [] → a ∈ f → b ∈ f) := by
  unfold eL
  by_cases h : a ∈ f ∧ b ∉ f
  · rw [if_pos h]
    exact ⟨[b], rfl, fun nd => nodup_snoc nd h.2, fun y hy => ⟨h.1, List.mem_singleton.mp hy⟩, fun z => by cases z⟩
  · rw [if_neg h]
    refine ⟨[], by simp, fun nd => by simpa using nd, by simp, fun _ ha => ?_⟩
    simp only [not_and, Decidable.not_not] at h
    exact h ha
theorem round_ok {x : Int} {E0 : List (Int × Int)} : ∀ (E : List (Int × Int)) (f : List Int), (∀ p ∈ E, p ∈ E0) → (∀ y ∈ f, Rch E0 x y) → ∃ new, E.foldl edgeL f = f ++ new ∧ (f.Nodup → (f ++ new).Nodup) ∧ (∀ y ∈ f ++ new, Rch E0 x y) ∧ (new = [] → ∀ p ∈ E, (p.1 ∈ f → p.2 ∈ f) ∧ (p.2 ∈ f → p.1 ∈ f))
  | [], f, _, hr => ⟨[], by simp, fun nd => by simpa using nd, by simpa using hr, by simp⟩
  | p :: E, f, hE, hr => by
    obtain ⟨n1, e1, d1, a1, c1⟩ := eL_ok f p.1 p.2
    obtain ⟨n2, e2, d2, a2, c2⟩ := eL_ok (f ++ n1) p.2 p.1
    have hp := hE p List.mem_cons_self
    have r1 : ∀ y ∈ f ++ n1, Rch E0 x y := fun y hy => by
      rcases List.mem_append.mp hy with hy | hy
      · exact hr y hy
      · obtain ⟨h1, rfl⟩ := a1 y hy
        exact .step (hr _ h1) (.inl hp)
    have r2 : ∀ y ∈ f ++ n1 ++ n2, Rch E0 x y := fun y hy => by
      rcases List.mem_append.mp hy with hy | hy
      · exact r1 y hy
      · obtain ⟨h1, rfl⟩ := a2 y hy
        exact .step (r1 _ h1) (.inr hp)
    have es : edgeL f p = f ++ n1 ++ n2 := by
      unfold edgeL
      rw [e1, e2]
    obtain ⟨n3, e3, d3, a3, c3⟩ := round_ok E (f ++ n1 ++ n2) (fun q hq => hE q (List.mem_cons_of_mem _ hq)) r2
    refine ⟨n1 ++ n2 ++ n3, ?_, fun nd => ?_, ?_, fun z q hq => ?_⟩
    · rw [List.foldl_cons, es, e3]
      simp
    · have := d3 (d2 (d1 nd))
      simpa using this
    · simpa using a3
    · simp only [List.append_eq_nil_iff] at z
      obtain ⟨⟨z1, z2⟩, z3⟩ := z
      rcases List.mem_cons.mp hq with rfl | hq
      · refine ⟨c1 z1, fun h => ?_⟩
        have := c2 z2 (by rw [z1]; simpa using h)
        rw [z1] at this
        simpa using this
      · have := c3 z3 q hq
        rw [z1, z2] at this
        simpa using this
def rounds (E : List (Int × Int)) (f : List Int) : Nat → List Int
  | 0 => f
  | n + 1 => roundL E (rounds E f n)
theorem rounds_ok {E : List (Int × Int)} {x : Int} {N : Nat} (h : 0 ≤ x ∧ x < N) (hE : ∀ p ∈ E, (0 ≤ p.1 ∧ p.1 < N) ∧ (0 ≤ p.2 ∧ p.2 < N)) : ∀ n, (rounds E [x] n).Nodup ∧ x ∈ rounds E [x] n ∧ (∀ y ∈ rounds E [x] n, Rch E x y) ∧ (Closed E (rounds E [x] n) ∨ n + 1 ≤ (rounds E [x] n).length)
  | 0 => ⟨by simp [rounds], by simp [rounds], fun y hy => by rw [List.mem_singleton.mp (show y ∈ [x] from hy)]; exact .refl, .inr (by simp [rounds])⟩
  | n + 1 => by
    obtain ⟨nd, hx, hr, hc⟩ := rounds_ok h hE n
    obtain ⟨new, e, d, a, c⟩ := round_ok E (rounds E [x] n) (fun p hp => hp) hr
    have e : rounds E [x] (n + 1) = rounds E [x] n ++ new := e
    rw [e]
    refine ⟨d nd, List.mem_append_left _ hx, a, ?_⟩
    rcases hc with hc | hc
    · exact .inl fun y hy b ad => List.mem_append_left _ (all_in hx hc (.step (a y hy) ad))
    · cases new with
      | nil =>
        refine .inl fun y hy b ad => ?_
        rw [List.append_nil] at hy ⊢
        rcases ad with z | z
        · exact (c rfl _ z).1 hy
        · exact (c rfl _ z).2 hy
      | cons y ys =>
        refine .inr ?_
        simp only [List.length_append, List.length_cons]
        omega
theorem rch_low {E : List (Int × Int)} {x : Int} {N : Nat} (h : 0 ≤ x ∧ x < N) (hE : ∀ p ∈ E, (0 ≤ p.1 ∧ p.1 < N) ∧ (0 ≤ p.2 ∧ p.2 < N)) {y : Int} (r : Rch E x y) : 0 ≤ y ∧ y < N := by
  induction r with
  | refl => exact h
  | step _ ad _ =>
    rcases ad with z | z
    · exact (hE _ z).2
    · exact (hE _ z).1
theorem rounds_fin {E : List (Int × Int)} {x : Int} {N n : Nat} (h : 0 ≤ x ∧ x < N) (hE : ∀ p ∈ E, (0 ≤ p.1 ∧ p.1 < N) ∧ (0 ≤ p.2 ∧ p.2 < N)) (hn : N ≤ n) (y : Int) : y ∈ rounds E [x] n ↔ Rch E x y := by
  obtain ⟨nd, hx, hr, hc⟩ := rounds_ok h hE n
  refine ⟨hr y, fun r => ?_⟩
  rcases hc with hc | hc
  · exact all_in hx hc r
  · have := nodup_len nd fun z hz => rch_low h hE (hr z hz)
    omega
end Wq
end

section
set_option Elab.async false
set_option linter.all false
set_option maxRecDepth 100000
set_option maxHeartbeats 4000000
namespace K02
open Wm PySem
/-- ways_at -/
def b0 : S :=
  .sq (.ret (.gc (.bi .tuple (.cons (.lc (.v 2) [2, 3] (.cons (.nm 2) (.cons (.nm 3) .nil)) (.enum (.ix (.v 0) (.c (.int 1)))) (.cons (.cmp .inn (.v 1) (.v 3)) .nil)) .nil)))) .skip
def f0 : Fn := ⟨4, 2, b0, false⟩
/-- far_end -/
def b1 : S :=
  .sq (.asg (.cons (.nm 3) (.cons (.nm 4) .nil)) (.ix (.ix (.v 0) (.c (.int 1))) (.v 1))) (
  .sq (.ret (.ite (.cmp .eq (.v 2) (.v 3)) (.v 4) (.v 3))) .skip)
def f1 : Fn := ⟨5, 3, b1, false⟩
def b2_2 : S :=
  .sq (.ite (.and (.cmp .eq (.v 8) (.v 5)) (.and (.cmp .nin (.v 9) (.v 3)) (.cmp .nin (.v 9) (.v 2)))) (
   .sq (.ex (.mt .append (.v 3) (.cons (.v 9) .nil))) (
   .sq (.ex (.mt .append (.v 4) (.cons (.v 9) .nil))) .skip)) (.skip)) .skip
def b2_1 : S :=
  .sq (.for (.cons (.nm 8) (.cons (.nm 9) .nil)) (.seq (.tup (.cons (.tup (.cons (.v 6) (.cons (.v 7) .nil))) (.cons (.tup (.cons (.v 7) (.cons (.v 6) .nil))) .nil)))) (b2_2)) .skip
def b2_0 : S :=
  .sq (.asg (.nm 5) (.mt .pop (.v 4) .nil)) (
  .sq (.for (.cons (.nm 6) (.cons (.nm 7) .nil)) (.seq (.v 0)) (b2_1)) .skip)
/-- reached_from -/
def b2 : S :=
  .sq (.par [3, 4] (.cons (.lst (.cons (.v 1) .nil)) (.cons (.lst (.cons (.v 1) .nil)) .nil))) (
  .sq (.whl (.gc (.cmp .ne (.v 4) (.lst .nil))) (b2_0)) (
  .sq (.ret (.bi .sorted (.cons (.v 3) .nil))) .skip))
def f2 : Fn := ⟨10, 3, b2, false⟩
/-- is_joined -/
def b3 : S :=
  .sq (.ret (.cmp .eq (.bi .len (.cons (.call 2 (.cons (.ix (.v 0) (.c (.int 1))) (.cons (.ix (.v 0) (.c (.int 2))) (.cons (.tup .nil) .nil)))) .nil)) (.ix (.v 0) (.c (.int 0))))) .skip
def f3 : Fn := ⟨1, 1, b3, true⟩
/-- _law_pen -/
def b4 : S :=
  .sq (.ret (.lst (.cons (.bi .list (.cons (.sl (.v 0) .nil (.cons (.c (.int 63)) .nil)) .nil)) (.cons (.c (.int 0)) (.cons (.c (.int 0)) .nil))))) .skip
def f4 : Fn := ⟨1, 1, b4, false⟩
def b5_0 : S :=
  .sq (.asg (.nm 3) (.bin .mod (.bi .int (.cons (.bin .add (.bin .add (.bin .mul (.v 3) (.v 3)) (.bin .mul (.bin .mul (.c (.int 70139)) (.bin .add (.v 5) (.c (.int 5)))) (.bin .add (.v 6) (.c (.int 1))))) (.v 1)) .nil)) (.v 2))) (
  .sq (.asg (.nm 4) (.bin .add (.bin .mul (.v 4) (.v 2)) (.v 3))) .skip)
/-- _law_fresh -/
def b5 : S :=
  .sq (.par [6, 7] (.cons (.ix (.v 0) (.c (.int 1))) (.cons (.ix (.v 0) (.c (.int 0))) .nil))) (
  .sq (.seti (.v 0) (.c (.int 1)) (.bin .add (.v 6) (.c (.int 1)))) (
  .sq (.asg (.nm 1) (.ite (.gc (.cmp .ne (.v 7) (.lst .nil))) (.ix (.v 7) (.bin .mod (.bi .int (.cons (.v 6) .nil)) (.bi .len (.cons (.v 7) .nil)))) (.c (.int 0)))) (
  .sq (.ite (.and (.cmp .lt (.v 6) (.bi .len (.cons (.v 7) .nil))) (.cmp .ge (.v 1) (.bin .pow (.c (.int 10)) (.c (.int 18))))) (
   .sq (.ret (.bin .sub (.v 1) (.bin .pow (.c (.int 10)) (.c (.int 18))))) .skip) (.skip)) (
  .sq (.asg (.nm 2) (.c (.int 2305843009213693951))) (
  .sq (.asg (.nm 3) (.bin .mod (.bi .int (.cons (.bin .add (.bin .add (.bin .mul (.v 1) (.c (.int 48271))) (.bin .mul (.c (.int 60013)) (.v 6))) (.c (.int 31))) .nil)) (.v 2))) (
  .sq (.asg (.nm 4) (.v 3)) (
  .sq (.for (.nm 5) (.rng1 (.c (.int 6))) (b5_0)) (
  .sq (.ret (.v 4)) .skip))))))))
def f5 : Fn := ⟨8, 1, b5, false⟩
/-- _law_draw -/
def b6 : S :=
  .sq (.ite (.cmp .lt (.ix (.v 0) (.c (.int 2))) (.v 1)) (
   .sq (.seti (.v 0) (.c (.int 2)) (.call 5 (.cons (.v 0) .nil))) .skip) (.skip)) (
  .sq (.asg (.nm 2) (.bin .mod (.bi .int (.cons (.ix (.v 0) (.c (.int 2))) .nil)) (.v 1))) (
  .sq (.seti (.v 0) (.c (.int 2)) (.bin .fdiv (.bi .int (.cons (.ix (.v 0) (.c (.int 2))) .nil)) (.v 1))) (
  .sq (.ret (.v 2)) .skip)))
def f6 : Fn := ⟨3, 2, b6, false⟩
/-- _law_one_of -/
def b7 : S :=
  .sq (.ret (.ix (.v 1) (.call 6 (.cons (.v 0) (.cons (.bi .len (.cons (.v 1) .nil)) .nil))))) .skip
def f7 : Fn := ⟨2, 2, b7, false⟩
def b8_2 : S :=
  .sq (.ite (.and (.cmp .inn (.v 7) (.v 3)) (.and (.cmp .nin (.v 8) (.v 3)) (.cmp .nin (.v 8) (.v 2)))) (
   .sq (.ex (.mt .append (.v 3) (.cons (.v 8) .nil))) .skip) (.skip)) .skip
def b8_1 : S :=
  .sq (.for (.cons (.nm 7) (.cons (.nm 8) .nil)) (.seq (.tup (.cons (.tup (.cons (.v 5) (.cons (.v 6) .nil))) (.cons (.tup (.cons (.v 6) (.cons (.v 5) .nil))) .nil)))) (b8_2)) .skip
def b8_0 : S :=
  .sq (.for (.cons (.nm 5) (.cons (.nm 6) .nil)) (.seq (.v 0)) (b8_1)) .skip
/-- _law_reached -/
def b8 : S :=
  .sq (.asg (.nm 3) (.lst (.cons (.v 1) .nil))) (
  .sq (.for (.nm 4) (.rng1 (.c (.int 8))) (b8_0)) (
  .sq (.ret (.v 3)) .skip))
def f8 : Fn := ⟨9, 3, b8, false⟩
/-- _law_is_joined -/
def b9 : S :=
  .sq (.ret (.cmp .eq (.bi .len (.cons (.call 8 (.cons (.ix (.v 0) (.c (.int 1))) (.cons (.ix (.v 0) (.c (.int 2))) (.cons (.tup .nil) .nil)))) .nil)) (.ix (.v 0) (.c (.int 0))))) .skip
def f9 : Fn := ⟨1, 1, b9, true⟩
/-- _law_two_places -/
def b10 : S :=
  .sq (.asg (.nm 2) (.call 6 (.cons (.v 0) (.cons (.v 1) .nil)))) (
  .sq (.ret (.tup (.cons (.v 2) (.cons (.bin .mod (.bi .int (.cons (.bin .add (.bin .add (.v 2) (.c (.int 1))) (.call 6 (.cons (.v 0) (.cons (.bin .sub (.v 1) (.c (.int 1))) .nil)))) .nil)) (.v 1)) .nil)))) .skip)
def f10 : Fn := ⟨3, 2, b10, false⟩
def b11_1 : S :=
  .sq (.ex (.mt .append (.v 6) (.cons (.call 10 (.cons (.v 0) (.cons (.v 3) .nil))) .nil))) .skip
def b11_0 : S :=
  .sq (.asg (.nm 7) (.tup (.cons (.v 4) (.cons (.call 6 (.cons (.v 0) (.cons (.v 4) .nil))) .nil)))) (
  .sq (.ex (.mt .append (.v 6) (.cons (.ite (.cmp .eq (.call 6 (.cons (.v 0) (.cons (.c (.int 2)) .nil))) (.c (.int 0))) (.v 7) (.rev (.v 7))) .nil))) .skip)
/-- _law_mine -/
def b11 : S :=
  .sq (.asg (.nm 3) (.gc (.call 7 (.cons (.v 0) (.cons (.lst (.cons (.c (.int 2)) (.cons (.c (.int 3)) (.cons (.v 1) (.cons (.v 1) (.cons (.bin .add (.c (.int 2)) (.call 6 (.cons (.v 0) (.cons (.bin .sub (.v 1) (.c (.int 1))) .nil)))) .nil)))))) .nil))))) (
  .sq (.par [3, 6] (.cons (.bi .min2 (.cons (.v 3) (.cons (.bin .add (.v 2) (.c (.int 1))) .nil))) (.cons (.lst .nil) .nil))) (
  .sq (.for (.nm 4) (.rng2 (.c (.int 1)) (.v 3)) (b11_0)) (
  .sq (.for (.nm 5) (.rng1 (.call 6 (.cons (.v 0) (.cons (.bin .add (.bin .sub (.v 2) (.bi .len (.cons (.v 6) .nil))) (.c (.int 1))) .nil)))) (b11_1)) (
  .sq (.asg (.cons (.nm 8) (.cons (.nm 9) .nil)) (.call 10 (.cons (.v 0) (.cons (.v 3) .nil)))) (
  .sq (.ret (.tup (.cons (.v 3) (.cons (.bi .tuple (.cons (.v 6) .nil)) (.cons (.v 8) (.cons (.v 9) .nil)))))) .skip)))))
def f11 : Fn := ⟨10, 3, b11, true⟩
def b12_2 : S :=
  .sq (.asg (.cons (.nm 10) (.cons (.nm 11) .nil)) (.ix (.ix (.v 3) (.c (.int 1))) (.v 8))) (
  .sq (.ite (.cmp .ne (.bi .repr (.cons (.call 1 (.cons (.v 3) (.cons (.v 8) (.cons (.v 5) .nil)))) .nil)) (.bi .repr (.cons (.ite (.cmp .eq (.v 5) (.v 10)) (.v 11) (.v 10)) .nil))) (
   .sq (.ret (.c (.bl false))) .skip) (.skip)) .skip)
def b12_1 : S :=
  .sq (.asg (.nm 7) (.lc (.v 12) [12, 13] (.cons (.nm 12) (.cons (.nm 13) .nil)) (.enum (.ix (.v 3) (.c (.int 1)))) (.cons (.cmp .inn (.v 5) (.v 13)) .nil))) (
  .sq (.ite (.cmp .ne (.bi .repr (.cons (.call 0 (.cons (.v 3) (.cons (.v 5) .nil))) .nil)) (.bi .repr (.cons (.bi .tuple (.cons (.v 7) .nil)) .nil))) (
   .sq (.ret (.c (.bl false))) .skip) (.skip)) (
  .sq (.for (.nm 8) (.seq (.v 7)) (b12_2)) .skip))
def b12_0 : S :=
  .sq (.asg (.nm 3) (.call 11 (.cons (.v 1) (.cons (.bin .add (.c (.int 2)) (.call 6 (.cons (.v 1) (.cons (.c (.int 7)) .nil)))) (.cons (.c (.int 12)) .nil))))) (
  .sq (.gc [6] (.ite (.cmp .eq (.call 6 (.cons (.v 1) (.cons (.c (.int 2)) .nil))) (.c (.int 0))) (
   .sq (.asg (.nm 6) (.lc (.call 10 (.cons (.v 1) (.cons (.ix (.v 3) (.c (.int 0))) .nil))) [9] (.nm 9) (.rng1 (.bin .add (.c (.int 1)) (.call 6 (.cons (.v 1) (.cons (.c (.int 8)) .nil))))) .nil)) (
   .sq (.asg (.nm 3) (.tup (.cons (.ix (.v 3) (.c (.int 0))) (.cons (.bi .tuple (.cons (.v 6) .nil)) (.cons (.ix (.v 3) (.c (.int 2))) (.cons (.ix (.v 3) (.c (.int 3))) .nil)))))) .skip)) (.skip))) (
  .sq (.asg (.nm 4) (.bi .repr (.cons (.v 3) .nil))) (
  .sq (.ite (.cmp .ne (.bi .repr (.cons (.call 3 (.cons (.v 3) .nil)) .nil)) (.bi .repr (.cons (.call 9 (.cons (.v 3) .nil)) .nil))) (
   .sq (.ret (.c (.bl false))) .skip) (.skip)) (
  .sq (.for (.nm 5) (.rng1 (.ix (.v 3) (.c (.int 0)))) (.gc [7, 8, 10, 11] (b12_1))) (
  .sq (.ite (.cmp .ne (.bi .repr (.cons (.v 3) .nil)) (.v 4)) (
   .sq (.ret (.c (.bl false))) .skip) (.skip)) .skip)))))
/-- law -/
def b12 : S :=
  .sq (.asg (.nm 1) (.call 4 (.cons (.v 0) .nil))) (
  .sq (.for (.nm 2) (.rng1 (.bi .max2 (.cons (.c (.int 3)) (.cons (.bi .min2 (.cons (.c (.int 8)) (.cons (.bi .len (.cons (.v 0) .nil)) .nil))) .nil)))) (.gc [3, 4, 5, 6, 7, 8, 10, 11] (b12_0))) (
  .sq (.ret (.c (.bl true))) .skip))
def f12 : Fn := ⟨14, 1, b12, false⟩
def tab : List Fn := [f0, f1, f2, f3, f4, f5, f6, f7, f8, f9, f10, f11, f12]
def cn : List (String × W) := []
end K02
end

section
set_option Elab.async false
set_option linter.all false
set_option maxRecDepth 100000
set_option maxHeartbeats 4000000
namespace K02
open Wm PySem
theorem pt : PenT tab 4 5 6 7 := ⟨rfl, rfl, rfl, rfl⟩
abbrev pairW (p : Int × Int) : W := .tup [.int p.1, .int p.2]
def okP (n : Int) (p : Int × Int) : Prop := 0 ≤ p.1 ∧ p.1 < n ∧ 0 ≤ p.2 ∧ p.2 < n
theorem two_places {K : Nat} (hK : 3 ≤ K) (C : List Int) (s d : Int) (e : OH) (n : Int) (hn : 2 ≤ n) (hn2 : n ≤ 1000) (hs : 0 ≤ s) : ∃ p s' d', okP n p ∧ 0 ≤ s' ∧ callN tab K 10 [.ref 2, .int n] (penH C s d e) = .ok (pairW p) (penH C s' d' e) := by
  obtain ⟨k, rfl⟩ : ∃ k, K = k + 1 := ⟨K - 1, by omega⟩
  obtain ⟨a, s1, d1, ha0, ha1, hs1, e1⟩ := pt.drawK (K := k) (by omega) C s d e n (by omega) (by omega) hs
  obtain ⟨b, s2, d2, hb0, hb1, hs2, e2⟩ := pt.drawK (K := k) (by omega) C s1 d1 e (n - 1) (by omega) (by omega) hs1
  refine ⟨(a, (a + 1 + b) % n), s2, d2, ⟨ha0, ha1, Int.emod_nonneg _ (by omega), Int.emod_lt_of_pos _ (by omega)⟩, hs2, ?_⟩
  rw [enter (d := f10) rfl rfl]
  have hp : 0 < n := by omega
  simp [f10, b10, ex, ev, evs, startS, getS, setS, e1, e2, asgR, asgT, binW, biW, hp, newTup, line, thenS, finS, fin]
/-- a mine -/
def mineW (n : Int) (ws : List (Int × Int)) (i o : Int) : W := .tup [.int n, .tup (ws.map pairW), .int i, .int o]
theorem lows_pairs (n : Nat) : ∀ ws : List (Int × Int), W.lows n (ws.map pairW) = true
  | [] => rfl
  | p :: ws => by simp [W.lows, W.low, lows_pairs n ws]


theorem range_get {lo : Int} {n i : Nat} {w : W} (e : (rangeI lo n)[i]? = some w) : i < n ∧ w = .int (lo + i) := by
  have key : ∀ (n : Nat) (lo : Int) (i : Nat), (rangeI lo n)[i]? = some w → i < n ∧ w = .int (lo + i) := by
    intro n
    induction n with
    | zero => intro lo i e; simp [rangeI] at e
    | succ n ih =>
      intro lo i e
      cases i with
      | zero => simp [rangeI] at e; exact ⟨by omega, by rw [← e]; simp⟩
      | succ i =>
        obtain ⟨h1, h2⟩ := ih (lo + 1) i (by simpa [rangeI] using e)
        exact ⟨by omega, by rw [h2]; congr 1; omega⟩
  exact key n lo i e
theorem range_len : ∀ (n : Nat) (lo : Int), (rangeI lo n).length = n
  | 0, _ => rfl
  | n + 1, lo => by simp [rangeI, range_len n]
/-- the ways so far: the list object at 3 -/
def wI (n : Int) (most : Int) (m : Nat → Nat) (i : Nat) (s : Sl) (h : OH) : Prop :=
  ∃ C sd d ws x l p, 0 ≤ sd ∧ h = penH C sd d [.lst (List.map pairW ws)] ∧ ws.length = m i ∧ (∀ q ∈ ws, okP n q) ∧ s = [some (.ref 2), some (.int most), some (.int 12), some (.int n), x, l, some (.ref 3), p, none, none]
theorem w0_step {K : Nat} (hK : 3 ≤ K) {n most : Int} (hn : 2 ≤ n) (hn2 : n ≤ 8) : ∀ i w s h, (rangeI 1 (n - 1).toNat)[i]? = some w → wI n most (fun i => 0 + i) i s h → still h [] = true ∧ ∃ s1, asgT (.nm 4) w s = some s1 ∧ ∃ f s2 h2, ex (callN tab K) b11_0 s1 h = .ok (f, s2) h2 ∧ (f = .nx ∨ f = .ct) ∧ wI n most (fun i => 0 + i) (i + 1) s2 h2 := by
  rintro i w s h hw ⟨C, sd, d, ws, x, l, p, hs, rfl, hl, hq, rfl⟩
  obtain ⟨hi, rfl⟩ := range_get hw
  dsimp only at hl
  obtain ⟨y, s1, d1, hy0, hy1, hs1, e1⟩ := pt.drawK (K := K) (by omega) C sd d [.lst (List.map pairW ws)] (1 + i) (by omega) (by omega) hs
  obtain ⟨z, s2, d2, hz0, hz1, hs2, e2⟩ := pt.drawK (K := K) (by omega) C s1 d1 [.lst (List.map pairW ws)] 2 (by omega) (by omega) hs1
  have hwl : ws.length ≤ 16000000 := by omega
  refine ⟨rfl, _, rfl, .nx, _, _, ?_, .inl rfl, C, s2, d2, ws ++ [if z = 0 then (1 + (i : Int), y) else (y, 1 + (i : Int))], some (.int (1 + i)), l, some (pairW (1 + (i : Int), y)), hs2, rfl, by simp [hl], ?_, rfl⟩
  · by_cases hz : z = 0
    · simp [b11_0, ex, ev, evs, getS, setS, e1, newTup, line, asgR, asgT, thenS, isRef, e2, cmpW, eqW, bR, asB, evT, hz, mtW, hwl]
    · simp [b11_0, ex, ev, evs, getS, setS, e1, newTup, line, asgR, asgT, thenS, isRef, e2, cmpW, eqW, bR, asB, evT, hz, mtW, hwl, revW]
  · intro q hq2
    rcases List.mem_append.mp hq2 with hq2 | hq2
    · exact hq q hq2
    · rw [List.mem_singleton.mp hq2]
      unfold okP
      split
      · exact ⟨by dsimp only; omega, by dsimp only; omega, hy0, by dsimp only; omega⟩
      · exact ⟨hy0, by dsimp only; omega, by dsimp only; omega, by dsimp only; omega⟩
theorem w1_step {K : Nat} (hK : 3 ≤ K) {n most : Int} (hn : 2 ≤ n) (hn2 : n ≤ 8) {m0 m : Nat} (hm : m0 + m ≤ 12) : ∀ i w s h, (rangeI 0 m)[i]? = some w → wI n most (fun i => m0 + i) i s h → still h [] = true ∧ ∃ s1, asgT (.nm 5) w s = some s1 ∧ ∃ f s2 h2, ex (callN tab K) b11_1 s1 h = .ok (f, s2) h2 ∧ (f = .nx ∨ f = .ct) ∧ wI n most (fun i => m0 + i) (i + 1) s2 h2 := by
  rintro i w s h hw ⟨C, sd, d, ws, x, l, p, hs, rfl, hl, hq, rfl⟩
  obtain ⟨hi, rfl⟩ := range_get hw
  dsimp only at hl
  obtain ⟨y, s1, d1, hy, hs1, e1⟩ := two_places (K := K) hK C sd d [.lst (List.map pairW ws)] n hn (by omega) hs
  have hwl : ws.length ≤ 16000000 := by omega
  refine ⟨rfl, _, rfl, .nx, _, _, ?_, .inl rfl, C, s1, d1, ws ++ [y], x, some (.int (0 + i)), p, hs1, rfl, by simp [hl]; omega, ?_, rfl⟩
  · simp [b11_1, ex, ev, evs, getS, setS, e1, isRef, mtW, hwl, line, thenS]
  · intro q hq2
    rcases List.mem_append.mp hq2 with hq2 | hq2
    · exact hq q hq2
    · rw [List.mem_singleton.mp hq2]; exact hy
theorem mine_ok {K : Nat} (hK : 5 ≤ K) (C : List Int) (s d : Int) (most : Int) (hm : 2 ≤ most) (hm2 : most ≤ 8) (hs : 0 ≤ s) :
    ∃ n ws i o C' s' d', 2 ≤ n ∧ n ≤ 8 ∧ (∀ q ∈ ws, okP n q) ∧ ws.length ≤ 12 ∧ okP n (i, o) ∧ 0 ≤ s' ∧ callN tab K 11 [.ref 2, .int most, .int 12] (penH C s d []) = .ok (mineW n ws i o) (penH C' s' d' []) := by
  obtain ⟨k, rfl⟩ : ∃ k, K = k + 1 := ⟨K - 1, by omega⟩
  obtain ⟨a, s1, d1, ha0, ha1, hs1, e1⟩ := pt.drawK (K := k) (by omega) C s d [] (most - 1) (by omega) (by omega) hs
  obtain ⟨w, s2, d2, hw, hs2, e2⟩ := pt.one_ofK (K := k) (by omega) C s1 d1 [.lst [.int 2, .int 3, .int most, .int most, .int (2 + a)]] (x := .ref 3) (fun _ _ => rfl) (by simp) (by simp) hs1
  obtain ⟨n, rfl, hn, hn2⟩ : ∃ n, w = .int n ∧ 2 ≤ n ∧ n ≤ 8 := by
    simp at hw
    rcases hw with rfl | rfl | rfl | rfl <;> exact ⟨_, rfl, by omega, by omega⟩
  have hmin : ¬ (13 : Int) < n := by omega
  obtain ⟨sl3, h3, e3, C3, s3, d3, ws3, x3, l3, p3, hs3, rfl, hl3, hq3, rfl⟩ := forN_inv (wt := []) (t := .nm 4) (wI n most (fun i => 0 + i)) (rangeI 1 (n - 1).toNat) (w0_step (K := k) (by omega) hn hn2) (fun _ _ _ => rfl)
    (s := [some (.ref 2), some (.int most), some (.int 12), some (.int n), none, none, some (.ref 3), none, none, none]) (h := penH C s2 d2 [.lst []]) ⟨C, s2, d2, [], none, none, none, hs2, rfl, rfl, by simp, rfl⟩
  rw [range_len] at hl3
  dsimp only at hl3
  obtain ⟨b, s4, d4, hb0, hb1, hs4, e4⟩ := pt.drawK (K := k) (by omega) C3 s3 d3 [.lst (List.map pairW ws3)] (12 - (ws3.length : Int) + 1) (by omega) (by omega) hs3
  obtain ⟨sl5, h5, e5, C5, s5, d5, ws5, x5, l5, p5, hs5, rfl, hl5, hq5, rfl⟩ := forN_inv (wt := []) (t := .nm 5) (wI n most (fun i => ws3.length + i)) (rangeI 0 b.toNat) (w1_step (K := k) (by omega) hn hn2 (m0 := ws3.length) (m := b.toNat) (by omega)) (fun _ _ _ => rfl)
    (s := [some (.ref 2), some (.int most), some (.int 12), some (.int n), x3, l3, some (.ref 3), p3, none, none]) (h := penH C3 s4 d4 [.lst (List.map pairW ws3)]) ⟨C3, s4, d4, ws3, x3, l3, p3, hs4, rfl, by simp, hq3, rfl⟩
  rw [range_len] at hl5
  dsimp only at hl5
  obtain ⟨q, s6, d6, hq, hs6, e6⟩ := two_places (K := k) (by omega) C5 s5 d5 [.lst (List.map pairW ws5)] n hn (by omega) hs5
  refine ⟨n, ws5, q.1, q.2, C5, s6, d6, hn, hn2, hq5, by omega, hq, hs6, ?_⟩
  rw [enter (d := f11) rfl rfl]
  show (ex (callN tab k) b11 [some (.ref 2), some (.int most), some (.int 12), none, none, none, none, none, none, none] (penH C s d [])).bind (finS true (penH C s d [])) = _
  unfold b11
  rw [ex_step (s1 := [some (.ref 2), some (.int most), some (.int 12), some (.int n), none, none, none, none, none, none]) (h1 := penH C s2 d2 [])]
  · rw [ex_step (s1 := [some (.ref 2), some (.int most), some (.int 12), some (.int n), none, none, some (.ref 3), none, none, none]) (h1 := penH C s2 d2 [.lst []])]
    · rw [ex_step (s1 := [some (.ref 2), some (.int most), some (.int 12), some (.int n), x3, l3, some (.ref 3), p3, none, none]) (h1 := penH C3 s3 d3 [.lst (List.map pairW ws3)])]
      · rw [ex_step (s1 := [some (.ref 2), some (.int most), some (.int 12), some (.int n), x5, l5, some (.ref 3), p5, none, none]) (h1 := penH C5 s5 d5 [.lst (List.map pairW ws5)])]
        · have ct := (cut_pen C C5 s d s6 d6 [] [.lst (List.map pairW ws5)]).1
          simp only [List.nil_append] at ct
          have t3 : List.take 3 (penH C5 s6 d6 [.lst (List.map pairW ws5)]) = penH C5 s6 d6 [] := rfl
          simp [ex, ev, evs, getS, setS, e6, asgR, asgT, biW, newTup, line, thenS, finS, fin, ct, t3, W.low, W.lows, mineW, lows_pairs]
        · have w62 : within62 b = true := by
            simp only [within62, Bool.and_eq_true, decide_eq_true_eq]
            omega
          have hlen : biW .len [.ref 3] (penH C3 s3 d3 [.lst (List.map pairW ws3)]) = .ok (.int ws3.length) (penH C3 s3 d3 [.lst (List.map pairW ws3)]) := by simp [biW, seqOf]
          simp [ex, evI, ev, evs, getS, hlen, binW, e4, rng1It, w62, e5]
      · have w62 : (within62 1 && within62 n) = true := by
          simp only [within62, Bool.and_eq_true, decide_eq_true_eq]
          omega
        simp only [ex, evI, ev, getS, R.bind_ok, rng2It, w62, if_true, e3]
    · simp [ex, ev, evs, getS, setS, biW, binW, newLst, Wm.alloc, line, parR, parS, hmin]
  · refine (ex_asg (w := .int n) (h1 := penH C s2 d2 []) ?_).trans rfl
    have ct := (cut_pen C C s d s2 d2 [] [.lst [.int 2, .int 3, .int most, .int most, .int (2 + a)]]).1
    simp only [List.nil_append] at ct
    have t3 : List.take 3 (penH C s2 d2 [.lst [.int 2, .int 3, .int most, .int most, .int (2 + a)]]) = penH C s2 d2 [] := rfl
    simp [ev, evs, getS, binW, e1, newLst, Wm.alloc, line, e2, gcE, ct, t3, W.low]
end K02
end

section
set_option Elab.async false
set_option linter.all false
set_option maxRecDepth 100000
set_option maxHeartbeats 4000000
namespace K02
open Wm PySem Wq
/-! ### reached_from -/
def heapFW (C : List Int) (sd d : Int) (st : List Int × List Int) : OH := penH C sd d [.lst (List.map W.int st.1), .lst (List.map W.int st.2)]
def rA (C : List Int) (sd d : Int) (E : List (Int × Int)) (x : Int) (here : Option W) (st : List Int × List Int) (s : Sl) (h : OH) : Prop :=
  h = heapFW C sd d st ∧ ∃ a b c e, s = [some (.tup (List.map pairW E)), some (.int x), some (.tup []), some (.ref 3), some (.ref 4), here, a, b, c, e]
def rB (C : List Int) (sd d : Int) (E : List (Int × Int)) (x here : Int) (p : Int × Int) (st : List Int × List Int) (s : Sl) (h : OH) : Prop :=
  h = heapFW C sd d st ∧ ∃ c e, s = [some (.tup (List.map pairW E)), some (.int x), some (.tup []), some (.ref 3), some (.ref 4), some (.int here), some (.int p.1), some (.int p.2), c, e]
section
variable {K : Nat} {C : List Int} {sd d : Int} {E : List (Int × Int)} {x : Int}
theorem b22 (here : Int) (p q : Int × Int) (st : List Int × List Int) (hl1 : st.1.length < 1000) (hl2 : st.2.length < 1000) (s : Sl) (h : OH) (r : rB C sd d E x here p st s h) :
    still h [] = true ∧ ∃ s1, asgT (.cons (.nm 8) (.cons (.nm 9) .nil)) (pairW q) s = some s1 ∧ ∃ f s2 h2, ex (callN tab K) b2_2 s1 h = .ok (f, s2) h2 ∧ (f = .nx ∨ f = .ct) ∧ rB C sd d E x here p (st2 here st q.1 q.2) s2 h2 := by
  obtain ⟨rfl, c, e, rfl⟩ := r
  obtain ⟨f, w⟩ := st
  have hin : inW (heapFW C sd d (f, w)) (.int q.2) (.ref 3) = some (decide (q.2 ∈ f)) := inW_int rfl _
  have hin2 : inW (heapFW C sd d (f, w)) (.int q.2) (.tup []) = some false := inW_int (C := []) rfl _
  dsimp only at hl1 hl2
  have hf : f.length ≤ 16000000 := by omega
  have hw : w.length ≤ 16000000 := by omega
  simp only [heapFW] at hin hin2 ⊢
  refine ⟨rfl, _, rfl, .nx, _, _, ?_, .inl rfl, rfl, some (.int q.1), some (.int q.2), rfl⟩
  by_cases h1 : q.1 = here
  · by_cases h2 : q.2 ∈ f
    · simp [b2_2, ex, ev, evs, evT, getS, setS, cmpW, eqW, bR, asB, h1, hin, h2, thenS, st2, heapFW]
    · simp [b2_2, ex, ev, evs, evT, getS, setS, cmpW, eqW, bR, asB, h1, hin, h2, hin2, thenS, st2, isRef, mtW, line, hf, hw, heapFW]
  · simp [b2_2, ex, ev, evs, evT, getS, setS, cmpW, eqW, bR, asB, h1, thenS, st2, heapFW]

theorem len_st2 {here e f : Int} {st : List Int × List Int} : (st2 here st e f).1.length ≤ st.1.length + 1 ∧ (st2 here st e f).2.length ≤ st.2.length + 1 := by
  unfold st2
  split <;> simp
/-- one way, both ends -/
theorem b21 (here : Int) (p : Int × Int) (st : List Int × List Int) (hl1 : st.1.length < 900) (hl2 : st.2.length < 900) (s : Sl) (h : OH) (r : rA C sd d E x (some (.int here)) st s h) :
    still h [] = true ∧ ∃ s1, asgT (.cons (.nm 6) (.cons (.nm 7) .nil)) (pairW p) s = some s1 ∧ ∃ f s2 h2, ex (callN tab K) b2_1 s1 h = .ok (f, s2) h2 ∧ (f = .nx ∨ f = .ct) ∧ rA C sd d E x (some (.int here)) (scan1 here st p) s2 h2 := by
  obtain ⟨rfl, a, b, c, e, rfl⟩ := r
  have two := len_st2 (here := here) (e := p.1) (f := p.2) (st := st)
  obtain ⟨_, s1, e1, f1, s2, h2, e2, g2, r2⟩ := b22 (K := K) (C := C) (sd := sd) (d := d) (E := E) (x := x) here p p st (by omega) (by omega) [some (.tup (List.map pairW E)), some (.int x), some (.tup []), some (.ref 3), some (.ref 4), some (.int here), some (.int p.1), some (.int p.2), c, e] _ ⟨rfl, c, e, rfl⟩
  obtain ⟨st_, s3, e3, f3, s4, h4, e4, g4, r4⟩ := b22 (K := K) (C := C) (sd := sd) (d := d) (E := E) (x := x) here p (p.2, p.1) (st2 here st p.1 p.2) (by omega) (by omega) s2 h2 r2
  obtain ⟨e4h, c4, x4, e4s⟩ := r4
  refine ⟨rfl, _, rfl, .nx, s4, h4, ?_, .inl rfl, e4h, _, _, c4, x4, e4s⟩
  have fl : forN (.cons (.nm 8) (.cons (.nm 9) .nil)) (ex (callN tab K) b2_2) [] [pairW p, pairW (p.2, p.1)] [some (.tup (List.map pairW E)), some (.int x), some (.tup []), some (.ref 3), some (.ref 4), some (.int here), some (.int p.1), some (.int p.2), c, e] (heapFW C sd d st) = .ok (.nx, s4) h4 := by
    simp only [forN, asgR, e1, e2, R.bind_ok, still, if_true]
    rcases g2 with rfl | rfl <;> rcases g4 with rfl | rfl <;> simp [goOn, e3, e4]
  unfold b2_1
  rw [ex_step (s1 := s4) (h1 := h4)]
  · rfl
  · refine ex_for (p := ([pairW p, pairW (p.2, p.1)], [])) (h1 := heapFW C sd d st) ?_ fl
    simp [evI, ev, evs, getS, newTup, line, seqIt, seqOf, watch, setS]
/-- all ways, from a place -/
theorem b20 (N : Nat) (hN : N ≤ 100) (hE : ∀ p ∈ E, (0 ≤ p.1 ∧ p.1 < N) ∧ (0 ≤ p.2 ∧ p.2 < N)) (here : Int) (f w : List Int) (q : Wait E x N f (w ++ [here])) (hw : w.length ≤ 200) (y : Option W) (s : Sl) (h : OH) (r : rA C sd d E x y (f, w ++ [here]) s h) (hE2 : E.length ≤ 100) :
    ∃ new s2 h2, ex (callN tab K) b2_0 s h = .ok (.nx, s2) h2 ∧ rA C sd d E x (some (.int here)) (f ++ new, w ++ new) s2 h2 ∧ Wait E x N (f ++ new) (w ++ new) ∧ (w ++ new).length + 2 * (N - (f ++ new).length) < (w ++ [here]).length + 2 * (N - f.length) := by
  obtain ⟨rfl, a, b, c, e, rfl⟩ := r
  obtain ⟨new, en, qn, mn⟩ := q.scan hE
  have fN := nodup_len q.nd q.low
  obtain ⟨s2, h2, e2, _, r2⟩ := forN_rel (wt := []) (t := .cons (.nm 6) (.cons (.nm 7) .nil)) (b := ex (callN tab K) b2_1) pairW (scan1 here) (fun n st s h => (st.1.length + 2 * n ≤ 400 ∧ st.2.length + 2 * n ≤ 400) ∧ rA C sd d E x (some (.int here)) st s h) E (f, w)
    [some (.tup (List.map pairW E)), some (.int x), some (.tup []), some (.ref 3), some (.ref 4), some (.int here), a, b, c, e] (heapFW C sd d (f, w)) ⟨⟨by dsimp only; omega, by dsimp only; omega⟩, rfl, a, b, c, e, rfl⟩
    (fun n st s h p hp r => by
      obtain ⟨r1, s1, e1, f1, s2, h2, e2, g2, r2⟩ := b21 (K := K) here p st (by omega) (by omega) s h r.2
      have l1 := len_st2 (here := here) (e := p.1) (f := p.2) (st := st)
      have l2 := len_st2 (here := here) (e := p.2) (f := p.1) (st := st2 here st p.1 p.2)
      exact ⟨r1, s1, e1, f1, s2, h2, e2, g2, ⟨by unfold scan1; omega, by unfold scan1; omega⟩, r2⟩) (fun _ _ _ _ => rfl)
  rw [en] at r2
  refine ⟨new, s2, h2, ?_, r2, qn, mn⟩
  unfold b2_0
  rw [ex_step (s1 := [some (.tup (List.map pairW E)), some (.int x), some (.tup []), some (.ref 3), some (.ref 4), some (.int here), a, b, c, e]) (h1 := heapFW C sd d (f, w))]
  · rw [ex_step (s1 := s2) (h1 := h2)]
    · rfl
    · refine ex_for (p := (List.map pairW E, [])) (h1 := heapFW C sd d (f, w)) ?_ e2
      simp [evI, ev, getS, seqIt, seqOf, watch]
  · refine (ex_asg (w := .int here) (h1 := heapFW C sd d (f, w)) ?_).trans rfl
    have e1 : (List.map W.int w ++ [W.int here])[w.length]? = some (.int here) := by
      rw [List.getElem?_append_right (by simp)]
      simp
    simp [ev, evs, getS, isRef, mtW, heapFW, e1]
theorem reached {K : Nat} (hK : 1 ≤ K) (C : List Int) (sd d : Int) (E : List (Int × Int)) (x : Int) (N : Nat) (hN : N ≤ 50) (hE : ∀ p ∈ E, (0 ≤ p.1 ∧ p.1 < N) ∧ (0 ≤ p.2 ∧ p.2 < N)) (hE2 : E.length ≤ 100) (hx : 0 ≤ x ∧ x < N) :
    ∃ f : List Int, f.Nodup ∧ (∀ y, y ∈ f ↔ Rch E x y) ∧ callN tab K 2 [.tup (E.map pairW), .int x, .tup []] (penH C sd d []) = .ok (.ref 5) (penH C sd d [.lst (f.map .int), .lst [], .lst ((sortI f).map .int)]) := by
  obtain ⟨k, rfl⟩ : ∃ k, K = k + 1 := ⟨K - 1, by omega⟩
  obtain ⟨s', h', e1, f, q, y, rfl, a, b, c, e, rfl⟩ := whlN_inv (c := evT (callN tab k) (.gc (.cmp .ne (.v 4) (.lst .nil)))) (b := ex (callN tab k) b2_0)
    (fun m s h => ∃ f w y, Wait E x N f w ∧ m = w.length + 2 * (N - f.length) ∧ m < 200 ∧ rA C sd d E x y (f, w) s h) (fun s h => ∃ f, Wait E x N f [] ∧ ∃ y, rA C sd d E x y (f, []) s h)
    (by
      rintro m s h ⟨f, w, y, q, rfl, hm, r⟩
      have ht : evT (callN tab k) (.gc (.cmp .ne (.v 4) (.lst .nil))) s h = .ok (!w.isEmpty) h := by
        obtain ⟨rfl, a, b, c, e, rfl⟩ := r
        exact evT_notnil (ns := w) rfl (fun _ => rfl)
      rw [ht]
      rcases List.eq_nil_or_concat w with rfl | ⟨w', here, rfl⟩
      · exact .inl ⟨rfl, f, q, y, r⟩
      · rw [List.concat_eq_append] at q r hm ⊢
        obtain ⟨new, s2, h2, e2, r2, q2, m2⟩ := b20 (K := k) N (by omega) hE here f w' q (by simp at hm; omega) y s h r hE2
        exact .inr ⟨by simp, .nx, s2, h2, e2, .inl rfl, _, m2, f ++ new, w' ++ new, _, q2, rfl, by omega, r2⟩)
    fuel (1 + 2 * (N - 1)) [some (.tup (List.map pairW E)), some (.int x), some (.tup []), some (.ref 3), some (.ref 4), none, none, none, none, none] (heapFW C sd d ([x], [x]))
    ⟨[x], [x], none, Wait.start hx, rfl, by omega, rfl, none, none, none, none, rfl⟩ (by unfold fuel; omega)
  refine ⟨f, q.nd, q.fin, ?_⟩
  have fN := nodup_len q.nd q.low
  rw [enter (d := f2) rfl rfl]
  show (ex (callN tab k) b2 [some (.tup (List.map pairW E)), some (.int x), some (.tup []), none, none, none, none, none, none, none] (penH C sd d [])).bind (finS false (penH C sd d [])) = _
  unfold b2
  rw [ex_step (s1 := [some (.tup (List.map pairW E)), some (.int x), some (.tup []), some (.ref 3), some (.ref 4), none, none, none, none, none]) (h1 := heapFW C sd d ([x], [x]))]
  · rw [ex_step (ex_whl' e1)]
    have h64 : f.length < 64 := by omega
    simp [ex, ev, evs, getS, heapFW, biW, intsW_map, h64, Wm.alloc, thenS, finS, fin]
  · simp [ex, ev, evs, getS, setS, newLst, Wm.alloc, line, parR, parS, heapFW]
end
end K02
end

section
set_option Elab.async false
set_option linter.all false
set_option maxRecDepth 100000
set_option maxHeartbeats 4000000
namespace K02
open Wm PySem Wq
theorem len_ins (i : Int) : ∀ l : List Int, (insI i l).length = l.length + 1
  | [] => rfl
  | j :: r => by
    unfold insI
    split
    · rfl
    · simp [len_ins i r]
theorem len_sort : ∀ l : List Int, (sortI l).length = l.length
  | [] => rfl
  | i :: r => by simp [sortI, len_ins, len_sort r]
/-- whether all places are joined -/
noncomputable def cnt (E : List (Int × Int)) (x : Int) (N : Nat) : Nat := (rounds E [x] N).length
theorem is_joined {K : Nat} (hK : 2 ≤ K) (C : List Int) (sd d : Int) (E : List (Int × Int)) (x o : Int) (N : Nat) (hN : N ≤ 50) (hE : ∀ p ∈ E, okP N p) (hE2 : E.length ≤ 100) (hx : 0 ≤ x ∧ x < N) :
    ∃ f : List Int, f.Nodup ∧ (∀ y, y ∈ f ↔ Rch E x y) ∧ callN tab K 3 [mineW N E x o] (penH C sd d []) = .ok (.bl (decide ((f.length : Int) = N))) (penH C sd d []) := by
  obtain ⟨k, rfl⟩ : ∃ k, K = k + 1 := ⟨K - 1, by omega⟩
  obtain ⟨f, nd, hf, e⟩ := reached (K := k) (by omega) C sd d E x N hN (fun p hp => ⟨⟨(hE p hp).1, (hE p hp).2.1⟩, (hE p hp).2.2⟩) hE2 hx
  refine ⟨f, nd, hf, ?_⟩
  rw [enter (d := f3) rfl rfl]
  have i1 : ∀ h, ixW (mineW N E x o) (.int 1) h = .ok (.tup (E.map pairW)) h := fun h => ixW_tup (by decide) rfl
  have i2 : ∀ h, ixW (mineW N E x o) (.int 2) h = .ok (.int x) h := fun h => ixW_tup (by decide) rfl
  have i0 : ∀ h, ixW (mineW N E x o) (.int 0) h = .ok (.int N) h := fun h => ixW_tup (by decide) rfl
  have ct := (cut_pen C C sd d sd d [] [.lst (f.map .int), .lst [], .lst ((sortI f).map .int)]).1
  simp only [List.nil_append] at ct
  have t3 : List.take 3 (penH C sd d [.lst (f.map .int), .lst [], .lst ((sortI f).map .int)]) = penH C sd d [] := rfl
  simp [f3, b3, ex, ev, evs, startS, getS, i1, i2, newTup, line, e, biW, seqOf, i0, cmpW, eqW, bR, thenS, finS, fin, ct, t3, W.low, len_sort]
/-! ### the law's own count -/
def heapF (C : List Int) (sd d : Int) (f : List Int) : OH := penH C sd d [.lst (List.map W.int f)]
def rL (C : List Int) (sd d : Int) (E : List (Int × Int)) (x : Int) (f : List Int) (s : Sl) (h : OH) : Prop :=
  h = heapF C sd d f ∧ ∃ l a b c e, s = [some (.tup (List.map pairW E)), some (.int x), some (.tup []), some (.ref 3), l, a, b, c, e]
section
variable {K : Nat} {C : List Int} {sd d : Int} {E : List (Int × Int)} {x : Int}
theorem b82 (l : Option W) (p q : Int × Int) (f : List Int) (hl : f.length < 1000) (c e : Option W) : ∃ s2 h2, ex (callN tab K) b8_2 [some (.tup (List.map pairW E)), some (.int x), some (.tup []), some (.ref 3), l, some (.int p.1), some (.int p.2), some (.int q.1), some (.int q.2)] (heapF C sd d f) = .ok (.nx, s2) h2 ∧
    h2 = heapF C sd d (eL f q.1 q.2) ∧ s2 = [some (.tup (List.map pairW E)), some (.int x), some (.tup []), some (.ref 3), l, some (.int p.1), some (.int p.2), some (.int q.1), some (.int q.2)] := by
  have hin : inW (heapF C sd d f) (.int q.2) (.ref 3) = some (decide (q.2 ∈ f)) := inW_int rfl _
  have hin1 : inW (heapF C sd d f) (.int q.1) (.ref 3) = some (decide (q.1 ∈ f)) := inW_int rfl _
  have hin2 : inW (heapF C sd d f) (.int q.2) (.tup []) = some false := inW_int (C := []) rfl _
  have hf : f.length ≤ 16000000 := by omega
  simp only [heapF] at hin hin1 hin2 ⊢
  refine ⟨_, _, ?_, rfl, rfl⟩
  by_cases h1 : q.1 ∈ f
  · by_cases h2 : q.2 ∈ f
    · simp [b8_2, ex, ev, evs, evT, getS, setS, cmpW, bR, asB, h1, hin, hin1, h2, thenS, eL]
    · simp [b8_2, ex, ev, evs, evT, getS, setS, cmpW, bR, asB, h1, hin, hin1, h2, hin2, thenS, eL, isRef, mtW, line, hf]
  · simp [b8_2, ex, ev, evs, evT, getS, setS, cmpW, bR, asB, h1, hin1, thenS, eL]
theorem len_eL {f : List Int} {a b : Int} : (eL f a b).length ≤ f.length + 1 := by
  unfold eL
  split <;> simp
theorem b81 (p : Int × Int) (f : List Int) (hl : f.length < 900) (s : Sl) (h : OH) (r : rL C sd d E x f s h) :
    still h [] = true ∧ ∃ s1, asgT (.cons (.nm 5) (.cons (.nm 6) .nil)) (pairW p) s = some s1 ∧ ∃ fl s2 h2, ex (callN tab K) b8_1 s1 h = .ok (fl, s2) h2 ∧ (fl = .nx ∨ fl = .ct) ∧ rL C sd d E x (edgeL f p) s2 h2 := by
  obtain ⟨rfl, l, a, b, c, e, rfl⟩ := r
  have l1 := len_eL (f := f) (a := p.1) (b := p.2)
  obtain ⟨s2, h2, e2, rfl, rfl⟩ := b82 (K := K) (C := C) (sd := sd) (d := d) (E := E) (x := x) l p p f (by omega) none none
  obtain ⟨s4, h4, e4, rfl, rfl⟩ := b82 (K := K) (C := C) (sd := sd) (d := d) (E := E) (x := x) l p (p.2, p.1) (eL f p.1 p.2) (by omega) none none
  refine ⟨rfl, _, rfl, .nx, [some (.tup (List.map pairW E)), some (.int x), some (.tup []), some (.ref 3), l, some (.int p.1), some (.int p.2), some (.int p.2), some (.int p.1)], heapF C sd d (edgeL f p), ?_, .inl rfl, rfl, _, _, _, _, _, rfl⟩
  have fl : forN (.cons (.nm 7) (.cons (.nm 8) .nil)) (ex (callN tab K) b8_2) [] [pairW p, pairW (p.2, p.1)] [some (.tup (List.map pairW E)), some (.int x), some (.tup []), some (.ref 3), l, some (.int p.1), some (.int p.2), c, e] (heapF C sd d f) =
      .ok (.nx, [some (.tup (List.map pairW E)), some (.int x), some (.tup []), some (.ref 3), l, some (.int p.1), some (.int p.2), some (.int p.2), some (.int p.1)]) (heapF C sd d (edgeL f p)) := by
    have a1 : ∀ c e, asgT (.cons (.nm 7) (.cons (.nm 8) .nil)) (pairW p) [some (.tup (List.map pairW E)), some (.int x), some (.tup []), some (.ref 3), l, some (.int p.1), some (.int p.2), c, e] = some [some (.tup (List.map pairW E)), some (.int x), some (.tup []), some (.ref 3), l, some (.int p.1), some (.int p.2), some (.int p.1), some (.int p.2)] := fun _ _ => rfl
    have a2 : ∀ c e, asgT (.cons (.nm 7) (.cons (.nm 8) .nil)) (pairW (p.2, p.1)) [some (.tup (List.map pairW E)), some (.int x), some (.tup []), some (.ref 3), l, some (.int p.1), some (.int p.2), c, e] = some [some (.tup (List.map pairW E)), some (.int x), some (.tup []), some (.ref 3), l, some (.int p.1), some (.int p.2), some (.int p.2), some (.int p.1)] := fun _ _ => rfl
    simp only [forN, asgR, a1, e2, R.bind_ok, still, if_true, goOn, a2, e4]
    rfl
  unfold b8_1
  rw [ex_step (s1 := [some (.tup (List.map pairW E)), some (.int x), some (.tup []), some (.ref 3), l, some (.int p.1), some (.int p.2), some (.int p.2), some (.int p.1)]) (h1 := heapF C sd d (edgeL f p))]
  · rfl
  · refine ex_for (p := ([pairW p, pairW (p.2, p.1)], [])) (h1 := heapF C sd d f) ?_ fl
    simp [evI, ev, evs, getS, newTup, line, seqIt, seqOf, watch, setS]
theorem b80 (f : List Int) (hl : f.length ≤ 200) (hE : E.length ≤ 100) (s : Sl) (h : OH) (r : rL C sd d E x f s h) : ∃ s2 h2, ex (callN tab K) b8_0 s h = .ok (.nx, s2) h2 ∧ rL C sd d E x (roundL E f) s2 h2 := by
  obtain ⟨rfl, l, a, b, c, e, rfl⟩ := r
  obtain ⟨s2, h2, e2, _, r2⟩ := forN_rel (wt := []) (t := .cons (.nm 5) (.cons (.nm 6) .nil)) (b := ex (callN tab K) b8_1) pairW edgeL (fun n f s h => f.length + 2 * n ≤ 600 ∧ rL C sd d E x f s h) E f
    [some (.tup (List.map pairW E)), some (.int x), some (.tup []), some (.ref 3), l, a, b, c, e] (heapF C sd d f) ⟨by omega, rfl, l, a, b, c, e, rfl⟩
    (fun n st s h p hp r => by
      obtain ⟨r1, s1, e1, f1, s2, h2, e2, g2, r2⟩ := b81 (K := K) p st (by omega) s h r.2
      have l1 := len_eL (f := st) (a := p.1) (b := p.2)
      have l2 := len_eL (f := eL st p.1 p.2) (a := p.2) (b := p.1)
      exact ⟨r1, s1, e1, f1, s2, h2, e2, g2, by unfold edgeL; omega, r2⟩) (fun _ _ _ _ => rfl)
  refine ⟨s2, h2, ?_, r2⟩
  unfold b8_0
  rw [ex_step (s1 := s2) (h1 := h2)]
  · rfl
  · refine ex_for (p := (List.map pairW E, [])) (h1 := heapF C sd d f) ?_ e2
    simp [evI, ev, getS, seqIt, seqOf, watch]
theorem law_reached {K : Nat} (hK : 1 ≤ K) (C : List Int) (sd d : Int) (E : List (Int × Int)) (x : Int) (N : Nat) (hN : N ≤ 8) (hE : ∀ p ∈ E, (0 ≤ p.1 ∧ p.1 < N) ∧ (0 ≤ p.2 ∧ p.2 < N)) (hE2 : E.length ≤ 100) (hx : 0 ≤ x ∧ x < N) :
    callN tab K 8 [.tup (E.map pairW), .int x, .tup []] (penH C sd d []) = .ok (.ref 3) (penH C sd d [.lst ((rounds E [x] 8).map .int)]) := by
  obtain ⟨k, rfl⟩ : ∃ k, K = k + 1 := ⟨K - 1, by omega⟩
  have small : ∀ n, (rounds E [x] n).length ≤ 8 := fun n => by
    obtain ⟨nd, _, hr, _⟩ := rounds_ok hx hE n
    exact Nat.le_trans (nodup_len nd fun z hz => rch_low hx hE (hr z hz)) hN
  obtain ⟨s', h', e1, hfin⟩ := forN_inv (wt := []) (t := .nm 4) (b := ex (callN tab k) b8_0) (fun i s h => rL C sd d E x (rounds E [x] i) s h) (rangeI 0 8)
    (fun i w s h hw r => by
      obtain ⟨rfl, l, a, b, c, e, rfl⟩ := r
      obtain ⟨s2, h2, e2, r2⟩ := b80 (K := k) (C := C) (sd := sd) (d := d) (E := E) (x := x) (rounds E [x] i) (Nat.le_trans (small i) (by decide)) hE2 [some (.tup (List.map pairW E)), some (.int x), some (.tup []), some (.ref 3), some w, a, b, c, e] _ ⟨rfl, _, _, _, _, _, rfl⟩
      exact ⟨rfl, _, rfl, .nx, s2, h2, e2, .inl rfl, r2⟩) (fun _ _ _ => rfl)
    (s := [some (.tup (List.map pairW E)), some (.int x), some (.tup []), some (.ref 3), none, none, none, none, none]) (h := heapF C sd d [x]) ⟨rfl, none, none, none, none, none, rfl⟩
  have e1 : forN (.nm 4) (ex (callN tab k) b8_0) [] (rangeI 0 8) [some (.tup (List.map pairW E)), some (.int x), some (.tup []), some (.ref 3), none, none, none, none, none] (heapF C sd d [x]) = .ok (.nx, s') h' := e1
  rw [enter (d := f8) rfl rfl]
  show (ex (callN tab k) b8 [some (.tup (List.map pairW E)), some (.int x), some (.tup []), none, none, none, none, none, none] (penH C sd d [])).bind (finS false (penH C sd d [])) = _
  unfold b8
  rw [ex_step (s1 := [some (.tup (List.map pairW E)), some (.int x), some (.tup []), some (.ref 3), none, none, none, none, none]) (h1 := heapF C sd d [x])]
  · rw [ex_step (s1 := s') (h1 := h')]
    · obtain ⟨rfl, l, a, b, c, e, rfl⟩ := hfin
      rfl
    · refine ex_for (p := (rangeI 0 8, [])) (h1 := heapF C sd d [x]) ?_ e1
      simp [evI, ev, rng1It, within62]
  · simp [ex, ev, evs, getS, setS, newLst, Wm.alloc, line, asgR, asgT, heapF]
theorem law_is_joined {K : Nat} (hK : 2 ≤ K) (C : List Int) (sd d : Int) (E : List (Int × Int)) (x o : Int) (N : Nat) (hN : N ≤ 8) (hE : ∀ p ∈ E, okP N p) (hE2 : E.length ≤ 100) (hx : 0 ≤ x ∧ x < N) :
    callN tab K 9 [mineW N E x o] (penH C sd d []) = .ok (.bl (decide (((rounds E [x] 8).length : Int) = N))) (penH C sd d []) := by
  obtain ⟨k, rfl⟩ : ∃ k, K = k + 1 := ⟨K - 1, by omega⟩
  have e := law_reached (K := k) (by omega) C sd d E x N hN (fun p hp => ⟨⟨(hE p hp).1, (hE p hp).2.1⟩, (hE p hp).2.2⟩) hE2 hx
  rw [enter (d := f9) rfl rfl]
  have i1 : ∀ h, ixW (mineW N E x o) (.int 1) h = .ok (.tup (E.map pairW)) h := fun h => ixW_tup (by decide) rfl
  have i2 : ∀ h, ixW (mineW N E x o) (.int 2) h = .ok (.int x) h := fun h => ixW_tup (by decide) rfl
  have i0 : ∀ h, ixW (mineW N E x o) (.int 0) h = .ok (.int N) h := fun h => ixW_tup (by decide) rfl
  have ct := (cut_pen C C sd d sd d [] [.lst ((rounds E [x] 8).map .int)]).1
  simp only [List.nil_append] at ct
  have t3 : List.take 3 (penH C sd d [.lst ((rounds E [x] 8).map .int)]) = penH C sd d [] := rfl
  simp [f9, b9, ex, ev, evs, startS, getS, i1, i2, newTup, line, e, biW, seqOf, i0, cmpW, eqW, bR, thenS, finS, fin, ct, t3, W.low]
end
end K02
end

section
set_option Elab.async false
set_option linter.all false
set_option maxRecDepth 100000
set_option maxHeartbeats 4000000
namespace K02
open Wm PySem Wq
/-! ### the ways at a place -/
def dueI : Int → List (Int × Int) → Int → List Int
  | _, [], _ => []
  | i, p :: E, x => if x = p.1 ∨ x = p.2 then i :: dueI (i + 1) E x else dueI (i + 1) E x
theorem due_mem : ∀ (E : List (Int × Int)) (i x w : Int), w ∈ dueI i E x → i ≤ w ∧ w < i + E.length
  | [], i, x, w, h => by simp [dueI] at h
  | p :: E, i, x, w, h => by
    unfold dueI at h
    have go : w ∈ dueI (i + 1) E x → i ≤ w ∧ w < i + (p :: E).length := fun h => by
      have := due_mem E (i + 1) x w h
      simp only [List.length_cons]
      omega
    split at h
    · rcases List.mem_cons.mp h with rfl | h
      · simp only [List.length_cons]
        omega
      · exact go h
    · exact go h
theorem due_len : ∀ (E : List (Int × Int)) (i x : Int), (dueI i E x).length ≤ E.length
  | [], i, x => by simp [dueI]
  | p :: E, i, x => by
    have := due_len E (i + 1) x
    unfold dueI
    split <;> simp only [List.length_cons] <;> omega
theorem lcN_due {f : W → OH → R (Option W)} {h : OH} (x : Int) (hf : ∀ (i : Int) (p : Int × Int), f (.tup [.int i, pairW p]) h = .ok (if x = p.1 ∨ x = p.2 then some (.int i) else none) h) : ∀ (E : List (Int × Int)) (i : Int), lcN f [] (enumT i (E.map pairW)) h = .ok ((dueI i E x).map .int) h
  | [], i => rfl
  | p :: E, i => by
    have ih := lcN_due x hf E (i + 1)
    simp only [List.map_cons, enumT, lcN, still, if_true, hf, R.calm, R.bind_ok, ih, dueI]
    split <;> rfl
theorem in_pair (h : OH) (x : Int) (p : Int × Int) : inW h (.int x) (pairW p) = some (decide (x = p.1 ∨ x = p.2)) := by
  have := inW_int (h := h) (x := pairW p) (C := [p.1, p.2]) rfl x
  rw [this]
  simp
theorem due_lc {G : Nat → List W → OH → R W} {it : E} {jx j1 j2 : Nat} {sl : Sl} (E : List (Int × Int)) (x : Int) (hE : E.length ≤ 100) (C : List Int) (sd d : Int) (e : OH) (hit : evI G it sl (penH C sd d e) = .ok (enumT 0 (E.map pairW), []) (penH C sd d e))
    (g0 : ∀ (i : Int) (p : Int × Int) h, (asgR (.cons (.nm j1) (.cons (.nm j2) .nil)) (.tup [.int i, pairW p]) (wipeS sl [j1, j2]) h).bind (fun s' h3 => (evC G (.cons (.cmp .inn (.v jx) (.v j2)) .nil) s' h3).bind fun k h4 => if k = true then (ev G (.v j1) s' h4).bind fun y h5 => .ok (some y) h5 else .ok none h4) = .ok (if x = p.1 ∨ x = p.2 then some (.int i) else none) h) :
    ev G (.lc (.v j1) [j1, j2] (.cons (.nm j1) (.cons (.nm j2) .nil)) it (.cons (.cmp .inn (.v jx) (.v j2)) .nil)) sl (penH C sd d e) = .ok (.ref (3 + e.length)) (penH C sd d (e ++ [.lst ((dueI 0 E x).map .int)])) := by
  have dl := due_len E 0 x
  have nl : newLst ((dueI 0 E x).map .int) (penH C sd d e) = .ok (.ref (3 + e.length)) (penH C sd d (e ++ [.lst ((dueI 0 E x).map .int)])) := by
    have : (dueI 0 E x).length ≤ 16000000 := by omega
    simp [newLst, line, this, Wm.alloc]
    omega
  exact ev_lc hit (lcN_due x (fun i p => g0 i p _) E 0) nl
theorem ways_at {K : Nat} (hK : 1 ≤ K) (E : List (Int × Int)) (n i o x : Int) (hE : E.length ≤ 100) (C : List Int) (sd d : Int) (e : OH) : callN tab K 0 [mineW n E i o, .int x] (penH C sd d e) = .ok (.tup ((dueI 0 E x).map .int)) (penH C sd d e) := by
  obtain ⟨k, rfl⟩ : ∃ k, K = k + 1 := ⟨K - 1, by omega⟩
  rw [enter (d := f0) rfl rfl]
  have i1 : ∀ h, ixW (mineW n E i o) (.int 1) h = .ok (.tup (E.map pairW)) h := fun h => ixW_tup (by decide) rfl
  have it : items (penH C sd d (e ++ [.lst ((dueI 0 E x).map .int)])) (3 + e.length) = some ((dueI 0 E x).map .int) := by
    simp only [items, penH]
    rw [show 3 + e.length = e.length + 1 + 1 + 1 by omega]
    simp
  show (ex (callN tab k) b0 [some (mineW n E i o), some (.int x), none, none] (penH C sd d e)).bind (finS false (penH C sd d e)) = _
  unfold b0
  rw [ex_ret' (w := .tup ((dueI 0 E x).map .int)) (h1 := penH C sd d e)]
  · rfl
  · refine ev_gc (ev_bi1 (due_lc E x hE C sd d e ?_ fun j p h => ?_) (r := .ok (.tup ((dueI 0 E x).map .int)) (penH C sd d (e ++ [.lst ((dueI 0 E x).map .int)]))) ?_) ?_ (cut_pen C C sd d sd d e [.lst ((dueI 0 E x).map .int)]).1 (cut_pen C C sd d sd d e [.lst ((dueI 0 E x).map .int)]).2
    · simp [evI, ev, getS, i1, enumIt, seqOf, watch]
    · by_cases hp : x = p.1 ∨ x = p.2
      · simp [asgR, asgT, wipeS, setS, evC, evT, ev, getS, cmpW, in_pair, bR, asB, hp]
      · simp [asgR, asgT, wipeS, setS, evC, evT, ev, getS, cmpW, in_pair, bR, asB, hp]
    · simp [biW, it]
    · simp [W.low, lows_ints]
theorem far_end {K : Nat} (hK : 1 ≤ K) (E : List (Int × Int)) (n i o x w : Int) (hw : 0 ≤ w ∧ w < E.length) (h : OH) : ∃ p, E[w.toNat]? = some p ∧ callN tab K 1 [mineW n E i o, .int w, .int x] h = .ok (.int (if x = p.1 then p.2 else p.1)) h := by
  obtain ⟨k, rfl⟩ : ∃ k, K = k + 1 := ⟨K - 1, by omega⟩
  have hl : w.toNat < E.length := by omega
  refine ⟨E[w.toNat], List.getElem?_eq_getElem hl, ?_⟩
  rw [enter (d := f1) rfl rfl]
  have i1 : ∀ h, ixW (mineW n E i o) (.int 1) h = .ok (.tup (E.map pairW)) h := fun h => ixW_tup (by decide) rfl
  have i2 : ∀ h, ixW (.tup (E.map pairW)) (.int w) h = .ok (pairW E[w.toNat]) h := fun h => ixW_tup hw.1 (by rw [List.getElem?_map, List.getElem?_eq_getElem hl]; rfl)
  by_cases hx : x = (E[w.toNat]).1
  · simp [f1, b1, ex, ev, evT, startS, getS, setS, i1, i2, asgR, asgT, cmpW, eqW, bR, asB, ← hx, thenS, finS, fin]
  · simp [f1, b1, ex, ev, evT, startS, getS, setS, i1, i2, asgR, asgT, cmpW, eqW, bR, asB, hx, thenS, finS, fin]

/-! ### texts -/
theorem repr_bool (b : Bool) (h : OH) : biW .repr [.bl b] h = .ok (.str (PyData.bool b).shown) h := repr_run (toD_bl h deep b) rfl (by simp [dWt, line])
theorem repr_int (i : Int) (hi : i.natAbs < 2 ^ 99) (h : OH) : biW .repr [.int i] h = .ok (.str (PyData.int i).shown) h := repr_run (toD_int h deep i) (by
  have : i.natAbs.log2 < 100 := by
    by_cases h0 : i.natAbs = 0
    · rw [h0]; decide
    · exact (Nat.log2_lt h0).mpr (by omega)
  simpa [dSml] using this) (by simp [dWt, line])
theorem sml_int {i : Int} (hi : i.natAbs < 2 ^ 99) : dSml (.int i) = true := by
  have : i.natAbs.log2 < 100 := by
    by_cases h0 : i.natAbs = 0
    · rw [h0]; decide
    · exact (Nat.log2_lt h0).mpr (by omega)
  simpa [dSml] using this
theorem smls_ints : ∀ C : List Int, (∀ i ∈ C, i.natAbs < 2 ^ 99) → dSmls (C.map .int) = true ∧ dWts (C.map .int) = 104 * C.length
  | [], _ => ⟨rfl, rfl⟩
  | i :: C, h => by
    obtain ⟨h1, h2⟩ := smls_ints C fun j hj => h j (List.mem_cons_of_mem _ hj)
    refine ⟨by simp [dSmls, sml_int (h i List.mem_cons_self), h1], ?_⟩
    simp only [List.map_cons, dWts, dWt, h2, List.length_cons]
    omega
theorem repr_tup (C : List Int) (hC : ∀ i ∈ C, i.natAbs < 2 ^ 99) (hl : C.length ≤ 1000) (h : OH) : biW .repr [.tup (C.map .int)] h = .ok (.str (PyData.tuple (C.map .int)).shown) h := by
  obtain ⟨h1, h2⟩ := smls_ints C hC
  refine repr_run (toD_tup (n := 59) (toDl_ints h 59 C)) (by simpa [dSml] using h1) ?_
  simp only [dWt, h2]
  unfold line
  omega
def dP (p : Int × Int) : PyData := .tuple [.int p.1, .int p.2]
theorem toDl_pairs (h : OH) : ∀ E : List (Int × Int), toDl (toD h 59) (E.map pairW) = some (E.map dP)
  | [] => rfl
  | p :: E => by
    have e1 : toD h 59 (pairW p) = some (dP p) := toD_tup (n := 58) (by simp [toDl])
    simp [toDl, e1, toDl_pairs h E]
theorem toDl_pairs58 (h : OH) : ∀ E : List (Int × Int), toDl (toD h 58) (E.map pairW) = some (E.map dP)
  | [] => rfl
  | p :: E => by
    have e1 : toD h 58 (pairW p) = some (dP p) := toD_tup (n := 57) (by simp [toDl])
    simp [toDl, e1, toDl_pairs58 h E]
theorem smls_pairs : ∀ E : List (Int × Int), (∀ p ∈ E, p.1.natAbs < 2 ^ 99 ∧ p.2.natAbs < 2 ^ 99) → dSmls (E.map dP) = true ∧ dWts (E.map dP) = 213 * E.length
  | [], _ => ⟨rfl, rfl⟩
  | p :: E, h => by
    obtain ⟨h1, h2⟩ := smls_pairs E fun j hj => h j (List.mem_cons_of_mem _ hj)
    obtain ⟨a, b⟩ := h p List.mem_cons_self
    refine ⟨by simp [dSmls, dP, dSml, h1]; exact ⟨by simpa [dSml] using sml_int a, by simpa [dSml] using sml_int b⟩, ?_⟩
    simp only [List.map_cons, dWts, h2, List.length_cons, dP, dWt]
    omega
/-- a mine's text -/
def mineD (n : Int) (E : List (Int × Int)) (i o : Int) : PyData := .tuple [.int n, .tuple (E.map dP), .int i, .int o]
theorem repr_mine {n : Int} {E : List (Int × Int)} {i o : Int} (hn : 0 ≤ n ∧ n ≤ 1000) (hE : ∀ p ∈ E, okP n p) (hl : E.length ≤ 1000) (hio : okP n (i, o)) (h : OH) : biW .repr [mineW n E i o] h = .ok (.str (mineD n E i o).shown) h := by
  have big : (1000 : Nat) < 2 ^ 99 := by decide
  obtain ⟨h1, h2⟩ := smls_pairs E fun p hp => by
    obtain ⟨a, b, c, d⟩ := hE p hp
    omega
  obtain ⟨a, b, c, d⟩ := hio
  dsimp only at a b c d
  have e1 : toD h 59 (.tup (E.map pairW)) = some (.tuple (E.map dP)) := toD_tup (n := 58) (toDl_pairs58 h E)
  refine repr_run (d := mineD n E i o) (toD_tup (n := 59) (by simp [toDl, e1])) ?_ ?_
  · have s1 := sml_int (i := n) (by omega)
    have s2 := sml_int (i := i) (by omega)
    have s3 := sml_int (i := o) (by omega)
    simp only [mineD, dSml, dSmls, h1, Bool.and_true, Bool.true_and] at s1 s2 s3 ⊢
    simp [s1, s2, s3]
  · simp only [mineD, dWt, dWts, h2]
    unfold line
    omega
end K02
end

section
set_option Elab.async false
set_option linter.all false
set_option maxRecDepth 100000
set_option maxHeartbeats 4000000
namespace K02
open Wm PySem Wq
def SL (scr tn m bf x w7 w8 a b : Option W) : Sl := [scr, some (.ref 2), tn, m, bf, x, none, w7, w8, none, a, b, none, none]
section
variable {K : Nat} {C : List Int} {sd d : Int} {n i o : Int} {E : List (Int × Int)} {scr tn bf : Option W}
theorem b122 (hK : 1 ≤ K) (hn : 0 ≤ n ∧ n ≤ 1000) (hE : ∀ p ∈ E, okP n p) {x : Int} {e : OH} (w : Int) (hw : 0 ≤ w ∧ w < E.length) (a0 b0 : Option W) : ∃ a b, ex (callN tab K) b12_2 (SL scr tn (some (mineW n E i o)) bf (some (.int x)) (some (.ref 3)) (some (.int w)) a0 b0) (penH C sd d e) =
    .ok (.nx, SL scr tn (some (mineW n E i o)) bf (some (.int x)) (some (.ref 3)) (some (.int w)) a b) (penH C sd d e) := by
  obtain ⟨p, hp, fe⟩ := far_end (K := K) hK E n i o x w hw (penH C sd d e)
  have i1 : ∀ h, ixW (mineW n E i o) (.int 1) h = .ok (.tup (E.map pairW)) h := fun h => ixW_tup (by decide) rfl
  have i2 : ∀ h, ixW (.tup (E.map pairW)) (.int w) h = .ok (pairW p) h := fun h => ixW_tup hw.1 (by rw [List.getElem?_map, hp]; rfl)
  obtain ⟨q0, q1, q2, q3⟩ := hE p (List.mem_of_getElem? hp)
  have big : (1000 : Nat) < 2 ^ 99 := by decide
  refine ⟨some (.int p.1), some (.int p.2), ?_⟩
  by_cases hx : x = p.1
  · have r1 := repr_int p.2 (by omega) (penH C sd d e)
    subst hx
    rw [if_pos rfl] at fe
    simp [b12_2, SL, ex, ev, evs, evT, getS, setS, i1, i2, asgR, asgT, fe, r1, cmpW, eqW, bR, asB, thenS]
  · have r1 := repr_int p.1 (by omega) (penH C sd d e)
    rw [if_neg hx] at fe
    simp [b12_2, SL, ex, ev, evs, evT, getS, setS, i1, i2, asgR, asgT, fe, r1, cmpW, eqW, bR, asB, hx, thenS]
theorem due_ev {G : Nat → List W → OH → R W} {s : Sl} {x : Int} (hE : E.length ≤ 100) (h3 : s = SL scr tn (some (mineW n E i o)) bf (some (.int x)) none none none none) :
    ev G (.lc (.v 12) [12, 13] (.cons (.nm 12) (.cons (.nm 13) .nil)) (.enum (.ix (.v 3) (.c (.int 1)))) (.cons (.cmp .inn (.v 5) (.v 13)) .nil)) s (penH C sd d []) = .ok (.ref 3) (penH C sd d [.lst ((dueI 0 E x).map .int)]) := by
  subst h3
  have i1 : ∀ h, ixW (mineW n E i o) (.int 1) h = .ok (.tup (E.map pairW)) h := fun h => ixW_tup (by decide) rfl
  have := due_lc (G := G) (it := .enum (.ix (.v 3) (.c (.int 1)))) (jx := 5) (j1 := 12) (j2 := 13) (sl := SL scr tn (some (mineW n E i o)) bf (some (.int x)) none none none none) E x hE C sd d [] (by simp [evI, ev, getS, SL, i1, enumIt, seqOf, watch]) (fun j p h => by
    by_cases hp : x = p.1 ∨ x = p.2
    · simp [SL, asgR, asgT, wipeS, setS, evC, evT, ev, getS, cmpW, in_pair, bR, asB, hp]
    · simp [SL, asgR, asgT, wipeS, setS, evC, evT, ev, getS, cmpW, in_pair, bR, asB, hp])
  exact this
theorem low_mine (N : Nat) : W.low N (mineW n E i o) = true := by simp [mineW, W.low, W.lows, lows_pairs]
theorem b121 (hlo : slLow 3 [scr, tn, bf] = true) (hK : 1 ≤ K) (hn : 0 ≤ n ∧ n ≤ 1000) (hE : ∀ p ∈ E, okP n p) (hl : E.length ≤ 100) (x : Int) (x0 : Option W) : ex (callN tab K) (.gc [7, 8, 10, 11] b12_1) (SL scr tn (some (mineW n E i o)) bf (some (.int x)) none none none none) (penH C sd d []) =
    .ok (.nx, SL scr tn (some (mineW n E i o)) bf (some (.int x)) none none none none) (penH C sd d []) := by
  have big : (1000 : Nat) < 2 ^ 99 := by decide
  have dm := due_mem E 0 x
  have dl := due_len E 0 x
  obtain ⟨s2, h2, e2, rfl, w8, a, b, rfl⟩ := forN_rel (wt := [(3, (dueI 0 E x).map .int)]) (t := .nm 8) (b := ex (callN tab K) b12_2) W.int (fun (u : Unit) (_ : Int) => u) (fun _ _ s h => h = penH C sd d [.lst ((dueI 0 E x).map .int)] ∧ ∃ w8 a b, s = SL scr tn (some (mineW n E i o)) bf (some (.int x)) (some (.ref 3)) w8 a b) (dueI 0 E x) ()
    (SL scr tn (some (mineW n E i o)) bf (some (.int x)) (some (.ref 3)) none none none) (penH C sd d [.lst ((dueI 0 E x).map .int)]) ⟨rfl, none, none, none, rfl⟩
    (fun _ _ s h w hw r => by
      obtain ⟨rfl, w8, a, b, rfl⟩ := r
      have hw2 := dm w hw
      obtain ⟨a2, b2, e2⟩ := b122 (K := K) (C := C) (sd := sd) (d := d) (n := n) (i := i) (o := o) (E := E) (scr := scr) (tn := tn) (bf := bf) hK hn hE (x := x) (e := [.lst ((dueI 0 E x).map .int)]) w (by omega) a b
      exact ⟨by simp [still, W.beqs_refl], _, rfl, .nx, _, _, e2, .inl rfl, rfl, some (.int w), a2, b2, rfl⟩)
    (fun _ s h r => by obtain ⟨rfl, _⟩ := r; simp [still, W.beqs_refl])
  have wa := ways_at (K := K) hK E n i o x hl C sd d [.lst ((dueI 0 E x).map .int)]
  have rp := repr_tup (dueI 0 E x) (fun j hj => by have := dm j hj; omega) (by omega) (penH C sd d [.lst ((dueI 0 E x).map .int)])
  have run : ex (callN tab K) b12_1 (SL scr tn (some (mineW n E i o)) bf (some (.int x)) none none none none) (penH C sd d []) = .ok (.nx, SL scr tn (some (mineW n E i o)) bf (some (.int x)) (some (.ref 3)) w8 a b) (penH C sd d [.lst ((dueI 0 E x).map .int)]) := by
    unfold b12_1
    rw [ex_step (s1 := SL scr tn (some (mineW n E i o)) bf (some (.int x)) (some (.ref 3)) none none none) (h1 := penH C sd d [.lst ((dueI 0 E x).map .int)])]
    · rw [ex_step (s1 := SL scr tn (some (mineW n E i o)) bf (some (.int x)) (some (.ref 3)) none none none) (h1 := penH C sd d [.lst ((dueI 0 E x).map .int)])]
      · rw [ex_step (s1 := SL scr tn (some (mineW n E i o)) bf (some (.int x)) (some (.ref 3)) w8 a b) (h1 := penH C sd d [.lst ((dueI 0 E x).map .int)])]
        · rfl
        · exact ex_for (p := ((dueI 0 E x).map .int, [(3, (dueI 0 E x).map .int)])) (h1 := penH C sd d [.lst ((dueI 0 E x).map .int)]) (by simp [evI, ev, getS, SL, seqIt, seqOf, watch]) e2
      · have tp : biW .tuple [.ref 3] (penH C sd d [.lst ((dueI 0 E x).map .int)]) = .ok (.tup ((dueI 0 E x).map .int)) (penH C sd d [.lst ((dueI 0 E x).map .int)]) := by simp [biW]
        simp [ex, ev, evs, evT, getS, SL, wa, rp, tp, cmpW, eqW, bR, asB]
    · exact (ex_asg (due_ev hl rfl)).trans rfl
  have ct := (cut_pen C C sd d sd d [] [.lst ((dueI 0 E x).map .int)]).1
  simp only [List.nil_append] at ct
  have t3 : List.take 3 (penH C sd d [.lst ((dueI 0 E x).map .int)]) = penH C sd d [] := rfl
  have lo : slLow 3 (SL scr tn (some (mineW n E i o)) bf (some (.int x)) none none none none) = true := by
    revert hlo
    cases scr <;> cases tn <;> cases bf <;> simp [SL, slLow, W.low, low_mine] <;> intros <;> simp [*]
  rw [ex, run]
  have wp : wipeS (SL scr tn (some (mineW n E i o)) bf (some (.int x)) (some (.ref 3)) w8 a b) [7, 8, 10, 11] = SL scr tn (some (mineW n E i o)) bf (some (.int x)) none none none none := rfl
  simp [gcS, F.low, wp, ct, t3, lo]
end
/-- ways drawn anew, or not -/
theorem anew {K : Nat} (hK : 4 ≤ K) {C : List Int} {sd d n i o : Int} {E : List (Int × Int)} {scr tn : Option W} (hlo : slLow 3 [scr, tn] = true) (hs : 0 ≤ sd) (hn : 2 ≤ n) (hn2 : n ≤ 8) (hE : ∀ p ∈ E, okP n p) (hl : E.length ≤ 12) :
    ∃ E2 C2 s2 d2, 0 ≤ s2 ∧ (∀ p ∈ E2, okP n p) ∧ E2.length ≤ 12 ∧ ex (callN tab K) (.gc [6] (.ite (.cmp .eq (.call 6 (.cons (.v 1) (.cons (.c (.int 2)) .nil))) (.c (.int 0))) (
   .sq (.asg (.nm 6) (.lc (.call 10 (.cons (.v 1) (.cons (.ix (.v 3) (.c (.int 0))) .nil))) [9] (.nm 9) (.rng1 (.bin .add (.c (.int 1)) (.call 6 (.cons (.v 1) (.cons (.c (.int 8)) .nil))))) .nil)) (
    .sq (.asg (.nm 3) (.tup (.cons (.ix (.v 3) (.c (.int 0))) (.cons (.bi .tuple (.cons (.v 6) .nil)) (.cons (.ix (.v 3) (.c (.int 2))) (.cons (.ix (.v 3) (.c (.int 3))) .nil)))))) .skip)) (.skip))) (SL scr tn (some (mineW n E i o)) none none none none none none) (penH C sd d []) =
      .ok (.nx, SL scr tn (some (mineW n E2 i o)) none none none none none none) (penH C2 s2 d2 []) := by
  obtain ⟨z, s1, d1, hz0, hz1, hs1, e1⟩ := pt.drawK (K := K) (by omega) C sd d [] 2 (by omega) (by omega) hs
  have lo : ∀ E, slLow 3 (SL scr tn (some (mineW n E i o)) none none none none none none) = true := fun E => by
    revert hlo
    cases scr <;> cases tn <;> simp [SL, slLow, W.low, low_mine] <;> intros <;> simp [*]
  by_cases hz : z = 0
  · obtain ⟨m, s2, d2, hm0, hm1, hs2, e2⟩ := pt.drawK (K := K) (by omega) C s1 d1 [] 8 (by omega) (by omega) hs1
    have i0 : ∀ h, ixW (mineW n E i o) (.int 0) h = .ok (.int n) h := fun h => ixW_tup (by decide) rfl
    have i2 : ∀ h, ixW (mineW n E i o) (.int 2) h = .ok (.int i) h := fun h => ixW_tup (by decide) rfl
    have i3 : ∀ h, ixW (mineW n E i o) (.int 3) h = .ok (.int o) h := fun h => ixW_tup (by decide) rfl
    obtain ⟨ys, h3, e3, l3, q3, C3, s3, d3, hs3, rfl⟩ := lcN_run (f := lcR (callN tab K) (.call 10 (.cons (.v 1) (.cons (.ix (.v 3) (.c (.int 0))) .nil))) [9] (.nm 9) .nil (SL scr tn (some (mineW n E i o)) none none none none none none)) (wt := []) (fun h => ∃ C s d, 0 ≤ s ∧ h = penH C s d []) (fun y => ∃ p, y = pairW p ∧ okP n p) (fun _ _ => rfl) (rangeI 0 (1 + m).toNat) (penH C s2 d2 [])
      (fun w h hw ⟨C, s, d, hs, hh⟩ => by
        subst hh
        obtain ⟨p, s4, d4, hp, hs4, e4⟩ := two_places (K := K) (by omega) C s d [] n hn (by omega) hs
        exact ⟨pairW p, _, by simp [lcR, SL, asgR, asgT, wipeS, setS, evC, ev, evs, getS, i0, e4], ⟨p, rfl, hp⟩, C, s4, d4, hs4, rfl⟩) ⟨C, s2, d2, hs2, rfl⟩
    obtain ⟨E2, rfl, q2⟩ := of_all q3
    rw [range_len, List.length_map] at l3
    refine ⟨E2, C3, s3, d3, hs3, q2, by omega, ?_⟩
    have hl2 : E2.length ≤ 16000000 := by omega
    have w62 : within62 (1 + m) = true := by
      simp only [within62, Bool.and_eq_true, decide_eq_true_eq]
      omega
    have elc := ev_lc (G := callN tab K) (it := .rng1 (.bin .add (.c (.int 1)) (.call 6 (.cons (.v 1) (.cons (.c (.int 8)) .nil))))) (h := penH C s1 d1 []) (p := (rangeI 0 (1 + m).toNat, [])) (r := .ok (.ref 3) (penH C3 s3 d3 [.lst (E2.map pairW)]))
      (by simp [evI, ev, evs, getS, SL, binW, e2, rng1It, w62]) e3 (by simp [newLst, Wm.alloc, line, hl2])
    have ct := (cut_pen C C3 sd d s3 d3 [] [.lst (E2.map pairW)]).1
    simp only [List.nil_append] at ct
    have t3 : List.take 3 (penH C3 s3 d3 [.lst (E2.map pairW)]) = penH C3 s3 d3 [] := rfl
    have run : ex (callN tab K) (.ite (.cmp .eq (.call 6 (.cons (.v 1) (.cons (.c (.int 2)) .nil))) (.c (.int 0))) (
       .sq (.asg (.nm 6) (.lc (.call 10 (.cons (.v 1) (.cons (.ix (.v 3) (.c (.int 0))) .nil))) [9] (.nm 9) (.rng1 (.bin .add (.c (.int 1)) (.call 6 (.cons (.v 1) (.cons (.c (.int 8)) .nil))))) .nil)) (
        .sq (.asg (.nm 3) (.tup (.cons (.ix (.v 3) (.c (.int 0))) (.cons (.bi .tuple (.cons (.v 6) .nil)) (.cons (.ix (.v 3) (.c (.int 2))) (.cons (.ix (.v 3) (.c (.int 3))) .nil)))))) .skip)) (.skip)) (SL scr tn (some (mineW n E i o)) none none none none none none) (penH C sd d []) =
        .ok (.nx, setS (SL scr tn (some (mineW n E2 i o)) none none none none none none) 6 (some (.ref 3))) (penH C3 s3 d3 [.lst (E2.map pairW)]) := by
      have et : evT (callN tab K) (.cmp .eq (.call 6 (.cons (.v 1) (.cons (.c (.int 2)) .nil))) (.c (.int 0))) (SL scr tn (some (mineW n E i o)) none none none none none none) (penH C sd d []) = .ok true (penH C s1 d1 []) := by
        simp [evT, ev, evs, getS, SL, e1, cmpW, eqW, bR, asB, hz]
      rw [ex, et]
      simp only [R.bind_ok, if_true]
      rw [ex_step (ex_asg elc)]
      rw [ex_step (s1 := setS (SL scr tn (some (mineW n E2 i o)) none none none none none none) 6 (some (.ref 3))) (h1 := penH C3 s3 d3 [.lst (E2.map pairW)])]
      · rfl
      · refine (ex_asg (w := mineW n E2 i o) (h1 := penH C3 s3 d3 [.lst (E2.map pairW)]) ?_).trans rfl
        simp [ev, evs, getS, setS, SL, i0, i2, i3, biW, newTup, line]
        rfl
    rw [ex, run]
    have wp : wipeS (setS (SL scr tn (some (mineW n E2 i o)) none none none none none none) 6 (some (.ref 3))) [6] = SL scr tn (some (mineW n E2 i o)) none none none none none none := rfl
    simp [gcS, F.low, wp, ct, t3, lo]
  · refine ⟨E, C, s1, d1, hs1, hE, hl, ?_⟩
    have et : evT (callN tab K) (.cmp .eq (.call 6 (.cons (.v 1) (.cons (.c (.int 2)) .nil))) (.c (.int 0))) (SL scr tn (some (mineW n E i o)) none none none none none none) (penH C sd d []) = .ok false (penH C s1 d1 []) := by
      simp [evT, ev, evs, getS, SL, e1, cmpW, eqW, bR, asB, hz]
    have ct := (cut_pen C C sd d s1 d1 [] []).1
    simp only [List.nil_append] at ct
    have t3 : List.take 3 (penH C s1 d1 []) = penH C s1 d1 [] := rfl
    rw [ex, ex, et]
    have wp : wipeS (SL scr tn (some (mineW n E i o)) none none none none none none) [6] = SL scr tn (some (mineW n E i o)) none none none none none none := rfl
    simp [ex, gcS, F.low, wp, ct, t3, lo]

theorem it1 {N : Nat} (hN : (N : Int) ≤ 8) : within62 N = true := by
  simp only [within62, Bool.and_eq_true, decide_eq_true_eq]
  omega
theorem it2 {N : Nat} {h : OH} (w62 : within62 N = true) : rng1It (.int N) h = .ok (rangeI 0 N, []) h := by
  simp only [rng1It, w62, if_true, Int.toNat_natCast]
theorem it3 {N : Nat} {E : List (Int × Int)} {i o : Int} : ∀ h, ixW (mineW N E i o) (.int 0) h = .ok (.int N) h := fun h => ixW_tup (by decide) rfl
theorem it4 {K N : Nat} {E : List (Int × Int)} {i o : Int} {sl : Sl} {h : OH} (h3 : getS sl 3 = some (mineW N E i o)) : ev (callN tab K) (.ix (.v 3) (.c (.int 0))) sl h = .ok (.int N) h := by
  simp only [ev, h3, R.bind_ok, it3]
theorem itx {K N : Nat} {E : List (Int × Int)} {i o : Int} {sl : Sl} {h : OH} (hN : (N : Int) ≤ 8) (h3 : getS sl 3 = some (mineW N E i o)) : evI (callN tab K) (.rng1 (.ix (.v 3) (.c (.int 0)))) sl h = .ok (rangeI 0 N, []) h := by
  rw [evI, it4 h3, R.bind_ok]
  exact it2 (it1 hN)
/-- one turn -/
theorem turn {K : Nat} (hK : 6 ≤ K) {C : List Int} {sd d : Int} {scr tn : Option W} (hlo : ∀ bf : Str, slLow 3 [scr, tn, some (.str bf)] = true) (hlo2 : slLow 3 [scr, tn] = true) (hs : 0 ≤ sd) :
    ∃ C2 s2 d2, 0 ≤ s2 ∧ ex (callN tab K) (.gc [3, 4, 5, 6, 7, 8, 10, 11] b12_0) (SL scr tn none none none none none none none) (penH C sd d []) = .ok (.nx, SL scr tn none none none none none none none) (penH C2 s2 d2 []) := by
  obtain ⟨m, s1, d1, hm0, hm1, hs1, e1⟩ := pt.drawK (K := K) (by omega) C sd d [] 7 (by omega) (by omega) hs
  obtain ⟨n, E0, i, o, C2, s2, d2, hn, hn2, hE0, hl0, hio, hs2, e2⟩ := mine_ok (K := K) (by omega) C s1 d1 (2 + m) (by omega) (by omega) hs1
  obtain ⟨E, C3, s3, d3, hs3, hE, hl, e3⟩ := anew (K := K) (by omega) (C := C2) (sd := s2) (d := d2) (i := i) (o := o) (scr := scr) (tn := tn) hlo2 hs2 hn hn2 hE0 hl0
  obtain ⟨N, rfl⟩ : ∃ N : Nat, n = N := ⟨n.toNat, by omega⟩
  have hi : 0 ≤ i ∧ i < N := ⟨hio.1, hio.2.1⟩
  obtain ⟨f, nd, hf, e4⟩ := is_joined (K := K) (by omega) C3 s3 d3 E i o N (by omega) hE (by omega) hi
  have e5 := law_is_joined (K := K) (by omega) C3 s3 d3 E i o N (by omega) hE (by omega) hi
  have hE' : ∀ p ∈ E, (0 ≤ p.1 ∧ p.1 < (N : Int)) ∧ (0 ≤ p.2 ∧ p.2 < (N : Int)) := fun p hp => ⟨⟨(hE p hp).1, (hE p hp).2.1⟩, (hE p hp).2.2⟩
  have same : f.length = (rounds E [i] 8).length := same_len nd (rounds_ok hi hE' 8).1 fun y => (hf y).trans (rounds_fin hi hE' (by omega) y).symm
  rw [← same] at e5
  obtain ⟨tx, rm⟩ : ∃ tx, biW .repr [mineW N E i o] (penH C3 s3 d3 []) = .ok (.str tx) (penH C3 s3 d3 []) := ⟨_, repr_mine (n := N) (E := E) (i := i) (o := o) (by omega) hE (by omega) hio (penH C3 s3 d3 [])⟩
  obtain ⟨tb, rb⟩ : ∃ tb, biW .repr [.bl (decide ((f.length : Int) = N))] (penH C3 s3 d3 []) = .ok (.str tb) (penH C3 s3 d3 []) := ⟨_, repr_bool (decide ((f.length : Int) = N)) (penH C3 s3 d3 [])⟩
  have i0 : ∀ h, ixW (mineW N E i o) (.int 0) h = .ok (.int N) h := fun h => ixW_tup (by decide) rfl
  obtain ⟨sl6, h6, e6, rfl, x6, rfl⟩ := forN_inv (wt := []) (t := .nm 5) (b := ex (callN tab K) (.gc [7, 8, 10, 11] b12_1)) (fun _ s h => h = penH C3 s3 d3 [] ∧ ∃ x, s = SL scr tn (some (mineW N E i o)) (some (.str tx)) x none none none none) (rangeI 0 N)
    (fun j w s h hw r => by
      obtain ⟨rfl, x, rfl⟩ := r
      obtain ⟨hj, rfl⟩ := range_get hw
      exact ⟨rfl, _, rfl, .nx, _, _, b121 (K := K) (hlo _) (by omega) (by omega) hE (by omega) (0 + j) x, .inl rfl, rfl, _, rfl⟩) (fun _ _ _ => rfl)
    (s := SL scr tn (some (mineW N E i o)) (some (.str tx)) none none none none none) (h := penH C3 s3 d3 []) ⟨rfl, none, rfl⟩
  have run : ex (callN tab K) b12_0 (SL scr tn none none none none none none none) (penH C sd d []) = .ok (.nx, SL scr tn (some (mineW N E i o)) (some (.str tx)) x6 none none none none) (penH C3 s3 d3 []) := by
    unfold b12_0
    rw [ex_step (s1 := SL scr tn (some (mineW N E0 i o)) none none none none none none) (h1 := penH C2 s2 d2 [])]
    · rw [ex_step e3]
      rw [ex_step (s1 := SL scr tn (some (mineW N E i o)) (some (.str tx)) none none none none none) (h1 := penH C3 s3 d3 [])]
      · rw [ex_step (s1 := SL scr tn (some (mineW N E i o)) (some (.str tx)) none none none none none) (h1 := penH C3 s3 d3 [])]
        · rw [ex_step (s1 := SL scr tn (some (mineW N E i o)) (some (.str tx)) x6 none none none none) (h1 := penH C3 s3 d3 [])]
          · rw [ex_step (s1 := SL scr tn (some (mineW N E i o)) (some (.str tx)) x6 none none none none) (h1 := penH C3 s3 d3 [])]
            · rfl
            · simp [ex, ev, evs, evT, getS, SL, rm, cmpW, eqW, bR, asB]
          · refine ex_for (p := (rangeI 0 N, [])) (h1 := penH C3 s3 d3 []) ?_ e6
            exact itx (N := N) hn2 rfl
        · simp [ex, ev, evs, evT, getS, SL, e4, e5, rb, cmpW, eqW, bR, asB]
      · refine (ex_asg (w := .str tx) (h1 := penH C3 s3 d3 []) ?_).trans rfl
        simp [ev, evs, getS, SL, rm]
    · refine (ex_asg (w := mineW N E0 i o) (h1 := penH C2 s2 d2 []) ?_).trans rfl
      simp [ev, evs, getS, SL, e1, binW, e2]
  have ct := (cut_pen C C3 sd d s3 d3 [] []).1
  simp only [List.nil_append] at ct
  have t3 : List.take 3 (penH C3 s3 d3 []) = penH C3 s3 d3 [] := rfl
  have wp : wipeS (SL scr tn (some (mineW N E i o)) (some (.str tx)) x6 none none none none) [3, 4, 5, 6, 7, 8, 10, 11] = SL scr tn none none none none none none none := rfl
  have lo : slLow 3 (SL scr tn none none none none none none none) = true := by
    revert hlo2
    cases scr <;> cases tn <;> simp [SL, slLow, W.low] <;> intros <;> simp [*]
  refine ⟨C3, s3, d3, hs3, ?_⟩
  rw [ex, run]
  simp [gcS, F.low, wp, ct, t3, lo]
theorem plain (ns : List Int) (hl : ns.length ≤ 63) : ∃ hh, callN tab 20 12 [.rol (ns.map .int)] [] = .ok (.bl true) hh := by
  obtain ⟨C, e1⟩ := pt.pen 18 ns
  obtain ⟨T, hT, hT2⟩ : ∃ T : Int, T = (if (3 : Int) < (if (ns.length : Int) < 8 then (ns.length : Int) else 8) then (if (ns.length : Int) < 8 then (ns.length : Int) else 8) else 3) ∧ T ≤ 100 := ⟨_, rfl, by split <;> split <;> omega⟩
  obtain ⟨s', h', e2, C2, s2, d2, tn, hs2, rfl, rfl⟩ := forN_inv (wt := []) (t := .nm 2) (b := ex (callN tab 19) (.gc [3, 4, 5, 6, 7, 8, 10, 11] b12_0)) (fun _ s h => ∃ C sd d tn, 0 ≤ sd ∧ h = penH C sd d [] ∧ s = SL (some (.rol (ns.map .int))) tn none none none none none none none) (rangeI 0 T.toNat)
    (fun j w s h hw r => by
      obtain ⟨C, sd, d, tn, hs, rfl, rfl⟩ := r
      obtain ⟨hj, rfl⟩ := range_get hw
      have lr : W.low 3 (.rol (ns.map .int)) = true := by simp [W.low, lows_ints]
      obtain ⟨C2, s2, d2, hs2, e2⟩ := turn (K := 19) (by omega) (C := C) (sd := sd) (d := d) (scr := some (.rol (ns.map .int))) (tn := some (.int (0 + j))) (fun bf => by simp [slLow, lr]; simp [W.low]) (by simp [slLow, lr]; simp [W.low]) hs
      exact ⟨rfl, _, rfl, .nx, _, _, e2, .inl rfl, C2, s2, d2, _, hs2, rfl, rfl⟩) (fun _ _ _ => rfl)
    (s := SL (some (.rol (ns.map .int))) none none none none none none none none) (h := penH C 0 0 []) ⟨C, 0, 0, none, by decide, rfl, rfl⟩
  refine ⟨penH C2 s2 d2 [], ?_⟩
  rw [enter (n := 19) (d := f12) rfl rfl]
  show (ex (callN tab 19) b12 [some (.rol (ns.map .int)), none, none, none, none, none, none, none, none, none, none, none, none, none] []).bind (finS false []) = _
  unfold b12
  rw [ex_step (s1 := SL (some (.rol (ns.map .int))) none none none none none none none none) (h1 := penH C 0 0 [])]
  · rw [ex_step (s1 := SL (some (.rol (ns.map .int))) tn none none none none none none none) (h1 := penH C2 s2 d2 [])]
    · rfl
    · refine ex_for (p := (rangeI 0 T.toNat, [])) (h1 := penH C 0 0 []) ?_ e2
      have w62 : within62 T = true := by
        simp only [within62, Bool.and_eq_true, decide_eq_true_eq]
        refine ⟨?_, by omega⟩
        rw [hT]
        split <;> split <;> omega
      have hb : biW .len [.rol (ns.map .int)] (penH C 0 0 []) = .ok (.int ns.length) (penH C 0 0 []) := by simp [biW, seqOf]
      have q1 : ev (callN tab 19) (.bi .max2 (.cons (.c (.int 3)) (.cons (.bi .min2 (.cons (.c (.int 8)) (.cons (.bi .len (.cons (.v 0) .nil)) .nil))) .nil))) (SL (some (.rol (ns.map .int))) none none none none none none none none) (penH C 0 0 []) = .ok (.int T) (penH C 0 0 []) := by
        simp only [ev, evs, getS, SL, R.bind_ok, hb]
        simp only [biW, R.bind_ok, hT, gt_iff_lt]
      rw [evI, q1]
      simp only [R.bind_ok, rng1It, w62, if_true]
  · refine (ex_asg (w := .ref 2) (h1 := penH C 0 0 []) ?_).trans rfl
    simp [ev, evs, getS, e1]
end K02
end

section
set_option Elab.async false
set_option linter.all false
set_option maxRecDepth 100000
set_option maxHeartbeats 4000000
namespace K02
open Wm PySem
def top (i : Nat) : Stmt := PySem.Challenge.pw_windways_k02_ways_and_places_joined.main.body.getD i (.Pass ⟨0, 0, 0, 0⟩)
def d0 : Df := ⟨"ways_at", ["mine", "x"], ["mine", "x", "number", "way"], top 1⟩
def d1 : Df := ⟨"far_end", ["mine", "w", "x"], ["mine", "w", "x", "one", "other"], top 2⟩
def d2 : Df := ⟨"reached_from", ["ways", "x", "shut"], ["ways", "x", "shut", "found", "waiting", "here", "one", "other", "end", "far"], top 3⟩
def d3 : Df := ⟨"is_joined", ["mine"], ["mine"], top 4⟩
def d4 : Df := ⟨"_law_pen", ["script"], ["script"], top 6⟩
def d5 : Df := ⟨"_law_fresh", ["pen"], ["pen", "cell", "prime", "state", "found", "lap", "seat", "given"], top 7⟩
def d6 : Df := ⟨"_law_draw", ["pen", "bound"], ["pen", "bound", "digit"], top 8⟩
def d7 : Df := ⟨"_law_one_of", ["pen", "some"], ["pen", "some"], top 9⟩
def d8 : Df := ⟨"_law_reached", ["ways", "x", "shut"], ["ways", "x", "shut", "found", "lap", "one", "other", "end", "far"], top 10⟩
def d9 : Df := ⟨"_law_is_joined", ["mine"], ["mine"], top 11⟩
def d10 : Df := ⟨"_law_two_places", ["pen", "places"], ["pen", "places", "one"], top 12⟩
def d11 : Df := ⟨"_law_mine", ["pen", "most", "many"], ["pen", "most", "many", "places", "x", "lap", "ways", "pair", "inlet", "outlet"], top 13⟩
def d12 : Df := ⟨"law", ["script"], ["script", "pen", "turn", "mine", "before", "x", "ways", "due", "w", "lap", "one", "other", "at", "way"], top 14⟩
def ds : List Df := [d0, d1, d2, d3, d4, d5, d6, d7, d8, d9, d10, d11, d12]
def cnS : List (Str × W) := cn.map fun p => (Str.ofString p.1, p.2)
theorem ok : allOk cnS ds tab = true := by decide +kernel
abbrev theRow : PySem.W.OpenRow := PySem.W.OpenLaw.row PySem.Challenge.rw_windways_k02_ways_and_places_joined
def ob (s : PySem.W.SharedT) : He.AlD := He.obsDG 4 (faOf cnS ds) (Wm.fnOf ds) (HandSHeadRun.getT s)
def loose : List Str := (ds.take 12).map (·.x)
set_option maxHeartbeats 0 in
theorem run (w : World) : HandSHeadRun.RunEq theRow (PySem.W.view theRow.prog [14]) (He.hookD 4 (faOf cnS ds) (Wm.fnOf ds)) ob 4000 loose w := by
  intro os
  kernel_rfl
end K02
open PySem PySem.W PySem.Calls PyProof.Rows
set_option maxHeartbeats 0 in
theorem K02.of_plain (plain : ∀ ns : List Int, ns.length ≤ 63 → ∃ hh, Wm.callN K02.tab 20 12 [.rol (ns.map .int)] [] = .ok (.bl true) hh) : PySem.Challenge.rw_windways_k02_ways_and_places_joined.Holds := by
  w_on; o_law
  refine HandSHeadRun.head_any (r := K02.theRow) (q := view K02.theRow.prog [14]) (H := He.hookD 4 (Wm.faOf K02.cnS K02.ds) (Wm.fnOf K02.ds)) (ob := K02.ob) (M := 4000) (loose := K02.loose) (d := HandSHeadRun.topDef K02.theRow.prog 14) (kwd := []) (fun s => He.obsDG_eq (HandSHeadRun.getT_eq s))
    (by kernel_rfl) (fun s => by kernel_rfl) K02.run (by kernel_rfl) (by kernel_rfl) (by kernel_rfl) (by rfl) (by first | assumption | decide +kernel) (by decide +kernel) ⟨rfl, rfl, rfl, rfl, rfl, by decide +kernel⟩ ?hw ?hc
  case hw => w_witness2
  case hc => exact Wm.walk (n := 63) (k := 20) (i := 12) (x := "script") rfl (by decide) (by kernel_rfl) ⟨rfl, by decide, by decide⟩ plain (Wm.entry K02.ok (by rfl) (dl := K02.d12) rfl rfl (by kernel_rfl))
end
theorem PySem.Challenge.cw_windways_k02_ways_and_places_joined_holds : PySem.Challenge.rw_windways_k02_ways_and_places_joined.Holds := by
  exact K02.of_plain K02.plain
