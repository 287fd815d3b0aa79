import PyProof.Rows.All
import Wide.All
import OpenK.AllK
import Wide.FinOn
import HandS.ForMost
import HandS.Wide
import HandS.TupAny
import HandS.TupMul
import HandS.Deep
import HandS.Style
import HandS.Flow
import HandS.RaiseMore
import HandS.Conv
import HandS.IsInst
import HandS.Iter
import HandS.Zip
import HandS.Walk
import KE.GoesEnum
import HandS.Exc
import HandS.Defaults
import HandS.WordsExc
import HandS.HeadEnd
import HandS.HeadHook4
import HandS.Codes
import PySem.Challenge.RW_windways_k09_stuck_places
import HandS.Head0
import HandS.Head1
import HandS.Head2
section
set_option Elab.async false
set_option linter.all false
set_option maxRecDepth 100000
/-! A small language (a part of Python), its values as trees, its runs as functions. -/
namespace Wm
open PySem

/-- a value: tuples are trees, lists and dicts and instances stand in the own heap; rol: a list that is only read (the script); lst, dic, obj: without a heap (the upper layer alone) -/
inductive W where
  | non | bl (b : Bool) | int (i : Int) | str (x : Str) | tup (ws : List W) | ref (n : Nat) | fn (i : Nat) | cls (i : Nat) | rol (ws : List W)
  | lst (ws : List W) | dic (ks vs : List W) | obj (c : Nat) (ns : List Str) (vs : List W)
  deriving Inhabited

mutual
def W.beq : W → W → Bool
  | .non, .non => true
  | .bl a, .bl b => a == b
  | .int a, .int b => decide (a = b)
  | .str a, .str b => decide (a = b)
  | .tup a, .tup b => W.beqs a b
  | .ref a, .ref b => a == b
  | .fn a, .fn b => a == b
  | .cls a, .cls b => a == b
  | .rol a, .rol b => W.beqs a b
  | .lst a, .lst b => W.beqs a b
  | .dic a c, .dic b d => W.beqs a b && W.beqs c d
  | .obj i m a, .obj j n b => i == j && decide (m = n) && W.beqs a b
  | _, _ => false
def W.beqs : List W → List W → Bool
  | [], [] => true
  | a :: as, b :: bs => W.beq a b && W.beqs as bs
  | _, _ => false
end
mutual
theorem W.beq_eq : ∀ {a b : W}, W.beq a b = true → a = b
  | .non, b, h => by cases b <;> simp_all [W.beq]
  | .bl _, b, h => by cases b <;> simp_all [W.beq]
  | .int _, b, h => by cases b <;> simp_all [W.beq]
  | .str _, b, h => by cases b <;> simp_all [W.beq]
  | .ref _, b, h => by cases b <;> simp_all [W.beq]
  | .fn _, b, h => by cases b <;> simp_all [W.beq]
  | .cls _, b, h => by cases b <;> simp_all [W.beq]
  | .tup as, b, h => by
    cases b with
    | tup bs => rw [W.beqs_eq (show W.beqs as bs = true from h)]
    | _ => simp [W.beq] at h
  | .rol as, b, h => by
    cases b with
    | rol bs => rw [W.beqs_eq (show W.beqs as bs = true from h)]
    | _ => simp [W.beq] at h
  | .lst as, b, h => by
    cases b with
    | lst bs => rw [W.beqs_eq (show W.beqs as bs = true from h)]
    | _ => simp [W.beq] at h
  | .dic as cs, b, h => by
    cases b with
    | dic bs ds =>
      have h' := Bool.and_eq_true_iff.mp (show (W.beqs as bs && W.beqs cs ds) = true from h)
      rw [W.beqs_eq h'.1, W.beqs_eq h'.2]
    | _ => simp [W.beq] at h
  | .obj i m as, b, h => by
    cases b with
    | obj j n bs =>
      have h' := Bool.and_eq_true_iff.mp (show (i == j && decide (m = n) && W.beqs as bs) = true from h)
      have h2 := Bool.and_eq_true_iff.mp h'.1
      rw [W.beqs_eq h'.2, eq_of_beq h2.1, of_decide_eq_true h2.2]
    | _ => simp [W.beq] at h
theorem W.beqs_eq : ∀ {a b : List W}, W.beqs a b = true → a = b
  | [], b, h => by cases b <;> simp_all [W.beqs]
  | a :: as, b, h => by
    cases b with
    | nil => simp [W.beqs] at h
    | cons b bs =>
      have h' := Bool.and_eq_true_iff.mp (show (W.beq a b && W.beqs as bs) = true from h)
      rw [W.beq_eq h'.1, W.beqs_eq h'.2]
end
mutual
theorem W.beq_refl : ∀ a : W, W.beq a a = true
  | .non => rfl
  | .bl a => by simp [W.beq]
  | .int a => by simp [W.beq]
  | .str a => by simp [W.beq]
  | .ref a => by simp [W.beq]
  | .fn a => by simp [W.beq]
  | .cls a => by simp [W.beq]
  | .tup as => W.beqs_refl as
  | .rol as => W.beqs_refl as
  | .lst as => W.beqs_refl as
  | .dic as bs => Bool.and_eq_true_iff.mpr ⟨W.beqs_refl as, W.beqs_refl bs⟩
  | .obj i m as => Bool.and_eq_true_iff.mpr ⟨Bool.and_eq_true_iff.mpr ⟨beq_self_eq_true i, decide_eq_true rfl⟩, W.beqs_refl as⟩
theorem W.beqs_refl : ∀ a : List W, W.beqs a a = true
  | [] => rfl
  | a :: as => Bool.and_eq_true_iff.mpr ⟨W.beq_refl a, W.beqs_refl as⟩
end

/-- an object of the own heap: a list; a dict (tk: its keys are tuples) -/
inductive O where
  | lst (ws : List W) | dct (tk : Bool) (kvs : List (W × W)) | ins (c : Nat) (fs : List (Str × W))
  deriving Inhabited
abbrev OH := List O
def kvBeq : List (W × W) → List (W × W) → Bool
  | [], [] => true
  | a :: as, b :: bs => W.beq a.1 b.1 && W.beq a.2 b.2 && kvBeq as bs
  | _, _ => false
theorem kvBeq_eq : ∀ {a b : List (W × W)}, kvBeq a b = true → a = b
  | [], b, h => by cases b <;> simp_all [kvBeq]
  | (a1, a2) :: as, b, h => by
    cases b with
    | nil => simp [kvBeq] at h
    | cons b bs =>
      obtain ⟨b1, b2⟩ := b
      simp only [kvBeq, Bool.and_eq_true] at h
      rw [W.beq_eq h.1.1, W.beq_eq h.1.2, kvBeq_eq h.2]
theorem kvBeq_refl : ∀ a : List (W × W), kvBeq a a = true
  | [] => rfl
  | a :: as => by simp [kvBeq, W.beq_refl, kvBeq_refl as]
def fsBeq : List (Str × W) → List (Str × W) → Bool
  | [], [] => true
  | a :: as, b :: bs => decide (a.1 = b.1) && W.beq a.2 b.2 && fsBeq as bs
  | _, _ => false
theorem fsBeq_eq : ∀ {a b : List (Str × W)}, fsBeq a b = true → a = b
  | [], b, h => by cases b <;> simp_all [fsBeq]
  | (a1, a2) :: as, b, h => by
    cases b with
    | nil => simp [fsBeq] at h
    | cons b bs =>
      obtain ⟨b1, b2⟩ := b
      simp only [fsBeq, Bool.and_eq_true, decide_eq_true_eq] at h
      rw [h.1.1, W.beq_eq h.1.2, fsBeq_eq h.2]
theorem fsBeq_refl : ∀ a : List (Str × W), fsBeq a a = true
  | [] => rfl
  | a :: as => by simp [fsBeq, W.beq_refl, fsBeq_refl as]
def O.beq : O → O → Bool
  | .lst a, .lst b => W.beqs a b
  | .dct t a, .dct u b => t == u && kvBeq a b
  | .ins c a, .ins d b => c == d && fsBeq a b
  | _, _ => false
theorem O.beq_eq {a b : O} (h : O.beq a b = true) : a = b := by
  cases a <;> cases b <;> simp only [O.beq, Bool.and_eq_true, beq_iff_eq, Bool.false_eq_true] at h
  · rw [W.beqs_eq h]
  · rw [h.1, kvBeq_eq h.2]
  · rw [h.1, fsBeq_eq h.2]
theorem O.beq_refl (a : O) : O.beq a a = true := by cases a <;> simp [O.beq, W.beqs_refl, kvBeq_refl, fsBeq_refl]
def hBeq : OH → OH → Bool
  | [], [] => true
  | a :: as, b :: bs => O.beq a b && hBeq as bs
  | _, _ => false
theorem hBeq_eq : ∀ {a b : OH}, hBeq a b = true → a = b
  | [], b, h => by cases b <;> simp_all [hBeq]
  | a :: as, b, h => by
    cases b with
    | nil => simp [hBeq] at h
    | cons b bs =>
      simp only [hBeq, Bool.and_eq_true] at h
      rw [O.beq_eq h.1, hBeq_eq h.2]
theorem hBeq_refl : ∀ a : OH, hBeq a a = true
  | [] => rfl
  | a :: as => by simp [hBeq, O.beq_refl, hBeq_refl as]
mutual
/-- no own object is named in it -/
def W.pure : W → Bool
  | .tup ws => W.pures ws
  | .rol ws => W.pures ws
  | .ref _ => false
  | .lst _ => false
  | .dic _ _ => false
  | .obj _ _ _ => false
  | _ => true
def W.pures : List W → Bool
  | [] => true
  | a :: as => W.pure a && W.pures as
end

mutual
/-- it names own objects below n alone -/
def W.low (n : Nat) : W → Bool
  | .tup ws => W.lows n ws
  | .rol ws => W.lows n ws
  | .ref i => Nat.blt i n
  | _ => true
def W.lows (n : Nat) : List W → Bool
  | [] => true
  | a :: as => W.low n a && W.lows n as
end
def O.low (n : Nat) : O → Bool
  | .lst ws => W.lows n ws
  | _ => false
/-- each object stands as it was, or names those below n alone -/
def keepOk (n : Nat) : OH → OH → Bool
  | o' :: r', o :: r => (O.beq o' o || O.low n o') && keepOk n r' r
  | [], [] => true
  | _, _ => false
/-- the heap h' may be cut back to the length of h -/
def cutOk (h h' : OH) : Bool := keepOk h.length (h'.take h.length) h
/-- what a run comes to -/
inductive R (α : Type) where
  | ok (a : α) (h : OH)
  | exc (c : Nat) (fs : List (Str × W)) (h : OH)
  | no
def R.bind {α β : Type} (r : R α) (f : α → OH → R β) : R β := match r with
  | .ok a h => f a h
  | .exc c fs h => .exc c fs h
  | .no => .no
@[simp] theorem R.bind_ok {α β : Type} (a : α) (h : OH) (f : α → OH → R β) : (R.ok a h).bind f = f a h := rfl
@[simp] theorem R.bind_exc {α β : Type} (c : Nat) (fs : List (Str × W)) (h : OH) (f : α → OH → R β) : (R.exc c fs h : R α).bind f = .exc c fs h := rfl
@[simp] theorem R.bind_no {α β : Type} (f : α → OH → R β) : (R.no : R α).bind f = .no := rfl
abbrev Sl := List (Option W)
def slLow (n : Nat) : Sl → Bool
  | [] => true
  | none :: r => slLow n r
  | some w :: r => W.low n w && slLow n r
/-- where a statement ends -/
inductive F where
  | nx | rt (w : W) | bk | ct
/-- a statement's run: how it ends, the slots -/
abbrev RS := R (F × Sl)

/-! ### the text -/
inductive Bop where
  | add | sub | mul | fdiv | mod | pow
  deriving DecidableEq
inductive Cop where
  | eq | ne | lt | le | gt | ge | inn | nin | is | isn
  deriving DecidableEq
inductive Bi where
  | len | int | abs | max2 | min2 | maxl | minl | sum | sorted | tuple | list | repr | all | any
  deriving DecidableEq
inductive Mt where
  | append | pop | popAt | extend | index
  deriving DecidableEq
/-- targets -/
inductive T where
  | nm (i : Nat) | nil | cons (a r : T)
/-- expressions, lists of them (nil, cons), what is walked (seq, rng, enum, zip) -/
inductive E where
  | v (i : Nat) | c (w : W)
  | nil | cons (a r : E)
  | bin (o : Bop) (a b : E) | neg (a : E)
  | cmp (o : Cop) (a b : E) | chain (o p : Cop) (a b c : E)
  | and (a b : E) | or (a b : E) | not (a : E)
  | ite (t a b : E)
  | call (f : Nat) (as : E)
  | bi (b : Bi) (as : E)
  | isi (a : E) (ts : List String)
  | mt (m : Mt) (o as : E)
  | tup (as : E) | lst (as : E)
  | ix (a b : E) | sl (a lo hi : E) | rev (a : E)
  | lc (e : E) (own : List Nat) (t : T) (it : E) (cond : E)
  | lrg (a : E)
  | gc (a : E)
  | seq (a : E) | rng1 (a : E) | rng2 (a b : E) | enum (a : E) | zip (a b : E)
/-- statements -/
inductive S where
  | skip | sq (a b : S)
  | asg (t : T) (e : E)
  | par (is : List Nat) (as : E)
  | seti (o i e : E)
  | ex (e : E) | ret (e : E) | retn
  | ite (t : E) (a b : S)
  | whl (t : E) (b : S)
  | for (t : T) (it : E) (b : S)
  | brk | cnt
  | gc (own : List Nat) (b : S)
  | fgt (own : List Nat) (b : S)
end Wm
end

section
set_option Elab.async false
set_option linter.all false
set_option maxRecDepth 100000
namespace Wm
open PySem

/-! ### slots, objects -/
def getS : Sl → Nat → Option W
  | [], _ => none
  | x :: _, 0 => x
  | _ :: r, i + 1 => getS r i
def setS : Sl → Nat → Option W → Sl
  | [], _, _ => []
  | _ :: r, 0, w => w :: r
  | x :: r, i + 1, w => x :: setS r i w
def wipeS (s : Sl) : List Nat → Sl
  | [] => s
  | i :: is => setS (wipeS s is) i none
def line : Nat := 16000000
/-- the items of a list object -/
def items (h : OH) (n : Nat) : Option (List W) := match h[n]? with
  | some (.lst ws) => some ws
  | _ => none
def lstAt (h : OH) (n : Nat) : Option (List W) := match h[n]? with
  | some (.lst ws) => some ws
  | _ => none
/-- the items of a list or tuple -/
def seqOf (h : OH) : W → Option (List W)
  | .tup ws => some ws
  | .ref n => items h n
  | _ => none
def alloc (o : O) (h : OH) : R W := .ok (.ref h.length) (h ++ [o])
def newLst (ws : List W) (h : OH) : R W := if Nat.ble ws.length line = true then alloc (.lst ws) h else .no
def newTup (ws : List W) (h : OH) : R W := if Nat.ble ws.length line = true then .ok (.tup ws) h else .no

/-! ### data -/
def toDl (f : W → Option PyData) : List W → Option (List PyData)
  | [] => some []
  | w :: ws => match f w, toDl f ws with
    | some d, some ds => some (d :: ds)
    | _, _ => none
def toD (h : OH) : Nat → W → Option PyData
  | 0, w => match w with
    | .non => some .none
    | .bl b => some (.bool b)
    | .int i => some (.int i)
    | .str x => if PyData.strOk x = true then some (.str x) else none
    | _ => none
  | n + 1, w => match w with
    | .non => some .none
    | .bl b => some (.bool b)
    | .int i => some (.int i)
    | .str x => if PyData.strOk x = true then some (.str x) else none
    | .tup ws => (toDl (toD h n) ws).map .tuple
    | .ref r => match items h r with
      | some ws => (toDl (toD h n) ws).map .list
      | none => none
    | _ => none
abbrev deep : Nat := 60
/-- equality: ints alone at once, else as data -/
def eqW (h : OH) : W → W → Option Bool
  | .int i, .int j => some (decide (i = j))
  | .str x, .str y => some (decide (x = y))
  | .bl a, .bl b => some (a == b)
  | .non, .non => some true
  | x, y => match toD h deep x, toD h deep y with
    | some d, some e => some (PyData.eqv d e)
    | _, _ => none
def flat : W → Bool
  | .non | .bl _ | .int _ | .str _ => true
  | _ => false
def eqF : W → W → Bool
  | .non, .non => true
  | .bl a, .bl b => a == b
  | .bl a, .int b => decide ((if a then 1 else 0) = b)
  | .int a, .bl b => decide (a = (if b then 1 else 0))
  | .int a, .int b => decide (a = b)
  | .str a, .str b => decide (a = b)
  | _, _ => false
def inW (h : OH) (x y : W) : Option Bool := match seqOf h y with
  | some ws => if (flat x && ws.all flat) = true then some (ws.any fun z => eqF z x) else match toD h deep x, toDl (toD h 59) ws with
    | some d, some ds => some (ds.any fun z => PyData.eqv z d)
    | _, _ => none
  | none => match y with
    | .ref n => match h[n]? with
      | some (.dct _ kvs) => match toD h deep x, toDl (toD h 59) (kvs.map (·.1)) with
        | some d, some ds => some (ds.any fun z => PyData.eqv z d)
        | _, _ => none
      | _ => none
    | _ => none
def intsW : List W → Option (List Int)
  | [] => some []
  | .int i :: r => (intsW r).map fun l => i :: l
  | _ :: _ => none
/-- tuples of ints in their order -/
def lexI : List Int → List Int → Bool
  | [], [] => false
  | [], _ :: _ => true
  | _ :: _, [] => false
  | x :: xs, y :: ys => if x = y then lexI xs ys else decide (x < y)
def lexW (a b : List W) : Option Bool := match intsW a, intsW b with
  | some ns, some ms => some (lexI ns ms)
  | _, _ => none
def bR (o : Option Bool) (h : OH) : R W := match o with
  | some b => .ok (.bl b) h
  | none => .no
def isNon : W → Bool
  | .non => true
  | _ => false
def cmpW : Cop → W → W → OH → R W
  | .eq, x, y, h => bR (eqW h x y) h
  | .ne, x, y, h => bR ((eqW h x y).map not) h
  | .inn, x, y, h => bR (inW h x y) h
  | .nin, x, y, h => bR ((inW h x y).map not) h
  | .is, x, .non, h => .ok (.bl (isNon x)) h
  | .isn, x, .non, h => .ok (.bl (!isNon x)) h
  | .lt, .int i, .int j, h => .ok (.bl (decide (i < j))) h
  | .le, .int i, .int j, h => .ok (.bl (decide (i ≤ j))) h
  | .gt, .int i, .int j, h => .ok (.bl (decide (j < i))) h
  | .ge, .int i, .int j, h => .ok (.bl (decide (j ≤ i))) h
  | .lt, .tup a, .tup b, h => bR (lexW a b) h
  | _, _, _, _ => .no
def mulOk (i j : Int) : Bool := decide (i.natAbs < 2 ^ 64) || decide (j.natAbs < 2 ^ 64) || decide (i.natAbs.log2 + j.natAbs.log2 < 1000000)
def flatRep (k : Nat) (ws : List W) : List W := (List.replicate k ws).flatten
def b2I (b : Bool) : Int := if b then 1 else 0
def binW : Bop → W → W → OH → R W
  | .add, .int i, .int j, h => .ok (.int (i + j)) h
  | .sub, .int i, .int j, h => .ok (.int (i - j)) h
  | .mul, .int i, .int j, h => if mulOk i j = true then .ok (.int (i * j)) h else .no
  | .mod, .int i, .int j, h => if 0 < j then .ok (.int (i % j)) h else .no
  | .fdiv, .int i, .int j, h => if 0 < j ∧ j.natAbs.log2 < 9000 then .ok (.int (i / j)) h else .no
  | .pow, .int i, .int j, h => if 0 ≤ j ∧ j ≤ 1000000 ∧ i.natAbs < 2 ^ 64 then .ok (.int (i ^ j.toNat)) h else .no
  | .add, .str x, .str y, h => if Nat.ble (x.length + y.length) line = true then .ok (.str (x ++ y)) h else .no
  | .add, .tup a, .tup b, h => if Nat.ble (a.length + b.length) line = true then .ok (.tup (a ++ b)) h else .no
  | .add, .ref m, .ref n, h => match lstAt h m, lstAt h n with
    | some a, some b => if Nat.ble (a.length + b.length) line = true then alloc (.lst (a ++ b)) h else .no
    | _, _ => .no
  | .mul, .tup a, .int k, h => if 2 ≤ k ∧ k ≤ 1000 ∧ a ≠ [] ∧ a.length ≤ 1000 then .ok (.tup (flatRep k.toNat a)) h else .no
  | .mul, .ref m, .int k, h => match lstAt h m with
    | some a => if -(2 ^ 63) ≤ k ∧ k < 2 ^ 63 ∧ a.length * k.toNat ≤ line then alloc (.lst (flatRep k.toNat a)) h else .no
    | none => .no
  | _, _, _, _ => .no
def truW (h : OH) : W → Option Bool
  | .non => some false
  | .bl b => some b
  | .int i => some (decide (i ≠ 0))
  | .tup ws => some (!ws.isEmpty)
  | .ref n => (items h n).map fun ws => !ws.isEmpty
  | _ => none
/-- the place that an index means -/
def ixN (n : Nat) (i : Int) : Option Nat := if 0 ≤ i then (if i < n then some i.toNat else none) else if -(n : Int) ≤ i then some (i + n).toNat else none
def ixW : W → W → OH → R W
  | x, .int i, h => match seqOf h x with
    | some ws => match ixN ws.length i with
      | some j => match ws[j]? with
        | some w => .ok w h
        | none => .no
      | none => .no
    | none => .no
  | _, _, _ => .no
/-- a slice's ends -/
def endOf (n d : Nat) : Option Int → Nat
  | none => d
  | some v => if v < 0 then (v + (n : Int)).toNat else min v.toNat n
def cut (ws : List W) (lo hi : Option Int) : List W := (ws.drop (endOf ws.length 0 lo)).take (endOf ws.length ws.length hi - endOf ws.length 0 lo)
def slW : W → Option Int → Option Int → OH → R W
  | .tup ws, lo, hi, h => .ok (.tup (cut ws lo hi)) h
  | .ref n, lo, hi, h => match items h n with
    | some ws => alloc (.lst (cut ws lo hi)) h
    | none => .no
  | .rol ws, lo, hi, h => alloc (.lst (cut ws lo hi)) h
  | _, _, _, _ => .no
def revW : W → OH → R W
  | .tup ws, h => .ok (.tup ws.reverse) h
  | .ref n, h => match items h n with
    | some ws => alloc (.lst ws.reverse) h
    | none => .no
  | _, _ => .no
def boolsW : List W → Option (List Bool)
  | [] => some []
  | .bl b :: r => (boolsW r).map fun l => b :: l
  | _ :: _ => none
def insI (i : Int) : List Int → List Int
  | [] => [i]
  | j :: r => if i ≤ j then i :: j :: r else j :: insI i r
def sortI : List Int → List Int
  | [] => []
  | i :: r => insI i (sortI r)
def maxI : List Int → Int → Int
  | [], m => m
  | i :: r, m => maxI r (if m < i then i else m)
def minI : List Int → Int → Int
  | [], m => m
  | i :: r, m => minI r (if i < m then i else m)
def rangeI (lo : Int) : Nat → List W
  | 0 => []
  | n + 1 => .int lo :: rangeI (lo + 1) n
def within62 (i : Int) : Bool := decide (-(2 ^ 62) ≤ i) && decide (i < 2 ^ 62)
def biW : Bi → List W → OH → R W
  | .len, [x], h => match seqOf h x with
    | some ws => .ok (.int ws.length) h
    | none => match x with
      | .str z => if Nat.ble z.length line = true then .ok (.int z.length) h else .no
      | .rol ws => .ok (.int ws.length) h
      | _ => .no
  | .int, [.int i], h => .ok (.int i) h
  | .int, [.bl b], h => .ok (.int (b2I b)) h
  | .abs, [.int i], h => .ok (.int (if i < 0 then -i else i)) h
  | .max2, [.int i, .int j], h => .ok (.int (if j > i then j else i)) h
  | .min2, [.int i, .int j], h => .ok (.int (if j < i then j else i)) h
  | .maxl, [.ref n], h => match items h n with
    | some ws => match intsW ws with
      | some (i :: r) => .ok (.int (maxI r i)) h
      | _ => .no
    | none => .no
  | .minl, [.ref n], h => match items h n with
    | some ws => match intsW ws with
      | some (i :: r) => .ok (.int (minI r i)) h
      | _ => .no
    | none => .no
  | .sum, [.ref n], h => match items h n with
    | some ws => match intsW ws with
      | some l => .ok (.int l.sum) h
      | none => .no
    | none => .no
  | .sorted, [.ref n], h => match items h n with
    | some ws => match intsW ws with
      | some l => if l.length < 64 then alloc (.lst ((sortI l).map .int)) h else .no
      | none => .no
    | none => .no
  | .tuple, [.tup ws], h => .ok (.tup ws) h
  | .tuple, [.ref n], h => match items h n with
    | some ws => .ok (.tup ws) h
    | none => .no
  | .list, [x], h => match seqOf h x with
    | some ws => alloc (.lst ws) h
    | none => .no
  | .repr, [x], h => match toD h deep x with
    | some d => if (d.showable && Nat.ble d.shown.length line) = true then .ok (.str d.shown) h else .no
    | none => .no
  | .all, [.ref n], h => match items h n with
    | some ws => match boolsW ws with
      | some l => .ok (.bl (l.all id)) h
      | none => .no
    | none => .no
  | .any, [.ref n], h => match items h n with
    | some ws => match boolsW ws with
      | some l => .ok (.bl (l.any id)) h
      | none => .no
    | none => .no
  | _, _, _ => .no
/-- list(range(n)) -/
def lrgW : W → OH → R W
  | .int n, h => if within62 n = true then newLst (rangeI 0 n.toNat) h else .no
  | _, _ => .no
def isiW (h : OH) (x : W) (T : String) : Option Bool := match x with
  | .non => some (T == "NoneType")
  | .bl _ => some (T == "int" || T == "bool")
  | .int _ => some (T == "int")
  | .str _ => some (T == "str")
  | .tup _ => some (T == "tuple")
  | .ref n => match h[n]? with
    | some (.lst _) => some (T == "list")
    | some (.dct _ _) => some (T == "dict")
    | _ => none
  | _ => none
def seqIx (n : Nat) (i : Int) : Option Nat := if decide (-(2 ^ 63) ≤ i) && decide (i < 2 ^ 63) then ixN n i else none
def firstAt (f : W → Bool) : List W → Nat → Option Nat
  | [], _ => none
  | w :: r, k => if f w = true then some k else firstAt f r (k + 1)
def mtW : Mt → W → List W → OH → R W
  | .append, .ref n, [x], h => match lstAt h n with
    | some ws => if Nat.ble ws.length line = true then .ok .non (h.set n (.lst (ws ++ [x]))) else .no
    | none => .no
  | .extend, .ref n, [.ref k], h => match lstAt h n, lstAt h k with
    | some ws, some us => if Nat.ble (ws.length + us.length) line = true then .ok .non (h.set n (.lst (ws ++ us))) else .no
    | _, _ => .no
  | .pop, .ref n, [], h => match lstAt h n with
    | some ws => match ws[ws.length - 1]? with
      | some w => .ok w (h.set n (.lst ws.dropLast))
      | none => .no
    | none => .no
  | .popAt, .ref n, [.int i], h => match lstAt h n with
    | some ws => match seqIx ws.length i with
      | some k => match ws[k]? with
        | some w => .ok w (h.set n (.lst (ws.eraseIdx k)))
        | none => .no
      | none => .no
    | none => .no
  | _, _, _, _ => .no
def setIx : W → W → W → OH → R W
  | .ref n, .int i, x, h => match lstAt h n with
    | some ws => match ixN ws.length i with
      | some j => .ok .non (h.set n (.lst (ws.set j x)))
      | none => .no
    | none => .no
  | _, _, _, _ => .no
end Wm
end

section
set_option Elab.async false
set_option linter.all false
set_option maxRecDepth 100000
namespace Wm
open PySem

/-- what is walked: the items; the list objects that must stand still -/
abbrev It := List W × List (Nat × List W)
def still (h : OH) : List (Nat × List W) → Bool
  | [] => true
  | p :: r => (match items h p.1 with | some ws => W.beqs ws p.2 | none => false) && still h r
def zipT : List W → List W → List W
  | a :: as, b :: bs => .tup [a, b] :: zipT as bs
  | _, _ => []
def enumT : Int → List W → List W
  | _, [] => []
  | i, a :: as => .tup [.int i, a] :: enumT (i + 1) as
def watch (x : W) (ws : List W) : List (Nat × List W) := match x with
  | .ref n => [(n, ws)]
  | _ => []
/-- a target takes a value -/
def asgT : T → W → Sl → Option Sl
  | .nm i, w, s => some (setS s i (some w))
  | .nil, w, s => match w with
    | .tup [] => some s
    | _ => none
  | .cons a r, w, s => match w with
    | .tup (x :: xs) => match asgT a x s with
      | some s' => asgT r (.tup xs) s'
      | none => none
    | _ => none
def asgR (t : T) (w : W) (s : Sl) (h : OH) : R Sl := match asgT t w s with
  | some s' => .ok s' h
  | none => .no
def asB (w : W) (h : OH) : R Bool := match w with
  | .bl b => .ok b h
  | _ => .no
def asT (w : W) (h : OH) : R Bool := match truW h w with
  | some b => .ok b h
  | none => .no
def asI (w : W) (h : OH) : R (Option Int) := match w with
  | .int i => .ok (some i) h
  | _ => .no
def negW (w : W) (h : OH) : R W := match w with
  | .int i => .ok (.int (-i)) h
  | _ => .no
def isRef (w : W) (h : OH) : R Unit := match w with
  | .ref _ => .ok () h
  | _ => .no
def isiR (ts : List String) (x : W) (h : OH) : R W := match ts with
  | [T] => bR (isiW h x T) h
  | _ => .no
def seqIt (x : W) (h : OH) : R It := match seqOf h x with
  | some ws => .ok (ws, watch x ws) h
  | none => .no
def enumIt (x : W) (h : OH) : R It := match seqOf h x with
  | some ws => .ok (enumT 0 ws, watch x ws) h
  | none => .no
def bothRef : W → W → Bool
  | .ref _, .ref _ => true
  | .tup _, .tup _ => true
  | _, _ => false
def zipIt (x y : W) (h : OH) : R It := match seqOf h x, seqOf h y with
  | some ws, some us => if bothRef x y = true then .ok (zipT ws us, watch x ws ++ watch y us) h else .no
  | _, _ => .no
def rng1It (w : W) (h : OH) : R It := match w with
  | .int n => if within62 n = true then .ok (rangeI 0 n.toNat, []) h else .no
  | _ => .no
def rng2It (u w : W) (h : OH) : R It := match u, w with
  | .int a, .int b => if (within62 a && within62 b) = true then .ok (rangeI a (b - a).toNat, []) h else .no
  | _, _ => .no
/-- an exception inside a comprehension is not followed -/
def R.calm {α : Type} (r : R α) : R α := match r with
  | .exc _ _ _ => .no
  | r => r
def consO (o : Option W) (ys : List W) : List W := match o with
  | some y => y :: ys
  | none => ys
/-- the list comprehension's turns; none: the item is left out -/
def lcN (f : W → OH → R (Option W)) (wt : List (Nat × List W)) : List W → OH → R (List W)
  | [], h => if still h wt = true then .ok [] h else .no
  | w :: ws, h => if still h wt = true then (f w h).calm.bind fun o h1 => (lcN f wt ws h1).bind fun ys h2 => .ok (consO o ys) h2 else .no
def gcE (h : OH) (w : W) (h' : OH) : R W := if (W.low h.length w && cutOk h h') = true then .ok w (h'.take h.length) else .no
def gcB (h : OH) (b : Bool) (h' : OH) : R Bool := if cutOk h h' = true then .ok b (h'.take h.length) else .no
section
variable (G : Nat → List W → OH → R W)
mutual
def ev : E → Sl → OH → R W
  | .v i, s, h => match getS s i with
    | some w => .ok w h
    | none => .no
  | .c w, _, h => .ok w h
  | .bin o a b, s, h => (ev a s h).bind fun x h1 => (ev b s h1).bind fun y h2 => binW o x y h2
  | .neg a, s, h => (ev a s h).bind fun x h1 => negW x h1
  | .cmp o a b, s, h => (ev a s h).bind fun x h1 => (ev b s h1).bind fun y h2 => cmpW o x y h2
  | .chain o p a b c, s, h => (ev a s h).bind fun x h1 => (ev b s h1).bind fun y h2 => (cmpW o x y h2).bind fun z h3 => (asB z h3).bind fun k h4 =>
      if k = true then (ev c s h4).bind fun u h5 => cmpW p y u h5 else .ok (.bl false) h4
  | .and a b, s, h => (ev a s h).bind fun x h1 => (asT x h1).bind fun k h2 => if k = true then ev b s h2 else .ok x h2
  | .or a b, s, h => (ev a s h).bind fun x h1 => (asT x h1).bind fun k h2 => if k = true then .ok x h2 else ev b s h2
  | .not a, s, h => (ev a s h).bind fun x h1 => (asT x h1).bind fun k h2 => .ok (.bl (!k)) h2
  | .ite t a b, s, h => (evT t s h).bind fun k h1 => if k = true then ev a s h1 else ev b s h1
  | .call f as, s, h => (evs as s h).bind fun ws h1 => G f ws h1
  | .bi b as, s, h => (evs as s h).bind fun ws h1 => biW b ws h1
  | .isi a ts, s, h => (ev a s h).bind fun x h1 => isiR ts x h1
  | .mt m o as, s, h => (ev o s h).bind fun x h1 => (isRef x h1).bind fun _ h2 => (evs as s h2).bind fun ws h3 => mtW m x ws h3
  | .tup as, s, h => (evs as s h).bind fun ws h1 => newTup ws h1
  | .lst as, s, h => (evs as s h).bind fun ws h1 => newLst ws h1
  | .ix a b, s, h => (ev a s h).bind fun x h1 => (ev b s h1).bind fun y h2 => ixW x y h2
  | .sl a lo hi, s, h => (ev a s h).bind fun x h1 => (evO lo s h1).bind fun l h2 => (evO hi s h2).bind fun u h3 => slW x l u h3
  | .rev a, s, h => (ev a s h).bind fun x h1 => revW x h1
  | .lrg a, s, h => (ev a s h).bind fun x h1 => lrgW x h1
  | .gc a, s, h => (ev a s h).bind (gcE h)
  | .lc e own t it cond, s, h => (evI it s h).bind fun p h1 =>
      (lcN (fun w h2 => (asgR t w (wipeS s own) h2).bind fun s' h3 => (evC cond s' h3).bind fun k h4 => if k = true then (ev e s' h4).bind fun y h5 => .ok (some y) h5 else .ok none h4) p.2 p.1 h1).bind fun ys h6 => newLst ys h6
  | _, _, _ => .no
/-- as a test -/
def evT : E → Sl → OH → R Bool
  | .and a b, s, h => (evT a s h).bind fun k h1 => if k = true then evT b s h1 else .ok false h1
  | .or a b, s, h => (evT a s h).bind fun k h1 => if k = true then .ok true h1 else evT b s h1
  | .not a, s, h => (evT a s h).bind fun k h1 => .ok (!k) h1
  | .gc a, s, h => (evT a s h).bind (gcB h)
  | .cmp o a b, s, h => (ev a s h).bind fun x h1 => (ev b s h1).bind fun y h2 => (cmpW o x y h2).bind asB
  | .chain o p a b c, s, h => (ev a s h).bind fun x h1 => (ev b s h1).bind fun y h2 => (cmpW o x y h2).bind fun z h3 => (asB z h3).bind fun k h4 =>
      if k = true then (ev c s h4).bind fun u h5 => (cmpW p y u h5).bind asB else .ok false h4
  | .v i, s, h => (match getS s i with
    | some w => (R.ok w h : R W)
    | none => .no).bind asT
  | .c w, _, h => asT w h
  | .call f as, s, h => ((evs as s h).bind fun ws h1 => G f ws h1).bind asT
  | .bi b as, s, h => ((evs as s h).bind fun ws h1 => biW b ws h1).bind asT
  | .isi a ts, s, h => ((ev a s h).bind fun x h1 => isiR ts x h1).bind asT
  | .ix a b, s, h => ((ev a s h).bind fun x h1 => (ev b s h1).bind fun y h2 => ixW x y h2).bind asT
  | _, _, _ => .no
/-- a comprehension's test -/
def evC : E → Sl → OH → R Bool
  | .nil, _, h => .ok true h
  | .cons a .nil, s, h => evT a s h
  | _, _, _ => .no
/-- a list of expressions -/
def evs : E → Sl → OH → R (List W)
  | .nil, _, h => .ok [] h
  | .cons a r, s, h => (ev a s h).bind fun w h1 => (evs r s h1).bind fun ws h2 => .ok (w :: ws) h2
  | _, _, _ => .no
/-- an end of a slice -/
def evO : E → Sl → OH → R (Option Int)
  | .nil, _, h => .ok none h
  | .cons a .nil, s, h => (ev a s h).bind asI
  | _, _, _ => .no
/-- what is walked -/
def evI : E → Sl → OH → R It
  | .seq a, s, h => (ev a s h).bind seqIt
  | .rng1 a, s, h => (ev a s h).bind rng1It
  | .rng2 a b, s, h => (ev a s h).bind fun x h1 => (ev b s h1).bind fun y h2 => rng2It x y h2
  | .enum a, s, h => (ev a s h).bind enumIt
  | .zip a b, s, h => (ev a s h).bind fun x h1 => (ev b s h1).bind fun y h2 => zipIt x y h2
  | _, _, _ => .no
end
/-- how a turn's end goes on -/
def goOn (f : Sl → OH → RS) (p : F × Sl) (h : OH) : RS := match p.1 with
  | .nx => f p.2 h
  | .ct => f p.2 h
  | .bk => .ok (.nx, p.2) h
  | .rt w => .ok (.rt w, p.2) h
def thenS (f : Sl → OH → RS) (p : F × Sl) (h : OH) : RS := match p.1 with
  | .nx => f p.2 h
  | _ => .ok p h
def whlN (t : Sl → OH → R Bool) (b : Sl → OH → RS) : Nat → Sl → OH → RS
  | 0, _, _ => .no
  | n + 1, s, h => (t s h).bind fun k h1 => if k = true then (b s h1).bind (goOn (whlN t b n)) else .ok (.nx, s) h1
def forN (t : T) (b : Sl → OH → RS) (wt : List (Nat × List W)) : List W → Sl → OH → RS
  | [], s, h => if still h wt = true then .ok (.nx, s) h else .no
  | w :: ws, s, h => if still h wt = true then (asgR t w s h).bind fun s' h1 => (b s' h1).bind (goOn (forN t b wt ws)) else .no
def F.low (n : Nat) : F → Bool
  | .rt w => W.low n w
  | _ => true
/-- what the statement left in the heap is dropped, some slots are forgotten -/
def gcS (own : List Nat) (h : OH) (p : F × Sl) (h' : OH) : RS := if (F.low h.length p.1 && slLow h.length (wipeS p.2 own) && cutOk h h') = true then .ok (p.1, wipeS p.2 own) (h'.take h.length) else .no
abbrev fuel : Nat := 1000000
/-- a, b = x, y: all are reckoned, then stored -/
def parS : List Nat → List W → Sl → Option Sl
  | [], [], s => some s
  | i :: is, w :: ws, s => parS is ws (setS s i (some w))
  | _, _, _ => none
def parR (is : List Nat) (ws : List W) (s : Sl) (h : OH) : RS := match parS is ws s with
  | some s' => .ok (.nx, s') h
  | none => .no
def ex : S → Sl → OH → RS
  | .skip, s, h => .ok (.nx, s) h
  | .sq a b, s, h => (ex a s h).bind (thenS (ex b))
  | .asg t e, s, h => (ev G e s h).bind fun w h1 => (asgR t w s h1).bind fun s' h2 => .ok (.nx, s') h2
  | .par is as, s, h => (evs G as s h).bind fun ws h1 => parR is ws s h1
  | .seti o i e, s, h => (ev G e s h).bind fun x h1 => (ev G o s h1).bind fun y h2 => (ev G i s h2).bind fun z h3 => (setIx y z x h3).bind fun _ h4 => .ok (.nx, s) h4
  | .ex e, s, h => (ev G e s h).bind fun _ h1 => .ok (.nx, s) h1
  | .ret e, s, h => (ev G e s h).bind fun w h1 => .ok (.rt w, s) h1
  | .retn, s, h => .ok (.rt .non, s) h
  | .ite t a b, s, h => (evT G t s h).bind fun k h1 => if k = true then ex a s h1 else ex b s h1
  | .whl t b, s, h => whlN (evT G t) (ex b) fuel s h
  | .for t it b, s, h => (evI G it s h).bind fun p h1 => forN t (ex b) p.2 p.1 s h1
  | .gc own b, s, h => (ex b s h).bind (gcS own h)
  | .fgt _ b, s, h => ex b s h
  | .brk, s, h => .ok (.bk, s) h
  | .cnt, s, h => .ok (.ct, s) h
end
/-- a def: its slots, its parameters, its body; gc: what it leaves in the heap is dropped -/
structure Fn where
  slots : Nat
  params : Nat
  body : S
  gc : Bool
def startS (d : Fn) (ws : List W) : Sl := ws.map some ++ List.replicate (d.slots - ws.length) none
def fin (gc : Bool) (h : OH) (w : W) (h' : OH) : R W := if gc = true then (if (W.low h.length w && cutOk h h') = true then .ok w (h'.take h.length) else .no) else .ok w h'
def finS (gc : Bool) (h : OH) (p : F × Sl) (h' : OH) : R W := match p.1 with
  | .rt w => fin gc h w h'
  | .nx => fin gc h .non h'
  | _ => .no
def callN (tab : List Fn) : Nat → Nat → List W → OH → R W
  | 0, _, _, _ => .no
  | n + 1, f, ws, h => match tab[f]? with
    | some d => if Nat.beq ws.length d.params = true then (ex (callN tab n) d.body (startS d ws) h).bind (finS d.gc h) else .no
    | none => .no
end Wm
end

section
set_option Elab.async false
set_option linter.all false
set_option maxRecDepth 100000
set_option maxHeartbeats 4000000
set_option autoImplicit false
/-! The own language's states beside the machine's. -/
namespace Wm
open PySem PySem.Spec PyProof.Rows L2

/-- where the text's defs and classes stand -/
structure At where
  K : PySem.W.Frag
  fa : Nat → Addr
  ca : Nat → Addr
/-- a list that stands as it is -/
def SqR (K : PySem.W.Frag) (H : Hp) (a : Addr) (xs : List V) : Prop :=
  (∃ ob, H a = some (.frz ob (.lst xs))) ∨ ∃ (o : Obj) (its : Array Value) (n : Nat), K.lookup a = some o ∧ o.cls = .type "list" ∧ o.dict = none ∧ o.data = .seq its n ∧ its.size ≤ sizeLine ∧ Vals xs its.toList
theorem SqR.read {K : PySem.W.Frag} {H : Hp} {a : Addr} {xs : List V} (q : SqR K H a xs) : SqL K H a xs := q.elim (fun ⟨ob, e⟩ => .inl (.inr ⟨ob, e⟩)) .inr
mutual
inductive Rep (A : At) (m : List Addr) (H : Hp) : W → V → Prop
  | non : Rep A m H .non .non
  | bl (b : Bool) : Rep A m H (.bl b) (.bl b)
  | int (i : Int) : Rep A m H (.int i) (.int i)
  | str (x : Str) : Rep A m H (.str x) (.str x)
  | tup {a : Addr} {ws : List W} {vs : List V} : SqT A.K H a vs → Reps A m H ws vs → Rep A m H (.tup ws) (.ref a)
  | ref {n : Nat} {a : Addr} : m[n]? = some a → Rep A m H (.ref n) (.ref a)
  | fn (i : Nat) : Rep A m H (.fn i) (.ref (A.fa i))
  | cls (i : Nat) : Rep A m H (.cls i) (.ref (A.ca i))
  | rol {a : Addr} {ws : List W} {vs : List V} : SqR A.K H a vs → Reps A m H ws vs → Rep A m H (.rol ws) (.ref a)
inductive Reps (A : At) (m : List Addr) (H : Hp) : List W → List V → Prop
  | nil : Reps A m H [] []
  | cons {w : W} {ws : List W} {v : V} {vs : List V} : Rep A m H w v → Reps A m H ws vs → Reps A m H (w :: ws) (v :: vs)
end
def RepO (A : At) (m : List Addr) (H : Hp) (a : Addr) : O → Prop
  | .lst ws => ∃ vs, H a = some (.lst vs) ∧ Reps A m H ws vs
  | _ => False
structure RelH (A : At) (m : List Addr) (h : OH) (H : Hp) : Prop where
  len : m.length = h.length
  nd : m.Nodup
  ob : ∀ (n : Nat) (o : O), h[n]? = some o → ∃ a, m[n]? = some a ∧ RepO A m H a o
structure RelS (A : At) (m : List Addr) (H : Hp) (s : Sl) (σ : L2.St) : Prop where
  len : s.length = σ.length
  at_ : ∀ (i : Nat) (w : W), getS s i = some w → ∃ v, σ[i]? = some (some v) ∧ Rep A m H w v
/-- the heap has grown: the objects of the map may have turned, all others stand, new ones in the map are new -/
structure Grow (m : List Addr) (H : Hp) (m' : List Addr) (H' : Hp) : Prop where
  map : ∃ l, m' = m ++ l ∧ ∀ a ∈ l, a ∉ m → H a = none
  keep : ∀ a o, H a = some o → a ∉ m → H' a = some o
theorem Grow.refl (m : List Addr) (H : Hp) : Grow m H m H := ⟨⟨[], by simp, fun a h => by simp at h⟩, fun _ _ e _ => e⟩
theorem Grow.trans {m m1 m2 : List Addr} {H H1 H2 : Hp} (g : Grow m H m1 H1) (k : Grow m1 H1 m2 H2) : Grow m H m2 H2 := by
  obtain ⟨l1, rfl, e1⟩ := g.map
  obtain ⟨l2, rfl, e2⟩ := k.map
  refine ⟨⟨l1 ++ l2, by simp, fun a ha hm => ?_⟩, fun a o e hm => ?_⟩
  · by_cases h1 : a ∈ l1
    · exact e1 a h1 hm
    · have h2 : a ∈ l2 := (List.mem_append.mp ha).resolve_left h1
      have h3 := e2 a h2 (by simp [hm, h1])
      cases q : H a with
      | none => rfl
      | some o => rw [g.keep a o q hm] at h3; cases h3
  · refine k.keep a o (g.keep a o e hm) ?_
    intro hx
    rcases List.mem_append.mp hx with h1 | h1
    · exact hm h1
    · rw [e1 a h1 hm] at e; cases e
theorem Grow.get {m m' : List Addr} {H H' : Hp} (g : Grow m H m' H') {n : Nat} {a : Addr} (e : m[n]? = some a) : m'[n]? = some a := by
  obtain ⟨l, rfl, _⟩ := g.map
  obtain ⟨hn, _⟩ := List.getElem?_eq_some_iff.mp e
  rw [List.getElem?_append_left hn]
  exact e
section
variable {A : At} {m m' : List Addr} {h h' : OH} {H H' : Hp}
theorem RelH.some (r : RelH A m h H) {a : Addr} (ha : a ∈ m) : ∃ (n : Nat) (o : O), h[n]? = Option.some o ∧ m[n]? = Option.some a ∧ RepO A m H a o := by
  obtain ⟨n, hn, e⟩ := List.getElem_of_mem ha
  have hn' : n < h.length := by rw [← r.len]; exact hn
  obtain ⟨b, e1, e2⟩ := r.ob n h[n] (List.getElem?_eq_getElem hn')
  have e3 : m[n]? = Option.some a := by rw [List.getElem?_eq_getElem hn, e]
  rw [e3] at e1; cases e1
  exact ⟨n, h[n], List.getElem?_eq_getElem hn', e3, e2⟩
theorem RelH.there (r : RelH A m h H) {a : Addr} (ha : a ∈ m) : ∃ o, H a = Option.some o ∧ ∀ xs, o ≠ .tup xs ∧ ∀ ob y, o ≠ .frz ob y := by
  obtain ⟨n, o, _, _, q⟩ := r.some ha
  cases o with
  | lst ws => obtain ⟨vs, e, _⟩ := q; exact ⟨_, e, fun xs => ⟨nofun, fun ob y => nofun⟩⟩
  | dct _ _ => exact q.elim
  | ins _ _ => exact q.elim
theorem RelH.free (r : RelH A m h H) {a : Addr} (e : H a = none) : a ∉ m := fun ha => by
  obtain ⟨o, q, _⟩ := r.there ha
  rw [e] at q; cases q
theorem SqT.grow (r : RelH A m h H) (g : Grow m H m' H') {a : Addr} {vs : List V} (q : SqT A.K H a vs) : SqT A.K H' a vs := by
  rcases q with (q | ⟨ob, q⟩) | q
  · refine .inl (.inl (g.keep a _ q fun ha => ?_))
    obtain ⟨o, e, z⟩ := r.there ha
    rw [q] at e; cases e
    exact (z vs).1 rfl
  · refine .inl (.inr ⟨ob, g.keep a _ q fun ha => ?_⟩)
    obtain ⟨o, e, z⟩ := r.there ha
    rw [q] at e; cases e
    exact (z vs).2 ob _ rfl
  · exact .inr q
theorem SqR.grow (r : RelH A m h H) (g : Grow m H m' H') {a : Addr} {vs : List V} (q : SqR A.K H a vs) : SqR A.K H' a vs := by
  rcases q with ⟨ob, q⟩ | q
  · refine .inl ⟨ob, g.keep a _ q fun ha => ?_⟩
    obtain ⟨o, e, z⟩ := r.there ha
    rw [q] at e; cases e
    exact (z vs).2 ob _ rfl
  · exact .inr q
mutual
theorem Rep.grow (r : RelH A m h H) (g : Grow m H m' H') : ∀ {w : W} {v : V}, Rep A m H w v → Rep A m' H' w v
  | _, _, .non => .non
  | _, _, .bl b => .bl b
  | _, _, .int i => .int i
  | _, _, .str x => .str x
  | _, _, .tup q k => .tup (SqT.grow r g q) (Reps.grow r g k)
  | _, _, .ref e => .ref (g.get e)
  | _, _, .fn i => .fn i
  | _, _, .cls i => .cls i
  | _, _, .rol q k => .rol (SqR.grow r g q) (Reps.grow r g k)
theorem Reps.grow (r : RelH A m h H) (g : Grow m H m' H') : ∀ {ws : List W} {vs : List V}, Reps A m H ws vs → Reps A m' H' ws vs
  | _, _, .nil => .nil
  | _, _, .cons a b => .cons (Rep.grow r g a) (Reps.grow r g b)
end
theorem RelS.grow (r : RelH A m h H) (g : Grow m H m' H') {s : Sl} {σ : L2.St} (q : RelS A m H s σ) : RelS A m' H' s σ :=
  ⟨q.len, fun i w e => let ⟨v, e1, e2⟩ := q.at_ i w e; ⟨v, e1, e2.grow r g⟩⟩
theorem Reps.length : ∀ {ws : List W} {vs : List V}, Reps A m H ws vs → ws.length = vs.length
  | _, _, .nil => rfl
  | _, _, .cons _ b => congrArg Nat.succ b.length
theorem Reps.get : ∀ {ws : List W} {vs : List V} {n : Nat} {w : W}, Reps A m H ws vs → ws[n]? = Option.some w → ∃ v, vs[n]? = Option.some v ∧ Rep A m H w v
  | _, _, _, _, .nil, e => by simp at e
  | _, _, 0, _, .cons r _, e => by simp at e; subst e; exact ⟨_, rfl, r⟩
  | _, _, n + 1, w, .cons _ t, e => by
    obtain ⟨v, h1, h2⟩ := Reps.get (n := n) (w := w) t (by simpa using e)
    exact ⟨v, by simpa using h1, h2⟩
theorem Reps.append : ∀ {ws us : List W} {vs xs : List V}, Reps A m H ws vs → Reps A m H us xs → Reps A m H (ws ++ us) (vs ++ xs)
  | _, _, _, _, .nil, k => k
  | _, _, _, _, .cons a b, k => .cons a (b.append k)
theorem Reps.take : ∀ {ws : List W} {vs : List V} (n : Nat), Reps A m H ws vs → Reps A m H (ws.take n) (vs.take n)
  | _, _, 0, _ => .nil
  | _, _, _ + 1, .nil => .nil
  | _, _, n + 1, .cons a b => .cons a (b.take n)
theorem Reps.drop : ∀ {ws : List W} {vs : List V} (n : Nat), Reps A m H ws vs → Reps A m H (ws.drop n) (vs.drop n)
  | _, _, 0, r => r
  | _, _, _ + 1, .nil => .nil
  | _, _, n + 1, .cons a b => b.drop n
theorem Reps.set {w : W} {v : V} (r : Rep A m H w v) : ∀ {ws : List W} {vs : List V} (n : Nat), Reps A m H ws vs → Reps A m H (ws.set n w) (vs.set n v)
  | _, _, _, .nil => .nil
  | _, _, 0, .cons _ b => .cons r b
  | _, _, n + 1, .cons a b => .cons a (Reps.set r n b)
theorem Reps.dropLast {ws : List W} {vs : List V} (r : Reps A m H ws vs) : Reps A m H ws.dropLast vs.dropLast := by
  rw [List.dropLast_eq_take, List.dropLast_eq_take, r.length]
  exact r.take _
theorem Reps.erase : ∀ {ws : List W} {vs : List V} (n : Nat), Reps A m H ws vs → Reps A m H (ws.eraseIdx n) (vs.eraseIdx n)
  | _, _, _, .nil => .nil
  | _, _, 0, .cons _ b => b
  | _, _, n + 1, .cons a b => .cons a (b.erase n)
theorem Reps.reverse {ws : List W} {vs : List V} (r : Reps A m H ws vs) : Reps A m H ws.reverse vs.reverse := by
  induction r using Reps.rec (motive_1 := fun _ _ _ => True) with
  | nil => exact .nil
  | cons a b _ ih => simp only [List.reverse_cons]; exact Reps.append ih (.cons a .nil)
  | _ => trivial
theorem Reps.rep {ws : List W} {vs : List V} (r : Reps A m H ws vs) : ∀ k : Nat, Reps A m H (flatRep k ws) (List.replicate k vs).flatten
  | 0 => .nil
  | k + 1 => by
    unfold flatRep
    simp only [List.replicate_succ, List.flatten_cons]
    exact Reps.append r (Reps.rep r k)
/-- the map is a part of a greater one -/
theorem RelH.of_get {n : Nat} {o : O} (r : RelH A m h H) (e : h[n]? = Option.some o) : ∃ a, m[n]? = Option.some a ∧ RepO A m H a o := r.ob n o e
theorem RelH.lst {n : Nat} {ws : List W} (r : RelH A m h H) (e : lstAt h n = Option.some ws) {a : Addr} (ha : m[n]? = Option.some a) : ∃ vs, H a = Option.some (.lst vs) ∧ Reps A m H ws vs := by
  unfold lstAt at e
  split at e
  · rename_i us q
    cases e
    obtain ⟨b, e1, e2⟩ := r.ob n _ q
    rw [ha] at e1; cases e1
    exact e2
  · cases e
theorem RelH.its {n : Nat} {ws : List W} (r : RelH A m h H) (e : items h n = Option.some ws) {a : Addr} (ha : m[n]? = Option.some a) : ∃ vs, SqL A.K H a vs ∧ Reps A m H ws vs := by
  unfold items at e
  split at e
  · rename_i us q
    cases e
    obtain ⟨b, e1, vs, e2, e3⟩ := r.ob n _ q
    rw [ha] at e1; cases e1
    exact ⟨vs, .inl (.inl e2), e3⟩
  · cases e
/-- a new list -/
theorem RelH.new (r : RelH A m h H) {p : Addr} {ws : List W} {vs : List V} (hp : H p = none) (k : Reps A m H ws vs) :
    RelH A (m ++ [p]) (h ++ [.lst ws]) (upd H p (.lst vs)) ∧ Grow m H (m ++ [p]) (upd H p (.lst vs)) := by
  have pm : p ∉ m := r.free hp
  have g : Grow m H (m ++ [p]) (upd H p (.lst vs)) := ⟨⟨[p], rfl, fun a ha _ => by rw [List.mem_singleton.mp ha]; exact hp⟩, fun a o e _ => by
    rw [upd_ne (by intro z; rw [z, hp] at e; cases e)]; exact e⟩
  refine ⟨⟨by simp [r.len], ?_, fun n o e => ?_⟩, g⟩
  · rw [List.nodup_append]
    exact ⟨r.nd, by simp, fun a ha b hb => by rw [List.mem_singleton.mp hb]; intro z; exact pm (z ▸ ha)⟩
  · by_cases hn : n < h.length
    · rw [List.getElem?_append_left hn] at e
      obtain ⟨a, e1, e2⟩ := r.ob n o e
      refine ⟨a, g.get e1, ?_⟩
      have ham : a ∈ m := List.mem_of_getElem? e1
      have hne : a ≠ p := fun z => pm (z ▸ ham)
      cases o with
      | lst us => obtain ⟨xs, q1, q2⟩ := e2; exact ⟨xs, by rw [upd_ne hne]; exact q1, q2.grow r g⟩
      | dct _ _ => exact e2.elim
      | ins _ _ => exact e2.elim
    · have hn2 : n = h.length := by
        have := (List.getElem?_eq_some_iff.mp e).1
        simp at this; omega
      subst hn2
      simp at e
      subst e
      refine ⟨p, by rw [← r.len]; simp, vs, upd_same, k.grow r g⟩
/-- a list changed -/
theorem RelH.put (r : RelH A m h H) {n : Nat} {a : Addr} {us ws : List W} {vs : List V} (ha : m[n]? = Option.some a) (e0 : lstAt h n = Option.some us) (k : Reps A m H ws vs) :
    RelH A m (h.set n (.lst ws)) (upd H a (.lst vs)) ∧ Grow m H m (upd H a (.lst vs)) := by
  have ham : a ∈ m := List.mem_of_getElem? ha
  have g : Grow m H m (upd H a (.lst vs)) := ⟨⟨[], by simp, fun a h => by simp at h⟩, fun b o e hb => by rw [upd_ne (fun z : b = a => hb (by rw [z]; exact ham))]; exact e⟩
  refine ⟨⟨by simp [r.len], r.nd, fun i o e => ?_⟩, g⟩
  by_cases hi : i = n
  · subst hi
    have hl : i < h.length := by
      rw [← r.len]; exact (List.getElem?_eq_some_iff.mp ha).1
    rw [List.getElem?_set_self hl] at e
    cases e
    exact ⟨a, ha, vs, upd_same, k.grow r g⟩
  · rw [List.getElem?_set_ne (Ne.symm hi)] at e
    obtain ⟨b, e1, e2⟩ := r.ob i o e
    refine ⟨b, e1, ?_⟩
    have hne : b ≠ a := by
      intro z
      subst z
      have h1 := List.getElem?_eq_some_iff.mp e1
      have h2 := List.getElem?_eq_some_iff.mp ha
      obtain ⟨p1, q1⟩ := h1
      obtain ⟨p2, q2⟩ := h2
      exact hi ((List.getElem_inj r.nd).mp (q1.trans q2.symm))
    cases o with
    | lst us => obtain ⟨xs, q1, q2⟩ := e2; exact ⟨xs, by rw [upd_ne hne]; exact q1, q2.grow r g⟩
    | dct _ _ => exact e2.elim
    | ins _ _ => exact e2.elim
/-- an object beside the map -/
theorem RelH.side (r : RelH A m h H) {p : Addr} {o : HO} (hp : H p = none) : RelH A m h (upd H p o) ∧ Grow m H m (upd H p o) := by
  have pm : p ∉ m := r.free hp
  have g : Grow m H m (upd H p o) := ⟨⟨[], by simp, fun a h => by simp at h⟩, fun b u e hb => by rw [upd_ne (by intro z; rw [z, hp] at e; cases e)]; exact e⟩
  refine ⟨⟨r.len, r.nd, fun n o e => ?_⟩, g⟩
  obtain ⟨a, e1, e2⟩ := r.ob n o e
  have hne : a ≠ p := fun z => pm (z ▸ List.mem_of_getElem? e1)
  refine ⟨a, e1, ?_⟩
  cases o with
  | lst us => obtain ⟨xs, q1, q2⟩ := e2; exact ⟨xs, by rw [upd_ne hne]; exact q1, q2.grow r g⟩
  | dct _ _ => exact e2.elim
  | ins _ _ => exact e2.elim
end
end Wm
end

section
set_option Elab.async false
set_option linter.all false
set_option maxRecDepth 100000
set_option maxHeartbeats 4000000
set_option autoImplicit false
/-! The own language's runs as readings. -/
namespace Wm
open PySem PySem.Spec PyProof.Rows L2

/-- an exception's own dict -/
inductive RepF (A : At) (m : List Addr) (H : Hp) : List (Str × W) → List (Str × V) → Prop
  | nil : RepF A m H [] []
  | cons {x : Str} {w : W} {v : V} {fs : List (Str × W)} {gs : List (Str × V)} : Rep A m H w v → RepF A m H fs gs → RepF A m H ((x, w) :: fs) ((x, v) :: gs)
theorem RepF.grow {A : At} {m m' : List Addr} {h : OH} {H H' : Hp} (r : RelH A m h H) (g : Grow m H m' H') : ∀ {fs : List (Str × W)} {gs : List (Str × V)}, RepF A m H fs gs → RepF A m' H' fs gs
  | _, _, .nil => .nil
  | _, _, .cons a b => .cons (a.grow r g) (RepF.grow r g b)
def ExcRel (A : At) (m : List Addr) (H : Hp) (fs : List (Str × W)) (d : Option Addr) : Prop :=
  (fs = [] ∧ d = none) ∨ ∃ (dd : Addr) (gs : List (Str × V)), d = some dd ∧ H dd = some (.xd gs) ∧ RepF A m H fs gs

/-- a relation of own values and the layer's, that lasts -/
structure Rl (A : At) (α β : Type) where
  r : List Addr → Hp → α → β → Prop
  grow : ∀ {m m' : List Addr} {h : OH} {H H' : Hp} {a : α} {b : β}, RelH A m h H → Grow m H m' H' → r m H a b → r m' H' a b
section
variable (A : At)
def rW : Rl A W V := ⟨fun m H => Rep A m H, fun r g q => q.grow r g⟩
def rWs : Rl A (List W) (List V) := ⟨fun m H => Reps A m H, fun r g q => q.grow r g⟩
def rE (α : Type) : Rl A α α := ⟨fun _ _ a b => a = b, fun _ _ q => q⟩
def rNo : Rl A Unit Unit := ⟨fun _ _ _ _ => True, fun _ _ q => q⟩
def rP {α β γ δ : Type} (a : Rl A α β) (b : Rl A γ δ) : Rl A (α × γ) (β × δ) := ⟨fun m H x y => a.r m H x.1 y.1 ∧ b.r m H x.2 y.2, fun r g q => ⟨a.grow r g q.1, b.grow r g q.2⟩⟩
end
section
variable {A : At} (ew : XK)
/-- what a run's end asks -/
def Post {α β : Type} (rl : Rl A α β) (m : List Addr) (H : Hp) (r : R α) (Q : β → Hp → Prop) : Prop := match r with
  | .ok a h' => ∀ (m' : List Addr) (b : β) (H' : Hp), Grow m H m' H' → RelH A m' h' H' → rl.r m' H' a b → Q b H'
  | .exc c fs h' => ∀ (m' : List Addr) (d : Option Addr) (H' : Hp), Grow m H m' H' → RelH A m' h' H' → ExcRel A m' H' fs d → ew (.ref (A.ca c)) d H'
  | .no => False
/-- a run behind what has been reckoned (a, as b) -/
def tA {α β γ δ : Type} (ρ : Rl A α β) (rl : Rl A γ δ) (g : α → Sl → OH → R γ) (b : β) : L2.St → Hp → (δ → Hp → Prop) → Prop := fun σ H Q =>
  ∃ (m : List Addr) (h : OH) (s : Sl) (a : α), RelH A m h H ∧ RelS A m H s σ ∧ ρ.r m H a b ∧ Post ew rl m H (g a s h) Q
/-- a run -/
def tG {γ δ : Type} (rl : Rl A γ δ) (g : Sl → OH → R γ) : L2.St → Hp → (δ → Hp → Prop) → Prop := tA ew (rNo A) rl (fun _ => g) ()
variable {ew}
theorem Post.from {α β : Type} {rl : Rl A α β} {m m' : List Addr} {H H' : Hp} {r : R α} {Q : β → Hp → Prop} (g : Grow m H m' H') (p : Post ew rl m H r Q) : Post ew rl m' H' r Q := by
  cases r with
  | ok a h' => exact fun m2 b H2 g2 r2 q2 => p m2 b H2 (g.trans g2) r2 q2
  | exc c fs h' => exact fun m2 b H2 g2 r2 q2 => p m2 b H2 (g.trans g2) r2 q2
  | no => exact p
/-- one step, then the rest -/
theorem tA.step {α β γ δ ε ζ : Type} {ρ : Rl A α β} {rl : Rl A γ δ} {r1 : Rl A ε ζ} {c : α → Sl → OH → R ε} {g : α × ε → Sl → OH → R γ} {b : β} {σ : L2.St} {H : Hp} {Q : δ → Hp → Prop}
    (t : tA ew ρ rl (fun a s h => (c a s h).bind fun x h1 => g (a, x) s h1) b σ H Q) : tA ew ρ r1 c b σ H (fun y H1 => tA ew (rP A ρ r1) rl g (b, y) σ H1 Q) := by
  obtain ⟨m, h, s, a, rh, rs, ra, p⟩ := t
  refine ⟨m, h, s, a, rh, rs, ra, ?_⟩
  have p2 : Post ew rl m H ((c a s h).bind fun x h1 => g (a, x) s h1) Q := p
  revert p2
  cases c a s h with
  | ok x h1 => exact fun p m' y H' g' r' q => ⟨m', h1, s, (a, x), r', rs.grow rh g', ⟨ρ.grow rh g' ra, q⟩, Post.from g' p⟩
  | exc c fs h1 => exact fun p => p
  | no => exact fun p => p
/-- a run that does not look at what has been reckoned -/
theorem tA.forget {α β γ δ : Type} {ρ : Rl A α β} {rl : Rl A γ δ} {g : Sl → OH → R γ} {b : β} {σ : L2.St} {H : Hp} {Q : δ → Hp → Prop} (t : tA ew ρ rl (fun _ => g) b σ H Q) : tG ew rl g σ H Q := by
  obtain ⟨m, h, s, a, rh, rs, ra, p⟩ := t
  exact ⟨m, h, s, (), rh, rs, trivial, p⟩
theorem tA.imp {α β γ δ : Type} {ρ : Rl A α β} {rl : Rl A γ δ} {g g' : α → Sl → OH → R γ} {b : β} {σ : L2.St} {H : Hp} {Q : δ → Hp → Prop} (t : tA ew ρ rl g b σ H Q) (e : ∀ a s h, g a s h = g' a s h) : tA ew ρ rl g' b σ H Q := by
  obtain ⟨m, h, s, a, rh, rs, ra, p⟩ := t
  exact ⟨m, h, s, a, rh, rs, ra, by rw [← e]; exact p⟩
/-- a value is there -/
theorem Post.ok {α β : Type} {rl : Rl A α β} {m m' : List Addr} {H H' : Hp} {a : α} {b : β} {h' : OH} {Q : β → Hp → Prop} (p : Post ew rl m H (.ok a h') Q) (g : Grow m H m' H') (r : RelH A m' h' H') (q : rl.r m' H' a b) : Q b H' := p m' b H' g r q
end

theorem PE.weak {X : Cx} {e : Expr} {t t' : TE} (h : PE X e t) (i : ∀ σ H Q, t' σ H Q → t σ H Q) : PE X e t' := ⟨fun pins s σ H Q I q => h.run pins s σ H Q I (i σ H Q q)⟩
theorem PT.weak {X : Cx} {e : Expr} {t t' : TT} (h : PT X e t) (i : ∀ σ H Q, t' σ H Q → t σ H Q) : PT X e t' := ⟨fun pins s σ H Q I q => h.run pins s σ H Q I (i σ H Q q)⟩
theorem PA.weak {X : Cx} {es : List Expr} {t t' : TA} (h : PA X es t) (i : ∀ σ H Q, t' σ H Q → t σ H Q) : PA X es t' := ⟨fun pos pins s σ H Q I q => h.run pos pins s σ H Q I (i σ H Q q)⟩
theorem PS.weak {X : Cx} {st : Stmt} {t t' : TS} (h : PS X st t) (i : ∀ D σ H, t' D σ H → t D σ H) : PS X st t' := ⟨fun pins s σ H D I q => h.run pins s σ H D I (i D σ H q)⟩
theorem PSs.weak {X : Cx} {st : List Stmt} {t t' : TS} (h : PSs X st t) (i : ∀ D σ H, t' D σ H → t D σ H) : PSs X st t' := ⟨fun pins s σ H D I q => h.run pins s σ H D I (i D σ H q)⟩
theorem PI.weak {X : Cx} {tg e : Expr} {t t' : TI} (h : PI X tg e t) (i : ∀ σ H Q, t' σ H Q → t σ H Q) : PI X tg e t' := ⟨fun pins s σ H Q I q => h.run pins s σ H Q I (i σ H Q q)⟩
end Wm
end

section
set_option Elab.async false
set_option linter.all false
set_option maxRecDepth 100000
set_option maxHeartbeats 4000000
set_option autoImplicit false
/-! Each operation of the own language is one of the machine's. -/
namespace Wm
open PySem PySem.Spec PyProof.Rows L2

theorem line_le {n : Nat} (h : Nat.ble n line = true) : n < sizeLine := Nat.lt_of_le_of_lt (Nat.le_of_ble_eq_true h) (by decide)
section
variable {A : At} {X : Cx} {ew : XK}
/-- what the frame's context gives -/
structure Calm (A : At) (X : Cx) : Prop where
  K : X.K = A.K
  calm : X.calm = true
  un : X.A.units + 65 < cLine
  grd : X.A.guards = some []

variable (A) (ew)
/-- an operation of two values, as a reading -/
def o2 (f : W → W → OH → R W) : R2 := fun v u H Q => ∃ (m : List Addr) (h : OH) (x y : W), RelH A m h H ∧ Rep A m H x v ∧ Rep A m H y u ∧ Post ew (rW A) m H (f x y h) Q
variable {A} {ew}
theorem tA.o2 {α β : Type} {ρ : Rl A α β} {f : W → W → OH → R W} {p : α × W × W} {b : β} {v u : V} {σ : L2.St} {H : Hp} {Q : VK}
    (t : tA ew (rP A (rP A ρ (rW A)) (rW A)) (rW A) (fun a _ h => f a.1.2 a.2 h) ((b, v), u) σ H Q) : o2 A ew f v u H Q := by
  obtain ⟨m, h, s, a, rh, rs, ⟨⟨_, r1⟩, r2⟩, p⟩ := t
  exact ⟨m, h, a.1.2, a.2, rh, r1, r2, p⟩

theorem rep_tup {m : List Addr} {H : Hp} {ws : List W} {v : V} (r : Rep A m H (.tup ws) v) : ∃ a vs, v = .ref a ∧ SqT A.K H a vs ∧ Reps A m H ws vs := by
  cases r with
  | tup q k => exact ⟨_, _, rfl, q, k⟩
theorem rep_ref {m : List Addr} {H : Hp} {n : Nat} {v : V} (r : Rep A m H (.ref n) v) : ∃ a, v = .ref a ∧ m[n]? = some a := by
  cases r with
  | ref e => exact ⟨_, rfl, e⟩
theorem reps_nil {m : List Addr} {H : Hp} {vs : List V} (r : Reps A m H [] vs) : vs = [] := by cases r; rfl
theorem reps_cons {m : List Addr} {H : Hp} {w : W} {ws : List W} {vs : List V} (r : Reps A m H (w :: ws) vs) : ∃ v us, vs = v :: us ∧ Rep A m H w v ∧ Reps A m H ws us := by
  cases r with
  | cons a b => exact ⟨_, _, rfl, a, b⟩
/-- a value that leaves the heap as it is -/
theorem Post.now {m : List Addr} {H : Hp} {w : W} {v : V} {h : OH} {Q : VK} (p : Post ew (rW A) m H (.ok w h) Q) (rh : RelH A m h H) (r : Rep A m H w v) : Q v H := p m v H (Grow.refl m H) rh r
/-- a new tuple -/
theorem Post.tup {m : List Addr} {H : Hp} {ws : List W} {vs : List V} {h : OH} {Q : VK} (p : Post ew (rW A) m H (.ok (.tup ws) h) Q) (rh : RelH A m h H) (r : Reps A m H ws vs) : ∀ q, H q = none → Q (.ref q) (upd H q (.tup vs)) := fun q hq => by
  obtain ⟨r2, g⟩ := rh.side (o := .tup vs) hq
  exact p m (.ref q) _ g r2 (.tup (SqT.of upd_same) (r.grow rh g))
/-- a new list -/
theorem Post.lst {m : List Addr} {H : Hp} {ws : List W} {vs : List V} {h : OH} {Q : VK} (p : Post ew (rW A) m H (alloc (.lst ws) h) Q) (rh : RelH A m h H) (r : Reps A m H ws vs) : ∀ q, H q = none → Q (.ref q) (upd H q (.lst vs)) := fun q hq => by
  obtain ⟨r2, g⟩ := rh.new hq r
  exact p (m ++ [q]) (.ref q) _ g r2 (.ref (by rw [← rh.len]; simp))
/-- a list changed -/
theorem Post.put {m : List Addr} {H : Hp} {w : W} {v : V} {ws us : List W} {vs : List V} {h : OH} {Q : VK} {n : Nat} {a : Addr} (p : Post ew (rW A) m H (.ok w (h.set n (.lst ws))) Q) (rh : RelH A m h H) (ha : m[n]? = some a) (e0 : lstAt h n = some us) (r : Reps A m H ws vs)
    (rv : Rep A m H w v) : Q v (upd H a (.lst vs)) := by
  obtain ⟨r2, g⟩ := rh.put ha e0 r
  exact p m v _ g r2 (rv.grow rh g)

theorem mulOk_ok {i j : Int} (h : mulOk i j = true) : CMul i j ∨ CMulW i j := by
  unfold mulOk at h
  simp only [Bool.or_eq_true, decide_eq_true_eq] at h
  rcases h with (h | h) | h
  · exact .inl (.inl (by omega))
  · exact .inl (.inr (by omega))
  · exact .inr h
theorem bin_ok (C : Calm A X) (op : Operator) (o : Bop) (e : (match o with | .add => Operator.Add | .sub => .Sub | .mul => .Mult | .fdiv => .FloorDiv | .mod => .Mod | .pow => .Pow) = op) : OpR X (binaryOp op) (o2 A ew (binW o)) := by
  subst e
  intro pins s σ H x y v u Q I rx ry q
  obtain ⟨m, h, wx, wy, rh, r1, r2, p⟩ := q
  unfold binW at p
  split at p
  · cases r1; cases r2; exact op_add pins s σ H _ _ _ _ Q I rx ry ⟨_, _, rfl, rfl, p.now rh (.int _)⟩
  · cases r1; cases r2; exact op_sub pins s σ H _ _ _ _ Q I rx ry ⟨_, _, rfl, rfl, p.now rh (.int _)⟩
  · split at p
    · rename_i hm
      cases r1; cases r2
      rcases mulOk_ok hm with c | c
      · exact op_mul pins s σ H _ _ _ _ Q I rx ry ⟨_, _, rfl, rfl, c, p.now rh (.int _)⟩
      · exact op_mulW pins s σ H _ _ _ _ Q I rx ry ⟨_, _, rfl, rfl, c, p.now rh (.int _)⟩
    · exact p.elim
  · split at p
    · rename_i hm
      cases r1; cases r2
      exact op_mod pins s σ H _ _ _ _ Q I rx ry ⟨_, _, rfl, rfl, hm, p.now rh (.int _)⟩
    · exact p.elim
  · split at p
    · rename_i hm
      cases r1; cases r2
      exact op_fdivW pins s σ H _ _ _ _ Q I rx ry ⟨_, _, rfl, rfl, hm, p.now rh (.int _)⟩
    · exact p.elim
  · split at p
    · rename_i hm
      cases r1; cases r2
      exact op_pow pins s σ H _ _ _ _ Q I rx ry ⟨_, _, rfl, rfl, hm, p.now rh (.int _)⟩
    · exact p.elim
  · split at p
    · rename_i hm
      cases r1; cases r2
      exact op_add_str pins s σ H _ _ _ _ Q I rx ry ⟨_, _, rfl, rfl, Nat.le_of_lt (line_le hm), p.now rh (.str _)⟩
    · exact p.elim
  · split at p
    · rename_i a b hm
      obtain ⟨pa, vs, rfl, q1, k1⟩ := rep_tup r1
      obtain ⟨pb, us, rfl, q2, k2⟩ := rep_tup r2
      have hl := line_le hm
      rw [k1.length, k2.length] at hl
      refine op_catA pins s σ H _ _ _ _ Q I rx ry ⟨_, _, vs, us, rfl, rfl, by rw [C.K]; exact q1, by rw [C.K]; exact q2, Nat.le_of_lt hl, fun e => ?_, fun _ e => ?_, fun _ _ => p.tup rh (k1.append k2)⟩
      · subst e
        have e2 : a = [] := by have := k1.length; simpa using this
        subst e2
        exact p.now rh r2
      · subst e
        have e2 : b = [] := by have := k2.length; simpa using this
        subst e2
        rw [List.append_nil] at p
        exact p.now rh r1
    · exact p.elim
  · split at p
    · rename_i m1 n1 _ a b e1 e2
      split at p
      · rename_i hm
        obtain ⟨pa, rfl, i1⟩ := rep_ref r1
        obtain ⟨pb, rfl, i2⟩ := rep_ref r2
        obtain ⟨vs, q1, k1⟩ := rh.lst e1 i1
        obtain ⟨us, q2, k2⟩ := rh.lst e2 i2
        have hl := line_le hm
        rw [k1.length, k2.length] at hl
        exact op_cat pins s σ H _ _ _ _ Q I rx ry ⟨_, _, vs, us, rfl, rfl, q1, q2, Nat.le_of_lt hl, p.lst rh (k1.append k2)⟩
      · exact p.elim
    · exact p.elim
  · split at p
    · rename_i a k _ hm
      obtain ⟨pa, vs, rfl, q1, k1⟩ := rep_tup r1
      cases r2
      refine op_repT pins s σ H _ _ _ _ Q I rx ry ⟨_, _, vs, rfl, rfl, by rw [C.K]; exact q1, fun e => ?_, hm.1, hm.2.1, by rw [← k1.length]; exact hm.2.2.2, p.tup rh (k1.rep _)⟩
      subst e
      exact hm.2.2.1 (by have := k1.length; simpa using this)
    · exact p.elim
  · split at p
    · rename_i m1 k _ a e1
      split at p
      · rename_i hm
        obtain ⟨pa, rfl, i1⟩ := rep_ref r1
        obtain ⟨vs, q1, k1⟩ := rh.lst e1 i1
        cases r2
        refine op_rep pins s σ H _ _ _ _ Q I rx ry ⟨_, _, vs, rfl, rfl, q1, hm.1, hm.2.1, ?_, p.lst rh (k1.rep _)⟩
        rw [← k1.length]
        exact Nat.le_trans hm.2.2 (by decide)
      · exact p.elim
    · exact p.elim
  · exact p.elim
end
end Wm
end

section
set_option Elab.async false
set_option linter.all false
set_option maxRecDepth 100000
set_option maxHeartbeats 4000000
set_option autoImplicit false
namespace Wm
open PySem PySem.Spec PyProof.Rows L2
section
variable {A : At} {X : Cx} {ew : XK} {m : List Addr} {h : OH} {H : Hp}
/-- what own data are -/
def IsD (K : PySem.W.Frag) (H : Hp) (n : Nat) (v : V) (d : PyData) : Prop := Dp K H v d ∧ d.canLay0 = true ∧ d.depth ≤ n
theorem isDs {f : W → Option PyData} {n : Nat} (ih : ∀ (w : W) (d : PyData) (v : V), f w = some d → Rep A m H w v → IsD A.K H n v d) :
    ∀ (ws : List W) (ds : List PyData) (vs : List V), toDl f ws = some ds → Reps A m H ws vs → DpAll A.K H vs ds ∧ PyData.canLayAll0 ds = true ∧ PyData.depthAll ds ≤ n
  | [], ds, vs, e, r => by
    cases r
    simp only [toDl, Option.some.injEq] at e
    subst e
    exact ⟨.nil, by simp [PyData.canLayAll0], by simp [PyData.depthAll]⟩
  | w :: ws, ds, vs, e, r => by
    obtain ⟨v, us, rfl, r1, r2⟩ := reps_cons r
    unfold toDl at e
    split at e
    · rename_i d ds' e1 e2
      cases e
      obtain ⟨a1, a2, a3⟩ := ih w d v e1 r1
      obtain ⟨b1, b2, b3⟩ := isDs ih ws ds' us e2 r2
      exact ⟨.cons a1 b1, by simp [PyData.canLayAll0, a2, b2], by simp only [PyData.depthAll]; omega⟩
    · cases e
theorem toD_ok (rh : RelH A m h H) : ∀ (n : Nat) (w : W) (d : PyData) (v : V), toD h n w = some d → Rep A m H w v → IsD A.K H n v d := by
  intro n
  induction n with
  | zero =>
    intro w d v e r
    unfold toD at e
    split at e
    · cases e; cases r; exact ⟨.non, by simp [PyData.canLay0], by simp [PyData.depth]⟩
    · cases e; cases r; exact ⟨.bl _, by simp [PyData.canLay0], by simp [PyData.depth]⟩
    · cases e; cases r; exact ⟨.int _, by simp [PyData.canLay0], by simp [PyData.depth]⟩
    · split at e
      · rename_i ho
        cases e; cases r; exact ⟨.str _, by simp [PyData.canLay0, ho], by simp [PyData.depth]⟩
      · cases e
    · cases e
  | succ n ih =>
    intro w d v e r
    unfold toD at e
    split at e
    · cases e; cases r; exact ⟨.non, by simp [PyData.canLay0], by simp [PyData.depth]⟩
    · cases e; cases r; exact ⟨.bl _, by simp [PyData.canLay0], by simp [PyData.depth]⟩
    · cases e; cases r; exact ⟨.int _, by simp [PyData.canLay0], by simp [PyData.depth]⟩
    · split at e
      · rename_i ho
        cases e; cases r; exact ⟨.str _, by simp [PyData.canLay0, ho], by simp [PyData.depth]⟩
      · cases e
    · rename_i ws
      obtain ⟨ds, e1, rfl⟩ := Option.map_eq_some_iff.mp e
      obtain ⟨a, vs, rfl, q, k⟩ := rep_tup r
      obtain ⟨b1, b2, b3⟩ := isDs ih ws ds vs e1 k
      exact ⟨.tup q b1, by simp [PyData.canLay0, b2], by simp only [PyData.depth]; omega⟩
    · rename_i r0
      split at e
      · rename_i ws e0
        obtain ⟨ds, e1, rfl⟩ := Option.map_eq_some_iff.mp e
        obtain ⟨a, rfl, ia⟩ := rep_ref r
        obtain ⟨vs, q, k⟩ := rh.its e0 ia
        obtain ⟨b1, b2, b3⟩ := isDs ih ws ds vs e1 k
        exact ⟨.lst q b1, by simp [PyData.canLay0, b2], by simp only [PyData.depth]; omega⟩
      · cases e
    · cases e
theorem IsD.shaped {n : Nat} {v : V} {d : PyData} (i : IsD A.K H n v d) (hn : n ≤ 64) : SeqAt.shaped d = true := by
  unfold SeqAt.shaped
  rw [i.2.1, Bool.true_and, decide_eq_true_eq]
  exact Nat.le_trans i.2.2 hn
theorem bl_inj {a b : Bool} (h : V.bl a = V.bl b) : a = b := by injection h
/-- == and != -/
theorem eq_ok (C : Calm A X) (neg : Bool) : OpR X (compareOp (if neg = true then .NotEq else .Eq)) (o2 A ew fun x y h => bR ((eqW h x y).map fun b => if neg = true then !b else b) h) := by
  intro pins s σ H x y v u Q I rx ry q
  obtain ⟨m, h, wx, wy, rh, r1, r2, p0⟩ := q
  have sc : ∀ (b : Bool), L2.scal x y = true → b = decide (x = y) → Q (.bl (if neg = true then !b else b)) H → wpAny (model X.prog X.w) X.A (compareOp (if neg = true then .NotEq else .Eq) v u) (EP X pins σ Q) X.xe s := by
    intro b h1 h2 h3
    cases neg with
    | true => exact op_ne pins s σ H _ _ _ _ Q I rx ry ⟨h1, by rw [← h2]; exact h3⟩
    | false => exact op_eq pins s σ H _ _ _ _ Q I rx ry ⟨h1, by rw [← h2]; exact h3⟩
  have p : Post ew (rW A) m H (bR ((eqW h wx wy).map fun b => if neg = true then !b else b) h) Q := p0
  clear p0
  have fin : ∀ b, eqW h wx wy = some b → Q (.bl (if neg = true then !b else b)) H := fun b e => by
    rw [e] at p
    exact p.now rh (.bl _)
  have some_ : ∃ b, eqW h wx wy = some b := by
    cases e : eqW h wx wy with
    | some b => exact ⟨b, rfl⟩
    | none => rw [e] at p; exact p.elim
  obtain ⟨b, e0⟩ := some_
  have hq := fin b e0
  clear fin p
  unfold eqW at e0
  split at e0
  · rename_i i j
    cases e0
    cases r1; cases r2
    refine sc _ rfl ?_ hq
    by_cases e : i = j
    · subst e; simp
    · simp [e]
  · rename_i i j
    cases e0
    cases r1; cases r2
    refine sc _ rfl ?_ hq
    by_cases e : i = j
    · subst e; simp
    · simp [e]
  · rename_i i j
    cases e0
    cases r1; cases r2
    refine sc _ rfl ?_ hq
    cases i <;> cases j <;> rfl
  · cases e0
    cases r1; cases r2
    exact sc true rfl rfl hq
  · split at e0
    · rename_i d e e1 e2
      cases e0
      have i1 := toD_ok rh _ _ _ _ e1 r1
      have i2 := toD_ok rh _ _ _ _ e2 r2
      cases neg with
      | true => exact op_neD (by have := C.un; omega) pins s σ H _ _ _ _ Q I rx ry ⟨d, e, by rw [C.K]; exact i1.1, by rw [C.K]; exact i2.1, i1.shaped (by decide), i2.shaped (by decide), hq⟩
      | false => exact op_eqD (by have := C.un; omega) pins s σ H _ _ _ _ Q I rx ry ⟨d, e, by rw [C.K]; exact i1.1, by rw [C.K]; exact i2.1, i1.shaped (by decide), i2.shaped (by decide), hq⟩
    · cases e0
end
end Wm
end

section
set_option Elab.async false
set_option linter.all false
set_option maxRecDepth 100000
set_option maxHeartbeats 4000000
set_option autoImplicit false
namespace Wm
open PySem PySem.Spec PyProof.Rows L2
section
variable {A : At} {X : Cx} {ew : XK} {m : List Addr} {h : OH} {H : Hp}
theorem flat_rep {w : W} {v : V} (f : flat w = true) (r : Rep A m H w v) : flatV v = true := by
  cases r <;> first | rfl | cases f
theorem flats_rep : ∀ {ws : List W} {vs : List V}, ws.all flat = true → Reps A m H ws vs → vs.all flatV = true
  | [], _, _, r => by cases r; rfl
  | w :: ws, _, f, r => by
    obtain ⟨v, us, rfl, r1, r2⟩ := reps_cons r
    rw [List.all_cons, Bool.and_eq_true] at f ⊢
    exact ⟨flat_rep f.1 r1, flats_rep f.2 r2⟩
theorem eqF_rep {w z : W} {v u : V} (f : flat w = true) (g : flat z = true) (r : Rep A m H w v) (k : Rep A m H z u) : eqF z w = eqV u v := by
  cases r <;> cases k <;> first
    | (refine False.elim (Bool.noConfusion (show false = true from f)); done)
    | (refine False.elim (Bool.noConfusion (show false = true from g)); done)
    | rfl
    | (simp only [eqF, eqV]; apply Bool.eq_iff_iff.mpr; simp)
theorem inF_rep {w : W} {v : V} (f : flat w = true) (r : Rep A m H w v) : ∀ {ws : List W} {vs : List V}, ws.all flat = true → Reps A m H ws vs → (ws.any fun z => eqF z w) = inV v vs
  | [], _, _, k => by cases k; rfl
  | z :: ws, _, g, k => by
    obtain ⟨u, us, rfl, r1, r2⟩ := reps_cons k
    rw [List.all_cons, Bool.and_eq_true] at g
    have ih := inF_rep f r g.2 r2
    unfold inV at ih ⊢
    rw [List.any_cons, List.any_cons, eqF_rep f g.1 r r1, ih]
theorem seq_rep (rh : RelH A m h H) {w : W} {v : V} {ws : List W} (e : seqOf h w = some ws) (r : Rep A m H w v) : ∃ a vs, v = .ref a ∧ (SqL A.K H a vs ∨ SqT A.K H a vs) ∧ Reps A m H ws vs ∧ (∀ n, w = .ref n → SqL A.K H a vs) ∧ (∀ us, w = .tup us → SqT A.K H a vs) := by
  unfold seqOf at e
  split at e
  · cases e
    obtain ⟨a, vs, rfl, q, k⟩ := rep_tup r
    exact ⟨a, vs, rfl, .inr q, k, nofun, fun _ _ => q⟩
  · obtain ⟨a, rfl, ia⟩ := rep_ref r
    obtain ⟨vs, q, k⟩ := rh.its e ia
    exact ⟨a, vs, rfl, .inl q, k, fun _ _ => q, nofun⟩
  · cases e
theorem in_ok (C : Calm A X) (neg : Bool) : OpR X (compareOp (if neg = true then .NotIn else .In)) (o2 A ew fun x y h => bR ((inW h x y).map fun b => if neg = true then !b else b) h) := by
  intro pins s σ H x y v u Q I rx ry q
  obtain ⟨m, h, wx, wy, rh, r1, r2, p0⟩ := q
  have p : Post ew (rW A) m H (bR ((inW h wx wy).map fun b => if neg = true then !b else b) h) Q := p0
  clear p0
  have fin : ∀ b, inW h wx wy = some b → Q (.bl (if neg = true then !b else b)) H := fun b e => by
    rw [e] at p
    exact p.now rh (.bl _)
  have some_ : ∃ b, inW h wx wy = some b := by
    cases e : inW h wx wy with
    | some b => exact ⟨b, rfl⟩
    | none => rw [e] at p; exact p.elim
  obtain ⟨b, e0⟩ := some_
  have hq := fin b e0
  clear fin p
  unfold inW at e0
  split at e0
  · rename_i ws e1
    split at e0
    · rename_i hf
      rw [Bool.and_eq_true] at hf
      cases e0
      obtain ⟨a, vs, rfl, q, k, _, _⟩ := seq_rep rh e1 r2
      have hi := inF_rep hf.1 r1 hf.2 k
      rw [hi] at hq
      cases neg with
      | true => exact op_notIn_seq pins s σ H _ _ _ _ Q I rx ry ⟨a, vs, rfl, by rw [C.K]; exact q, flat_rep hf.1 r1, flats_rep hf.2 k, hq⟩
      | false => exact op_in_seq pins s σ H _ _ _ _ Q I rx ry ⟨a, vs, rfl, by rw [C.K]; exact q, flat_rep hf.1 r1, flats_rep hf.2 k, hq⟩
    · split at e0
      · rename_i d ds e2 e3
        cases e0
        obtain ⟨a, vs, rfl, q, k, ql, qt⟩ := seq_rep rh e1 r2
        have i1 := toD_ok rh _ _ _ _ e2 r1
        obtain ⟨b1, b2, b3⟩ := isDs (toD_ok rh 59) ws ds vs e3 k
        have sd := i1.shaped (by decide : 60 ≤ 64)
        have un := C.un
        cases wy with
        | ref n =>
          have sl : SeqAt.shaped (.list ds) = true := by
            unfold SeqAt.shaped
            rw [Bool.and_eq_true, decide_eq_true_eq]
            exact ⟨by simp [PyData.canLay0, b2], by simp only [PyData.depth]; omega⟩
          have hl : Dp A.K H (.ref a) (.list ds) := .lst (ql n rfl) b1
          cases neg with
          | true => exact op_notInD un pins s σ H _ _ _ _ Q I rx ry ⟨d, ds, by rw [C.K]; exact i1.1, by rw [C.K]; exact hl, sd, sl, hq⟩
          | false => exact op_inD un pins s σ H _ _ _ _ Q I rx ry ⟨d, ds, by rw [C.K]; exact i1.1, by rw [C.K]; exact hl, sd, sl, hq⟩
        | tup us =>
          have hl : Dp X.K H (.ref a) (.tuple ds) := .tup (by rw [C.K]; exact qt us rfl) (by rw [C.K]; exact b1)
          have hd : Dp X.K H x d := by rw [C.K]; exact i1.1
          obtain ⟨as, q1⟩ := Dp.reads I d x v hd rx
          obtain ⟨bs, q2⟩ := Dp.reads I (.tuple ds) _ u hl ry
          cases neg with
          | true => exact SeqAt.notIn_tuple_reads q2 q1 b2 i1.2.1 (room_in_shaped sd un) ⟨.bl _, H, I, rfl, hq⟩
          | false => exact SeqAt.in_tuple_reads q2 q1 b2 i1.2.1 (room_in_shaped sd un) ⟨.bl _, H, I, rfl, hq⟩
        | _ => cases e1
      · cases e0
  · split at e0
    · rename_i n _
      split at e0
      · rename_i _ e2
        obtain ⟨a, _, z⟩ := rh.ob n _ e2
        exact z.elim
      · cases e0
    · cases e0
end
end Wm
end

section
set_option Elab.async false
set_option linter.all false
set_option maxRecDepth 100000
set_option maxHeartbeats 4000000
set_option autoImplicit false
namespace Wm
open PySem PySem.Spec PyProof.Rows L2
section
variable {A : At} {X : Cx} {ew : XK} {m : List Addr} {h : OH} {H : Hp}
theorem intsW_eq : ∀ {ws : List W} {ns : List Int}, intsW ws = some ns → ws = ns.map .int
  | [], ns, e => by cases e; rfl
  | w :: ws, ns, e => by
    cases w with
    | int i =>
      obtain ⟨l, e1, e2⟩ := Option.map_eq_some_iff.mp (show (intsW ws).map (fun l => i :: l) = some ns from e)
      rw [← e2, intsW_eq e1]
      rfl
    | _ => cases e
theorem lexI_eq : ∀ ns ms : List Int, lexI ns ms = HT.lexLt ns ms
  | [], [] => rfl
  | [], _ :: _ => rfl
  | _ :: _, [] => rfl
  | x :: xs, y :: ys => by rw [HT.lexLt_cons, ← lexI_eq xs ys]; rfl
theorem lexW_ints (ws us : List W) (b : Bool) (e : lexW ws us = some b) : ∃ ns ms : List Int, ws = ns.map .int ∧ us = ms.map .int ∧ b = HT.lexLt ns ms := by
  unfold lexW at e
  split at e
  · rename_i ns ms e1 e2
    cases e
    exact ⟨ns, ms, intsW_eq e1, intsW_eq e2, lexI_eq ns ms⟩
  · cases e
theorem reps_ints : ∀ {ns : List Int} {vs : List V}, Reps A m H (ns.map .int) vs → vs = ns.map V.int
  | [], _, r => reps_nil r
  | i :: ns, _, r => by
    obtain ⟨v, us, rfl, r1, r2⟩ := reps_cons r
    cases r1
    rw [reps_ints r2]
    rfl
def copO : Cop → CmpOp
  | .eq => .Eq | .ne => .NotEq | .lt => .Lt | .le => .LtE | .gt => .Gt | .ge => .GtE | .inn => .In | .nin => .NotIn | .is => .Is | .isn => .IsNot
theorem map_id_bool (o : Option Bool) : (o.map fun b => if false = true then !b else b) = o := by cases o <;> rfl
theorem rep_non {w : W} {v : V} (r : Rep A m H w v) : isNon w = decide (v = .non) := by cases r <;> rfl
theorem cmp_ok (C : Calm A X) (o : Cop) : OpR X (compareOp (copO o)) (o2 A ew (cmpW o)) := by
  intro pins s σ H x y v u Q I rx ry q
  cases o with
  | eq =>
    refine eq_ok (ew := ew) C false pins s σ H x y v u Q I rx ry ?_
    obtain ⟨m, h, wx, wy, rh, r1, r2, p⟩ := q
    exact ⟨m, h, wx, wy, rh, r1, r2, by show Post _ _ _ _ (bR ((eqW h wx wy).map fun b => if false = true then !b else b) h) _; rw [map_id_bool]; exact p⟩
  | ne => exact eq_ok C true pins s σ H x y v u Q I rx ry q
  | inn =>
    refine in_ok (ew := ew) C false pins s σ H x y v u Q I rx ry ?_
    obtain ⟨m, h, wx, wy, rh, r1, r2, p⟩ := q
    exact ⟨m, h, wx, wy, rh, r1, r2, by show Post _ _ _ _ (bR ((inW h wx wy).map fun b => if false = true then !b else b) h) _; rw [map_id_bool]; exact p⟩
  | nin => exact in_ok C true pins s σ H x y v u Q I rx ry q
  | is =>
    obtain ⟨m, h, wx, wy, rh, r1, r2, p⟩ := q
    cases wy with
    | non =>
      cases r2
      refine op_isN pins s σ H _ _ _ _ Q I rx ry ⟨rfl, ?_⟩
      rw [← rep_non r1]
      exact p.now rh (.bl _)
    | _ => cases wx <;> exact p.elim
  | isn =>
    obtain ⟨m, h, wx, wy, rh, r1, r2, p⟩ := q
    cases wy with
    | non =>
      cases r2
      refine op_notN pins s σ H _ _ _ _ Q I rx ry ⟨rfl, ?_⟩
      rw [← rep_non r1]
      exact p.now rh (.bl _)
    | _ => cases wx <;> exact p.elim
  | lt =>
    obtain ⟨m, h, wx, wy, rh, r1, r2, p⟩ := q
    cases wx with
    | int i =>
      cases wy with
      | int j =>
        cases r1; cases r2
        exact op_lt pins s σ H _ _ _ _ Q I rx ry ⟨_, _, rfl, rfl, p.now rh (.bl _)⟩
      | _ => exact p.elim
    | tup ws =>
      cases wy with
      | tup us =>
        have p : Post ew (rW A) m H (bR (lexW ws us) h) Q := p
        cases e : lexW ws us with
        | none => rw [e] at p; exact p.elim
        | some b =>
          rw [e] at p
          obtain ⟨ns, ms, rfl, rfl, rfl⟩ := lexW_ints _ _ _ e
          obtain ⟨pa, vs, rfl, q1, k1⟩ := rep_tup r1
          obtain ⟨pb, ys, rfl, q2, k2⟩ := rep_tup r2
          rw [reps_ints k1] at q1
          rw [reps_ints k2] at q2
          have un := C.un
          exact op_ltT (by omega) pins s σ H _ _ _ _ Q I rx ry ⟨_, _, ns, ms, rfl, rfl, by rw [C.K]; exact q1, by rw [C.K]; exact q2, p.now rh (.bl _)⟩
      | _ => exact p.elim
    | _ => cases wy <;> exact p.elim
  | le =>
    obtain ⟨m, h, wx, wy, rh, r1, r2, p⟩ := q
    cases wx <;> cases wy <;> first
      | exact p.elim
      | (cases r1; cases r2; exact op_le pins s σ H _ _ _ _ Q I rx ry ⟨_, _, rfl, rfl, p.now rh (.bl _)⟩)
  | gt =>
    obtain ⟨m, h, wx, wy, rh, r1, r2, p⟩ := q
    cases wx <;> cases wy <;> first
      | exact p.elim
      | (cases r1; cases r2; exact op_gt pins s σ H _ _ _ _ Q I rx ry ⟨_, _, rfl, rfl, p.now rh (.bl _)⟩)
  | ge =>
    obtain ⟨m, h, wx, wy, rh, r1, r2, p⟩ := q
    cases wx <;> cases wy <;> first
      | exact p.elim
      | (cases r1; cases r2; exact op_ge pins s σ H _ _ _ _ Q I rx ry ⟨_, _, rfl, rfl, p.now rh (.bl _)⟩)
/-- truth -/
theorem tru_rep (rh : RelH A m h H) {w : W} {v : V} {k : Bool} (e : truW h w = some k) (r : Rep A m H w v) : TruV A.K v H k := by
  cases r with
  | non => simp only [truW, Option.some.injEq] at e; exact e.symm
  | bl b => simp only [truW, Option.some.injEq] at e; exact e.symm
  | int i =>
    simp only [truW, Option.some.injEq] at e
    rw [← e]
    show _ = (i != 0)
    by_cases hi : i = 0 <;> simp [hi]
  | str x => cases e
  | tup q k =>
    simp only [truW, Option.some.injEq] at e
    refine .inr (.inl ⟨_, q, ?_⟩)
    rw [← e]
    have := k.length
    cases k <;> rfl
  | ref i =>
    simp only [truW] at e
    obtain ⟨ws, e1, e2⟩ := Option.map_eq_some_iff.mp e
    obtain ⟨vs, q, k⟩ := rh.its e1 i
    refine .inl ⟨vs, q, ?_⟩
    rw [← e2]
    cases k <;> rfl
  | fn _ => cases e
  | cls _ => cases e
  | rol _ _ => cases e
/-- an item -/
theorem ixN_eq (n : Nat) (i : Int) : ixN n i = L2.ixN n i := rfl
theorem ix_ok (C : Calm A X) : IxR X (o2 A ew ixW) := by
  intro value slice pins s σ H x y v u Q I rx ry q hs
  obtain ⟨m, h, wx, wy, rh, r1, r2, p⟩ := q
  cases wy with
  | int i =>
    simp only [ixW] at p
    split at p
    · rename_i ws e1
      split at p
      · rename_i j e2
        split at p
        · rename_i w e3
          obtain ⟨a, vs, rfl, q, k, _, _⟩ := seq_rep rh e1 r1
          cases r2
          obtain ⟨v', e4, r4⟩ := k.get e3
          have ha : atI vs i = some v' := by
            unfold atI
            rw [← k.length, ← ixN_eq, e2]
            exact e4
          have hq := p.now rh r4
          rcases q with q | q
          · exact ix_seq value slice pins s σ H _ _ _ _ Q I rx ry (.inl ⟨_, _, _, _, rfl, rfl, by rw [C.K]; exact q, ha, hq⟩) hs
          · exact ix_seq value slice pins s σ H _ _ _ _ Q I rx ry (.inr (.inl ⟨_, _, _, _, rfl, rfl, by rw [C.K]; exact q, ha, hq⟩)) hs
        · exact p.elim
      · exact p.elim
    · exact p.elim
  | _ => simp only [ixW] at p; exact p.elim
/-- a slice -/
def o3 (A : At) (ew : XK) (f : W → Option Int → Option Int → OH → R W) : V → Option Int → Option Int → Hp → VK → Prop := fun v lo hi H Q =>
  ∃ (m : List Addr) (h : OH) (x : W), RelH A m h H ∧ Rep A m H x v ∧ Post ew (rW A) m H (f x lo hi h) Q
theorem endOf_eq (n d : Nat) (o : Option Int) : endOf n d o = HT.sIx n d o := by cases o <;> rfl
theorem cut_rep {ws : List W} {vs : List V} (k : Reps A m H ws vs) (lo hi : Option Int) : Reps A m H (cut ws lo hi) (cutV vs lo hi) := by
  unfold cut cutV
  rw [endOf_eq, endOf_eq, k.length]
  exact (k.drop _).take _
theorem sl_ok (C : Calm A X) : SlR X (o3 A ew slW) := by
  intro pins s σ H x v vl vu lo hi sl Q I rx hs pl pu q
  obtain ⟨m, h, wx, rh, r1, p⟩ := q
  unfold slW at p
  split at p
  · rename_i ws
    obtain ⟨a, vs, rfl, q, k⟩ := rep_tup r1
    refine sl_tupA pins s σ H _ _ _ _ _ _ _ Q I rx hs pl pu ⟨a, vs, rfl, by rw [C.K]; exact q, fun e => ?_, fun _ => p.tup rh (cut_rep k lo hi)⟩
    have e1 : cut ws lo hi = ws := by
      unfold cut
      rw [endOf_eq, endOf_eq, k.length, e.1, e.2, ← k.length]
      simp
    rw [e1] at p
    exact p.now rh r1
  · split at p
    · rename_i ws e1
      obtain ⟨a, rfl, ia⟩ := rep_ref r1
      obtain ⟨vs, q, k⟩ := rh.its e1 ia
      exact sl_list pins s σ H _ _ _ _ _ _ _ Q I rx hs pl pu ⟨a, vs, rfl, by rw [C.K]; exact q, p.lst rh (cut_rep k lo hi)⟩
    · exact p.elim
  · cases r1 with
    | rol q k => exact sl_list pins s σ H _ _ _ _ _ _ _ Q I rx hs pl pu ⟨_, _, rfl, by rw [C.K]; exact q.read, p.lst rh (cut_rep k lo hi)⟩
  · exact p.elim
end
end Wm
end

section
set_option Elab.async false
set_option linter.all false
set_option maxRecDepth 100000
set_option maxHeartbeats 4000000
set_option autoImplicit false
namespace Wm
open PySem PySem.Spec PyProof.Rows L2
section
variable {A : At} {X : Cx} {ew : XK} {m : List Addr} {h : OH} {H : Hp}
mutual
theorem noDict : ∀ d : PyData, d.canLay0 = true → d.hasDict = false
  | .none, _ => by simp [PyData.hasDict]
  | .bool _, _ => by simp [PyData.hasDict]
  | .int _, _ => by simp [PyData.hasDict]
  | .str _, _ => by simp [PyData.hasDict]
  | .list xs, h => by
    simp only [PyData.hasDict]
    exact noDicts xs (by simpa [PyData.canLay0] using h)
  | .tuple xs, h => by
    simp only [PyData.hasDict]
    exact noDicts xs (by simpa [PyData.canLay0] using h)
  | .dict _, h => by simp [PyData.canLay0] at h
theorem noDicts : ∀ ds : List PyData, PyData.canLayAll0 ds = true → PyData.hasDictAll ds = false
  | [], _ => by simp [PyData.hasDictAll]
  | d :: ds, h => by
    simp only [PyData.canLayAll0, Bool.and_eq_true] at h
    simp [PyData.hasDictAll, noDict d h.1, noDicts ds h.2]
end
variable (A) (ew)
def c1 (f : List W → OH → R W) : List V → Hp → VK → Prop := fun vs H Q => ∃ (m : List Addr) (h : OH) (ws : List W), RelH A m h H ∧ Reps A m H ws vs ∧ Post ew (rW A) m H (f ws h) Q
variable {A} {ew}
theorem repr_ok (C : Calm A X) : CallR X (.builtin "repr") (c1 A ew (biW .repr)) := by
  intro pins s σ H xs us Q I r q
  obtain ⟨m, h, ws, rh, r1, p⟩ := q
  match ws, r1, p with
  | [], _, p => exact p.elim
  | _ :: _ :: _, _, p => exact p.elim
  | [x], r1, p =>
    obtain ⟨v, vs, rfl, r2, r3⟩ := reps_cons r1
    cases r3
    simp only [biW] at p
    split at p
    · rename_i d e1
      split at p
      · rename_i hs
        rw [Bool.and_eq_true] at hs
        obtain ⟨u, rfl, ru⟩ := vals1 r
        have i1 := toD_ok rh _ _ _ _ e1 r2
        have hq : Q (.str d.shown) H := p.now rh (.str _)
        have hz : d.shown.length ≤ sizeLine := Nat.le_of_lt (line_le hs.2)
        have hD : Dp X.K H v d := by rw [C.K]; exact i1.1
        cases r2 with
        | non =>
          cases e1; cases ru
          exact PySem.P.repr_of_none ⟨.str _, H, I.tok _, ⟨_, rfl⟩, hq⟩
        | bl b =>
          cases e1; cases ru
          exact PySem.P.repr_of_bool ⟨.str _, H, I.tok _, ⟨_, rfl⟩, hq⟩
        | int i =>
          cases e1
          obtain ⟨t, rfl⟩ := ru
          exact PySem.P.repr_of_int (of_decide_eq_true hs.1) ⟨.str _, H, I.tok _, ⟨_, rfl⟩, hq⟩
        | str z =>
          simp only [toD] at e1
          split at e1
          · cases e1
            obtain ⟨t, rfl⟩ := ru
            exact PySem.P.repr_of_str ⟨.str _, H, I.tok _, ⟨_, rfl⟩, hq⟩ hz
          · cases e1
        | tup q k =>
          cases ru
          obtain ⟨as, hr⟩ := Dp.reads I d _ _ hD rfl
          have un := C.un
          have dp : d.depth ≤ 60 := i1.2.2
          refine PySem.repr_of_reads' hr hs.1 (fun z => by rw [noDict d i1.2.1] at z; cases z) C.grd (by omega) (fun _ _ e => e) (fun h' u tk hk => ?_) hz
          exact ⟨.str _, H, I.kept hk, ⟨_, rfl⟩, hq⟩
        | ref i =>
          cases ru
          obtain ⟨as, hr⟩ := Dp.reads I d _ _ hD rfl
          have un := C.un
          have dp : d.depth ≤ 60 := i1.2.2
          refine PySem.repr_of_reads' hr hs.1 (fun z => by rw [noDict d i1.2.1] at z; cases z) C.grd (by omega) (fun _ _ e => e) (fun h' u tk hk => ?_) hz
          exact ⟨.str _, H, I.kept hk, ⟨_, rfl⟩, hq⟩
        | fn _ => cases e1
        | cls _ => cases e1
        | rol _ _ => cases e1
      · exact p.elim
    · exact p.elim
theorem reps1 {w : W} {vs : List V} (r : Reps A m H [w] vs) : ∃ v, vs = [v] ∧ Rep A m H w v := by
  obtain ⟨v, us, rfl, r1, r2⟩ := reps_cons r
  cases r2
  exact ⟨v, rfl, r1⟩
theorem reps2 {w z : W} {vs : List V} (r : Reps A m H [w, z] vs) : ∃ v u, vs = [v, u] ∧ Rep A m H w v ∧ Rep A m H z u := by
  obtain ⟨v, us, rfl, r1, r2⟩ := reps_cons r
  obtain ⟨u, rfl, r3⟩ := reps1 r2
  exact ⟨v, u, rfl, r1, r3⟩
theorem boolsW_eq : ∀ {ws : List W} {bs : List Bool}, boolsW ws = some bs → ws = bs.map .bl
  | [], bs, e => by cases e; rfl
  | w :: ws, bs, e => by
    cases w with
    | bl i =>
      obtain ⟨l, e1, e2⟩ := Option.map_eq_some_iff.mp (show (boolsW ws).map (fun l => i :: l) = some bs from e)
      rw [← e2, boolsW_eq e1]
      rfl
    | _ => cases e
theorem reps_bools : ∀ {bs : List Bool} {vs : List V}, Reps A m H (bs.map .bl) vs → vs = bs.map V.bl
  | [], _, r => reps_nil r
  | i :: bs, _, r => by
    obtain ⟨v, us, rfl, r1, r2⟩ := reps_cons r
    cases r1
    rw [reps_bools r2]
    rfl
theorem reps_of_ints : ∀ ns : List Int, Reps A m H (ns.map .int) (ns.map V.int)
  | [] => .nil
  | _ :: ns => .cons (.int _) (reps_of_ints ns)
/-! sorting of ints -/
theorem insI_perm (i : Int) : ∀ l : List Int, (insI i l).Perm (i :: l)
  | [] => List.Perm.refl _
  | j :: r => by
    unfold insI
    split
    · exact List.Perm.refl _
    · exact ((insI_perm i r).cons j).trans (List.Perm.swap i j r)
theorem sortI_perm : ∀ l : List Int, (sortI l).Perm l
  | [] => List.Perm.refl _
  | i :: r => (insI_perm i _).trans ((sortI_perm r).cons i)
theorem insI_sorted (i : Int) : ∀ l : List Int, l.Pairwise (· ≤ ·) → (insI i l).Pairwise (· ≤ ·)
  | [], _ => by simp [insI]
  | j :: r, h => by
    rw [List.pairwise_cons] at h
    unfold insI
    split
    · rename_i hij
      rw [List.pairwise_cons]
      refine ⟨fun x hx => ?_, List.pairwise_cons.mpr h⟩
      rcases List.mem_cons.mp hx with e | hx
      · rw [e]; exact hij
      · exact Int.le_trans hij (h.1 x hx)
    · rename_i hij
      rw [List.pairwise_cons]
      refine ⟨fun x hx => ?_, insI_sorted i r h.2⟩
      rcases List.mem_cons.mp ((insI_perm i r).mem_iff.mp hx) with e | hx
      · rw [e]; omega
      · exact h.1 x hx
theorem sortI_sorted : ∀ l : List Int, (sortI l).Pairwise (· ≤ ·)
  | [] => .nil
  | i :: r => insI_sorted i _ (sortI_sorted r)
theorem sorted_unique {l r : List Int} (p : l.Perm r) (hl : l.Pairwise (· ≤ ·)) (hr : r.Pairwise (· ≤ ·)) : l = r :=
  p.eq_of_pairwise (fun _ _ _ _ a b => Int.le_antisymm a b) hl hr
theorem maxI_ge : ∀ (l : List Int) (m : Int), m ≤ maxI l m ∧ ∀ x ∈ l, x ≤ maxI l m
  | [], m => ⟨Int.le_refl _, fun x h => by simp at h⟩
  | i :: r, m => by
    have ih := maxI_ge r (if m < i then i else m)
    unfold maxI
    refine ⟨Int.le_trans (by split <;> omega) ih.1, fun x hx => ?_⟩
    rcases List.mem_cons.mp hx with e | hx
    · rw [e]; exact Int.le_trans (by split <;> omega) ih.1
    · exact ih.2 x hx
theorem maxI_mem : ∀ (l : List Int) (m : Int), maxI l m = m ∨ maxI l m ∈ l
  | [], m => .inl rfl
  | i :: r, m => by
    unfold maxI
    rcases maxI_mem r (if m < i then i else m) with e | e
    · rw [e]
      split
      · exact .inr List.mem_cons_self
      · exact .inl rfl
    · exact .inr (List.mem_cons_of_mem _ e)
theorem minI_le : ∀ (l : List Int) (m : Int), minI l m ≤ m ∧ ∀ x ∈ l, minI l m ≤ x
  | [], m => ⟨Int.le_refl _, fun x h => by simp at h⟩
  | i :: r, m => by
    have ih := minI_le r (if i < m then i else m)
    unfold minI
    refine ⟨Int.le_trans ih.1 (by split <;> omega), fun x hx => ?_⟩
    rcases List.mem_cons.mp hx with e | hx
    · rw [e]; exact Int.le_trans ih.1 (by split <;> omega)
    · exact ih.2 x hx
theorem minI_mem : ∀ (l : List Int) (m : Int), minI l m = m ∨ minI l m ∈ l
  | [], m => .inl rfl
  | i :: r, m => by
    unfold minI
    rcases minI_mem r (if i < m then i else m) with e | e
    · rw [e]
      split
      · exact .inr List.mem_cons_self
      · exact .inl rfl
    · exact .inr (List.mem_cons_of_mem _ e)
def biV : Bi → Value
  | .len => .builtin "len" | .int => .type "int" | .abs => .builtin "abs" | .max2 => .builtin "max" | .min2 => .builtin "min" | .maxl => .builtin "max" | .minl => .builtin "min"
  | .sum => .builtin "sum" | .sorted => .builtin "sorted" | .tuple => .type "tuple" | .list => .type "list" | .repr => .builtin "repr" | .all => .builtin "all" | .any => .builtin "any"
theorem bi_ok (C : Calm A X) (b : Bi) : CallR X (biV b) (c1 A ew (biW b)) := by
  intro pins s σ H xs us Q I r q
  cases b with
  | repr => exact repr_ok C pins s σ H xs us Q I r q
  | len =>
    obtain ⟨m, h, ws, rh, r1, p⟩ := q
    match ws, r1, p with
    | [], _, p => exact p.elim
    | _ :: _ :: _, _, p => exact p.elim
    | [x], r1, p =>
      obtain ⟨v, rfl, r2⟩ := reps1 r1
      simp only [biW] at p
      split at p
      · rename_i ws e
        obtain ⟨a, vs, rfl, q, k, _, _⟩ := seq_rep rh e r2
        rw [k.length] at p
        exact call_len pins s σ H _ us Q I r ⟨_, _, rfl, by rw [C.K]; exact q.elim (fun q => .inl ⟨vs, q, rfl⟩) (fun q => .inr ⟨vs, q, rfl⟩), p.now rh (.int _)⟩
      · cases x with
        | str z =>
          cases r2
          simp only at p
          split at p
          · rename_i hz
            exact call_len pins s σ H _ us Q I r ⟨_, _, rfl, ⟨Nat.le_of_lt (line_le hz), rfl⟩, p.now rh (.int _)⟩
          · exact p.elim
        | rol ws =>
          cases r2 with
          | rol q k =>
            simp only [k.length] at p
            exact call_len pins s σ H _ us Q I r ⟨_, _, rfl, by rw [C.K]; exact .inl ⟨_, q.read, rfl⟩, p.now rh (.int _)⟩
        | _ => exact p.elim
  | int =>
    obtain ⟨m, h, ws, rh, r1, p⟩ := q
    match ws, r1, p with
    | [], _, p => exact p.elim
    | x :: _ :: _, _, p => cases x <;> exact p.elim
    | [x], r1, p =>
      obtain ⟨v, rfl, r2⟩ := reps1 r1
      cases r2 with
      | int i => exact call_int1 pins s σ H _ us Q I r (.inl ⟨_, rfl, p.now rh (.int _)⟩)
      | bl k => exact call_int1 pins s σ H _ us Q I r (.inr ⟨_, rfl, p.now rh (.int _)⟩)
      | _ => exact p.elim
  | abs =>
    obtain ⟨m, h, ws, rh, r1, p⟩ := q
    match ws, r1, p with
    | [], _, p => exact p.elim
    | x :: _ :: _, _, p => cases x <;> exact p.elim
    | [x], r1, p =>
      obtain ⟨v, rfl, r2⟩ := reps1 r1
      cases r2 with
      | int i => exact call_abs pins s σ H _ us Q I r ⟨_, rfl, p.now rh (.int _)⟩
      | _ => exact p.elim
  | max2 =>
    obtain ⟨m, h, ws, rh, r1, p⟩ := q
    match ws, r1, p with
    | [], _, p => exact p.elim
    | [x], _, p => cases x <;> exact p.elim
    | x :: y :: _ :: _, _, p => cases x <;> cases y <;> exact p.elim
    | [x, y], r1, p =>
      obtain ⟨v, u, rfl, r2, r3⟩ := reps2 r1
      cases r2 <;> cases r3 <;> first
        | exact p.elim
        | exact call_max2 C.calm pins s σ H _ us Q I r ⟨_, _, rfl, p.now rh (.int _)⟩
  | min2 =>
    obtain ⟨m, h, ws, rh, r1, p⟩ := q
    match ws, r1, p with
    | [], _, p => exact p.elim
    | [x], _, p => cases x <;> exact p.elim
    | x :: y :: _ :: _, _, p => cases x <;> cases y <;> exact p.elim
    | [x, y], r1, p =>
      obtain ⟨v, u, rfl, r2, r3⟩ := reps2 r1
      cases r2 <;> cases r3 <;> first
        | exact p.elim
        | exact call_min2 C.calm pins s σ H _ us Q I r ⟨_, _, rfl, p.now rh (.int _)⟩
  | maxl =>
    obtain ⟨m, h, ws, rh, r1, p⟩ := q
    match ws, r1, p with
    | [], _, p => exact p.elim
    | x :: _ :: _, _, p => cases x <;> exact p.elim
    | [x], r1, p =>
      obtain ⟨v, rfl, r2⟩ := reps1 r1
      cases r2 with
      | ref i =>
        simp only [biW] at p
        split at p
        · rename_i ws e
          split at p
          · rename_i i0 r0 e2
            obtain ⟨vs, q, k⟩ := rh.its e i
            have e3 := intsW_eq e2
            subst e3
            rw [reps_ints k] at q
            refine cr_max C.calm pins s σ H _ us Q I r ⟨_, _, rfl, by rw [C.K]; exact q, by simp, fun M hM hle => ?_⟩
            have e4 : M = maxI r0 i0 := by
              have a1 := maxI_ge r0 i0
              have a2 := hle (maxI r0 i0) (by rcases maxI_mem r0 i0 with e | e; rw [e]; exact List.mem_cons_self; exact List.mem_cons_of_mem _ e)
              rcases List.mem_cons.mp hM with e | e
              · rw [e] at a2 ⊢; exact Int.le_antisymm a1.1 a2
              · exact Int.le_antisymm (a1.2 _ e) a2
            rw [e4]
            exact p.now rh (.int _)
          · exact p.elim
        · exact p.elim
      | _ => exact p.elim
  | minl =>
    obtain ⟨m, h, ws, rh, r1, p⟩ := q
    match ws, r1, p with
    | [], _, p => exact p.elim
    | x :: _ :: _, _, p => cases x <;> exact p.elim
    | [x], r1, p =>
      obtain ⟨v, rfl, r2⟩ := reps1 r1
      cases r2 with
      | ref i =>
        simp only [biW] at p
        split at p
        · rename_i ws e
          split at p
          · rename_i i0 r0 e2
            obtain ⟨vs, q, k⟩ := rh.its e i
            have e3 := intsW_eq e2
            subst e3
            rw [reps_ints k] at q
            refine cr_min C.calm pins s σ H _ us Q I r ⟨_, _, rfl, by rw [C.K]; exact q, by simp, fun M hM hle => ?_⟩
            have e4 : M = minI r0 i0 := by
              have a1 := minI_le r0 i0
              have a2 := hle (minI r0 i0) (by rcases minI_mem r0 i0 with e | e; rw [e]; exact List.mem_cons_self; exact List.mem_cons_of_mem _ e)
              rcases List.mem_cons.mp hM with e | e
              · rw [e] at a2 ⊢; exact Int.le_antisymm a2 a1.1
              · exact Int.le_antisymm a2 (a1.2 _ e)
            rw [e4]
            exact p.now rh (.int _)
          · exact p.elim
        · exact p.elim
      | _ => exact p.elim
  | sum =>
    obtain ⟨m, h, ws, rh, r1, p⟩ := q
    match ws, r1, p with
    | [], _, p => exact p.elim
    | x :: _ :: _, _, p => cases x <;> exact p.elim
    | [x], r1, p =>
      obtain ⟨v, rfl, r2⟩ := reps1 r1
      cases r2 with
      | ref i =>
        simp only [biW] at p
        split at p
        · rename_i ws e
          split at p
          · rename_i l e2
            obtain ⟨vs, q, k⟩ := rh.its e i
            have e3 := intsW_eq e2
            subst e3
            rw [reps_ints k] at q
            exact cr_sum C.calm pins s σ H _ us Q I r ⟨_, l, rfl, by rw [C.K]; exact q, p.now rh (.int _)⟩
          · exact p.elim
        · exact p.elim
      | _ => exact p.elim
  | sorted =>
    obtain ⟨m, h, ws, rh, r1, p⟩ := q
    match ws, r1, p with
    | [], _, p => exact p.elim
    | x :: _ :: _, _, p => cases x <;> exact p.elim
    | [x], r1, p =>
      obtain ⟨v, rfl, r2⟩ := reps1 r1
      cases r2 with
      | ref i =>
        simp only [biW] at p
        split at p
        · rename_i ws e
          split at p
          · rename_i l e2
            split at p
            · rename_i hl
              obtain ⟨vs, q, k⟩ := rh.its e i
              have e3 := intsW_eq e2
              subst e3
              rw [reps_ints k] at q
              refine cr_sorted pins s σ H _ us Q I r ⟨_, l, rfl, by rw [C.K]; exact q, hl, fun ns' a pm ps hn => ?_⟩
              rw [sorted_unique (pm.trans (sortI_perm l).symm) ps (sortI_sorted l)]
              exact p.lst rh (reps_of_ints _) a hn
            · exact p.elim
          · exact p.elim
        · exact p.elim
      | _ => exact p.elim
  | tuple =>
    obtain ⟨m, h, ws, rh, r1, p⟩ := q
    match ws, r1, p with
    | [], _, p => exact p.elim
    | x :: _ :: _, _, p => cases x <;> exact p.elim
    | [x], r1, p =>
      obtain ⟨v, rfl, r2⟩ := reps1 r1
      cases r2 with
      | tup q k => exact call_tuple_of pins s σ H _ us Q I r ⟨_, _, rfl, .inr ⟨by rw [C.K]; exact q, p.now rh (.tup q k)⟩⟩
      | ref i =>
        simp only [biW] at p
        split at p
        · rename_i ws e
          obtain ⟨vs, q, k⟩ := rh.its e i
          exact call_tuple_of pins s σ H _ us Q I r ⟨_, _, rfl, .inl ⟨by rw [C.K]; exact q, p.tup rh k⟩⟩
        · exact p.elim
      | _ => exact p.elim
  | list =>
    obtain ⟨m, h, ws, rh, r1, p⟩ := q
    match ws, r1, p with
    | [], _, p => exact p.elim
    | x :: _ :: _, _, p => cases x <;> exact p.elim
    | [x], r1, p =>
      obtain ⟨v, rfl, r2⟩ := reps1 r1
      simp only [biW] at p
      split at p
      · rename_i ws e
        obtain ⟨a, vs, rfl, q, k, _, _⟩ := seq_rep rh e r2
        exact call_list_of pins s σ H _ us Q I r ⟨_, vs, rfl, by rw [C.K]; exact q, p.lst rh k⟩
      · exact p.elim
  | all =>
    obtain ⟨m, h, ws, rh, r1, p⟩ := q
    match ws, r1, p with
    | [], _, p => exact p.elim
    | x :: _ :: _, _, p => cases x <;> exact p.elim
    | [x], r1, p =>
      obtain ⟨v, rfl, r2⟩ := reps1 r1
      cases r2 with
      | ref i =>
        simp only [biW] at p
        split at p
        · rename_i ws e
          split at p
          · rename_i l e2
            obtain ⟨vs, q, k⟩ := rh.its e i
            have e3 := boolsW_eq e2
            subst e3
            rw [reps_bools k] at q
            exact cr_all C.calm pins s σ H _ us Q I r ⟨_, l, rfl, by rw [C.K]; exact q, p.now rh (.bl _)⟩
          · exact p.elim
        · exact p.elim
      | _ => exact p.elim
  | any =>
    obtain ⟨m, h, ws, rh, r1, p⟩ := q
    match ws, r1, p with
    | [], _, p => exact p.elim
    | x :: _ :: _, _, p => cases x <;> exact p.elim
    | [x], r1, p =>
      obtain ⟨v, rfl, r2⟩ := reps1 r1
      cases r2 with
      | ref i =>
        simp only [biW] at p
        split at p
        · rename_i ws e
          split at p
          · rename_i l e2
            obtain ⟨vs, q, k⟩ := rh.its e i
            have e3 := boolsW_eq e2
            subst e3
            rw [reps_bools k] at q
            exact cr_any C.calm pins s σ H _ us Q I r ⟨_, l, rfl, by rw [C.K]; exact q, p.now rh (.bl _)⟩
          · exact p.elim
        · exact p.elim
      | _ => exact p.elim
end
end Wm
end

section
set_option Elab.async false
set_option linter.all false
set_option maxRecDepth 100000
set_option maxHeartbeats 4000000
set_option autoImplicit false
namespace Wm
open PySem PySem.Spec PyProof.Rows L2
section
variable {prog : Program} {w : World} {B : Around} {E0 : Value → Shared → Prop} {s : Shared}
theorem rev_places (n : Nat) : Builtin.Slice.slicePlaces ((n : Int) - 1) (-1) (-1) = n := by
  unfold Builtin.Slice.slicePlaces
  rw [if_neg (by decide)]
  by_cases h : n = 0
  · subst h; rfl
  · rw [if_pos (by omega)]
    have e : ((n : Int) - 1 - -1 - 1) / -(-1 : Int) = (n : Int) - 1 := by
      rw [show -(-1 : Int) = 1 by rfl, Int.ediv_one]; omega
    rw [e]
    omega
theorem rev_pick (xs : Array Value) : ((List.range xs.size).filterMap fun (k : Nat) => xs[(((xs.size : Int) - 1) + (k : Int) * (-1)).toNat]?).toArray = xs.toList.reverse.toArray := by
  have key : ∀ n : Nat, n ≤ xs.size → ((List.range n).filterMap fun (k : Nat) => xs[(((xs.size : Int) - 1) + (k : Int) * (-1)).toNat]?) = (xs.toList.reverse).take n := by
    intro n
    induction n with
    | zero => intro _; simp
    | succ n ih =>
      intro hn
      have hlt : xs.size - 1 - n < xs.size := by omega
      have e1 : (((xs.size : Int) - 1) + (n : Int) * (-1)).toNat = xs.size - 1 - n := by omega
      rw [List.range_succ, List.filterMap_append, ih (by omega)]
      simp only [List.filterMap_cons, List.filterMap_nil, e1]
      rw [Array.getElem?_eq_getElem hlt, List.take_succ, List.getElem?_reverse (by rw [Array.length_toList]; omega)]
      simp [hlt]
  rw [key xs.size (Nat.le_refl _), List.take_of_length_le (by simp)]
theorem rev_tuple {t sl : Addr} {its : Array Value} {Q : Value → Shared → Prop} {one : Tok} (ht : IsTup s.heap t its) (hs : s.heap.IsSliceOf sl .none .none (.int (-1) one))
    (q : Q (.ref s.heap.objs.size) { s with heap := s.heap.push { cls := .type "tuple", data := .seq its.toList.reverse.toArray } }) (hz : its.size ≤ sizeLine) : wpAny (model prog w) B (getItem (.ref t) (.ref sl)) Q E0 s := by
  have hz2 : sizeOk (.seq its.toList.reverse.toArray) := by
    show its.toList.reverse.toArray.size ≤ sizeLine
    simpa using hz
  obtain ⟨ob, hob, hcl, hdt⟩ := hs
  have tyS : s.TypeIs (.ref sl) "slice" := ⟨ob, hob, hcl⟩
  unfold getItem
  try with_reducible refine wpAny_holding ?_
  refine wpAny_bind (wpAny_sequenceKey ht.typeIs (by decide) ?_)
  refine wpAny_bind (wpAny_callSpecial?_slot (name := Str.ofString "__getitem__") ht.typeIs PyProof.Rows.slot_tuple_getitem (wpAny_call_entry PyProof.Rows.slot_tuple_getitem ht.typeIs entry_tuple_getitem ?_ (args_tuple_getitem _ _)))
  show wpAny _ _ (Builtin.Tuple.tupleItemsOf (.ref t) >>= _) _ _ s
  refine wpAny_bind (tupleItemsOf_ ht (wpAny_bind (wpAny_typeOf tyS ?_)))
  rw [if_pos (by decide)]
  refine wpAny_bind ?_
  unfold Builtin.Slice.sliceApplied Builtin.Slice.sliceFields
  refine wpAny_bind (wpAny_bind (wpAny_field hob hdt (x := .none) rfl (wpAny_bind (wpAny_field hob hdt (x := .none) rfl (wpAny_bind (wpAny_field hob hdt (x := .int (-1) one) rfl (wpAny_pure ?_)))))))
  refine wpAny_bind (slicePart_int ?_)
  show wpAny _ _ (if ((-1 : Int) == 0) = true then _ else _) _ _ s
  rw [if_neg (by decide)]
  refine wpAny_bind (slicePart_none (wpAny_bind (slicePart_none (wpAny_bind (wpAny_pure ?_)))))
  show wpAny _ _ (pure (((its.size : Int) - 1), (-1 : Int), Builtin.Slice.slicePlaces ((its.size : Int) - 1) (-1) (-1))) _ _ s
  rw [rev_places]
  refine wpAny_pure ?_
  show wpAny _ _ (if (((its.size : Int) - 1) == 0 && (-1 : Int) == 1 && its.size == its.size) = true then _ else _) _ _ s
  rw [if_neg (by simp)]
  show wpAny _ _ (Builtin.Tuple.tupleExact ((List.range its.size).filterMap fun (k : Nat) => its[(((its.size : Int) - 1) + (k : Int) * (-1)).toNat]?).toArray >>= _) _ _ s
  rw [rev_pick]
  first
    | exact wpAny_bind (m := Builtin.Tuple.tupleExact _) (wpAny_newObj_type (wpAny_pure ⟨_, rfl, wpAny_pure q⟩) hz2)
    | exact wpAny_bind (m := Builtin.Tuple.tupleExact _) (wpAny_newObj_type (wpAny_bind (wpAny_pure (wpAny_pure ⟨_, rfl, wpAny_pure q⟩))) hz2)
    | exact wpAny_bind (wpAny_bind (m := Builtin.Tuple.tupleExact _) (wpAny_newObj_type (wpAny_pure (wpAny_pure ⟨_, rfl, wpAny_pure q⟩)) hz2))
end
section
variable {A : At} {X : Cx} {ew : XK} {m : List Addr} {h : OH} {H : Hp}
/-- xs[::-1] -/
def c1v (A : At) (ew : XK) (f : W → OH → R W) : V → Hp → VK → Prop := fun v H Q => ∃ (m : List Addr) (h : OH) (x : W), RelH A m h H ∧ Rep A m H x v ∧ Post ew (rW A) m H (f x h) Q
theorem pe_rev (C : Calm A X) {e : Expr} {te : TE} {k : Nat} {p1 p2 p3 pos : Pos} (he : PE X e te) :
    PE X (.Subscript e (.Slice none none (some (.UnaryOp .USub (.Constant (.int 1) k p1) p2)) p3) pos) (fun σ H Q => te σ H fun v H1 => c1v A ew revW v H1 Q) := by
  refine ⟨fun pins s σ H Q I q => ?_⟩
  refine Subscript_ (thn (he.run pins s σ H _ I q) fun v s1 ⟨x, H1, I1, r1, q1⟩ => ?_)
  obtain ⟨m, h, wx, rh, rx, p⟩ := q1
  have mone : PO X (some (.UnaryOp .USub (.Constant (.int 1) k p1) p2)) (tPart (tUn (rU fun i => .int (-i)) (tC (.int 1)))) := po_some (pe_un un_neg pe_int)
  refine wpAny_Slice (thn (po_none.run pins s1 σ H1 (fun o K2 => o = none ∧ K2 = H1) I1 ⟨rfl, rfl⟩) fun vl s2 ⟨l, K2, I2, pl, z1, z2⟩ => ?_)
  subst z1 z2
  refine thn (po_none.run pins s2 σ K2 (fun o K3 => o = none ∧ K3 = K2) I2 ⟨rfl, rfl⟩) fun vu s3 ⟨u, K3, I3, pu, z1, z2⟩ => ?_
  subst z1 z2
  refine thn (mone.run pins s3 σ K3 (fun o K4 => o = some (-1) ∧ K4 = K3) I3 ⟨1, rfl, -1, rfl, rfl, rfl⟩) fun vs s4 ⟨o, K4, I4, ps, z1, z2⟩ => ?_
  subst z1 z2
  have I5 : Inv X pins σ K4 { s4 with heap := s4.heap.push { cls := .type "slice", data := .fields #[vl, vu, vs] } } := I4.kept (t' := s4.toks) fun b ob e => Heap.get?_push_of_some _ e
  have sub : ∀ a : Addr, subscripted (.Slice none none (some (.UnaryOp .USub (.Constant (.int 1) k p1) p2)) p3) false (.ref a) (.ref s4.heap.objs.size) = operate [.ref a, .ref s4.heap.objs.size] (getItem (.ref a) (.ref s4.heap.objs.size)) := fun a => by with_unfolding_all rfl
  unfold revW at p
  split at p
  · rename_i ws hx
    obtain ⟨a, xs, rfl, qa, ka⟩ := rep_tup rx
    cases r1
    obtain ⟨its, r, ht, hz⟩ := I5.tuple (show SqT X.K K4 a xs by rw [C.K]; exact qa)
    cases pl
    cases pu
    cases ps
    show wpAny (model X.prog X.w) X.A (subscriptTail e _ (.ref a) (.ref s4.heap.objs.size)) (EP X pins σ Q) X.xe _
    refine tail_any (ops := [.ref a, .ref s4.heap.objs.size]) ht.typeIs (PyProof.Rows.slot_tuple_getitem.lookup) ?_ (sub a)
    refine rev_tuple ht (Heap.IsSliceOf.new _ _ _ _) ?_ (by rw [List.size_toArray, ← r.length]; exact hz)
    have hl := r.length
    refine ⟨.ref _, _, I5.laid (t' := s4.toks) (o := .tup xs.reverse) (fun b ob e => Heap.get?_push_of_some _ e) (Nat.le_refl _) ?_, rfl, p.tup rh ka.reverse _ (I5.hok.fresh (Nat.le_refl _))⟩
    exact ⟨by rw [List.length_reverse]; exact hz, its.reverse, r.reverse, IsTup.new _ _⟩
  · split at p
    · rename_i ws e1
      obtain ⟨a, rfl, ia⟩ := rep_ref rx
      obtain ⟨xs, qa, ka⟩ := rh.its e1 ia
      cases r1
      obtain ⟨its, r, ht, hz⟩ := I5.list (show SqL X.K K4 a xs by rw [C.K]; exact qa)
      have hl := r.length
      show wpAny (model X.prog X.w) X.A (subscriptTail e _ (.ref a) (.ref s4.heap.objs.size)) (EP X pins σ Q) X.xe _
      refine tail_any (ops := [.ref a, .ref s4.heap.objs.size]) ht.isList.typeIs (PySem.slot_list_getitem.lookup) ?_ (sub a)
      refine wpAny_getItem_list_slice ht.isList (Heap.IsSliceOf.new _ vl vu vs) pl pu ps (by decide) ?_ (by rw [List.size_toArray]; omega)
      rw [PySem.W.krv_pick]
      refine ⟨.ref _, _, I5.laid (t' := s4.toks) (o := .lst xs.reverse) (fun b ob e => Heap.get?_push_of_some _ e) (Nat.le_refl _) ?_, rfl, p.lst rh ka.reverse _ (I5.hok.fresh (Nat.le_refl _))⟩
      exact ⟨by rw [List.length_reverse]; exact hz, _, 0, r.reverse, Heap.get?_push_size _ rfl⟩
    · exact p.elim
  · exact p.elim
end
end Wm
end

section
set_option Elab.async false
set_option linter.all false
set_option maxRecDepth 100000
set_option maxHeartbeats 4000000
set_option autoImplicit false
namespace Wm
open PySem PySem.Spec PyProof.Rows L2
section
variable {A : At} {X : Cx} {ew : XK} {m : List Addr} {h : OH} {H : Hp}
/-- methods -/
def c2 (A : At) (ew : XK) (f : W → List W → OH → R W) : V → List V → Hp → VK → Prop := fun v vs H Q => ∃ (m : List Addr) (h : OH) (x : W) (ws : List W), RelH A m h H ∧ Rep A m H x v ∧ Reps A m H ws vs ∧ Post ew (rW A) m H (f x ws h) Q
theorem seqIx_eq {n : Nat} {i : Int} {k : Nat} (e : seqIx n i = some k) : -(2 ^ 63) ≤ i ∧ i < 2 ^ 63 ∧ seqIndex? i n = some k := by
  unfold seqIx at e
  split at e
  · rename_i hb
    rw [Bool.and_eq_true, decide_eq_true_eq, decide_eq_true_eq] at hb
    exact ⟨hb.1, hb.2, (L2.ixN_seq (show L2.ixN n i = some k from e)).1⟩
  · cases e
theorem mt_append_ok (C : Calm A X) : MtM X "list.append" (c2 A ew (mtW .append)) := by
  intro pins s σ H x xs v us Q I rx rxs q
  obtain ⟨m, h, wx, ws, rh, r1, r2, p⟩ := q
  match wx, ws, r1, r2, p with
  | .ref n, [y], r1, r2, p =>
    obtain ⟨u, rfl, r3⟩ := reps1 r2
    obtain ⟨a, rfl, ia⟩ := rep_ref r1
    simp only [mtW] at p
    split at p
    · rename_i us' e
      split at p
      · rename_i hz
        obtain ⟨vs, q, k⟩ := rh.lst e ia
        have hl := line_le hz
        rw [k.length] at hl
        exact mt_append pins s σ H _ _ v us Q I rx rxs ⟨_, vs, u, rfl, rfl, q, hl, p.put rh ia e (k.append (.cons r3 .nil)) .non⟩
      · exact p.elim
    · exact p.elim
  | .ref n, [], _, _, p => exact p.elim
  | .ref n, _ :: _ :: _, _, _, p => exact p.elim
  | .non, _, _, _, p => exact p.elim
  | .bl _, _, _, _, p => exact p.elim
  | .int _, _, _, _, p => exact p.elim
  | .str _, _, _, _, p => exact p.elim
  | .tup _, _, _, _, p => exact p.elim
  | .fn _, _, _, _, p => exact p.elim
  | .cls _, _, _, _, p => exact p.elim
theorem mt_extend_ok (C : Calm A X) : MtM X "list.extend" (c2 A ew (mtW .extend)) := by
  intro pins s σ H x xs v us Q I rx rxs q
  obtain ⟨m, h, wx, ws, rh, r1, r2, p⟩ := q
  match wx, ws, r1, r2, p with
  | .ref n, [.ref k], r1, r2, p =>
    obtain ⟨u, rfl, r3⟩ := reps1 r2
    obtain ⟨a, rfl, ia⟩ := rep_ref r1
    obtain ⟨b, rfl, ib⟩ := rep_ref r3
    simp only [mtW] at p
    split at p
    · rename_i us' us2 e e2
      split at p
      · rename_i hz
        obtain ⟨vs, q, k⟩ := rh.lst e ia
        obtain ⟨vs2, q2, k2⟩ := rh.lst e2 ib
        have hl := line_le hz
        rw [k.length, k2.length] at hl
        exact mt_extend pins s σ H _ _ v us Q I rx rxs ⟨_, _, vs, vs2, rfl, rfl, q, q2, Nat.le_of_lt hl, p.put rh ia e (k.append k2) .non⟩
      · exact p.elim
    · exact p.elim
  | .ref n, [], _, _, p => exact p.elim
  | .ref n, [.non], _, _, p => exact p.elim
  | .ref n, [.bl _], _, _, p => exact p.elim
  | .ref n, [.int _], _, _, p => exact p.elim
  | .ref n, [.str _], _, _, p => exact p.elim
  | .ref n, [.tup _], _, _, p => exact p.elim
  | .ref n, [.fn _], _, _, p => exact p.elim
  | .ref n, [.cls _], _, _, p => exact p.elim
  | .ref n, x :: _ :: _, _, _, p => cases x <;> exact p.elim
  | .non, _, _, _, p => exact p.elim
  | .bl _, _, _, _, p => exact p.elim
  | .int _, _, _, _, p => exact p.elim
  | .str _, _, _, _, p => exact p.elim
  | .tup _, _, _, _, p => exact p.elim
  | .fn _, _, _, _, p => exact p.elim
  | .cls _, _, _, _, p => exact p.elim
theorem mt_pop_ok (C : Calm A X) : MtM X "list.pop" (c2 A ew (mtW .pop)) := by
  intro pins s σ H x xs v us Q I rx rxs q
  obtain ⟨m, h, wx, ws, rh, r1, r2, p⟩ := q
  match wx, ws, r1, r2, p with
  | .ref n, [], r1, r2, p =>
    have e0 := reps_nil r2
    subst e0
    obtain ⟨a, rfl, ia⟩ := rep_ref r1
    simp only [mtW] at p
    split at p
    · rename_i us' e
      split at p
      · rename_i w hw
        obtain ⟨vs, q, k⟩ := rh.lst e ia
        obtain ⟨u, hu, ru⟩ := k.get hw
        rw [k.length] at hu
        exact mt_pop pins s σ H _ _ v us Q I rx rxs ⟨_, vs, u, rfl, rfl, q, hu, p.put rh ia e k.dropLast ru⟩
      · exact p.elim
    · exact p.elim
  | .ref n, _ :: _, _, _, p => exact p.elim
  | .non, _, _, _, p => exact p.elim
  | .bl _, _, _, _, p => exact p.elim
  | .int _, _, _, _, p => exact p.elim
  | .str _, _, _, _, p => exact p.elim
  | .tup _, _, _, _, p => exact p.elim
  | .fn _, _, _, _, p => exact p.elim
  | .cls _, _, _, _, p => exact p.elim
theorem mt_popAt_ok (C : Calm A X) : MtM X "list.pop" (c2 A ew (mtW .popAt)) := by
  intro pins s σ H x xs v us Q I rx rxs q
  obtain ⟨m, h, wx, ws, rh, r1, r2, p⟩ := q
  match wx, ws, r1, r2, p with
  | .ref n, [.int i], r1, r2, p =>
    obtain ⟨u, rfl, r3⟩ := reps1 r2
    cases r3
    obtain ⟨a, rfl, ia⟩ := rep_ref r1
    simp only [mtW] at p
    split at p
    · rename_i us' e
      split at p
      · rename_i j hj
        split at p
        · rename_i w hw
          obtain ⟨vs, q, k⟩ := rh.lst e ia
          obtain ⟨u, hu, ru⟩ := k.get hw
          obtain ⟨b1, b2, b3⟩ := seqIx_eq hj
          rw [k.length] at b3
          exact mt_popAt pins s σ H _ _ v us Q I rx rxs ⟨_, vs, i, j, u, rfl, rfl, q, b1, b2, b3, hu, p.put rh ia e (k.erase j) ru⟩
        · exact p.elim
      · exact p.elim
    · exact p.elim
  | .ref n, [], _, _, p => exact p.elim
  | .ref n, [.non], _, _, p => exact p.elim
  | .ref n, [.bl _], _, _, p => exact p.elim
  | .ref n, [.ref _], _, _, p => exact p.elim
  | .ref n, [.str _], _, _, p => exact p.elim
  | .ref n, [.tup _], _, _, p => exact p.elim
  | .ref n, [.fn _], _, _, p => exact p.elim
  | .ref n, [.cls _], _, _, p => exact p.elim
  | .ref n, x :: _ :: _, _, _, p => cases x <;> exact p.elim
  | .non, _, _, _, p => exact p.elim
  | .bl _, _, _, _, p => exact p.elim
  | .int _, _, _, _, p => exact p.elim
  | .str _, _, _, _, p => exact p.elim
  | .tup _, _, _, _, p => exact p.elim
  | .fn _, _, _, _, p => exact p.elim
  | .cls _, _, _, _, p => exact p.elim
/-- o[i] = v -/
def c3 (A : At) (ew : XK) : TSet := fun o i v H Q => ∃ (m : List Addr) (h : OH) (wo wi wv : W), RelH A m h H ∧ Rep A m H wo o ∧ Rep A m H wi i ∧ Rep A m H wv v ∧ Post ew (rW A) m H (setIx wo wi wv h) fun _ H' => Q H'
theorem set_ok (C : Calm A X) : PSet X (c3 A ew) := by
  intro pins s σ H o i v ov iv u Q I r1 r2 r3 q
  obtain ⟨m, h, wo, wi, wv, rh, q1, q2, q3, p⟩ := q
  cases q1 with
  | ref ia =>
    cases q2 with
    | int j =>
      simp only [setIx] at p
      split at p
      · rename_i us e
        split at p
        · rename_i k hk
          obtain ⟨vs, q, kk⟩ := rh.lst e ia
          rw [kk.length] at hk
          exact set_list pins s σ H _ _ v ov iv u Q I r1 r2 r3 ⟨_, vs, _, k, rfl, rfl, q, hk, p.put rh ia e (Reps.set q3 k kk) .non⟩
        · exact p.elim
      · exact p.elim
    | _ => exact p.elim
  | _ => exact p.elim
/-- isinstance against a built-in class -/
def kitS (T : String) : Bool := ["int", "bool", "str", "tuple", "list", "dict"].contains T
theorem isi_ok (C : Calm A X) {T : String} (hT : kitS T = true) : CallR X (.builtin "isinstance") (fun vs H Q => ∃ (m : List Addr) (h : OH) (x : W) (v : V), vs = [v, .ty T] ∧ RelH A m h H ∧ Rep A m H x v ∧ Post ew (rW A) m H (bR (isiW h x T) h) Q) := by
  intro pins s σ H xs us Q I r q
  obtain ⟨m, h, x, v, rfl, rh, rx, p⟩ := q
  have go : ∀ (t : String) (b : Bool), TyX X.K H v (.type t) → PySem.W.kitOne X.K (.type t) (.type T) = some b → Q (.bl b) H → wpAny (model X.prog X.w) X.A (call (.builtin "isinstance") us) (EP X pins σ Q) X.xe s := fun t b h1 h2 h3 =>
    call_isi pins s σ H _ us Q I r ⟨v, .ty T, .type t, .type T, b, rfl, .ty T, h1, h2, h3⟩
  have six : T = "int" ∨ T = "bool" ∨ T = "str" ∨ T = "tuple" ∨ T = "list" ∨ T = "dict" := by
    have := hT
    unfold kitS at this
    simpa using this
  have tupT : ∀ {a : Addr} {vs : List V}, SqT A.K H a vs → TyX X.K H (.ref a) (.type "tuple") := fun q => by
    rcases q with (q | ⟨ob, q⟩) | ⟨o, its, n, e, c, _⟩
    · exact .base (.tup q)
    · exact .fTuple q
    · exact .kTuple (by rw [C.K]; exact e) c
  cases rx with
  | non => rcases six with rfl | rfl | rfl | rfl | rfl | rfl <;> exact go "NoneType" _ (.base .non) (kit_ty (by decide +kernel)) (p.now rh (.bl _))
  | bl k => rcases six with rfl | rfl | rfl | rfl | rfl | rfl <;> exact go "bool" _ (.base (.bl k)) (kit_ty (by decide +kernel)) (p.now rh (.bl _))
  | int k => rcases six with rfl | rfl | rfl | rfl | rfl | rfl <;> exact go "int" _ (.base (.int k)) (kit_ty (by decide +kernel)) (p.now rh (.bl _))
  | str k => rcases six with rfl | rfl | rfl | rfl | rfl | rfl <;> exact go "str" _ (.base (.str k)) (kit_ty (by decide +kernel)) (p.now rh (.bl _))
  | tup q k => rcases six with rfl | rfl | rfl | rfl | rfl | rfl <;> exact go "tuple" _ (tupT q) (kit_ty (by decide +kernel)) (p.now rh (.bl _))
  | ref ia =>
    simp only [isiW] at p
    split at p
    · rename_i ws e
      obtain ⟨b, e1, vs, e2, _⟩ := rh.ob _ _ e
      rw [ia] at e1; cases e1
      rcases six with rfl | rfl | rfl | rfl | rfl | rfl <;> exact go "list" _ (.base (.lst e2)) (kit_ty (by decide +kernel)) (p.now rh (.bl _))
    · rename_i e
      obtain ⟨b, e1, e2⟩ := rh.ob _ _ e
      exact e2.elim
    · exact p.elim
  | fn _ => exact p.elim
  | cls _ => exact p.elim
  | rol _ _ => exact p.elim
end
end Wm
end

section
set_option Elab.async false
set_option linter.all false
set_option maxRecDepth 100000
set_option maxHeartbeats 4000000
set_option autoImplicit false
/-! The text beside the own language: a look that they agree. -/
namespace Wm
open PySem PySem.Spec PyProof.Rows L2

/-- a name that is read from a slot -/
def vis (sc : Scope) (x : Str) : Bool := match sc.names.lookup x with
  | some .local => true
  | some .cell => true
  | some .free => true
  | _ => false
/-- a name that may be stored -/
def loc (sc : Scope) (x : Str) : Bool := match sc.names.lookup x with
  | some .local => true
  | some .cell => true
  | _ => false
def isGl (sc : Scope) (x : Str) : Bool := match sc.names.lookup x with
  | some .globalImplicit => true
  | _ => false
def bopO : Bop → Operator
  | .add => .Add | .sub => .Sub | .mul => .Mult | .fdiv => .FloorDiv | .mod => .Mod | .pow => .Pow
def cstOk : W → Const → Bool
  | .non, .none => true
  | .bl a, .bool b => a == b
  | .int i, .int j => decide (i = j)
  | .str x, .str y => decide (x = y)
  | _, _ => false
def biN : Bi → Str
  | .len => "len" | .int => "int" | .abs => "abs" | .max2 => "max" | .min2 => "min" | .maxl => "max" | .minl => "min"
  | .sum => "sum" | .sorted => "sorted" | .tuple => "tuple" | .list => "list" | .repr => "repr" | .all => "all" | .any => "any"
def biNames : List Str := ["len", "int", "abs", "max", "min", "sum", "sorted", "tuple", "list", "repr", "all", "any", "range", "isinstance", "bool", "str", "dict", "enumerate", "zip"]
def mtN : Mt → Str
  | .append => "append" | .pop => "pop" | .popAt => "pop" | .extend => "extend" | .index => "index"
def notSet : Expr → Bool
  | .Set .. => false
  | _ => true
def notSlice : Expr → Bool
  | .Slice .. => false
  | _ => true
def notCall : Expr → Bool
  | .Call .. => false
  | _ => true
def notComp2 : Expr → Bool
  | .SetComp .. => false
  | .DictComp .. => false
  | _ => true
def notComp : Expr → Bool
  | .ListComp .. => false
  | .SetComp .. => false
  | .DictComp .. => false
  | _ => true
/-- what gives pairs wants a target of several names -/
def needT : E → Bool
  | .enum _ => true
  | .zip _ _ => true
  | _ => false
def isTup : Expr → Bool
  | .Tuple .. => true
  | _ => false
def slotsT : T → List Nat
  | .nm i => [i]
  | .nil => []
  | .cons a r => slotsT a ++ slotsT r
section
variable (nm : List Str) (cn : List (Str × W)) (N : List Str)
/-- a target -/
def chkT (raw : Scope) : T → Expr → Bool
  | .nm i => fun e => match e with
    | .Name x _ => decide (N[i]? = some x) && loc raw x
    | _ => false
  | .nil => fun e => match e with
    | .Tuple [] _ _ => true
    | _ => false
  | .cons a r => fun e => match e with
    | .Tuple (x :: xs) k p => chkT raw a x && chkT raw r (.Tuple xs k p)
    | _ => false
mutual
def chkE (sc : Scope) : E → Expr → Bool
  | .v i => fun e => match e with
    | .Name x _ => decide (N[i]? = some x) && vis sc x && !(x == ("__debug__" : Str)) && !(x == ("__classdict__" : Str))
    | _ => false
  | .c w => fun e => match e with
    | .Constant c _ _ => cstOk w c
    | .Name x _ => isGl sc x && !(x == ("__debug__" : Str)) && cn.any (fun p => decide (p.1 = x) && W.beq p.2 w)
    | _ => false
  | .bin o a b => fun e => match e with
    | .BinOp l op r _ => decide (bopO o = op) && chkE sc a l && chkE sc b r
    | _ => false
  | .neg a => fun e => match e with
    | .UnaryOp .USub x _ => chkE sc a x
    | _ => false
  | .cmp o a b => fun e => match e with
    | .Compare l [op] [r] _ => decide (copO o = op) && notSet r && chkE sc a l && chkE sc b r
    | _ => false
  | .chain o p a b c => fun e => match e with
    | .Compare l [o1, o2] [r1, r2] _ => decide (copO o = o1) && decide (copO p = o2) && notSet r2 && chkE sc a l && chkE sc b r1 && chkE sc c r2
    | _ => false
  | .and a b => fun e => match e with
    | .BoolOp .And [x, y] _ => chkE sc a x && chkE sc b y
    | .BoolOp .And (x :: y :: z :: r) p => chkE sc a x && chkE sc b (.BoolOp .And (y :: z :: r) p)
    | _ => false
  | .or a b => fun e => match e with
    | .BoolOp .Or [x, y] _ => chkE sc a x && chkE sc b y
    | .BoolOp .Or (x :: y :: z :: r) p => chkE sc a x && chkE sc b (.BoolOp .Or (y :: z :: r) p)
    | _ => false
  | .not a => fun e => match e with
    | .UnaryOp .Not x _ => chkE sc a x
    | _ => false
  | .ite t a b => fun e => match e with
    | .IfExp c x y _ => chkE sc t c && chkE sc a x && chkE sc b y
    | _ => false
  | .call f as => fun e => match e with
    | .Call (.Name x _) (y :: ys) [] _ => isGl sc x && !(x == ("__debug__" : Str)) && decide (nm[f]? = some x) && chkA sc as (y :: ys)
    | .Call (.Name x _) [] [] _ => isGl sc x && !(x == ("__debug__" : Str)) && decide (nm[f]? = some x) && chkA sc as []
    | _ => false
  | .bi b as => fun e => match e with
    | .Call (.Name x _) (y :: ys) [] _ => isGl sc x && decide (biN b = x) && chkA sc as (y :: ys)
    | _ => false
  | .lrg a => fun e => match e with
    | .Call (.Name x _) [.Call (.Name y _) [z] [] _] [] _ => decide (x = "list") && isGl sc x && decide (y = "range") && isGl sc y && chkE sc a z
    | _ => false
  | .isi a ts => fun e => match e with
    | .Call (.Name x _) [y, .Name t _] [] _ => isGl sc x && decide (x = "isinstance") && isGl sc t && (match ts with | [T] => kitS T && decide (Str.ofString T = t) | _ => false) && chkE sc a y
    | _ => false
  | .mt m o as => fun e => match e with
    | .Call (.Attribute y name ap) [] [] cp => decide (mtN m = name) && (ap.endLine == cp.line) && notCall y && decide (m = .pop) && chkE sc o y && chkA sc as []
    | .Call (.Attribute y name ap) [z] [] cp => decide (mtN m = name) && (ap.endLine == cp.line) && notCall y && decide (m ≠ .pop) && decide (m ≠ .index) && chkE sc o y && chkA sc as [z]
    | _ => false
  | .tup as => fun e => match e with
    | .Tuple es _ _ => chkA sc as es
    | _ => false
  | .lst as => fun e => match e with
    | .List es _ => chkA sc as es
    | _ => false
  | .ix a b => fun e => match e with
    | .Subscript x y _ => notSlice y && chkE sc a x && chkE sc b y
    | _ => false
  | .sl a lo hi => fun e => match e with
    | .Subscript x (.Slice l u none _) _ => chkE sc a x && chkO sc lo l && chkO sc hi u
    | _ => false
  | .rev a => fun e => match e with
    | .Subscript x (.Slice none none (some (.UnaryOp .USub (.Constant (.int i) _ _) _)) _) _ => decide (i = 1) && chkE sc a x
    | _ => false
  | .gc a => fun e => chkE sc a e
  | .lc el own t it cond => fun e => match e with
    | .ListComp elt [⟨tg, iter, ifs, 0⟩] scope _ => blkC N sc scope (own.map fun i => (N.getD i "", i)) && ((slotsT t).all fun i => decide (i ∈ own)) && notSet iter && (!needT it || isTup tg) && chkI sc it iter && chkT N scope t tg && chkC (relS scope sc) cond ifs && chkE (relS scope sc) el elt
    | _ => false
  | _ => fun _ => false
def chkA (sc : Scope) : E → List Expr → Bool
  | .nil => fun es => match es with
    | [] => true
    | _ => false
  | .cons a r => fun es => match es with
    | x :: xs => chkE sc a x && chkA sc r xs
    | _ => false
  | _ => fun _ => false
def chkO (sc : Scope) : E → Option Expr → Bool
  | .nil => fun e => match e with
    | none => true
    | _ => false
  | .cons a .nil => fun e => match e with
    | some x => chkE sc a x
    | _ => false
  | _ => fun _ => false
/-- a comprehension's ifs: none or one -/
def chkC (sc : Scope) : E → List Expr → Bool
  | .cons a .nil => fun es => match es with
    | [x] => chkE sc a x
    | _ => false
  | .nil => fun es => match es with
    | [] => true
    | _ => false
  | _ => fun _ => false
def chkI (sc : Scope) : E → Expr → Bool
  | .seq a => fun e => chkE sc a e
  | .rng1 a => fun e => match e with
    | .Call (.Name x _) [y] [] _ => decide (x = "range") && isGl sc x && chkE sc a y
    | _ => false
  | .rng2 a b => fun e => match e with
    | .Call (.Name x _) [y, z] [] _ => decide (x = "range") && isGl sc x && chkE sc a y && chkE sc b z
    | _ => false
  | .enum a => fun e => match e with
    | .Call (.Name x _) [y] [] _ => decide (x = "enumerate") && isGl sc x && chkE sc a y
    | _ => false
  | .zip a b => fun e => match e with
    | .Call (.Name x _) [y, z] [] _ => decide (x = "zip") && isGl sc x && chkE sc a y && chkE sc b z
    | _ => false
  | _ => fun _ => false
end
end
end Wm
end

section
set_option Elab.async false
set_option linter.all false
set_option maxRecDepth 100000
set_option maxHeartbeats 4000000
set_option autoImplicit false
/-! enumerate over a tuple. -/
namespace Wm
open PySem PySem.Spec PyProof.Rows L2
theorem enum1_meets {v : Value} {ob : Obj} {H : Heap → Prop} (B : Begins v ob H) :
    Meets (Builtin.«enumerate.__new__» ⟨[.type "enumerate", v], []⟩) (fun _ R s => H s.heap ∧
      R (.ok (.ret (.ref (s.heap.push ob).objs.size))) { s with heap := (s.heap.push ob).push { cls := .type "enumerate", data := .fields #[.none, .bool false, .ref s.heap.objs.size, rawInt 0, .none, .none] } }) :=
  .of_wp fun prog w A R s z => by
    obtain ⟨hp, gg, dd, tt, oo⟩ := s
    obtain ⟨z1, z2⟩ := z
    have se := sub_enumerate
    have go : ∀ {A' : Around} {E : Value → Shared → Prop} {Q : Value → Shared → Prop}, Q (.ref hp.objs.size) ⟨hp.push ob, gg, dd, tt, oo⟩ → wpAny (model prog w) A' (pyIter v) Q E ⟨hp, gg, dd, tt, oo⟩ :=
      fun q => B.iter prog w _ _ ⟨hp, gg, dd, tt, oo⟩ _ z1 q
    wp_walk using go
    refine wpAny_stack_any fun _ => wpAny_pure ?_
    split
    · rename_i c _ _ _ _ _
      cases (c == Value.type "enumerate") <;> (wp_walk using go; exact ⟨_, rfl, z2⟩)
    · wp_walk using go
      exact ⟨_, rfl, z2⟩
section
variable {prog : Program} {w : World} {A : Around} {E : Value → Shared → Prop} {s : Shared}
theorem enum1_call {v : Value} {ob : Obj} {H : Heap → Prop} {Q : Value → Shared → Prop} (B : Begins v ob H) (z1 : H s.heap)
    (q : ∀ h', IsEnum h' (s.heap.objs.size + 1) s.heap.objs.size 0 .none → h'.get? s.heap.objs.size = some ob → h'.objs.size = s.heap.objs.size + 2 →
      (∀ b o, s.heap.get? b = some o → h'.get? b = some o) → Q (.ref (s.heap.objs.size + 1)) { s with heap := h' }) :
    wpAny (model prog w) A (call (.type "enumerate") [v]) Q E s := by
  refine callType_new F.called_enumerate (by decide) (F.typeCall_enumerate_1 _) (F.newCall_enumerate_1 _) (fun obj => F.args_object_init_2 obj _) F.entry_enumerate_new (enum1_meets B) ⟨z1, ?_⟩
  have sz : (s.heap.push ob).objs.size = s.heap.objs.size + 1 := Heap.size_push ..
  show _ ∧ _
  rw [sz]
  have ie : IsEnum ((s.heap.push ob).push { cls := .type "enumerate", data := .fields #[.none, .bool false, .ref s.heap.objs.size, rawInt 0, .none, .none] }) (s.heap.objs.size + 1) s.heap.objs.size 0 .none := by
    have z := Heap.get?_push_size (s.heap.push ob) (o := { cls := .type "enumerate", data := .fields #[.none, .bool false, .ref s.heap.objs.size, rawInt 0, .none, .none] }) rfl
    rw [sz] at z
    exact z
  exact ⟨⟨_, ie, rfl⟩, q _ ie (Heap.get?_push_of_some _ (Heap.get?_push_size _ B.free)) (by rw [Heap.size_push, sz]) fun b o y => Heap.get?_push_of_some _ (Heap.get?_push_of_some _ y)⟩
end
def IteT (K : PySem.W.Frag) (a : Addr) : L2.It :=
  ⟨fun i H => ∃ (xs : List V) (x : V), SqT K H a xs ∧ xs[i]? = some x, fun i H v H' => ∃ T x, v = .ref T ∧ H T = none ∧ H' = upd H T (.tup [.int (i : Nat), x]) ∧ ∀ xs, SqT K H a xs → xs[i]? = some x, fun i H => ∃ xs : List V, SqT K H a xs ∧ xs.length ≤ i⟩
theorem turn_enumT {P : Program} {w : World} {K : PySem.W.Frag} {elts : List Expr} {kk : Nat} {tpos : Pos} (a e it : Addr) :
    L2.Turn P w K (.Tuple elts kk tpos) (IteT K a) [e, it] e (fun i h => (∃ old, IsEnum h e it ((i : Nat) : Int) old) ∧ h.IsTupleIter it a i ∧ e ≠ it) where
  mem := by simp
  obj := fun i h st b hb => by
    obtain ⟨⟨old, ie⟩, ⟨o, ho, _, hd⟩, _⟩ := st
    rcases (show b = e ∨ b = it by simpa using hb) with z | z
    · rw [z]; exact ⟨_, ie, fun v q => nomatch q⟩
    · rw [z]; exact ⟨o, ho, fun v q => by rw [hd] at q; cases q⟩
  keep := fun i h h' st k => ⟨let ⟨old, ie⟩ := st.1; ⟨old, k e (by simp) _ ie⟩, st.2.1.at fun o q => k it (by simp) o q, st.2.2⟩
  item := by
    intro X hP hw hK hc i pins s σ H E I hf st hg
    subst hP hw hK
    obtain ⟨⟨old, ie⟩, ti, ne⟩ := st
    obtain ⟨xs, x, sx, xi⟩ := hg
    obtain ⟨its, rv, tp, _⟩ := I.tuple sx
    obtain ⟨u, hu, ru⟩ := rv.get xi
    have le : e < s.heap.objs.size := Heap.lt_size ie
    have li : it < s.heap.objs.size := by obtain ⟨_, q, _⟩ := ti; exact Heap.lt_size q
    have la : a ≠ it := by
      obtain ⟨o1, q1, q2, _⟩ := tp
      obtain ⟨o2, q3, q4, _⟩ := ti
      rintro rfl
      rw [q1] at q3; cases q3
      rw [q2] at q4
      exact absurd q4 (by decide)
    have hi : i < its.toArray.size := by
      have := (List.getElem?_eq_some_iff.mp hu).1
      simpa using this
    have ea : e ∉ [it, a] := by
      obtain ⟨o1, q1, q2, _⟩ := tp
      intro z
      rcases (show e = it ∨ e = a by simpa using z) with z | z
      · exact ne z
      · have z2 : s.heap.get? e = some { cls := .type "enumerate", data := .fields #[.none, .bool false, .ref it, rawInt i, .none, old] } := ie
        rw [z, q1] at z2
        cases z2
        have q3 : Value.type "enumerate" = Value.type "tuple" := q2
        exact absurd q3 (by decide)
    refine wpAny_pyNext_enum_itemD (Draws.tuple (A := X.A.in1) (I.ok.hd hc) it a la its.toArray) ie ⟨ti, tp⟩ hi ne ea fun y h' tk hy io st' hT hsz hk => ?_
    have ey : y = u := by
      have z : its.toArray[i]? = some u := by simpa using hu
      rw [z] at hy
      exact (Option.some.inj hy).symm
    subst ey
    refine ⟨_, rfl, wpAny_letOwnedTupleGo_enum (s := { s with heap := h', toks := tk + 1 }) io fun h2 ie2 sb => ?_⟩
    have tT : h2.get? s.heap.objs.size = some { cls := .type "tuple", data := .seq #[.int i tk, y] } := (sb.2 _ (Nat.ne_of_gt le)).trans hT
    have new : ObjOk X.prog X.w (upd H s.heap.objs.size (.tup [.int (i : Nat), x])) h2 s.heap.objs.size (.tup [.int (i : Nat), x]) :=
      ⟨by show 2 ≤ sizeLine; decide, [.int i tk, y], .cons ⟨_, rfl⟩ (.cons ru .nil), ⟨_, tT, rfl, _, rfl⟩⟩
    have I1 : L2.Inv X pins σ (upd H s.heap.objs.size (.tup [.int (i : Nat), x])) { s with heap := h2, toks := tk + 1 } :=
      I.turnedNew (ch := [e, it]) (fun b ob hb q => (sb.2 b (fun z => hb (by simp [z]))).trans (hk b ob (fun z => hb (by simp [z])) (fun z => hb (by simp [z])) q)) hf (Nat.le_refl _) new
    refine ⟨.ref s.heap.objs.size, _, I1, rfl, ⟨_, x, rfl, I.hok.fresh (Nat.le_refl _), rfl, fun ys hy => by rw [I.tuple_inj hy sx]; exact xi⟩, ⟨⟨y, ?_⟩, st'.1.at fun o q => (sb.2 it (Ne.symm ne)).trans q, ne⟩, fun b hb => ?_⟩
    · rw [show ((i + 1 : Nat) : Int) = (i : Int) + 1 by omega]
      exact ie2
    · have lb : b < s.heap.objs.size := by
        rcases (show b = e ∨ b = it by simpa using hb) with z | z
        · rw [z]; exact le
        · rw [z]; exact li
      rw [upd_ne (Nat.ne_of_lt lb)]
      exact (hf b hb).1
  done := by
    intro X hP hw hK hc i pins s σ H E I hf st hg
    subst hP hw hK
    obtain ⟨⟨old, ie⟩, ti, ne⟩ := st
    obtain ⟨xs, sx, xi⟩ := hg
    obtain ⟨its, rv, tp, _⟩ := I.tuple sx
    obtain ⟨f0, f1, f2, f3, f4, f5⟩ := hf it (by simp)
    have ty : s.TypeIs (.ref e) "enumerate" := ⟨_, ie, rfl⟩
    have big : its.toArray[i]? = none := by
      have := rv.length
      simp
      omega
    unfold pyNext
    refine wpAny_bind (wpAny_attempt ?_)
    refine wpAny_callSpecial?_slot (name := Str.ofString "__next__") ty F.slot_enumerate_next ?_
    refine wpAny_call_entry F.slot_enumerate_next ty F.entry_enumerate_next ?_ (F.args_enumerate_next_1 _)
    show wpAny _ _ (field (.ref e) 2 >>= _) _ _ _
    refine wpAny_bind (wpAny_field ie rfl (x := .ref it) rfl (wpAny_bind ?_))
    refine wpAny_nextOf_tuple_end (A := X.A.in1) (I.ok.hd hc) ti tp big fun h' x eb hx' => ?_
    obtain ⟨o, ho, hcl⟩ := hx'
    exact wpAny_bind (wpAny_isInstance (T := "StopIteration") (b := true) ⟨o, ho, hcl⟩ isSubtype_stop (wpAny_pure ⟨rfl, I.turned (t' := s.toks) (fun b o hb q => eb b o hb q) f0 f1 f3 f4 f5⟩))
  self := fun B i s Q E st h => let ⟨⟨_, ie⟩, _⟩ := st; wpAny_pyIter_enum ie h
theorem pi_enumT {X : Cx} {e : Expr} {te : TE} {p pos tpos : Pos} {elts : List Expr} {kk : Nat} (hg : Gl X "enumerate") (hm : X.mg "enumerate" = none) (he : PE X e te) (ns : ∀ x p, e ≠ .Starred x p) :
    PI X (.Tuple elts kk tpos) (.Call (.Name "enumerate" p) [e] [] pos) (fun σ H R => te σ H fun v H1 => ∃ a xs, [v] = [V.ref a] ∧ ((SqL X.K H1 a xs ∧ R (Ite X.K a) H1) ∨ (SqT X.K H1 a xs ∧ R (IteT X.K a) H1))) := by
  have st : starEach [e] X.env = [(false, eval e X.env)] := by
    cases e with
    | Starred x p => exact absurd rfl (ns x p)
    | _ => simp only [starEach]
  refine ⟨fun pins s σ H R I q => ?_⟩
  have ha : PA X [e] (tCons te tNil) := pa_cons he pa_nil (by rw [st]; rfl)
  refine Call_ (ld_blt I hg hm boot_enumerate (PyProof.Rows.callWith_type1 (thn (ha.run pos pins s σ H (fun vs H1 => ∃ a xs, vs = [V.ref a] ∧ ((SqL X.K H1 a xs ∧ R (Ite X.K a) H1) ∨ (SqT X.K H1 a xs ∧ R (IteT X.K a) H1))) I ?_) fun us s1 ⟨vs, H1, I1, r1, q1⟩ => ?_) st rfl))
  · exact q
  · obtain ⟨a, xs, rfl, q⟩ := q1
    obtain ⟨u, rfl, ru⟩ := vals1 r1
    cases ru
    have stands : ∀ b : Addr, b ∈ [s1.heap.objs.size + 1, s1.heap.objs.size] → s1.heap.objs.size ≤ b := fun b hb => by
      rcases (show b = s1.heap.objs.size + 1 ∨ b = s1.heap.objs.size by simpa using hb) with z | z
      · rw [z]; exact Nat.le_add_right _ _
      · rw [z]; exact Nat.le_refl _
    rcases q with ⟨sx, q⟩ | ⟨sx, q⟩
    · obtain ⟨its, rv, lp, _⟩ := I1.list sx
      refine call_enumerate_list lp.isList fun h' ie it _ hk => wpAny_pyIter_enum ie ?_
      exact ⟨s1.heap.objs.size + 1, [s1.heap.objs.size + 1, s1.heap.objs.size], _, _, H1, rfl, I1.kept (t' := s1.toks) hk, turn_enum a _ _, ⟨⟨.none, ie⟩, it, Nat.succ_ne_self _⟩, fun b hb => I1.fpOk (stands b hb) (I1.hok.fresh (stands b hb)), q⟩
    · obtain ⟨its, rv, tp, _⟩ := I1.tuple sx
      refine enum1_call (begins_tuple a its.toArray) tp fun h' ie it _ hk => wpAny_pyIter_enum ie ?_
      exact ⟨s1.heap.objs.size + 1, [s1.heap.objs.size + 1, s1.heap.objs.size], _, _, H1, rfl, I1.kept (t' := s1.toks) hk, turn_enumT a _ _, ⟨⟨.none, ie⟩, ⟨_, it, rfl, rfl⟩, Nat.succ_ne_self _⟩, fun b hb => I1.fpOk (stands b hb) (I1.hok.fresh (stands b hb)), q⟩
end Wm
end

section
set_option Elab.async false
set_option linter.all false
set_option maxRecDepth 100000
set_option maxHeartbeats 4000000
set_option autoImplicit false
/-! Runs of the own language are runs of the machine: expressions. -/
namespace Wm
open PySem PySem.Spec PyProof.Rows L2

/-- a def that keeps a promise where no repr is under way -/
structure FnW (P : Program) (w : World) (K : PySem.W.Frag) (mg : Str → Option Value) (base : Heap) (k : Nat) (f : Addr) (fd : FuncData) (ps : List Str) (sp : Sp) : Prop where
  len : ∀ vs H Q E, sp vs H Q E → vs.length = ps.length
  run : ∀ (B : Around) (outer : List Env) (s : Shared) (H : Hp) (args : Args) (us : List Value) (vs : List V) (Q : VK) (E : XK), B.guards = some [] → Room k B → Env0 P w K mg base B outer s H → BindsTo s fd args (ps.zip us) → Vals vs us → sp vs H Q E →
    codeAny (model P w) B (.call (.ref f) args) (CR (L2.CX P w) outer P w H s Q E) s
section
variable {X : Cx} {k : Nat} {f : Addr} {fd : FuncData} {ps : List Str} {sp : Sp} {E : XK}
theorem call_fnW {pins : List (Addr × Obj)} {σ : L2.St} {H : Hp} {s : Shared} {Q : VK} {us : List Value} {vs : List V} (F : FnW X.prog X.w X.K X.mg X.base k f fd ps sp) (hg : X.A.guards = some []) (hr : Room k X.A) (hb : Binds X.K fd ps [])
    (hx : Passes (L2.CX X.prog X.w) X E) (I : L2.Inv X pins σ H s) (r : Vals vs us) (q : sp vs H Q E) : wpAny (model X.prog X.w) X.A (call (.ref f) us) (EP X pins σ Q) X.xe s := by
  have hl : (us ++ ([] : List Value)).length = ps.length := by rw [List.append_nil, ← r.length]; exact F.len _ _ _ _ q
  have hb' := hb s us I.kIn hl
  rw [List.append_nil] at hb'
  refine wpAny_call (codeAny_mono (F.run X.A X.stack s H ⟨us, []⟩ us vs Q E hg hr I.env0 hb' r q) fun res s' hq => ?_)
  cases res with
  | error e => exact hx pins σ H s e s' I hq
  | ok fl => cases fl with
    | ret u => exact I.after hq
    | _ => exact hq.elim
end
def spW (A : At) (tab : List Fn) (k i : Nat) : Sp := fun vs H Q E => ∃ (m : List Addr) (h : OH) (ws : List W), RelH A m h H ∧ Reps A m H ws vs ∧ Post E (rW A) m H (callN tab k i ws h) Q
/-- where code runs -/
structure Ctx (A : At) (tab : List Fn) (nm : List Str) (cn : List (Str × W)) (N : List Str) (k : Nat) (X : Cx) (sc raw : Scope) (ew : XK) : Prop extends Calm A X where
  eN : X.N = N
  nd : N.Nodup
  sc : X.env.scope = sc
  room : Room k X.A
  pass : PassesOwn (model X.prog X.w) X.A X.env X.xe
  hx : Passes (L2.CX X.prog X.w) X ew
  tgt : ∀ x, loc raw x = true → Loc X.env.scope x ∧ (X.fn x = true ∨ X.env.scope.names.lookup x = some .local)
  blt : ∀ x ∈ biNames, X.mg x = none
  cns : ∀ x w, (x, w) ∈ cn → ∃ u v, X.mg x = some u ∧ RelV v u ∧ ∀ m H, Rep A m H w v
  fns : ∀ (i : Nat) (x : Str), nm[i]? = some x → ∃ f fd ps, X.mg x = some (.ref f) ∧ PySem.W.keepIn X.K (.ref f) = true ∧ Binds X.K fd ps [] ∧ FnW X.prog X.w X.K X.mg X.base k f fd ps (spW A tab k i)
section
variable {A : At} {ew : XK}
theorem Post.mono {α β : Type} {rl : Rl A α β} {m : List Addr} {H : Hp} {r : R α} {Q Q' : β → Hp → Prop} (p : Post ew rl m H r Q) (i : ∀ b H', Q b H' → Q' b H') : Post ew rl m H r Q' := by
  cases r with
  | ok a h' => exact fun m' b H' g r q => i b H' (p m' b H' g r q)
  | exc c fs h' => exact p
  | no => exact p
theorem tA.mono {α β γ δ : Type} {ρ : Rl A α β} {rl : Rl A γ δ} {g : α → Sl → OH → R γ} {b : β} {σ : L2.St} {H : Hp} {Q Q' : δ → Hp → Prop} (t : tA ew ρ rl g b σ H Q) (i : ∀ b H', Q b H' → Q' b H') : tA ew ρ rl g b σ H Q' := by
  obtain ⟨m, h, s, a, rh, rs, ra, p⟩ := t
  exact ⟨m, h, s, a, rh, rs, ra, p.mono i⟩
theorem tA.stepF {α β γ δ ε ζ : Type} {ρ : Rl A α β} {rl : Rl A γ δ} {b : β} {σ : L2.St} {H : Hp} {Q : δ → Hp → Prop} (r1 : Rl A ε ζ) (c : Sl → OH → R ε) (g : α × ε → Sl → OH → R γ)
    (t : tA ew ρ rl (fun a s h => (c s h).bind fun x h1 => g (a, x) s h1) b σ H Q) : tG ew r1 c σ H (fun y H1 => tA ew (rP A ρ r1) rl g (b, y) σ H1 Q) := (tA.step (r1 := r1) (c := fun _ => c) (g := g) t).forget
end
theorem notStar_map {env : Env} : ∀ {es : List Expr}, (∀ e ∈ es, ∀ x p, e ≠ .Starred x p) → starEach es env = es.map fun e => (false, eval e env)
  | [], _ => by simp [starEach]
  | e :: es, h => by
    have h1 : ∀ x p, e ≠ .Starred x p := h e List.mem_cons_self
    have h2 := notStar_map (env := env) fun e' he' => h e' (List.mem_cons_of_mem _ he')
    cases e with
    | Starred x p => exact absurd rfl (h1 x p)
    | _ => simp only [starEach, List.map_cons, h2]
theorem notStar_cons {env : Env} {e : Expr} {es : List Expr} (h : ∀ x p, e ≠ .Starred x p) : starEach (e :: es) env = (false, eval e env) :: starEach es env := by
  cases e with
  | Starred x p => exact absurd rfl (h x p)
  | _ => simp only [starEach]
section
variable (nm : List Str) (cn : List (Str × W)) (N : List Str)
theorem chkE_star (sc : Scope) (e' : E) (x : Expr) (p : Pos) : chkE nm cn N sc e' (.Starred x p) = false := by
  induction e' with
  | gc a ih => simp only [chkE]; exact ih
  | _ => simp only [chkE]
theorem chkA_star (sc : Scope) : ∀ (e' : E) (es : List Expr), chkA nm cn N sc e' es = true → ∀ e ∈ es, ∀ x p, e ≠ .Starred x p := by
  intro e' es
  induction es generalizing e' with
  | nil => intro _ e he; simp at he
  | cons y ys ih =>
    intro h e he x p
    cases e' with
    | cons a r =>
      simp only [chkA, Bool.and_eq_true] at h
      rcases List.mem_cons.mp he with rfl | he
      · intro z
        rw [z, chkE_star] at h
        cases h.1
      · exact ih r h.2 e he x p
    | nil => simp [chkA] at h
    | _ => simp [chkA] at h
end

/-! ### what is walked -/
structure IR (A : At) (J : L2.It) (ws : List W) (wt : List (Nat × List W)) (m0 : List Addr) (H0 : Hp) : Prop where
  go : ∀ (i : Nat) (w : W) (m : List Addr) (h : OH) (H : Hp), Grow m0 H0 m H → RelH A m h H → still h wt = true → ws[i]? = some w → J.go i H ∧ ∀ x H', J.yld i H x H' → Grow m H m H' ∧ RelH A m h H' ∧ Rep A m H' w x
  stop : ∀ (m : List Addr) (h : OH) (H : Hp), Grow m0 H0 m H → RelH A m h H → still h wt = true → J.stop ws.length H
theorem IR.grow {A : At} {J : L2.It} {ws : List W} {wt : List (Nat × List W)} {m0 m1 : List Addr} {H0 H1 : Hp} (q : IR A J ws wt m0 H0) (g : Grow m0 H0 m1 H1) : IR A J ws wt m1 H1 :=
  ⟨fun i w m h H g2 => q.go i w m h H (g.trans g2), fun m h H g2 => q.stop m h H (g.trans g2)⟩
def rI (A : At) : Rl A It L2.It := ⟨fun m H p J => IR A J p.1 p.2 m H, fun _ g q => q.grow g⟩
section
variable {A : At} {m : List Addr} {h : OH} {H : Hp}
theorem still_at {wt : List (Nat × List W)} {n : Nat} {ws : List W} (s : still h wt = true) (hm : (n, ws) ∈ wt) : items h n = some ws := by
  induction wt with
  | nil => simp at hm
  | cons p r ih =>
    rw [still, Bool.and_eq_true] at s
    rcases List.mem_cons.mp hm with e | e
    · subst e
      have s1 := s.1
      dsimp only at s1
      split at s1
      · rename_i us e2
        rw [e2, W.beqs_eq s1]
      · cases s1
    · exact ih s.2 e
theorem IR.list {K : PySem.W.Frag} (hK : A.K = K) {n : Nat} {ws : List W} {wt : List (Nat × List W)} {a : Addr} (hm : (n, ws) ∈ wt) (ha : m[n]? = some a) : IR A (Itl K a) ws wt m H := by
  subst hK
  refine ⟨fun i w m1 h1 H1 g r s e => ?_, fun m1 h1 H1 g r s => ?_⟩
  · obtain ⟨vs, q, k⟩ := r.its (still_at s hm) (g.get ha)
    obtain ⟨v, hv, rv⟩ := k.get e
    refine ⟨⟨vs, v, q, hv⟩, fun x H' y => ?_⟩
    obtain ⟨rfl, y⟩ := y
    have := y vs q
    rw [hv] at this; cases this
    exact ⟨Grow.refl _ _, r, rv⟩
  · obtain ⟨vs, q, k⟩ := r.its (still_at s hm) (g.get ha)
    exact ⟨vs, q, Nat.le_of_eq k.length.symm⟩
theorem IR.tuple {K : PySem.W.Frag} (hK : A.K = K) (rh : RelH A m h H) {ws : List W} {vs : List V} {wt : List (Nat × List W)} {a : Addr} (q : SqT A.K H a vs) (k : Reps A m H ws vs) : IR A (Itt K a) ws wt m H := by
  subst hK
  refine ⟨fun i w m1 h1 H1 g r s e => ?_, fun m1 h1 H1 g r s => ⟨vs, SqT.grow rh g q, Nat.le_of_eq k.length.symm⟩⟩
  obtain ⟨v, hv, rv⟩ := (Reps.grow rh g k).get e
  refine ⟨⟨vs, v, SqT.grow rh g q, hv⟩, fun x H' y => ?_⟩
  obtain ⟨rfl, y⟩ := y
  have := y vs (SqT.grow rh g q)
  rw [hv] at this; cases this
  exact ⟨Grow.refl _ _, r, rv⟩
theorem rangeI_get : ∀ (n : Nat) (lo : Int) (i : Nat) (w : W), (rangeI lo n)[i]? = some w → i < n ∧ w = .int (lo + i)
  | 0, lo, i, w, e => by simp [rangeI] at e
  | n + 1, lo, 0, w, e => by simp [rangeI] at e; exact ⟨by omega, by rw [← e]; simp⟩
  | n + 1, lo, i + 1, w, e => by
    obtain ⟨h1, h2⟩ := rangeI_get n (lo + 1) i w (by simpa [rangeI] using e)
    exact ⟨by omega, by rw [h2]; congr 1; omega⟩
theorem rangeI_length : ∀ (n : Nat) (lo : Int), (rangeI lo n).length = n
  | 0, _ => rfl
  | n + 1, lo => by simp [rangeI, rangeI_length n]
theorem IR.range (lo : Int) (n : Nat) (wt : List (Nat × List W)) : IR A (Itr lo n) (rangeI lo n) wt m H := by
  refine ⟨fun i w m1 h1 H1 g r s e => ?_, fun m1 h1 H1 g r s => Nat.le_of_eq (rangeI_length n lo).symm⟩
  obtain ⟨hi, rfl⟩ := rangeI_get n lo i w e
  refine ⟨hi, fun x H' y => ?_⟩
  obtain ⟨rfl, rfl⟩ := y
  exact ⟨Grow.refl _ _, r, .int _⟩
theorem enumT_get : ∀ (ws : List W) (k : Int) (i : Nat) (w : W), (enumT k ws)[i]? = some w → ∃ u, ws[i]? = some u ∧ w = .tup [.int (k + i), u]
  | [], k, i, w, e => by simp [enumT] at e
  | u :: ws, k, 0, w, e => by simp [enumT] at e; exact ⟨u, rfl, by rw [← e]; simp⟩
  | u :: ws, k, i + 1, w, e => by
    obtain ⟨z, h1, h2⟩ := enumT_get ws (k + 1) i w (by simpa [enumT] using e)
    exact ⟨z, by simpa using h1, by rw [h2]; congr 3; omega⟩
theorem enumT_length : ∀ (ws : List W) (k : Int), (enumT k ws).length = ws.length
  | [], _ => rfl
  | _ :: ws, k => by simp [enumT, enumT_length ws]
theorem pair_new {m1 : List Addr} {h1 : OH} {H1 : Hp} (r : RelH A m1 h1 H1) {w u : W} {x y : V} {T : Addr} (hT : H1 T = none) (rx : Rep A m1 H1 w x) (ry : Rep A m1 H1 u y) :
    Grow m1 H1 m1 (upd H1 T (.tup [x, y])) ∧ RelH A m1 h1 (upd H1 T (.tup [x, y])) ∧ Rep A m1 (upd H1 T (.tup [x, y])) (.tup [w, u]) (.ref T) := by
  obtain ⟨r2, g⟩ := r.side (o := .tup [x, y]) hT
  exact ⟨g, r2, .tup (SqT.of upd_same) (.cons (rx.grow r g) (.cons (ry.grow r g) .nil))⟩
theorem IR.enumL {K : PySem.W.Frag} (hK : A.K = K) {n : Nat} {ws : List W} {wt : List (Nat × List W)} {a : Addr} (hm : (n, ws) ∈ wt) (ha : m[n]? = some a) : IR A (Ite K a) (enumT 0 ws) wt m H := by
  subst hK
  refine ⟨fun i w m1 h1 H1 g r s e => ?_, fun m1 h1 H1 g r s => ?_⟩
  · obtain ⟨u, e1, rfl⟩ := enumT_get ws 0 i w e
    obtain ⟨vs, q, k⟩ := r.its (still_at s hm) (g.get ha)
    obtain ⟨v, hv, rv⟩ := k.get e1
    refine ⟨⟨vs, v, q, hv⟩, fun x H' y => ?_⟩
    obtain ⟨T, x', rfl, hT, rfl, y⟩ := y
    have := y vs q
    rw [hv] at this; cases this
    rw [Int.zero_add]
    exact pair_new r hT (.int _) rv
  · obtain ⟨vs, q, k⟩ := r.its (still_at s hm) (g.get ha)
    exact ⟨vs, q, by rw [enumT_length]; exact Nat.le_of_eq k.length.symm⟩
theorem IR.enumT {K : PySem.W.Frag} (hK : A.K = K) (rh : RelH A m h H) {ws : List W} {vs : List V} {wt : List (Nat × List W)} {a : Addr} (q : SqT A.K H a vs) (k : Reps A m H ws vs) : IR A (IteT K a) (Wm.enumT 0 ws) wt m H := by
  subst hK
  refine ⟨fun i w m1 h1 H1 g r s e => ?_, fun m1 h1 H1 g r s => ⟨vs, SqT.grow rh g q, by rw [enumT_length]; exact Nat.le_of_eq k.length.symm⟩⟩
  obtain ⟨u, e1, rfl⟩ := enumT_get ws 0 i w e
  obtain ⟨v, hv, rv⟩ := (Reps.grow rh g k).get e1
  refine ⟨⟨vs, v, SqT.grow rh g q, hv⟩, fun x H' y => ?_⟩
  obtain ⟨T, x', rfl, hT, rfl, y⟩ := y
  have := y vs (SqT.grow rh g q)
  rw [hv] at this; cases this
  rw [Int.zero_add]
  exact pair_new r hT (.int _) rv
theorem zipT_get : ∀ (ws us : List W) (i : Nat) (w : W), (zipT ws us)[i]? = some w → ∃ a b, ws[i]? = some a ∧ us[i]? = some b ∧ w = .tup [a, b]
  | [], us, i, w, e => by simp [zipT] at e
  | _ :: _, [], i, w, e => by simp [zipT] at e
  | a :: ws, b :: us, 0, w, e => by simp [zipT] at e; exact ⟨a, b, rfl, rfl, e.symm⟩
  | a :: ws, b :: us, i + 1, w, e => by
    obtain ⟨x, y, h1, h2, h3⟩ := zipT_get ws us i w (by simpa [zipT] using e)
    exact ⟨x, y, by simpa using h1, by simpa using h2, h3⟩
theorem zipT_length : ∀ (ws us : List W), (zipT ws us).length = min ws.length us.length
  | [], us => by simp [zipT]
  | _ :: _, [] => by simp [zipT]
  | a :: ws, b :: us => by simp [zipT, zipT_length ws us, Nat.succ_min_succ]
theorem IR.zipL {K : PySem.W.Frag} (hK : A.K = K) {n k : Nat} {ws us : List W} {wt : List (Nat × List W)} {a b : Addr} (hm : (n, ws) ∈ wt) (hk : (k, us) ∈ wt) (ha : m[n]? = some a) (hb : m[k]? = some b) : IR A (Itz K a b) (zipT ws us) wt m H := by
  subst hK
  refine ⟨fun i w m1 h1 H1 g r s e => ?_, fun m1 h1 H1 g r s => ?_⟩
  · obtain ⟨x, y, e1, e2, rfl⟩ := zipT_get ws us i w e
    obtain ⟨vs, q, k1⟩ := r.its (still_at s hm) (g.get ha)
    obtain ⟨vs2, q2, k2⟩ := r.its (still_at s hk) (g.get hb)
    obtain ⟨v, hv, rv⟩ := k1.get e1
    obtain ⟨v2, hv2, rv2⟩ := k2.get e2
    refine ⟨⟨vs, vs2, v, v2, q, q2, hv, hv2⟩, fun x H' y => ?_⟩
    obtain ⟨T, x', y', rfl, hT, rfl, y1, y2⟩ := y
    have z1 := y1 vs q
    rw [hv] at z1; cases z1
    have z2 := y2 vs2 q2
    rw [hv2] at z2; cases z2
    exact pair_new r hT rv rv2
  · obtain ⟨vs, q, k1⟩ := r.its (still_at s hm) (g.get ha)
    obtain ⟨vs2, q2, k2⟩ := r.its (still_at s hk) (g.get hb)
    have l1 := k1.length
    have l2 := k2.length
    exact ⟨vs, vs2, q, q2, by rw [zipT_length]; omega⟩
theorem IR.zipT {K : PySem.W.Frag} (hK : A.K = K) (rh : RelH A m h H) {ws us : List W} {vs vs2 : List V} {wt : List (Nat × List W)} {a b : Addr} (q : SqT A.K H a vs) (k1 : Reps A m H ws vs) (q2 : SqT A.K H b vs2) (k2 : Reps A m H us vs2) :
    IR A (RZ.ItzT K a b) (Wm.zipT ws us) wt m H := by
  subst hK
  have l1 := k1.length
  have l2 := k2.length
  refine ⟨fun i w m1 h1 H1 g r s e => ?_, fun m1 h1 H1 g r s => ⟨vs, vs2, SqT.grow rh g q, SqT.grow rh g q2, by rw [zipT_length]; omega⟩⟩
  obtain ⟨x, y, e1, e2, rfl⟩ := zipT_get ws us i w e
  obtain ⟨v, hv, rv⟩ := (Reps.grow rh g k1).get e1
  obtain ⟨v2, hv2, rv2⟩ := (Reps.grow rh g k2).get e2
  refine ⟨⟨vs, vs2, v, v2, SqT.grow rh g q, SqT.grow rh g q2, hv, hv2⟩, fun x H' y => ?_⟩
  obtain ⟨T, x', y', rfl, hT, rfl, y1, y2⟩ := y
  have z1 := y1 vs (SqT.grow rh g q)
  rw [hv] at z1; cases z1
  have z2 := y2 vs2 (SqT.grow rh g q2)
  rw [hv2] at z2; cases z2
  exact pair_new r hT rv rv2
end
end Wm
end

section
set_option Elab.async false
set_option linter.all false
set_option maxRecDepth 100000
set_option maxHeartbeats 4000000
set_option autoImplicit false
namespace Wm
open PySem PySem.Spec PyProof.Rows L2

section
variable {A : At} {tab : List Fn} {nm : List Str} {cn : List (Str × W)} {N : List Str} {k : Nat} {X : Cx} {sc raw : Scope} {ew : XK}
theorem Ctx.gl (C : Ctx A tab nm cn N k X sc raw ew) {x : Str} (h : isGl sc x = true) : Gl X x := by
  unfold isGl at h
  split at h
  · rename_i e
    show X.env.scope.names.lookup x = _
    rw [C.sc]
    exact e
  · cases h
theorem Ctx.vis (C : Ctx A tab nm cn N k X sc raw ew) {x : Str} (h : vis sc x = true) : Vis X.env.scope x := by
  unfold Wm.vis at h
  unfold Vis
  rw [C.sc]
  split at h
  · exact .inl (by assumption)
  · exact .inr (.inl (by assumption))
  · exact .inr (.inr (by assumption))
  · cases h
/-! ### the rule for a name -/
theorem pe_v (C : Ctx A tab nm cn N k X sc raw ew) {i : Nat} {e : Expr} (h : chkE nm cn N sc (.v i) e = true) : PE X e (tG ew (rW A) (ev (callN tab k) (.v i))) := by
  simp only [chkE] at h
  split at h
  · rename_i x p
    simp only [Bool.and_eq_true, Bool.not_eq_true', decide_eq_true_eq] at h
    refine PE.weak (pe_var (i := i) (by rw [C.eN]; exact h.1.1.1) (C.vis h.1.1.2) h.1.2 h.2) fun σ H Q t => ?_
    obtain ⟨m, hp, s, _, rh, rs, _, p⟩ := t
    have p : Post ew (rW A) m H (match getS s i with | some w => .ok w hp | none => .no) Q := p
    split at p
    · rename_i w e
      obtain ⟨v, e1, r⟩ := rs.at_ i w e
      exact ⟨v, e1, p.now rh r⟩
    · exact p.elim
  · cases h
theorem cst_ok {w : W} {c : Const} (h : cstOk w c = true) {j : Nat} {p : Pos} : ∃ v, PE X (.Constant c j p) (tC v) ∧ ∀ m H, Rep A m H w v := by
  unfold cstOk at h
  split at h
  · exact ⟨.non, pe_non, fun _ _ => .non⟩
  · rename_i a b
    have e : a = b := by simpa using h
    subst e
    exact ⟨.bl a, pe_bl, fun _ _ => .bl a⟩
  · rename_i a b
    have e : a = b := by simpa using h
    subst e
    exact ⟨.int a, pe_int, fun _ _ => .int a⟩
  · rename_i a b
    have e : a = b := by simpa using h
    subst e
    exact ⟨.str a, pe_str, fun _ _ => .str a⟩
  · cases h
theorem tG_c {w : W} {v : V} {σ : L2.St} {H : Hp} {Q : VK} {G : Nat → List W → OH → R W} (t : tG ew (rW A) (ev G (.c w)) σ H Q) (r : ∀ m H, Rep A m H w v) : Q v H := by
  obtain ⟨m, hp, s, _, rh, rs, _, p⟩ := t
  exact Post.now p rh (r m H)
theorem pe_c (C : Ctx A tab nm cn N k X sc raw ew) {w : W} {e : Expr} (h : chkE nm cn N sc (.c w) e = true) : PE X e (tG ew (rW A) (ev (callN tab k) (.c w))) := by
  simp only [chkE] at h
  split at h
  · obtain ⟨v, e1, r⟩ := cst_ok (A := A) (X := X) h
    exact PE.weak e1 fun σ H Q t => tG_c t r
  · rename_i x p
    simp only [Bool.and_eq_true, Bool.not_eq_true', List.any_eq_true, decide_eq_true_eq] at h
    obtain ⟨⟨h1, h2⟩, ⟨y, w'⟩, hm, rfl, hb⟩ := h
    have e := W.beq_eq hb
    dsimp only at e
    subst e
    obtain ⟨u, v, e1, e2, e3⟩ := C.cns _ _ hm
    exact PE.weak (pe_glob (C.gl h1) e1 e2 h2) fun σ H Q t => tG_c t e3
  · cases h
/-! ### what holds of each expression -/
structure Snd (A : At) (tab : List Fn) (nm : List Str) (cn : List (Str × W)) (N : List Str) (k : Nat) (a : E) : Prop where
  fe : ∀ (X : Cx) (sc raw : Scope) (ew : XK) (e : Expr), Ctx A tab nm cn N k X sc raw ew → chkE nm cn N sc a e = true → PE X e (tG ew (rW A) (ev (callN tab k) a))
  ft : ∀ (X : Cx) (sc raw : Scope) (ew : XK) (e : Expr), Ctx A tab nm cn N k X sc raw ew → chkE nm cn N sc a e = true → PT X e (tG ew (rE A Bool) (evT (callN tab k) a))
  fa : ∀ (X : Cx) (sc raw : Scope) (ew : XK) (es : List Expr), Ctx A tab nm cn N k X sc raw ew → chkA nm cn N sc a es = true → PA X es (tG ew (rWs A) (evs (callN tab k) a))
  fo : ∀ (X : Cx) (sc raw : Scope) (ew : XK) (e : Option Expr), Ctx A tab nm cn N k X sc raw ew → chkO nm cn N sc a e = true → PO X e (tG ew (rE A (Option Int)) (evO (callN tab k) a))
  fc : ∀ (X : Cx) (sc raw : Scope) (ew : XK) (es : List Expr), Ctx A tab nm cn N k X sc raw ew → chkC nm cn N sc a es = true → PTs X es (tG ew (rE A Bool) (evC (callN tab k) a))
  fi : ∀ (X : Cx) (sc raw : Scope) (ew : XK) (e tg : Expr), Ctx A tab nm cn N k X sc raw ew → (!needT a || isTup tg) = true → chkI nm cn N sc a e = true → PI X tg e (tG ew (rI A) (evI (callN tab k) a))
theorem no_post {α β : Type} {rl : Rl A α β} {σ : L2.St} {H : Hp} {Q : β → Hp → Prop} {g : Sl → OH → R α} (t : tG ew rl g σ H Q) (e : ∀ s h, g s h = .no) : False := by
  obtain ⟨m, hp, s, _, rh, rs, _, p⟩ := t
  have p : Post ew rl m H (g s hp) Q := p
  rw [e] at p
  exact p
/-- no run at all: any reading does -/
theorem PT.none {e : Expr} {g : Sl → OH → R Bool} (h : ∀ s h, g s h = .no) : PT X e (tG ew (rE A Bool) g) := ⟨fun _ _ _ _ _ _ t => (no_post t h).elim⟩
theorem PE.none {e : Expr} {g : Sl → OH → R W} (h : ∀ s h, g s h = .no) : PE X e (tG ew (rW A) g) := ⟨fun _ _ _ _ _ _ t => (no_post t h).elim⟩
/-- a run whose value is a truth value, as a test -/
theorem asB_ok {m : List Addr} {h : OH} {H : Hp} {w : W} {x : V} {Q : Bool → Hp → Prop} (rh : RelH A m h H) (r : Rep A m H w x) (p : Post ew (rE A Bool) m H (asB w h) Q) : ∃ c, x = .bl c ∧ Q c H := by
  cases r with
  | bl b => exact ⟨b, rfl, p m b H (Grow.refl _ _) rh rfl⟩
  | _ => exact p.elim
theorem asT_ok (hK : X.K = A.K) {m : List Addr} {h : OH} {H : Hp} {w : W} {x : V} {Q : Bool → Hp → Prop} (rh : RelH A m h H) (r : Rep A m H w x) (p : Post ew (rE A Bool) m H (asT w h) Q) : ∃ c, TruV X.K x H c ∧ Q c H := by
  unfold asT at p
  split at p
  · rename_i b e
    exact ⟨b, by rw [hK]; exact tru_rep rh e r, p m b H (Grow.refl _ _) rh rfl⟩
  · exact p.elim
theorem tG_toB {g : Sl → OH → R W} {σ : L2.St} {H : Hp} {Q : Bool → Hp → Prop} (t : tG ew (rE A Bool) (fun s h => (g s h).bind asB) σ H Q) : tG ew (rW A) g σ H (fun x H1 => ∃ c, x = .bl c ∧ Q c H1) := by
  refine (tA.stepF (rW A) g (fun p _ h => asB p.2 h) t).mono fun x H1 t1 => ?_
  obtain ⟨m, h, s, a, rh, rs, ⟨_, ra⟩, p⟩ := t1
  exact asB_ok rh ra p
theorem tG_toB2 (hK : X.K = A.K) {g : Sl → OH → R W} {σ : L2.St} {H : Hp} {Q : Bool → Hp → Prop} (t : tG ew (rE A Bool) (fun s h => (g s h).bind asT) σ H Q) : tG ew (rW A) g σ H (fun x H1 => ∃ c, TruV X.K x H1 c ∧ Q c H1) := by
  refine (tA.stepF (rW A) g (fun p _ h => asT p.2 h) t).mono fun x H1 t1 => ?_
  obtain ⟨m, h, s, a, rh, rs, ⟨_, ra⟩, p⟩ := t1
  exact asT_ok hK rh ra p
/-- the value's truth, where the machine just asks for it -/
theorem pt_of {e : Expr} {g : Sl → OH → R W} (hK : X.K = A.K) (h : PE X e (tG ew (rW A) g)) (he : ∀ whole, isTrue e X.env whole = (do let v ← whole; standAt e.pos; holding [v] (truthy v))) : PT X e (tG ew (rE A Bool) fun s h => (g s h).bind asT) :=
  PT.weak (pt_truth h he) fun σ H Q t => tG_toB2 hK t
end
end Wm
end

section
set_option Elab.async false
set_option linter.all false
set_option maxRecDepth 100000
set_option maxHeartbeats 4000000
set_option autoImplicit false
namespace Wm
open PySem PySem.Spec PyProof.Rows L2

section
variable {A : At} {tab : List Fn} {nm : List Str} {cn : List (Str × W)} {N : List Str} {k : Nat} {X : Cx} {sc raw : Scope} {ew : XK}
/-! the steps of a reading that are common -/
theorem two {α β : Type} {ga gb : Sl → OH → R W} {f : W → W → OH → R W} {σ : L2.St} {H : Hp} {Q : VK} (t : tG ew (rW A) (fun s h => (ga s h).bind fun x h1 => (gb s h1).bind fun y h2 => f x y h2) σ H Q) :
    tG ew (rW A) ga σ H (fun x H1 => tG ew (rW A) gb σ H1 (fun y H2 => o2 A ew f x y H2 Q)) :=
  (tA.stepF (ρ := rNo A) (rW A) ga (fun p s h => (gb s h).bind fun y h2 => f p.2 y h2) t).mono fun x H1 t1 =>
    (tA.stepF (ρ := rP A (rNo A) (rW A)) (rW A) gb (fun p _ h => f p.1.2 p.2 h) t1).mono fun y H2 ⟨m, h, s, a, rh, rs, ⟨⟨_, r1⟩, r2⟩, p⟩ => ⟨m, h, a.1.2, a.2, rh, r1, r2, p⟩
theorem one {ga : Sl → OH → R W} {f : W → OH → R W} {σ : L2.St} {H : Hp} {Q : VK} (t : tG ew (rW A) (fun s h => (ga s h).bind fun x h1 => f x h1) σ H Q) :
    tG ew (rW A) ga σ H (fun x H1 => c1v A ew f x H1 Q) :=
  (tA.stepF (ρ := rNo A) (rW A) ga (fun p _ h => f p.2 h) t).mono fun x H1 ⟨m, h, s, a, rh, rs, ⟨_, r1⟩, p⟩ => ⟨m, h, a.2, rh, r1, p⟩
theorem many {ga : Sl → OH → R (List W)} {f : List W → OH → R W} {σ : L2.St} {H : Hp} {Q : VK} (t : tG ew (rW A) (fun s h => (ga s h).bind fun x h1 => f x h1) σ H Q) :
    tG ew (rWs A) ga σ H (fun xs H1 => c1 A ew f xs H1 Q) :=
  (tA.stepF (ρ := rNo A) (rWs A) ga (fun p _ h => f p.2 h) t).mono fun x H1 ⟨m, h, s, a, rh, rs, ⟨_, r1⟩, p⟩ => ⟨m, h, a.2, rh, r1, p⟩
/-- an if by a test -/
theorem byTest {γ δ : Type} {rl : Rl A γ δ} {gt : Sl → OH → R Bool} {g1 g2 : Sl → OH → R γ} {σ : L2.St} {H : Hp} {Q : δ → Hp → Prop} (t : tG ew rl (fun s h => (gt s h).bind fun k h1 => if k = true then g1 s h1 else g2 s h1) σ H Q) :
    tG ew (rE A Bool) gt σ H (fun c H1 => if c = true then tG ew rl g1 σ H1 Q else tG ew rl g2 σ H1 Q) :=
  (tA.stepF (ρ := rNo A) (rE A Bool) gt (fun p s h => if p.2 = true then g1 s h else g2 s h) t).mono fun c H1 ⟨m, h, s, a, rh, rs, ⟨_, r1⟩, p⟩ => by
    have r1 : a.2 = c := r1
    have p : Post ew rl m H1 (if a.2 = true then g1 s h else g2 s h) Q := p
    rw [r1] at p
    cases c with
    | true => exact ⟨m, h, s, (), rh, rs, trivial, p⟩
    | false => exact ⟨m, h, s, (), rh, rs, trivial, p⟩
theorem tG_ok {γ δ : Type} {rl : Rl A γ δ} {a : γ} {b : δ} {σ : L2.St} {H : Hp} {Q : δ → Hp → Prop} (t : tG ew rl (fun _ h => .ok a h) σ H Q) (r : ∀ m H, rl.r m H a b) : Q b H := by
  obtain ⟨m, h, s, _, rh, rs, _, p⟩ := t
  exact p m b H (Grow.refl _ _) rh (r m H)
theorem snd_bin {o : Bop} {a b : E} (ha : Snd A tab nm cn N k a) (hb : Snd A tab nm cn N k b) (X : Cx) (sc raw : Scope) (ew : XK) (e : Expr) (C : Ctx A tab nm cn N k X sc raw ew) (h : chkE nm cn N sc (.bin o a b) e = true) : PE X e (tG ew (rW A) (ev (callN tab k) (.bin o a b))) := by
  simp only [chkE] at h
  split at h
  · rename_i l op r p
    simp only [Bool.and_eq_true, decide_eq_true_eq] at h
    exact PE.weak (pe_op (bin_ok C.toCalm op o h.1.1) (ha.fe X sc raw ew l C h.1.2) (hb.fe X sc raw ew r C h.2)) fun σ H Q t => two (α := Unit) (β := Unit) t
  · cases h
theorem snd_neg {a : E} (ha : Snd A tab nm cn N k a) (X : Cx) (sc raw : Scope) (ew : XK) (e : Expr) (C : Ctx A tab nm cn N k X sc raw ew) (h : chkE nm cn N sc (.neg a) e = true) : PE X e (tG ew (rW A) (ev (callN tab k) (.neg a))) := by
  simp only [chkE] at h
  split at h
  · rename_i x p
    refine PE.weak (pe_un un_neg (ha.fe X sc raw ew x C h)) fun σ H Q t => (one t).mono fun v H1 ⟨m, hp, w, rh, r, p⟩ => ?_
    cases r with
    | int i => exact ⟨i, rfl, p.now rh (.int _)⟩
    | _ => exact p.elim
  · cases h
theorem notSet_marks {op : CmpOp} {e : Expr} (h : notSet e = true) : behindInMarks op e = false := by
  cases e <;> first | rfl | cases h
theorem notSet_fold {e : Expr} (h : notSet e = true) (env : Env) (x : Value) : foldedSetIterable e env x = pure x := by
  cases e <;> first | rfl | cases h
theorem snd_cmp {o : Cop} {a b : E} (ha : Snd A tab nm cn N k a) (hb : Snd A tab nm cn N k b) (X : Cx) (sc raw : Scope) (ew : XK) (e : Expr) (C : Ctx A tab nm cn N k X sc raw ew) (h : chkE nm cn N sc (.cmp o a b) e = true) :
    PE X e (tG ew (rW A) (ev (callN tab k) (.cmp o a b))) ∧ PT X e (tG ew (rE A Bool) (evT (callN tab k) (.cmp o a b))) := by
  simp only [chkE] at h
  split at h
  · rename_i l op r p
    simp only [Bool.and_eq_true, decide_eq_true_eq] at h
    obtain ⟨⟨⟨rfl, hs⟩, h1⟩, h2⟩ := h
    refine ⟨PE.weak (pe_cmpR (cmp_ok C.toCalm o) (ha.fe X sc raw ew l C h1) (hb.fe X sc raw ew r C h2) (notSet_marks hs)) fun σ H Q t => two (α := Unit) (β := Unit) t, ?_⟩
    refine PT.weak (pt_cmpR (r := o2 A ew (cmpW o)) (cmp_ok C.toCalm o) (ha.fe X sc raw ew l C h1) (hb.fe X sc raw ew r C h2) (notSet_marks hs)) fun σ H Q t => ?_
    refine (tA.stepF (ρ := rNo A) (rW A) (ev (callN tab k) a) (fun p s h => (ev (callN tab k) b s h).bind fun y h2 => (cmpW o p.2 y h2).bind asB) t).mono fun x H1 t1 => ?_
    refine (tA.stepF (ρ := rP A (rNo A) (rW A)) (rW A) (ev (callN tab k) b) (fun p _ h => (cmpW o p.1.2 p.2 h).bind asB) t1).mono fun y H2 ⟨m, hp, s, a, rh, rs, ⟨⟨_, r1⟩, r2⟩, p⟩ => ?_
    refine ⟨m, hp, a.1.2, a.2, rh, r1, r2, ?_⟩
    have p : Post ew (rE A Bool) m H2 ((cmpW o a.1.2 a.2 hp).bind asB) Q := p
    revert p
    cases cmpW o a.1.2 a.2 hp with
    | ok w h1 => exact fun p m' b H' g r q => asB_ok r q (Post.from g p)
    | exc c fs h1 => exact fun p => p
    | no => exact fun p => p
  · cases h
theorem marks2 {o p : CmpOp} {b c : Expr} (h : notSet c = true) : lastMarks [o, p] [b, c] = false := by
  show behindInMarks p c = false
  exact notSet_marks h
theorem snd_chain {o p : Cop} {a b c : E} (ha : Snd A tab nm cn N k a) (hb : Snd A tab nm cn N k b) (hc : Snd A tab nm cn N k c) (X : Cx) (sc raw : Scope) (ew : XK) (e : Expr) (C : Ctx A tab nm cn N k X sc raw ew) (h : chkE nm cn N sc (.chain o p a b c) e = true) :
    PE X e (tG ew (rW A) (ev (callN tab k) (.chain o p a b c))) ∧ PT X e (tG ew (rE A Bool) (evT (callN tab k) (.chain o p a b c))) := by
  simp only [chkE] at h
  split at h
  · rename_i l o1 o2' r1 r2 pp
    simp only [Bool.and_eq_true, decide_eq_true_eq] at h
    obtain ⟨⟨⟨⟨⟨rfl, rfl⟩, hs⟩, h1⟩, h2⟩, h3⟩ := h
    refine ⟨PE.weak (pe_chain (r := o2 A ew (cmpW o)) (r' := o2 A ew (cmpW p)) (cmp_ok C.toCalm o) (cmp_ok C.toCalm p) (ha.fe X sc raw ew l C h1) (hb.fe X sc raw ew r1 C h2) (hc.fe X sc raw ew r2 C h3) (marks2 hs)) fun σ H Q t => ?_,
      PT.weak (pt_chain (r := o2 A ew (cmpW o)) (r' := o2 A ew (cmpW p)) (cmp_ok C.toCalm o) (cmp_ok C.toCalm p) (ha.fe X sc raw ew l C h1) (hb.fe X sc raw ew r1 C h2) (hc.fe X sc raw ew r2 C h3) (marks2 hs)) fun σ H Q t => ?_⟩
    · refine (tA.stepF (ρ := rNo A) (rW A) (ev (callN tab k) a) (fun q s h => (ev (callN tab k) b s h).bind fun y h2 => (cmpW o q.2 y h2).bind fun z h3 => (asB z h3).bind fun kk h4 => if kk = true then (ev (callN tab k) c s h4).bind fun u h5 => cmpW p y u h5 else .ok (.bl false) h4) t).mono fun x H1 t1 => ?_
      refine (tA.stepF (ρ := rP A (rNo A) (rW A)) (rW A) (ev (callN tab k) b) (fun q s h => (cmpW o q.1.2 q.2 h).bind fun z h3 => (asB z h3).bind fun kk h4 => if kk = true then (ev (callN tab k) c s h4).bind fun u h5 => cmpW p q.2 u h5 else .ok (.bl false) h4) t1).mono fun y H2 ⟨m, hp, s, a, rh, rs, ⟨⟨_, q1⟩, q2⟩, pz⟩ => ?_
      refine ⟨m, hp, a.1.2, a.2, rh, q1, q2, ?_⟩
      have pz : Post ew (rW A) m H2 ((cmpW o a.1.2 a.2 hp).bind fun z h3 => (asB z h3).bind fun kk h4 => if kk = true then (ev (callN tab k) c s h4).bind fun u h5 => cmpW p a.2 u h5 else .ok (.bl false) h4) Q := pz
      revert pz
      cases cmpW o a.1.2 a.2 hp with
      | ok w h3 =>
        intro pz m' b' H' g r q
        have pz := Post.from g pz
        cases q with
        | bl kk =>
          refine ⟨kk, rfl, ?_⟩
          cases kk with
          | true =>
            have t2 : tA ew (rP A (rNo A) (rW A)) (rW A) (fun q s h => (ev (callN tab k) c s h).bind fun u h5 => cmpW p q.2 u h5) ((), y) σ H' Q := ⟨m', h3, s, ((), a.2), r, rs.grow rh g, ⟨trivial, q2.grow rh g⟩, pz⟩
            exact (tA.stepF (ρ := rP A (rNo A) (rW A)) (rW A) (ev (callN tab k) c) (fun q _ h => cmpW p q.1.2 q.2 h) t2).mono fun z H3 ⟨m3, h4, s3, a3, rh3, rs3, ⟨⟨_, z1⟩, z2⟩, p3⟩ => ⟨m3, h4, a3.1.2, a3.2, rh3, z1, z2, p3⟩
          | false => exact Post.now pz r (.bl false)
        | _ => exact pz.elim
      | exc c fs h1 => exact fun p => p
      | no => exact fun p => p
    · refine (tA.stepF (ρ := rNo A) (rW A) (ev (callN tab k) a) (fun q s h => (ev (callN tab k) b s h).bind fun y h2 => (cmpW o q.2 y h2).bind fun z h3 => (asB z h3).bind fun kk h4 => if kk = true then (ev (callN tab k) c s h4).bind fun u h5 => (cmpW p y u h5).bind asB else .ok false h4) t).mono fun x H1 t1 => ?_
      refine (tA.stepF (ρ := rP A (rNo A) (rW A)) (rW A) (ev (callN tab k) b) (fun q s h => (cmpW o q.1.2 q.2 h).bind fun z h3 => (asB z h3).bind fun kk h4 => if kk = true then (ev (callN tab k) c s h4).bind fun u h5 => (cmpW p q.2 u h5).bind asB else .ok false h4) t1).mono fun y H2 ⟨m, hp, s, a, rh, rs, ⟨⟨_, q1⟩, q2⟩, pz⟩ => ?_
      refine ⟨m, hp, a.1.2, a.2, rh, q1, q2, ?_⟩
      have pz : Post ew (rE A Bool) m H2 ((cmpW o a.1.2 a.2 hp).bind fun z h3 => (asB z h3).bind fun kk h4 => if kk = true then (ev (callN tab k) c s h4).bind fun u h5 => (cmpW p a.2 u h5).bind asB else .ok false h4) Q := pz
      revert pz
      cases cmpW o a.1.2 a.2 hp with
      | ok w h3 =>
        intro pz m' b' H' g r q
        have pz := Post.from g pz
        cases q with
        | bl kk =>
          refine ⟨kk, rfl, ?_⟩
          cases kk with
          | true =>
            have t2 : tA ew (rP A (rNo A) (rW A)) (rE A Bool) (fun q s h => (ev (callN tab k) c s h).bind fun u h5 => (cmpW p q.2 u h5).bind asB) ((), y) σ H' Q := ⟨m', h3, s, ((), a.2), r, rs.grow rh g, ⟨trivial, q2.grow rh g⟩, pz⟩
            refine (tA.stepF (ρ := rP A (rNo A) (rW A)) (rW A) (ev (callN tab k) c) (fun q _ h => (cmpW p q.1.2 q.2 h).bind asB) t2).mono fun z H3 ⟨m3, h4, s3, a3, rh3, rs3, ⟨⟨_, z1⟩, z2⟩, p3⟩ => ?_
            refine ⟨m3, h4, a3.1.2, a3.2, rh3, z1, z2, ?_⟩
            have p3 : Post ew (rE A Bool) m3 H3 ((cmpW p a3.1.2 a3.2 h4).bind asB) Q := p3
            revert p3
            cases cmpW p a3.1.2 a3.2 h4 with
            | ok w h1 => exact fun p m' b H' g r q => asB_ok r q (Post.from g p)
            | exc c fs h1 => exact fun p => p
            | no => exact fun p => p
          | false => exact ⟨false, rfl, pz m' false H' (Grow.refl _ _) r rfl⟩
        | _ => exact pz.elim
      | exc c fs h1 => exact fun p => p
      | no => exact fun p => p
  · cases h
end
end Wm
end

section
set_option Elab.async false
set_option linter.all false
set_option maxRecDepth 100000
set_option maxHeartbeats 4000000
set_option autoImplicit false
namespace Wm
open PySem PySem.Spec PyProof.Rows L2

section
variable {A : At} {tab : List Fn} {nm : List Str} {cn : List (Str × W)} {N : List Str} {k : Nat} {X : Cx} {sc raw : Scope} {ew : XK}
theorem asT_eq {w : W} {h : OH} {b : Bool} (e : truW h w = some b) : asT w h = .ok b h := by
  unfold asT
  rw [e]
theorem asT_no {w : W} {h : OH} (e : truW h w = none) : asT w h = .no := by
  unfold asT
  rw [e]
/-- behind a truth: the value is at hand -/
theorem byTruth (hK : X.K = A.K) {γ δ : Type} {rl : Rl A γ δ} {ga : Sl → OH → R W} {g : W → Bool → Sl → OH → R γ} {σ : L2.St} {H : Hp} {Q : δ → Hp → Prop} (t : tG ew rl (fun s h => (ga s h).bind fun x h1 => (asT x h1).bind fun k h2 => g x k s h2) σ H Q) :
    tG ew (rW A) ga σ H (fun x H1 => ∃ c, TruV X.K x H1 c ∧ ∃ (m : List Addr) (h : OH) (s : Sl) (w : W), RelH A m h H1 ∧ RelS A m H1 s σ ∧ Rep A m H1 w x ∧ Post ew rl m H1 (g w c s h) Q) := by
  refine (tA.stepF (ρ := rNo A) (rW A) ga (fun p s h => (asT p.2 h).bind fun k h2 => g p.2 k s h2) t).mono fun x H1 ⟨m, h, s, a, rh, rs, ⟨_, r1⟩, p⟩ => ?_
  have p : Post ew rl m H1 ((asT a.2 h).bind fun k h2 => g a.2 k s h2) Q := p
  cases e : truW h a.2 with
  | none => rw [asT_no e] at p; exact p.elim
  | some b =>
    rw [asT_eq e] at p
    exact ⟨b, by rw [hK]; exact tru_rep rh e r1, m, h, s, a.2, rh, rs, r1, p⟩
theorem pw_any {op : BoolOp} {es : List Expr} {p : Pos} {t : TT} (h : PT X (.BoolOp op es p) t) : PW X (.BoolOp op es p) t := by
  refine ⟨fun whole pins s σ H Q I q => ?_⟩
  have z := h.run pins s σ H Q I q
  rw [arm_isTrue_BoolOp] at z ⊢
  exact z
theorem snd_and {a b : E} (ha : Snd A tab nm cn N k a) (hb : Snd A tab nm cn N k b) (X : Cx) (sc raw : Scope) (ew : XK) (e : Expr) (C : Ctx A tab nm cn N k X sc raw ew) (h : chkE nm cn N sc (.and a b) e = true) :
    PE X e (tG ew (rW A) (ev (callN tab k) (.and a b))) ∧ PT X e (tG ew (rE A Bool) (evT (callN tab k) (.and a b))) := by
  have fe : ∀ {x : Expr} {y : Expr} {r : List Expr} {p : Pos}, PE X x (tG ew (rW A) (ev (callN tab k) a)) → PE X (.BoolOp .And (y :: r) p) (tG ew (rW A) (ev (callN tab k) b)) → PE X (.BoolOp .And (x :: y :: r) p) (tG ew (rW A) (ev (callN tab k) (.and a b))) := by
    intro x y r p h1 h2
    refine PE.weak (pe_andT h1 h2) fun σ H Q t => ?_
    refine (byTruth (X := X) C.K (ga := ev (callN tab k) a) (g := fun x kk s h2 => if kk = true then ev (callN tab k) b s h2 else .ok x h2) t).mono fun x H1 ⟨c, hc, m, hp, s, w, rh, rs, r1, p⟩ => ⟨c, hc, ?_⟩
    cases c with
    | true => exact ⟨m, hp, s, (), rh, rs, trivial, p⟩
    | false => exact Post.now p rh r1
  have ft : ∀ {x : Expr} {y : Expr} {r : List Expr} {p : Pos}, PT X x (tG ew (rE A Bool) (evT (callN tab k) a)) → PW X (.BoolOp .And (y :: r) p) (tG ew (rE A Bool) (evT (callN tab k) b)) → PT X (.BoolOp .And (x :: y :: r) p) (tG ew (rE A Bool) (evT (callN tab k) (.and a b))) := by
    intro x y r p h1 h2
    refine PT.weak (PW.pt (pw_and h1 h2)) fun σ H Q t => ?_
    refine (byTest (gt := evT (callN tab k) a) (g1 := evT (callN tab k) b) (g2 := fun _ h => .ok false h) t).mono fun c H1 q => ?_
    cases c with
    | true => exact q
    | false => exact tG_ok q fun _ _ => rfl
  simp only [chkE] at h
  split at h
  · rename_i x y p
    simp only [Bool.and_eq_true] at h
    exact ⟨fe (ha.fe X sc raw ew x C h.1) (pe_one (hb.fe X sc raw ew y C h.2)), ft (ha.ft X sc raw ew x C h.1) (pw_and1 (hb.ft X sc raw ew y C h.2))⟩
  · rename_i x y z r p
    simp only [Bool.and_eq_true] at h
    exact ⟨fe (ha.fe X sc raw ew x C h.1) (hb.fe X sc raw ew _ C h.2), ft (ha.ft X sc raw ew x C h.1) (pw_any (hb.ft X sc raw ew _ C h.2))⟩
  · cases h
theorem snd_or {a b : E} (ha : Snd A tab nm cn N k a) (hb : Snd A tab nm cn N k b) (X : Cx) (sc raw : Scope) (ew : XK) (e : Expr) (C : Ctx A tab nm cn N k X sc raw ew) (h : chkE nm cn N sc (.or a b) e = true) :
    PE X e (tG ew (rW A) (ev (callN tab k) (.or a b))) ∧ PT X e (tG ew (rE A Bool) (evT (callN tab k) (.or a b))) := by
  have fe : ∀ {x : Expr} {y : Expr} {r : List Expr} {p : Pos}, PE X x (tG ew (rW A) (ev (callN tab k) a)) → PE X (.BoolOp .Or (y :: r) p) (tG ew (rW A) (ev (callN tab k) b)) → PE X (.BoolOp .Or (x :: y :: r) p) (tG ew (rW A) (ev (callN tab k) (.or a b))) := by
    intro x y r p h1 h2
    refine PE.weak (pe_orT h1 h2) fun σ H Q t => ?_
    refine (byTruth (X := X) C.K (ga := ev (callN tab k) a) (g := fun x kk s h2 => if kk = true then .ok x h2 else ev (callN tab k) b s h2) t).mono fun x H1 ⟨c, hc, m, hp, s, w, rh, rs, r1, p⟩ => ⟨c, hc, ?_⟩
    cases c with
    | true => exact Post.now p rh r1
    | false => exact ⟨m, hp, s, (), rh, rs, trivial, p⟩
  have ft : ∀ {x : Expr} {y : Expr} {r : List Expr} {p : Pos}, PT X x (tG ew (rE A Bool) (evT (callN tab k) a)) → PW X (.BoolOp .Or (y :: r) p) (tG ew (rE A Bool) (evT (callN tab k) b)) → PT X (.BoolOp .Or (x :: y :: r) p) (tG ew (rE A Bool) (evT (callN tab k) (.or a b))) := by
    intro x y r p h1 h2
    refine PT.weak (PW.pt (pw_or h1 h2)) fun σ H Q t => ?_
    refine (byTest (gt := evT (callN tab k) a) (g1 := fun _ h => .ok true h) (g2 := evT (callN tab k) b) t).mono fun c H1 q => ?_
    cases c with
    | true => exact tG_ok q fun _ _ => rfl
    | false => exact q
  simp only [chkE] at h
  split at h
  · rename_i x y p
    simp only [Bool.and_eq_true] at h
    exact ⟨fe (ha.fe X sc raw ew x C h.1) (pe_one (hb.fe X sc raw ew y C h.2)), ft (ha.ft X sc raw ew x C h.1) (pw_or1 (hb.ft X sc raw ew y C h.2))⟩
  · rename_i x y z r p
    simp only [Bool.and_eq_true] at h
    exact ⟨fe (ha.fe X sc raw ew x C h.1) (hb.fe X sc raw ew _ C h.2), ft (ha.ft X sc raw ew x C h.1) (pw_any (hb.ft X sc raw ew _ C h.2))⟩
  · cases h
theorem snd_not {a : E} (ha : Snd A tab nm cn N k a) (X : Cx) (sc raw : Scope) (ew : XK) (e : Expr) (C : Ctx A tab nm cn N k X sc raw ew) (h : chkE nm cn N sc (.not a) e = true) :
    PE X e (tG ew (rW A) (ev (callN tab k) (.not a))) ∧ PT X e (tG ew (rE A Bool) (evT (callN tab k) (.not a))) := by
  simp only [chkE] at h
  split at h
  · rename_i x p
    refine ⟨PE.weak (pe_notT (ha.fe X sc raw ew x C h)) fun σ H Q t => ?_, PT.weak (pt_not (ha.ft X sc raw ew x C h)) fun σ H Q t => ?_⟩
    · refine (byTruth (X := X) C.K (ga := ev (callN tab k) a) (g := fun x k s h2 => .ok (.bl (!k)) h2) t).mono fun x H1 ⟨c, hc, m, hp, s, w, rh, rs, r1, p⟩ => ⟨c, hc, Post.now p rh (.bl _)⟩
    · exact (tA.stepF (ρ := rNo A) (rE A Bool) (evT (callN tab k) a) (fun p _ h => .ok (!p.2) h) t).mono fun c H1 ⟨m, hp, s, a, rh, rs, ⟨_, r1⟩, p⟩ => p m _ H1 (Grow.refl _ _) rh (by rw [show a.2 = c from r1]; rfl)
  · cases h
theorem snd_ite {c a b : E} (hc : Snd A tab nm cn N k c) (ha : Snd A tab nm cn N k a) (hb : Snd A tab nm cn N k b) (X : Cx) (sc raw : Scope) (ew : XK) (e : Expr) (C : Ctx A tab nm cn N k X sc raw ew) (h : chkE nm cn N sc (.ite c a b) e = true) :
    PE X e (tG ew (rW A) (ev (callN tab k) (.ite c a b))) := by
  simp only [chkE] at h
  split at h
  · rename_i z x y p
    simp only [Bool.and_eq_true] at h
    exact PE.weak (pe_ifExp (hc.ft X sc raw ew z C h.1.1) (ha.fe X sc raw ew x C h.1.2) (hb.fe X sc raw ew y C h.2)) fun σ H Q t => byTest t
  · cases h
end
end Wm
end

section
set_option Elab.async false
set_option linter.all false
set_option maxRecDepth 100000
set_option maxHeartbeats 4000000
set_option autoImplicit false
namespace Wm
open PySem PySem.Spec PyProof.Rows L2

/-! ### targets -/
def lenT : T → Nat
  | .cons _ r => lenT r + 1
  | _ => 0
mutual
def gT (K : PySem.W.Frag) : T → TG
  | .nm i => gName i
  | .nil => gTup K 0 gNil
  | .cons a r => gTup K (lenT r + 1) (gCons (gT K a) (gTs K r))
def gTs (K : PySem.W.Frag) : T → TGs
  | .nm _ => fun _ _ _ _ => False
  | .nil => gNil
  | .cons a r => gCons (gT K a) (gTs K r)
end
section
variable {A : At} {tab : List Fn} {nm : List Str} {cn : List (Str × W)} {N : List Str} {k : Nat} {X : Cx} {sc raw : Scope} {ew : XK} {m : List Addr} {h : OH} {H : Hp}
theorem getS_get : ∀ (s : Sl) (i : Nat) (w : W), getS s i = some w → s[i]? = some (some w)
  | [], _, _, e => by cases e
  | x :: _, 0, w, e => by
    simp only [getS] at e
    simp [e]
  | _ :: r, i + 1, w, e => by simpa using getS_get r i w e
theorem getS_of : ∀ (s : Sl) (i : Nat) (w : W), s[i]? = some (some w) → getS s i = some w
  | [], _, _, e => by simp at e
  | x :: _, 0, w, e => by simp at e; simp [getS, e]
  | _ :: r, i + 1, w, e => getS_of r i w (by simpa using e)
theorem setS_eq : ∀ (s : Sl) (i : Nat) (o : Option W), setS s i o = s.set i o
  | [], _, _ => rfl
  | _ :: _, 0, _ => rfl
  | x :: r, i + 1, o => by simp [setS, setS_eq r i o]
theorem RelS.set {s : Sl} {σ : L2.St} {i : Nat} {w : W} {v : V} (q : RelS A m H s σ) (r : Rep A m H w v) : RelS A m H (setS s i (some w)) (σ.set i (some v)) := by
  rw [setS_eq]
  refine ⟨by simp [q.len], fun j u e => ?_⟩
  have e := getS_get _ _ _ e
  by_cases hj : j = i
  · subst hj
    have hl : j < s.length := by
      have := (List.getElem?_eq_some_iff.mp e).1
      simpa using this
    rw [List.getElem?_set_self hl] at e
    cases e
    rw [List.getElem?_set_self (by rw [← q.len]; exact hl)]
    exact ⟨v, rfl, r⟩
  · rw [List.getElem?_set_ne (Ne.symm hj)] at e
    rw [List.getElem?_set_ne (Ne.symm hj)]
    exact q.at_ j u (getS_of _ _ _ e)
theorem RelS.none {s : Sl} {σ : L2.St} {i : Nat} (q : RelS A m H s σ) : RelS A m H (setS s i Option.none) (σ.set i Option.none) := by
  rw [setS_eq]
  refine ⟨by simp [q.len], fun j u e => ?_⟩
  have e := getS_get _ _ _ e
  by_cases hj : j = i
  · subst hj
    have hl : j < s.length := by
      have := (List.getElem?_eq_some_iff.mp e).1
      simpa using this
    rw [List.getElem?_set_self hl] at e
    cases e
  · rw [List.getElem?_set_ne (Ne.symm hj)] at e
    rw [List.getElem?_set_ne (Ne.symm hj)]
    exact q.at_ j u (getS_of _ _ _ e)
theorem RelS.wipe {s : Sl} {σ : L2.St} (q : RelS A m H s σ) : ∀ own : List Nat, RelS A m H (wipeS s own) (L2.wipe σ own)
  | [] => q
  | _ :: r => (RelS.wipe q r).none
/-- two slot lists that are one but at some places -/
def Off (is : List Nat) (σ σ' : L2.St) : Prop := σ'.length = σ.length ∧ ∀ j, j ∉ is → σ'[j]? = σ[j]?
theorem wipe_at (τ : L2.St) (vs : List Nat) (j : Nat) : (L2.wipe τ vs)[j]? = if j ∈ vs then (if j < τ.length then some Option.none else Option.none) else τ[j]? := by
  have len : ∀ (τ : L2.St) (vs : List Nat), (L2.wipe τ vs).length = τ.length := fun τ vs => L2.wipe_length τ vs
  induction vs with
  | nil => simp [L2.wipe]
  | cons v vs ih =>
    simp only [L2.wipe]
    by_cases e : j = v
    · subst e
      by_cases hl : j < τ.length
      · rw [List.getElem?_set_self (by rw [len]; exact hl)]
        simp [hl]
      · have : ((L2.wipe τ vs).set j Option.none)[j]? = Option.none := List.getElem?_eq_none_iff.mpr (by rw [List.length_set, len]; omega)
        rw [this]
        simp [hl]
    · rw [List.getElem?_set_ne (Ne.symm e), ih]
      simp [e]
theorem wipe_wipe (τ : L2.St) (vs : List Nat) : L2.wipe (L2.wipe τ vs) vs = L2.wipe τ vs := by
  apply List.ext_getElem?
  intro j
  rw [wipe_at, wipe_at, L2.wipe_length]
  by_cases e : j ∈ vs
  · rw [if_pos e, if_pos e]
  · rw [if_neg e, if_neg e]
theorem Off.wipe {is own : List Nat} {σ σ' : L2.St} (h : Off is σ σ') (sub : ∀ i ∈ is, i ∈ own) : L2.wipe σ' own = L2.wipe σ own := by
  apply List.ext_getElem?
  intro j
  rw [wipe_at, wipe_at, h.1]
  by_cases e : j ∈ own
  · rw [if_pos e, if_pos e]
  · rw [if_neg e, if_neg e]
    exact h.2 j fun z => e (sub j z)
def isL : T → Bool
  | .nm _ => false
  | _ => true
def okT : T → Bool
  | .cons a r => okT a && isL r && okT r
  | _ => true
theorem lenT_of : ∀ {t : T} {ws : List W} {s s' : Sl}, okT t = true → isL t = true → asgT t (.tup ws) s = some s' → ws.length = lenT t
  | .nm i, _, _, _, _, z, _ => by cases z
  | .nil, ws, s, s', _, _, e => by
    cases ws with
    | nil => rfl
    | cons x xs => cases e
  | .cons a r, ws, s, s', o, _, e => by
    cases ws with
    | nil => cases e
    | cons x xs =>
      simp only [okT, Bool.and_eq_true] at o
      simp only [asgT] at e
      split at e
      · rename_i s1 _
        rw [List.length_cons, lenT_of o.2 o.1.2 e]
        rfl
      · cases e
theorem off_trans {is js : List Nat} {σ σ1 σ2 : L2.St} (a : Off is σ σ1) (b : Off js σ1 σ2) : Off (is ++ js) σ σ2 :=
  ⟨b.1.trans a.1, fun j hj => (b.2 j fun z => hj (List.mem_append_right _ z)).trans (a.2 j fun z => hj (List.mem_append_left _ z))⟩
mutual
theorem gT_ok {K : PySem.W.Frag} (hK : A.K = K) : ∀ (t : T) (w : W) (v : V) (s s' : Sl) (σ : L2.St) (Q : L2.St → Hp → Prop), okT t = true → asgT t w s = some s' → Rep A m H w v → RelS A m H s σ →
    (∀ σ', Off (slotsT t) σ σ' → RelS A m H s' σ' → Q σ' H) → gT K t v σ H Q
  | .nm i, w, v, s, s', σ, Q, _, e, r, q, z => by
    cases e
    exact z _ ⟨by simp, fun j hj => List.getElem?_set_ne (fun e => hj (by simp [slotsT, e]))⟩ (q.set r)
  | .nil, w, v, s, s', σ, Q, _, e, r, q, z => by
    cases w with
    | tup ws =>
      cases ws with
      | nil =>
        cases e
        obtain ⟨a, vs, rfl, sq, kk⟩ := rep_tup r
        cases kk
        exact ⟨a, [], rfl, by rw [← hK]; exact sq, rfl, rfl, z σ ⟨rfl, fun _ _ => rfl⟩ q⟩
      | cons _ _ => cases e
    | _ => cases e
  | .cons a r, w, v, s, s', σ, Q, o, e, rr, q, z => by
    cases w with
    | tup ws =>
      have hl := lenT_of o rfl e
      obtain ⟨p, vs, rfl, sq, kk⟩ := rep_tup rr
      refine ⟨p, vs, rfl, by rw [← hK]; exact sq, by rw [← kk.length, hl]; rfl, ?_⟩
      exact gTs_ok hK (.cons a r) ws vs s s' σ Q o rfl e kk q z
    | _ => cases e
theorem gTs_ok {K : PySem.W.Frag} (hK : A.K = K) : ∀ (t : T) (ws : List W) (vs : List V) (s s' : Sl) (σ : L2.St) (Q : L2.St → Hp → Prop), okT t = true → isL t = true → asgT t (.tup ws) s = some s' → Reps A m H ws vs → RelS A m H s σ →
    (∀ σ', Off (slotsT t) σ σ' → RelS A m H s' σ' → Q σ' H) → gTs K t vs σ H Q
  | .nm i, _, _, _, _, _, _, _, z, _, _, _, _ => by cases z
  | .nil, ws, vs, s, s', σ, Q, _, _, e, kk, q, z => by
    cases ws with
    | nil =>
      cases e
      cases kk
      exact ⟨rfl, z σ ⟨rfl, fun _ _ => rfl⟩ q⟩
    | cons _ _ => cases e
  | .cons a r, ws, vs, s, s', σ, Q, o, _, e, kk, q, z => by
    cases ws with
    | nil => cases e
    | cons x xs =>
      simp only [okT, Bool.and_eq_true] at o
      simp only [asgT] at e
      split at e
      · rename_i s1 e1
        obtain ⟨v, us, rfl, r1, r2⟩ := reps_cons kk
        refine ⟨v, us, rfl, gT_ok hK a x v s s1 σ _ o.1.1 e1 r1 q fun σ1 o1 q1 => ?_⟩
        exact gTs_ok hK r xs us s1 s' σ1 Q o.2 o.1.2 e r2 q1 fun σ2 o2 q2 => z σ2 (off_trans o1 o2) q2
      · cases e
end
/-- the look at a target, and its rule -/
theorem chkT_ok : ∀ (t : T) (e : Expr), chkT N raw t e = true → okT t = true ∧ (∀ x p, e ≠ .Starred x p) ∧ (isL t = true → ∃ es kk p, e = .Tuple es kk p)
  | .nm i, e, h => by
    simp only [chkT] at h
    split at h
    · exact ⟨rfl, nofun, by intro z; cases z⟩
    · cases h
  | .nil, e, h => by
    simp only [chkT] at h
    split at h
    · exact ⟨rfl, nofun, fun _ => ⟨_, _, _, rfl⟩⟩
    · cases h
  | .cons a r, e, h => by
    simp only [chkT] at h
    split at h
    · simp only [Bool.and_eq_true] at h
      obtain ⟨a1, _, _⟩ := chkT_ok a _ h.1
      obtain ⟨b1, _, _⟩ := chkT_ok r _ h.2
      refine ⟨?_, nofun, fun _ => ⟨_, _, _, rfl⟩⟩
      have il : isL r = true := by
        cases r with
        | nm i => simp [chkT] at h
        | _ => rfl
      simp [okT, a1, b1, il]
    · cases h
/-- what the targets of a look ask of the frame -/
structure Tgt (X : Cx) (N : List Str) (raw : Scope) : Prop where
  eN : X.N = N
  nd : N.Nodup
  calm : X.calm = true
  tgt : ∀ x, loc raw x = true → Loc X.env.scope x ∧ (X.fn x = true ∨ X.env.scope.names.lookup x = some .local)
theorem assign_each {env : Env} {e : Expr} {es : List Expr} (h : ∀ x p, e ≠ .Starred x p) : assignEach (e :: es) env = (false, assign e env) :: assignEach es env := by
  cases e with
  | Starred x p => exact absurd rfl (h x p)
  | _ => simp only [assignEach]
theorem chkT_tuple : ∀ (t : T) (es : List Expr) (kk : Nat) (p : Pos), chkT N raw t (.Tuple es kk p) = true → ∀ e ∈ es, ∀ x q, e ≠ .Starred x q
  | .nm i, es, kk, p, h => by simp [chkT] at h
  | .nil, [], kk, p, h => by intro e he; simp at he
  | .nil, _ :: _, kk, p, h => by simp [chkT] at h
  | .cons a r, [], kk, p, h => by simp [chkT] at h
  | .cons a r, y :: ys, kk, p, h => by
    simp only [chkT, Bool.and_eq_true] at h
    intro e he x q
    rcases List.mem_cons.mp he with e1 | he
    · rw [e1]; exact (chkT_ok a y h.1).2.1 x q
    · exact chkT_tuple r ys kk p h.2 e he x q
theorem each_len {env : Env} : ∀ {es : List Expr}, (∀ e ∈ es, ∀ x q, e ≠ .Starred x q) → (assignEach es env).length = es.length ∧ (assignEach es env).findIdx? (·.1) = none
  | [], _ => by simp [assignEach]
  | e :: es, h => by
    have h1 := each_len (env := env) (es := es) fun e' he' => h e' (List.mem_cons_of_mem _ he')
    rw [assign_each (h e List.mem_cons_self)]
    refine ⟨by simp [h1.1], ?_⟩
    rw [List.findIdx?_cons]
    simp [h1.2]
theorem chkT_len : ∀ (t : T) (es : List Expr) (kk : Nat) (p : Pos), chkT N raw t (.Tuple es kk p) = true → es.length = lenT t
  | .nm i, es, kk, p, h => by simp [chkT] at h
  | .nil, [], kk, p, h => rfl
  | .nil, _ :: _, kk, p, h => by simp [chkT] at h
  | .cons a r, [], kk, p, h => by simp [chkT] at h
  | .cons a r, y :: ys, kk, p, h => by
    simp only [chkT, Bool.and_eq_true] at h
    rw [List.length_cons, chkT_len r ys kk p h.2]
    rfl
mutual
theorem pg_T (C : Tgt X N raw) : ∀ (t : T) (e : Expr), chkT N raw t e = true → PG X e (gT X.K t)
  | .nm i, e, h => by
    simp only [chkT] at h
    split at h
    · rename_i x p
      simp only [Bool.and_eq_true, decide_eq_true_eq] at h
      obtain ⟨h1, h2⟩ := C.tgt x h.2
      exact pg_name (by rw [C.eN]; exact C.nd) (by rw [C.eN]; exact h.1) h1 h2
    · cases h
  | .nil, e, h => by
    simp only [chkT] at h
    split at h
    · exact pg_tup C.calm pgs_nil (by simp [assignEach]) (by simp [assignEach])
    · cases h
  | .cons a r, e, h => by
    have h0 := h
    simp only [chkT] at h
    split at h
    · rename_i x xs kk p
      have st := chkT_tuple _ _ _ _ h0
      have ln := chkT_len _ _ _ _ h0
      have el := each_len (env := X.env) st
      exact pg_tup C.calm (pgs_T C (.cons a r) (x :: xs) kk p h0) (by rw [el.1, ln]; rfl) el.2
    · cases h
theorem pgs_T (C : Tgt X N raw) : ∀ (t : T) (es : List Expr) (kk : Nat) (p : Pos), chkT N raw t (.Tuple es kk p) = true → PGs X es (gTs X.K t)
  | .nm i, es, kk, p, h => by simp [chkT] at h
  | .nil, [], kk, p, h => pgs_nil
  | .nil, _ :: _, kk, p, h => by simp [chkT] at h
  | .cons a r, [], kk, p, h => by simp [chkT] at h
  | .cons a r, y :: ys, kk, p, h => by
    have h0 := h
    simp only [chkT, Bool.and_eq_true] at h
    refine pgs_cons (pg_T C a y h.1) (pgs_T C r ys kk p h.2) ?_
    rw [assign_each (chkT_ok a y h.1).2.1]
    rfl
end
end
end Wm
end

section
set_option Elab.async false
set_option linter.all false
set_option maxRecDepth 100000
set_option maxHeartbeats 4000000
set_option autoImplicit false
/-! What lies below: the heap cut back. -/
namespace Wm
open PySem PySem.Spec PyProof.Rows L2

section
variable {A : At} {m : List Addr} {H H2 : Hp} {l : List Addr}
theorem Rep.low {w : W} {v : V} (r : Rep A (m ++ l) H2 w v) : W.low m.length w = true → Rep A m H2 w v := by
  refine Rep.rec (A := A) (m := m ++ l) (H := H2) (motive_1 := fun w v _ => W.low m.length w = true → Rep A m H2 w v) (motive_2 := fun ws vs _ => W.lows m.length ws = true → Reps A m H2 ws vs)
    ?_ ?_ ?_ ?_ ?_ ?_ ?_ ?_ ?_ ?_ ?_ r
  · intro _; exact .non
  · intro b _; exact .bl b
  · intro b _; exact .int b
  · intro b _; exact .str b
  · intro a ws vs q _ ih p; exact .tup q (ih p)
  · intro n a e p
    refine .ref ?_
    rw [List.getElem?_append_left (Nat.lt_of_lt_of_le (Nat.lt_of_succ_le (Nat.le_of_ble_eq_true p)) (Nat.le_refl _))] at e
    exact e
  · intro i _; exact .fn i
  · intro i _; exact .cls i
  · intro a ws vs q _ ih p; exact .rol q (ih p)
  · intro _; exact .nil
  · intro w ws v vs _ _ ih1 ih2 p
    have p := Bool.and_eq_true_iff.mp (show (W.low m.length w && W.lows m.length ws) = true from p)
    exact .cons (ih1 p.1) (ih2 p.2)
theorem Reps.low : ∀ {ws : List W} {vs : List V}, Reps A (m ++ l) H2 ws vs → W.lows m.length ws = true → Reps A m H2 ws vs
  | [], _, .nil, _ => .nil
  | _ :: _, _, .cons a b, p => by
    have p := Bool.and_eq_true_iff.mp (show (W.low m.length _ && W.lows m.length _) = true from p)
    exact .cons (a.low p.1) (b.low p.2)
theorem Rep.back {w : W} {v0 v : V} (r0 : Rep A m H w v0) (r : Rep A (m ++ l) H2 w v) : Rep A m H2 w v := by
  refine Rep.rec (A := A) (m := m) (H := H) (motive_1 := fun w _ _ => ∀ v, Rep A (m ++ l) H2 w v → Rep A m H2 w v) (motive_2 := fun ws _ _ => ∀ vs, Reps A (m ++ l) H2 ws vs → Reps A m H2 ws vs)
    ?_ ?_ ?_ ?_ ?_ ?_ ?_ ?_ ?_ ?_ ?_ r0 v r
  · intro v r; cases r; exact .non
  · intro b v r; cases r; exact .bl b
  · intro b v r; cases r; exact .int b
  · intro b v r; cases r; exact .str b
  · intro a ws vs _ _ ih v r
    cases r with
    | tup q k => exact .tup q (ih _ k)
  · intro n a e v r
    cases r with
    | ref e2 =>
      refine .ref ?_
      rw [List.getElem?_append_left (List.getElem?_eq_some_iff.mp e).1] at e2
      exact e2
  · intro i v r; cases r; exact .fn i
  · intro i v r; cases r; exact .cls i
  · intro a ws vs _ _ ih v r
    cases r with
    | rol q k => exact .rol q (ih _ k)
  · intro vs r; cases r; exact .nil
  · intro w ws v vs _ _ ih1 ih2 us r
    cases r with
    | cons a b => exact .cons (ih1 _ a) (ih2 _ b)
theorem Reps.back : ∀ {ws : List W} {vs0 vs : List V}, Reps A m H ws vs0 → Reps A (m ++ l) H2 ws vs → Reps A m H2 ws vs
  | [], _, _, _, .nil => .nil
  | _ :: _, _, _, .cons a0 b0, .cons a b => .cons (a0.back a) (b0.back b)
theorem keepOk_at : ∀ {h' h : OH} {n i : Nat} {o' : O}, keepOk n h' h = true → h'[i]? = some o' → ∃ o, h[i]? = some o ∧ (o' = o ∨ O.low n o' = true)
  | [], _, n, i, o, _, e => by simp at e
  | x :: r, [], n, i, o, p, e => by cases p
  | x :: r, y :: q, n, 0, o, p, e => by
    simp at e; subst e
    have p := (Bool.and_eq_true_iff.mp (show ((O.beq x y || O.low n x) && keepOk n r q) = true from p)).1
    exact ⟨y, rfl, (Bool.or_eq_true_iff.mp p).imp O.beq_eq id⟩
  | x :: r, y :: q, n, i + 1, o, p, e => keepOk_at (h' := r) (h := q) (Bool.and_eq_true_iff.mp (show ((O.beq x y || O.low n x) && keepOk n r q) = true from p)).2 (by simpa using e)
theorem RelH.cut {h h2 : OH} {m2 : List Addr} (r : RelH A m h H) (g : Grow m H m2 H2) (r2 : RelH A m2 h2 H2) (p : cutOk h h2 = true) : RelH A m (h2.take h.length) H2 ∧ Grow m H m H2 := by
  obtain ⟨l, rfl, _⟩ := g.map
  unfold cutOk at p
  rw [← r.len] at p ⊢
  have hl : m.length ≤ h2.length := by rw [← r2.len]; simp
  refine ⟨⟨by simp [Nat.min_eq_left hl], r.nd, fun n o en => ?_⟩, ⟨[], by simp, fun a ha => by simp at ha⟩, g.keep⟩
  have hn : n < m.length := by
    have := (List.getElem?_eq_some_iff.mp en).1
    simp at this; omega
  obtain ⟨o0, e0, lo⟩ := keepOk_at p en
  rw [List.getElem?_take_of_lt hn] at en
  obtain ⟨a, f1, f2⟩ := r2.ob n o en
  rw [List.getElem?_append_left hn] at f1
  refine ⟨a, f1, ?_⟩
  rcases lo with rfl | lo
  · obtain ⟨a0, g1, g2⟩ := r.ob n o e0
    rw [f1] at g1; cases g1
    cases o with
    | lst ws =>
      obtain ⟨vs, q, k⟩ := f2
      obtain ⟨vs0, _, k0⟩ := g2
      exact ⟨vs, q, k0.back k⟩
    | dct _ _ => exact f2.elim
    | ins _ _ => exact f2.elim
  · cases o with
    | lst ws =>
      obtain ⟨vs, q, k⟩ := f2
      exact ⟨vs, q, k.low lo⟩
    | dct _ _ => exact f2.elim
    | ins _ _ => exact f2.elim
theorem slLow_at : ∀ {s : Sl} {n i : Nat} {w : W}, slLow n s = true → s[i]? = some (some w) → W.low n w = true
  | [], n, i, w, _, e => by simp at e
  | none :: r, n, 0, w, p, e => by simp at e
  | some x :: r, n, 0, w, p, e => by
    simp at e; subst e
    exact (Bool.and_eq_true_iff.mp (show (W.low n x && slLow n r) = true from p)).1
  | none :: r, n, i + 1, w, p, e => slLow_at (s := r) p (by simpa using e)
  | some x :: r, n, i + 1, w, p, e => slLow_at (Bool.and_eq_true_iff.mp (show (W.low n x && slLow n r) = true from p)).2 (by simpa using e)
theorem wipeS_at : ∀ {own : List Nat} {s : Sl} {i : Nat} {w : W}, (wipeS s own)[i]? = some (some w) → s[i]? = some (some w)
  | [], _, _, _, e => e
  | j :: own, s, i, w, e => by
    simp only [wipeS, setS_eq] at e
    by_cases hj : i = j
    · subst hj
      by_cases hl : i < (wipeS s own).length
      · rw [List.getElem?_set_self hl] at e; cases e
      · rw [List.getElem?_eq_none (by simpa using hl)] at e; cases e
    · rw [List.getElem?_set_ne (Ne.symm hj)] at e
      exact wipeS_at e
theorem wipeS_len (s : Sl) : ∀ own : List Nat, (wipeS s own).length = s.length
  | [] => rfl
  | j :: own => by simp only [wipeS, setS_eq, List.length_set]; exact wipeS_len s own
theorem RelS.low {s : Sl} {σ : L2.St} {own : List Nat} (r : RelS A (m ++ l) H2 s σ) (p : slLow m.length (wipeS s own) = true) : RelS A m H2 (wipeS s own) σ :=
  ⟨(wipeS_len s own).trans r.len, fun i w e => by
    have e1 := getS_get _ _ _ e
    obtain ⟨v, e2, rv⟩ := r.at_ i w (getS_of _ _ _ (wipeS_at e1))
    exact ⟨v, e2, rv.low (slLow_at p e1)⟩⟩
/-- an expression whose leavings are dropped -/
theorem tG_gc {ew : XK} {g : Sl → OH → R W} {σ : L2.St} {Q : VK} (t : tG ew (rW A) (fun s h => (g s h).bind (gcE h)) σ H Q) : tG ew (rW A) g σ H Q := by
  obtain ⟨m, h, s, a, rh, rs, ra, p⟩ := t
  refine ⟨m, h, s, a, rh, rs, ra, ?_⟩
  have p : Post ew (rW A) m H ((g s h).bind (gcE h)) Q := p
  show Post ew (rW A) m H (g s h) Q
  revert p
  cases g s h with
  | exc c fs h2 => exact fun p => p
  | no => exact fun p => p
  | ok w h2 =>
    simp only [R.bind_ok, gcE]
    split
    · rename_i hc
      rw [Bool.and_eq_true] at hc
      obtain ⟨c1, c2⟩ := hc
      rw [← rh.len] at c1
      intro p m' v H' g' r' q'
      obtain ⟨r3, g3⟩ := rh.cut g' r' c2
      obtain ⟨l, rfl, _⟩ := g'.map
      exact p m v H' g3 r3 (Rep.low q' c1)
    · exact fun p => p.elim
theorem tG_gcB {ew : XK} {g : Sl → OH → R Bool} {σ : L2.St} {Q : Bool → Hp → Prop} (t : tG ew (rE A Bool) (fun s h => (g s h).bind (gcB h)) σ H Q) : tG ew (rE A Bool) g σ H Q := by
  obtain ⟨m, h, s, a, rh, rs, ra, p⟩ := t
  refine ⟨m, h, s, a, rh, rs, ra, ?_⟩
  have p : Post ew (rE A Bool) m H ((g s h).bind (gcB h)) Q := p
  show Post ew (rE A Bool) m H (g s h) Q
  revert p
  cases g s h with
  | exc c fs h2 => exact fun p => p
  | no => exact fun p => p
  | ok w h2 =>
    simp only [R.bind_ok, gcB]
    split
    · rename_i c2
      intro p m' v H' g' r' q'
      obtain ⟨r3, g3⟩ := rh.cut g' r' c2
      exact p m v H' g3 r3 q'
    · exact fun p => p.elim
end
end Wm
end

section
set_option Elab.async false
set_option linter.all false
set_option maxRecDepth 100000
set_option maxHeartbeats 4000000
set_option autoImplicit false
namespace Wm
open PySem PySem.Spec PyProof.Rows L2
section
variable {A : At} {tab : List Fn} {nm : List Str} {cn : List (Str × W)} {N : List Str} {k : Nat} {X : Cx} {sc raw : Scope} {ew : XK}
theorem any_back {pos : Pos} {env : Env} {es : List Expr} (h : ∀ e ∈ es, ∀ x p, e ≠ .Starred x p) : (backTo pos (starEach es env)).any (·.1) = false := by
  rw [notStar_map h]
  unfold backTo
  rw [List.any_eq_false]
  intro x hx
  simp only [List.mem_map] at hx
  obtain ⟨a, ⟨e, _, rfl⟩, rfl⟩ := hx
  exact Bool.false_ne_true
theorem tail_star {y : Expr} {ys : List Expr} (h : ∀ e ∈ y :: ys, ∀ x p, e ≠ .Starred x p) : (∀ x p, y ≠ .Starred x p) ∧ ∀ e ∈ ys, ∀ x p, e ≠ .Starred x p :=
  ⟨h y List.mem_cons_self, fun e he => h e (List.mem_cons_of_mem _ he)⟩
theorem snd_call {f : Nat} {as : E} (ha : Snd A tab nm cn N k as) (X : Cx) (sc raw : Scope) (ew : XK) (e : Expr) (C : Ctx A tab nm cn N k X sc raw ew) (h : chkE nm cn N sc (.call f as) e = true) :
    PE X e (tG ew (rW A) (ev (callN tab k) (.call f as))) ∧ ∃ x args kws pos, e = .Call x args kws pos := by
  simp only [chkE] at h
  split at h
  · rename_i x p y ys pos
    simp only [Bool.and_eq_true, Bool.not_eq_true', decide_eq_true_eq] at h
    obtain ⟨⟨⟨h1, h2⟩, h3⟩, h4⟩ := h
    obtain ⟨g, fd, ps, e1, e2, e3, e4⟩ := C.fns f x h3
    have st := chkA_star nm cn N sc as _ h4
    refine ⟨⟨fun pins s σ H Q I t => ?_⟩, _, _, _, _, rfl⟩
    refine wpAny_Call_Name_kw (ld_glob I (C.gl h1) e1 ?_ h2)
    refine PySem.W.callWith_K (h₀ := X.base) I.ok.mod.kin e2 (thn ((ha.fa X sc raw ew _ C h4).run pos pins s σ H _ I (many t)) fun us s1 ⟨vs, H1, I1, r, m, hp, ws, rh, rw, p⟩ => ⟨I1.kIn, ?_⟩) (notStar_cons (tail_star st).1) (any_back (tail_star st).2)
    exact call_fnW e4 C.grd C.room e3 C.hx I1 r ⟨m, hp, ws, rh, rw, p⟩
  · rename_i x p pos
    simp only [Bool.and_eq_true, Bool.not_eq_true', decide_eq_true_eq] at h
    obtain ⟨⟨⟨h1, h2⟩, h3⟩, h4⟩ := h
    obtain ⟨g, fd, ps, e1, e2, e3, e4⟩ := C.fns f x h3
    refine ⟨⟨fun pins s σ H Q I t => ?_⟩, _, _, _, _, rfl⟩
    refine wpAny_Call_Name_kw (ld_glob I (C.gl h1) e1 ?_ h2)
    refine PySem.W.callWith_K0 I.kIn e2 ?_
    obtain ⟨m, hp, s0, _, rh, rs, _, p⟩ := t
    cases as with
    | nil => exact call_fnW (us := []) (vs := []) e4 C.grd C.room e3 C.hx I .nil ⟨m, hp, [], rh, .nil, p⟩
    | _ => simp [chkA] at h4
  · cases h
theorem boot_bi (b : Bi) : bootBuiltins (biN b) = some (biV b) := by
  cases b <;> decide +kernel
theorem biN_mem (b : Bi) : biN b ∈ biNames := by cases b <;> decide +kernel
theorem biN_ne (b : Bi) : biN b ≠ "__name__" ∧ (biN b == ("__debug__" : Str)) = false := by cases b <;> exact ⟨by decide +kernel, by decide +kernel⟩
/-- f(e, ..) of a built-in -/
theorem pe_bi {f : Value} {r : List V → Hp → VK → Prop} {x : Str} {p pos : Pos} {y : Expr} {ys : List Expr} {t : TA} (hf : (∃ id, f = .builtin id) ∨ ∃ T, f = .type T) (hc : CallR X f r) (hg : Gl X x) (hm : X.mg x = none) (hv : bootBuiltins x = some f) (hn : x ≠ "__name__") (hd : (x == ("__debug__" : Str)) = false)
    (ha : PA X (y :: ys) t) (st : ∀ e ∈ y :: ys, ∀ x p, e ≠ .Starred x p) : PE X (.Call (.Name x p) (y :: ys) [] pos) (tCB r t) := by
  rcases hf with ⟨id, rfl⟩ | ⟨T, rfl⟩
  · exact pe_callB hc hg hm hv ha hn hd (notStar_cons (tail_star st).1) (any_back (tail_star st).2)
  · exact pe_callTy hc hg hm hv ha hn hd (notStar_cons (tail_star st).1) (any_back (tail_star st).2)
theorem snd_tup {as : E} (ha : Snd A tab nm cn N k as) (X : Cx) (sc raw : Scope) (ew : XK) (e : Expr) (C : Ctx A tab nm cn N k X sc raw ew) (h : chkE nm cn N sc (.tup as) e = true) : PE X e (tG ew (rW A) (ev (callN tab k) (.tup as))) := by
  simp only [chkE] at h
  split at h
  · rename_i es kk p
    refine PE.weak (pe_tup (ha.fa X sc raw ew es C h)) fun σ H Q t => (many t).mono fun vs H1 ⟨m, hp, ws, rh, r, p⟩ => ?_
    unfold newTup at p
    split at p
    · rename_i hl
      exact ⟨by rw [← r.length]; exact Nat.le_of_lt (line_le hl), p.tup rh r⟩
    · exact p.elim
  · cases h
theorem snd_lst {as : E} (ha : Snd A tab nm cn N k as) (X : Cx) (sc raw : Scope) (ew : XK) (e : Expr) (C : Ctx A tab nm cn N k X sc raw ew) (h : chkE nm cn N sc (.lst as) e = true) : PE X e (tG ew (rW A) (ev (callN tab k) (.lst as))) := by
  simp only [chkE] at h
  split at h
  · rename_i es p
    refine PE.weak (pe_lst (ha.fa X sc raw ew es C h)) fun σ H Q t => (many t).mono fun vs H1 ⟨m, hp, ws, rh, r, p⟩ => ?_
    unfold newLst at p
    split at p
    · rename_i hl
      exact ⟨by rw [← r.length]; exact Nat.le_of_lt (line_le hl), p.lst rh r⟩
    · exact p.elim
  · cases h
theorem plain_ix {e : Expr} (h : notSlice e = true) : PlainIx e := fun o i => by
  cases e <;> first | rfl | cases h
theorem snd_ix {a b : E} (ha : Snd A tab nm cn N k a) (hb : Snd A tab nm cn N k b) (X : Cx) (sc raw : Scope) (ew : XK) (e : Expr) (C : Ctx A tab nm cn N k X sc raw ew) (h : chkE nm cn N sc (.ix a b) e = true) :
    PE X e (tG ew (rW A) (ev (callN tab k) (.ix a b))) ∧ ∃ x y p, e = .Subscript x y p := by
  simp only [chkE] at h
  split at h
  · rename_i x y p
    simp only [Bool.and_eq_true] at h
    exact ⟨PE.weak (pe_ix (ix_ok C.toCalm) (ha.fe X sc raw ew x C h.1.2) (hb.fe X sc raw ew y C h.2) (plain_ix h.1.1)) fun σ H Q t => two (α := Unit) (β := Unit) t, _, _, _, rfl⟩
  · cases h
theorem snd_sl {a lo hi : E} (ha : Snd A tab nm cn N k a) (hl : Snd A tab nm cn N k lo) (hh : Snd A tab nm cn N k hi) (X : Cx) (sc raw : Scope) (ew : XK) (e : Expr) (C : Ctx A tab nm cn N k X sc raw ew) (h : chkE nm cn N sc (.sl a lo hi) e = true) :
    PE X e (tG ew (rW A) (ev (callN tab k) (.sl a lo hi))) := by
  simp only [chkE] at h
  split at h
  · rename_i x l u p2 p
    simp only [Bool.and_eq_true] at h
    refine PE.weak (pe_slice (sl_ok (ew := ew) C.toCalm) (ha.fe X sc raw ew x C h.1.1) (hl.fo X sc raw ew l C h.1.2) (hh.fo X sc raw ew u C h.2)) fun σ H Q t => ?_
    refine (tA.stepF (ρ := rNo A) (rW A) (ev (callN tab k) a) (fun p s h => (evO (callN tab k) lo s h).bind fun l h2 => (evO (callN tab k) hi s h2).bind fun u h3 => slW p.2 l u h3) t).mono fun v H1 t1 => ?_
    refine (tA.stepF (ρ := rP A (rNo A) (rW A)) (rE A (Option Int)) (evO (callN tab k) lo) (fun p s h => (evO (callN tab k) hi s h).bind fun u h3 => slW p.1.2 p.2 u h3) t1).mono fun l H2 t2 => ?_
    refine (tA.stepF (ρ := rP A (rP A (rNo A) (rW A)) (rE A (Option Int))) (rE A (Option Int)) (evO (callN tab k) hi) (fun p _ h => slW p.1.1.2 p.1.2 p.2 h) t2).mono fun u H3 ⟨m, hp, s, a, rh, rs, ⟨⟨⟨_, r1⟩, e1⟩, e2⟩, p⟩ => ?_
    have e1 : a.1.2 = l := e1
    have e2 : a.2 = u := e2
    refine ⟨m, hp, a.1.1.2, rh, r1, ?_⟩
    rw [← e1, ← e2]
    exact p
  · cases h
theorem snd_rev {a : E} (ha : Snd A tab nm cn N k a) (X : Cx) (sc raw : Scope) (ew : XK) (e : Expr) (C : Ctx A tab nm cn N k X sc raw ew) (h : chkE nm cn N sc (.rev a) e = true) : PE X e (tG ew (rW A) (ev (callN tab k) (.rev a))) := by
  simp only [chkE] at h
  split at h
  · simp only [Bool.and_eq_true, decide_eq_true_eq] at h
    obtain ⟨rfl, h⟩ := h
    exact PE.weak (pe_rev C.toCalm (ha.fe X sc raw ew _ C h)) fun σ H Q t => one t
  · cases h
theorem not_super {y : Expr} {name : Str} {env : Env} (h : notCall y = true) : attributeBase y name env (eval y env) = eval y env := by
  cases y <;> first | rfl | cases h
def mtI : Mt → String
  | .append => "list.append" | .pop => "list.pop" | .popAt => "list.pop" | .extend => "list.extend" | .index => "list.index"
theorem mt_ok (C : Calm A X) (mt : Mt) (h : mt ≠ .index) : MtR X (mtI mt) (c2 A ew (mtW mt)) := by
  cases mt with
  | append => exact mt_append_ok C
  | pop => exact mt_pop_ok C
  | popAt => exact mt_popAt_ok C
  | extend => exact mt_extend_ok C
  | index => exact absurd rfl h
theorem mt_slot (mt : Mt) : Slot "list" (mtN mt) (mtI mt) := by
  cases mt
  · exact PySem.F.slot_list_append
  · exact PySem.F.slot_list_pop
  · exact PySem.F.slot_list_pop
  · exact PySem.F.slot_list_extend
  · exact PySem.F.slot_list_index
theorem mt_type (mt : Mt) : typeOf (.builtin (mtI mt)) = pure (.type "method_descriptor") := by
  cases mt
  · exact PySem.F.type_list_append
  · exact PySem.F.type_list_pop
  · exact PySem.F.type_list_pop
  · exact PySem.F.type_list_extend
  · exact PySem.F.type_list_index
theorem ref_list (C : Calm A X) {m : List Addr} {h : OH} {H : Hp} {n : Nat} {v : V} (rh : RelH A m h H) (r : Rep A m H (.ref n) v) : tyV X.K "list" v H := by
  obtain ⟨a, rfl, ia⟩ := rep_ref r
  have hn : n < h.length := by rw [← rh.len]; exact (List.getElem?_eq_some_iff.mp ia).1
  obtain ⟨b, e1, e2⟩ := rh.ob n _ (List.getElem?_eq_getElem hn)
  rw [ia] at e1; cases e1
  cases e : h[n] with
  | lst ws => rw [e] at e2; obtain ⟨vs, q, _⟩ := e2; exact .inl ⟨rfl, vs, SqL.of q⟩
  | dct _ _ => rw [e] at e2; exact e2.elim
  | ins _ _ => rw [e] at e2; exact e2.elim
theorem tBM_of (C : Calm A X) {mt : Mt} {go : Sl → OH → R W} {ga : Sl → OH → R (List W)} {σ : L2.St} {H : Hp} {Q : VK} (t : tG ew (rW A) (fun s h => (go s h).bind fun x h1 => (isRef x h1).bind fun _ h2 => (ga s h2).bind fun ws h3 => mtW mt x ws h3) σ H Q) :
    tG ew (rW A) go σ H (fun x H1 => tyV X.K "list" x H1 ∧ tG ew (rWs A) ga σ H1 (fun xs H2 => c2 A ew (mtW mt) x xs H2 Q)) := by
  refine (tA.stepF (ρ := rNo A) (rW A) go (fun p s h => (isRef p.2 h).bind fun _ h2 => (ga s h2).bind fun ws h3 => mtW mt p.2 ws h3) t).mono fun x H1 ⟨m, h, s, a, rh, rs, ⟨_, r1⟩, p⟩ => ?_
  obtain ⟨a1, a2⟩ := a
  have r1 : Rep A m H1 a2 x := r1
  have p : Post ew (rW A) m H1 ((isRef a2 h).bind fun _ h2 => (ga s h2).bind fun ws h3 => mtW mt a2 ws h3) Q := p
  cases a2 with
  | ref n =>
    have t1 : tA ew (rP A (rNo A) (rW A)) (rW A) (fun p s h => (ga s h).bind fun ws h3 => mtW mt p.2 ws h3) ((), x) σ H1 Q := ⟨m, h, s, ((), .ref n), rh, rs, ⟨trivial, r1⟩, p⟩
    refine ⟨ref_list C rh r1, ?_⟩
    exact (tA.stepF (ρ := rP A (rNo A) (rW A)) (rWs A) ga (fun p _ h => mtW mt p.1.2 p.2 h) t1).mono fun xs H2 ⟨m2, h2, s2, b, rh2, rs2, ⟨⟨_, q1⟩, q2⟩, p2⟩ => ⟨m2, h2, b.1.2, b.2, rh2, q1, q2, p2⟩
  | _ => exact p.elim
theorem snd_mt {mt : Mt} {o as : E} (ho : Snd A tab nm cn N k o) (ha : Snd A tab nm cn N k as) (X : Cx) (sc raw : Scope) (ew : XK) (e : Expr) (C : Ctx A tab nm cn N k X sc raw ew) (h : chkE nm cn N sc (.mt mt o as) e = true) : PE X e (tG ew (rW A) (ev (callN tab k) (.mt mt o as))) := by
  simp only [chkE] at h
  split at h
  · rename_i y name ap cp
    simp only [Bool.and_eq_true, decide_eq_true_eq] at h
    obtain ⟨⟨⟨⟨⟨rfl, h2⟩, h3⟩, rfl⟩, h5⟩, h6⟩ := h
    refine PE.weak (pe_bm0 PySem.F.plainAttrs_list (mt_slot .pop) (mt_type .pop) (mt_ok (ew := ew) C.toCalm .pop (by decide)) (ho.fe X sc raw ew y C h5) (not_super h3) h2) fun σ H Q t => ?_
    refine (tBM_of C.toCalm (go := ev (callN tab k) o) (ga := evs (callN tab k) as) t).mono fun x H1 ⟨q1, q2⟩ => ⟨q1, ?_⟩
    cases as with
    | nil =>
      obtain ⟨m, hp, s, _, rh, rs, _, p⟩ := q2
      exact p m [] H1 (Grow.refl _ _) rh .nil
    | _ => simp [chkA] at h6
  · rename_i y name ap z cp
    simp only [Bool.and_eq_true, decide_eq_true_eq] at h
    obtain ⟨⟨⟨⟨⟨⟨rfl, h2⟩, h3⟩, h4⟩, h4'⟩, h5⟩, h6⟩ := h
    have st := chkA_star nm cn N sc as _ h6
    have s1 : starEach [z] X.env = [(false, eval z X.env)] := by rw [notStar_cons (st z (by simp))]; simp [starEach]
    refine PE.weak (pe_bm PySem.F.plainAttrs_list (mt_slot mt) (mt_type mt) (mt_ok (ew := ew) C.toCalm mt h4') (ho.fe X sc raw ew y C h5) (ha.fa X sc raw ew [z] C h6) (not_super h3) ?_ h2 (notStar_cons (st z (by simp))) (by simp [starEach, backTo])) fun σ H Q t => ?_
    · rw [s1]
      simp [backTo, backToKw, keywordEach]
    · exact tBM_of C.toCalm (go := ev (callN tab k) o) (ga := evs (callN tab k) as) t
  · cases h
theorem kit_boot {T : String} (h : kitS T = true) : bootBuiltins (Str.ofString T) = some (.type T) ∧ Str.ofString T ∈ biNames ∧ Str.ofString T ≠ "__name__" ∧ (Str.ofString T == ("__debug__" : Str)) = false := by
  have six : T = "int" ∨ T = "bool" ∨ T = "str" ∨ T = "tuple" ∨ T = "list" ∨ T = "dict" := by
    unfold kitS at h
    simpa using h
  rcases six with rfl | rfl | rfl | rfl | rfl | rfl <;> exact ⟨by decide +kernel, by decide +kernel, by decide +kernel, by decide +kernel⟩
theorem snd_isi {a : E} {ts : List String} (ha : Snd A tab nm cn N k a) (X : Cx) (sc raw : Scope) (ew : XK) (e : Expr) (C : Ctx A tab nm cn N k X sc raw ew) (h : chkE nm cn N sc (.isi a ts) e = true) :
    PE X e (tG ew (rW A) (ev (callN tab k) (.isi a ts))) ∧ ∃ x args kws pos, e = .Call x args kws pos := by
  simp only [chkE] at h
  split at h
  · rename_i x p y t p2 pos
    simp only [Bool.and_eq_true, decide_eq_true_eq] at h
    obtain ⟨⟨⟨⟨h1, rfl⟩, h3⟩, h4⟩, h5⟩ := h
    split at h4
    · rename_i T
      simp only [Bool.and_eq_true, decide_eq_true_eq] at h4
      obtain ⟨h4, rfl⟩ := h4
      obtain ⟨b1, b2, b3, b4⟩ := kit_boot h4
      have ns : ∀ x p, y ≠ .Starred x p := fun x p z => by rw [z, chkE_star] at h5; cases h5
      have hp : PE X (.Name (Str.ofString T) p2) (tC (.ty T)) := pe_bltn (C.gl h3) (C.blt _ b2) b1 rfl b3 b4
      have args : PA X [y, .Name (Str.ofString T) p2] (tCons (tG ew (rW A) (ev (callN tab k) a)) (tCons (tC (.ty T)) tNil)) := pa_cons (ha.fe X sc raw ew y C h5) (pa_cons hp pa_nil) (notStar_cons ns)
      have st : ∀ e ∈ [y, Expr.Name (Str.ofString T) p2], ∀ x p, e ≠ .Starred x p := by
        intro e he x p
        rcases (show e = y ∨ e = _ by simpa using he) with z | z
        · rw [z]; exact ns x p
        · rw [z]; exact nofun
      refine ⟨PE.weak (pe_bi (f := .builtin "isinstance") (.inl ⟨_, rfl⟩) (isi_ok (ew := ew) C.toCalm h4) (C.gl h1) (C.blt _ (by decide +kernel)) (by decide +kernel) (by decide +kernel) (by decide +kernel) args st) fun σ H Q t => ?_, _, _, _, _, rfl⟩
      exact (one t).mono fun v H1 ⟨m, hp, w, rh, r, p⟩ => ⟨m, hp, w, v, rfl, rh, r, p⟩
    · cases h4
  · cases h
end
end Wm
end

section
set_option Elab.async false
set_option linter.all false
set_option maxRecDepth 100000
set_option maxHeartbeats 4000000
set_option autoImplicit false
namespace Wm
open PySem PySem.Spec PyProof.Rows L2
section
variable {A : At} {tab : List Fn} {nm : List Str} {cn : List (Str × W)} {N : List Str} {k : Nat} {X : Cx} {sc raw : Scope} {ew : XK}
theorem biV_kind (b : Bi) : (∃ id, biV b = .builtin id) ∨ ∃ T, biV b = .type T := by
  cases b <;> first | exact .inl ⟨_, rfl⟩ | exact .inr ⟨_, rfl⟩
theorem rgV_rep {m : List Addr} {H : Hp} : ∀ (n : Nat) (lo : Int), Reps A m H (rangeI lo n) ((List.range n).map fun i => V.int (lo + (i : Nat)))
  | 0, _ => .nil
  | n + 1, lo => by
    rw [List.range_succ_eq_map, List.map_cons, List.map_map]
    refine .cons (by simpa using Rep.int lo) ?_
    have := rgV_rep (m := m) (H := H) n (lo + 1)
    have e : (List.range n).map ((fun i : Nat => V.int (lo + (i : Nat))) ∘ Nat.succ) = (List.range n).map fun i => V.int (lo + 1 + (i : Nat)) := by
      apply List.map_congr_left
      intro i _
      show V.int (lo + ((i + 1 : Nat) : Int)) = _
      congr 1
      omega
    rw [e]
    exact this
theorem snd_bi {b : Bi} {as : E} (ha : Snd A tab nm cn N k as) (X : Cx) (sc raw : Scope) (ew : XK) (e : Expr) (C : Ctx A tab nm cn N k X sc raw ew) (h : chkE nm cn N sc (.bi b as) e = true) :
    PE X e (tG ew (rW A) (ev (callN tab k) (.bi b as))) ∧ ∃ x args kws pos, e = .Call x args kws pos := by
  simp only [chkE] at h
  split at h
  · rename_i x p y ys pos
    simp only [Bool.and_eq_true, decide_eq_true_eq] at h
    obtain ⟨⟨h1, rfl⟩, h3⟩ := h
    exact ⟨PE.weak (pe_bi (biV_kind b) (bi_ok (ew := ew) C.toCalm b) (C.gl h1) (C.blt _ (biN_mem b)) (boot_bi b) (biN_ne b).1 (biN_ne b).2 (ha.fa X sc raw ew _ C h3) (chkA_star nm cn N sc as _ h3)) fun σ H Q t => many t, _, _, _, _, rfl⟩
  · cases h
theorem snd_lrg {a : E} (ha : Snd A tab nm cn N k a) (X : Cx) (sc raw : Scope) (ew : XK) (e : Expr) (C : Ctx A tab nm cn N k X sc raw ew) (h : chkE nm cn N sc (.lrg a) e = true) : PE X e (tG ew (rW A) (ev (callN tab k) (.lrg a))) := by
  simp only [chkE] at h
  split at h
  · rename_i x p y p2 z p3 p4
    simp only [Bool.and_eq_true, decide_eq_true_eq] at h
    obtain ⟨⟨⟨⟨rfl, h2⟩, rfl⟩, h4⟩, h5⟩ := h
    have sz : ∀ x p, z ≠ .Starred x p := fun x p e => by rw [e, chkE_star] at h5; cases h5
    refine PE.weak (pe_listRg C.calm (C.gl h2) (C.blt _ (by decide +kernel)) (prg_1 (C.gl h4) (C.blt _ (by decide +kernel)) (ha.fe X sc raw ew z C h5) (notStar_cons sz)) (notStar_cons (by intro x p; exact nofun))) fun σ H Q t => ?_
    refine (tA.stepF (ρ := rNo A) (rW A) (ev (callN tab k) a) (fun p _ h => lrgW p.2 h) t).mono fun x H1 ⟨m, hp, s, a, rh, rs, ⟨_, r1⟩, p⟩ => ?_
    obtain ⟨a1, a2⟩ := a
    have r1 : Rep A m H1 a2 x := r1
    have p : Post ew (rW A) m H1 (lrgW a2 hp) Q := p
    cases r1 with
    | int n =>
      simp only [lrgW] at p
      split at p
      · rename_i hw
        unfold newLst at p
        split at p
        · rename_i hl
          simp only [within62, Bool.and_eq_true, decide_eq_true_eq] at hw
          rw [rangeI_length] at hl
          have hl := Nat.le_of_ble_eq_true hl
          refine ⟨n, rfl, ⟨by decide, by decide, hw.1, hw.2, ?_⟩, ?_⟩
          · unfold line at hl; omega
          · have r := rgV_rep (A := A) (m := m) (H := H1) n.toNat 0
            intro q hq
            have e : rgV 0 n = (List.range n.toNat).map fun i => V.int (0 + (i : Nat)) := by
              unfold rgV
              rw [Int.sub_zero]
            rw [e]
            exact p.lst rh r q hq
        · exact p.elim
      · exact p.elim
    | _ => exact p.elim
  · cases h
/-! ### what is walked -/
theorem snd_seq {a : E} (ha : Snd A tab nm cn N k a) (X : Cx) (sc raw : Scope) (ew : XK) (e tg : Expr) (C : Ctx A tab nm cn N k X sc raw ew) (h : chkI nm cn N sc (.seq a) e = true) : PI X tg e (tG ew (rI A) (evI (callN tab k) (.seq a))) := by
  have h : chkE nm cn N sc a e = true := by simpa only [chkI] using h
  refine ⟨fun pins s σ H Q I t => ?_⟩
  have t1 := tA.stepF (ρ := rNo A) (rW A) (ev (callN tab k) a) (fun p _ h => seqIt p.2 h) t
  refine thn ((ha.fe X sc raw ew e C h).run pins s σ H _ I t1) fun v s1 ⟨x, H1, I1, rv, m, hp, so, b, rh, rs, ⟨_, r1⟩, p⟩ => ?_
  obtain ⟨b1, b2⟩ := b
  have r1 : Rep A m H1 b2 x := r1
  have p : Post ew (rI A) m H1 (seqIt b2 hp) Q := p
  unfold seqIt at p
  split at p
  · rename_i ws e1
    obtain ⟨a0, vs, rfl, q, kk, ql, qt⟩ := seq_rep rh e1 r1
    cases rv
    cases b2 with
    | ref n =>
      obtain ⟨a', ea, ia⟩ := rep_ref r1
      cases ea
      have sl := ql n rfl
      obtain ⟨its, rv', lp, _⟩ := I1.list (show SqL X.K H1 a0 vs by rw [C.K]; exact sl)
      refine wpAny_pyIter_list lp.isList ⟨s1.heap.objs.size, [s1.heap.objs.size], _, _, H1, rfl, I1.kept (t' := s1.toks) fun b o e => Heap.get?_push_of_some _ e, turn_list a0 _, ⟨_, Heap.get?_push_size _ rfl, rfl, rfl⟩, fun b hb => ?_, ?_⟩
      · rw [List.mem_singleton.mp hb]
        exact I1.fpOk (Nat.le_refl _) (I1.hok.fresh (Nat.le_refl _))
      · exact p m _ H1 (Grow.refl _ _) rh (IR.list C.K.symm (by simp [watch]) ia)
    | tup us =>
      have st := qt us rfl
      obtain ⟨its, rv', tp, _⟩ := I1.tuple (show SqT X.K H1 a0 vs by rw [C.K]; exact st)
      refine wpAny_pyIter_tuple (show s1.heap.IsTuple a0 its.toArray from tp) ⟨s1.heap.objs.size, [s1.heap.objs.size], _, _, H1, rfl, I1.kept (t' := s1.toks) fun b o e => Heap.get?_push_of_some _ e, turn_tuple a0 _, ⟨_, Heap.get?_push_size _ rfl, rfl, rfl⟩, fun b hb => ?_, ?_⟩
      · rw [List.mem_singleton.mp hb]
        exact I1.fpOk (Nat.le_refl _) (I1.hok.fresh (Nat.le_refl _))
      · exact p m _ H1 (Grow.refl _ _) rh (IR.tuple C.K.symm rh st kk)
    | _ => cases e1
  · exact p.elim
theorem snd_enum {a : E} (ha : Snd A tab nm cn N k a) (X : Cx) (sc raw : Scope) (ew : XK) (e tg : Expr) (C : Ctx A tab nm cn N k X sc raw ew) (ht : isTup tg = true) (h : chkI nm cn N sc (.enum a) e = true) : PI X tg e (tG ew (rI A) (evI (callN tab k) (.enum a))) := by
  simp only [chkI] at h
  split at h
  · rename_i x p y pos
    simp only [Bool.and_eq_true, decide_eq_true_eq] at h
    obtain ⟨⟨rfl, h2⟩, h3⟩ := h
    have ns : ∀ x p, y ≠ .Starred x p := fun x p z => by rw [z, chkE_star] at h3; cases h3
    cases tg with
    | Tuple elts kk tp =>
      refine PI.weak (pi_enumT (C.gl h2) (C.blt _ (by decide +kernel)) (ha.fe X sc raw ew y C h3) ns) fun σ H Q t => ?_
      refine (tA.stepF (ρ := rNo A) (rW A) (ev (callN tab k) a) (fun p _ h => enumIt p.2 h) t).mono fun v H1 ⟨m, hp, so, b, rh, rs, ⟨_, r1⟩, p⟩ => ?_
      obtain ⟨b1, b2⟩ := b
      have r1 : Rep A m H1 b2 v := r1
      have p : Post ew (rI A) m H1 (enumIt b2 hp) Q := p
      unfold enumIt at p
      split at p
      · rename_i ws e1
        obtain ⟨a0, vs, rfl, q, kk, ql, qt⟩ := seq_rep rh e1 r1
        refine ⟨a0, vs, rfl, ?_⟩
        cases b2 with
        | ref n =>
          obtain ⟨a', ea, ia⟩ := rep_ref r1
          cases ea
          exact .inl ⟨by rw [C.K]; exact ql n rfl, p m _ H1 (Grow.refl _ _) rh (IR.enumL C.K.symm (by simp [watch]) ia)⟩
        | tup us => exact .inr ⟨by rw [C.K]; exact qt us rfl, p m _ H1 (Grow.refl _ _) rh (IR.enumT C.K.symm rh (qt us rfl) kk)⟩
        | _ => cases e1
      · exact p.elim
    | _ => cases ht
  · cases h
theorem snd_zip {a b : E} (ha : Snd A tab nm cn N k a) (hb : Snd A tab nm cn N k b) (X : Cx) (sc raw : Scope) (ew : XK) (e tg : Expr) (C : Ctx A tab nm cn N k X sc raw ew) (ht : isTup tg = true) (h : chkI nm cn N sc (.zip a b) e = true) : PI X tg e (tG ew (rI A) (evI (callN tab k) (.zip a b))) := by
  simp only [chkI] at h
  split at h
  · rename_i x p y z pos
    simp only [Bool.and_eq_true, decide_eq_true_eq] at h
    obtain ⟨⟨⟨rfl, h2⟩, h3⟩, h4⟩ := h
    have ns : ∀ x p, y ≠ .Starred x p := fun x p z => by rw [z, chkE_star] at h3; cases h3
    have ns2 : ∀ x p, z ≠ .Starred x p := fun x p z => by rw [z, chkE_star] at h4; cases h4
    cases tg with
    | Tuple elts kk tp =>
      have args : PA X [y, z] (tCons (tG ew (rW A) (ev (callN tab k) a)) (tCons (tG ew (rW A) (ev (callN tab k) b)) tNil)) := pa_cons (ha.fe X sc raw ew y C h3) (pa_cons (hb.fe X sc raw ew z C h4) pa_nil (notStar_cons ns2)) (notStar_cons ns)
      refine PI.weak (RZ.pi_zipA (C.gl h2) (C.blt _ (by decide +kernel)) args (notStar_cons ns) (any_back (by intro e he; rw [List.mem_singleton.mp he]; exact ns2))) fun σ H Q t => ?_
      refine (tA.stepF (ρ := rNo A) (rW A) (ev (callN tab k) a) (fun p s h => (ev (callN tab k) b s h).bind fun y h2 => zipIt p.2 y h2) t).mono fun v H1 t1 => ?_
      refine (tA.stepF (ρ := rP A (rNo A) (rW A)) (rW A) (ev (callN tab k) b) (fun p _ h => zipIt p.1.2 p.2 h) t1).mono fun u H2 ⟨m, hp, so, c, rh, rs, ⟨⟨_, r1⟩, r2⟩, p⟩ => ?_
      obtain ⟨⟨c1, c2⟩, c3⟩ := c
      have r1 : Rep A m H2 c2 v := r1
      have r2 : Rep A m H2 c3 u := r2
      have p : Post ew (rI A) m H2 (zipIt c2 c3 hp) Q := p
      unfold zipIt at p
      split at p
      · rename_i ws us e1 e2
        split at p
        · rename_i hbr
          obtain ⟨a0, vs, rfl, q, kk, ql, qt⟩ := seq_rep rh e1 r1
          obtain ⟨b0, vs2, rfl, q2, kk2, ql2, qt2⟩ := seq_rep rh e2 r2
          refine ⟨a0, b0, vs, vs2, rfl, ?_⟩
          cases c2 with
          | ref n =>
            cases c3 with
            | ref n2 =>
              obtain ⟨a', ea, ia⟩ := rep_ref r1
              cases ea
              obtain ⟨b', eb, ib⟩ := rep_ref r2
              cases eb
              exact .inl ⟨by rw [C.K]; exact ql n rfl, by rw [C.K]; exact ql2 n2 rfl, p m _ H2 (Grow.refl _ _) rh (IR.zipL C.K.symm (by simp [watch]) (by simp [watch]) ia ib)⟩
            | _ => cases hbr
          | tup us1 =>
            cases c3 with
            | tup us2 => exact .inr ⟨by rw [C.K]; exact qt us1 rfl, by rw [C.K]; exact qt2 us2 rfl, p m _ H2 (Grow.refl _ _) rh (IR.zipT C.K.symm rh (qt us1 rfl) kk (qt2 us2 rfl) kk2)⟩
            | _ => cases hbr
          | _ => cases e1
        · exact p.elim
      · exact p.elim
    | _ => cases ht
  · cases h
theorem snd_rng1 {a : E} (ha : Snd A tab nm cn N k a) (X : Cx) (sc raw : Scope) (ew : XK) (e tg : Expr) (C : Ctx A tab nm cn N k X sc raw ew) (h : chkI nm cn N sc (.rng1 a) e = true) : PI X tg e (tG ew (rI A) (evI (callN tab k) (.rng1 a))) := by
  simp only [chkI] at h
  split at h
  · rename_i x p y pos
    simp only [Bool.and_eq_true, decide_eq_true_eq] at h
    obtain ⟨⟨rfl, h2⟩, h3⟩ := h
    have ns : ∀ x p, y ≠ .Starred x p := fun x p z => by rw [z, chkE_star] at h3; cases h3
    refine PI.weak (pi_range1 (C.gl h2) (C.blt _ (by decide +kernel)) (pa_cons (ha.fe X sc raw ew y C h3) pa_nil (notStar_cons ns)) (by rw [notStar_cons ns]; simp [starEach])) fun σ H Q t => ?_
    refine (tA.stepF (ρ := rNo A) (rW A) (ev (callN tab k) a) (fun p _ h => rng1It p.2 h) t).mono fun v H1 ⟨m, hp, so, c, rh, rs, ⟨_, r1⟩, p⟩ => ?_
    obtain ⟨c1, c2⟩ := c
    have r1 : Rep A m H1 c2 v := r1
    have p : Post ew (rI A) m H1 (rng1It c2 hp) Q := p
    cases r1 with
    | int n =>
      simp only [rng1It] at p
      split at p
      · rename_i hw
        simp only [within62, Bool.and_eq_true, decide_eq_true_eq] at hw
        exact ⟨n, rfl, hw.1, hw.2, p m _ H1 (Grow.refl _ _) rh (IR.range 0 _ _)⟩
      · exact p.elim
    | _ => exact p.elim
  · cases h
theorem snd_rng2 {a b : E} (ha : Snd A tab nm cn N k a) (hb : Snd A tab nm cn N k b) (X : Cx) (sc raw : Scope) (ew : XK) (e tg : Expr) (C : Ctx A tab nm cn N k X sc raw ew) (h : chkI nm cn N sc (.rng2 a b) e = true) : PI X tg e (tG ew (rI A) (evI (callN tab k) (.rng2 a b))) := by
  simp only [chkI] at h
  split at h
  · rename_i x p y z pos
    simp only [Bool.and_eq_true, decide_eq_true_eq] at h
    obtain ⟨⟨⟨rfl, h2⟩, h3⟩, h4⟩ := h
    have ns : ∀ x p, y ≠ .Starred x p := fun x p z => by rw [z, chkE_star] at h3; cases h3
    have ns2 : ∀ x p, z ≠ .Starred x p := fun x p z => by rw [z, chkE_star] at h4; cases h4
    refine PI.weak (pi_range2 (C.gl h2) (C.blt _ (by decide +kernel)) (pa_cons (ha.fe X sc raw ew y C h3) (pa_cons (hb.fe X sc raw ew z C h4) pa_nil (notStar_cons ns2)) (notStar_cons ns)) (by rw [notStar_cons ns, notStar_cons ns2]; simp [starEach]) (by rw [notStar_cons ns2]; simp [starEach])) fun σ H Q t => ?_
    refine (tA.stepF (ρ := rNo A) (rW A) (ev (callN tab k) a) (fun p s h => (ev (callN tab k) b s h).bind fun y h2 => rng2It p.2 y h2) t).mono fun v H1 t1 => ?_
    refine (tA.stepF (ρ := rP A (rNo A) (rW A)) (rW A) (ev (callN tab k) b) (fun p _ h => rng2It p.1.2 p.2 h) t1).mono fun u H2 ⟨m, hp, so, c, rh, rs, ⟨⟨_, r1⟩, r2⟩, p⟩ => ?_
    obtain ⟨⟨c1, c2⟩, c3⟩ := c
    have r1 : Rep A m H2 c2 v := r1
    have r2 : Rep A m H2 c3 u := r2
    have p : Post ew (rI A) m H2 (rng2It c2 c3 hp) Q := p
    cases r1 with
    | int i =>
      cases r2 with
      | int j =>
        simp only [rng2It] at p
        split at p
        · rename_i hw
          simp only [within62, Bool.and_eq_true, decide_eq_true_eq] at hw
          exact ⟨i, j, rfl, ⟨hw.1.1, hw.1.2, hw.2.1, hw.2.2⟩, p m _ H2 (Grow.refl _ _) rh (IR.range i _ _)⟩
        · exact p.elim
      | _ => exact p.elim
    | _ => exact p.elim
  · cases h
end
end Wm
end

section
set_option Elab.async false
set_option linter.all false
set_option maxRecDepth 100000
set_option maxHeartbeats 4000000
set_option autoImplicit false
/-! List comprehensions; all expressions. -/
namespace Wm
open PySem PySem.Spec PyProof.Rows L2

section
variable {A : At} {tab : List Fn} {nm : List Str} {cn : List (Str × W)} {N : List Str} {k : Nat} {X : Cx} {sc raw : Scope} {ew : XK}
theorem Ctx.tgtOf (C : Ctx A tab nm cn N k X sc raw ew) : Tgt X N raw := ⟨C.eN, C.nd, C.calm, C.tgt⟩
theorem Ctx.blk (C : Ctx A tab nm cn N k X sc raw ew) (s : Shared) (H : Hp) (scope : Scope) (Cd : Addr) (cl : List (Str × Addr)) (fp : List Addr) : Ctx A tab nm cn N k (X.blk s H scope (compEnvC scope cl Cd X.env) fp) (relS scope sc) scope E0 where
  K := C.K
  calm := C.calm
  un := C.un
  grd := C.grd
  eN := C.eN
  nd := C.nd
  sc := by
    show relS scope X.env.scope = _
    rw [C.sc]
  room := C.room
  pass := PassesOwn.never
  hx := passL
  tgt := fun x h => by
    have key : ∀ kk, kk ≠ .free → scope.names.lookup x = some kk → (relS scope X.env.scope).names.lookup x = some kk := fun kk hk e => lookup_relS_keep hk e
    unfold loc at h
    split at h
    · rename_i e
      exact ⟨.inl (key _ (by nofun) e), .inr (key _ (by nofun) e)⟩
    · rename_i e
      refine ⟨.inr (key _ (by nofun) e), .inl ?_⟩
      show (scope.names.lookup x == some NameKind.cell) = true
      rw [e]; rfl
    · cases h
  blt := C.blt
  cns := C.cns
  fns := C.fns

theorem lcN_cons {f : W → OH → R (Option W)} {wt : List (Nat × List W)} {w : W} {ws : List W} {h hf : OH} {zs : List W} (e : lcN f wt (w :: ws) h = .ok zs hf) :
    still h wt = true ∧ ∃ o h1 ys, f w h = .ok o h1 ∧ lcN f wt ws h1 = .ok ys hf ∧ zs = consO o ys := by
  simp only [lcN] at e
  split at e
  · rename_i hs
    refine ⟨hs, ?_⟩
    cases q : f w h with
    | ok o h1 =>
      rw [q] at e
      simp only [R.calm, R.bind_ok] at e
      cases q2 : lcN f wt ws h1 with
      | ok ys h2 =>
        rw [q2] at e
        simp only [R.bind_ok] at e
        cases e
        exact ⟨o, h1, ys, rfl, q2, rfl⟩
      | exc c fs h2 => rw [q2] at e; cases e
      | no => rw [q2] at e; cases e
    | exc c fs h1 => rw [q] at e; cases e
    | no => rw [q] at e; cases e
  · cases e
theorem lcN_calm {f : W → OH → R (Option W)} {wt : List (Nat × List W)} : ∀ {ws : List W} {h hf : OH} {c : Nat} {fs : List (Str × W)}, lcN f wt ws h ≠ .exc c fs hf
  | [], h, hf, c, fs => by
    simp only [lcN]
    split <;> nofun
  | w :: ws, h, hf, c, fs => by
    simp only [lcN]
    split
    · cases f w h with
      | ok o h1 =>
        simp only [R.calm, R.bind_ok]
        cases q2 : lcN f wt ws h1 with
        | ok ys h2 => simp only [R.bind_ok]; nofun
        | exc c fs h2 => exact absurd q2 lcN_calm
        | no => nofun
      | exc c fs h1 => nofun
      | no => nofun
    · nofun

mutual
theorem Rep.offD {m : List Addr} {H : Hp} {D : Addr} {acc acc2 : List V} (hD : H D = some (.lst acc)) : ∀ {w : W} {v : V}, Rep A m H w v → Rep A m (upd H D (.lst acc2)) w v
  | _, _, .non => .non
  | _, _, .bl b => .bl b
  | _, _, .int i => .int i
  | _, _, .str x => .str x
  | _, _, .tup q kk => .tup (by
      rcases q with (q | ⟨ob, q⟩) | q
      · exact .inl (.inl (by rw [upd_ne (by intro z; rw [z, hD] at q; cases q)]; exact q))
      · exact .inl (.inr ⟨ob, by rw [upd_ne (by intro z; rw [z, hD] at q; cases q)]; exact q⟩)
      · exact .inr q) (Reps.offD hD kk)
  | _, _, .ref e => .ref e
  | _, _, .fn i => .fn i
  | _, _, .cls i => .cls i
  | _, _, .rol q kk => .rol (q.elim (fun ⟨ob, q⟩ => .inl ⟨ob, by rw [upd_ne (by intro z; rw [z, hD] at q; cases q)]; exact q⟩) .inr) (Reps.offD hD kk)
theorem Reps.offD {m : List Addr} {H : Hp} {D : Addr} {acc acc2 : List V} (hD : H D = some (.lst acc)) : ∀ {ws : List W} {vs : List V}, Reps A m H ws vs → Reps A m (upd H D (.lst acc2)) ws vs
  | _, _, .nil => .nil
  | _, _, .cons a b => .cons (Rep.offD hD a) (Reps.offD hD b)
end
theorem RelH.offD {m : List Addr} {h : OH} {H : Hp} {D : Addr} {acc acc2 : List V} (r : RelH A m h H) (hD : H D = Option.some (HO.lst acc)) (hm : D ∉ m) : RelH A m h (upd H D (HO.lst acc2)) := by
  refine ⟨r.len, r.nd, fun n o e => ?_⟩
  obtain ⟨a, e1, e2⟩ := r.ob n o e
  have hne : a ≠ D := fun z => hm (z ▸ List.mem_of_getElem? e1)
  refine ⟨a, e1, ?_⟩
  cases o with
  | lst us => obtain ⟨xs, q1, q2⟩ := e2; exact ⟨xs, by rw [upd_ne hne]; exact q1, q2.offD hD⟩
  | dct _ _ => exact e2.elim
  | ins _ _ => exact e2.elim
/-- a new object comes into the map at its end -/
theorem RelH.take {m : List Addr} {h : OH} {H : Hp} {D : Addr} {ws : List W} {vs : List V} (r : RelH A m h H) (hD : H D = Option.some (HO.lst vs)) (hm : D ∉ m) (kk : Reps A m H ws vs) : RelH A (m ++ [D]) (h ++ [O.lst ws]) H := by
  have up : ∀ {w : W} {v : V}, Rep A m H w v → Rep A (m ++ [D]) H w v := by
    intro w v q
    have := Rep.rec (A := A) (m := m) (H := H) (motive_1 := fun w v _ => Rep A (m ++ [D]) H w v) (motive_2 := fun ws vs _ => Reps A (m ++ [D]) H ws vs) .non (fun b => .bl b) (fun i => .int i) (fun x => .str x) (fun q _ ih => .tup q ih)
      (fun {n a} e => .ref (by rw [List.getElem?_append_left (List.getElem?_eq_some_iff.mp e).1]; exact e)) (fun i => .fn i) (fun i => .cls i) (fun q _ ih => .rol q ih) .nil (fun _ _ a b => .cons a b) q
    exact this
  have ups : ∀ {ws : List W} {vs : List V}, Reps A m H ws vs → Reps A (m ++ [D]) H ws vs := by
    intro ws
    induction ws with
    | nil => intro vs q; cases q; exact .nil
    | cons w ws ih => intro vs q; cases q with | cons a b => exact .cons (up a) (ih b)
  refine ⟨by simp [r.len], ?_, fun n o e => ?_⟩
  · rw [List.nodup_append]
    exact ⟨r.nd, by simp, fun a ha b hb => by rw [List.mem_singleton.mp hb]; intro z; exact hm (z ▸ ha)⟩
  · by_cases hn : n < h.length
    · rw [List.getElem?_append_left hn] at e
      obtain ⟨a, e1, e2⟩ := r.ob n o e
      refine ⟨a, by rw [List.getElem?_append_left (List.getElem?_eq_some_iff.mp e1).1]; exact e1, ?_⟩
      cases o with
      | lst us => obtain ⟨xs, q1, q2⟩ := e2; exact ⟨xs, q1, ups q2⟩
      | dct _ _ => exact e2.elim
      | ins _ _ => exact e2.elim
    · have hn2 : n = h.length := by
        have := (List.getElem?_eq_some_iff.mp e).1
        simp at this; omega
      subst hn2
      simp at e
      subst e
      exact ⟨D, by rw [← r.len]; simp, vs, hD, ups kk⟩
theorem Grow.out {m m' : List Addr} {H H' : Hp} (g : Grow m H m' H') {D : Addr} {o : HO} (hD : H D = some o) (hm : D ∉ m) : D ∉ m' ∧ H' D = some o := by
  refine ⟨fun z => ?_, g.keep D o hD hm⟩
  obtain ⟨l, rfl, e⟩ := g.map
  rcases List.mem_append.mp z with z | z
  · exact hm z
  · rw [e D z hm] at hD; cases hD

theorem newLst_ok {ew : XK} {m : List Addr} {H : Hp} {ws : List W} {h : OH} {Q : VK} (p : Post ew (rW A) m H (newLst ws h) Q) : ws.length ≤ line ∧ Post ew (rW A) m H (.ok (.ref h.length) (h ++ [.lst ws])) Q := by
  unfold newLst at p
  split at p
  · rename_i hl
    exact ⟨Nat.le_of_ble_eq_true hl, p⟩
  · exact p.elim
/-- one turn's run, in the own language -/
def lcF (G : Nat → List W → OH → R W) (e : E) (own : List Nat) (t : T) (cond : E) (s : Sl) : W → OH → R (Option W) := fun w h2 => (asgR t w (wipeS s own) h2).bind fun s' h3 => (evC G cond s' h3).bind fun k h4 => if k = true then (ev G e s' h4).bind fun y h5 => .ok (some y) h5 else .ok none h4
theorem lcF_ok {G : Nat → List W → OH → R W} {e : E} {own : List Nat} {t : T} {cond : E} {s : Sl} {w : W} {h h1 : OH} {o : Option W} (q : lcF G e own t cond s w h = .ok o h1) :
    ∃ s' kk h4, asgT t w (wipeS s own) = some s' ∧ evC G cond s' h = .ok kk h4 ∧ ((kk = true ∧ ∃ y, ev G e s' h4 = .ok y h1 ∧ o = some y) ∨ (kk = false ∧ h1 = h4 ∧ o = none)) := by
  unfold lcF asgR at q
  cases a : asgT t w (wipeS s own) with
  | none => rw [a] at q; cases q
  | some s' =>
    rw [a] at q
    simp only [R.bind_ok] at q
    cases b : evC G cond s' h with
    | ok kk h4 =>
      rw [b] at q
      simp only [R.bind_ok] at q
      cases kk with
      | false => simp only [Bool.false_eq_true, if_false] at q; cases q; exact ⟨s', false, h1, rfl, b, .inr ⟨rfl, rfl, rfl⟩⟩
      | true =>
        simp only [if_true] at q
        cases c : ev G e s' h4 with
        | ok y h5 => rw [c] at q; simp only [R.bind_ok] at q; cases q; exact ⟨s', true, h4, rfl, b, .inl ⟨rfl, y, c, rfl⟩⟩
        | exc _ _ _ => rw [c] at q; cases q
        | no => rw [c] at q; cases q
    | exc _ _ _ => rw [b] at q; cases q
    | no => rw [b] at q; cases q
theorem tLc_of (hK : X.K = A.K) {e it cond : E} {own : List Nat} {t : T} {G : Nat → List W → OH → R W} (ok : okT t = true) (sub : ∀ i ∈ slotsT t, i ∈ own) {σ : L2.St} {H : Hp} {Q : VK} (tt : tG ew (rW A) (ev G (.lc e own t it cond)) σ H Q) :
    tLc (tG ew (rI A) (evI G it)) (gT X.K t) (tG E0 (rE A Bool) (evC G cond)) (tG E0 (rW A) (ev G e)) own σ H Q := by
  refine (tA.stepF (ρ := rNo A) (rI A) (evI G it) (fun p s h => (lcN (lcF G e own t cond s) p.2.2 p.2.1 h).bind fun ys h6 => newLst ys h6) tt).mono fun J H1 ⟨m, hp, so, c, rh, rs, ⟨_, ir⟩, p⟩ D hD => ?_
  obtain ⟨_, ws, wt⟩ := c
  have ir : IR A J ws wt m H1 := ir
  have p : Post ew (rW A) m H1 ((lcN (lcF G e own t cond so) wt ws hp).bind fun ys h6 => newLst ys h6) Q := p
  cases ez : lcN (lcF G e own t cond so) wt ws hp with
  | exc _ _ _ => exact absurd ez lcN_calm
  | no => rw [ez] at p; exact p.elim
  | ok zs hf =>
  rw [ez] at p
  obtain ⟨hl, p⟩ := newLst_ok p
  have hDm : D ∉ m := rh.free hD
  refine ⟨fun i μ H' => μ = ws.length - i ∧ i ≤ ws.length ∧ ∃ m' h' us acc ys, Grow m H1 m' H' ∧ RelH A m' h' H' ∧ D ∉ m' ∧ H' D = some (.lst acc) ∧ Reps A m' H' us acc ∧ lcN (lcF G e own t cond so) wt (ws.drop i) h' = .ok ys hf ∧ zs = us ++ ys,
    ⟨ws.length, by simp, Nat.zero_le _, m, hp, [], [], zs, (rh.side (o := .lst []) hD).2, (rh.side hD).1, hDm, upd_same, .nil, by simpa using ez, rfl⟩, ?_⟩
  rintro i μ H2 ⟨rfl, hi, m2, h2, us, acc, ys, g2, r2, hD2, e2, k2, z2, rfl⟩
  by_cases hlt : i < ws.length
  · refine .inr ?_
    rw [List.drop_eq_getElem_cons hlt] at z2
    obtain ⟨st, o, h3, ys', f2, z3, rfl⟩ := lcN_cons z2
    obtain ⟨go, yl⟩ := ir.go i ws[i] m2 h2 H2 g2 r2 st (by simp [hlt])
    refine ⟨go, fun H3 => ∃ m' h' us2 acc2 ys2, Grow m H1 m' H3 ∧ RelH A m' h' H3 ∧ D ∉ m' ∧ H3 D = some (.lst acc2) ∧ Reps A m' H3 us2 acc2 ∧ lcN (lcF G e own t cond so) wt (ws.drop (i + 1)) h' = .ok ys2 hf ∧ us ++ consO o ys' = us2 ++ ys2, fun H3 nx => ⟨_, ?_, rfl, hlt, nx⟩, fun x H3 y => ?_⟩
    · omega
    obtain ⟨g3, r3, rx⟩ := yl x H3 y
    obtain ⟨s', kk, h4, e4, c4, cs⟩ := lcF_ok f2
    have gg := g2.trans g3
    have sl : RelS A m2 H3 (wipeS so own) (L2.wipe σ own) := (rs.grow rh gg).wipe own
    refine gT_ok hK.symm t ws[i] x (wipeS so own) s' (L2.wipe σ own) _ ok e4 rx sl fun σ2 of r4 => ⟨?_, m2, h2, s', (), r3, r4, trivial, ?_⟩
    · rw [of.wipe sub, wipe_wipe]
    show Post E0 (rE A Bool) m2 H3 (evC G cond s' h2) _
    rw [c4]
    intro m5 b H5 g5 r5 eb
    have eb : kk = b := eb
    subst eb
    obtain ⟨hD3, e3⟩ := g3.out e2 hD2
    obtain ⟨hD5, e5⟩ := g5.out e3 hD3
    rcases cs with ⟨rfl, yv, c5, rfl⟩ | ⟨rfl, rfl, rfl⟩
    · rw [if_pos rfl]
      refine ⟨m5, h4, s', (), r5, r4.grow r3 g5, trivial, ?_⟩
      show Post E0 (rW A) m5 H5 (ev G e s' h4) _
      rw [c5]
      intro m6 vy H6 g6 r6 ry
      have ry : Rep A m6 H6 yv vy := ry
      obtain ⟨hD6, e6⟩ := g6.out e5 hD5
      have k6 := ((k2.grow r2 g3).grow r3 g5).grow r5 g6
      have hlen : acc.length < line := by
        rw [← k6.length]
        simp only [consO, List.length_append, List.length_cons] at hl
        omega
      refine ⟨acc, e6, Nat.lt_trans hlen (by decide), m6, h3, us ++ [yv], acc ++ [vy], ys', ?_, r6.offD e6 hD6, hD6, upd_same, Reps.append (k6.offD e6) (.cons (ry.offD e6) .nil), z3, by simp [consO]⟩
      have g := (gg.trans g5).trans g6
      refine ⟨g.map, fun a o ea ha => ?_⟩
      rw [upd_ne (by intro z; rw [z, hD] at ea; cases ea)]
      exact g.keep a o ea ha
    · rw [if_neg (by decide)]
      exact ⟨m5, h3, us, acc, ys', gg.trans g5, r5, hD5, e5, (k2.grow r2 g3).grow r3 g5, z3, rfl⟩
  · have hie : i = ws.length := by omega
    subst hie
    rw [List.drop_length] at z2
    simp only [lcN] at z2
    split at z2
    · rename_i st
      cases z2
      rw [List.append_nil] at p
      refine .inl ⟨ir.stop m2 hf H2 g2 r2 st, p (m2 ++ [D]) (.ref D) H2 ?_ (r2.take e2 hD2 k2) (.ref (by rw [← r2.len]; simp))⟩
      obtain ⟨l, rfl, el⟩ := g2.map
      refine ⟨⟨l ++ [D], by simp, fun a ha hm => ?_⟩, g2.keep⟩
      rcases List.mem_append.mp ha with z | z
      · exact el a z hm
      · rw [List.mem_singleton.mp z]; exact hD
    · cases z2
theorem snd_lc {e it cond : E} {own : List Nat} {t : T} (he : Snd A tab nm cn N k e) (hi : Snd A tab nm cn N k it) (hc : Snd A tab nm cn N k cond) (X : Cx) (sc raw : Scope) (ew : XK) (x : Expr) (C : Ctx A tab nm cn N k X sc raw ew) (h : chkE nm cn N sc (.lc e own t it cond) x = true) :
    PE X x (tG ew (rW A) (ev (callN tab k) (.lc e own t it cond))) := by
  simp only [chkE] at h
  split at h
  · rename_i elt tg iter ifs scope pos
    simp only [Bool.and_eq_true, List.all_eq_true, decide_eq_true_eq] at h
    obtain ⟨⟨⟨⟨⟨⟨⟨h1, h2⟩, h3⟩, h4⟩, h5⟩, h6⟩, h7⟩, h8⟩ := h
    have ov : (own.map fun i => (N.getD i "", i)).map (·.2) = own := by rw [List.map_map]; exact (List.map_congr_left fun _ _ => rfl).trans (List.map_id own)
    have bo := blkOk_by h1
    have tk := (chkT_ok t tg h6).1
    have pl := pe_lc (X := X) (g := gT X.K t) (elt := elt) (pos := pos) C.calm (by rw [C.eN]; exact C.nd) (hi.fi X sc raw ew iter tg C h4 h5) (by rw [C.eN, C.sc]; exact bo)
      (fun s H Cd cl fp => pg_T (C.blk s H scope Cd cl fp).tgtOf t tg h6) (fun s H Cd cl fp => hc.fc _ _ _ _ ifs (C.blk s H scope Cd cl fp) h7) (fun s H Cd cl fp => he.fe _ _ _ _ elt (C.blk s H scope Cd cl fp) h8) (fun x => notSet_fold h3 _ x)
    rw [ov] at pl
    exact PE.weak pl fun σ H Q t => tLc_of C.K tk h2 t
  · cases h
/-! ### all expressions -/
theorem no_fi {a : E} {X : Cx} {e tg : Expr} {sc : Scope} {t : TI} (d : ∀ sc e, chkI nm cn N sc a e = false) (h : chkI nm cn N sc a e = true) : PI X tg e t := by rw [d] at h; cases h
theorem no_fa {a : E} {X : Cx} {es : List Expr} {sc : Scope} {t : TA} (d : ∀ sc e, chkA nm cn N sc a e = false) (h : chkA nm cn N sc a es = true) : PA X es t := by rw [d] at h; cases h
theorem no_fo {a : E} {X : Cx} {es : Option Expr} {sc : Scope} {t : TO} (d : ∀ sc e, chkO nm cn N sc a e = false) (h : chkO nm cn N sc a es = true) : PO X es t := by rw [d] at h; cases h
theorem no_fc {a : E} {X : Cx} {es : List Expr} {sc : Scope} {t : TT} (d : ∀ sc e, chkC nm cn N sc a e = false) (h : chkC nm cn N sc a es = true) : PTs X es t := by rw [d] at h; cases h
theorem no_fe {a : E} {X : Cx} {e : Expr} {sc : Scope} {t : TE} (d : ∀ sc e, chkE nm cn N sc a e = false) (h : chkE nm cn N sc a e = true) : PE X e t := by rw [d] at h; cases h
theorem no_ft {a : E} {X : Cx} {e : Expr} {sc : Scope} {t : TT} (d : ∀ sc e, chkE nm cn N sc a e = false) (h : chkE nm cn N sc a e = true) : PT X e t := by rw [d] at h; cases h
/-- a plain expression: not a list, no thing walked -/
theorem Snd.plain {a : E} (da : ∀ sc e, chkA nm cn N sc a e = false) (do_ : ∀ sc e, chkO nm cn N sc a e = false) (dc : ∀ sc e, chkC nm cn N sc a e = false) (di : ∀ sc e, chkI nm cn N sc a e = false)
    (fe : ∀ (X : Cx) (sc raw : Scope) (ew : XK) (e : Expr), Ctx A tab nm cn N k X sc raw ew → chkE nm cn N sc a e = true → PE X e (tG ew (rW A) (ev (callN tab k) a)))
    (ft : ∀ (X : Cx) (sc raw : Scope) (ew : XK) (e : Expr), Ctx A tab nm cn N k X sc raw ew → chkE nm cn N sc a e = true → PT X e (tG ew (rE A Bool) (evT (callN tab k) a))) : Snd A tab nm cn N k a :=
  ⟨fe, ft, fun _ _ _ _ _ _ h => no_fa da h, fun _ _ _ _ _ _ h => no_fo do_ h, fun _ _ _ _ _ _ h => no_fc dc h, fun _ _ _ _ _ _ _ _ h => no_fi di h⟩
theorem Snd.plainN {a : E} (da : ∀ sc e, chkA nm cn N sc a e = false) (do_ : ∀ sc e, chkO nm cn N sc a e = false) (dc : ∀ sc e, chkC nm cn N sc a e = false) (di : ∀ sc e, chkI nm cn N sc a e = false)
    (fe : ∀ (X : Cx) (sc raw : Scope) (ew : XK) (e : Expr), Ctx A tab nm cn N k X sc raw ew → chkE nm cn N sc a e = true → PE X e (tG ew (rW A) (ev (callN tab k) a)))
    (ft : ∀ s h, evT (callN tab k) a s h = .no) : Snd A tab nm cn N k a :=
  Snd.plain da do_ dc di fe fun _ _ _ _ _ _ _ => PT.none ft
theorem Snd.walk {a : E} (de : ∀ sc e, chkE nm cn N sc a e = false) (da : ∀ sc e, chkA nm cn N sc a e = false) (do_ : ∀ sc e, chkO nm cn N sc a e = false) (dc : ∀ sc e, chkC nm cn N sc a e = false)
    (fi : ∀ (X : Cx) (sc raw : Scope) (ew : XK) (e tg : Expr), Ctx A tab nm cn N k X sc raw ew → (!needT a || isTup tg) = true → chkI nm cn N sc a e = true → PI X tg e (tG ew (rI A) (evI (callN tab k) a))) : Snd A tab nm cn N k a :=
  ⟨fun _ _ _ _ _ _ h => no_fe de h, fun _ _ _ _ _ _ h => no_ft de h, fun _ _ _ _ _ _ h => no_fa da h, fun _ _ _ _ _ _ h => no_fo do_ h, fun _ _ _ _ _ _ h => no_fc dc h, fi⟩
end
end Wm
end

section
set_option Elab.async false
set_option linter.all false
set_option maxRecDepth 100000
set_option maxHeartbeats 4000000
set_option autoImplicit false
/-! All expressions. -/
namespace Wm
open PySem PySem.Spec PyProof.Rows L2

section
variable {A : At} {tab : List Fn} {nm : List Str} {cn : List (Str × W)} {N : List Str} {k : Nat}
theorem ft_v {i : Nat} (X : Cx) (sc raw : Scope) (ew : XK) (e : Expr) (C : Ctx A tab nm cn N k X sc raw ew) (h : chkE nm cn N sc (.v i) e = true) : PT X e (tG ew (rE A Bool) (evT (callN tab k) (.v i))) := by
  have p := pt_of C.K (pe_v C h) (by
    simp only [chkE] at h
    split at h
    · intro w; rfl
    · cases h)
  exact p
theorem ft_c {w : W} (X : Cx) (sc raw : Scope) (ew : XK) (e : Expr) (C : Ctx A tab nm cn N k X sc raw ew) (h : chkE nm cn N sc (.c w) e = true) : PT X e (tG ew (rE A Bool) (evT (callN tab k) (.c w))) := by
  have p := pt_of C.K (pe_c C h) (by
    simp only [chkE] at h
    split at h
    · intro w; rfl
    · intro w; rfl
    · cases h)
  exact p
theorem ft_call {f : Nat} {as : E} (ha : Snd A tab nm cn N k as) (X : Cx) (sc raw : Scope) (ew : XK) (e : Expr) (C : Ctx A tab nm cn N k X sc raw ew) (h : chkE nm cn N sc (.call f as) e = true) : PT X e (tG ew (rE A Bool) (evT (callN tab k) (.call f as))) := by
  obtain ⟨q, ⟨_, _, _, _, rfl⟩⟩ := snd_call ha X sc raw ew e C h
  have p := pt_of C.K q fun w => rfl
  exact p
theorem ft_bi {b : Bi} {as : E} (ha : Snd A tab nm cn N k as) (X : Cx) (sc raw : Scope) (ew : XK) (e : Expr) (C : Ctx A tab nm cn N k X sc raw ew) (h : chkE nm cn N sc (.bi b as) e = true) : PT X e (tG ew (rE A Bool) (evT (callN tab k) (.bi b as))) := by
  obtain ⟨q, ⟨_, _, _, _, rfl⟩⟩ := snd_bi ha X sc raw ew e C h
  have p := pt_of C.K q fun w => rfl
  exact p
theorem ft_isi {a : E} {ts : List String} (ha : Snd A tab nm cn N k a) (X : Cx) (sc raw : Scope) (ew : XK) (e : Expr) (C : Ctx A tab nm cn N k X sc raw ew) (h : chkE nm cn N sc (.isi a ts) e = true) : PT X e (tG ew (rE A Bool) (evT (callN tab k) (.isi a ts))) := by
  obtain ⟨q, ⟨_, _, _, _, rfl⟩⟩ := snd_isi ha X sc raw ew e C h
  have p := pt_of C.K q fun w => rfl
  exact p
theorem ft_ix {a b : E} (ha : Snd A tab nm cn N k a) (hb : Snd A tab nm cn N k b) (X : Cx) (sc raw : Scope) (ew : XK) (e : Expr) (C : Ctx A tab nm cn N k X sc raw ew) (h : chkE nm cn N sc (.ix a b) e = true) : PT X e (tG ew (rE A Bool) (evT (callN tab k) (.ix a b))) := by
  obtain ⟨q, ⟨_, _, _, rfl⟩⟩ := snd_ix ha hb X sc raw ew e C h
  have p := pt_of C.K q fun w => rfl
  exact p
theorem snd : ∀ a : E, Snd A tab nm cn N k a := by
  intro a
  induction a with
  | v i => exact Snd.plain (fun _ _ => rfl) (fun _ _ => rfl) (fun _ _ => rfl) (fun _ _ => rfl) (fun X sc raw ew e C h => pe_v C h) ft_v
  | c w => exact Snd.plain (fun _ _ => rfl) (fun _ _ => rfl) (fun _ _ => rfl) (fun _ _ => rfl) (fun X sc raw ew e C h => pe_c C h) ft_c
  | nil =>
    refine ⟨fun _ _ _ _ _ _ h => no_fe (fun _ _ => rfl) h, fun _ _ _ _ _ _ h => no_ft (fun _ _ => rfl) h, fun X sc raw ew es C h => ?_, fun X sc raw ew es C h => ?_, fun X sc raw ew es C h => ?_, fun _ _ _ _ _ _ _ _ h => no_fi (fun _ _ => rfl) h⟩
    · simp only [chkA] at h
      split at h
      · exact PA.weak pa_nil fun σ H Q t => tG_ok t fun _ _ => .nil
      · cases h
    · simp only [chkO] at h
      split at h
      · exact ⟨fun pins s σ H Q I t => po_none.run pins s σ H Q I (tG_ok t fun _ _ => rfl)⟩
      · cases h
    · simp only [chkC] at h
      split at h
      · exact ⟨fun pins s σ H Q I t => pts_nil.run pins s σ H Q I (tG_ok t fun _ _ => rfl)⟩
      · cases h
  | cons a r ha hr =>
    refine ⟨fun _ _ _ _ _ _ h => no_fe (fun _ _ => rfl) h, fun _ _ _ _ _ _ h => no_ft (fun _ _ => rfl) h, fun X sc raw ew es C h => ?_, fun X sc raw ew es C h => ?_, fun X sc raw ew es C h => ?_, fun _ _ _ _ _ _ _ _ h => no_fi (fun _ _ => rfl) h⟩
    · simp only [chkA] at h
      split at h
      · rename_i x xs
        simp only [Bool.and_eq_true] at h
        have ns : ∀ y p, x ≠ .Starred y p := fun y p z => by rw [z, chkE_star] at h; cases h.1
        refine PA.weak (pa_cons (ha.fe X sc raw ew x C h.1) (hr.fa X sc raw ew xs C h.2) (notStar_cons ns)) fun σ H Q t => ?_
        refine (tA.stepF (ρ := rNo A) (rW A) (ev (callN tab k) a) (fun p s h => (evs (callN tab k) r s h).bind fun ws h2 => .ok (p.2 :: ws) h2) t).mono fun v H1 t1 => ?_
        refine (tA.stepF (ρ := rP A (rNo A) (rW A)) (rWs A) (evs (callN tab k) r) (fun p s h => .ok (p.1.2 :: p.2) h) t1).mono fun u H2 ⟨m, hp, so, c, rh, rs, ⟨⟨_, r1⟩, r2⟩, p⟩ => ?_
        exact p m _ H2 (Grow.refl _ _) rh (.cons r1 r2)
      · cases h
    · cases r with
      | nil =>
        simp only [chkO] at h
        split at h
        · rename_i x
          refine ⟨fun pins s σ H Q I t => (po_some (ha.fe X sc raw ew x C h)).run pins s σ H Q I ?_⟩
          refine (tA.stepF (ρ := rNo A) (rW A) (ev (callN tab k) a) (fun p s h => asI p.2 h) t).mono fun v H1 ⟨m, hp, so, c, rh, rs, ⟨_, r1⟩, p⟩ => ?_
          obtain ⟨c1, c2⟩ := c
          have r1 : Rep A m H1 c2 v := r1
          have p : Post ew (rE A (Option Int)) m H1 (asI c2 hp) Q := p
          cases r1 with
          | int i => exact ⟨i, rfl, p m _ H1 (Grow.refl _ _) rh rfl⟩
          | _ => exact p.elim
        · cases h
      | _ => exact no_fo (fun _ _ => rfl) h
    · cases r with
      | nil =>
        simp only [chkC] at h
        split at h
        · rename_i x
          exact pts_one (ha.ft X sc raw ew x C h)
        · cases h
      | _ => exact no_fc (fun _ _ => rfl) h
  | bin o a b ha hb => exact Snd.plainN (fun _ _ => rfl) (fun _ _ => rfl) (fun _ _ => rfl) (fun _ _ => rfl) (snd_bin ha hb) fun _ _ => rfl
  | neg a ha => exact Snd.plainN (fun _ _ => rfl) (fun _ _ => rfl) (fun _ _ => rfl) (fun _ _ => rfl) (snd_neg ha) fun _ _ => rfl
  | cmp o a b ha hb => exact Snd.plain (fun _ _ => rfl) (fun _ _ => rfl) (fun _ _ => rfl) (fun _ _ => rfl) (fun X sc raw ew e C h => (snd_cmp ha hb X sc raw ew e C h).1) (fun X sc raw ew e C h => (snd_cmp ha hb X sc raw ew e C h).2)
  | chain o p a b c ha hb hc => exact Snd.plain (fun _ _ => rfl) (fun _ _ => rfl) (fun _ _ => rfl) (fun _ _ => rfl) (fun X sc raw ew e C h => (snd_chain ha hb hc X sc raw ew e C h).1) (fun X sc raw ew e C h => (snd_chain ha hb hc X sc raw ew e C h).2)
  | and a b ha hb => exact Snd.plain (fun _ _ => rfl) (fun _ _ => rfl) (fun _ _ => rfl) (fun _ _ => rfl) (fun X sc raw ew e C h => (snd_and ha hb X sc raw ew e C h).1) (fun X sc raw ew e C h => (snd_and ha hb X sc raw ew e C h).2)
  | or a b ha hb => exact Snd.plain (fun _ _ => rfl) (fun _ _ => rfl) (fun _ _ => rfl) (fun _ _ => rfl) (fun X sc raw ew e C h => (snd_or ha hb X sc raw ew e C h).1) (fun X sc raw ew e C h => (snd_or ha hb X sc raw ew e C h).2)
  | not a ha => exact Snd.plain (fun _ _ => rfl) (fun _ _ => rfl) (fun _ _ => rfl) (fun _ _ => rfl) (fun X sc raw ew e C h => (snd_not ha X sc raw ew e C h).1) (fun X sc raw ew e C h => (snd_not ha X sc raw ew e C h).2)
  | ite t a b ht ha hb => exact Snd.plainN (fun _ _ => rfl) (fun _ _ => rfl) (fun _ _ => rfl) (fun _ _ => rfl) (snd_ite ht ha hb) fun _ _ => rfl
  | call f as ha => exact Snd.plain (fun _ _ => rfl) (fun _ _ => rfl) (fun _ _ => rfl) (fun _ _ => rfl) (fun X sc raw ew e C h => (snd_call ha X sc raw ew e C h).1) (ft_call ha)
  | bi b as ha => exact Snd.plain (fun _ _ => rfl) (fun _ _ => rfl) (fun _ _ => rfl) (fun _ _ => rfl) (fun X sc raw ew e C h => (snd_bi ha X sc raw ew e C h).1) (ft_bi ha)
  | isi a ts ha => exact Snd.plain (fun _ _ => rfl) (fun _ _ => rfl) (fun _ _ => rfl) (fun _ _ => rfl) (fun X sc raw ew e C h => (snd_isi ha X sc raw ew e C h).1) (ft_isi ha)
  | mt m o as ho ha => exact Snd.plainN (fun _ _ => rfl) (fun _ _ => rfl) (fun _ _ => rfl) (fun _ _ => rfl) (snd_mt ho ha) fun _ _ => rfl
  | tup as ha => exact Snd.plainN (fun _ _ => rfl) (fun _ _ => rfl) (fun _ _ => rfl) (fun _ _ => rfl) (snd_tup ha) fun _ _ => rfl
  | lst as ha => exact Snd.plainN (fun _ _ => rfl) (fun _ _ => rfl) (fun _ _ => rfl) (fun _ _ => rfl) (snd_lst ha) fun _ _ => rfl
  | ix a b ha hb => exact Snd.plain (fun _ _ => rfl) (fun _ _ => rfl) (fun _ _ => rfl) (fun _ _ => rfl) (fun X sc raw ew e C h => (snd_ix ha hb X sc raw ew e C h).1) (ft_ix ha hb)
  | sl a lo hi ha hl hh => exact Snd.plainN (fun _ _ => rfl) (fun _ _ => rfl) (fun _ _ => rfl) (fun _ _ => rfl) (snd_sl ha hl hh) fun _ _ => rfl
  | rev a ha => exact Snd.plainN (fun _ _ => rfl) (fun _ _ => rfl) (fun _ _ => rfl) (fun _ _ => rfl) (snd_rev ha) fun _ _ => rfl
  | lc e own t it cond he hi hc => exact Snd.plainN (fun _ _ => rfl) (fun _ _ => rfl) (fun _ _ => rfl) (fun _ _ => rfl) (snd_lc he hi hc) fun _ _ => rfl
  | lrg a ha => exact Snd.plainN (fun _ _ => rfl) (fun _ _ => rfl) (fun _ _ => rfl) (fun _ _ => rfl) (snd_lrg ha) fun _ _ => rfl
  | gc a ha => exact Snd.plain (fun _ _ => rfl) (fun _ _ => rfl) (fun _ _ => rfl) (fun _ _ => rfl) (fun X sc raw ew e C h => PE.weak (ha.fe X sc raw ew e C (by simpa only [chkE] using h)) fun σ H Q t => tG_gc t) (fun X sc raw ew e C h => PT.weak (ha.ft X sc raw ew e C (by simpa only [chkE] using h)) fun σ H Q t => tG_gcB t)
  | seq a ha => exact Snd.walk (fun _ _ => rfl) (fun _ _ => rfl) (fun _ _ => rfl) (fun _ _ => rfl) fun X sc raw ew e tg C _ h => snd_seq ha X sc raw ew e tg C h
  | rng1 a ha => exact Snd.walk (fun _ _ => rfl) (fun _ _ => rfl) (fun _ _ => rfl) (fun _ _ => rfl) fun X sc raw ew e tg C _ h => snd_rng1 ha X sc raw ew e tg C h
  | rng2 a b ha hb => exact Snd.walk (fun _ _ => rfl) (fun _ _ => rfl) (fun _ _ => rfl) (fun _ _ => rfl) fun X sc raw ew e tg C _ h => snd_rng2 ha hb X sc raw ew e tg C h
  | enum a ha => exact Snd.walk (fun _ _ => rfl) (fun _ _ => rfl) (fun _ _ => rfl) (fun _ _ => rfl) fun X sc raw ew e tg C ht h => snd_enum ha X sc raw ew e tg C (by simpa [needT] using ht) h
  | zip a b ha hb => exact Snd.walk (fun _ _ => rfl) (fun _ _ => rfl) (fun _ _ => rfl) (fun _ _ => rfl) fun X sc raw ew e tg C ht h => snd_zip ha hb X sc raw ew e tg C (by simpa [needT] using ht) h
end
end Wm
end

section
set_option Elab.async false
set_option linter.all false
set_option maxRecDepth 100000
set_option maxHeartbeats 4000000
set_option autoImplicit false
/-! Statements: their runs as readings, the look. -/
namespace Wm
open PySem PySem.Spec PyProof.Rows L2

section
variable {A : At} (ew : XK)
def PostF (A : At) (m : List Addr) (H : Hp) (p : F × Sl) (h' : OH) (D : Ends) : Prop := match p.1 with
  | .nx => ∀ (m' : List Addr) (σ' : L2.St) (H' : Hp), Grow m H m' H' → RelH A m' h' H' → RelS A m' H' p.2 σ' → D.nx σ' H'
  | .bk => ∀ (m' : List Addr) (σ' : L2.St) (H' : Hp), Grow m H m' H' → RelH A m' h' H' → RelS A m' H' p.2 σ' → D.bk σ' H'
  | .ct => ∀ (m' : List Addr) (σ' : L2.St) (H' : Hp), Grow m H m' H' → RelH A m' h' H' → RelS A m' H' p.2 σ' → D.ct σ' H'
  | .rt w => ∀ (m' : List Addr) (v : V) (H' : Hp), Grow m H m' H' → RelH A m' h' H' → Rep A m' H' w v → D.rt v H'
def PostS (A : At) (m : List Addr) (H : Hp) (r : RS) (D : Ends) : Prop := match r with
  | .ok p h' => PostF A m H p h' D
  | .exc c fs h' => ∀ (m' : List Addr) (d : Option Addr) (H' : Hp), Grow m H m' H' → RelH A m' h' H' → ExcRel A m' H' fs d → ew (.ref (A.ca c)) d H'
  | .no => False
/-- a statement's run behind what has been reckoned -/
def tSA {α β : Type} (ρ : Rl A α β) (g : α → Sl → OH → RS) (b : β) : TS := fun D σ H => ∃ (m : List Addr) (h : OH) (s : Sl) (a : α), RelH A m h H ∧ RelS A m H s σ ∧ ρ.r m H a b ∧ PostS ew A m H (g a s h) D
def tS (A : At) (g : Sl → OH → RS) : TS := tSA ew (rNo A) (fun _ => g) ()
variable {ew}
theorem PostF.from {m m' : List Addr} {H H' : Hp} {q : F × Sl} {h' : OH} {D : Ends} (g : Grow m H m' H') (p : PostF A m H q h' D) : PostF A m' H' q h' D := by
  obtain ⟨f, s⟩ := q
  cases f with
  | nx => exact fun m2 σ2 H2 g2 => p m2 σ2 H2 (g.trans g2)
  | bk => exact fun m2 σ2 H2 g2 => p m2 σ2 H2 (g.trans g2)
  | ct => exact fun m2 σ2 H2 g2 => p m2 σ2 H2 (g.trans g2)
  | rt w => exact fun m2 σ2 H2 g2 => p m2 σ2 H2 (g.trans g2)
theorem PostS.from {m m' : List Addr} {H H' : Hp} {r : RS} {D : Ends} (g : Grow m H m' H') (p : PostS ew A m H r D) : PostS ew A m' H' r D := by
  cases r with
  | ok a h' => exact PostF.from g p
  | exc c fs h' => exact fun m2 b H2 g2 r2 q2 => p m2 b H2 (g.trans g2) r2 q2
  | no => exact p
/-- an expression first -/
theorem tSA.step {α β ε ζ : Type} {ρ : Rl A α β} {r1 : Rl A ε ζ} {c : α → Sl → OH → R ε} {g : α × ε → Sl → OH → RS} {b : β} {σ : L2.St} {H : Hp} {D : Ends}
    (t : tSA ew ρ (fun a s h => (c a s h).bind fun x h1 => g (a, x) s h1) b D σ H) : tA ew ρ r1 c b σ H (fun y H1 => tSA ew (rP A ρ r1) g (b, y) D σ H1) := by
  obtain ⟨m, h, s, a, rh, rs, ra, p⟩ := t
  refine ⟨m, h, s, a, rh, rs, ra, ?_⟩
  have p2 : PostS ew A m H ((c a s h).bind fun x h1 => g (a, x) s h1) D := p
  revert p2
  cases c a s h with
  | ok x h1 => exact fun p m' y H' g' r' q => ⟨m', h1, s, (a, x), r', rs.grow rh g', ⟨ρ.grow rh g' ra, q⟩, PostS.from g' p⟩
  | exc c fs h1 => exact fun p => p
  | no => exact fun p => p
theorem tSA.stepF {α β ε ζ : Type} {ρ : Rl A α β} (r1 : Rl A ε ζ) (c : Sl → OH → R ε) (g : α × ε → Sl → OH → RS) {b : β} {σ : L2.St} {H : Hp} {D : Ends}
    (t : tSA ew ρ (fun a s h => (c s h).bind fun x h1 => g (a, x) s h1) b D σ H) : tG ew r1 c σ H (fun y H1 => tSA ew (rP A ρ r1) g (b, y) D σ H1) := (tSA.step (r1 := r1) (c := fun _ => c) (g := g) t).forget
theorem tSA.forget {α β : Type} {ρ : Rl A α β} {g : Sl → OH → RS} {b : β} {D : Ends} {σ : L2.St} {H : Hp} (t : tSA ew ρ (fun _ => g) b D σ H) : tS ew A g D σ H := by
  obtain ⟨m, h, s, a, rh, rs, ra, p⟩ := t
  exact ⟨m, h, s, (), rh, rs, trivial, p⟩
/-- a statement, then the rest -/
theorem tS.seq {g1 g2 : Sl → OH → RS} {D : Ends} {σ : L2.St} {H : Hp} (t : tS ew A (fun s h => (g1 s h).bind (thenS g2)) D σ H) : tSeq (tS ew A g1) (tS ew A g2) D σ H := by
  obtain ⟨m, h, s, a, rh, rs, ra, p⟩ := t
  refine ⟨m, h, s, a, rh, rs, ra, ?_⟩
  have p2 : PostS ew A m H ((g1 s h).bind (thenS g2)) D := p
  show PostS ew A m H (g1 s h) _
  revert p2
  cases g1 s h with
  | ok q h1 =>
    obtain ⟨f, s1⟩ := q
    cases f with
    | nx => exact fun p m' σ' H' g' r' q => ⟨m', h1, s1, (), r', q, trivial, PostS.from g' p⟩
    | bk => exact fun p => p
    | ct => exact fun p => p
    | rt w => exact fun p => p
  | exc c fs h1 => exact fun p => p
  | no => exact fun p => p
/-- a turn of a loop, then what goes on -/
theorem tS.turn {g1 g2 : Sl → OH → RS} {D : Ends} {m : List Addr} {h : OH} {s : Sl} {σ : L2.St} {H : Hp} {N : L2.St → Hp → Prop} (rh : RelH A m h H) (rs : RelS A m H s σ) (p : PostS ew A m H ((g1 s h).bind (goOn g2)) D)
    (hN : ∀ m' h' s' σ' H', Grow m H m' H' → RelH A m' h' H' → RelS A m' H' s' σ' → PostS ew A m' H' (g2 s' h') D → N σ' H') : tS ew A g1 { D with nx := N, ct := N, bk := D.nx } σ H := by
  refine ⟨m, h, s, (), rh, rs, trivial, ?_⟩
  show PostS ew A m H (g1 s h) _
  revert p
  cases g1 s h with
  | ok q h1 =>
    obtain ⟨f, s1⟩ := q
    cases f with
    | nx => exact fun p m' σ' H' g' r' q => hN m' h1 s1 σ' H' g' r' q (PostS.from g' p)
    | bk => exact fun p => p
    | ct => exact fun p m' σ' H' g' r' q => hN m' h1 s1 σ' H' g' r' q (PostS.from g' p)
    | rt w => exact fun p => p
  | exc c fs h1 => exact fun p => p
  | no => exact fun p => p
theorem tS.nx {D : Ends} {σ : L2.St} {H : Hp} (t : tS ew A (fun s h => .ok (.nx, s) h) D σ H) : D.nx σ H := by
  obtain ⟨m, h, s, a, rh, rs, ra, p⟩ := t
  exact p m σ H (Grow.refl _ _) rh rs
/-- while -/
theorem tS.whl {c : Sl → OH → R Bool} {b : Sl → OH → RS} {n : Nat} {D : Ends} {σ : L2.St} {H : Hp} (t : tS ew A (whlN c b n) D σ H) : tWhile (tG ew (rE A Bool) c) (tS ew A b) D σ H := by
  refine ⟨fun n σ H => tS ew A (whlN c b n) D σ H, ⟨n, t⟩, fun n σ1 H1 t => ?_⟩
  cases n with
  | zero => obtain ⟨m, h, s, a, rh, rs, ra, p⟩ := t; exact p.elim
  | succ n =>
    refine (tSA.stepF (ρ := rNo A) (rE A Bool) c (fun p s h => if p.2 = true then (b s h).bind (goOn (whlN c b n)) else .ok (.nx, s) h) t).mono fun k H2 t2 => ?_
    obtain ⟨m, h, s, a, rh, rs, ⟨_, ra⟩, p⟩ := t2
    obtain ⟨_, k1⟩ := a
    have ra : k1 = k := ra
    subst ra
    have p : PostS ew A m H2 (if k1 = true then (b s h).bind (goOn (whlN c b n)) else .ok (.nx, s) h) D := p
    cases k1 with
    | true =>
      rw [if_pos rfl] at p ⊢
      exact ⟨fun σ' H' => tS ew A (whlN c b n) D σ' H', fun σ' H' t' => ⟨n, Nat.lt_succ_self n, t'⟩, tS.turn rh rs p fun m' h' s' σ' H' _ r' q' p' => ⟨m', h', s', (), r', q', trivial, p'⟩⟩
    | false =>
      rw [if_neg (by decide)] at p ⊢
      exact p m σ1 H2 (Grow.refl _ _) rh rs
/-- for -/
theorem tS.for {K : PySem.W.Frag} (hK : A.K = K) {it : Sl → OH → R It} {t : T} {b : Sl → OH → RS} {D : Ends} {σ : L2.St} {H : Hp} (ok : okT t = true) (tt : tS ew A (fun s h => (it s h).bind fun p h1 => forN t b p.2 p.1 s h1) D σ H) :
    tFor (tG ew (rI A) it) (gT K t) (tS ew A b) D σ H := by
  refine (tSA.stepF (ρ := rNo A) (rI A) it (fun p s h => forN t b p.2.2 p.2.1 s h) tt).mono fun J H1 t1 => ?_
  obtain ⟨m, h, s, a, rh, rs, ⟨_, ir⟩, p⟩ := t1
  obtain ⟨_, ws, wt⟩ := a
  have ir : IR A J ws wt m H1 := ir
  have p : PostS ew A m H1 (forN t b wt ws s h) D := p
  refine ⟨fun i μ σ' H' => μ = ws.length - i ∧ i ≤ ws.length ∧ ∃ m' h' s', Grow m H1 m' H' ∧ RelH A m' h' H' ∧ RelS A m' H' s' σ' ∧ PostS ew A m' H' (forN t b wt (ws.drop i) s' h') D,
    ⟨ws.length, by simp, Nat.zero_le _, m, h, s, Grow.refl _ _, rh, rs, by simpa using p⟩, ?_⟩
  rintro i μ σ2 H2 ⟨rfl, hi, m2, h2, s2, g2, r2, q2, p2⟩
  by_cases hlt : i < ws.length
  · rw [List.drop_eq_getElem_cons hlt] at p2
    simp only [forN] at p2
    split at p2
    · rename_i st
      refine .inr ?_
      obtain ⟨go, yl⟩ := ir.go i ws[i] m2 h2 H2 g2 r2 st (by simp [hlt])
      refine ⟨go, fun σ3 H3 => i + 1 ≤ ws.length ∧ ∃ m' h' s', Grow m H1 m' H3 ∧ RelH A m' h' H3 ∧ RelS A m' H3 s' σ3 ∧ PostS ew A m' H3 (forN t b wt (ws.drop (i + 1)) s' h') D, fun σ3 H3 nx => ⟨ws.length - (i + 1), by omega, rfl, nx.1, nx.2⟩, fun x H3 y => ?_⟩
      obtain ⟨g3, r3, rx⟩ := yl x H3 y
      unfold asgR at p2
      cases e4 : asgT t ws[i] s2 with
      | none => rw [e4] at p2; exact p2.elim
      | some s4 =>
        rw [e4] at p2
        simp only [R.bind_ok] at p2
        refine gT_ok hK t ws[i] x s2 s4 σ2 _ ok e4 rx (q2.grow r2 g3) fun σ4 of r4 => ?_
        exact tS.turn r3 r4 (PostS.from g3 p2) fun m' h' s' σ' H' g' r' q' p' => ⟨hlt, m', h', s', (g2.trans g3).trans g', r', q', p'⟩
    · exact p2.elim
  · have e : i = ws.length := by omega
    subst e
    rw [List.drop_length] at p2
    simp only [forN] at p2
    split at p2
    · rename_i st
      exact .inl ⟨ir.stop m2 h2 H2 g2 r2 st, p2 m2 σ2 H2 (Grow.refl _ _) r2 q2⟩
    · exact p2.elim
theorem RelS.par {m : List Addr} {H : Hp} : ∀ {is : List Nat} {ws : List W} {vs : List V} {s s' : Sl} {σ : L2.St}, RelS A m H s σ → Reps A m H ws vs → parS is ws s = some s' → is.length = ws.length ∧ RelS A m H s' ((is.zip vs).foldl (fun τ p => τ.set p.1 (some p.2)) σ)
  | [], _, _, s, s', σ, q, .nil, e => by cases e; exact ⟨rfl, q⟩
  | [], _, _, s, s', σ, q, .cons _ _, e => by cases e
  | i :: is, _, _, s, s', σ, q, .nil, e => by cases e
  | i :: is, _, _, s, s', σ, q, .cons a b, e => by
    obtain ⟨h1, h2⟩ := RelS.par (q.set a) b (show parS is _ (setS s i _) = some s' from e)
    exact ⟨by simp [h1], h2⟩
end
section
variable {A : At} {m : List Addr} {H H2 : Hp} {l : List Addr}
/-- a statement whose leavings are dropped -/
theorem tS.gc {ew : XK} {own : List Nat} {g : Sl → OH → RS} {D : Ends} {σ : L2.St} {H : Hp} (t : tS ew A (fun s h => (g s h).bind (gcS own h)) D σ H) : tS ew A g D σ H := by
  obtain ⟨m, h, s, a, rh, rs, ra, p⟩ := t
  refine ⟨m, h, s, a, rh, rs, ra, ?_⟩
  have p : PostS ew A m H ((g s h).bind (gcS own h)) D := p
  show PostS ew A m H (g s h) D
  revert p
  cases g s h with
  | exc c fs h2 => exact fun p => p
  | no => exact fun p => p
  | ok q h2 =>
    obtain ⟨f, s2⟩ := q
    simp only [R.bind_ok, gcS]
    split
    · rename_i hc
      simp only [Bool.and_eq_true, ← rh.len] at hc
      obtain ⟨⟨c1, c2⟩, c3⟩ := hc
      intro p
      cases f with
      | nx =>
        intro m' σ' H' g' r' q'
        obtain ⟨r3, g3⟩ := rh.cut g' r' c3
        obtain ⟨l, rfl, _⟩ := g'.map
        exact p m σ' H' g3 r3 (q'.low c2)
      | bk =>
        intro m' σ' H' g' r' q'
        obtain ⟨r3, g3⟩ := rh.cut g' r' c3
        obtain ⟨l, rfl, _⟩ := g'.map
        exact p m σ' H' g3 r3 (q'.low c2)
      | ct =>
        intro m' σ' H' g' r' q'
        obtain ⟨r3, g3⟩ := rh.cut g' r' c3
        obtain ⟨l, rfl, _⟩ := g'.map
        exact p m σ' H' g3 r3 (q'.low c2)
      | rt w =>
        intro m' v H' g' r' q'
        obtain ⟨r3, g3⟩ := rh.cut g' r' c3
        obtain ⟨l, rfl, _⟩ := g'.map
        exact p m v H' g3 r3 (q'.low c1)
    · exact fun p => p.elim
end
/-! ### the look -/
section
/-- a value that a name takes over: [..] as a comprehension on one line with a local name -/
def swapB (sc : Scope) (tg e : Expr) : Bool := match e with
  | .ListComp _ _ s p => (match tg with
    | .Name t q => (match sc.names.lookup t with | some .local => true | _ => false) && (q.line == p.line) && !(s.names.any fun (n, k) => n == t && (k == .local || k == .cell))
    | _ => false)
  | _ => false
def isName : Expr → Bool
  | .Name .. => true
  | _ => false
def notGc : E → Bool
  | .gc _ => false
  | _ => true
def isLC : Expr → Bool
  | .ListComp .. => true
  | _ => false
/-- the names of a pair of tuples whose stores are swapped -/
def parNames (sc : Scope) (ts : List Expr) : List Str := ts.filterMap fun
    | .Name id pos => if sc.names.lookup id == some .local && pos.line == (ts.head?.map (·.pos.line)).getD 0 then some id else none
    | _ => none
/-- no swapped stores -/
def swNone (sc : Scope) (tg e : Expr) : Bool := match tg, e with
  | .Tuple ts _ _, .Tuple vs _ _ => (!(ts.length == 2 || ts.length == 3) || vs.length != ts.length) || ((parNames sc ts).length != ts.length || (parNames sc ts).eraseDups.length != (parNames sc ts).length)
  | .List .., _ => false
  | _, _ => true
def swSome (sc : Scope) (ts vs : List Expr) : Bool := (ts.length == 2 || ts.length == 3) && (vs.length == ts.length) && ((parNames sc ts).length == ts.length) && ((parNames sc ts).eraseDups.length == (parNames sc ts).length) && !(vs.all (foldedForSure 8)) && !(vs.all (constantsAlone 8))
variable (nm : List Str) (cn : List (Str × W)) (N : List Str) (sc : Scope)
mutual
def chk1 : S → Stmt → Bool
  | .skip => fun st => match st with
    | .Pass _ => true
    | .Expr (.Constant (.str _) _ _) _ => true
    | _ => false
  | .asg t e => fun st => match st with
    | .Assign [tg] x _ => chkT N sc t tg && chkE nm cn N sc e x && notComp2 x && swNone sc tg x && (!isLC x || notGc e)
    | _ => false
  | .par is as => fun st => match st with
    | .Assign [.Tuple ts _ _] (.Tuple vs _ _) _ => swSome sc ts vs && chkA nm cn N sc as vs && (match is, ts with
      | [i, j], [.Name x _, .Name y _] => decide (N[i]? = some x) && decide (N[j]? = some y) && decide (i ≠ j)
      | [i, j, l], [.Name x _, .Name y _, .Name z _] => decide (N[i]? = some x) && decide (N[j]? = some y) && decide (N[l]? = some z) && decide (i ≠ j) && decide (i ≠ l) && decide (j ≠ l)
      | _, _ => false)
    | _ => false
  | .seti o i e => fun st => match st with
    | .Assign [.Subscript x y _] z _ => notSlice y && notComp z && chkE nm cn N sc e z && chkE nm cn N sc o x && chkE nm cn N sc i y
    | _ => false
  | .ex e => fun st => match st with
    | .Expr x _ => notComp x && chkE nm cn N sc e x
    | _ => false
  | .ret e => fun st => match st with
    | .Return (some x) _ => chkE nm cn N sc e x
    | _ => false
  | .retn => fun st => match st with
    | .Return none _ => true
    | _ => false
  | .ite t a b => fun st => match st with
    | .If c p q _ => chkE nm cn N sc t c && chkS a p && chkS b q
    | _ => false
  | .whl t b => fun st => match st with
    | .While c p [] _ => chkE nm cn N sc t c && chkS b p
    | _ => false
  | .for t it b => fun st => match st with
    | .For tg iter p [] _ => notSet iter && (!needT it || isTup tg) && chkI nm cn N sc it iter && chkT N sc t tg && chkS b p
    | _ => false
  | .brk => fun st => match st with
    | .Break _ => true
    | _ => false
  | .cnt => fun st => match st with
    | .Continue _ => true
    | _ => false
  | .gc _ a => chk1 a
  | .fgt _ a => chk1 a
  | _ => fun _ => false
def chkS : S → List Stmt → Bool
  | .skip => fun sts => match sts with
    | [] => true
    | _ => false
  | .sq a b => fun sts => match sts with
    | x :: xs => chk1 a x && chkS b xs
    | _ => false
  | .gc _ a => chkS a
  | .fgt _ a => chkS a
  | _ => fun _ => false
end
end
end Wm
end

section
set_option Elab.async false
set_option linter.all false
set_option maxRecDepth 100000
set_option maxHeartbeats 4000000
set_option autoImplicit false
/-! Statements. -/
namespace Wm
open PySem PySem.Spec PyProof.Rows L2

section
variable {env : Env} {sc : Scope}
theorem block_fun (hs : env.scope = sc) (hk : sc.kind = .function) : env.blockKind = .function := by
  unfold Env.blockKind
  rw [hs, hk]
  rfl
theorem swaps_no (hs : env.scope = sc) (hk : sc.kind = .function) {tg e : Expr} (hc : notComp2 e = true) (h : swapB sc tg e = false) (l : Nat) : swapsWith e (some tg) l env = pure false := by
  have hb := block_fun hs hk
  cases e with
  | ListComp elt gs s p =>
    cases tg with
    | Name t q =>
      have key : (env.kindOf t == some .local && q.line == p.line && !(s.names.any fun (n, k) => n == t && (k == .local || k == .cell))) = false := by
        rw [show env.kindOf t = sc.names.lookup t from by unfold Env.kindOf; rw [hs]]
        rw [← h]
        unfold swapB
        dsimp only
        congr 2
        cases sc.names.lookup t with
        | none => rfl
        | some k => cases k <;> rfl
      unfold swapsWith
      simp only [hb, Expr.pos]
      show (pure (_ : Bool) : Sem Bool) = _
      congr 1
    | _ => rfl
  | SetComp => cases hc
  | DictComp => cases hc
  | _ => rfl
theorem stores_no (hs : env.scope = sc) (hk : sc.kind = .function) {tg e : Expr} (h : swNone sc tg e = true) : swappedStores [tg] e env = pure none := by
  have hb := block_fun hs hk
  cases tg with
  | Tuple ts kk p =>
    cases e with
    | Tuple vs k2 p2 =>
      unfold swappedStores
      simp only [swNone] at h
      by_cases h1 : (!(ts.length == 2 || ts.length == 3) || vs.length != ts.length || env.blockKind != .function) = true
      · simp only [h1, if_true]
      · simp only [h1, Bool.false_eq_true, if_false]
        generalize List.any vs _ = bb
        cases bb with
        | true => rfl
        | false =>
          generalize hf : List.filterMap _ ts = nms
          have e : nms = parNames sc ts := by
            rw [← hf]
            unfold parNames Env.kindOf
            rw [hs]
            congr 1
          subst e
          rw [hb] at h1
          have h3 : ((parNames sc ts).length != ts.length || (parNames sc ts).eraseDups.length != (parNames sc ts).length) = true := by
            rcases Bool.or_eq_true_iff.mp h with z | z
            · exact absurd (by rw [z]; rfl) h1
            · exact z
          simp only [h3]
          rfl
    | _ => rfl
  | List ts p => cases h
  | _ => cases e <;> rfl
theorem stores_yes (hs : env.scope = sc) (hk : sc.kind = .function) {ts vs : List Expr} {kk k2 : Nat} {p p2 : Pos} (h : swSome sc ts vs = true) (hv : ∀ e ∈ vs, ∀ x p, e ≠ .Starred x p) : swappedStores [.Tuple ts kk p] (.Tuple vs k2 p2) env = pure (some (parNames sc ts)) := by
  have hb := block_fun hs hk
  simp only [swSome, Bool.and_eq_true, Bool.not_eq_true', beq_iff_eq] at h
  obtain ⟨⟨⟨⟨⟨h1, h2⟩, h3⟩, h4⟩, h5⟩, h6⟩ := h
  unfold swappedStores
  have c1 : (!(ts.length == 2 || ts.length == 3) || vs.length != ts.length || env.blockKind != .function) = false := by
    rw [h1, h2, hb]
    simp
  simp only [c1, Bool.false_eq_true, if_false]
  generalize hbb : List.any vs _ = bb
  have hbf : bb = false := by
    rw [← hbb, List.any_eq_false]
    intro e he
    cases e with
    | Starred x p => exact absurd rfl (hv _ he x p)
    | _ => simp
  subst hbf
  generalize hf : List.filterMap _ ts = nms
  have e : nms = parNames sc ts := by
    rw [← hf]
    unfold parNames Env.kindOf
    rw [hs]
    congr 1
  subst e
  have c3 : ((parNames sc ts).length != ts.length || (parNames sc ts).eraseDups.length != (parNames sc ts).length) = false := by
    rw [h4, h3]
    simp
  simp only [c3, h5, h6]
  rfl
end

section
variable {A : At} {tab : List Fn} {nm : List Str} {cn : List (Str × W)} {N : List Str} {k : Nat}
theorem parNames2 {sc : Scope} {x y : Str} {px py : Pos} (h : (parNames sc [.Name x px, .Name y py]).length = 2) : parNames sc [.Name x px, .Name y py] = [x, y] ∧ sc.names.lookup x = some .local ∧ sc.names.lookup y = some .local := by
  simp only [parNames, List.filterMap_cons, List.filterMap_nil] at h ⊢
  split at h
  · split at h
    · cases h
    · cases h
  · rename_i a ea
    split at h
    · cases h
    · rename_i b eb
      simp only [Option.ite_none_right_eq_some, Bool.and_eq_true, beq_iff_eq, Option.some.injEq] at ea eb
      obtain ⟨⟨e1, _⟩, rfl⟩ := ea
      obtain ⟨⟨e2, e3⟩, rfl⟩ := eb
      refine ⟨?_, e1, e2⟩
      simp [e1, e2, e3]
theorem parNames3 {sc : Scope} {x y z : Str} {px py pz : Pos} (h : (parNames sc [.Name x px, .Name y py, .Name z pz]).length = 3) :
    parNames sc [.Name x px, .Name y py, .Name z pz] = [x, y, z] ∧ sc.names.lookup x = some .local ∧ sc.names.lookup y = some .local ∧ sc.names.lookup z = some .local := by
  simp only [parNames, List.filterMap_cons, List.filterMap_nil] at h ⊢
  split at h
  · split at h
    · split at h <;> cases h
    · split at h <;> cases h
  · rename_i a ea
    split at h
    · split at h <;> cases h
    · rename_i b eb
      split at h
      · cases h
      · rename_i c ec
        simp only [Option.ite_none_right_eq_some, Bool.and_eq_true, beq_iff_eq, Option.some.injEq] at ea eb ec
        obtain ⟨⟨e1, _⟩, rfl⟩ := ea
        obtain ⟨⟨e2, e3⟩, rfl⟩ := eb
        obtain ⟨⟨e4, e5⟩, rfl⟩ := ec
        refine ⟨?_, e1, e2, e4⟩
        simp [e1, e2, e3, e4, e5]
/-- what holds of each statement -/
structure SndS (A : At) (tab : List Fn) (nm : List Str) (cn : List (Str × W)) (N : List Str) (k : Nat) (a : S) : Prop where
  f1 : ∀ (X : Cx) (sc : Scope) (ew : XK) (st : Stmt), Ctx A tab nm cn N k X sc sc ew → sc.kind = .function → chk1 nm cn N sc a st = true → PS X st (tS ew A (ex (callN tab k) a))
  fs : ∀ (X : Cx) (sc : Scope) (ew : XK) (sts : List Stmt), Ctx A tab nm cn N k X sc sc ew → sc.kind = .function → chkS nm cn N sc a sts = true → PSs X sts (tS ew A (ex (callN tab k) a))
theorem no_f1 {a : S} {X : Cx} {st : Stmt} {sc : Scope} {t : TS} (d : ∀ sc e, chk1 nm cn N sc a e = false) (h : chk1 nm cn N sc a st = true) : PS X st t := by rw [d] at h; cases h
theorem no_fs {a : S} {X : Cx} {sts : List Stmt} {sc : Scope} {t : TS} (d : ∀ sc e, chkS nm cn N sc a e = false) (h : chkS nm cn N sc a sts = true) : PSs X sts t := by rw [d] at h; cases h
theorem SndS.one {a : S} (d : ∀ sc e, chkS nm cn N sc a e = false) (f : ∀ (X : Cx) (sc : Scope) (ew : XK) (st : Stmt), Ctx A tab nm cn N k X sc sc ew → sc.kind = .function → chk1 nm cn N sc a st = true → PS X st (tS ew A (ex (callN tab k) a))) : SndS A tab nm cn N k a :=
  ⟨f, fun _ _ _ _ _ _ h => no_fs d h⟩
theorem sub_swaps {o i x : Expr} {p : Pos} (h : notComp x = true) (l : Nat) (env : Env) : swapsWithSole [.Subscript o i p] x l env = pure false := by cases x <;> first | rfl | cases h
theorem comp2_of {x : Expr} (h : notComp x = true) : notComp2 x = true := by cases x <;> first | rfl | cases h
theorem f_asg {t : T} {e : E} (X : Cx) (sc : Scope) (ew : XK) (st : Stmt) (C : Ctx A tab nm cn N k X sc sc ew) (hk : sc.kind = .function) (h : chk1 nm cn N sc (.asg t e) st = true) : PS X st (tS ew A (ex (callN tab k) (.asg t e))) := by
  simp only [chk1] at h
  split at h
  · rename_i tg x pos
    simp only [Bool.and_eq_true] at h
    obtain ⟨⟨⟨⟨h1, h2⟩, h3⟩, h4⟩, h5⟩ := h
    obtain ⟨tk, ns, _⟩ := chkT_ok t tg h1
    by_cases hs : swapB sc tg x = true
    · -- a comprehension that a name takes over
      unfold swapB at hs
      split at hs
      · rename_i elt gs scope p
        split at hs
        · rename_i y q _
          simp only [Bool.and_eq_true, Bool.not_eq_true'] at hs
          obtain ⟨⟨g1, g2⟩, g3⟩ := hs
          have g1 : sc.names.lookup y = some .local := by
            revert g1
            cases sc.names.lookup y with
            | none => intro z; cases z
            | some kd => cases kd <;> first | (intro _; rfl) | (intro z; cases z)
          cases t with
          | nm i =>
            simp only [chkT, Bool.and_eq_true, decide_eq_true_eq] at h1
            cases e with
            | lc el own t2 it cond =>
              simp only [chkE] at h2
              split at h2
              · rename_i elt' tg' iter ifs scope' pos' heq
                cases heq
                simp only [Bool.and_eq_true, List.all_eq_true, decide_eq_true_eq] at h2
                obtain ⟨⟨⟨⟨⟨⟨⟨a1, a2⟩, a3⟩, a4⟩, a5⟩, a6⟩, a7⟩, a8⟩ := h2
                have ov : (own.map fun i => (N.getD i "", i)).map (·.2) = own := by rw [List.map_map]; exact (List.map_congr_left fun _ _ => rfl).trans (List.map_id own)
                have hyl : X.env.scope.names.lookup y = some .local := by rw [C.sc]; exact g1
                have pl := ps_setLc (X := X) (i := i) (g := gT X.K t2) (elt := elt) (spos := pos) (py := q) (pos := p) C.calm (by rw [C.eN]; exact C.nd) (by rw [C.eN]; exact h1.1) hyl
                  (sw_true (by rw [C.sc]; exact hk) hyl g2 g3)
                  ((snd it).fi X sc sc ew iter tg' C a4 a5) (by rw [C.eN, C.sc]; exact blkOk_by a1)
                  (fun s H Cd cl fp => pg_T (C.blk s H scope Cd cl fp).tgtOf t2 tg' a6) (fun s H Cd cl fp => (snd cond).fc _ _ _ _ ifs (C.blk s H scope Cd cl fp) a7) (fun s H Cd cl fp => (snd el).fe _ _ _ _ elt (C.blk s H scope Cd cl fp) a8) (fun x => notSet_fold a3 _ x)
                rw [ov] at pl
                refine PS.weak pl fun D σ H tt => ?_
                refine tLc_of C.K (chkT_ok t2 tg' a6).1 a2 ?_
                refine (tSA.stepF (ρ := rNo A) (rW A) (ev (callN tab k) (.lc el own t2 it cond)) (fun p s h1 => (asgR (.nm i) p.2 s h1).bind fun s' h2 => .ok (.nx, s') h2) tt).mono fun v H1 ⟨m, hp, so, c, rh, rs, ⟨_, rv⟩, p⟩ => ?_
                exact p m _ H1 (Grow.refl _ _) rh (rs.set rv)
              · cases h2
            | gc a => simp [isLC, notGc] at h5
            | _ => simp [chkE] at h2
          | _ => simp [chkT] at h1
        · cases hs
      · cases hs
    · have hs : swapB sc tg x = false := by simpa using hs
      refine PS.weak (ps_asg ((snd e).fe X sc sc ew x C h2) (pg_T C.tgtOf t tg h1) (swaps_no C.sc hk h3 hs _) (stores_no C.sc hk h4) (by rw [assign_each ns]; rfl)) fun D σ H tt => ?_
      refine (tSA.stepF (ρ := rNo A) (rW A) (ev (callN tab k) e) (fun p s h1 => (asgR t p.2 s h1).bind fun s' h2 => .ok (.nx, s') h2) tt).mono fun v H1 ⟨m, hp, so, c, rh, rs, ⟨_, rv⟩, p⟩ => ?_
      obtain ⟨c1, c2⟩ := c
      have rv : Rep A m H1 c2 v := rv
      have p : PostS ew A m H1 ((asgR t c2 so hp).bind fun s' h2 => .ok (.nx, s') h2) D := p
      unfold asgR at p
      cases e4 : asgT t c2 so with
      | none => rw [e4] at p; exact p.elim
      | some s4 =>
        rw [e4] at p
        exact gT_ok C.K.symm t c2 v so s4 σ _ tk e4 rv rs fun σ4 of r4 => p m σ4 H1 (Grow.refl _ _) rh r4
  · cases h
theorem f_par {is : List Nat} {as : E} (X : Cx) (sc : Scope) (ew : XK) (st : Stmt) (C : Ctx A tab nm cn N k X sc sc ew) (hk : sc.kind = .function) (h : chk1 nm cn N sc (.par is as) st = true) : PS X st (tS ew A (ex (callN tab k) (.par is as))) := by
  simp only [chk1] at h
  split at h
  · rename_i ts kk p vs k2 p2 pos
    simp only [Bool.and_eq_true] at h
    obtain ⟨⟨h1, h2⟩, h3⟩ := h
    have hv := chkA_star nm cn N sc as vs h2
    have sy := stores_yes (kk := kk) (k2 := k2) (p := p) (p2 := p2) C.sc hk h1 hv
    simp only [swSome, Bool.and_eq_true, beq_iff_eq] at h1
    have pa := (snd as).fa X sc sc ew vs C h2
    have hN : X.N.Nodup := by rw [C.eN]; exact C.nd
    split at h3
    · rename_i i j x px y py
      simp only [Bool.and_eq_true, decide_eq_true_eq] at h3
      obtain ⟨e1, l1, l2⟩ := parNames2 h1.1.1.1.2
      rw [e1] at sy
      have hl : vs.length = 2 := h1.1.1.1.1.2
      match vs, hl with
      | [a, b], _ =>
        refine PS.weak (ps_par C.calm hN (by rw [C.eN]; exact h3.1.1) (by rw [C.eN]; exact h3.1.2) h3.2 (by rw [C.sc]; exact l1) (by rw [C.sc]; exact l2) pa sy) fun D σ H tt => ?_
        refine (tSA.stepF (ρ := rNo A) (rWs A) (evs (callN tab k) as) (fun p s h1 => parR [i, j] p.2 s h1) tt).mono fun us H1 ⟨m, hp, so, c, rh, rs, ⟨_, rv⟩, p⟩ => ?_
        obtain ⟨c1, c2⟩ := c
        have rv : Reps A m H1 c2 us := rv
        have p : PostS ew A m H1 (parR [i, j] c2 so hp) D := p
        unfold parR at p
        cases e4 : parS [i, j] c2 so with
        | none => rw [e4] at p; exact p.elim
        | some s4 =>
          rw [e4] at p
          obtain ⟨hl2, r4⟩ := RelS.par rs rv e4
          have hl3 : us.length = 2 := by rw [← rv.length, ← hl2]; rfl
          match us, hl3 with
          | [u1, u2], _ => exact ⟨u1, u2, rfl, p m _ H1 (Grow.refl _ _) rh r4⟩
    · rename_i i j l x px y py z pz
      simp only [Bool.and_eq_true, decide_eq_true_eq] at h3
      obtain ⟨e1, l1, l2, l3⟩ := parNames3 h1.1.1.1.2
      rw [e1] at sy
      have hl : vs.length = 3 := h1.1.1.1.1.2
      match vs, hl with
      | [a, b, c], _ =>
        obtain ⟨⟨⟨⟨⟨b1, b2⟩, b3⟩, b4⟩, b5⟩, b6⟩ := h3
        refine PS.weak (ps_par3 C.calm hN (by rw [C.eN]; exact b1) (by rw [C.eN]; exact b2) (by rw [C.eN]; exact b3) b4 b5 b6 (by rw [C.sc]; exact l1) (by rw [C.sc]; exact l2) (by rw [C.sc]; exact l3) pa sy) fun D σ H tt => ?_
        refine (tSA.stepF (ρ := rNo A) (rWs A) (evs (callN tab k) as) (fun p s h1 => parR [i, j, l] p.2 s h1) tt).mono fun us H1 ⟨m, hp, so, c, rh, rs, ⟨_, rv⟩, p⟩ => ?_
        obtain ⟨c1, c2⟩ := c
        have rv : Reps A m H1 c2 us := rv
        have p : PostS ew A m H1 (parR [i, j, l] c2 so hp) D := p
        unfold parR at p
        cases e4 : parS [i, j, l] c2 so with
        | none => rw [e4] at p; exact p.elim
        | some s4 =>
          rw [e4] at p
          obtain ⟨hl2, r4⟩ := RelS.par rs rv e4
          have hl3 : us.length = 3 := by rw [← rv.length, ← hl2]; rfl
          match us, hl3 with
          | [u1, u2, u3], _ => exact ⟨u1, u2, u3, rfl, p m _ H1 (Grow.refl _ _) rh r4⟩
    · cases h3
  · cases h
theorem f_seti {o i e : E} (X : Cx) (sc : Scope) (ew : XK) (st : Stmt) (C : Ctx A tab nm cn N k X sc sc ew) (hk : sc.kind = .function) (h : chk1 nm cn N sc (.seti o i e) st = true) : PS X st (tS ew A (ex (callN tab k) (.seti o i e))) := by
  simp only [chk1] at h
  split at h
  · rename_i x y tp z pos
    simp only [Bool.and_eq_true] at h
    obtain ⟨⟨⟨⟨h1, h2⟩, h3⟩, h4⟩, h5⟩ := h
    have pg : PG X (.Subscript x y tp) (gSub (tG ew (rW A) (ev (callN tab k) o)) (tG ew (rW A) (ev (callN tab k) i)) (c3 A ew)) := by
      refine pg_sub ((snd o).fe X sc sc ew x C h4) ((snd i).fe X sc sc ew y C h5) (set_ok C.toCalm) ?_
      cases y <;> first | (intro _; rfl) | cases h1
    refine PS.weak (ps_asg ((snd e).fe X sc sc ew z C h3) pg (sub_swaps h2 _ _) (by cases z <;> rfl) rfl) fun D σ H tt => ?_
    refine (tSA.stepF (ρ := rNo A) (rW A) (ev (callN tab k) e) (fun p s h1 => (ev (callN tab k) o s h1).bind fun y h2 => (ev (callN tab k) i s h2).bind fun z h3 => (setIx y z p.2 h3).bind fun _ h4 => .ok (.nx, s) h4) tt).mono fun v H1 t1 => ?_
    refine (tSA.stepF (ρ := rP A (rNo A) (rW A)) (rW A) (ev (callN tab k) o) (fun p s h2 => (ev (callN tab k) i s h2).bind fun z h3 => (setIx p.2 z p.1.2 h3).bind fun _ h4 => .ok (.nx, s) h4) t1).mono fun u H2 t2 => ?_
    refine (tSA.stepF (ρ := rP A (rP A (rNo A) (rW A)) (rW A)) (rW A) (ev (callN tab k) i) (fun p s h3 => (setIx p.1.2 p.2 p.1.1.2 h3).bind fun _ h4 => .ok (.nx, s) h4) t2).mono fun w H3 ⟨m, hp, so, c, rh, rs, ⟨⟨⟨_, r1⟩, r2⟩, r3⟩, p⟩ => ?_
    obtain ⟨⟨⟨c1, c2⟩, c3⟩, c4⟩ := c
    have p : PostS ew A m H3 ((setIx c3 c4 c2 hp).bind fun _ h4 => .ok (.nx, so) h4) D := p
    refine ⟨m, hp, c3, c4, c2, rh, r2, r3, r1, ?_⟩
    cases q : setIx c3 c4 c2 hp with
    | ok a h4 =>
      rw [q] at p
      exact fun m' b H' g' r' _ => p m' σ H' g' r' (rs.grow rh g')
    | exc c fs h4 => rw [q] at p; exact p
    | no => rw [q] at p; exact p
  · cases h
theorem ex_whl {G : Nat → List W → OH → R W} {t : E} {b : S} : ex G (.whl t b) = whlN (evT G t) (ex G b) fuel := by
  funext s h
  rw [ex]
theorem snds : ∀ a : S, SndS A tab nm cn N k a := by
  intro a
  induction a with
  | skip =>
    refine ⟨fun X sc ew st C hk h => ?_, fun X sc ew sts C hk h => ?_⟩
    · simp only [chk1] at h
      split at h
      · exact PS.weak ps_pass fun D σ H t => tS.nx t
      · exact PS.weak ps_doc fun D σ H t => tS.nx t
      · cases h
    · simp only [chkS] at h
      split at h
      · exact PSs.weak pss_nil fun D σ H t => t.nx
      · cases h
  | sq a b ha hb =>
    refine ⟨fun X sc ew st C hk h => no_f1 (fun _ _ => rfl) h, fun X sc ew sts C hk h => ?_⟩
    simp only [chkS] at h
    split at h
    · rename_i x xs
      simp only [Bool.and_eq_true] at h
      exact PSs.weak (pss_cons (ha.f1 X sc ew x C hk h.1) (hb.fs X sc ew xs C hk h.2)) fun D σ H t => t.seq
    · cases h
  | gc own b hb =>
    refine ⟨fun X sc ew st C hk h => PS.weak (hb.f1 X sc ew st C hk (by simpa only [chk1] using h)) fun D σ H t => tS.gc t, fun X sc ew sts C hk h => ?_⟩
    exact PSs.weak (hb.fs X sc ew sts C hk (by simpa only [chkS] using h)) fun D σ H t => tS.gc t
  | fgt own b hb => exact ⟨fun X sc ew st C hk h => hb.f1 X sc ew st C hk (by simpa only [chk1] using h), fun X sc ew sts C hk h => hb.fs X sc ew sts C hk (by simpa only [chkS] using h)⟩
  | asg t e => exact SndS.one (fun _ _ => rfl) f_asg
  | par is as => exact SndS.one (fun _ _ => rfl) f_par
  | seti o i e => exact SndS.one (fun _ _ => rfl) f_seti
  | ex e =>
    refine SndS.one (fun _ _ => rfl) fun X sc ew st C hk h => ?_
    simp only [chk1] at h
    split at h
    · rename_i x pos
      simp only [Bool.and_eq_true] at h
      refine PS.weak (ps_expr ((snd e).fe X sc sc ew x C h.2) (by have z := h.1; cases x <;> first | rfl | cases z)) fun D σ H tt => ?_
      refine (tSA.stepF (ρ := rNo A) (rW A) (ev (callN tab k) e) (fun p s h1 => .ok (.nx, s) h1) tt).mono fun v H1 ⟨m, hp, so, c, rh, rs, ⟨_, rv⟩, p⟩ => ?_
      exact p m σ H1 (Grow.refl _ _) rh rs
    · cases h
  | ret e =>
    refine SndS.one (fun _ _ => rfl) fun X sc ew st C hk h => ?_
    simp only [chk1] at h
    split at h
    · rename_i x pos
      refine PS.weak (ps_ret ((snd e).fe X sc sc ew x C h)) fun D σ H tt => ?_
      refine (tSA.stepF (ρ := rNo A) (rW A) (ev (callN tab k) e) (fun p s h1 => .ok (.rt p.2, s) h1) tt).mono fun v H1 ⟨m, hp, so, c, rh, rs, ⟨_, rv⟩, p⟩ => ?_
      exact p m v H1 (Grow.refl _ _) rh rv
    · cases h
  | retn =>
    refine SndS.one (fun _ _ => rfl) fun X sc ew st C hk h => ?_
    simp only [chk1] at h
    split at h
    · refine PS.weak ps_retN fun D σ H ⟨m, hp, so, c, rh, rs, _, p⟩ => ?_
      exact p m .non H (Grow.refl _ _) rh .non
    · cases h
  | ite t a b ha hb =>
    refine SndS.one (fun _ _ => rfl) fun X sc ew st C hk h => ?_
    simp only [chk1] at h
    split at h
    · rename_i c p q pos
      simp only [Bool.and_eq_true] at h
      refine PS.weak (ps_if ((snd t).ft X sc sc ew c C h.1.1) (ha.fs X sc ew p C hk h.1.2) (hb.fs X sc ew q C hk h.2)) fun D σ H tt => ?_
      refine (tSA.stepF (ρ := rNo A) (rE A Bool) (evT (callN tab k) t) (fun p s h1 => if p.2 = true then ex (callN tab k) a s h1 else ex (callN tab k) b s h1) tt).mono fun kb H1 ⟨m, hp, so, c, rh, rs, ⟨_, rv⟩, p⟩ => ?_
      obtain ⟨c1, c2⟩ := c
      have rv : c2 = kb := rv
      subst rv
      have p : PostS ew A m H1 (if c2 = true then ex (callN tab k) a so hp else ex (callN tab k) b so hp) D := p
      cases c2 with
      | true => rw [if_pos rfl] at p ⊢; exact ⟨m, hp, so, (), rh, rs, trivial, p⟩
      | false => rw [if_neg (by decide)] at p ⊢; exact ⟨m, hp, so, (), rh, rs, trivial, p⟩
    · cases h
  | whl t b hb =>
    refine SndS.one (fun _ _ => rfl) fun X sc ew st C hk h => ?_
    simp only [chk1] at h
    split at h
    · rename_i c p pos
      simp only [Bool.and_eq_true] at h
      exact PS.weak (ps_while C.pass ((snd t).ft X sc sc ew c C h.1) (hb.fs X sc ew p C hk h.2)) fun D σ H tt => tS.whl (n := fuel) (by rw [← ex_whl]; exact tt)
    · cases h
  | «for» t it b hb =>
    refine SndS.one (fun _ _ => rfl) fun X sc ew st C hk h => ?_
    simp only [chk1] at h
    split at h
    · rename_i tg iter p pos
      simp only [Bool.and_eq_true] at h
      obtain ⟨⟨⟨⟨h1, h2⟩, h3⟩, h4⟩, h5⟩ := h
      exact PS.weak (ps_for C.pass C.calm ((snd it).fi X sc sc ew iter tg C h2 h3) (pg_T C.tgtOf t tg h4) (hb.fs X sc ew p C hk h5) fun x => notSet_fold h1 _ x) fun D σ H tt => tS.for C.K.symm (chkT_ok t tg h4).1 tt
    · cases h
  | brk =>
    refine SndS.one (fun _ _ => rfl) fun X sc ew st C hk h => ?_
    simp only [chk1] at h
    split at h
    · exact PS.weak ps_break fun D σ H ⟨m, hp, so, c, rh, rs, _, p⟩ => p m σ H (Grow.refl _ _) rh rs
    · cases h
  | cnt =>
    refine SndS.one (fun _ _ => rfl) fun X sc ew st C hk h => ?_
    simp only [chk1] at h
    split at h
    · exact PS.weak ps_continue fun D σ H ⟨m, hp, so, c, rh, rs, _, p⟩ => p m σ H (Grow.refl _ _) rh rs
    · cases h
end
end Wm
end

section
set_option Elab.async false
set_option linter.all false
set_option maxRecDepth 100000
set_option maxHeartbeats 4000000
set_option autoImplicit false
/-! Defs. -/
namespace Wm
open PySem PySem.Spec PyProof.Rows L2

/-- plain parameters: no defaults, no stars -/
def plainP (a : Arguments) : Bool := a.posonlyargs.isEmpty && a.vararg.isNone && a.kwonlyargs.isEmpty && a.kwarg.isNone
theorem look_zip : ∀ {ps : List Str} {us : List Value} {x : Str}, us.length = ps.length → x ∈ ps → ((ps.zip us).lookup x).isNone = false
  | [], _, x, _, h => by simp at h
  | p :: ps, [], x, hl, h => by simp at hl
  | p :: ps, u :: us, x, hl, h => by
    simp only [List.zip_cons_cons, List.lookup_cons]
    cases hb : x == p with
    | true => rfl
    | false =>
      rcases List.mem_cons.mp h with e | e
      · rw [e] at hb; simp at hb
      · exact look_zip (by simpa using hl) e
theorem binds_zip : ∀ {ps : List Str} {us : List Value}, us.length = ps.length → ps.Nodup → (ps.filterMap fun n => ((ps.zip us).lookup n).map fun v => (n, v)) = ps.zip us := by
  have key : ∀ (qs : List Str) (ps : List Str) (us : List Value), us.length = ps.length → ps.Nodup → qs.Nodup → (∀ x ∈ qs, x ∉ ps) → ∀ vs : List Value, vs.length = qs.length → (ps.filterMap fun n => ((qs.zip vs ++ ps.zip us).lookup n).map fun v => (n, v)) = ps.zip us := by
    intro qs ps
    induction ps generalizing qs with
    | nil => intros; rfl
    | cons p ps ih =>
      intro us hl nd nq dj vs hv
      cases us with
      | nil => simp at hl
      | cons u us =>
        have hp : (qs.zip vs ++ (p :: ps).zip (u :: us)).lookup p = some u := by
          have hq : ∀ (qs : List Str) (vs : List Value), p ∉ qs → (qs.zip vs ++ (p :: ps).zip (u :: us)).lookup p = some u := by
            intro qs
            induction qs with
            | nil => intro vs _; simp [List.lookup_cons]
            | cons q qs ih2 =>
              intro vs hq
              cases vs with
              | nil => simp [List.lookup_cons]
              | cons v vs =>
                simp only [List.zip_cons_cons, List.cons_append, List.lookup_cons]
                have : (p == q) = false := by
                  cases e : p == q with
                  | false => rfl
                  | true => exact absurd (by rw [eq_of_beq e]; exact List.mem_cons_self) hq
                rw [this]
                exact ih2 vs fun z => hq (List.mem_cons_of_mem _ z)
          exact hq qs vs fun z => dj p z List.mem_cons_self
        rw [List.filterMap_cons, hp]
        simp only [Option.map_some, List.zip_cons_cons, List.cons.injEq, true_and]
        have e : qs.zip vs ++ (p, u) :: ps.zip us = (qs ++ [p]).zip (vs ++ [u]) ++ ps.zip us := by
          rw [List.zip_append hv.symm]
          simp
        rw [e]
        refine ih (qs ++ [p]) us (by simpa using hl) (List.nodup_cons.mp nd).2 ?_ ?_ (vs ++ [u]) (by simp [hv])
        · rw [List.nodup_append]
          exact ⟨nq, by simp, fun a ha b hb => by rw [List.mem_singleton.mp hb]; intro z; exact dj a ha (by rw [z]; exact List.mem_cons_self)⟩
        · intro x hx
          rcases List.mem_append.mp hx with z | z
          · exact fun w => dj x z (List.mem_cons_of_mem _ w)
          · rw [List.mem_singleton.mp z]; exact (List.nodup_cons.mp nd).1
  intro ps us hl nd
  exact key [] ps us hl nd List.nodup_nil (by simp) [] rfl
theorem bind_plain {x qual : Str} {a : Arguments} {body : List Stmt} {scope : Scope} {kV doc pm : Value} {an : Option Addr} {cdv ct : Value} {us : List Value} (h : plainP a = true) (nd : (a.args.map (·.arg)).Nodup) (hl : us.length = (a.args.map (·.arg)).length) :
    bindArgs (PySem.W.fnOf x qual a body scope .none kV doc pm an cdv ct) ⟨us, []⟩ = pure ((a.args.map (·.arg)).zip us) := by
  obtain ⟨po, ar, va, ko, kd, kw, df⟩ := a
  simp only [plainP, Bool.and_eq_true, List.isEmpty_iff, Option.isNone_iff_eq_none] at h
  obtain ⟨⟨⟨rfl, rfl⟩, rfl⟩, rfl⟩ := h
  have hm : ((ar.map (·.arg)).take ((ar.map (·.arg)).length - ([] : List Value).length)).filter (fun n => (((ar.map (·.arg)).zip us).lookup n).isNone) = [] := by
    rw [List.filter_eq_nil_iff]
    intro n hn
    rw [look_zip hl (List.mem_of_mem_take hn)]
    decide
  have hb := binds_zip hl nd
  simp only [List.length_map] at hl hm
  unfold bindArgs PySem.W.fnOf
  simp only [List.map_nil, List.nil_append]
  have e0 : seqItems? Value.none = (pure none : Sem (Option (Array Value))) := rfl
  simp only [e0, pure_bind, List.length_map, hl, List.forIn_nil, Option.getD_none, gt_iff_lt, Nat.lt_irrefl, decide_false, Bool.false_and, Bool.false_eq_true, if_false, List.drop_nil, hm, List.isEmpty_nil, Bool.not_true, List.zip_nil_right, List.append_nil]
  rw [hb]

/-! ### a def by its body -/
section
variable {P : Program} {w : World} {K : PySem.W.Frag} {mg : Str → Option Value} {base : Heap}
/-- the def's rule, where no repr is under way -/
theorem FnW.of {x qual : Str} {params : Arguments} {body : List Stmt} {scope : Scope} {dvs : List V} {kws : List (Str × V)} {f : Addr} {fd : FuncData} {N ps : List Str} {k : Nat} {sp : Sp} (D : FunD K x qual params body scope dvs kws f fd) (Sc : FnScope N ps scope)
    (ln : ∀ vs H Q E, sp vs H Q E → vs.length = ps.length)
    (hb : ∀ (cdv : Value) (B : Around) (fr : List Env) (s : Shared) (H : Hp) (vs : List V) (Q : VK) (E : XK), B.guards = some [] → Room k (B.deeper (envOfC qual scope s.heap.objs.size f cdv)) → sp vs H Q E →
      ∃ t, PSs (cxOf (L2.CX P w) P w K mg base N qual scope f cdv B fr s H E) body t ∧ t { nx := fun _ H' => Q .non H', rt := Q } (start N vs) H) :
    FnW P w K mg base (k + 1) f fd ps sp := by
  obtain ⟨oc, od, dV, kV, doc, pm, an, cdv, ct, osl, rfl, look, code, _, _⟩ := D.ex
  refine ⟨ln, fun B fr s H args us vs Q E hg room e0 bnd rv hsp => ?_⟩
  have kin : K.In s.heap := e0.mod.kin.keeps fun b o e => (e0.bs b o e).1
  have nolim : s.heap.NoLimit := e0.mod.nolimit.keeps fun b o e => (e0.bs b o e).1
  have kinds : ∀ y ∈ ps.zip us, scope.names.lookup y.1 = some .local ∨ (scope.names.lookup y.1 = some .cell ∧ ((cellsFrom (s.heap.objs.size + 1) scope.names []).lookup y.1).isSome = true) := by
    rintro ⟨y, u⟩ hy
    exact (Sc.par y (List.of_mem_zip hy).1).imp id fun c => ⟨c, PySem.W.cellsFrom_some _ _ _ (.inl c)⟩
  refine codeAny_call_function room.depth (kin _ _ look) rfl Sc.co Sc.gen rfl (PySem.W.codeRec_of kin code) (bnd _ _ _ _ (wpAny_newFunctionEnv_cells Sc.kind kinds fun env he s1 ic => ?_))
  subst he
  refine ⟨nolim.keeps ic.toInCall.keep, codeAny_func ?_⟩
  obtain ⟨t, ht, hq⟩ := hb cdv B fr s H vs Q E hg (room.deeper _) hsp
  have inv := inv_start (CX := L2.CX P w) (E := E) Sc room.hd e0 (ln _ _ _ _ hsp) rv ic
  refine wpAny_mono (ht.run [] s1 (start N vs) H _ inv hq) (fun fl s' hs => ?_) fun _ _ z => z
  cases fl with
  | ret u =>
    obtain ⟨v, σ', H', J, rv', q⟩ := hs
    exact ⟨v, H', J.os, J.bare, J.base, J.hok, rv', q⟩
  | next =>
    obtain ⟨σ', H', J, q⟩ := hs
    exact ⟨V.non, H', J.os, J.bare, J.base, J.hok, rfl, q⟩
  | brk => obtain ⟨_, _, _, q⟩ := hs; exact q.elim
  | cont => obtain ⟨_, _, _, q⟩ := hs; exact q.elim
end
/-! ### the end of a def -/
theorem fin_ok {A : At} {m m2 : List Addr} {H H2 : Hp} {ew : XK} {gc : Bool} {h h2 : OH} {w : W} {v : V} {Q : VK} (rh : RelH A m h H) (p : Post ew (rW A) m H (fin gc h w h2) Q) (g : Grow m H m2 H2) (r2 : RelH A m2 h2 H2) (rv : Rep A m2 H2 w v) : Q v H2 := by
  unfold fin at p
  split at p
  · split at p
    · rename_i hc
      rw [Bool.and_eq_true] at hc
      obtain ⟨c1, c2⟩ := hc
      rw [← rh.len] at c1
      obtain ⟨r3, g3⟩ := rh.cut g r2 c2
      obtain ⟨l, rfl, _⟩ := g.map
      exact p m v H2 g3 r3 (Rep.low rv c1)
    · exact p.elim
  · exact p m2 v H2 g r2 rv
/-! ### all defs of a text, by the depth -/
/-- a def of the text: its name, its parameters, its names by slots, its statement -/
structure Df where
  x : Str
  ps : List Str
  N : List Str
  st : Stmt
def dfOk (nm : List Str) (cn : List (Str × W)) (d : Df) (f : Fn) : Bool :=
  plainP (defArgs d.st) && decide ((defArgs d.st).args.map (·.arg) = d.ps) && decide d.ps.Nodup && C8.scC d.N d.ps (defScope d.st) && Nat.beq f.slots d.N.length && Nat.beq f.params d.ps.length && chkS nm cn d.N (defScope d.st) f.body (defBody d.st)
/-- what the head tells -/
structure Said (A : At) (K : PySem.W.Frag) (mg : Str → Option Value) (cn : List (Str × W)) (ds : List Df) : Prop where
  blt : ∀ x ∈ biNames, mg x = none
  cns : ∀ x w, (x, w) ∈ cn → ∃ u v, mg x = some u ∧ RelV v u ∧ ∀ m H, Rep A m H w v
  fns : ∀ d ∈ ds, ∃ f fd, mg d.x = some (.ref f) ∧ FunD K d.x d.x (defArgs d.st) (defBody d.st) (defScope d.st) [] [] f fd
def allOk (cn : List (Str × W)) (ds : List Df) (tab : List Fn) : Bool := Nat.beq ds.length tab.length && (ds.zip tab).all fun p => dfOk (ds.map (·.x)) cn p.1 p.2
section
variable {A : At} {tab : List Fn} {ds : List Df} {cn : List (Str × W)} {P : Program} {w : World} {mg : Str → Option Value} {base : Heap}
theorem loc_ok {sc : Scope} {x : Str} (hx : loc sc x = true) : Loc sc x := by
  unfold loc at hx
  split at hx
  · rename_i q; exact .inl q
  · rename_i q; exact .inr q
  · cases hx
theorem RelS.begin {m : List Addr} {H : Hp} {ws : List W} {vs : List V} {N : List Str} {d : Fn} (r : Reps A m H ws vs) (hN : d.slots = N.length) : RelS A m H (startS d ws) (start N vs) := by
  have hl := r.length
  refine ⟨by simp [startS, L2.start, hl, hN], fun i u e => ?_⟩
  have e := getS_get _ _ _ e
  unfold startS at e
  unfold L2.start
  by_cases hi : i < ws.length
  · rw [List.getElem?_append_left (by simpa using hi), List.getElem?_map] at e
    rw [List.getElem?_append_left (by simpa [← hl] using hi), List.getElem?_map]
    cases q : ws[i]? with
    | none => rw [q] at e; cases e
    | some z =>
      rw [q] at e
      cases e
      obtain ⟨v, e1, e2⟩ := r.get q
      exact ⟨v, by rw [e1]; rfl, e2⟩
  · rw [List.getElem?_append_right (by simpa using hi), List.getElem?_replicate] at e
    split at e <;> cases e
theorem sp_len {k i : Nat} {d : Fn} (e : tab[i]? = some d) {vs : List V} {H : Hp} {Q : VK} {E : XK} (s : spW A tab k i vs H Q E) : vs.length = d.params := by
  obtain ⟨m, h, ws, rh, rv, p⟩ := s
  cases k with
  | zero => exact p.elim
  | succ k =>
    simp only [callN, e] at p
    split at p
    · rename_i hb
      rw [← rv.length]
      exact Nat.eq_of_beq_eq_true hb
    · exact p.elim
/-- the law's own defs keep their promise -/
theorem all_fns (sd : Said A A.K mg cn ds) (ok : allOk cn ds tab = true) : ∀ (k i : Nat) (d : Df), ds[i]? = some d → ∀ f fd, FunD A.K d.x d.x (defArgs d.st) (defBody d.st) (defScope d.st) [] [] f fd → FnW P w A.K mg base k f fd d.ps (spW A tab k i) := by
  simp only [allOk, Bool.and_eq_true, List.all_eq_true] at ok
  obtain ⟨hlen, hall⟩ := ok
  have hlen := Nat.eq_of_beq_eq_true hlen
  have ent : ∀ (i : Nat) (d : Df), ds[i]? = some d → ∃ t, tab[i]? = some t ∧ dfOk (ds.map (·.x)) cn d t = true := fun i d e => by
    have hi := (List.getElem?_eq_some_iff.mp e).1
    have ht : tab[i]? = some tab[i] := List.getElem?_eq_getElem (by omega)
    exact ⟨_, ht, hall (d, tab[i]) (List.mem_of_getElem? (i := i) (by rw [List.getElem?_zip_eq_some]; exact ⟨e, ht⟩))⟩
  intro k
  induction k with
  | zero =>
    intro i d e f fd D
    obtain ⟨t, et, hd⟩ := ent i d e
    exact ⟨fun vs H Q E ⟨m, h, ws, rh, rv, p⟩ => p.elim, fun _ _ _ _ _ _ _ _ _ _ _ _ _ _ ⟨m, h, ws, rh, rv, p⟩ => p.elim⟩
  | succ k ih =>
    intro i d e f fd D
    obtain ⟨t, et, hd⟩ := ent i d e
    simp only [dfOk, Bool.and_eq_true, decide_eq_true_eq] at hd
    obtain ⟨⟨⟨⟨⟨⟨h1, h2⟩, h3⟩, h4⟩, h5⟩, h6⟩, h7⟩ := hd
    have h5 := Nat.eq_of_beq_eq_true h5
    have h6 := Nat.eq_of_beq_eq_true h6
    have Sc := C8.fnScope_by h4
    refine FnW.of D Sc (fun vs H Q E s => (sp_len et s).trans h6) fun cdv B fr s H vs Q E hg room hsp => ?_
    obtain ⟨m, h, ws, rh, rv, p⟩ := hsp
    have C : Ctx A tab (ds.map (·.x)) cn d.N k (cxOf (L2.CX P w) P w A.K mg base d.N d.x (defScope d.st) f cdv B fr s H E) (defScope d.st) (defScope d.st) E := {
      K := rfl
      calm := rfl
      un := by
        have := room.un
        show (B.deeper (envOfC d.x (defScope d.st) s.heap.objs.size f cdv)).units + 65 < cLine
        omega
      grd := hg
      eN := rfl
      nd := Sc.nd
      sc := rfl
      room := room
      pass := passes_of rfl
      hx := passes_call (takes_of rfl rfl rfl rfl) fun _ _ _ _ z => z
      tgt := fun x hx => ⟨loc_ok hx, .inl rfl⟩
      blt := sd.blt
      cns := sd.cns
      fns := fun j x hj => by
        rw [List.getElem?_map] at hj
        obtain ⟨d2, e2, rfl⟩ := Option.map_eq_some_iff.mp hj
        obtain ⟨t2, et2, hd2⟩ := ent j d2 e2
        simp only [dfOk, Bool.and_eq_true, decide_eq_true_eq] at hd2
        obtain ⟨⟨⟨⟨⟨⟨g1, g2⟩, g3⟩, g4⟩, g5⟩, g6⟩, g7⟩ := hd2
        obtain ⟨f2, fd2, m2, D2⟩ := sd.fns d2 (List.mem_of_getElem? e2)
        refine ⟨f2, fd2, d2.ps, m2, D2.kp, D2.bindsN fun kV doc pm an cdv ct us hl => ?_, ih j d2 e2 f2 fd2 D2⟩
        rw [← g2] at hl g3 ⊢
        exact bind_plain g1 g3 hl }
    refine ⟨_, (snds t.body).fs _ _ _ _ C Sc.kind h7, m, h, startS t ws, (), rh, RelS.begin rv h5, trivial, ?_⟩
    simp only [callN, et] at p
    split at p
    · show PostS E A m H (ex (callN tab k) t.body (startS t ws) h) _
      revert p
      cases ex (callN tab k) t.body (startS t ws) h with
      | ok q h2 =>
        obtain ⟨fl, s2⟩ := q
        cases fl with
        | nx => exact fun p m2 σ2 H2 g2 r2 _ => fin_ok rh p g2 r2 .non
        | rt z => exact fun p m2 v H2 g2 r2 q2 => fin_ok rh p g2 r2 q2
        | bk => exact fun p => p.elim
        | ct => exact fun p => p.elim
      | exc c fs h2 => exact fun p => p
      | no => exact fun p => p
    · exact p.elim
end
end Wm
end

section
set_option Elab.async false
set_option linter.all false
set_option maxRecDepth 100000
set_option maxHeartbeats 4000000
set_option autoImplicit false
/-! A law's end. -/
namespace Wm
open PySem PySem.Spec PyProof.Rows L2

theorem relH_nil {A : At} {H : Hp} : RelH A [] [] H := ⟨rfl, List.nodup_nil, fun n o e => by simp at e⟩
theorem scr_ints {A : At} {m : List Addr} {H : Hp} : ∀ ns : List Int, Reps A m H (ns.map W.int) (ns.map V.int)
  | [] => .nil
  | i :: ns => .cons (.int i) (scr_ints ns)
section
variable {P : Program} {w : World} {A : At} {mg mb : Str → Option Value} {k i : Nat} {fa a : Addr} {fd : FuncData} {x : Str} {tab : List Fn} {s1 : Shared} {vs : List Value} {ns : List Int}
theorem sp_true {H : Hp} (q : SqR A.K H a (ns.map V.int)) {hh : OH} (e : callN tab k i [.rol (ns.map .int)] [] = .ok (.bl true) hh) : spW A tab k i [.ref a] H (fun v _ => v = .bl true) fun _ _ _ => False := by
  refine ⟨[], [], [.rol (ns.map .int)], relH_nil, .cons (.rol q (scr_ints ns)) .nil, ?_⟩
  rw [e]
  intro m' b H' _ _ r
  have r : Rep A m' H' (.bl true) b := r
  cases r
  rfl
/-- the call that a row asks for, over one account H of the script -/
theorem call_core {H : Hp} (kin : A.K.In s1.heap) (gl : s1.heap.Ns mainGlobals mg) (bl : s1.heap.Ns builtinsNs mb) (bb : ∀ y : Str, y ≠ "__name__" → mb y = bootBuiltins y) (nolim : s1.heap.NoLimit) (gens : s1.gens = #[])
    (ha : s1.heap.get? a = some { cls := .type "list", data := .seq vs.toArray }) (room : Room k callerA)
    (F : ∀ base : Heap, A.K.In base → base.Ns mainGlobals mg → FnW P w A.K mg base k fa fd [x] (spW A tab k i)) (bnd : ∀ (s : Shared) (u : Value), BindsTo s fd ⟨[u], []⟩ [(x, u)])
    (q : SqR A.K H a (ns.map V.int)) {hh : OH} (e : callN tab k i [.rol (ns.map .int)] [] = .ok (.bl true) hh) (hok : HOk P w H s1.heap) (only : ∀ b o, H b = some o → b = a ∧ ∃ ob xs, o = .frz ob (.lst xs)) (hK : H a ≠ none → A.K.lookup a = none) :
    codeAny (model P w) callerA (.call (.ref fa) ⟨[.ref a], []⟩) (fun r s' => r = .ok (.ret (.bool true)) ∧ OldK s1.heap s'.heap ∧ s'.os = s1.os ∧ AllBare s'.gens) s1 := by
  have free : ∀ {b : Addr}, b ≠ a → H b = none := fun {b} hb => by
    cases z : H b with
    | none => rfl
    | some o => exact absurd (only b o z).1 hb
  have nsH : ∀ {b : Addr} {m : Str → Option Value}, s1.heap.Ns b m → (hidT s1.heap H).Ns b m := by
    rintro b m ⟨o, es, ep, eo, ed, r⟩
    refine ⟨o, es, ep, hidT_get eo (free fun z => ?_), ed, r⟩
    rw [z, ha] at eo
    cases eo
    cases ed
  have kinH : A.K.In (hidT s1.heap H) := fun b o eo => hidT_get (kin b o eo) (by
    cases z : H b with
    | none => rfl
    | some u =>
      have hb := (only b u z).1
      subst hb
      rw [hK (by rw [z]; exact nofun)] at eo
      cases eo)
  have env0 : Env0 P w A.K mg (hidT s1.heap H) callerA [] s1 H := {
    frames := rfl
    mod := ⟨kinH, nsH gl, ⟨mb, nsH bl, bb⟩, nolim.elim fun mc z => ⟨mc, nsH z.1, z.2⟩⟩
    bs := fun _ _ z => of_hidT z
    bsz := Nat.le_of_eq (hidT_size _ _)
    funs := trivial
    frf := fun b hb => by simp [frs] at hb
    hok := hok
    bare := .of_eq gens }
  refine codeAny_mono ((F _ kinH (nsH gl)).run callerA [] s1 H ⟨[.ref a], []⟩ [.ref a] [.ref a] _ _ rfl room env0 (bnd s1 (.ref a)) (.cons rfl .nil) (sp_true q e)) fun r s' hr => ?_
  cases r with
  | error u =>
    obtain ⟨_, _, _, _, _, _, _, _, _, _, _, _, z⟩ := hr
    exact z.elim
  | ok fl =>
    cases fl with
    | ret u =>
      obtain ⟨v, H', os, bare, un, hok', rv, z⟩ := hr
      have z : v = .bl true := z
      subst z
      obtain rfl : u = Value.bool true := rv
      refine ⟨rfl, OldK.of_keep fun b o eo => ?_, os, bare⟩
      cases z : H b with
      | none => exact un.keep b o eo z (by simp [frs]) (by simp)
      | some y =>
        obtain ⟨rfl, ob, xs, rfl⟩ := only b y z
        have z2 := un.frzs _ ob _ z
        obtain ⟨e1, _⟩ := hok _ _ z
        obtain ⟨e2, _⟩ := hok' _ _ z2
        rw [eo] at e1
        cases e1
        exact e2
    | _ => exact False.elim hr
theorem call_law (kin : A.K.In s1.heap) (gl : s1.heap.Ns mainGlobals mg) (bl : s1.heap.Ns builtinsNs mb) (bb : ∀ y : Str, y ≠ "__name__" → mb y = bootBuiltins y) (nolim : s1.heap.NoLimit) (gens : s1.gens = #[])
    (ha : s1.heap.get? a = some { cls := .type "list", data := .seq vs.toArray }) (hi : IntsAre vs ns) (hl : ns.length ≤ sizeLine) (room : Room k callerA)
    (F : ∀ base : Heap, A.K.In base → base.Ns mainGlobals mg → FnW P w A.K mg base k fa fd [x] (spW A tab k i)) (bnd : ∀ (s : Shared) (u : Value), BindsTo s fd ⟨[u], []⟩ [(x, u)])
    {hh : OH} (e : callN tab k i [.rol (ns.map .int)] [] = .ok (.bl true) hh) :
    codeAny (model P w) callerA (.call (.ref fa) ⟨[.ref a], []⟩) (fun r s' => r = .ok (.ret (.bool true)) ∧ OldK s1.heap s'.heap ∧ s'.os = s1.os ∧ AllBare s'.gens) s1 := by
  have rv := vals_ints hi
  cases hk : A.K.lookup a with
  | some o =>
    have eo := kin a o hk
    rw [ha] at eo
    cases eo
    exact call_core (H := fun _ => none) kin gl bl bb nolim gens ha room F bnd (.inr ⟨_, vs.toArray, _, hk, rfl, rfl, rfl, by rw [List.size_toArray, hi.length]; exact hl, by simpa using rv⟩) e (fun b u z => by cases z) (fun b u z => by cases z) fun z => absurd rfl z
  | none =>
    have at_ : ∀ {b : Addr} {o : HO}, (if b = a then some (HO.frz { cls := .type "list", data := .seq vs.toArray } (.lst (ns.map V.int))) else none) = some o → b = a ∧ o = .frz { cls := .type "list", data := .seq vs.toArray } (.lst (ns.map V.int)) := fun {b o} z => by
      split at z
      · rename_i hb
        cases z
        exact ⟨hb, rfl⟩
      · cases z
    refine call_core (H := fun b => if b = a then some (.frz { cls := .type "list", data := .seq vs.toArray } (.lst (ns.map V.int))) else none) kin gl bl bb nolim gens ha room F bnd (.inl ⟨_, if_pos rfl⟩) e (fun b o z => ?_) (fun b o z => ?_) fun _ => hk
    · obtain ⟨rfl, rfl⟩ := at_ z
      exact ⟨ha, by rw [List.length_map]; exact hl, vs, _, rv, ha⟩
    · obtain ⟨rfl, rfl⟩ := at_ z
      exact ⟨rfl, _, _, rfl⟩
end
/-- the row, from the law's run in the own language -/
theorem walk {l : PySem.W.OpenLaw} {n k i : Nat} {q : Program} {loose : List Str} {XP : (Str → Option Value) → Heap → Prop} {YP : World → Heap → Prop} {d : DefRec} {x : Str} {tab : List Fn}
    (hn : l.most = some n) (hn2 : n ≤ sizeLine) (hdf : d.params.defaults = []) (room : Room k callerA) (plain : ∀ ns : List Int, ns.length ≤ n → ∃ hh, callN tab k i [.rol (ns.map .int)] [] = .ok (.bl true) hh)
    (F : ∀ (w : World) (mg : Str → Option Value) (fa : Addr) (h : Heap), YP w h → h.Ns mainGlobals mg → mg d.name = some (.ref fa) →
      ∃ (A : At) (fd : FuncData), A.K.In h ∧ (∀ (s : Shared) (u : Value), BindsTo s fd ⟨[u], []⟩ [(x, u)]) ∧ ∀ base : Heap, A.K.In base → base.Ns mainGlobals mg → FnW l.prog w A.K mg base k fa fd [x] (spW A tab k i)) :
    PySem.W.WalkO q loose XP YP l.row.toRowW d [] (fun f vs => PySem.call f vs) := by
  refine Att.attach_call hn hdf fun w s0 s1 mg mb fa o pm cd doc a vs ns G Y ho hd hcd hmg hobj hints hlen hg => ?_
  obtain ⟨A, fd, kin, bnd, hF⟩ := F w mg fa _ Y G.T.g hmg
  obtain ⟨hh, e⟩ := plain ns hlen
  exact call_law kin G.T.g G.T.b G.T.builtins G.T.nolimit hg hobj hints (Nat.le_trans hlen hn2) room hF bnd e
/-! ### what the head tells -/
def biFa : List He.Fa := biNames.map .free
/-- the constants of the module that are read -/
def cnFa : List (Str × W) → List He.Fa
  | [] => []
  | (x, .int i) :: r => .int x i :: cnFa r
  | (x, .str z) :: r => .str x z :: cnFa r
  | _ :: r => cnFa r
def cnOk : List (Str × W) → Bool
  | [] => true
  | (_, .int _) :: r => cnOk r
  | (_, .str _) :: r => cnOk r
  | _ => false
def dfD (d : Df) : He.DefD := ⟨(d.x, none), d.x, d.x, defArgs d.st, defBody d.st, defScope d.st, [], []⟩
def faOf (cn : List (Str × W)) (ds : List Df) : List He.Fa := ds.map (fun d => .glo d.x) ++ biFa ++ cnFa cn
def fnOf (ds : List Df) : List He.DefD := ds.map dfD
theorem cn_mem : ∀ {cn : List (Str × W)} {x : Str} {w : W}, cnOk cn = true → (x, w) ∈ cn → (∃ i, w = .int i ∧ He.Fa.int x i ∈ cnFa cn) ∨ ∃ z, w = .str z ∧ He.Fa.str x z ∈ cnFa cn
  | [], x, w, _, h => by simp at h
  | (y, u) :: r, x, w, ok, h => by
    cases u with
    | int i =>
      rcases List.mem_cons.mp h with e | e
      · cases e; exact .inl ⟨i, rfl, List.mem_cons_self⟩
      · exact (cn_mem (cn := r) ok e).imp (fun ⟨j, a, b⟩ => ⟨j, a, List.mem_cons_of_mem _ b⟩) fun ⟨j, a, b⟩ => ⟨j, a, List.mem_cons_of_mem _ b⟩
    | str i =>
      rcases List.mem_cons.mp h with e | e
      · cases e; exact .inr ⟨i, rfl, List.mem_cons_self⟩
      · exact (cn_mem (cn := r) ok e).imp (fun ⟨j, a, b⟩ => ⟨j, a, List.mem_cons_of_mem _ b⟩) fun ⟨j, a, b⟩ => ⟨j, a, List.mem_cons_of_mem _ b⟩
    | _ => cases ok
theorem said_of {K : PySem.W.Frag} {h : Heap} {mg : Str → Option Value} {cn : List (Str × W)} {ds : List Df} (kin : K.In h) (gl : h.Ns mainGlobals mg) (c : He.SaysD (faOf cn ds) (fnOf ds) K) (ok : cnOk cn = true) : Said ⟨K, fun _ => 0, fun _ => 0⟩ K mg cn ds where
  blt := fun x hx => He.free_ok kin gl (c.facts (List.mem_append_left _ (List.mem_append_right _ (List.mem_map.mpr ⟨x, hx, rfl⟩))))
  cns := fun x w hx => by
    rcases cn_mem ok hx with ⟨i, rfl, hm⟩ | ⟨z, rfl, hm⟩
    · obtain ⟨t, e⟩ := He.int_ok kin gl (c.facts (List.mem_append_right _ hm))
      exact ⟨_, .int i, e, ⟨t, rfl⟩, fun _ _ => .int i⟩
    · obtain ⟨t, e⟩ := He.str_ok kin gl (c.facts (List.mem_append_right _ hm))
      exact ⟨_, .str z, e, ⟨t, rfl⟩, fun _ _ => .str z⟩
  fns := fun d hd => by
    obtain ⟨fd, D⟩ := c.defs (d := dfD d) (List.mem_map.mpr ⟨d, hd, rfl⟩)
    exact ⟨_, fd, He.glo_ok kin gl (c.facts (List.mem_append_left _ (List.mem_append_left _ (List.mem_map.mpr ⟨d, hd, rfl⟩)))), D⟩
/-- the law's def, from the head -/
theorem entry {l : PySem.W.OpenLaw} {cn : List (Str × W)} {ds : List Df} {tab : List Fn} (ok : allOk cn ds tab = true) (okc : cnOk cn = true) {i k : Nat} {dl : Df} {x dn : Str} (hi : ds[i]? = some dl) (hps : dl.ps = [x]) (hdn : dn = dl.x) :
    ∀ (w : World) (mg : Str → Option Value) (fa : Addr) (h : Heap), (∃ K : PySem.W.Frag, K.In h ∧ He.SaysD (faOf cn ds) (fnOf ds) K) → h.Ns mainGlobals mg → mg dn = some (.ref fa) →
      ∃ (A : At) (fd : FuncData), A.K.In h ∧ (∀ (s : Shared) (u : Value), BindsTo s fd ⟨[u], []⟩ [(x, u)]) ∧ ∀ base : Heap, A.K.In base → base.Ns mainGlobals mg → FnW l.prog w A.K mg base k fa fd [x] (spW A tab k i) := by
  rintro w mg fa h ⟨K, kin, c⟩ gl hmg
  subst hdn
  have sd := said_of kin gl c okc
  have hd := List.mem_of_getElem? hi
  obtain ⟨fd, D⟩ := c.defs (d := dfD dl) (List.mem_map.mpr ⟨dl, hd, rfl⟩)
  have hfa := hmg.symm.trans (He.glo_ok kin gl (c.facts (List.mem_append_left _ (List.mem_append_left _ (List.mem_map.mpr ⟨dl, hd, rfl⟩)))))
  cases hfa
  refine ⟨⟨K, fun _ => 0, fun _ => 0⟩, fd, kin, fun s u => ?_, fun base _ _ => ?_⟩
  · have o := ok
    simp only [allOk, Bool.and_eq_true, List.all_eq_true] at o
    obtain ⟨hlen, hall⟩ := o
    have hlen := Nat.eq_of_beq_eq_true hlen
    have hil := (List.getElem?_eq_some_iff.mp hi).1
    have ht : tab[i]? = some tab[i] := List.getElem?_eq_getElem (by omega)
    have z := hall (dl, tab[i]) (List.mem_of_getElem? (i := i) (by rw [List.getElem?_zip_eq_some]; exact ⟨hi, ht⟩))
    simp only [dfOk, Bool.and_eq_true, decide_eq_true_eq] at z
    obtain ⟨⟨⟨⟨⟨⟨h1, h2⟩, h3⟩, h4⟩, h5⟩, h6⟩, h7⟩ := z
    have b := FunD.bindsA (ps := (defArgs dl.st).args.map (·.arg)) D (fun kV doc pm an cdv ct us hl => bind_plain h1 (by rw [h2]; exact h3) hl) s [u] (by rw [h2, hps]; rfl)
    rw [h2, hps] at b
    exact b
  · have F := all_fns (A := ⟨K, fun _ => 0, fun _ => 0⟩) (P := l.prog) (w := w) (base := base) sd ok k i dl hi _ fd D
    rw [hps] at F
    exact F
end Wm
end

section
set_option Elab.async false
set_option linter.all false
set_option maxRecDepth 100000
/-! The upper layer: the same language over values alone (no heap). -/
namespace Vm
open PySem Wm

/-- what a run comes to: a value, the slots -/
inductive Q (α : Type) where
  | ok (a : α) (s : Sl)
  | exc (c : Nat) (fs : List (Str × W)) (s : Sl)
  | no
def Q.bind {α β : Type} (r : Q α) (f : α → Sl → Q β) : Q β := match r with
  | .ok a s => f a s
  | .exc c fs s => .exc c fs s
  | .no => .no
@[simp] theorem Q.bind_ok {α β : Type} (a : α) (s : Sl) (f : α → Sl → Q β) : (Q.ok a s).bind f = f a s := rfl
@[simp] theorem Q.bind_exc {α β : Type} (c : Nat) (fs : List (Str × W)) (s : Sl) (f : α → Sl → Q β) : (Q.exc c fs s : Q α).bind f = .exc c fs s := rfl
@[simp] theorem Q.bind_no {α β : Type} (f : α → Sl → Q β) : (Q.no : Q α).bind f = .no := rfl
def Q.of {α : Type} (o : Option α) (s : Sl) : Q α := match o with
  | some a => .ok a s
  | none => .no
@[simp] theorem Q.of_some {α : Type} (a : α) (s : Sl) : Q.of (some a) s = .ok a s := rfl
@[simp] theorem Q.of_none {α : Type} (s : Sl) : Q.of (none : Option α) s = .no := rfl
def Q.calm {α : Type} (r : Q α) : Q α := match r with
  | .exc _ _ _ => .no
  | r => r
@[simp] theorem Q.calm_ok {α : Type} (a : α) (s : Sl) : (Q.ok a s).calm = .ok a s := rfl

/-! ### operations -/
def vseq : W → Option (List W)
  | .tup ws => some ws
  | .lst ws => some ws
  | _ => none
def td : Nat → W → Option PyData
  | 0, w => match w with
    | .non => some .none
    | .bl b => some (.bool b)
    | .int i => some (.int i)
    | .str x => if PyData.strOk x = true then some (.str x) else none
    | _ => none
  | n + 1, w => match w with
    | .non => some .none
    | .bl b => some (.bool b)
    | .int i => some (.int i)
    | .str x => if PyData.strOk x = true then some (.str x) else none
    | .tup ws => (toDl (td n) ws).map .tuple
    | .lst ws => (toDl (td n) ws).map .list
    | _ => none
def eqV : W → W → Option Bool
  | .int i, .int j => some (decide (i = j))
  | .str x, .str y => some (decide (x = y))
  | .bl a, .bl b => some (a == b)
  | .non, .non => some true
  | x, y => match td deep x, td deep y with
    | some d, some e => some (PyData.eqv d e)
    | _, _ => none
def anyD (x : W) (ws : List W) : Option Bool := match td deep x, toDl (td 59) ws with
  | some d, some ds => some (ds.any fun z => PyData.eqv z d)
  | _, _ => none
def inV (x y : W) : Option Bool := match y with
  | .tup ws => if (flat x && ws.all flat) = true then some (ws.any fun z => eqF z x) else anyD x ws
  | .lst ws => if (flat x && ws.all flat) = true then some (ws.any fun z => eqF z x) else anyD x ws
  | .dic ks _ => anyD x ks
  | _ => none
def cmpV : Cop → W → W → Option Bool
  | .eq, x, y => eqV x y
  | .ne, x, y => (eqV x y).map not
  | .inn, x, y => inV x y
  | .nin, x, y => (inV x y).map not
  | .is, x, .non => some (isNon x)
  | .isn, x, .non => some (!isNon x)
  | .lt, .int i, .int j => some (decide (i < j))
  | .le, .int i, .int j => some (decide (i ≤ j))
  | .gt, .int i, .int j => some (decide (j < i))
  | .ge, .int i, .int j => some (decide (j ≤ i))
  | .lt, .tup a, .tup b => lexW a b
  | _, _, _ => none
def lenOk (ws : List W) : Bool := Nat.ble ws.length line
def binV : Bop → W → W → Option W
  | .add, .int i, .int j => some (.int (i + j))
  | .sub, .int i, .int j => some (.int (i - j))
  | .mul, .int i, .int j => if mulOk i j = true then some (.int (i * j)) else none
  | .mod, .int i, .int j => if 0 < j then some (.int (i % j)) else none
  | .fdiv, .int i, .int j => if 0 < j ∧ j.natAbs.log2 < 9000 then some (.int (i / j)) else none
  | .pow, .int i, .int j => if 0 ≤ j ∧ j ≤ 1000000 ∧ i.natAbs < 2 ^ 64 then some (.int (i ^ j.toNat)) else none
  | .add, .str x, .str y => if Nat.ble (x.length + y.length) line = true then some (.str (x ++ y)) else none
  | .add, .tup a, .tup b => if Nat.ble (a.length + b.length) line = true then some (.tup (a ++ b)) else none
  | .add, .lst a, .lst b => if Nat.ble (a.length + b.length) line = true then some (.lst (a ++ b)) else none
  | .mul, .tup a, .int k => if 2 ≤ k ∧ k ≤ 1000 ∧ a ≠ [] ∧ a.length ≤ 1000 then some (.tup (flatRep k.toNat a)) else none
  | .mul, .lst a, .int k => if -(2 ^ 63) ≤ k ∧ k < 2 ^ 63 ∧ a.length * k.toNat ≤ line then some (.lst (flatRep k.toNat a)) else none
  | _, _, _ => none
def truV : W → Option Bool
  | .non => some false
  | .bl b => some b
  | .int i => some (decide (i ≠ 0))
  | .tup ws => some (!ws.isEmpty)
  | .lst ws => some (!ws.isEmpty)
  | _ => none
def ixV (x y : W) : Option W := match y with
  | .int i => match vseq x with
    | some ws => match ixN ws.length i with
      | some j => ws[j]?
      | none => none
    | none => none
  | _ => none
def slV : W → Option Int → Option Int → Option W
  | .tup ws, lo, hi => some (.tup (cut ws lo hi))
  | .lst ws, lo, hi => some (.lst (cut ws lo hi))
  | .rol ws, lo, hi => some (.lst (cut ws lo hi))
  | _, _, _ => none
def revV : W → Option W
  | .tup ws => some (.tup ws.reverse)
  | .lst ws => some (.lst ws.reverse)
  | _ => none
def maxV : List W → Option W := fun ws => match intsW ws with
  | some (i :: r) => some (.int (maxI r i))
  | _ => none
def minV : List W → Option W := fun ws => match intsW ws with
  | some (i :: r) => some (.int (minI r i))
  | _ => none
def sumV : List W → Option W := fun ws => match intsW ws with
  | some l => some (.int l.sum)
  | none => none
def sortV : List W → Option W := fun ws => match intsW ws with
  | some l => if l.length < 64 then some (.lst ((sortI l).map .int)) else none
  | none => none
def allV : List W → Option W := fun ws => (boolsW ws).map fun l => .bl (l.all id)
def anyV : List W → Option W := fun ws => (boolsW ws).map fun l => .bl (l.any id)
def reprV (x : W) : Option W := match td deep x with
  | some d => if (d.showable && Nat.ble d.shown.length line) = true then some (.str d.shown) else none
  | none => none
def lenV : W → Option W
  | .tup ws => some (.int ws.length)
  | .lst ws => some (.int ws.length)
  | .rol ws => some (.int ws.length)
  | .str z => if Nat.ble z.length line = true then some (.int z.length) else none
  | _ => none
def biV' : Bi → List W → Option W
  | .len, [x] => lenV x
  | .int, [.int i] => some (.int i)
  | .int, [.bl b] => some (.int (b2I b))
  | .abs, [.int i] => some (.int (if i < 0 then -i else i))
  | .max2, [.int i, .int j] => some (.int (if j > i then j else i))
  | .min2, [.int i, .int j] => some (.int (if j < i then j else i))
  | .maxl, [.lst ws] => maxV ws
  | .minl, [.lst ws] => minV ws
  | .sum, [.lst ws] => sumV ws
  | .sorted, [.lst ws] => sortV ws
  | .tuple, [.tup ws] => some (.tup ws)
  | .tuple, [.lst ws] => some (.tup ws)
  | .list, [.tup ws] => some (.lst ws)
  | .list, [.lst ws] => some (.lst ws)
  | .repr, [x] => reprV x
  | .all, [.lst ws] => allV ws
  | .any, [.lst ws] => anyV ws
  | _, _ => none
def lrgV : W → Option W
  | .int n => if within62 n = true then (if Nat.ble (rangeI 0 n.toNat).length line = true then some (.lst (rangeI 0 n.toNat)) else none) else none
  | _ => none
def isiV (x : W) (T : String) : Option Bool := match x with
  | .non => some (T == "NoneType")
  | .bl _ => some (T == "int" || T == "bool")
  | .int _ => some (T == "int")
  | .str _ => some (T == "str")
  | .tup _ => some (T == "tuple")
  | .lst _ => some (T == "list")
  | .dic _ _ => some (T == "dict")
  | _ => none
def isiO (ts : List String) (x : W) : Option Bool := match ts with
  | [T] => isiV x T
  | _ => none
def negV : W → Option W
  | .int i => some (.int (-i))
  | _ => none
def asBV : W → Option Bool
  | .bl b => some b
  | _ => none
def asIV : W → Option (Option Int)
  | .int i => some (some i)
  | _ => none
def mtV : Mt → List W → List W → Option (W × List W)
  | .append, ws, [x] => if Nat.ble ws.length line = true then some (.non, ws ++ [x]) else none
  | .extend, ws, [.lst us] => if Nat.ble (ws.length + us.length) line = true then some (.non, ws ++ us) else none
  | .pop, ws, [] => match ws[ws.length - 1]? with
    | some w => some (w, ws.dropLast)
    | none => none
  | .popAt, ws, [.int i] => match seqIx ws.length i with
    | some k => match ws[k]? with
      | some w => some (w, ws.eraseIdx k)
      | none => none
    | none => none
  | _, _, _ => none
/-- xs[i] = x -/
def setV (y z x : W) : Option W := match y, z with
  | .lst ws, .int i => match ixN ws.length i with
    | some j => some (.lst (ws.set j x))
    | none => none
  | _, _ => none
/-- a list stands in the slot -/
def lstS (s : Sl) (k : Nat) : Option Unit := match getS s k with
  | some (.lst _) => some ()
  | _ => none
/-- slot k: the list there, changed -/
def mtS (m : Mt) (k : Nat) (args : List W) (s : Sl) : Q W := match getS s k with
  | some (.lst us) => match mtV m us args with
    | some p => .ok p.1 (setS s k (some (.lst p.2)))
    | none => .no
  | _ => .no
def setSl (k : Nat) (z x : W) (s : Sl) : Q F := match getS s k with
  | some y => match setV y z x with
    | some y' => .ok .nx (setS s k (some y'))
    | none => .no
  | none => .no
/-- the row a of the list in the slot -/
def rowS (s : Sl) (k : Nat) (a : W) : Option W := match getS s k with
  | some y => ixV y a
  | none => none
/-- xs[a][i] = x -/
def setSl2 (k : Nat) (a z x : W) (s : Sl) : Q F := match getS s k with
  | some y => match ixV y a with
    | some u => match setV u z x with
      | some u' => match setV y a u' with
        | some y' => .ok .nx (setS s k (some y'))
        | none => .no
      | none => .no
    | none => .no
  | none => .no

/-! ### runs -/
/-- what a comprehension's own names held before -/
def restS (s0 : Sl) : List Nat → Sl → Sl
  | [], s => s
  | i :: is, s => setS (restS s0 is s) i (getS s0 i)
def lcV (f : W → Sl → Q (Option W)) : List W → Sl → Q (List W)
  | [], s => .ok [] s
  | w :: ws, s => (f w s).calm.bind fun o s1 => (lcV f ws s1).bind fun ys s2 => .ok (consO o ys) s2
def hdS : Sl → Option W
  | [] => none
  | x :: _ => x
/-- what a call leaves in the slots that were handed in to be changed -/
def wb : List Bool → E → Sl → Sl → Sl
  | true :: io, .cons (.v i) r, o, s => wb io r o.tail (setS s i (hdS o))
  | _ :: io, .cons _ r, o, s => wb io r o.tail s
  | _, _, _, s => s
def Q.back (q : Q W) (io : List Bool) (as : E) (s : Sl) : Q W := match q with
  | .ok w o => .ok w (wb io as o s)
  | .exc c fs o => .exc c fs (wb io as o s)
  | .no => .no
section
variable (G : Nat → List W → Q W) (io : Nat → List Bool)
mutual
def vE : E → Sl → Q W
  | .v i, s => Q.of (getS s i) s
  | .c w, s => .ok w s
  | .bin o a b, s => (vE a s).bind fun x s1 => (vE b s1).bind fun y s2 => Q.of (binV o x y) s2
  | .neg a, s => (vE a s).bind fun x s1 => Q.of (negV x) s1
  | .cmp o a b, s => (vE a s).bind fun x s1 => (vE b s1).bind fun y s2 => (Q.of (cmpV o x y) s2).bind fun k s3 => .ok (.bl k) s3
  | .chain o p a b c, s => (vE a s).bind fun x s1 => (vE b s1).bind fun y s2 => (Q.of (cmpV o x y) s2).bind fun k s3 =>
      if k = true then (vE c s3).bind fun u s4 => (Q.of (cmpV p y u) s4).bind fun k s5 => .ok (.bl k) s5 else .ok (.bl false) s3
  | .and a b, s => (vE a s).bind fun x s1 => (Q.of (truV x) s1).bind fun k s2 => if k = true then vE b s2 else .ok x s2
  | .or a b, s => (vE a s).bind fun x s1 => (Q.of (truV x) s1).bind fun k s2 => if k = true then .ok x s2 else vE b s2
  | .not a, s => (vE a s).bind fun x s1 => (Q.of (truV x) s1).bind fun k s2 => .ok (.bl (!k)) s2
  | .ite t a b, s => (vT t s).bind fun k s1 => if k = true then vE a s1 else vE b s1
  | .call f as, s => (vA (io f) as s).bind fun ws s1 => (G f ws).back (io f) as s1
  | .bi b as, s => (vs as s).bind fun ws s1 => Q.of (biV' b ws) s1
  | .isi a ts, s => (vE a s).bind fun x s1 => (Q.of (isiO ts x) s1).bind fun k s2 => .ok (.bl k) s2
  | .mt m (.v k) as, s => (Q.of (lstS s k) s).bind fun _ s0 => (vs as s0).bind fun ws s1 => mtS m k ws s1
  | .tup as, s => (vs as s).bind fun ws s1 => if lenOk ws = true then .ok (.tup ws) s1 else .no
  | .lst as, s => (vs as s).bind fun ws s1 => if lenOk ws = true then .ok (.lst ws) s1 else .no
  | .ix a b, s => (vE a s).bind fun x s1 => (vE b s1).bind fun y s2 => Q.of (ixV x y) s2
  | .sl a lo hi, s => (vE a s).bind fun x s1 => (vO lo s1).bind fun l s2 => (vO hi s2).bind fun u s3 => Q.of (slV x l u) s3
  | .rev a, s => (vE a s).bind fun x s1 => Q.of (revV x) s1
  | .lrg a, s => (vE a s).bind fun x s1 => Q.of (lrgV x) s1
  | .lc e own t it cond, s => (vI it s).bind fun ws s1 =>
      (lcV (fun w s2 => match asgT t w (wipeS s2 own) with
        | some s3 => (vC cond s3).bind fun k s4 => if k = true then (vE e s4).bind fun y s5 => .ok (some y) (restS s2 own s5) else .ok none (restS s2 own s4)
        | none => .no) ws s1).bind fun ys s6 => if lenOk ys = true then .ok (.lst ys) s6 else .no
  | _, _ => .no
def vT : E → Sl → Q Bool
  | .and a b, s => (vT a s).bind fun k s1 => if k = true then vT b s1 else .ok false s1
  | .or a b, s => (vT a s).bind fun k s1 => if k = true then .ok true s1 else vT b s1
  | .not a, s => (vT a s).bind fun k s1 => .ok (!k) s1
  | .cmp o a b, s => (vE a s).bind fun x s1 => (vE b s1).bind fun y s2 => Q.of (cmpV o x y) s2
  | .chain o p a b c, s => (vE a s).bind fun x s1 => (vE b s1).bind fun y s2 => (Q.of (cmpV o x y) s2).bind fun k s3 =>
      if k = true then (vE c s3).bind fun u s4 => Q.of (cmpV p y u) s4 else .ok false s3
  | .v i, s => (Q.of (getS s i) s).bind fun w s1 => Q.of (truV w) s1
  | .c w, s => Q.of (truV w) s
  | .call f as, s => ((vA (io f) as s).bind fun ws s1 => (G f ws).back (io f) as s1).bind fun w s2 => Q.of (truV w) s2
  | .bi b as, s => ((vs as s).bind fun ws s1 => Q.of (biV' b ws) s1).bind fun w s2 => Q.of (truV w) s2
  | .isi a ts, s => (vE a s).bind fun x s1 => Q.of (isiO ts x) s1
  | .ix a b, s => ((vE a s).bind fun x s1 => (vE b s1).bind fun y s2 => Q.of (ixV x y) s2).bind fun w s3 => Q.of (truV w) s3
  | _, _ => .no
def vC : E → Sl → Q Bool
  | .nil, s => .ok true s
  | .cons a .nil, s => vT a s
  | _, _ => .no
def vs : E → Sl → Q (List W)
  | .nil, s => .ok [] s
  | .cons a r, s => (vE a s).bind fun w s1 => (vs r s1).bind fun ws s2 => .ok (w :: ws) s2
  | _, _ => .no
/-- the arguments of a call: what is handed in to be changed is read last -/
def vA : List Bool → E → Sl → Q (List W)
  | true :: io, .cons (.v i) r, s => (Q.of (getS s i) s).bind fun _ s0 => (vA io r s0).bind fun ws s1 => (Q.of (getS s1 i) s1).bind fun w s2 => .ok (w :: ws) s2
  | false :: io, .cons a r, s => (vE a s).bind fun w s1 => (vA io r s1).bind fun ws s2 => .ok (w :: ws) s2
  | _, .nil, s => .ok [] s
  | _, _, _ => .no
def vO : E → Sl → Q (Option Int)
  | .nil, s => .ok none s
  | .cons a .nil, s => (vE a s).bind fun w s1 => Q.of (asIV w) s1
  | _, _ => .no
def vI : E → Sl → Q (List W)
  | .seq a, s => (vE a s).bind fun x s1 => Q.of (vseq x) s1
  | .rng1 a, s => (vE a s).bind fun x s1 => match x with
    | .int n => if within62 n = true then .ok (rangeI 0 n.toNat) s1 else .no
    | _ => .no
  | .rng2 a b, s => (vE a s).bind fun x s1 => (vE b s1).bind fun y s2 => match x, y with
    | .int u, .int w => if (within62 u && within62 w) = true then .ok (rangeI u (w - u).toNat) s2 else .no
    | _, _ => .no
  | .enum a, s => (vE a s).bind fun x s1 => (Q.of (vseq x) s1).bind fun ws s2 => .ok (enumT 0 ws) s2
  | .zip a b, s => (vE a s).bind fun x s1 => (vE b s1).bind fun y s2 => match x, y with
    | .lst ws, .lst us => .ok (zipT ws us) s2
    | .tup ws, .tup us => .ok (zipT ws us) s2
    | _, _ => .no
  | _, _ => .no
end
def vgo (f : Sl → Q F) (p : F) (s : Sl) : Q F := match p with
  | .nx => f s
  | .ct => f s
  | .bk => .ok .nx s
  | .rt w => .ok (.rt w) s
def vthen (f : Sl → Q F) (p : F) (s : Sl) : Q F := match p with
  | .nx => f s
  | p => .ok p s
def whlV (t : Sl → Q Bool) (b : Sl → Q F) : Nat → Sl → Q F
  | 0, _ => .no
  | n + 1, s => (t s).bind fun k s1 => if k = true then (b s1).bind (vgo (whlV t b n)) else .ok .nx s1
def forV (t : T) (b : Sl → Q F) : List W → Sl → Q F
  | [], s => .ok .nx s
  | w :: ws, s => match asgT t w s with
    | some s' => (b s').bind (vgo (forV t b ws))
    | none => .no
def vX : S → Sl → Q F
  | .skip, s => .ok .nx s
  | .sq a b, s => (vX a s).bind (vthen (vX b))
  | .asg t e, s => (vE G io e s).bind fun w s1 => match asgT t w s1 with
    | some s2 => .ok .nx s2
    | none => .no
  | .par is as, s => (vs G io as s).bind fun ws s1 => match parS is ws s1 with
    | some s2 => .ok .nx s2
    | none => .no
  | .seti (.v k) i e, s => (vE G io e s).bind fun x s1 => (Q.of (getS s1 k) s1).bind fun _ s1 => (vE G io i s1).bind fun z s2 => setSl k z x s2
  | .seti (.ix (.v k) a) i e, s => (vE G io e s).bind fun x s1 => (Q.of (getS s1 k) s1).bind fun _ s1 => (vE G io a s1).bind fun y s2 => (Q.of (rowS s2 k y) s2).bind fun _ s2 => (vE G io i s2).bind fun z s3 => setSl2 k y z x s3
  | .ex e, s => (vE G io e s).bind fun _ s1 => .ok .nx s1
  | .ret e, s => (vE G io e s).bind fun w s1 => .ok (.rt w) s1
  | .retn, s => .ok (.rt .non) s
  | .ite t a b, s => (vT G io t s).bind fun k s1 => if k = true then vX a s1 else vX b s1
  | .whl t b, s => whlV (vT G io t) (vX b) fuel s
  | .for t it b, s => (vI G io it s).bind fun ws s1 => forV t (vX b) ws s1
  | .fgt own b, s => (vX b s).bind fun p s1 => .ok p (wipeS s1 own)
  | .brk, s => .ok .bk s
  | .cnt, s => .ok .ct s
  | _, _ => .no
end
/-- how a slot holds its value: shared, owned (a list of its own, changed in place), handed in to be changed, lent, owned with owned rows -/
inductive Kd where
  | S | O | I | B | O2
  deriving DecidableEq
/-- a def's slots; fr: what it hands back is a new list of its own -/
structure Ki where
  ks : List Kd
  fr : Bool
def Kd.io : Kd → Bool
  | .I => true
  | _ => false
def ioOf (kt : List Ki) (f : Nat) : List Bool := match kt[f]? with
  | some k => k.ks.map Kd.io
  | none => []
def Q.fin (p : Nat) : Q F → Q W
  | .ok (.rt w) s => .ok w (s.take p)
  | .ok .nx s => .ok .non (s.take p)
  | .ok _ _ => .no
  | .exc c fs s => .exc c fs (s.take p)
  | .no => .no
def vcallN (tab : List Fn) (kt : List Ki) : Nat → Nat → List W → Q W
  | 0, _, _ => .no
  | n + 1, f, ws => match tab[f]? with
    | some d => if Nat.beq ws.length d.params = true then (vX (vcallN tab kt n) (ioOf kt) d.body (startS d ws)).fin d.params else .no
    | none => .no
end Vm
end

section
set_option Elab.async false
set_option linter.all false
set_option maxRecDepth 100000
set_option maxHeartbeats 4000000
set_option autoImplicit false
/-! Values without a heap stand for values with one: the relation. -/
namespace Vm
open PySem Wm

mutual
/-- u says what w is, all objects on the way allowed -/
inductive Rp (h : OH) (P : Nat → Prop) : W → W → Prop
  | non : Rp h P .non .non
  | bl (b : Bool) : Rp h P (.bl b) (.bl b)
  | int (i : Int) : Rp h P (.int i) (.int i)
  | str (x : Str) : Rp h P (.str x) (.str x)
  | fn (i : Nat) : Rp h P (.fn i) (.fn i)
  | cls (i : Nat) : Rp h P (.cls i) (.cls i)
  | tup {us ws : List W} : Rps h P us ws → Rp h P (.tup us) (.tup ws)
  | rol {us ws : List W} : Rps h P us ws → Rp h P (.rol us) (.rol ws)
  | lst {n : Nat} {us ws : List W} : P n → h[n]? = some (.lst ws) → Rps h P us ws → Rp h P (.lst us) (.ref n)
  | dic {n : Nat} {tk : Bool} {kvs : List (W × W)} {ks vs : List W} : P n → h[n]? = some (.dct tk kvs) → Rps h P ks (kvs.map (·.1)) → Rps h P vs (kvs.map (·.2)) → Rp h P (.dic ks vs) (.ref n)
inductive Rps (h : OH) (P : Nat → Prop) : List W → List W → Prop
  | nil : Rps h P [] []
  | cons {u w : W} {us ws : List W} : Rp h P u w → Rps h P us ws → Rps h P (u :: us) (w :: ws)
end
/-- the world has grown -/
structure Ext (P : Nat → Prop) (h : OH) (P' : Nat → Prop) (h' : OH) : Prop where
  sub : ∀ m, P m → P' m
  new : ∀ m, P' m → P m ∨ h.length ≤ m
  len : h.length ≤ h'.length
  keep : ∀ m, P m → h'[m]? = h[m]?
theorem Ext.refl (P : Nat → Prop) (h : OH) : Ext P h P h := ⟨fun _ q => q, fun _ q => .inl q, Nat.le_refl _, fun _ _ => rfl⟩
theorem Ext.trans {P P1 P2 : Nat → Prop} {h h1 h2 : OH} (a : Ext P h P1 h1) (b : Ext P1 h1 P2 h2) : Ext P h P2 h2 := by
  refine ⟨fun m q => b.sub m (a.sub m q), fun m q => ?_, Nat.le_trans a.len b.len, fun m q => (b.keep m (a.sub m q)).trans (a.keep m q)⟩
  rcases b.new m q with q | q
  · exact a.new m q
  · exact .inr (Nat.le_trans a.len q)
section
variable {P P' : Nat → Prop} {h h' : OH}
mutual
theorem Rp.mv (k : ∀ m, P m → P' m ∧ h'[m]? = h[m]?) : ∀ {u w : W}, Rp h P u w → Rp h' P' u w
  | _, _, .non => .non
  | _, _, .bl b => .bl b
  | _, _, .int i => .int i
  | _, _, .str x => .str x
  | _, _, .fn i => .fn i
  | _, _, .cls i => .cls i
  | _, _, .tup q => .tup (Rps.mv k q)
  | _, _, .rol q => .rol (Rps.mv k q)
  | _, _, .lst p e q => .lst (k _ p).1 ((k _ p).2.trans e) (Rps.mv k q)
  | _, _, .dic p e q r => .dic (k _ p).1 ((k _ p).2.trans e) (Rps.mv k q) (Rps.mv k r)
theorem Rps.mv (k : ∀ m, P m → P' m ∧ h'[m]? = h[m]?) : ∀ {us ws : List W}, Rps h P us ws → Rps h' P' us ws
  | _, _, .nil => .nil
  | _, _, .cons a b => .cons (Rp.mv k a) (Rps.mv k b)
end
theorem Rp.ext {u w : W} (q : Rp h P u w) (e : Ext P h P' h') : Rp h' P' u w := q.mv fun m p => ⟨e.sub m p, e.keep m p⟩
theorem Rps.ext {us ws : List W} (q : Rps h P us ws) (e : Ext P h P' h') : Rps h' P' us ws := q.mv fun m p => ⟨e.sub m p, e.keep m p⟩
theorem Rps.len : ∀ {us ws : List W}, Rps h P us ws → us.length = ws.length
  | _, _, .nil => rfl
  | _, _, .cons _ b => congrArg Nat.succ b.len
theorem Rps.get : ∀ {us ws : List W} {n : Nat} {u : W}, Rps h P us ws → us[n]? = some u → ∃ w, ws[n]? = some w ∧ Rp h P u w
  | _, _, _, _, .nil, e => by simp at e
  | _, _, 0, _, .cons a _, e => by simp at e; subst e; exact ⟨_, rfl, a⟩
  | _, _, n + 1, u, .cons _ b, e => by
    obtain ⟨v, h1, h2⟩ := Rps.get (n := n) (u := u) b (by simpa using e)
    exact ⟨v, by simpa using h1, h2⟩
theorem Rps.app : ∀ {us ws vs xs : List W}, Rps h P us ws → Rps h P vs xs → Rps h P (us ++ vs) (ws ++ xs)
  | _, _, _, _, .nil, k => k
  | _, _, _, _, .cons a b, k => .cons a (b.app k)
theorem Rps.one {u w : W} (q : Rp h P u w) : Rps h P [u] [w] := .cons q .nil
theorem Rps.take : ∀ {us ws : List W} (n : Nat), Rps h P us ws → Rps h P (us.take n) (ws.take n)
  | _, _, 0, _ => .nil
  | _, _, _ + 1, .nil => .nil
  | _, _, n + 1, .cons a b => .cons a (b.take n)
theorem Rps.drop : ∀ {us ws : List W} (n : Nat), Rps h P us ws → Rps h P (us.drop n) (ws.drop n)
  | _, _, 0, r => r
  | _, _, _ + 1, .nil => .nil
  | _, _, n + 1, .cons a b => b.drop n
theorem Rps.set {u w : W} (r : Rp h P u w) : ∀ {us ws : List W} (n : Nat), Rps h P us ws → Rps h P (us.set n u) (ws.set n w)
  | _, _, _, .nil => .nil
  | _, _, 0, .cons _ b => .cons r b
  | _, _, n + 1, .cons a b => .cons a (Rps.set r n b)
theorem Rps.dropLast {us ws : List W} (r : Rps h P us ws) : Rps h P us.dropLast ws.dropLast := by
  rw [List.dropLast_eq_take, List.dropLast_eq_take, r.len]
  exact r.take _
theorem Rps.erase : ∀ {us ws : List W} (n : Nat), Rps h P us ws → Rps h P (us.eraseIdx n) (ws.eraseIdx n)
  | _, _, _, .nil => .nil
  | _, _, 0, .cons _ b => b
  | _, _, n + 1, .cons a b => .cons a (b.erase n)
theorem Rps.rev : ∀ {us ws : List W}, Rps h P us ws → Rps h P us.reverse ws.reverse
  | _, _, .nil => .nil
  | _, _, .cons a b => by
    simp only [List.reverse_cons]
    exact (b.rev).app (.one a)
theorem Rps.rep {us ws : List W} (r : Rps h P us ws) : ∀ k : Nat, Rps h P (flatRep k us) (flatRep k ws)
  | 0 => .nil
  | k + 1 => by
    unfold flatRep
    simp only [List.replicate_succ, List.flatten_cons]
    exact r.app (Rps.rep r k)
theorem Rps.cut {us ws : List W} (r : Rps h P us ws) (lo hi : Option Int) : Rps h P (Wm.cut us lo hi) (Wm.cut ws lo hi) := by
  unfold Wm.cut
  rw [r.len]
  exact (r.drop _).take _
theorem Rps.zip : ∀ {us ws vs xs : List W}, Rps h P us ws → Rps h P vs xs → Rps h P (zipT us vs) (zipT ws xs)
  | _, _, _, _, .nil, _ => .nil
  | _, _, _, _, .cons _ _, .nil => .nil
  | _, _, _, _, .cons a b, .cons c d => .cons (.tup (.cons a (.one c))) (b.zip d)
theorem Rps.enum : ∀ {us ws : List W} (k : Int), Rps h P us ws → Rps h P (enumT k us) (enumT k ws)
  | _, _, _, .nil => .nil
  | _, _, k, .cons a b => .cons (.tup (.cons (.int k) (.one a))) (b.enum (k + 1))
theorem Rps.ints : ∀ (l : List Int), Rps h P (l.map .int) (l.map .int)
  | [] => .nil
  | i :: l => .cons (.int i) (Rps.ints l)
theorem Rps.range : ∀ (n : Nat) (lo : Int), Rps h P (rangeI lo n) (rangeI lo n)
  | 0, _ => .nil
  | n + 1, lo => .cons (.int lo) (Rps.range n (lo + 1))
theorem Rps.intsW : ∀ {us ws : List W} {l : List Int}, Rps h P us ws → Wm.intsW us = some l → Wm.intsW ws = some l
  | _, _, _, .nil, e => e
  | _, _, l, .cons a b, e => by
    cases a with
    | int i =>
      simp only [Wm.intsW, Option.map_eq_some_iff] at e ⊢
      obtain ⟨l', e1, e2⟩ := e
      exact ⟨l', b.intsW e1, e2⟩
    | _ => simp [Wm.intsW] at e
theorem Rps.boolsW : ∀ {us ws : List W} {l : List Bool}, Rps h P us ws → Wm.boolsW us = some l → Wm.boolsW ws = some l
  | _, _, _, .nil, e => e
  | _, _, l, .cons a b, e => by
    cases a with
    | bl i =>
      simp only [Wm.boolsW, Option.map_eq_some_iff] at e ⊢
      obtain ⟨l', e1, e2⟩ := e
      exact ⟨l', b.boolsW e1, e2⟩
    | _ => simp [Wm.boolsW] at e
mutual
theorem Rp.pure : ∀ (w : W), W.pure w = true → Rp h P w w
  | .non, _ => .non
  | .bl b, _ => .bl b
  | .int i, _ => .int i
  | .str x, _ => .str x
  | .fn i, _ => .fn i
  | .cls i, _ => .cls i
  | .tup ws, e => .tup (Rps.pures ws e)
  | .rol ws, e => .rol (Rps.pures ws e)
  | .ref _, e => by cases e
  | .lst _, e => by cases e
  | .dic _ _, e => by cases e
  | .obj _ _ _, e => by cases e
theorem Rps.pures : ∀ (ws : List W), W.pures ws = true → Rps h P ws ws
  | [], _ => .nil
  | a :: as, e => by
    have e' := Bool.and_eq_true_iff.mp (show (W.pure a && W.pures as) = true from e)
    exact .cons (Rp.pure a e'.1) (Rps.pures as e'.2)
end
end
/-! ### the top alone may stand elsewhere -/
inductive Tp (h : OH) (P : Nat → Prop) : W → W → Prop
  | s {u w : W} : Rp h P u w → Tp h P u w
  | lst {n : Nat} {us ws : List W} : h[n]? = some (.lst ws) → Rps h P us ws → Tp h P (.lst us) (.ref n)
  | dic {n : Nat} {tk : Bool} {kvs : List (W × W)} {ks vs : List W} : h[n]? = some (.dct tk kvs) → Rps h P ks (kvs.map (·.1)) → Rps h P vs (kvs.map (·.2)) → Tp h P (.dic ks vs) (.ref n)
section
variable {P P' : Nat → Prop} {h h' : OH}
theorem Tp.lst_ {us : List W} {w : W} (t : Tp h P (.lst us) w) : ∃ n ws, w = .ref n ∧ h[n]? = some (.lst ws) ∧ Rps h P us ws := by
  cases t with
  | s q => cases q with
    | lst p e q => exact ⟨_, _, rfl, e, q⟩
  | lst e q => exact ⟨_, _, rfl, e, q⟩
theorem Tp.dic_ {ks vs : List W} {w : W} (t : Tp h P (.dic ks vs) w) : ∃ n tk kvs, w = .ref n ∧ h[n]? = some (.dct tk kvs) ∧ Rps h P ks (kvs.map (·.1)) ∧ Rps h P vs (kvs.map (·.2)) := by
  cases t with
  | s q => cases q with
    | dic p e q r => exact ⟨_, _, _, rfl, e, q, r⟩
  | dic e q r => exact ⟨_, _, _, rfl, e, q, r⟩
/-- no list, no dict -/
def bare : W → Bool
  | .lst _ => false
  | .dic _ _ => false
  | _ => true
theorem Tp.bare_ {u w : W} (t : Tp h P u w) (b : bare u = true) : Rp h P u w := by
  cases t with
  | s q => exact q
  | lst _ _ => cases b
  | dic _ _ _ => cases b
theorem Tp.tup_ {us : List W} {w : W} (t : Tp h P (.tup us) w) : ∃ ws, w = .tup ws ∧ Rps h P us ws := by
  cases t.bare_ rfl with
  | tup q => exact ⟨_, rfl, q⟩
theorem Tp.rol_ {us : List W} {w : W} (t : Tp h P (.rol us) w) : ∃ ws, w = .rol ws ∧ Rps h P us ws := by
  cases t.bare_ rfl with
  | rol q => exact ⟨_, rfl, q⟩
theorem Tp.int_ {i : Int} {w : W} (t : Tp h P (.int i) w) : w = .int i := by cases t.bare_ rfl; rfl
theorem Tp.str_ {i : Str} {w : W} (t : Tp h P (.str i) w) : w = .str i := by cases t.bare_ rfl; rfl
theorem Tp.bl_ {i : Bool} {w : W} (t : Tp h P (.bl i) w) : w = .bl i := by cases t.bare_ rfl; rfl
theorem Tp.non_ {w : W} (t : Tp h P .non w) : w = .non := by cases t.bare_ rfl; rfl
theorem Tp.mvd {u w : W} (t : Tp h P u w) (k : ∀ m, P m → P' m ∧ h'[m]? = h[m]?) (kt : ∀ n, w = .ref n → ¬ P n → h'[n]? = h[n]?) : Tp h' P' u w := by
  cases t with
  | s q => exact .s (q.mv k)
  | lst e q =>
    rename_i n us ws
    by_cases hp : P n
    · exact .s (.lst (k n hp).1 ((k n hp).2.trans e) (q.mv k))
    · exact .lst ((kt _ rfl hp).trans e) (q.mv k)
  | dic e q r =>
    rename_i n tk kvs ks vs
    by_cases hp : P n
    · exact .s (.dic (k n hp).1 ((k n hp).2.trans e) (q.mv k) (r.mv k))
    · exact .dic ((kt _ rfl hp).trans e) (q.mv k) (r.mv k)
end
/-! ### owned -/
inductive Own (h : OH) (P : Nat → Prop) : W → W → List Nat → Prop
  | lst {n : Nat} {us ws : List W} : h[n]? = some (.lst ws) → Rps h P us ws → Own h P (.lst us) (.ref n) [n]
  | dic {n : Nat} {tk : Bool} {kvs : List (W × W)} {ks vs : List W} : h[n]? = some (.dct tk kvs) → Rps h P ks (kvs.map (·.1)) → Rps h P vs (kvs.map (·.2)) → Own h P (.dic ks vs) (.ref n) [n]
  | bare {u w : W} : bare u = true → Rp h P u w → Own h P u w []
/-- rows -/
inductive Rows (h : OH) (P : Nat → Prop) : List W → List W → List Nat → Prop
  | nil : Rows h P [] [] []
  | cons {u w : W} {rs ws : List W} {c ns : List Nat} : Own h P u w c → Rows h P rs ws ns → Rows h P (u :: rs) (w :: ws) (c ++ ns)
inductive Own2 (h : OH) (P : Nat → Prop) : W → W → List Nat → Prop
  | lst {n : Nat} {rs ws : List W} {ns : List Nat} : h[n]? = some (.lst ws) → Rows h P rs ws ns → (n :: ns).Nodup → Own2 h P (.lst rs) (.ref n) (n :: ns)
  | bare {u w : W} : bare u = true → Rp h P u w → Own2 h P u w []
section
variable {P P' : Nat → Prop} {h h' : OH}
theorem Own.mv {u w : W} {c : List Nat} (o : Own h P u w c) (k : ∀ m, P m → P' m ∧ h'[m]? = h[m]?) (kc : ∀ n ∈ c, h'[n]? = h[n]?) : Own h' P' u w c := by
  cases o with
  | lst e q => exact .lst ((kc _ (by simp)).trans e) (q.mv k)
  | dic e q r => exact .dic ((kc _ (by simp)).trans e) (q.mv k) (r.mv k)
  | bare b q => exact .bare b (q.mv k)
theorem Rows.mv {rs ws : List W} {ns : List Nat} (r : Rows h P rs ws ns) (k : ∀ m, P m → P' m ∧ h'[m]? = h[m]?) (kc : ∀ n ∈ ns, h'[n]? = h[n]?) : Rows h' P' rs ws ns := by
  induction r with
  | nil => exact .nil
  | cons o r ih => exact .cons (o.mv k fun n hn => kc n (List.mem_append_left _ hn)) (ih fun n hn => kc n (List.mem_append_right _ hn))
theorem Own2.mv {u w : W} {c : List Nat} (o : Own2 h P u w c) (k : ∀ m, P m → P' m ∧ h'[m]? = h[m]?) (kc : ∀ n ∈ c, h'[n]? = h[n]?) : Own2 h' P' u w c := by
  cases o with
  | lst e r nd => exact .lst ((kc _ (by simp)).trans e) (r.mv k fun n hn => kc n (List.mem_cons_of_mem _ hn)) nd
  | bare b q => exact .bare b (q.mv k)
theorem Own.tp {u w : W} {c : List Nat} (o : Own h P u w c) : Tp h P u w := by
  cases o with
  | lst e q => exact .lst e q
  | dic e q r => exact .dic e q r
  | bare b q => exact .s q
theorem Own.in_ {u w : W} {c : List Nat} (o : Own h P u w c) : ∀ n ∈ c, n < h.length := by
  cases o with
  | lst e q => intro n hn; rw [List.mem_singleton.mp hn]; exact (List.getElem?_eq_some_iff.mp e).1
  | dic e q r => intro n hn; rw [List.mem_singleton.mp hn]; exact (List.getElem?_eq_some_iff.mp e).1
  | bare _ _ => intro n hn; cases hn
theorem Own.ref {u : W} {n : Nat} {c : List Nat} (o : Own h P u (.ref n) c) : c = [n] := by
  cases o with
  | lst e q => rfl
  | dic e q r => rfl
  | bare b q => cases q <;> cases b
end
/-! ### frames -/
def kOf (kd : List Kd) (i : Nat) : Kd := kd.getD i .S
def SlotR (h : OH) (P : Nat → Prop) : Kd → W → W → List Nat → Prop
  | .S, u, w, _ => Rp h P u w
  | .B, u, w, _ => Tp h P u w
  | .O, u, w, c => Own h P u w c
  | .I, u, w, c => Own h P u w c
  | .O2, u, w, c => Own2 h P u w c
def Kd.own : Kd → Bool
  | .O => true
  | .O2 => true
  | _ => false
structure Fr (base : Nat) (kd : List Kd) (P : Nat → Prop) (h : OH) (s σ : Sl) (C : Nat → List Nat) : Prop where
  len : s.length = σ.length
  sl : ∀ i u, getS s i = some u → ∃ w, getS σ i = some w ∧ SlotR h P (kOf kd i) u w (C i)
  dis : ∀ i j n, n ∈ C i → n ∈ C j → i = j
  out : ∀ i n, n ∈ C i → ¬ P n
  inn : ∀ m, P m → m < h.length
  cin : ∀ i n, n ∈ C i → n < h.length
  own : ∀ i n, n ∈ C i → (kOf kd i).own = true → base ≤ n
  bout : ∀ i n, kOf kd i = .B → getS σ i = some (.ref n) → n < h.length ∧ ∀ j, n ∉ C j
/-- objects of some slots alone have changed -/
def Md (C : Nat → List Nat) (M : List Nat) (h h' : OH) : Prop := ∀ m, m < h.length → (∀ i ∈ M, m ∉ C i) → h'[m]? = h[m]?
theorem Md.refl (C : Nat → List Nat) (M : List Nat) (h : OH) : Md C M h h := fun _ _ _ => rfl
theorem Md.mono {C : Nat → List Nat} {M M' : List Nat} {h h' : OH} (a : Md C M h h') (s : ∀ i ∈ M, i ∈ M') : Md C M' h h' := fun m hm q => a m hm fun i hi => q i (s i hi)
theorem Md.trans {C : Nat → List Nat} {M M' : List Nat} {h h1 h2 : OH} (a : Md C M h h1) (l : h.length ≤ h1.length) (b : Md C M' h1 h2) : Md C (M ++ M') h h2 := fun m hm q =>
  (b m (Nat.lt_of_lt_of_le hm l) fun i hi => q i (List.mem_append_right _ hi)).trans (a m hm fun i hi => q i (List.mem_append_left _ hi))
section
variable {base : Nat} {kd : List Kd} {P P' : Nat → Prop} {h h' : OH} {s s' σ : Sl} {C : Nat → List Nat} {M : List Nat}
/-- a step: some slots hold anew -/
theorem Fr.step (F : Fr base kd P h s σ C) (e : Ext P h P' h') (md : Md C M h h') (inn : ∀ m, P' m → m < h'.length) (len : s'.length = s.length)
    (new : ∀ i u, getS s' i = some u → (i ∉ M ∧ getS s i = some u) ∨ ∃ w, getS σ i = some w ∧ SlotR h' P' (kOf kd i) u w (C i)) : Fr base kd P' h' s' σ C := by
  have keep : ∀ m, P m → P' m ∧ h'[m]? = h[m]? := fun m p => ⟨e.sub m p, e.keep m p⟩
  refine ⟨len.trans F.len, fun i u hu => ?_, F.dis, fun i n hn hp => ?_, inn, fun i n hn => Nat.lt_of_lt_of_le (F.cin i n hn) e.len, F.own, fun i n hb hs => ⟨Nat.lt_of_lt_of_le (F.bout i n hb hs).1 e.len, (F.bout i n hb hs).2⟩⟩
  · rcases new i u hu with ⟨hi, hu⟩ | q
    · obtain ⟨w, e1, q⟩ := F.sl i u hu
      have kc : ∀ n ∈ C i, h'[n]? = h[n]? := fun n hn => md n (F.cin i n hn) fun j hj hnj => hi (F.dis i j n hn hnj ▸ hj)
      refine ⟨w, e1, ?_⟩
      generalize hk : kOf kd i = k at q ⊢
      cases k with
      | S => exact Rp.mv keep q
      | B =>
        refine Tp.mvd q keep fun n hw _ => ?_
        subst hw
        obtain ⟨h1, h2⟩ := F.bout i n hk e1
        exact md n h1 fun j _ => h2 j
      | O => exact Own.mv q keep kc
      | I => exact Own.mv q keep kc
      | O2 => exact Own2.mv q keep kc
    · exact q
  · rcases e.new n hp with hp | hp
    · exact F.out i n hn hp
    · exact absurd (F.cin i n hn) (by omega)
theorem Fr.grow (F : Fr base kd P h s σ C) (e : Ext P h P' h') (md : Md C [] h h') (inn : ∀ m, P' m → m < h'.length) : Fr base kd P' h' s σ C :=
  F.step e md inn rfl fun i u hu => .inl ⟨by simp, hu⟩
end
end Vm
end

section
set_option Elab.async false
set_option linter.all false
set_option maxRecDepth 100000
set_option maxHeartbeats 4000000
set_option autoImplicit false
/-! Each operation over values is the one over a heap. -/
namespace Vm
open PySem Wm

inductive RpF (h : OH) (P : Nat → Prop) : List (Str × W) → List (Str × W) → Prop
  | nil : RpF h P [] []
  | cons {x : Str} {u w : W} {fs gs : List (Str × W)} : Rp h P u w → RpF h P fs gs → RpF h P ((x, u) :: fs) ((x, w) :: gs)
theorem RpF.ext {P P' : Nat → Prop} {h h' : OH} {fs gs : List (Str × W)} (q : RpF h P fs gs) (e : Ext P h P' h') : RpF h' P' fs gs := by
  induction q with
  | nil => exact .nil
  | cons a b ih => exact .cons (a.ext e) ih
/-- a run over values and one over a heap -/
def RelQ {α β : Type} (rl : OH → (Nat → Prop) → α → β → Prop) (base : Nat) (kd : List Kd) (P : Nat → Prop) (h : OH) (σ : Sl) (C : Nat → List Nat) (M : List Nat) (q : Q α) (r : R β) : Prop := match q with
  | .ok u s' => ∃ w h' P', r = .ok w h' ∧ Ext P h P' h' ∧ Md C M h h' ∧ Fr base kd P' h' s' σ C ∧ rl h' P' u w
  | .exc c fs s' => ∃ fs' h' P', r = .exc c fs' h' ∧ Ext P h P' h' ∧ Md C M h h' ∧ Fr base kd P' h' s' σ C ∧ RpF h' P' fs fs'
  | .no => True
section
variable {base : Nat} {kd : List Kd} {P : Nat → Prop} {h : OH} {s σ : Sl} {C : Nat → List Nat} {M M' : List Nat}
theorem RelQ.ok {α β : Type} {rl : OH → (Nat → Prop) → α → β → Prop} {u : α} {w : β} (F : Fr base kd P h s σ C) (r : rl h P u w) : RelQ rl base kd P h σ C M (.ok u s) (.ok w h) :=
  ⟨w, h, P, rfl, Ext.refl _ _, Md.refl _ _ _, F, r⟩
theorem RelQ.mono {α β : Type} {rl rl' : OH → (Nat → Prop) → α → β → Prop} {q : Q α} {r : R β} (a : RelQ rl base kd P h σ C M q r) (sub : ∀ i ∈ M, i ∈ M') (im : ∀ h P u w, rl h P u w → rl' h P u w) : RelQ rl' base kd P h σ C M' q r := by
  cases q with
  | ok u s' =>
    obtain ⟨w, h', P', e, x, md, F, k⟩ := a
    exact ⟨w, h', P', e, x, md.mono sub, F, im _ _ _ _ k⟩
  | exc c fs s' =>
    obtain ⟨w, h', P', e, x, md, F, k⟩ := a
    exact ⟨w, h', P', e, x, md.mono sub, F, k⟩
  | no => trivial
theorem RelQ.bind {α β γ δ : Type} {r1 : OH → (Nat → Prop) → α → β → Prop} {r2 : OH → (Nat → Prop) → γ → δ → Prop} {q : Q α} {r : R β} {f : α → Sl → Q γ} {g : β → OH → R δ} (a : RelQ r1 base kd P h σ C M q r)
    (k : ∀ u w s' h' P', Ext P h P' h' → Md C M h h' → Fr base kd P' h' s' σ C → r1 h' P' u w → RelQ r2 base kd P' h' σ C M' (f u s') (g w h')) : RelQ r2 base kd P h σ C (M ++ M') (q.bind f) (r.bind g) := by
  cases q with
  | ok u s' =>
    obtain ⟨w, h', P', rfl, x, md, F, r1⟩ := a
    have b := k u w s' h' P' x md F r1
    simp only [Q.bind_ok, R.bind_ok]
    cases hq : f u s' with
    | ok u2 s2 =>
      rw [hq] at b
      obtain ⟨w2, h2, P2, e, x2, md2, F2, k2⟩ := b
      exact ⟨w2, h2, P2, e, x.trans x2, md.trans x.len md2, F2, k2⟩
    | exc c fs s2 =>
      rw [hq] at b
      obtain ⟨w2, h2, P2, e, x2, md2, F2, k2⟩ := b
      exact ⟨w2, h2, P2, e, x.trans x2, md.trans x.len md2, F2, k2⟩
    | no => trivial
  | exc c fs s' =>
    obtain ⟨w, h', P', rfl, x, md, F, k⟩ := a
    exact ⟨w, h', P', rfl, x, md.mono fun i hi => List.mem_append_left _ hi, F, k⟩
  | no => trivial
/-- the same, the second leaves no new mark -/
theorem RelQ.bind0 {α β γ δ : Type} {r1 : OH → (Nat → Prop) → α → β → Prop} {r2 : OH → (Nat → Prop) → γ → δ → Prop} {q : Q α} {r : R β} {f : α → Sl → Q γ} {g : β → OH → R δ} (a : RelQ r1 base kd P h σ C M q r)
    (k : ∀ u w s' h' P', Ext P h P' h' → Md C M h h' → Fr base kd P' h' s' σ C → r1 h' P' u w → RelQ r2 base kd P' h' σ C [] (f u s') (g w h')) : RelQ r2 base kd P h σ C M (q.bind f) (r.bind g) := by
  have := RelQ.bind (M' := []) a k
  rw [List.append_nil] at this
  exact this
theorem RelQ.of {α β : Type} {rl : OH → (Nat → Prop) → α → β → Prop} (F : Fr base kd P h s σ C) {o : Option α} {r : R β} (k : ∀ u, o = some u → ∃ w, r = .ok w h ∧ rl h P u w) : RelQ rl base kd P h σ C M (Q.of o s) r := by
  cases o with
  | none => trivial
  | some u =>
    obtain ⟨w, rfl, q⟩ := k u rfl
    exact RelQ.ok F q
theorem Ext.new1 {P : Nat → Prop} {h : OH} {o : O} (inn : ∀ m, P m → m < h.length) : Ext P h (fun m => P m ∨ m = h.length) (h ++ [o]) :=
  ⟨fun m p => .inl p, fun m p => p.imp id fun e => by omega, by simp, fun m p => List.getElem?_append_left (inn m p)⟩
theorem Ext.new0 {P : Nat → Prop} {h : OH} {o : O} (inn : ∀ m, P m → m < h.length) : Ext P h P (h ++ [o]) :=
  ⟨fun m p => p, fun m p => .inl p, by simp, fun m p => List.getElem?_append_left (inn m p)⟩
theorem Md.new {C : Nat → List Nat} {M : List Nat} {h : OH} {o : O} : Md C M h (h ++ [o]) := fun m hm _ => List.getElem?_append_left hm
theorem Fr.new1 (F : Fr base kd P h s σ C) {o : O} : Fr base kd (fun m => P m ∨ m = h.length) (h ++ [o]) s σ C :=
  F.grow (.new1 F.inn) Md.new fun m p => by
    simp only [List.length_append, List.length_singleton]
    rcases p with p | p
    · have := F.inn m p; omega
    · omega
theorem Fr.new0 (F : Fr base kd P h s σ C) {o : O} : Fr base kd P (h ++ [o]) s σ C :=
  F.grow (.new0 F.inn) Md.new fun m p => by
    simp only [List.length_append, List.length_singleton]
    have := F.inn m p; omega
/-- a new object (from b on) or nothing that can be changed -/
inductive FoR (b : Nat) (h : OH) (P : Nat → Prop) : W → W → Prop
  | bare {u w : W} : bare u = true → Rp h P u w → FoR b h P u w
  | lst {n : Nat} {us ws : List W} : b ≤ n → ¬ P n → h[n]? = some (.lst ws) → Rps h P us ws → FoR b h P (.lst us) (.ref n)
  | dic {n : Nat} {tk : Bool} {kvs : List (W × W)} {ks vs : List W} : b ≤ n → ¬ P n → h[n]? = some (.dct tk kvs) → Rps h P ks (kvs.map (·.1)) → Rps h P vs (kvs.map (·.2)) → FoR b h P (.dic ks vs) (.ref n)
theorem FoR.le {b b' : Nat} (hb : b' ≤ b) {h : OH} {P : Nat → Prop} {u w : W} (f : FoR b h P u w) : FoR b' h P u w := by
  cases f with
  | bare a q => exact .bare a q
  | lst a c e q => exact .lst (Nat.le_trans hb a) c e q
  | dic a c e q r => exact .dic (Nat.le_trans hb a) c e q r
theorem RelQ.okb {b : Nat} {u w : W} (F : Fr base kd P h s σ C) (hb : bare u = true) (r : Rp h P u w) : RelQ (FoR b) base kd P h σ C M (.ok u s) (.ok w h) := RelQ.ok F (.bare hb r)
/-- a new list -/
theorem RelQ.new (F : Fr base kd P h s σ C) {us ws : List W} (q : Rps h P us ws) : RelQ (FoR h.length) base kd P h σ C M (.ok (.lst us) s) (alloc (.lst ws) h) := by
  refine ⟨.ref h.length, h ++ [.lst ws], P, rfl, .new0 F.inn, Md.new, F.new0, .lst (Nat.le_refl _) (fun p => Nat.lt_irrefl _ (F.inn _ p)) (by simp) (q.ext (.new0 F.inn))⟩
/-- what is new may be used -/
theorem RelQ.unF {b : Nat} (F : Fr base kd P h s σ C) {q : Q W} {r : R W} (hb : h.length ≤ b) (a : RelQ (FoR b) base kd P h σ C M q r) : RelQ Rp base kd P h σ C M q r := by
  cases q with
  | ok u s' =>
    obtain ⟨w, h', P', e, x, md, F', f⟩ := a
    have go : ∀ n, b ≤ n → n < h'.length → Rp h' (fun m => P' m ∨ m = n) u w → RelQ Rp base kd P h σ C M (.ok u s') r := fun n hn hl q => by
      refine ⟨w, h', fun m => P' m ∨ m = n, e, ⟨fun m p => .inl (x.sub m p), fun m p => ?_, x.len, x.keep⟩, md, ?_, q⟩
      · rcases p with p | p
        · exact x.new m p
        · exact .inr (by omega)
      · refine ⟨F'.len, fun i u hu => ?_, F'.dis, fun i m hm p => ?_, fun m p => ?_, F'.cin, F'.own, F'.bout⟩
        · obtain ⟨w, e1, q⟩ := F'.sl i u hu
          refine ⟨w, e1, ?_⟩
          have keep : ∀ m, P' m → (P' m ∨ m = n) ∧ h'[m]? = h'[m]? := fun m p => ⟨.inl p, rfl⟩
          generalize kOf kd i = k at q ⊢
          cases k with
          | S => exact Rp.mv keep q
          | B => exact Tp.mvd q keep fun _ _ _ => rfl
          | O => exact Own.mv q keep fun _ _ => rfl
          | I => exact Own.mv q keep fun _ _ => rfl
          | O2 => exact Own2.mv q keep fun _ _ => rfl
        · rcases p with p | p
          · exact F'.out i m hm p
          · have := F.cin i m hm; omega
        · rcases p with p | p
          · exact F'.inn m p
          · omega
    cases f with
    | bare _ q => exact ⟨w, h', P', e, x, md, F', q⟩
    | lst h1 h2 h3 h4 => exact go _ h1 (List.getElem?_eq_some_iff.mp h3).1 (.lst (.inr rfl) h3 (h4.mv fun m p => ⟨.inl p, rfl⟩))
    | dic h1 h2 h3 h4 h5 => exact go _ h1 (List.getElem?_eq_some_iff.mp h3).1 (.dic (.inr rfl) h3 (h4.mv fun m p => ⟨.inl p, rfl⟩) (h5.mv fun m p => ⟨.inl p, rfl⟩))
  | exc c fs s' => exact a
  | no => trivial

/-! ### data -/
mutual
theorem td_rp {P : Nat → Prop} {h : OH} : ∀ {n : Nat} {u w : W} {d : PyData}, Tp h P u w → td n u = some d → toD h n w = some d
  | 0, u, w, d, t, e => by
    cases u with
    | lst us => simp [td] at e
    | dic ks vs => simp [td] at e
    | _ => cases t.bare_ rfl <;> simp_all [td, toD]
  | n + 1, u, w, d, t, e => by
    cases u with
    | lst us =>
      obtain ⟨m, ws, rfl, e1, q⟩ := t.lst_
      simp only [td, Option.map_eq_some_iff] at e
      obtain ⟨ds, e2, rfl⟩ := e
      simp only [toD, items, e1, Option.map_eq_some_iff]
      exact ⟨ds, tds_rp q e2, rfl⟩
    | tup us =>
      obtain ⟨ws, rfl, q⟩ := t.tup_
      simp only [td, Option.map_eq_some_iff] at e
      obtain ⟨ds, e2, rfl⟩ := e
      simp only [toD, Option.map_eq_some_iff]
      exact ⟨ds, tds_rp q e2, rfl⟩
    | dic ks vs => simp [td] at e
    | _ => cases t.bare_ rfl <;> simp_all [td, toD]
theorem tds_rp {P : Nat → Prop} {h : OH} : ∀ {n : Nat} {us ws : List W} {ds : List PyData}, Rps h P us ws → toDl (td n) us = some ds → toDl (toD h n) ws = some ds
  | _, _, _, _, .nil, e => e
  | n, _, _, ds, .cons (u := u) a b, e => by
    simp only [toDl] at e ⊢
    split at e
    · rename_i d' ds' e1 e2
      rw [td_rp (.s a) e1, tds_rp b e2]
      exact e
    · cases e
end
variable {x y x' y' : W}
theorem eqV_ok (tx : Tp h P x x') (ty : Tp h P y y') {b : Bool} (e : eqV x y = some b) : eqW h x' y' = some b := by
  unfold eqV at e
  split at e
  · rw [tx.int_, ty.int_]; exact e
  · rw [tx.str_, ty.str_]; exact e
  · rw [tx.bl_, ty.bl_]; exact e
  · rw [tx.non_, ty.non_]; exact e
  · rename_i n1 n2 n3 n4
    split at e
    · rename_i d1 d2 e1 e2
      have q1 := td_rp tx e1
      have q2 := td_rp ty e2
      unfold eqW
      split
      · exact (n1 _ _ (by cases tx with | s q => cases q; rfl) (by cases ty with | s q => cases q; rfl)).elim
      · exact (n2 _ _ (by cases tx with | s q => cases q; rfl) (by cases ty with | s q => cases q; rfl)).elim
      · exact (n3 _ _ (by cases tx with | s q => cases q; rfl) (by cases ty with | s q => cases q; rfl)).elim
      · exact (n4 (by cases tx with | s q => cases q; rfl) (by cases ty with | s q => cases q; rfl)).elim
      · rw [q1, q2]; exact e
    · cases e
theorem flat_rp {u w : W} (r : Rp h P u w) (f : flat u = true) : w = u := by
  cases r <;> first | rfl | cases f
theorem flats_rp {us ws : List W} (r : Rps h P us ws) (f : us.all flat = true) : ws = us := by
  induction us generalizing ws with
  | nil => cases r; rfl
  | cons u us ih =>
    cases r with
    | cons a b =>
      simp only [List.all_cons, Bool.and_eq_true] at f
      rw [flat_rp a f.1, ih b f.2]
theorem flat_bare {u : W} (f : flat u = true) : bare u = true := by cases u <;> first | rfl | cases f
theorem anyD_ok {us ws : List W} (tx : Tp h P x x') (q : Rps h P us ws) {b : Bool} (e : anyD x us = some b) : (match toD h deep x', toDl (toD h 59) ws with
    | some d, some ds => some (ds.any fun z => PyData.eqv z d)
    | _, _ => none) = some b := by
  unfold anyD at e
  split at e
  · rename_i d ds e1 e2
    rw [td_rp tx e1, tds_rp q e2]
    exact e
  · cases e
theorem rp_flat_iff {u w : W} (r : Rp h P u w) : flat u = flat w := by cases r <;> rfl
theorem rps_flat_iff {us ws : List W} (r : Rps h P us ws) : us.all flat = ws.all flat := by
  induction us generalizing ws with
  | nil => cases r; rfl
  | cons u us ih =>
    cases r with
    | cons a b => simp only [List.all_cons, rp_flat_iff a, ih b]
theorem tp_flat_iff {u w : W} (r : Tp h P u w) : flat u = flat w := by
  cases r with
  | s q => exact rp_flat_iff q
  | _ => rfl
theorem inSeq_ok {us ws : List W} (tx : Tp h P x x') (q : Rps h P us ws) (sq : seqOf h y' = some ws) {b : Bool} (e : (if (flat x && us.all flat) = true then some (us.any fun z => eqF z x) else anyD x us) = some b) : inW h x' y' = some b := by
  simp only [inW, sq]
  rw [← tp_flat_iff tx, ← rps_flat_iff q]
  split at e
  · rename_i hf
    rw [if_pos hf]
    simp only [Bool.and_eq_true] at hf
    rw [flats_rp q hf.2, flat_rp (tx.bare_ (flat_bare hf.1)) hf.1]
    exact e
  · rename_i hf
    rw [if_neg hf]
    exact anyD_ok tx q e
theorem inV_ok (tx : Tp h P x x') (ty : Tp h P y y') {b : Bool} (e : inV x y = some b) : inW h x' y' = some b := by
  unfold inV at e
  split at e
  · obtain ⟨ws, rfl, q⟩ := ty.tup_
    exact inSeq_ok tx q rfl e
  · obtain ⟨n, ws, rfl, e1, q⟩ := ty.lst_
    exact inSeq_ok tx q (by simp [seqOf, items, e1]) e
  · obtain ⟨n, tk, kvs, rfl, e1, q, _⟩ := ty.dic_
    simp only [inW, seqOf, items, e1]
    exact anyD_ok tx q e
  · cases e
theorem isNon_ok (tx : Tp h P x x') : isNon x' = isNon x := by
  cases tx with
  | s q => cases q <;> rfl
  | _ => rfl
theorem lex_ok {a b a' b' : List W} (qa : Rps h P a a') (qb : Rps h P b b') {k : Bool} (e : lexW a b = some k) : lexW a' b' = some k := by
  unfold lexW at e ⊢
  split at e
  · rename_i ns ms e1 e2
    rw [qa.intsW e1, qb.intsW e2]
    exact e
  · cases e
theorem cmpV_ok {o : Cop} (tx : Tp h P x x') (ty : Tp h P y y') {b : Bool} (e : cmpV o x y = some b) : cmpW o x' y' h = .ok (.bl b) h := by
  unfold cmpV at e
  split at e
  · simp only [cmpW, eqV_ok tx ty e, bR]
  · simp only [Option.map_eq_some_iff] at e
    obtain ⟨k, e, rfl⟩ := e
    simp only [cmpW, eqV_ok tx ty e, bR, Option.map_some]
  · simp only [cmpW, inV_ok tx ty e, bR]
  · simp only [Option.map_eq_some_iff] at e
    obtain ⟨k, e, rfl⟩ := e
    simp only [cmpW, inV_ok tx ty e, bR, Option.map_some]
  · cases e
    rw [ty.non_]
    simp only [cmpW, isNon_ok tx]
  · cases e
    rw [ty.non_]
    simp only [cmpW, isNon_ok tx]
  · cases e; rw [tx.int_, ty.int_]; rfl
  · cases e; rw [tx.int_, ty.int_]; rfl
  · cases e; rw [tx.int_, ty.int_]; rfl
  · cases e; rw [tx.int_, ty.int_]; rfl
  · obtain ⟨a', rfl, qa⟩ := tx.tup_
    obtain ⟨b', rfl, qb⟩ := ty.tup_
    simp only [cmpW, lex_ok qa qb e, bR]
  · cases e
theorem lineLt {n : Nat} (h : Nat.ble n line = true) : Nat.ble n line = true := h
theorem binV_ok {o : Bop} (F : Fr base kd P h s σ C) (tx : Tp h P x x') (ty : Tp h P y y') : RelQ (FoR h.length) base kd P h σ C M (Q.of (binV o x y) s) (binW o x' y' h) := by
  generalize e : binV o x y = v
  unfold binV at e
  split at e
  · rw [tx.int_, ty.int_, ← e]; exact RelQ.okb F rfl (.int _)
  · rw [tx.int_, ty.int_, ← e]; exact RelQ.okb F rfl (.int _)
  · rw [tx.int_, ty.int_, ← e]
    simp only [binW]
    split
    · exact RelQ.okb F rfl (.int _)
    · trivial
  · rw [tx.int_, ty.int_, ← e]
    simp only [binW]
    split
    · exact RelQ.okb F rfl (.int _)
    · trivial
  · rw [tx.int_, ty.int_, ← e]
    simp only [binW]
    split
    · exact RelQ.okb F rfl (.int _)
    · trivial
  · rw [tx.int_, ty.int_, ← e]
    simp only [binW]
    split
    · exact RelQ.okb F rfl (.int _)
    · trivial
  · rw [tx.str_, ty.str_, ← e]
    simp only [binW]
    split
    · exact RelQ.okb F rfl (.str _)
    · trivial
  · obtain ⟨a', rfl, qa⟩ := tx.tup_
    obtain ⟨b', rfl, qb⟩ := ty.tup_
    rw [← e]
    simp only [binW, ← qa.len, ← qb.len]
    split
    · exact RelQ.okb F rfl (.tup (qa.app qb))
    · trivial
  · obtain ⟨n1, a', rfl, e1, qa⟩ := tx.lst_
    obtain ⟨n2, b', rfl, e2, qb⟩ := ty.lst_
    rw [← e]
    simp only [binW, lstAt, e1, e2, ← qa.len, ← qb.len]
    split
    · exact RelQ.new F (qa.app qb)
    · trivial
  · obtain ⟨a', rfl, qa⟩ := tx.tup_
    rw [ty.int_, ← e]
    have ne : ∀ a : List W, ∀ b : List W, Rps h P a b → (a ≠ [] ↔ b ≠ []) := fun a b q => by cases q <;> simp
    simp only [binW, ← qa.len, ← ne _ _ qa]
    split
    · exact RelQ.okb F rfl (.tup (qa.rep _))
    · trivial
  · obtain ⟨n1, a', rfl, e1, qa⟩ := tx.lst_
    rw [ty.int_, ← e]
    simp only [binW, lstAt, e1, ← qa.len]
    split
    · exact RelQ.new F (qa.rep _)
    · trivial
  · rw [← e]; trivial
theorem truV_ok (tx : Tp h P x x') {b : Bool} (e : truV x = some b) : truW h x' = some b := by
  cases x with
  | lst us =>
    obtain ⟨n, ws, rfl, e1, q⟩ := tx.lst_
    simp only [truV, truW, items, e1, Option.map_some] at e ⊢
    rw [← e]
    cases q <;> rfl
  | tup us =>
    obtain ⟨ws, rfl, q⟩ := tx.tup_
    simp only [truV, truW] at e ⊢
    rw [← e]
    cases q <;> rfl
  | non => rw [tx.non_]; exact e
  | bl _ => rw [tx.bl_]; exact e
  | int _ => rw [tx.int_]; exact e
  | _ => cases e
theorem vseq_ok (tx : Tp h P x x') {us : List W} (e : vseq x = some us) : ∃ ws, seqOf h x' = some ws ∧ Rps h P us ws := by
  unfold vseq at e
  split at e
  · cases e
    obtain ⟨ws, rfl, q⟩ := tx.tup_
    exact ⟨ws, rfl, q⟩
  · cases e
    obtain ⟨n, ws, rfl, e1, q⟩ := tx.lst_
    exact ⟨ws, by simp [seqOf, items, e1], q⟩
  · cases e
theorem ixV_ok (tx : Tp h P x x') (ty : Tp h P y y') {u : W} (e : ixV x y = some u) : ∃ w, ixW x' y' h = .ok w h ∧ Rp h P u w := by
  unfold ixV at e
  split at e
  · rename_i i
    split at e
    · rename_i us e1
      obtain ⟨ws, e2, q⟩ := vseq_ok tx e1
      split at e
      · rename_i j e3
        obtain ⟨w, e4, r⟩ := q.get e
        rw [q.len] at e3
        refine ⟨w, ?_, r⟩
        rw [ty.int_]
        simp only [ixW, e2, e3, e4]
      · cases e
    · cases e
  · cases e
theorem slV_ok (F : Fr base kd P h s σ C) (tx : Tp h P x x') {lo hi : Option Int} : RelQ (FoR h.length) base kd P h σ C M (Q.of (slV x lo hi) s) (slW x' lo hi h) := by
  cases x with
  | tup us =>
    obtain ⟨ws, rfl, q⟩ := tx.tup_
    exact RelQ.okb F rfl (.tup (q.cut lo hi))
  | lst us =>
    obtain ⟨n, ws, rfl, e1, q⟩ := tx.lst_
    simp only [slW, items, e1]
    exact RelQ.new F (q.cut lo hi)
  | rol us =>
    obtain ⟨ws, rfl, q⟩ := tx.rol_
    exact RelQ.new F (q.cut lo hi)
  | _ => trivial
theorem revV_ok (F : Fr base kd P h s σ C) (tx : Tp h P x x') : RelQ (FoR h.length) base kd P h σ C M (Q.of (revV x) s) (revW x' h) := by
  cases x with
  | tup us =>
    obtain ⟨ws, rfl, q⟩ := tx.tup_
    exact RelQ.okb F rfl (.tup q.rev)
  | lst us =>
    obtain ⟨n, ws, rfl, e1, q⟩ := tx.lst_
    simp only [revW, items, e1]
    exact RelQ.new F q.rev
  | _ => trivial
theorem negV_ok (F : Fr base kd P h s σ C) (tx : Tp h P x x') : RelQ (FoR h.length) base kd P h σ C M (Q.of (negV x) s) (negW x' h) := by
  cases x with
  | int i => rw [tx.int_]; exact RelQ.okb F rfl (.int _)
  | _ => trivial
theorem lrgV_ok (F : Fr base kd P h s σ C) (tx : Tp h P x x') : RelQ (FoR h.length) base kd P h σ C M (Q.of (lrgV x) s) (lrgW x' h) := by
  cases x with
  | int i =>
    rw [tx.int_]
    simp only [lrgV, lrgW, newLst]
    split
    · split
      · exact RelQ.new F (Rps.range _ _)
      · trivial
    · trivial
  | _ => trivial
theorem isiV_ok (tx : Tp h P x x') {ts : List String} {b : Bool} (e : isiO ts x = some b) : isiR ts x' h = .ok (.bl b) h := by
  unfold isiO at e
  split at e
  · rename_i T
    simp only [isiR]
    cases x with
    | lst us =>
      obtain ⟨n, ws, rfl, e1, q⟩ := tx.lst_
      simp only [isiV] at e
      simp only [isiW, e1, e, bR]
    | dic ks vs =>
      obtain ⟨n, tk, kvs, rfl, e1, q, r⟩ := tx.dic_
      simp only [isiV] at e
      simp only [isiW, e1, e, bR]
    | non => rw [tx.non_]; simp only [isiV] at e; simp only [isiW, e, bR]
    | bl _ => rw [tx.bl_]; simp only [isiV] at e; simp only [isiW, e, bR]
    | int _ => rw [tx.int_]; simp only [isiV] at e; simp only [isiW, e, bR]
    | str _ => rw [tx.str_]; simp only [isiV] at e; simp only [isiW, e, bR]
    | tup _ =>
      obtain ⟨ws, rfl, q⟩ := tx.tup_
      simp only [isiV] at e; simp only [isiW, e, bR]
    | _ => cases e
  · cases e
/-- operands -/
inductive Tps (h : OH) (P : Nat → Prop) : List W → List W → Prop
  | nil : Tps h P [] []
  | cons {u w : W} {us ws : List W} : Tp h P u w → Tps h P us ws → Tps h P (u :: us) (w :: ws)
theorem Tps.one_ {u : W} {ws : List W} (t : Tps h P [u] ws) : ∃ w, ws = [w] ∧ Tp h P u w := by
  cases t with
  | cons a b => cases b; exact ⟨_, rfl, a⟩
theorem Tps.two_ {u v : W} {ws : List W} (t : Tps h P [u, v] ws) : ∃ w z, ws = [w, z] ∧ Tp h P u w ∧ Tp h P v z := by
  cases t with
  | cons a b => obtain ⟨z, rfl, q⟩ := b.one_; exact ⟨_, _, rfl, a, q⟩
theorem biV_ok {b : Bi} {us ws : List W} (F : Fr base kd P h s σ C) (t : Tps h P us ws) : RelQ (FoR h.length) base kd P h σ C M (Q.of (biV' b us) s) (biW b ws h) := by
  generalize e : biV' b us = v
  unfold biV' at e
  split at e
  · obtain ⟨w, rfl, tx⟩ := t.one_
    subst e
    rename_i x
    cases x with
    | lst us =>
      obtain ⟨n, ws, rfl, e1, q⟩ := tx.lst_
      simp only [lenV, biW, seqOf, items, e1, q.len]
      exact RelQ.okb F rfl (.int _)
    | tup us =>
      obtain ⟨ws, rfl, q⟩ := tx.tup_
      simp only [lenV, biW, seqOf, q.len]
      exact RelQ.okb F rfl (.int _)
    | rol us =>
      obtain ⟨ws, rfl, q⟩ := tx.rol_
      simp only [lenV, biW, seqOf, q.len]
      exact RelQ.okb F rfl (.int _)
    | str z =>
      rw [tx.str_]
      simp only [lenV, biW, seqOf]
      split
      · exact RelQ.okb F rfl (.int _)
      · trivial
    | _ => trivial
  · obtain ⟨w, rfl, tx⟩ := t.one_
    subst e; rw [tx.int_]; exact RelQ.okb F rfl (.int _)
  · obtain ⟨w, rfl, tx⟩ := t.one_
    subst e; rw [tx.bl_]; exact RelQ.okb F rfl (.int _)
  · obtain ⟨w, rfl, tx⟩ := t.one_
    subst e; rw [tx.int_]; exact RelQ.okb F rfl (.int _)
  · obtain ⟨w, z, rfl, tx, ty⟩ := t.two_
    subst e; rw [tx.int_, ty.int_]; exact RelQ.okb F rfl (.int _)
  · obtain ⟨w, z, rfl, tx, ty⟩ := t.two_
    subst e; rw [tx.int_, ty.int_]; exact RelQ.okb F rfl (.int _)
  · obtain ⟨w, rfl, tx⟩ := t.one_
    obtain ⟨n, ws, rfl, e1, q⟩ := tx.lst_
    subst e
    refine RelQ.of F fun u e => ?_
    unfold maxV at e
    split at e
    · rename_i i r e2
      cases e
      exact ⟨_, by simp only [biW, items, e1, q.intsW e2], .bare rfl (.int _)⟩
    · cases e
  · obtain ⟨w, rfl, tx⟩ := t.one_
    obtain ⟨n, ws, rfl, e1, q⟩ := tx.lst_
    subst e
    refine RelQ.of F fun u e => ?_
    unfold minV at e
    split at e
    · rename_i i r e2
      cases e
      exact ⟨_, by simp only [biW, items, e1, q.intsW e2], .bare rfl (.int _)⟩
    · cases e
  · obtain ⟨w, rfl, tx⟩ := t.one_
    obtain ⟨n, ws, rfl, e1, q⟩ := tx.lst_
    subst e
    refine RelQ.of F fun u e => ?_
    unfold sumV at e
    split at e
    · rename_i l e2
      cases e
      exact ⟨_, by simp only [biW, items, e1, q.intsW e2], .bare rfl (.int _)⟩
    · cases e
  · obtain ⟨w, rfl, tx⟩ := t.one_
    obtain ⟨n, ws, rfl, e1, q⟩ := tx.lst_
    subst e
    unfold sortV
    split
    · rename_i l e2
      simp only [biW, items, e1, q.intsW e2]
      split
      · exact RelQ.new F (Rps.ints _)
      · trivial
    · trivial
  · obtain ⟨w, rfl, tx⟩ := t.one_
    obtain ⟨ws, rfl, q⟩ := tx.tup_
    subst e
    exact RelQ.okb F rfl (.tup q)
  · obtain ⟨w, rfl, tx⟩ := t.one_
    obtain ⟨n, ws, rfl, e1, q⟩ := tx.lst_
    subst e
    simp only [biW, items, e1]
    exact RelQ.okb F rfl (.tup q)
  · obtain ⟨w, rfl, tx⟩ := t.one_
    obtain ⟨ws, rfl, q⟩ := tx.tup_
    subst e
    exact RelQ.new F q
  · obtain ⟨w, rfl, tx⟩ := t.one_
    obtain ⟨n, ws, rfl, e1, q⟩ := tx.lst_
    subst e
    simp only [biW, seqOf, items, e1]
    exact RelQ.new F q
  · obtain ⟨w, rfl, tx⟩ := t.one_
    subst e
    refine RelQ.of F fun u e => ?_
    unfold reprV at e
    split at e
    · rename_i d e2
      split at e
      · rename_i hd
        cases e
        exact ⟨_, by simp only [biW, td_rp tx e2, hd, if_true], .bare rfl (.str _)⟩
      · cases e
    · cases e
  · obtain ⟨w, rfl, tx⟩ := t.one_
    obtain ⟨n, ws, rfl, e1, q⟩ := tx.lst_
    subst e
    refine RelQ.of F fun u e => ?_
    simp only [allV, Option.map_eq_some_iff] at e
    obtain ⟨l, e2, rfl⟩ := e
    exact ⟨_, by simp only [biW, items, e1, q.boolsW e2], .bare rfl (.bl _)⟩
  · obtain ⟨w, rfl, tx⟩ := t.one_
    obtain ⟨n, ws, rfl, e1, q⟩ := tx.lst_
    subst e
    refine RelQ.of F fun u e => ?_
    simp only [anyV, Option.map_eq_some_iff] at e
    obtain ⟨l, e2, rfl⟩ := e
    exact ⟨_, by simp only [biW, items, e1, q.boolsW e2], .bare rfl (.bl _)⟩
  · subst e; trivial
end
end Vm
end

section
set_option Elab.async false
set_option linter.all false
set_option maxRecDepth 100000
set_option maxHeartbeats 4000000
set_option autoImplicit false
/-! The look at a def: who holds what; and what the slots do. -/
namespace Vm
open PySem Wm

/-! ### slots -/
theorem getS_lt : ∀ {s : Sl} {i : Nat} {w : W}, getS s i = some w → i < s.length
  | [], i, w, e => by simp [getS] at e
  | _ :: _, 0, _, _ => by simp
  | _ :: s, i + 1, w, e => by
    have := getS_lt (s := s) (i := i) (w := w) (by simpa [getS] using e)
    simp only [List.length_cons]; omega
theorem setS_len : ∀ (s : Sl) (i : Nat) (w : Option W), (setS s i w).length = s.length
  | [], _, _ => rfl
  | _ :: _, 0, _ => rfl
  | _ :: s, i + 1, w => by simp [setS, setS_len s i w]
theorem getS_setS_ne : ∀ (s : Sl) (i j : Nat) (w : Option W), i ≠ j → getS (setS s i w) j = getS s j
  | [], _, _, _, _ => rfl
  | _ :: _, 0, 0, _, h => absurd rfl h
  | _ :: _, 0, j + 1, _, _ => rfl
  | _ :: _, i + 1, 0, _, _ => rfl
  | _ :: s, i + 1, j + 1, w, h => by simpa [setS, getS] using getS_setS_ne s i j w (by omega)
theorem getS_setS_eq : ∀ (s : Sl) (i : Nat) (w : Option W), i < s.length → getS (setS s i w) i = w
  | [], i, _, h => by simp at h
  | _ :: _, 0, _, _ => rfl
  | _ :: s, i + 1, w, h => by simpa [setS, getS] using getS_setS_eq s i w (by simpa using h)
theorem getS_setS_some {s : Sl} {i j : Nat} {w : Option W} {u : W} (e : getS (setS s i w) j = some u) : (j = i ∧ w = some u) ∨ (j ≠ i ∧ getS s j = some u) := by
  by_cases h : j = i
  · subst h
    have := getS_lt e
    rw [setS_len] at this
    rw [getS_setS_eq s j w this] at e
    exact .inl ⟨rfl, e⟩
  · rw [getS_setS_ne s i j w (Ne.symm h)] at e
    exact .inr ⟨h, e⟩
theorem wipeS_len : ∀ (is : List Nat) (s : Sl), (wipeS s is).length = s.length
  | [], _ => rfl
  | i :: is, s => by simp only [wipeS, setS_len, wipeS_len is s]
theorem getS_wipeS : ∀ {is : List Nat} {s : Sl} {j : Nat} {u : W}, getS (wipeS s is) j = some u → j ∉ is ∧ getS s j = some u
  | [], _, _, _, e => ⟨by simp, e⟩
  | i :: is, s, j, u, e => by
    rcases getS_setS_some (s := wipeS s is) (i := i) (j := j) (w := none) (u := u) e with ⟨_, h⟩ | ⟨hne, e⟩
    · cases h
    · obtain ⟨h1, h2⟩ := getS_wipeS e
      exact ⟨by simp [hne, h1], h2⟩
theorem getS_wipe_ne : ∀ {is : List Nat} {s : Sl} {j : Nat}, j ∉ is → getS (wipeS s is) j = getS s j
  | [], _, _, _ => rfl
  | i :: is, s, j, h => by
    simp only [List.mem_cons, not_or] at h
    simp only [wipeS]
    rw [getS_setS_ne _ _ _ _ (Ne.symm h.1), getS_wipe_ne h.2]
theorem restS_len : ∀ (is : List Nat) (s0 s : Sl), (restS s0 is s).length = s.length
  | [], _, _ => rfl
  | i :: is, s0, s => by simp only [restS, setS_len, restS_len is s0 s]
theorem getS_restS : ∀ {is : List Nat} {s0 s : Sl} {j : Nat} {u : W}, getS (restS s0 is s) j = some u → (j ∈ is ∧ getS s0 j = some u) ∨ (j ∉ is ∧ getS s j = some u)
  | [], _, _, _, _, e => .inr ⟨by simp, e⟩
  | i :: is, s0, s, j, u, e => by
    rcases getS_setS_some (s := restS s0 is s) (i := i) (j := j) (w := getS s0 i) (u := u) e with ⟨h1, h⟩ | ⟨hne, e⟩
    · subst h1
      exact .inl ⟨by simp, h⟩
    · rcases getS_restS e with ⟨h1, h2⟩ | ⟨h1, h2⟩
      · exact .inl ⟨by simp [h1], h2⟩
      · exact .inr ⟨by simp [hne, h1], h2⟩
def tsl : T → List Nat
  | .nm i => [i]
  | .nil => []
  | .cons a r => tsl a ++ tsl r
theorem asgT_len : ∀ (t : T) (w : W) (s s' : Sl), asgT t w s = some s' → s'.length = s.length
  | .nm i, w, s, s', e => by
    simp only [asgT, Option.some.injEq] at e
    rw [← e, setS_len]
  | .nil, w, s, s', e => by
    simp only [asgT] at e
    split at e
    · simp only [Option.some.injEq] at e; rw [e]
    · cases e
  | .cons a r, w, s, s', e => by
    simp only [asgT] at e
    split at e
    · split at e
      · rename_i s1 e1
        rw [asgT_len r _ _ _ e, asgT_len a _ _ _ e1]
      · cases e
    · cases e
theorem asgT_ne : ∀ (t : T) (w : W) (s s' : Sl), asgT t w s = some s' → ∀ j, j ∉ tsl t → getS s' j = getS s j
  | .nm i, w, s, s', e, j, hj => by
    simp only [asgT, Option.some.injEq] at e
    rw [← e]
    exact getS_setS_ne _ _ _ _ (by simp only [tsl, List.mem_singleton] at hj; exact Ne.symm hj)
  | .nil, w, s, s', e, j, _ => by
    simp only [asgT] at e
    split at e
    · simp only [Option.some.injEq] at e; rw [e]
    · cases e
  | .cons a r, w, s, s', e, j, hj => by
    simp only [tsl, List.mem_append, not_or] at hj
    simp only [asgT] at e
    split at e
    · split at e
      · rename_i s1 e1
        rw [asgT_ne r _ _ _ e j hj.2, asgT_ne a _ _ _ e1 j hj.1]
      · cases e
    · cases e

/-! ### the look -/
/-- the slots handed in to be changed -/
def ioSl : List Bool → E → List Nat
  | true :: io, .cons (.v i) r => i :: ioSl io r
  | _ :: io, .cons _ r => ioSl io r
  | _, _ => []
/-- the owned slots whose objects an expression may change -/
def muts (io : Nat → List Bool) : E → List Nat
  | .bin _ a b => muts io a ++ muts io b
  | .neg a => muts io a
  | .cmp _ a b => muts io a ++ muts io b
  | .chain _ _ a b c => muts io a ++ (muts io b ++ muts io c)
  | .and a b => muts io a ++ muts io b
  | .or a b => muts io a ++ muts io b
  | .not a => muts io a
  | .ite t a b => muts io t ++ (muts io a ++ muts io b)
  | .call f as => muts io as ++ ioSl (io f) as
  | .bi _ as => muts io as
  | .isi a _ => muts io a
  | .mt _ (.v k) as => muts io as ++ [k]
  | .tup as => muts io as
  | .lst as => muts io as
  | .ix a b => muts io a ++ muts io b
  | .sl a lo hi => muts io a ++ (muts io lo ++ muts io hi)
  | .rev a => muts io a
  | .lrg a => muts io a
  | .lc e _ _ it cond => muts io it ++ (muts io cond ++ muts io e)
  | .cons a r => muts io a ++ muts io r
  | .seq a => muts io a
  | .rng1 a => muts io a
  | .rng2 a b => muts io a ++ muts io b
  | .enum a => muts io a
  | .zip a b => muts io a ++ muts io b
  | _ => []
/-- a slot as an operand: what it holds is not changed by what is reckoned later -/
def opV (kd : List Kd) (later : List Nat) : E → Bool
  | .v i => decide (kOf kd i ≠ .O2) && !later.contains i
  | _ => false
section
variable (kt : List Ki) (kd : List Kd)
def ksOf (f : Nat) : List Kd := match kt[f]? with
  | some k => k.ks
  | none => []
theorem ioOf_ks (f : Nat) : ioOf kt f = (ksOf kt f).map Kd.io := by
  unfold ioOf ksOf
  cases kt[f]? <;> rfl
mutual
def okE : E → Bool
  | .v i => decide (kOf kd i = .S)
  | .c w => W.pure w
  | .bin _ a b => (opV kd (muts (ioOf kt) b) a || okE a) && (opV kd [] b || okE b)
  | .neg a => opV kd [] a || okE a
  | .cmp _ a b => (opV kd (muts (ioOf kt) b) a || okE a) && (opV kd [] b || okE b)
  | .chain _ _ a b c => okE a && okE b && okE c
  | .and a b => okE a && okE b
  | .or a b => okE a && okE b
  | .not a => opV kd [] a || okE a
  | .ite t a b => okT t && okE a && okE b
  | .call f as => okA (ioSl (ioOf kt f) as) (ksOf kt f) as
  | .bi _ as => okOs as
  | .isi a _ => opV kd [] a || okE a
  | .mt m (.v k) as => (decide (kOf kd k = .O) || decide (kOf kd k = .I)) && (if m = .extend then okOs as else okEs as)
  | .tup as => okEs as
  | .lst as => okEs as
  | .ix (.ix (.v i) c) b => if kOf kd i = .O2 then okE c && okE b && !(muts (ioOf kt) c).contains i && !(muts (ioOf kt) b).contains i else (opV kd (muts (ioOf kt) c) (.v i) || okE (.v i)) && (opV kd [] c || okE c) && (opV kd [] b || okE b)
  | .ix a b => (opV kd (muts (ioOf kt) b) a || okE a) && (opV kd [] b || okE b)
  | .sl a lo hi => (opV kd (muts (ioOf kt) lo ++ muts (ioOf kt) hi) a || okE a) && okP lo && okP hi
  | .rev a => opV kd [] a || okE a
  | .lrg a => opV kd [] a || okE a
  | .lc e own t it cond => okI (muts (ioOf kt) cond ++ muts (ioOf kt) e) it && own.all (fun i => decide (kOf kd i = .S)) && (tsl t).all (fun i => own.contains i) && okC cond && okE e
  | _ => false
def okT : E → Bool
  | .and a b => okT a && okT b
  | .or a b => okT a && okT b
  | .not a => okT a
  | .cmp _ a b => (opV kd (muts (ioOf kt) b) a || okE a) && (opV kd [] b || okE b)
  | .chain _ _ a b c => okE a && okE b && okE c
  | .v i => opV kd [] (.v i)
  | .c w => W.pure w
  | .call f as => okA (ioSl (ioOf kt f) as) (ksOf kt f) as
  | .bi _ as => okOs as
  | .isi a _ => opV kd [] a || okE a
  | .ix a b => (opV kd (muts (ioOf kt) b) a || okE a) && (opV kd [] b || okE b)
  | _ => false
def okC : E → Bool
  | .nil => true
  | .cons a .nil => okT a
  | _ => false
def okEs : E → Bool
  | .nil => true
  | .cons a r => okE a && okEs r
  | _ => false
def okOs : E → Bool
  | .nil => true
  | .cons a r => (opV kd (muts (ioOf kt) r) a || okE a) && okOs r
  | _ => false
/-- arguments; all: the slots handed in to be changed -/
def okA (all : List Nat) : List Kd → E → Bool
  | .S :: pk, .cons a r => okE a && okA all pk r
  | .B :: pk, .cons a r => (opV kd (muts (ioOf kt) r ++ all) a || okE a) && okA all pk r
  | .I :: pk, .cons (.v i) r => (decide (kOf kd i = .O) || decide (kOf kd i = .I)) && !(ioSl (pk.map Kd.io) r).contains i && okA all pk r
  | _, .nil => true
  | _, _ => false
def okP : E → Bool
  | .nil => true
  | .cons a .nil => okE a
  | _ => false
def okI (later : List Nat) : E → Bool
  | .seq a => opV kd later a || okE a
  | .rng1 a => opV kd [] a || okE a
  | .rng2 a b => okE a && okE b
  | .enum a => opV kd later a || okE a
  | .zip a b => (opV kd (muts (ioOf kt) b ++ later) a || okE a) && (opV kd later b || okE b)
  | _ => false
end
/-- it makes a new list, or something that cannot be changed -/
def freshE : E → Bool
  | .lst _ => true
  | .lc .. => true
  | .bin .. => true
  | .sl .. => true
  | .rev _ => true
  | .lrg _ => true
  | .neg _ => true
  | .cmp .. => true
  | .isi .. => true
  | .not _ => true
  | .tup _ => true
  | .bi .. => true
  | .c w => bare w
  | .call f _ => match kt[f]? with
    | some k => k.fr
    | none => false
  | .ite _ a b => freshE a && freshE b
  | _ => false
end
/-! ### operands -/
section
variable {base : Nat} {kd : List Kd} {P P' : Nat → Prop} {h h' : OH} {s s' σ : Sl} {C : Nat → List Nat} {M L L' : List Nat}
/-- an operand: its top is not changed by what is reckoned later -/
def ToR (C : Nat → List Nat) (L : List Nat) (h : OH) (P : Nat → Prop) (u w : W) : Prop := Tp h P u w ∧ ∀ n, w = .ref n → P n ∨ (n < h.length ∧ ∀ i ∈ L, n ∉ C i)
theorem Rp.top {u : W} {n : Nat} (q : Rp h P u (.ref n)) : P n := by cases q <;> assumption
theorem Rp.to {u w : W} (q : Rp h P u w) : ToR C L h P u w := ⟨.s q, fun n e => by subst e; exact .inl q.top⟩
theorem ToR.ext {u w : W} (t : ToR C L h P u w) (e : Ext P h P' h') (md : Md C L' h h') (sub : ∀ i ∈ L', i ∈ L) : Tp h' P' u w := by
  refine t.1.mvd (fun m p => ⟨e.sub m p, e.keep m p⟩) fun n hw hp => ?_
  rcases t.2 n hw with q | ⟨q1, q2⟩
  · exact absurd q hp
  · exact md n q1 fun i hi => q2 i (sub i hi)
theorem ToR.ext2 {u w : W} {L'' : List Nat} (t : ToR C L h P u w) (e : Ext P h P' h') (md : Md C L' h h') (sub : ∀ i ∈ L', i ∈ L) (sub2 : ∀ i ∈ L'', i ∈ L) : ToR C L'' h' P' u w := by
  refine ⟨t.ext e md sub, fun n hw => ?_⟩
  rcases t.2 n hw with q | ⟨q1, q2⟩
  · exact .inl (e.sub n q)
  · exact .inr ⟨Nat.lt_of_lt_of_le q1 e.len, fun i hi => q2 i (sub2 i hi)⟩
/-- a slot read as an operand -/
theorem slot_to (F : Fr base kd P h s σ C) {i : Nat} {u : W} (ho : opV kd L (.v i) = true) (e : getS s i = some u) : ∃ w, getS σ i = some w ∧ ToR C L h P u w := by
  simp only [opV, Bool.and_eq_true, decide_eq_true_eq, Bool.not_eq_true', List.contains_eq_mem, decide_eq_false_iff_not] at ho
  obtain ⟨w, e1, q⟩ := F.sl i u e
  refine ⟨w, e1, ?_⟩
  have own : ∀ {c : List Nat}, c = C i → Own h P u w c → ToR C L h P u w := fun hc o => by
    refine ⟨o.tp, fun n hw => .inr ?_⟩
    subst hw
    have hn : n ∈ C i := by rw [← hc, o.ref]; simp
    exact ⟨F.cin i n hn, fun j hj hnj => ho.2 (F.dis i j n hn hnj ▸ hj)⟩
  generalize hk : kOf kd i = k at q ho
  cases k with
  | S => exact Rp.to q
  | B => exact ⟨q, fun n hw => .inr ⟨(F.bout i n hk (hw ▸ e1)).1, fun j _ => (F.bout i n hk (hw ▸ e1)).2 j⟩⟩
  | O => exact own rfl q
  | I => exact own rfl q
  | O2 => exact absurd rfl ho.1
theorem slot_rp (F : Fr base kd P h s σ C) {i : Nat} {u : W} (ho : kOf kd i = .S) (e : getS s i = some u) : ∃ w, getS σ i = some w ∧ Rp h P u w := by
  obtain ⟨w, e1, q⟩ := F.sl i u e
  rw [ho] at q
  exact ⟨w, e1, q⟩
/-- a slot that owns its object, changed -/
theorem slot_own (F : Fr base kd P h s σ C) {i : Nat} {u : W} (ho : kOf kd i = .O ∨ kOf kd i = .I) (e : getS s i = some u) : ∃ w, getS σ i = some w ∧ Own h P u w (C i) := by
  obtain ⟨w, e1, q⟩ := F.sl i u e
  rcases ho with ho | ho <;> rw [ho] at q <;> exact ⟨w, e1, q⟩
theorem h_set (h : OH) (n : Nat) (o : O) (m : Nat) (e : m ≠ n) : (h.set n o)[m]? = h[m]? := List.getElem?_set_ne (Ne.symm e)
/-- an owned list takes other items -/
theorem Fr.put (F : Fr base kd P h s σ C) {k n : Nat} {us ws us' ws' : List W} (ho : kOf kd k = .O ∨ kOf kd k = .I) (e : getS s k = some (.lst us)) (eσ : getS σ k = some (.ref n)) (en : h[n]? = some (.lst ws)) (hc : C k = [n]) (q : Rps h P us' ws') :
    Ext P h P (h.set n (.lst ws')) ∧ Md C [k] h (h.set n (.lst ws')) ∧ Fr base kd P (h.set n (.lst ws')) (setS s k (some (.lst us'))) σ C := by
  have hn : n ∈ C k := by rw [hc]; simp
  have x : Ext P h P (h.set n (.lst ws')) := ⟨fun _ p => p, fun _ p => .inl p, by simp, fun m p => h_set h n _ m fun z => F.out k n hn (z ▸ p)⟩
  have md : Md C [k] h (h.set n (.lst ws')) := fun m hm hx => h_set h n _ m fun z => hx k (by simp) (z ▸ hn)
  refine ⟨x, md, F.step x md (fun m p => by simpa using F.inn m p) (setS_len _ _ _) fun i u hu => ?_⟩
  rcases getS_setS_some hu with ⟨rfl, e1⟩ | ⟨h1, h2⟩
  · cases e1
    refine .inr ⟨.ref n, eσ, ?_⟩
    have o : Own (h.set n (.lst ws')) P (.lst us') (.ref n) (C i) := by
      rw [hc]
      exact .lst (by rw [List.getElem?_set_self (F.cin i n hn)]) (q.ext x)
    rcases ho with z | z <;> rw [z] <;> exact o
  · exact .inl ⟨by simpa using h1, h2⟩
end
end Vm
end

section
set_option Elab.async false
set_option linter.all false
set_option maxRecDepth 100000
set_option maxHeartbeats 4000000
set_option autoImplicit false
/-! Runs over values are runs over a heap: calls, loops, places. -/
namespace Vm
open PySem Wm

def frOf (kt : List Ki) (f : Nat) : Bool := match kt[f]? with
  | some k => k.fr
  | none => false
/-- what a call leaves -/
structure CallR (kd : List Kd) (h : OH) (P : Nat → Prop) (ws : List W) (C : Nat → List Nat) (h' : OH) (P' : Nat → Prop) (o : Sl) : Prop where
  ext : Ext P h P' h'
  md : ∀ m, m < h.length → (∀ i, m ∉ C i) → h'[m]? = h[m]?
  inn : ∀ m, P' m → m < h'.length
  out : ∀ i m, m ∈ C i → ¬ P' m
  outs : ∀ i u, kOf kd i = .I → getS o i = some u → ∃ w, ws[i]? = some w ∧ Own h' P' u w (C i)
/-- what is handed back -/
def RetR (fr : Bool) (b : Nat) (h : OH) (P : Nat → Prop) (u w : W) : Prop := if fr = true then FoR b h P u w else Rp h P u w
def CallSim (kt : List Ki) (GV : Nat → List W → Q W) (G : Nat → List W → OH → R W) : Prop :=
  ∀ (f : Nat) (us ws : List W) (h : OH) (P : Nat → Prop) (C : Nat → List Nat), Fr h.length (ksOf kt f) P h (us.map some) (ws.map some) C → (∀ i n, n ∈ C i → kOf (ksOf kt f) i = .I) →
    match GV f us with
    | .ok u o => ∃ w h' P', G f ws h = .ok w h' ∧ CallR (ksOf kt f) h P ws C h' P' o ∧ RetR (frOf kt f) h.length h' P' u w
    | .exc c fs o => ∃ fs' h' P', G f ws h = .exc c fs' h' ∧ CallR (ksOf kt f) h P ws C h' P' o ∧ RpF h' P' fs fs'
    | .no => True
/-- arguments -/
inductive AR (h : OH) (P : Nat → Prop) (C : Nat → List Nat) (σ : Sl) (all : List Nat) : List Kd → E → List W → List W → Prop
  | nil {pk : List Kd} : AR h P C σ all pk .nil [] []
  | S {pk : List Kd} {a r : E} {u w : W} {us ws : List W} : Rp h P u w → AR h P C σ all pk r us ws → AR h P C σ all (.S :: pk) (.cons a r) (u :: us) (w :: ws)
  | B {pk : List Kd} {a r : E} {u w : W} {us ws : List W} : ToR C all h P u w → AR h P C σ all pk r us ws → AR h P C σ all (.B :: pk) (.cons a r) (u :: us) (w :: ws)
  | I {pk : List Kd} {i : Nat} {r : E} {u w : W} {us ws : List W} : getS σ i = some w → Own h P u w (C i) → i ∉ ioSl (pk.map Kd.io) r → AR h P C σ all pk r us ws → AR h P C σ all (.I :: pk) (.cons (.v i) r) (u :: us) (w :: ws)
/-- the objects of the callee's slots -/
def cellsA (C : Nat → List Nat) : List Kd → E → Nat → List Nat
  | .I :: _, .cons (.v i) _, 0 => C i
  | _ :: pk, .cons _ r, j + 1 => cellsA C pk r j
  | _, _, _ => []
section
variable {base : Nat} {kd : List Kd} {P : Nat → Prop} {h : OH} {s σ : Sl} {C : Nat → List Nat} {all : List Nat} {pk : List Kd} {as : E} {us ws : List W}
theorem AR.len (a : AR h P C σ all pk as us ws) : us.length = ws.length := by
  induction a with
  | nil => rfl
  | S _ _ ih => exact congrArg Nat.succ ih
  | B _ _ ih => exact congrArg Nat.succ ih
  | I _ _ _ _ ih => exact congrArg Nat.succ ih
theorem AR.ext {P' : Nat → Prop} {h' : OH} {L : List Nat} (a : AR h P C σ all pk as us ws) (e : Ext P h P' h') (kp : ∀ m, m < h.length → h'[m]? = h[m]?) (F : Fr base kd P h s σ C) : AR h' P' C σ all pk as us ws := by
  induction a with
  | nil => exact .nil
  | S q _ ih => exact .S (q.ext e) ih
  | B q _ ih => exact .B (q.ext2 e (L' := []) (fun m hm _ => kp m hm) (by simp) (fun i hi => hi)) ih
  | I e1 o ni _ ih => exact .I e1 (o.mv (fun m p => ⟨e.sub m p, e.keep m p⟩) fun n hn => kp n (F.cin _ n hn)) ni ih
theorem kOf_cons (k : Kd) (pk : List Kd) (j : Nat) : kOf (k :: pk) (j + 1) = kOf pk j := rfl
theorem AR.get (a : AR h P C σ all pk as us ws) : ∀ (j : Nat) (u : W), us[j]? = some u → ∃ w, ws[j]? = some w ∧ SlotR h P (kOf pk j) u w (cellsA C pk as j) ∧ (kOf pk j = .B → ∀ n, w = .ref n → P n ∨ (n < h.length ∧ ∀ i ∈ all, n ∉ C i)) := by
  induction a with
  | nil => intro j u e; simp at e
  | S q a ih =>
    intro j u e
    cases j with
    | zero => simp at e; subst e; exact ⟨_, rfl, q, nofun⟩
    | succ j =>
      obtain ⟨w, h1, h2⟩ := ih j u (by simpa using e)
      refine ⟨w, by simpa using h1, ?_⟩
      simpa [kOf_cons, cellsA] using h2
  | B q a ih =>
    intro j u e
    cases j with
    | zero => simp at e; subst e; exact ⟨_, rfl, q.1, fun _ => q.2⟩
    | succ j =>
      obtain ⟨w, h1, h2⟩ := ih j u (by simpa using e)
      refine ⟨w, by simpa using h1, ?_⟩
      simpa [kOf_cons, cellsA] using h2
  | I e1 o ni a ih =>
    intro j u e
    cases j with
    | zero => simp at e; subst e; exact ⟨_, rfl, o, nofun⟩
    | succ j =>
      obtain ⟨w, h1, h2⟩ := ih j u (by simpa using e)
      refine ⟨w, by simpa using h1, ?_⟩
      simpa [kOf_cons, cellsA] using h2
theorem cells_mem : ∀ (pk : List Kd) (as : E) (j n : Nat), n ∈ cellsA C pk as j → kOf pk j = .I ∧ ∃ i ∈ ioSl (pk.map Kd.io) as, n ∈ C i := by
  intro pk
  induction pk with
  | nil => intro as j n hn; simp [cellsA] at hn
  | cons k pk ih =>
    intro as j n hn
    cases as with
    | cons a r =>
      cases j with
      | zero =>
        cases k <;> cases a <;> simp only [cellsA, List.not_mem_nil] at hn
        rename_i i
        exact ⟨rfl, i, by simp [ioSl, Kd.io], hn⟩
      | succ j =>
        have hn' : n ∈ cellsA C pk r j := by
          cases k <;> cases a <;> simpa only [cellsA] using hn
        obtain ⟨h1, i, h2, h3⟩ := ih r j n hn'
        refine ⟨h1, i, ?_, h3⟩
        cases k <;> cases a <;> simp [ioSl, Kd.io, h2]
    | _ => cases k <;> cases j <;> simp [cellsA] at hn
theorem AR.dis (a : AR h P C σ all pk as us ws) (dis : ∀ i j n, n ∈ C i → n ∈ C j → i = j) : ∀ (j k n : Nat), n ∈ cellsA C pk as j → n ∈ cellsA C pk as k → j = k := by
  induction a with
  | nil => intro j k n hj; cases ‹List Kd› with
    | nil => simp [cellsA] at hj
    | cons k pk => cases k <;> cases j <;> simp [cellsA] at hj
  | S q a ih =>
    intro j k n hj hk
    cases j <;> cases k <;> first | rfl | (simp [cellsA] at hj; done) | (simp [cellsA] at hk; done) | skip
    exact congrArg Nat.succ (ih _ _ n (by simpa [cellsA] using hj) (by simpa [cellsA] using hk))
  | B q a ih =>
    intro j k n hj hk
    cases j <;> cases k <;> first | rfl | (simp [cellsA] at hj; done) | (simp [cellsA] at hk; done) | skip
    exact congrArg Nat.succ (ih _ _ n (by simpa [cellsA] using hj) (by simpa [cellsA] using hk))
  | I e1 o ni a ih =>
    intro j k n hj hk
    cases j with
    | zero =>
      cases k with
      | zero => rfl
      | succ k =>
        obtain ⟨_, i, h1, h2⟩ := cells_mem _ _ k n (by simpa [cellsA] using hk)
        rw [dis _ _ n h2 (by simpa [cellsA] using hj)] at h1
        exact absurd h1 ni
    | succ j =>
      cases k with
      | zero =>
        obtain ⟨_, i, h1, h2⟩ := cells_mem _ _ j n (by simpa [cellsA] using hj)
        rw [dis _ _ n h2 (by simpa [cellsA] using hk)] at h1
        exact absurd h1 ni
      | succ k => exact congrArg Nat.succ (ih _ _ n (by simpa [cellsA] using hj) (by simpa [cellsA] using hk))
theorem getS_map : ∀ (us : List W) (i : Nat), getS (us.map some) i = us[i]?
  | [], i => by simp [getS]
  | u :: us, 0 => by simp [getS]
  | u :: us, i + 1 => by simpa [getS] using getS_map us i
/-- the callee's frame -/
theorem AR.frame (a : AR h P C σ all pk as us ws) (F : Fr base kd P h s σ C) (sub : ∀ i ∈ ioSl (pk.map Kd.io) as, i ∈ all) : Fr h.length pk P h (us.map some) (ws.map some) (cellsA C pk as) := by
  have mem : ∀ j n, n ∈ cellsA C pk as j → ∃ i ∈ all, n ∈ C i := fun j n hn => by
    obtain ⟨_, i, h1, h2⟩ := cells_mem pk as j n hn
    exact ⟨i, sub i h1, h2⟩
  refine ⟨by simp [a.len], fun i u hu => ?_, a.dis F.dis, fun i n hn => ?_, F.inn, fun i n hn => ?_, fun i n hn ho => ?_, fun i n hb hs => ?_⟩
  · rw [getS_map] at hu
    obtain ⟨w, e, q, _⟩ := a.get i u hu
    exact ⟨w, by rw [getS_map]; exact e, q⟩
  · obtain ⟨j, _, hj⟩ := mem i n hn; exact F.out j n hj
  · obtain ⟨j, _, hj⟩ := mem i n hn; exact F.cin j n hj
  · rw [(cells_mem pk as i n hn).1] at ho; cases ho
  · rw [getS_map] at hs
    have hl : i < us.length := by rw [a.len]; exact (List.getElem?_eq_some_iff.mp hs).1
    obtain ⟨w, e, _, q⟩ := a.get i us[i] (List.getElem?_eq_getElem hl)
    rw [hs] at e; cases e
    rcases q hb n rfl with p | ⟨p1, p2⟩
    · exact ⟨F.inn n p, fun j hj => by obtain ⟨k, _, hk⟩ := mem j n hj; exact F.out k n hk p⟩
    · exact ⟨p1, fun j hj => by obtain ⟨k, hk1, hk⟩ := mem j n hj; exact p2 k hk1 hk⟩
theorem wb_len : ∀ (io : List Bool) (as : E) (o s : Sl), (wb io as o s).length = s.length := by
  intro io
  induction io with
  | nil => intro as o s; simp [wb]
  | cons b io ih =>
    intro as o s
    cases as with
    | cons a r => cases b <;> cases a <;> simp [wb, ih, setS_len]
    | _ => cases b <;> simp [wb]
theorem getS_tail (o : Sl) (j : Nat) : getS o.tail j = getS o (j + 1) := by cases o <;> simp [getS]
theorem getS_hd (o : Sl) : getS o 0 = hdS o := by cases o <;> rfl
/-- what the slots hold behind a call -/
theorem wb_get : ∀ (io : List Bool) (as : E) (o s : Sl) (i : Nat) (u : W), getS (wb io as o s) i = some u → (i ∈ ioSl io as ∧ ∃ j, io[j]? = some true ∧ getS o j = some u ∧ ∀ C : Nat → List Nat, ∀ pk : List Kd, pk.map Kd.io = io → cellsA C pk as j = C i) ∨ (i ∉ ioSl io as ∧ getS s i = some u) := by
  intro io
  induction io with
  | nil => intro as o s i u e; exact .inr ⟨by simp [ioSl], by simpa [wb] using e⟩
  | cons b io ih =>
    intro as o s i u e
    have shift : ∀ (a r : E) (b : Bool), (i ∈ ioSl io r ∧ ∃ j, io[j]? = some true ∧ getS o.tail j = some u ∧ ∀ C : Nat → List Nat, ∀ pk : List Kd, pk.map Kd.io = io → cellsA C pk r j = C i) → (i ∈ ioSl (b :: io) (.cons a r) ∧ ∃ j, (b :: io)[j]? = some true ∧ getS o j = some u ∧ ∀ C : Nat → List Nat, ∀ pk : List Kd, pk.map Kd.io = b :: io → cellsA C pk (.cons a r) j = C i) := by
      rintro a r b ⟨h1, j, h2, h3, h4⟩
      refine ⟨by cases b <;> cases a <;> simp [ioSl, h1], j + 1, by simpa using h2, by rw [← getS_tail]; exact h3, fun C pk hp => ?_⟩
      cases pk with
      | nil => simp at hp
      | cons k pk =>
        simp only [List.map_cons, List.cons.injEq] at hp
        rw [← h4 C pk hp.2]
        cases k <;> cases a <;> rfl
    cases as with
    | cons a r =>
      by_cases hb : b = true ∧ ∃ k, a = .v k
      · obtain ⟨rfl, k, rfl⟩ := hb
        simp only [wb] at e
        rcases ih r o.tail _ i u e with q | ⟨q0, q⟩
        · exact .inl (shift _ _ _ q)
        · rcases getS_setS_some q with ⟨rfl, q2⟩ | ⟨q1, q⟩
          · refine .inl ⟨by simp [ioSl], 0, by simp, by rw [getS_hd]; exact q2, fun C pk hp => ?_⟩
            cases pk with
            | nil => simp at hp
            | cons kk pk =>
              simp only [List.map_cons, List.cons.injEq] at hp
              cases kk <;> first | rfl | (have := hp.1; simp [Kd.io] at this)
          · exact .inr ⟨by simp [ioSl, q0, q1], q⟩
      · have e' : getS (wb io r o.tail s) i = some u := by
          cases b with
          | false => simpa [wb] using e
          | true =>
            cases a with
            | v k => exact absurd ⟨rfl, k, rfl⟩ hb
            | _ => simpa [wb] using e
        rcases ih r o.tail s i u e' with q | ⟨q0, q⟩
        · exact .inl (shift _ _ _ q)
        · refine .inr ⟨?_, q⟩
          cases b with
          | false => simpa [ioSl] using q0
          | true =>
            cases a with
            | v k => exact absurd ⟨rfl, k, rfl⟩ hb
            | _ => simpa [ioSl] using q0
    | _ => exact .inr ⟨by cases b <;> simp [ioSl], by cases b <;> simpa [wb] using e⟩
theorem io_get {pk : List Kd} {j : Nat} (e : (pk.map Kd.io)[j]? = some true) : kOf pk j = .I := by
  rw [List.getElem?_map] at e
  unfold kOf
  rw [List.getD_eq_getElem?_getD]
  cases q : pk[j]? with
  | none => rw [q] at e; cases e
  | some k => rw [q] at e; cases k <;> first | rfl | cases e
/-- a call -/
theorem call_ok {kt : List Ki} {GV : Nat → List W → Q W} {G : Nat → List W → OH → R W} (cs : CallSim kt GV G) {f : Nat} (F : Fr base kd P h s σ C) (a : AR h P C σ (ioSl (ioOf kt f) as) (ksOf kt f) as us ws) (kk : ∀ i ∈ ioSl (ioOf kt f) as, kOf kd i = .O ∨ kOf kd i = .I) :
    RelQ (RetR (frOf kt f) h.length) base kd P h σ C (ioSl (ioOf kt f) as) ((GV f us).back (ioOf kt f) as s) (G f ws h) := by
  have hio := ioOf_ks kt f
  have cf := a.frame F (by rw [← hio]; exact fun i hi => hi)
  have z := cs f us ws h P _ cf (fun i n hn => (cells_mem _ _ i n hn).1)
  have mk : ∀ {h' : OH} {P' : Nat → Prop} {o : Sl}, CallR (ksOf kt f) h P ws (cellsA C (ksOf kt f) as) h' P' o → Md C (ioSl (ioOf kt f) as) h h' ∧ Fr base kd P' h' (wb (ioOf kt f) as o s) σ C := fun {h' P' o} c => by
    have md : Md C (ioSl (ioOf kt f) as) h h' := fun m hm q => c.md m hm fun j hj => by
      obtain ⟨_, i, h1, h2⟩ := cells_mem _ _ j m hj
      rw [← hio] at h1
      exact q i h1 h2
    refine ⟨md, F.step c.ext md c.inn (wb_len _ _ _ _) fun i u hu => ?_⟩
    rcases wb_get _ _ _ _ i u hu with ⟨hi, j, h2, h3, h4⟩ | ⟨hi, q⟩
    · rw [hio] at h2
      obtain ⟨w, e1, o1⟩ := c.outs j u (io_get h2) h3
      rw [h4 C (ksOf kt f) hio.symm] at o1
      refine .inr ⟨w, ?_, ?_⟩
      · have key : ∀ {all : List Nat} {pk : List Kd} {as : E} {us ws : List W} (_ : AR h P C σ all pk as us ws) (j : Nat) (w : W), (pk.map Kd.io)[j]? = some true → ws[j]? = some w → (∀ D : Nat → List Nat, cellsA D pk as j = D i) → getS σ i = some w := by
          intro all pk as us ws a
          induction a with
          | nil => intro j w _ e; simp at e
          | S q a ih =>
            intro j w b e cc
            cases j with
            | zero => simp [Kd.io] at b
            | succ j => exact ih j w (by simpa using b) (by simpa using e) fun D => by simpa [cellsA] using cc D
          | B q a ih =>
            intro j w b e cc
            cases j with
            | zero => simp [Kd.io] at b
            | succ j => exact ih j w (by simpa using b) (by simpa using e) fun D => by simpa [cellsA] using cc D
          | I e1 o ni a ih =>
            rename_i i' r u' w' us' ws'
            intro j w b e cc
            cases j with
            | zero =>
              simp at e; subst e
              have := cc fun x => [x]
              simp [cellsA] at this
              rw [← this]; exact e1
            | succ j => exact ih j w (by simpa using b) (by simpa using e) fun D => by simpa [cellsA] using cc D
        exact key a j w h2 e1 fun D => h4 D (ksOf kt f) hio.symm
      · rcases kk i hi with z | z <;> rw [z] <;> exact o1
    · exact .inl ⟨hi, q⟩
  cases hq : GV f us with
  | ok u o =>
    rw [hq] at z
    obtain ⟨w, h', P', e, c, r⟩ := z
    exact ⟨w, h', P', e, c.ext, (mk c).1, (mk c).2, r⟩
  | exc cc fs o =>
    rw [hq] at z
    obtain ⟨w, h', P', e, c, r⟩ := z
    exact ⟨w, h', P', e, c.ext, (mk c).1, (mk c).2, r⟩
  | no => trivial
end
end Vm
end

section
set_option Elab.async false
set_option linter.all false
set_option maxRecDepth 100000
set_option maxHeartbeats 4000000
set_option autoImplicit false
/-! Runs over values are runs over a heap: lists changed, what is walked, comprehensions. -/
namespace Vm
open PySem Wm
section
variable {base : Nat} {kd : List Kd} {P : Nat → Prop} {h : OH} {s σ : Sl} {C : Nat → List Nat} {M L : List Nat}
theorem Rps.tps {us ws : List W} (q : Rps h P us ws) : Tps h P us ws := by
  induction us generalizing ws with
  | nil => cases q; exact .nil
  | cons u us ih => cases q with | cons a b => exact .cons (.s a) (ih b)
/-- a list changed in place -/
theorem mt_okV {m : Mt} {k : Nat} {args args' : List W} (F : Fr base kd P h s σ C) (ho : kOf kd k = .O ∨ kOf kd k = .I) (t : Tps h P args args') (te : m ≠ .extend → Rps h P args args') {u0 : W} (e0 : getS σ k = some u0) :
    RelQ Rp base kd P h σ C [k] (mtS m k args s) (mtW m u0 args' h) := by
  unfold mtS
  split
  · rename_i us e
    obtain ⟨w, eσ, o⟩ := slot_own F ho e
    rw [e0] at eσ; cases eσ
    generalize hc : C k = c at o
    cases o with
    | bare b _ => cases b
    | lst en q =>
      rename_i n ws
      split
      · rename_i p ep
        have fin : ∀ {us' ws' : List W} {u w : W}, p = (u, us') → mtW m (.ref n) args' h = .ok w (h.set n (.lst ws')) → Rps h P us' ws' → Rp h P u w → RelQ Rp base kd P h σ C [k] (.ok p.1 (setS s k (some (.lst p.2)))) (mtW m (.ref n) args' h) := by
          intro us' ws' u w e1 e2 q2 r
          subst e1
          obtain ⟨x, md, F2⟩ := F.put ho e e0 en hc q2
          exact ⟨w, _, P, e2, x, md, F2, r.ext x⟩
        have hl := q.len
        unfold mtV at ep
        split at ep
        · split at ep
          · rename_i x hx
            cases ep
            have te := te (by decide)
            cases te with
            | cons a b =>
              cases b
              refine fin rfl ?_ (q.app (.one a)) .non
              simp only [mtW, lstAt, en, ← hl, hx, if_true]
          · cases ep
        · split at ep
          · rename_i us2 hx
            cases ep
            obtain ⟨w2, rfl, t2⟩ := t.one_
            obtain ⟨n2, ws2, rfl, e2, q2⟩ := t2.lst_
            refine fin rfl ?_ (q.app q2) .non
            simp only [mtW, lstAt, en, e2, ← hl, ← q2.len, hx, if_true]
          · cases ep
        · split at ep
          · rename_i u hx
            cases ep
            have te := te (by decide)
            cases te
            obtain ⟨w, e3, r⟩ := q.get hx
            refine fin rfl ?_ q.dropLast r
            simp only [mtW, lstAt, en, ← hl, e3]
          · cases ep
        · split at ep
          · rename_i kk hk
            split at ep
            · rename_i u hx
              cases ep
              obtain ⟨w2, rfl, t2⟩ := t.one_
              obtain ⟨w, e3, r⟩ := q.get hx
              refine fin rfl ?_ (q.erase kk) r
              rw [t2.int_]
              simp only [mtW, lstAt, en, ← hl, hk, e3]
            · cases ep
          · cases ep
        · cases ep
      · trivial
  · trivial
/-! ### what is walked -/
def ItR (C : Nat → List Nat) (L : List Nat) (h : OH) (P : Nat → Prop) (us : List W) (p : It) : Prop := Rps h P us p.1 ∧ ∀ q ∈ p.2, h[q.1]? = some (.lst q.2) ∧ (P q.1 ∨ (q.1 < h.length ∧ ∀ i ∈ L, q.1 ∉ C i))
/-- the lists that are walked stand as they were -/
def StR (C : Nat → List Nat) (L : List Nat) (h : OH) (P : Nat → Prop) (wt : List (Nat × List W)) : Prop := ∀ q ∈ wt, h[q.1]? = some (.lst q.2) ∧ (P q.1 ∨ (q.1 < h.length ∧ ∀ i ∈ L, q.1 ∉ C i))
theorem StR.still {wt : List (Nat × List W)} (t : StR C L h P wt) : still h wt = true := by
  induction wt with
  | nil => rfl
  | cons p r ih =>
    obtain ⟨e, _⟩ := t p (by simp)
    simp only [Wm.still, items, e, W.beqs_refl, Bool.true_and]
    exact ih fun q hq => t q (List.mem_cons_of_mem _ hq)
theorem StR.ext {P' : Nat → Prop} {h' : OH} {L' : List Nat} {wt : List (Nat × List W)} (t : StR C L h P wt) (e : Ext P h P' h') (md : Md C L' h h') (sub : ∀ i ∈ L', i ∈ L) : StR C L h' P' wt := fun q hq => by
  obtain ⟨e1, z⟩ := t q hq
  rcases z with z | ⟨z1, z2⟩
  · exact ⟨(e.keep _ z).trans e1, .inl (e.sub _ z)⟩
  · exact ⟨(md _ z1 fun i hi => z2 i (sub i hi)).trans e1, .inr ⟨Nat.lt_of_lt_of_le z1 e.len, z2⟩⟩
theorem seq_it {x x' : W} (t : ToR C L h P x x') {us : List W} (e : vseq x = some us) : ∃ ws, seqOf h x' = some ws ∧ Rps h P us ws ∧ StR C L h P (watch x' ws) := by
  obtain ⟨ws, e1, q⟩ := vseq_ok t.1 e
  refine ⟨ws, e1, q, fun p hp => ?_⟩
  cases x' with
  | ref n =>
    simp only [watch, List.mem_singleton] at hp
    subst hp
    simp only [seqOf, items] at e1
    split at e1
    · rename_i ws' en
      cases e1
      exact ⟨en, t.2 n rfl⟩
    · cases e1
  | _ => simp [watch] at hp
theorem StR.app {a b : List (Nat × List W)} (p : StR C L h P a) (q : StR C L h P b) : StR C L h P (a ++ b) := fun x hx => (List.mem_append.mp hx).elim (p x) (q x)
/-! ### comprehensions -/
def OptR (rl : OH → (Nat → Prop) → W → W → Prop) (h : OH) (P : Nat → Prop) : Option W → Option W → Prop
  | none, none => True
  | some u, some w => rl h P u w
  | _, _ => False
theorem lc_ok {fV : W → Sl → Q (Option W)} {f : W → OH → R (Option W)} (body : ∀ (u w : W) (h : OH) (P : Nat → Prop) (s : Sl), Fr base kd P h s σ C → Rp h P u w → RelQ (OptR Rp) base kd P h σ C M (fV u s).calm (f w h)) :
    ∀ (us ws : List W) (wt : List (Nat × List W)) (h : OH) (P : Nat → Prop) (s : Sl), Fr base kd P h s σ C → Rps h P us ws → StR C M h P wt → RelQ Rps base kd P h σ C M (lcV fV us s) (lcN f wt ws h) := by
  intro us
  induction us with
  | nil =>
    intro ws wt h P s F q st
    cases q
    simp only [lcV, lcN, st.still, if_true]
    exact RelQ.ok F .nil
  | cons u us ih =>
    intro ws wt h P s F q st
    cases q with
    | cons a b =>
      rename_i w ws
      simp only [lcV, lcN, st.still, if_true]
      have z := body u w h P s F a
      cases hq : fV u s with
      | ok o s1 =>
        rw [hq] at z
        obtain ⟨o', h1, P1, e, x, md, F1, r⟩ := z
        rw [e]
        simp only [Q.calm_ok, Q.bind_ok, R.calm, R.bind_ok]
        have z2 := ih ws wt h1 P1 s1 F1 (b.ext x) (st.ext x md fun i hi => hi)
        cases hq2 : lcV fV us s1 with
        | ok ys s2 =>
          rw [hq2] at z2
          obtain ⟨ys', h2, P2, e2, x2, md2, F2, r2⟩ := z2
          rw [e2]
          simp only [Q.bind_ok, R.bind_ok]
          refine ⟨consO o' ys', h2, P2, rfl, x.trans x2, ((md.trans x.len md2).mono fun i hi => (List.mem_append.mp hi).elim id id), F2, ?_⟩
          cases o <;> cases o'
          · exact r2
          · exact r.elim
          · exact r.elim
          · exact .cons (Rp.ext r x2) r2
        | exc c fs s2 =>
          rw [hq2] at z2
          obtain ⟨ys', h2, P2, e2, x2, md2, F2, r2⟩ := z2
          rw [e2]
          exact ⟨ys', h2, P2, rfl, x.trans x2, ((md.trans x.len md2).mono fun i hi => (List.mem_append.mp hi).elim id id), F2, r2⟩
        | no => trivial
      | exc c fs s1 => trivial
      | no => trivial
/-- rows: each new -/
theorem lc_rows {fV : W → Sl → Q (Option W)} {f : W → OH → R (Option W)} (body : ∀ (u w : W) (h : OH) (P : Nat → Prop) (s : Sl), Fr base kd P h s σ C → Rp h P u w → RelQ (OptR (FoR h.length)) base kd P h σ C M (fV u s).calm (f w h)) :
    ∀ (us ws : List W) (wt : List (Nat × List W)) (h : OH) (P : Nat → Prop) (s : Sl), Fr base kd P h s σ C → Rps h P us ws → StR C M h P wt →
      RelQ (fun h' P' rs ws' => ∃ ns, Rows h' P' rs ws' ns ∧ ns.Nodup ∧ ∀ n ∈ ns, h.length ≤ n ∧ ¬ P' n) base kd P h σ C M (lcV fV us s) (lcN f wt ws h) := by
  intro us
  induction us with
  | nil =>
    intro ws wt h P s F q st
    cases q
    simp only [lcV, lcN, st.still, if_true]
    exact RelQ.ok F ⟨[], .nil, by simp, by simp⟩
  | cons u us ih =>
    intro ws wt h P s F q st
    cases q with
    | cons a b =>
      rename_i w ws
      simp only [lcV, lcN, st.still, if_true]
      have z := body u w h P s F a
      cases hq : fV u s with
      | ok o s1 =>
        rw [hq] at z
        obtain ⟨o', h1, P1, e, x, md, F1, r⟩ := z
        rw [e]
        simp only [Q.calm_ok, Q.bind_ok, R.calm, R.bind_ok]
        have z2 := ih ws wt h1 P1 s1 F1 (b.ext x) (st.ext x md fun i hi => hi)
        cases hq2 : lcV fV us s1 with
        | ok ys s2 =>
          rw [hq2] at z2
          obtain ⟨ys', h2, P2, e2, x2, md2, F2, r2⟩ := z2
          rw [e2]
          simp only [Q.bind_ok, R.bind_ok]
          refine ⟨consO o' ys', h2, P2, rfl, x.trans x2, ((md.trans x.len md2).mono fun i hi => (List.mem_append.mp hi).elim id id), F2, ?_⟩
          obtain ⟨ns, r3, nd, big⟩ := r2
          cases o <;> cases o'
          · exact ⟨ns, r3, nd, fun n hn => ⟨Nat.le_trans x.len (big n hn).1, (big n hn).2⟩⟩
          · exact r.elim
          · exact r.elim
          · rename_i y y'
            have r : FoR h.length h1 P1 y y' := r
            have one : ∀ (n : Nat), h.length ≤ n → ¬ P1 n → n < h1.length → Own h2 P2 y y' [n] → ∃ ns, Rows h2 P2 (consO (some y) ys) (consO (some y') ys') ns ∧ ns.Nodup ∧ ∀ n ∈ ns, h.length ≤ n ∧ ¬ P2 n := fun n hb hp hn o => by
              refine ⟨[n] ++ ns, .cons o r3, ?_, fun m hm => ?_⟩
              · rw [List.singleton_append, List.nodup_cons]
                exact ⟨fun hm => by have := (big n hm).1; omega, nd⟩
              · rcases List.mem_cons.mp hm with rfl | hm
                · refine ⟨hb, fun p => ?_⟩
                  rcases x2.new m p with p | p
                  · exact hp p
                  · omega
                · exact ⟨Nat.le_trans x.len (big m hm).1, (big m hm).2⟩
            have en2 : ∀ n, h.length ≤ n → n < h1.length → h2[n]? = h1[n]? := fun n hb hn => md2 n hn fun i _ hni => by
              have := F.cin i n hni
              omega
            cases r with
            | bare b q => exact ⟨[] ++ ns, .cons (.bare b (q.ext x2)) r3, nd, fun m hm => ⟨Nat.le_trans x.len (big m hm).1, (big m hm).2⟩⟩
            | lst hb hp en q =>
              rename_i n us ws
              have hn : n < h1.length := (List.getElem?_eq_some_iff.mp en).1
              exact one n hb hp hn (.lst ((en2 n hb hn).trans en) (q.ext x2))
            | dic hb hp en q q2 =>
              rename_i n tk kvs ks vs'
              have hn : n < h1.length := (List.getElem?_eq_some_iff.mp en).1
              exact one n hb hp hn (.dic ((en2 n hb hn).trans en) (q.ext x2) (q2.ext x2))
        | exc c fs s2 =>
          rw [hq2] at z2
          obtain ⟨ys', h2, P2, e2, x2, md2, F2, r2⟩ := z2
          rw [e2]
          exact ⟨ys', h2, P2, rfl, x.trans x2, ((md.trans x.len md2).mono fun i hi => (List.mem_append.mp hi).elim id id), F2, r2⟩
        | no => trivial
      | exc c fs s1 => trivial
      | no => trivial
/-! ### places that are stored to -/
/-- a value stored into shared slots -/
theorem asgT_ok : ∀ (t : T) {u w : W} {s σ s' : Sl} {C : Nat → List Nat} {h : OH} {P : Nat → Prop}, Fr base kd P h s σ C → (∀ i ∈ tsl t, kOf kd i = .S) → Rp h P u w → asgT t u s = some s' → ∃ σ', asgT t w σ = some σ' ∧ Fr base kd P h s' σ' C
  | .nm i, u, w, s, σ, s', C, h, P, F, hk, r, e => by
    simp only [asgT, Option.some.injEq] at e
    subst e
    have hi := hk i (by simp [tsl])
    refine ⟨setS σ i (some w), rfl, by rw [setS_len, setS_len]; exact F.len, fun j v hj => ?_, F.dis, F.out, F.inn, F.cin, F.own, fun j n hb hs => ?_⟩
    · have hjl := getS_lt hj
      rw [setS_len] at hjl
      rcases getS_setS_some hj with ⟨rfl, ev⟩ | ⟨h1, h2⟩
      · cases ev
        exact ⟨w, getS_setS_eq _ _ _ (by rw [← F.len]; exact hjl), by rw [hi]; exact r⟩
      · obtain ⟨v', e1, q⟩ := F.sl j v h2
        exact ⟨v', by rw [getS_setS_ne _ _ _ _ (Ne.symm h1)]; exact e1, q⟩
    · rcases getS_setS_some hs with ⟨rfl, _⟩ | ⟨h1, h2⟩
      · rw [hi] at hb; cases hb
      · exact F.bout j n hb h2
  | .nil, u, w, s, σ, s', C, h, P, F, hk, r, e => by
    simp only [asgT] at e
    split at e
    · cases e
      cases r with
      | tup q => cases q; exact ⟨σ, rfl, F⟩
    · cases e
  | .cons a t, u, w, s, σ, s', C, h, P, F, hk, r, e => by
    simp only [asgT] at e
    split at e
    · cases r with
      | tup q =>
        cases q with
        | cons ra rb =>
          split at e
          · rename_i s1 e1
            obtain ⟨σ1, e2, F1⟩ := asgT_ok a F (fun i hi => hk i (by simp [tsl, hi])) ra e1
            obtain ⟨σ2, e3, F2⟩ := asgT_ok t F1 (fun i hi => hk i (by simp [tsl, hi])) (.tup rb) e
            exact ⟨σ2, by simp only [asgT, e2, e3], F2⟩
          · cases e
    · cases e
theorem Fr.wipe (F : Fr base kd P h s σ C) (own : List Nat) : Fr base kd P h (wipeS s own) σ C :=
  ⟨by rw [wipeS_len]; exact F.len, fun i u hu => F.sl i u (getS_wipeS hu).2, F.dis, F.out, F.inn, F.cin, F.own, F.bout⟩
/-- shared slots may hold anything where nothing is known of them -/
theorem Fr.wipe2 (F : Fr base kd P h s σ C) {own : List Nat} (hk : ∀ i ∈ own, kOf kd i = .S) : Fr base kd P h (wipeS s own) (wipeS σ own) C :=
  ⟨by rw [wipeS_len, wipeS_len]; exact F.len, fun i u hu => by
    obtain ⟨h1, h2⟩ := getS_wipeS hu
    obtain ⟨w, e, q⟩ := F.sl i u h2
    exact ⟨w, by rw [getS_wipe_ne h1]; exact e, q⟩, F.dis, F.out, F.inn, F.cin, F.own, fun i n hb hs => F.bout i n hb (getS_wipeS hs).2⟩
end
end Vm
end

section
set_option Elab.async false
set_option linter.all false
set_option maxRecDepth 100000
set_option maxHeartbeats 4000000
set_option autoImplicit false
/-! Runs over values are runs over a heap: expressions. -/
namespace Vm
open PySem Wm
section
variable (kt : List Ki) (GV : Nat → List W → Q W) (G : Nat → List W → OH → R W)
structure SimE (x : E) : Prop where
  e : ∀ {base : Nat} {kd : List Kd} {P : Nat → Prop} {h : OH} {s σ : Sl} {C : Nat → List Nat}, Fr base kd P h s σ C → okE kt kd x = true →
    RelQ Rp base kd P h σ C (muts (ioOf kt) x) (vE GV (ioOf kt) x s) (ev G x σ h) ∧ (freshE kt x = true → RelQ (FoR h.length) base kd P h σ C (muts (ioOf kt) x) (vE GV (ioOf kt) x s) (ev G x σ h))
  t : ∀ {base : Nat} {kd : List Kd} {P : Nat → Prop} {h : OH} {s σ : Sl} {C : Nat → List Nat}, Fr base kd P h s σ C → okT kt kd x = true → RelQ (fun _ _ a b => a = b) base kd P h σ C (muts (ioOf kt) x) (vT GV (ioOf kt) x s) (evT G x σ h)
  c : ∀ {base : Nat} {kd : List Kd} {P : Nat → Prop} {h : OH} {s σ : Sl} {C : Nat → List Nat}, Fr base kd P h s σ C → okC kt kd x = true → RelQ (fun _ _ a b => a = b) base kd P h σ C (muts (ioOf kt) x) (vC GV (ioOf kt) x s) (evC G x σ h)
  s : ∀ {base : Nat} {kd : List Kd} {P : Nat → Prop} {h : OH} {s σ : Sl} {C : Nat → List Nat}, Fr base kd P h s σ C → okEs kt kd x = true → RelQ Rps base kd P h σ C (muts (ioOf kt) x) (vs GV (ioOf kt) x s) (evs G x σ h)
  o : ∀ {base : Nat} {kd : List Kd} {P : Nat → Prop} {h : OH} {s σ : Sl} {C : Nat → List Nat}, Fr base kd P h s σ C → okOs kt kd x = true → RelQ Tps base kd P h σ C (muts (ioOf kt) x) (vs GV (ioOf kt) x s) (evs G x σ h)
  a : ∀ {base : Nat} {kd : List Kd} {P : Nat → Prop} {h : OH} {s σ : Sl} {C : Nat → List Nat} (all : List Nat) (pk : List Kd), Fr base kd P h s σ C → okA kt kd all pk x = true → RelQ (fun h' P' us ws => AR h' P' C σ all pk x us ws) base kd P h σ C (muts (ioOf kt) x) (vA GV (ioOf kt) (pk.map Kd.io) x s) (evs G x σ h)
  p : ∀ {base : Nat} {kd : List Kd} {P : Nat → Prop} {h : OH} {s σ : Sl} {C : Nat → List Nat}, Fr base kd P h s σ C → okP kt kd x = true → RelQ (fun _ _ a b => a = b) base kd P h σ C (muts (ioOf kt) x) (vO GV (ioOf kt) x s) (evO G x σ h)
  i : ∀ {base : Nat} {kd : List Kd} {P : Nat → Prop} {h : OH} {s σ : Sl} {C : Nat → List Nat} (L : List Nat), Fr base kd P h s σ C → okI kt kd L x = true → RelQ (ItR C L) base kd P h σ C (muts (ioOf kt) x) (vI GV (ioOf kt) x s) (evI G x σ h)
end
section
variable {kt : List Ki} {GV : Nat → List W → Q W} {G : Nat → List W → OH → R W}
variable {base : Nat} {kd : List Kd} {P : Nat → Prop} {h : OH} {s σ : Sl} {C : Nat → List Nat} {L : List Nat}
theorem RelQ.sub {α β : Type} {rl : OH → (Nat → Prop) → α → β → Prop} {M M' : List Nat} {q : Q α} {r : R β} (a : RelQ rl base kd P h σ C M q r) (sub : ∀ i ∈ M, i ∈ M') : RelQ rl base kd P h σ C M' q r := a.mono sub fun _ _ _ _ z => z
theorem FoR.from {b b' : Nat} (hb : b' ≤ b) {M : List Nat} {q : Q W} {r : R W} (a : RelQ (FoR b) base kd P h σ C M q r) : RelQ (FoR b') base kd P h σ C M q r := a.mono (fun _ z => z) fun _ _ _ _ z => z.le hb
/-- an operation that makes something new or bare -/
theorem both {M : List Nat} {q : Q W} {r : R W} {pr : Prop} (F : Fr base kd P h s σ C) (a : RelQ (FoR h.length) base kd P h σ C M q r) : RelQ Rp base kd P h σ C M q r ∧ (pr → RelQ (FoR h.length) base kd P h σ C M q r) := ⟨a.unF F (Nat.le_refl _), fun _ => a⟩
theorem opd {a : E} (S : SimE kt GV G a) (F : Fr base kd P h s σ C) (ho : (opV kd L a || okE kt kd a) = true) : RelQ (ToR C L) base kd P h σ C (muts (ioOf kt) a) (vE GV (ioOf kt) a s) (ev G a σ h) := by
  rcases Bool.or_eq_true_iff.mp ho with ho | ho
  · cases a with
    | v i =>
      show RelQ _ _ _ _ _ _ _ _ (Q.of (getS s i) s) (ev G (.v i) σ h)
      refine RelQ.of F fun u e => ?_
      obtain ⟨w, e1, t⟩ := slot_to F ho e
      exact ⟨w, by simp only [ev, e1], t⟩
    | _ => cases ho
  · exact (S.e F ho).1.mono (fun _ z => z) fun _ _ _ _ z => z.to
/-- two operands -/
theorem opd2 {γ δ : Type} {rl : OH → (Nat → Prop) → γ → δ → Prop} {a b : E} {f : W → W → Sl → Q γ} {g : W → W → OH → R δ} (Sa : SimE kt GV G a) (Sb : SimE kt GV G b) (F : Fr base kd P h s σ C) (ha : (opV kd (muts (ioOf kt) b) a || okE kt kd a) = true) (hb : (opV kd [] b || okE kt kd b) = true)
    (k : ∀ x y x' y' s' h' P', Ext P h P' h' → Fr base kd P' h' s' σ C → Tp h' P' x x' → Tp h' P' y y' → RelQ rl base kd P' h' σ C [] (f x y s') (g x' y' h')) :
    RelQ rl base kd P h σ C (muts (ioOf kt) a ++ muts (ioOf kt) b) ((vE GV (ioOf kt) a s).bind fun x s1 => (vE GV (ioOf kt) b s1).bind fun y s2 => f x y s2) ((ev G a σ h).bind fun x h1 => (ev G b σ h1).bind fun y h2 => g x y h2) :=
  (opd Sa F ha).bind fun x x' s1 h1 P1 x1 _ F1 t1 => (opd Sb F1 hb).bind0 fun y y' s2 h2 P2 x2 md2 F2 t2 => k x y x' y' s2 h2 P2 (x1.trans x2) F2 (t1.ext x2 md2 fun i hi => hi) t2.1
theorem opd1 {γ δ : Type} {rl : OH → (Nat → Prop) → γ → δ → Prop} {a : E} {f : W → Sl → Q γ} {g : W → OH → R δ} (Sa : SimE kt GV G a) (F : Fr base kd P h s σ C) (ha : (opV kd [] a || okE kt kd a) = true)
    (k : ∀ x x' s' h' P', Ext P h P' h' → Fr base kd P' h' s' σ C → Tp h' P' x x' → RelQ rl base kd P' h' σ C [] (f x s') (g x' h')) :
    RelQ rl base kd P h σ C (muts (ioOf kt) a) ((vE GV (ioOf kt) a s).bind f) ((ev G a σ h).bind g) :=
  (opd Sa F ha).bind0 fun x x' s1 h1 P1 x1 _ F1 t1 => k x x' s1 h1 P1 x1 F1 t1.1
/-- three in a row, the first two kept -/
theorem chain_ok {γ δ : Type} {rl : OH → (Nat → Prop) → γ → δ → Prop} {o p : Cop} {a b c : E} {fin : Bool → Sl → Q γ} {z : Sl → Q γ} {fin' : W → OH → R δ} {z' : OH → R δ} (Sa : SimE kt GV G a) (Sb : SimE kt GV G b) (Sc : SimE kt GV G c) (F : Fr base kd P h s σ C) (hk : (okE kt kd a && okE kt kd b && okE kt kd c) = true)
    (k1 : ∀ t s' h' P', Fr base kd P' h' s' σ C → RelQ rl base kd P' h' σ C [] (fin t s') (fin' (.bl t) h')) (k2 : ∀ s' h' P', Fr base kd P' h' s' σ C → RelQ rl base kd P' h' σ C [] (z s') (z' h')) :
    RelQ rl base kd P h σ C (muts (ioOf kt) a ++ (muts (ioOf kt) b ++ muts (ioOf kt) c)) ((vE GV (ioOf kt) a s).bind fun x s1 => (vE GV (ioOf kt) b s1).bind fun y s2 => (Q.of (cmpV o x y) s2).bind fun k s3 => if k = true then (vE GV (ioOf kt) c s3).bind fun u s4 => (Q.of (cmpV p y u) s4).bind fin else z s3)
      ((ev G a σ h).bind fun x h1 => (ev G b σ h1).bind fun y h2 => (cmpW o x y h2).bind fun q h3 => (asB q h3).bind fun k h4 => if k = true then (ev G c σ h4).bind fun u h5 => (cmpW p y u h5).bind fin' else z' h4) := by
  simp only [Bool.and_eq_true] at hk
  refine (Sa.e F hk.1.1).1.bind fun x x' s1 h1 P1 x1 _ F1 r1 => (Sb.e F1 hk.1.2).1.bind fun y y' s2 h2 P2 x2 md2 F2 r2 => ?_
  cases hc : cmpV o x y with
  | none => trivial
  | some q =>
    rw [cmpV_ok (.s (r1.ext x2)) (.s r2) hc]
    simp only [Q.of_some, Q.bind_ok, R.bind_ok, asB]
    cases q with
    | false =>
      simp only [if_false, Bool.false_eq_true]
      exact (k2 s2 h2 P2 F2).sub (by simp)
    | true =>
      simp only [if_true]
      refine (Sc.e F2 hk.2).1.bind0 fun u u' s3 h3 P3 x3 md3 F3 r3 => ?_
      cases hc2 : cmpV p y u with
      | none => trivial
      | some q2 =>
        rw [cmpV_ok (.s (r2.ext x3)) (.s r3) hc2]
        exact k1 q2 s3 h3 P3 F3
/-- the truth of a value -/
theorem tru_ok {u w : W} (F : Fr base kd P h s σ C) (t : Tp h P u w) : RelQ (fun _ _ a b => a = b) base kd P h σ C [] (Q.of (truV u) s) (asT w h) :=
  RelQ.of F fun b e => ⟨b, by simp only [asT, truV_ok t e], rfl⟩
theorem okA_no {all : List Nat} {pk : List Kd} {x : E} (h : okA kt kd all pk x = true) : x = .nil ∨ ∃ a r, x = .cons a r := by
  cases x with
  | nil => exact .inl rfl
  | cons a r => exact .inr ⟨a, r, rfl⟩
  | _ => cases pk with
    | nil => simp [okA] at h
    | cons k pk => cases k <;> simp [okA] at h
/-- a value's word alone -/
theorem SimE.val {x : E} (n1 : ∀ kd, okC kt kd x = false) (n2 : ∀ kd, okEs kt kd x = false) (n3 : ∀ kd, okOs kt kd x = false) (n4 : ∀ kd, okP kt kd x = false) (n5 : ∀ kd L, okI kt kd L x = false) (n6 : x ≠ .nil ∧ ∀ a r, x ≠ .cons a r)
    (e : ∀ {base : Nat} {kd : List Kd} {P : Nat → Prop} {h : OH} {s σ : Sl} {C : Nat → List Nat}, Fr base kd P h s σ C → okE kt kd x = true →
      RelQ Rp base kd P h σ C (muts (ioOf kt) x) (vE GV (ioOf kt) x s) (ev G x σ h) ∧ (freshE kt x = true → RelQ (FoR h.length) base kd P h σ C (muts (ioOf kt) x) (vE GV (ioOf kt) x s) (ev G x σ h)))
    (t : ∀ {base : Nat} {kd : List Kd} {P : Nat → Prop} {h : OH} {s σ : Sl} {C : Nat → List Nat}, Fr base kd P h s σ C → okT kt kd x = true → RelQ (fun _ _ a b => a = b) base kd P h σ C (muts (ioOf kt) x) (vT GV (ioOf kt) x s) (evT G x σ h)) : SimE kt GV G x :=
  ⟨e, t, fun _ z => by (rw [n1] at z; cases z), fun _ z => by (rw [n2] at z; cases z), fun _ z => by (rw [n3] at z; cases z), fun _ _ _ z => ((okA_no z).elim n6.1 fun ⟨a, r, q⟩ => n6.2 a r q).elim, fun _ z => by (rw [n4] at z; cases z), fun _ _ z => by (rw [n5] at z; cases z)⟩
theorem unlist {x : E} (n1 : ∀ kd, okE kt kd x = false) (n2 : ∀ kd, okT kt kd x = false) (n3 : ∀ kd, okC kt kd x = false) (n4 : ∀ kd, okEs kt kd x = false) (n5 : ∀ kd, okOs kt kd x = false) (n6 : x ≠ .nil ∧ ∀ a r, x ≠ .cons a r) (n7 : ∀ kd, okP kt kd x = false)
    (i : ∀ {base : Nat} {kd : List Kd} {P : Nat → Prop} {h : OH} {s σ : Sl} {C : Nat → List Nat} (L : List Nat), Fr base kd P h s σ C → okI kt kd L x = true → RelQ (ItR C L) base kd P h σ C (muts (ioOf kt) x) (vI GV (ioOf kt) x s) (evI G x σ h)) : SimE kt GV G x :=
  ⟨fun _ z => by (rw [n1] at z; cases z), fun _ z => by (rw [n2] at z; cases z), fun _ z => by (rw [n3] at z; cases z), fun _ z => by (rw [n4] at z; cases z), fun _ z => by (rw [n5] at z; cases z), fun _ _ _ z => ((okA_no z).elim n6.1 fun ⟨a, r, q⟩ => n6.2 a r q).elim, fun _ z => by (rw [n7] at z; cases z), i⟩
/-- no test of its own -/
theorem noT {x : E} (n : ∀ kd, okT kt kd x = false) {base : Nat} {kd : List Kd} {P : Nat → Prop} {h : OH} {s σ : Sl} {C : Nat → List Nat} (F : Fr base kd P h s σ C) (z : okT kt kd x = true) : RelQ (fun _ _ a b => a = b) base kd P h σ C (muts (ioOf kt) x) (vT GV (ioOf kt) x s) (evT G x σ h) := by
  rw [n] at z; cases z
theorem list_new {us ws : List W} (F : Fr base kd P h s σ C) (r : Rps h P us ws) : RelQ (FoR h.length) base kd P h σ C [] (if lenOk us = true then Q.ok (.lst us) s else .no) (newLst ws h) := by
  unfold lenOk newLst
  rw [r.len]
  split
  · exact RelQ.new F r
  · trivial
theorem tup_new {us ws : List W} (F : Fr base kd P h s σ C) (r : Rps h P us ws) : RelQ (FoR h.length) base kd P h σ C [] (if lenOk us = true then Q.ok (.tup us) s else .no) (newTup ws h) := by
  unfold lenOk newTup
  rw [r.len]
  split
  · exact RelQ.okb F rfl (.tup r)
  · trivial
/-- a comprehension's turn -/
theorem turn_ok {rl : OH → (Nat → Prop) → W → W → Prop} {e t_ : E} {own : List Nat} {t : T} {cond : E} (Sc : SimE kt GV G cond)
    (Se : ∀ {P' : Nat → Prop} {h' : OH} {s' σ' : Sl} {C' : Nat → List Nat}, h.length ≤ h'.length → Fr base kd P' h' s' σ' C' → RelQ rl base kd P' h' σ' C' (muts (ioOf kt) e) (vE GV (ioOf kt) e s') (ev G e σ' h'))
    (ho : (own.all fun i => decide (kOf kd i = .S)) = true) (ht : ((tsl t).all fun i => own.contains i) = true) (hc : okC kt kd cond = true) {u w : W} (F : Fr base kd P h s σ C) (r : Rp h P u w) :
    RelQ (OptR rl) base kd P h σ C (muts (ioOf kt) cond ++ muts (ioOf kt) e)
      (Q.calm (match asgT t u (wipeS s own) with
        | some s3 => (vC GV (ioOf kt) cond s3).bind fun k s4 => if k = true then (vE GV (ioOf kt) e s4).bind fun y s5 => .ok (some y) (restS s own s5) else .ok none (restS s own s4)
        | none => .no))
      ((asgR t w (wipeS σ own) h).bind fun s' h3 => (evC G cond s' h3).bind fun k h4 => if k = true then (ev G e s' h4).bind fun y h5 => .ok (some y) h5 else .ok none h4) := by
  have hS : ∀ i ∈ own, kOf kd i = .S := fun i hi => by simpa using (List.all_eq_true.mp ho) i hi
  have hT : ∀ i ∈ tsl t, i ∈ own := fun i hi => by simpa using (List.all_eq_true.mp ht) i hi
  cases e1 : asgT t u (wipeS s own) with
  | none => trivial
  | some s3 =>
    obtain ⟨σ3, e2, F3⟩ := asgT_ok t (F.wipe2 hS) (fun i hi => hS i (hT i hi)) r e1
    dsimp only
    simp only [asgR, e2, R.bind_ok]
    -- back to the frame without the comprehension's names
    have back : ∀ {P' : Nat → Prop} {h' : OH} {s5 : Sl}, Ext P h P' h' → Fr base kd P' h' s5 σ3 C → Fr base kd P' h' (restS s own s5) σ C := fun {P' h' s5} x F5 => by
      have same : ∀ j, j ∉ own → getS σ3 j = getS σ j := fun j hj => by
        rw [asgT_ne t _ _ _ e2 j fun hm => hj (hT j hm), getS_wipe_ne hj]
      have hlen : σ3.length = σ.length := by rw [asgT_len t _ _ _ e2, wipeS_len]
      refine ⟨by rw [restS_len, F5.len, hlen], fun j v hj => ?_, F5.dis, F5.out, F5.inn, F5.cin, F5.own, fun j n hb hs => F5.bout j n hb ?_⟩
      · rcases getS_restS hj with ⟨h1, h2⟩ | ⟨h1, h2⟩
        · obtain ⟨w', e5, q⟩ := F.sl j v h2
          rw [hS j h1] at q
          exact ⟨w', e5, by rw [hS j h1]; exact Rp.ext q x⟩
        · obtain ⟨w', e5, q⟩ := F5.sl j v h2
          exact ⟨w', by rw [← same j h1]; exact e5, q⟩
      · by_cases hm : j ∈ own
        · rw [hS j hm] at hb; cases hb
        · rw [same j hm]; exact hs
    have go : ∀ {M : List Nat} {q : Q (Option W)} {r : R (Option W)}, RelQ (OptR rl) base kd P h σ3 C M q r → RelQ (OptR rl) base kd P h σ C M (match q with | .ok o s5 => .ok o (restS s own s5) | .exc c fs s5 => .exc c fs (restS s own s5) | .no => .no) r := fun {M q r} a => by
      cases q with
      | ok o s5 =>
        obtain ⟨w', h', P', e5, x, md, F5, z⟩ := a
        exact ⟨w', h', P', e5, x, md, back x F5, z⟩
      | exc c fs s5 =>
        obtain ⟨w', h', P', e5, x, md, F5, z⟩ := a
        exact ⟨w', h', P', e5, x, md, back x F5, z⟩
      | no => trivial
    have main : RelQ (OptR rl) base kd P h σ3 C (muts (ioOf kt) cond ++ muts (ioOf kt) e) ((vC GV (ioOf kt) cond s3).bind fun k s4 => if k = true then (vE GV (ioOf kt) e s4).bind fun y s5 => .ok (some y) s5 else .ok none s4)
        ((evC G cond σ3 h).bind fun k h4 => if k = true then (ev G e σ3 h4).bind fun y h5 => .ok (some y) h5 else .ok none h4) := by
      refine (Sc.c F3 hc).bind fun k k' s4 h4 P4 x4 md4 F4 ek => ?_
      subst ek
      cases k with
      | false =>
        simp only [if_false, Bool.false_eq_true]
        exact RelQ.ok F4 trivial
      | true =>
        simp only [if_true]
        exact (Se x4.len F4).bind0 fun y y' s5 h5 P5 x5 md5 F5 z => RelQ.ok F5 z
    have g := go main
    cases h1 : vC GV (ioOf kt) cond s3 with
    | ok k s4 =>
      rw [h1] at g
      cases k with
      | false => simpa only [Q.bind_ok, if_false, Bool.false_eq_true, Q.calm_ok] using g
      | true =>
        simp only [Q.bind_ok, if_true] at g ⊢
        cases h2 : vE GV (ioOf kt) e s4 with
        | ok y s5 => rw [h2] at g; exact g
        | exc c fs s5 => trivial
        | no => trivial
    | exc c fs s4 => trivial
    | no => trivial
end
end Vm
end

section
set_option Elab.async false
set_option linter.all false
set_option maxRecDepth 100000
set_option maxHeartbeats 4000000
set_option autoImplicit false
/-! Runs over values are runs over a heap: all expressions. -/
namespace Vm
open PySem Wm
section
variable {kt : List Ki} {GV : Nat → List W → Q W} {G : Nat → List W → OH → R W}
theorem tru_of {M : List Nat} {base : Nat} {kd : List Kd} {P : Nat → Prop} {h : OH} {σ : Sl} {C : Nat → List Nat} {q : Q W} {r : R W} (a : RelQ Tp base kd P h σ C M q r) : RelQ (fun _ _ a b => a = b) base kd P h σ C M (q.bind fun w s2 => Q.of (truV w) s2) (r.bind asT) :=
  a.bind0 fun u w s1 h1 P1 x1 md1 F1 t => tru_ok F1 t
theorem rp_tp {M : List Nat} {base : Nat} {kd : List Kd} {P : Nat → Prop} {h : OH} {σ : Sl} {C : Nat → List Nat} {q : Q W} {r : R W} (a : RelQ Rp base kd P h σ C M q r) : RelQ Tp base kd P h σ C M q r := a.mono (fun _ z => z) fun _ _ _ _ z => .s z
theorem cmp_ok {o : Cop} {a b : E} (Sa : SimE kt GV G a) (Sb : SimE kt GV G b) {base : Nat} {kd : List Kd} {P : Nat → Prop} {h : OH} {s σ : Sl} {C : Nat → List Nat} (F : Fr base kd P h s σ C) (hk : ((opV kd (muts (ioOf kt) b) a || okE kt kd a) && (opV kd [] b || okE kt kd b)) = true) :
    RelQ (FoR h.length) base kd P h σ C (muts (ioOf kt) a ++ muts (ioOf kt) b) ((vE GV (ioOf kt) a s).bind fun x s1 => (vE GV (ioOf kt) b s1).bind fun y s2 => (Q.of (cmpV o x y) s2).bind fun k s3 => .ok (.bl k) s3) ((ev G a σ h).bind fun x h1 => (ev G b σ h1).bind fun y h2 => cmpW o x y h2) := by
  rw [Bool.and_eq_true] at hk
  refine opd2 Sa Sb F hk.1 hk.2 fun x y x' y' s' h' P' _ F' tx ty => ?_
  cases hc : cmpV o x y with
  | none => trivial
  | some k =>
    rw [cmpV_ok tx ty hc]
    exact RelQ.okb F' rfl (.bl k)
theorem cmpT_ok {o : Cop} {a b : E} (Sa : SimE kt GV G a) (Sb : SimE kt GV G b) {base : Nat} {kd : List Kd} {P : Nat → Prop} {h : OH} {s σ : Sl} {C : Nat → List Nat} (F : Fr base kd P h s σ C) (hk : ((opV kd (muts (ioOf kt) b) a || okE kt kd a) && (opV kd [] b || okE kt kd b)) = true) :
    RelQ (fun _ _ a b => a = b) base kd P h σ C (muts (ioOf kt) a ++ muts (ioOf kt) b) ((vE GV (ioOf kt) a s).bind fun x s1 => (vE GV (ioOf kt) b s1).bind fun y s2 => Q.of (cmpV o x y) s2) ((ev G a σ h).bind fun x h1 => (ev G b σ h1).bind fun y h2 => (cmpW o x y h2).bind asB) := by
  rw [Bool.and_eq_true] at hk
  refine opd2 Sa Sb F hk.1 hk.2 fun x y x' y' s' h' P' _ F' tx ty => ?_
  cases hc : cmpV o x y with
  | none => trivial
  | some k =>
    rw [cmpV_ok tx ty hc]
    exact RelQ.ok F' rfl
theorem bi_ok' {b : Bi} {as : E} (Sa : SimE kt GV G as) {base : Nat} {kd : List Kd} {P : Nat → Prop} {h : OH} {s σ : Sl} {C : Nat → List Nat} (F : Fr base kd P h s σ C) (hk : okOs kt kd as = true) :
    RelQ (FoR h.length) base kd P h σ C (muts (ioOf kt) as) ((vs GV (ioOf kt) as s).bind fun ws s1 => Q.of (biV' b ws) s1) ((evs G as σ h).bind fun ws h1 => biW b ws h1) :=
  (Sa.o F hk).bind0 fun us ws s1 h1 P1 x1 md1 F1 t => FoR.from x1.len (biV_ok F1 t)
theorem isi_ok' {ts : List String} {a : E} (Sa : SimE kt GV G a) {base : Nat} {kd : List Kd} {P : Nat → Prop} {h : OH} {s σ : Sl} {C : Nat → List Nat} (F : Fr base kd P h s σ C) (hk : (opV kd [] a || okE kt kd a) = true) :
    RelQ (FoR h.length) base kd P h σ C (muts (ioOf kt) a) ((vE GV (ioOf kt) a s).bind fun x s1 => (Q.of (isiO ts x) s1).bind fun k s2 => .ok (.bl k) s2) ((ev G a σ h).bind fun x h1 => isiR ts x h1) := by
  refine opd1 Sa F hk fun x x' s' h' P' _ F' tx => ?_
  cases hc : isiO ts x with
  | none => trivial
  | some k =>
    rw [isiV_ok tx hc]
    exact RelQ.okb F' rfl (.bl k)
theorem ix_okV {a b : E} (Sa : SimE kt GV G a) (Sb : SimE kt GV G b) {base : Nat} {kd : List Kd} {P : Nat → Prop} {h : OH} {s σ : Sl} {C : Nat → List Nat} (F : Fr base kd P h s σ C) (hk : ((opV kd (muts (ioOf kt) b) a || okE kt kd a) && (opV kd [] b || okE kt kd b)) = true) :
    RelQ Rp base kd P h σ C (muts (ioOf kt) a ++ muts (ioOf kt) b) ((vE GV (ioOf kt) a s).bind fun x s1 => (vE GV (ioOf kt) b s1).bind fun y s2 => Q.of (ixV x y) s2) ((ev G a σ h).bind fun x h1 => (ev G b σ h1).bind fun y h2 => ixW x y h2) := by
  rw [Bool.and_eq_true] at hk
  exact opd2 Sa Sb F hk.1 hk.2 fun x y x' y' s' h' P' _ F' tx ty => RelQ.of F' fun u e => ixV_ok tx ty e
theorem rows_get {h : OH} {P : Nat → Prop} {rs ws : List W} {ns : List Nat} (r : Rows h P rs ws ns) : ∀ (j : Nat) (u : W), rs[j]? = some u → ∃ w c, ws[j]? = some w ∧ Own h P u w c ∧ ∀ n ∈ c, n ∈ ns := by
  induction r with
  | nil => intro j u e; simp at e
  | cons o r ih =>
    intro j u e
    cases j with
    | zero => simp at e; subst e; exact ⟨_, _, rfl, o, fun n hn => List.mem_append_left _ hn⟩
    | succ j =>
      obtain ⟨w, c, h1, h2, h3⟩ := ih j u (by simpa using e)
      exact ⟨w, c, by simpa using h1, h2, fun n hn => List.mem_append_right _ (h3 n hn)⟩
theorem rows_len {h : OH} {P : Nat → Prop} {rs ws : List W} {ns : List Nat} (r : Rows h P rs ws ns) : rs.length = ws.length := by
  induction r with
  | nil => rfl
  | cons o r ih => simp [ih]
theorem ixrow_ok {c b : E} {i : Nat} (Sc : SimE kt GV G c) (Sb : SimE kt GV G b) {base : Nat} {kd : List Kd} {P : Nat → Prop} {h : OH} {s σ : Sl} {C : Nat → List Nat} (F : Fr base kd P h s σ C) (hk : kOf kd i = .O2)
    (ho : (okE kt kd c && okE kt kd b && !(muts (ioOf kt) c).contains i && !(muts (ioOf kt) b).contains i) = true) :
    RelQ Rp base kd P h σ C (muts (ioOf kt) (.ix (.v i) c) ++ muts (ioOf kt) b) ((vE GV (ioOf kt) (.ix (.v i) c) s).bind fun x s1 => (vE GV (ioOf kt) b s1).bind fun y s2 => Q.of (ixV x y) s2) ((ev G (.ix (.v i) c) σ h).bind fun x h1 => (ev G b σ h1).bind fun y h2 => ixW x y h2) := by
  simp only [Bool.and_eq_true, Bool.not_eq_true', List.contains_eq_mem, decide_eq_false_iff_not] at ho
  obtain ⟨⟨⟨h1, h2⟩, h3⟩, h4⟩ := ho
  simp only [vE, ev]
  cases e : getS s i with
  | none => trivial
  | some y =>
    obtain ⟨w0, e1, q⟩ := F.sl i y e
    simp only [e1, Q.of_some, Q.bind_ok, R.bind_ok]
    have z := (Sc.e F h1).1
    -- the index, then the row, then its index
    have key : RelQ Rp base kd P h σ C (muts (ioOf kt) c ++ muts (ioOf kt) b) ((vE GV (ioOf kt) c s).bind fun a s1 => (Q.of (ixV y a) s1).bind fun x s1 => (vE GV (ioOf kt) b s1).bind fun y s2 => Q.of (ixV x y) s2) ((ev G c σ h).bind fun a h1 => (ixW w0 a h1).bind fun x h1 => (ev G b σ h1).bind fun y h2 => ixW x y h2) := by
      refine z.bind fun a a' s1 h1' P1 x1 md1 F1 ra => ?_
      cases hu : ixV y a with
      | none => trivial
      | some u =>
        -- the slot holds as it did
        have hsl : SlotR h1' P1 (kOf kd i) y w0 (C i) := by
          rw [hk] at q ⊢
          exact Own2.mv q (fun m p => ⟨x1.sub m p, x1.keep m p⟩) fun n hn => md1 n (F.cin i n hn) fun j hj hnj => h3 (F.dis i j n hn hnj ▸ hj)
        rw [hk] at hsl
        -- as row_get, over this slot
        have get : ∃ w, ixW w0 a' h1' = .ok w h1' ∧ ToR C (muts (ioOf kt) b) h1' P1 u w := by
          generalize hc : C i = cc at hsl
          have hsl : Own2 h1' P1 y w0 cc := hsl
          cases hsl with
          | bare bb qq =>
            obtain ⟨w, e2, r⟩ := ixV_ok (.s qq) (.s ra) hu
            exact ⟨w, e2, r.to⟩
          | lst en r nd =>
            rename_i n rs ws ns
            unfold ixV at hu
            split at hu
            · rename_i j
              simp only [vseq] at hu
              split at hu
              · rename_i k ek
                obtain ⟨w, c', g1, g2, g3⟩ := rows_get r k u hu
                cases ra
                refine ⟨w, ?_, g2.tp, fun m em => ?_⟩
                · simp only [ixW, seqOf, items, en, ← rows_len r, ek, g1]
                · subst em
                  have hm : m ∈ C i := by rw [hc]; exact List.mem_cons_of_mem _ (g3 m (by rw [g2.ref]; simp))
                  exact .inr ⟨F1.cin i m hm, fun j hj hmj => h4 (F1.dis i j m hm hmj ▸ hj)⟩
              · cases hu
            · cases hu
        obtain ⟨w, e2, tw⟩ := get
        simp only [Q.of_some, Q.bind_ok, e2, R.bind_ok]
        exact (Sb.e F1 h2).1.bind0 fun b1 b1' s2 h2' P2 x2 md2 F2 rb => RelQ.of F2 fun v ev' => ixV_ok (tw.ext x2 md2 fun i hi => hi) (.s rb) ev'
    have as1 : ∀ {α β : Type} (q : Q α) (f : α → Sl → Q β) {γ : Type} (g : β → Sl → Q γ), (q.bind f).bind g = q.bind fun a s => (f a s).bind g := fun q f _ g => by cases q <;> rfl
    have as2 : ∀ {α β : Type} (q : R α) (f : α → OH → R β) {γ : Type} (g : β → OH → R γ), (q.bind f).bind g = q.bind fun a s => (f a s).bind g := fun q f _ g => by cases q <;> rfl
    rw [as1, as2]
    simpa only [muts, List.nil_append] using key
theorem call_okE {f : Nat} {as : E} (cs : CallSim kt GV G) (Sa : SimE kt GV G as) {base : Nat} {kd : List Kd} {P : Nat → Prop} {h : OH} {s σ : Sl} {C : Nat → List Nat} (F : Fr base kd P h s σ C) (hk : okA kt kd (ioSl (ioOf kt f) as) (ksOf kt f) as = true) (kk : ∀ i ∈ ioSl (ioOf kt f) as, kOf kd i = .O ∨ kOf kd i = .I) :
    RelQ (RetR (frOf kt f) h.length) base kd P h σ C (muts (ioOf kt) as ++ ioSl (ioOf kt f) as) ((vA GV (ioOf kt) (ioOf kt f) as s).bind fun ws s1 => (GV f ws).back (ioOf kt f) as s1) ((evs G as σ h).bind fun ws h1 => G f ws h1) := by
  have a := Sa.a (ioSl (ioOf kt f) as) (ksOf kt f) F hk
  rw [← ioOf_ks] at a
  refine a.bind fun us ws s1 h1 P1 x1 md1 F1 ar => ?_
  refine (call_ok cs F1 ar kk).mono (fun _ z => z) fun h2 P2 u w z => ?_
  unfold RetR at z ⊢
  split at z
  · rename_i hf; rw [if_pos hf]; exact z.le x1.len
  · rename_i hf; rw [if_neg hf]; exact z
theorem okA_io : ∀ {kd : List Kd} {all : List Nat} {pk : List Kd} {as : E}, okA kt kd all pk as = true → ∀ i ∈ ioSl (pk.map Kd.io) as, kOf kd i = .O ∨ kOf kd i = .I := by
  intro kd all pk
  induction pk with
  | nil => intro as h i hi; cases as <;> simp [ioSl] at hi
  | cons k pk ih =>
    intro as h i hi
    cases as with
    | cons a r =>
      cases k with
      | S =>
        simp only [okA, Bool.and_eq_true] at h
        simp only [List.map_cons, Kd.io] at hi
        exact ih h.2 i (by cases a <;> simpa [ioSl] using hi)
      | B =>
        simp only [okA, Bool.and_eq_true] at h
        simp only [List.map_cons, Kd.io] at hi
        exact ih h.2 i (by cases a <;> simpa [ioSl] using hi)
      | I =>
        cases a with
        | v j =>
          simp only [okA, Bool.and_eq_true, Bool.or_eq_true, decide_eq_true_eq] at h
          simp only [List.map_cons, Kd.io, ioSl, List.mem_cons] at hi
          rcases hi with rfl | hi
          · exact h.1.1
          · exact ih h.2 i hi
        | _ => simp [okA] at h
      | O => simp [okA] at h
      | O2 => simp [okA] at h
    | _ => simp [ioSl] at hi
theorem ret_rp {fr : Bool} {base : Nat} {kd : List Kd} {P : Nat → Prop} {h : OH} {s σ : Sl} {C : Nat → List Nat} {M : List Nat} {q : Q W} {r : R W} (F : Fr base kd P h s σ C) (a : RelQ (RetR fr h.length) base kd P h σ C M q r) : RelQ Rp base kd P h σ C M q r := by
  cases fr with
  | true => exact RelQ.unF F (Nat.le_refl _) (a.mono (fun _ z => z) fun _ _ _ _ z => by simpa [RetR] using z)
  | false => exact a.mono (fun _ z => z) fun _ _ _ _ z => by simpa [RetR] using z
end
end Vm
end

section
set_option Elab.async false
set_option linter.all false
set_option maxRecDepth 100000
set_option maxHeartbeats 4000000
set_option autoImplicit false
/-! Runs over values are runs over a heap: the induction over expressions. -/
namespace Vm
open PySem Wm
section
variable {kt : List Ki} {GV : Nat → List W → Q W} {G : Nat → List W → OH → R W}
theorem simE (cs : CallSim kt GV G) : ∀ x : E, SimE kt GV G x
  | .v i => by
    refine SimE.val (fun _ => rfl) (fun _ => rfl) (fun _ => rfl) (fun _ => rfl) (fun _ _ => rfl) ⟨nofun, nofun⟩ (fun {base kd P h s σ C} F z => ⟨?_, nofun⟩) (fun {base kd P h s σ C} F z => ?_)
    · show RelQ _ _ _ _ _ _ _ _ (Q.of (getS s i) s) _
      refine RelQ.of F fun u e => ?_
      obtain ⟨w, e1, r⟩ := slot_rp F (by simpa [okE] using z) e
      exact ⟨w, by simp only [ev, e1], r⟩
    · simp only [vT, evT]
      cases e : getS s i with
      | none => trivial
      | some u =>
        obtain ⟨w, e1, t⟩ := slot_to (L := []) F (by simpa [okT] using z) e
        simp only [e1, Q.of_some, Q.bind_ok, R.bind_ok]
        exact tru_ok F t.1
  | .c w => by
    refine SimE.val (fun _ => rfl) (fun _ => rfl) (fun _ => rfl) (fun _ => rfl) (fun _ _ => rfl) ⟨nofun, nofun⟩ (fun {base kd P h s σ C} F z => ⟨RelQ.ok F (Rp.pure w z), fun b => RelQ.ok F (.bare b (Rp.pure w z))⟩) (fun {base kd P h s σ C} F z => ?_)
    simp only [vT, evT]
    exact tru_ok F (.s (Rp.pure w z))
  | .nil => by
    refine ⟨nofun, nofun, fun F z => RelQ.ok F rfl, fun F z => RelQ.ok F .nil, fun F z => RelQ.ok F .nil, fun {base kd P h s σ C} all pk F z => ?_, fun F z => RelQ.ok F rfl, nofun⟩
    have : vA GV (ioOf kt) (pk.map Kd.io) .nil s = .ok [] s := by
      cases pk with
      | nil => rfl
      | cons k pk => cases k <;> rfl
    rw [this]
    exact RelQ.ok F .nil
  | .cons a r => by
    have Sa := simE cs a
    have Sr := simE cs r
    refine ⟨nofun, nofun, fun {base kd P h s σ C} F z => ?_, fun {base kd P h s σ C} F z => ?_, fun {base kd P h s σ C} F z => ?_, fun {base kd P h s σ C} all pk F z => ?_, fun {base kd P h s σ C} F z => ?_, nofun⟩
    · cases r with
      | nil => simpa only [vC, evC, muts, List.append_nil] using Sa.t F (by simpa only [okC] using z)
      | _ => simp [okC] at z
    · simp only [okEs, Bool.and_eq_true] at z
      simp only [vs, evs, muts]
      exact (Sa.e F z.1).1.bind fun u w s1 h1 P1 x1 md1 F1 r1 => (Sr.s F1 z.2).bind0 fun us ws s2 h2 P2 x2 md2 F2 r2 => RelQ.ok F2 (.cons (r1.ext x2) r2)
    · simp only [okOs, Bool.and_eq_true] at z
      simp only [vs, evs, muts]
      exact (opd Sa F z.1).bind fun u w s1 h1 P1 x1 md1 F1 r1 => (Sr.o F1 z.2).bind0 fun us ws s2 h2 P2 x2 md2 F2 r2 => RelQ.ok F2 (.cons (r1.ext x2 md2 fun i hi => hi) r2)
    · cases pk with
      | nil => simp [okA] at z
      | cons k pk =>
        cases k with
        | S =>
          simp only [okA, Bool.and_eq_true] at z
          simp only [List.map_cons, Kd.io, vA, evs, muts]
          exact (Sa.e F z.1).1.bind fun u w s1 h1 P1 x1 md1 F1 r1 => (Sr.a all pk F1 z.2).bind0 fun us ws s2 h2 P2 x2 md2 F2 r2 => RelQ.ok F2 (.S (r1.ext x2) r2)
        | B =>
          simp only [okA, Bool.and_eq_true] at z
          simp only [List.map_cons, Kd.io, vA, evs, muts]
          exact (opd Sa F z.1).bind fun u w s1 h1 P1 x1 md1 F1 r1 => (Sr.a all pk F1 z.2).bind0 fun us ws s2 h2 P2 x2 md2 F2 r2 => RelQ.ok F2 (.B (r1.ext2 x2 md2 (fun i hi => List.mem_append_left _ hi) fun i hi => List.mem_append_right _ hi) r2)
        | I =>
          cases a with
          | v i =>
            simp only [okA, Bool.and_eq_true, Bool.not_eq_true', List.contains_eq_mem, decide_eq_false_iff_not, Bool.or_eq_true, decide_eq_true_eq] at z
            simp only [List.map_cons, Kd.io, vA, evs, muts, ev, List.nil_append]
            cases e : getS s i with
            | none => trivial
            | some u0 =>
              obtain ⟨w0, e1, _⟩ := F.sl i u0 e
              simp only [e1, Q.of_some, Q.bind_ok, R.bind_ok]
              refine (Sr.a all pk F z.2).bind0 fun us ws s2 h2 P2 x2 md2 F2 r2 => ?_
              cases e2 : getS s2 i with
              | none => trivial
              | some u =>
                obtain ⟨w, e3, o⟩ := slot_own F2 z.1.1 e2
                rw [e1] at e3; cases e3
                exact RelQ.ok F2 (.I e1 o z.1.2 r2)
          | _ => simp [okA] at z
        | O => simp [okA] at z
        | O2 => simp [okA] at z
    · cases r with
      | nil =>
        have z : okE kt kd a = true := by simpa only [okP] using z
        simp only [vO, evO, muts, List.append_nil]
        refine (Sa.e F z).1.bind0 fun u w s1 h1 P1 x1 md1 F1 r1 => RelQ.of F1 fun o e => ?_
        cases u with
        | int i =>
          cases r1
          simp only [asIV, Option.some.injEq] at e
          exact ⟨some i, rfl, e.symm⟩
        | _ => cases e
      | _ => simp [okP] at z
  | .bin o a b => by
    have Sa := simE cs a
    have Sb := simE cs b
    refine SimE.val (fun _ => rfl) (fun _ => rfl) (fun _ => rfl) (fun _ => rfl) (fun _ _ => rfl) ⟨nofun, nofun⟩ (fun {base kd P h s σ C} F z => both F ?_) (noT fun _ => rfl)
    simp only [okE, Bool.and_eq_true] at z
    simp only [vE, ev, muts]
    exact opd2 Sa Sb F z.1 z.2 fun x y x' y' s' h' P' e F' tx ty => FoR.from e.len (binV_ok F' tx ty)
  | .neg a => by
    have Sa := simE cs a
    refine SimE.val (fun _ => rfl) (fun _ => rfl) (fun _ => rfl) (fun _ => rfl) (fun _ _ => rfl) ⟨nofun, nofun⟩ (fun {base kd P h s σ C} F z => both F ?_) (noT fun _ => rfl)
    simp only [okE] at z
    simp only [vE, ev, muts]
    exact opd1 Sa F z fun x x' s' h' P' e F' tx => FoR.from e.len (negV_ok F' tx)
  | .cmp o a b => by
    have Sa := simE cs a
    have Sb := simE cs b
    refine SimE.val (fun _ => rfl) (fun _ => rfl) (fun _ => rfl) (fun _ => rfl) (fun _ _ => rfl) ⟨nofun, nofun⟩ (fun {base kd P h s σ C} F z => both F ?_) (fun {base kd P h s σ C} F z => ?_)
    · simp only [okE] at z
      simp only [vE, ev, muts]
      exact cmp_ok Sa Sb F z
    · simp only [okT] at z
      simp only [vT, evT, muts]
      exact cmpT_ok Sa Sb F z
  | .chain o p a b c => by
    have Sa := simE cs a
    have Sb := simE cs b
    have Sc := simE cs c
    refine SimE.val (fun _ => rfl) (fun _ => rfl) (fun _ => rfl) (fun _ => rfl) (fun _ _ => rfl) ⟨nofun, nofun⟩ (fun {base kd P h s σ C} F z => both F ?_) (fun {base kd P h s σ C} F z => ?_)
    · simp only [okE] at z
      simp only [vE, ev, muts]
      have idr : ∀ q : R W, (q.bind fun w h => .ok w h) = q := fun q => by cases q <;> rfl
      have := chain_ok (rl := FoR h.length) (o := o) (p := p) (fin := fun k s => .ok (.bl k) s) (z := fun s => .ok (.bl false) s) (fin' := fun w h => .ok w h) (z' := fun h => .ok (.bl false) h) Sa Sb Sc F z (fun t s' h' P' F' => RelQ.okb F' rfl (.bl t)) (fun s' h' P' F' => RelQ.okb F' rfl (.bl _))
      simpa only [idr] using this
    · simp only [okT] at z
      simp only [vT, evT, muts]
      have idq : ∀ q : Q Bool, (q.bind fun w h => .ok w h) = q := fun q => by cases q <;> rfl
      have := chain_ok (rl := fun _ _ a b => a = b) (o := o) (p := p) (fin := fun k s => .ok k s) (z := fun s => .ok false s) (fin' := asB) (z' := fun h => .ok false h) Sa Sb Sc F z (fun t s' h' P' F' => RelQ.ok F' rfl) (fun s' h' P' F' => RelQ.ok F' rfl)
      simpa only [idq] using this
  | .and a b => by
    have Sa := simE cs a
    have Sb := simE cs b
    refine SimE.val (fun _ => rfl) (fun _ => rfl) (fun _ => rfl) (fun _ => rfl) (fun _ _ => rfl) ⟨nofun, nofun⟩ (fun {base kd P h s σ C} F z => ⟨?_, nofun⟩) (fun {base kd P h s σ C} F z => ?_)
    · simp only [okE, Bool.and_eq_true] at z
      simp only [vE, ev, muts]
      refine (Sa.e F z.1).1.bind fun x x' s1 h1 P1 x1 md1 F1 r1 => ?_
      have := (tru_ok F1 (.s r1)).bind (f := fun k s2 => if k = true then vE GV (ioOf kt) b s2 else .ok x s2) (g := fun k h2 => if k = true then ev G b σ h2 else .ok x' h2) (r2 := Rp) (M' := muts (ioOf kt) b) fun k k' s2 h2 P2 x2 md2 F2 ek => by
        subst ek
        cases k with
        | true => simpa only [if_true] using (Sb.e F2 z.2).1
        | false => simpa only [if_false, Bool.false_eq_true] using RelQ.ok F2 (r1.ext x2)
      simpa only [List.nil_append] using this
    · simp only [okT, Bool.and_eq_true] at z
      simp only [vT, evT, muts]
      refine (Sa.t F z.1).bind fun k k' s1 h1 P1 x1 md1 F1 ek => ?_
      subst ek
      cases k with
      | true => simpa only [if_true] using Sb.t F1 z.2
      | false => simpa only [if_false, Bool.false_eq_true] using RelQ.ok F1 rfl
  | .or a b => by
    have Sa := simE cs a
    have Sb := simE cs b
    refine SimE.val (fun _ => rfl) (fun _ => rfl) (fun _ => rfl) (fun _ => rfl) (fun _ _ => rfl) ⟨nofun, nofun⟩ (fun {base kd P h s σ C} F z => ⟨?_, nofun⟩) (fun {base kd P h s σ C} F z => ?_)
    · simp only [okE, Bool.and_eq_true] at z
      simp only [vE, ev, muts]
      refine (Sa.e F z.1).1.bind fun x x' s1 h1 P1 x1 md1 F1 r1 => ?_
      have := (tru_ok F1 (.s r1)).bind (f := fun k s2 => if k = true then .ok x s2 else vE GV (ioOf kt) b s2) (g := fun k h2 => if k = true then .ok x' h2 else ev G b σ h2) (r2 := Rp) (M' := muts (ioOf kt) b) fun k k' s2 h2 P2 x2 md2 F2 ek => by
        subst ek
        cases k with
        | true => simpa only [if_true] using RelQ.ok F2 (r1.ext x2)
        | false => simpa only [if_false, Bool.false_eq_true] using (Sb.e F2 z.2).1
      simpa only [List.nil_append] using this
    · simp only [okT, Bool.and_eq_true] at z
      simp only [vT, evT, muts]
      refine (Sa.t F z.1).bind fun k k' s1 h1 P1 x1 md1 F1 ek => ?_
      subst ek
      cases k with
      | true => simpa only [if_true] using RelQ.ok F1 rfl
      | false => simpa only [if_false, Bool.false_eq_true] using Sb.t F1 z.2
  | .not a => by
    have Sa := simE cs a
    refine SimE.val (fun _ => rfl) (fun _ => rfl) (fun _ => rfl) (fun _ => rfl) (fun _ _ => rfl) ⟨nofun, nofun⟩ (fun {base kd P h s σ C} F z => both F ?_) (fun {base kd P h s σ C} F z => ?_)
    · simp only [okE] at z
      simp only [vE, ev, muts]
      refine opd1 Sa F z fun x x' s1 h1 P1 x1 F1 t1 => (tru_ok F1 t1).bind0 fun k k' s2 h2 P2 x2 md2 F2 ek => ?_
      subst ek
      exact RelQ.okb F2 rfl (.bl _)
    · simp only [okT] at z
      simp only [vT, evT, muts]
      refine (Sa.t F z).bind0 fun k k' s1 h1 P1 x1 md1 F1 ek => ?_
      subst ek
      exact RelQ.ok F1 rfl
  | .ite t a b => by
    have St := simE cs t
    have Sa := simE cs a
    have Sb := simE cs b
    refine SimE.val (fun _ => rfl) (fun _ => rfl) (fun _ => rfl) (fun _ => rfl) (fun _ _ => rfl) ⟨nofun, nofun⟩ (fun {base kd P h s σ C} F z => ?_) (noT fun _ => rfl)
    simp only [okE, Bool.and_eq_true] at z
    simp only [vE, ev, muts, freshE, Bool.and_eq_true]
    refine ⟨(St.t F z.1.1).bind fun k k' s1 h1 P1 x1 md1 F1 ek => ?_, fun hf => (St.t F z.1.1).bind fun k k' s1 h1 P1 x1 md1 F1 ek => ?_⟩
    · subst ek
      cases k with
      | true => simpa only [if_true] using (Sa.e F1 z.1.2).1.sub fun i hi => List.mem_append_left _ hi
      | false => simpa only [if_false, Bool.false_eq_true] using (Sb.e F1 z.2).1.sub fun i hi => List.mem_append_right _ hi
    · subst ek
      cases k with
      | true => simpa only [if_true] using FoR.from x1.len (((Sa.e F1 z.1.2).2 hf.1).sub fun i hi => List.mem_append_left _ hi)
      | false => simpa only [if_false, Bool.false_eq_true] using FoR.from x1.len (((Sb.e F1 z.2).2 hf.2).sub fun i hi => List.mem_append_right _ hi)
  | .call f as => by
    have Sa := simE cs as
    refine SimE.val (fun _ => rfl) (fun _ => rfl) (fun _ => rfl) (fun _ => rfl) (fun _ _ => rfl) ⟨nofun, nofun⟩ (fun {base kd P h s σ C} F z => ?_) (fun {base kd P h s σ C} F z => ?_)
    · have z : okA kt kd (ioSl (ioOf kt f) as) (ksOf kt f) as = true := by simpa only [okE] using z
      have c := call_okE (f := f) cs Sa F z (by rw [ioOf_ks]; exact okA_io z)
      simp only [vE, ev, muts]
      refine ⟨ret_rp F c, fun hf => ?_⟩
      have hf : frOf kt f = true := hf
      rw [hf] at c
      exact c.mono (fun _ z => z) fun _ _ _ _ z => by simpa [RetR] using z
    · have z : okA kt kd (ioSl (ioOf kt f) as) (ksOf kt f) as = true := by simpa only [okT] using z
      have c := call_okE (f := f) cs Sa F z (by rw [ioOf_ks]; exact okA_io z)
      simp only [vT, evT, muts]
      exact tru_of (rp_tp (ret_rp F c))
  | .bi b as => by
    have Sa := simE cs as
    refine SimE.val (fun _ => rfl) (fun _ => rfl) (fun _ => rfl) (fun _ => rfl) (fun _ _ => rfl) ⟨nofun, nofun⟩ (fun {base kd P h s σ C} F z => both F ?_) (fun {base kd P h s σ C} F z => ?_)
    · simp only [okE] at z
      simp only [vE, ev, muts]
      exact bi_ok' Sa F z
    · simp only [okT] at z
      simp only [vT, evT, muts]
      exact tru_of (rp_tp (RelQ.unF F (Nat.le_refl _) (bi_ok' Sa F z)))
  | .isi a ts => by
    have Sa := simE cs a
    refine SimE.val (fun _ => rfl) (fun _ => rfl) (fun _ => rfl) (fun _ => rfl) (fun _ _ => rfl) ⟨nofun, nofun⟩ (fun {base kd P h s σ C} F z => both F ?_) (fun {base kd P h s σ C} F z => ?_)
    · simp only [okE] at z
      simp only [vE, ev, muts]
      exact isi_ok' Sa F z
    · simp only [okT] at z
      simp only [vT, evT, muts]
      have key : RelQ (fun _ _ a b => a = b) base kd P h σ C (muts (ioOf kt) a) ((vE GV (ioOf kt) a s).bind fun x s1 => Q.of (isiO ts x) s1) (((ev G a σ h).bind fun x h1 => isiR ts x h1).bind asT) := by
        have as2 : ∀ {α β : Type} (q : R α) (f : α → OH → R β) {γ : Type} (g : β → OH → R γ), (q.bind f).bind g = q.bind fun a s => (f a s).bind g := fun q f _ g => by cases q <;> rfl
        rw [as2]
        refine opd1 Sa F z fun x x' s' h' P' _ F' tx => ?_
        cases hc : isiO ts x with
        | none => trivial
        | some k =>
          rw [isiV_ok tx hc]
          exact RelQ.ok F' rfl
      exact key
  | .mt m o as => by
    have Sa := simE cs as
    refine SimE.val (fun _ => by cases o <;> rfl) (fun _ => by cases o <;> rfl) (fun _ => by cases o <;> rfl) (fun _ => by cases o <;> rfl) (fun _ _ => by cases o <;> rfl) ⟨nofun, nofun⟩ (fun {base kd P h s σ C} F z => ?_) (noT fun _ => by cases o <;> rfl)
    cases o with
    | v k =>
      simp only [okE, Bool.and_eq_true, Bool.or_eq_true, decide_eq_true_eq] at z
      refine ⟨?_, nofun⟩
      simp only [vE, muts]
      cases e : getS s k with
      | none => simp only [lstS, e, Q.of_none, Q.bind_no]; trivial
      | some y =>
        cases y with
        | lst us0 =>
          simp only [lstS, e, Q.of_some, Q.bind_ok]
          obtain ⟨w, e1, o1⟩ := slot_own F z.1 e
          obtain ⟨n, ws, rfl, _, _⟩ := o1.tp.lst_
          simp only [ev, e1, R.bind_ok, isRef]
          by_cases hm : m = .extend
          · subst hm
            exact (Sa.o F (by simpa using z.2)).bind fun us ws s1 h1 P1 x1 md1 F1 t => mt_okV F1 z.1 t (fun q => absurd rfl q) e1
          · exact (Sa.s F (by simpa [hm] using z.2)).bind fun us ws s1 h1 P1 x1 md1 F1 r => mt_okV F1 z.1 r.tps (fun _ => r) e1
        | _ => simp only [lstS, e, Q.of_none, Q.bind_no]; trivial
    | _ => simp [okE] at z
  | .tup as => by
    have Sa := simE cs as
    refine SimE.val (fun _ => rfl) (fun _ => rfl) (fun _ => rfl) (fun _ => rfl) (fun _ _ => rfl) ⟨nofun, nofun⟩ (fun {base kd P h s σ C} F z => both F ?_) (noT fun _ => rfl)
    simp only [okE] at z
    simp only [vE, ev, muts]
    exact (Sa.s F z).bind0 fun us ws s1 h1 P1 x1 md1 F1 r => FoR.from x1.len (tup_new F1 r)
  | .lst as => by
    have Sa := simE cs as
    refine SimE.val (fun _ => rfl) (fun _ => rfl) (fun _ => rfl) (fun _ => rfl) (fun _ _ => rfl) ⟨nofun, nofun⟩ (fun {base kd P h s σ C} F z => both F ?_) (noT fun _ => rfl)
    simp only [okE] at z
    simp only [vE, ev, muts]
    exact (Sa.s F z).bind0 fun us ws s1 h1 P1 x1 md1 F1 r => FoR.from x1.len (list_new F1 r)
  | .ix a b => by
    have Sa := simE cs a
    have Sb := simE cs b
    have key : ∀ {base : Nat} {kd : List Kd} {P : Nat → Prop} {h : OH} {s σ : Sl} {C : Nat → List Nat}, Fr base kd P h s σ C → okE kt kd (.ix a b) = true → RelQ Rp base kd P h σ C (muts (ioOf kt) (.ix a b)) (vE GV (ioOf kt) (.ix a b) s) (ev G (.ix a b) σ h) := fun {base kd P h s σ C} F z => by
      have plain : ((opV kd (muts (ioOf kt) b) a || okE kt kd a) && (opV kd [] b || okE kt kd b)) = true → RelQ Rp base kd P h σ C (muts (ioOf kt) (.ix a b)) (vE GV (ioOf kt) (.ix a b) s) (ev G (.ix a b) σ h) := fun z => by
        simp only [vE, ev, muts]
        exact ix_okV Sa Sb F z
      cases a with
      | ix a1 c =>
        cases a1 with
        | v i =>
          by_cases hk : kOf kd i = .O2
          · simp only [okE, hk, if_true] at z
            have Sc : SimE kt GV G c := simE cs c
            have := ixrow_ok Sc Sb F hk z
            simp only [vE, ev, muts] at this ⊢
            exact this
          · simp only [okE, hk, if_false] at z
            refine plain ?_
            simp only [Bool.and_eq_true] at z
            rw [Bool.and_eq_true]
            refine ⟨?_, z.2⟩
            rw [Bool.or_eq_true]
            right
            cases c <;> simp only [okE, Bool.and_eq_true] <;> exact z.1
        | _ => exact plain (by simpa only [okE] using z)
      | _ => exact plain (by simpa only [okE] using z)
    refine SimE.val (fun _ => rfl) (fun _ => rfl) (fun _ => rfl) (fun _ => rfl) (fun _ _ => rfl) ⟨nofun, nofun⟩ (fun {base kd P h s σ C} F z => ⟨key F z, nofun⟩) (fun {base kd P h s σ C} F z => ?_)
    simp only [okT] at z
    simp only [vT, evT, muts]
    exact tru_of (rp_tp (ix_okV Sa Sb F z))
  | .sl a lo hi => by
    have Sa := simE cs a
    have Sl := simE cs lo
    have Sh := simE cs hi
    refine SimE.val (fun _ => rfl) (fun _ => rfl) (fun _ => rfl) (fun _ => rfl) (fun _ _ => rfl) ⟨nofun, nofun⟩ (fun {base kd P h s σ C} F z => both F ?_) (noT fun _ => rfl)
    simp only [okE, Bool.and_eq_true] at z
    simp only [vE, ev, muts]
    refine (opd Sa F z.1.1).bind fun x x' s1 h1 P1 x1 md1 F1 t1 => (Sl.p F1 z.1.2).bind fun l l' s2 h2 P2 x2 md2 F2 el => (Sh.p F2 z.2).bind0 fun u u' s3 h3 P3 x3 md3 F3 eu => ?_
    subst el; subst eu
    have t2 := t1.ext2 (L'' := muts (ioOf kt) hi) x2 md2 (fun i hi => List.mem_append_left _ hi) fun i hi => List.mem_append_right _ hi
    exact FoR.from (Nat.le_trans x1.len (Nat.le_trans x2.len x3.len)) (slV_ok F3 (t2.ext x3 md3 fun i hi => hi))
  | .rev a => by
    have Sa := simE cs a
    refine SimE.val (fun _ => rfl) (fun _ => rfl) (fun _ => rfl) (fun _ => rfl) (fun _ _ => rfl) ⟨nofun, nofun⟩ (fun {base kd P h s σ C} F z => both F ?_) (noT fun _ => rfl)
    simp only [okE] at z
    simp only [vE, ev, muts]
    exact opd1 Sa F z fun x x' s' h' P' e F' tx => FoR.from e.len (revV_ok F' tx)
  | .lrg a => by
    have Sa := simE cs a
    refine SimE.val (fun _ => rfl) (fun _ => rfl) (fun _ => rfl) (fun _ => rfl) (fun _ _ => rfl) ⟨nofun, nofun⟩ (fun {base kd P h s σ C} F z => both F ?_) (noT fun _ => rfl)
    simp only [okE] at z
    simp only [vE, ev, muts]
    exact opd1 Sa F z fun x x' s' h' P' e F' tx => FoR.from e.len (lrgV_ok F' tx)
  | .lc e own t it cond => by
    have Se := simE cs e
    have Si := simE cs it
    have Sc := simE cs cond
    refine SimE.val (fun _ => rfl) (fun _ => rfl) (fun _ => rfl) (fun _ => rfl) (fun _ _ => rfl) ⟨nofun, nofun⟩ (fun {base kd P h s σ C} F z => both F ?_) (noT fun _ => rfl)
    simp only [okE, Bool.and_eq_true] at z
    obtain ⟨⟨⟨⟨z1, z2⟩, z3⟩, z4⟩, z5⟩ := z
    simp only [vE, ev, muts]
    refine (Si.i (muts (ioOf kt) cond ++ muts (ioOf kt) e) F z1).bind fun us p s1 h1 P1 x1 md1 F1 it => ?_
    refine RelQ.bind0 (lc_ok (fun u w h P s F r => turn_ok (rl := Rp) (t_ := e) Sc (fun _ F => (Se.e F z5).1) (by simpa using z2) (by simpa using z3) z4 F r) us p.1 p.2 h1 P1 s1 F1 it.1 it.2) fun ys ws s2 h2 P2 x2 md2 F2 r => FoR.from (Nat.le_trans x1.len x2.len) (list_new F2 r)
  | .gc a => by
    exact SimE.val (fun _ => rfl) (fun _ => rfl) (fun _ => rfl) (fun _ => rfl) (fun _ _ => rfl) ⟨nofun, nofun⟩ (fun F z => by simp [okE] at z) (noT fun _ => rfl)
  | .seq a => by
    have Sa := simE cs a
    refine unlist (fun _ => rfl) (fun _ => rfl) (fun _ => rfl) (fun _ => rfl) (fun _ => rfl) ⟨nofun, nofun⟩ (fun _ => rfl) fun {base kd P h s σ C} L F z => ?_
    simp only [okI] at z
    simp only [vI, evI, muts]
    refine (opd Sa F z).bind0 fun x x' s1 h1 P1 x1 md1 F1 t => RelQ.of F1 fun us e => ?_
    obtain ⟨ws, e1, q, st⟩ := seq_it t e
    exact ⟨(ws, watch x' ws), by simp only [seqIt, e1], q, st⟩
  | .rng1 a => by
    have Sa := simE cs a
    refine unlist (fun _ => rfl) (fun _ => rfl) (fun _ => rfl) (fun _ => rfl) (fun _ => rfl) ⟨nofun, nofun⟩ (fun _ => rfl) fun {base kd P h s σ C} L F z => ?_
    simp only [okI] at z
    simp only [vI, evI, muts]
    refine opd1 Sa F z fun x x' s1 h1 P1 x1 F1 t => ?_
    cases x with
    | int n =>
      rw [t.int_]
      simp only [rng1It]
      split
      · exact RelQ.ok F1 ⟨Rps.range _ _, nofun⟩
      · trivial
    | _ => trivial
  | .rng2 a b => by
    have Sa := simE cs a
    have Sb := simE cs b
    refine unlist (fun _ => rfl) (fun _ => rfl) (fun _ => rfl) (fun _ => rfl) (fun _ => rfl) ⟨nofun, nofun⟩ (fun _ => rfl) fun {base kd P h s σ C} L F z => ?_
    simp only [okI, Bool.and_eq_true] at z
    simp only [vI, evI, muts]
    refine (Sa.e F z.1).1.bind fun x x' s1 h1 P1 x1 md1 F1 r1 => (Sb.e F1 z.2).1.bind0 fun y y' s2 h2 P2 x2 md2 F2 r2 => ?_
    cases x with
    | int n =>
      cases y with
      | int m =>
        cases r1; cases r2
        simp only [rng2It]
        split
        · exact RelQ.ok F2 ⟨Rps.range _ _, nofun⟩
        · trivial
      | _ => trivial
    | _ => trivial
  | .enum a => by
    have Sa := simE cs a
    refine unlist (fun _ => rfl) (fun _ => rfl) (fun _ => rfl) (fun _ => rfl) (fun _ => rfl) ⟨nofun, nofun⟩ (fun _ => rfl) fun {base kd P h s σ C} L F z => ?_
    simp only [okI] at z
    simp only [vI, evI, muts]
    refine (opd Sa F z).bind0 fun x x' s1 h1 P1 x1 md1 F1 t => ?_
    cases e : vseq x with
    | none => trivial
    | some us =>
      obtain ⟨ws, e1, q, st⟩ := seq_it t e
      simp only [Q.of_some, Q.bind_ok, enumIt, e1]
      exact RelQ.ok F1 ⟨q.enum 0, st⟩
  | .zip a b => by
    have Sa := simE cs a
    have Sb := simE cs b
    refine unlist (fun _ => rfl) (fun _ => rfl) (fun _ => rfl) (fun _ => rfl) (fun _ => rfl) ⟨nofun, nofun⟩ (fun _ => rfl) fun {base kd P h s σ C} L F z => ?_
    simp only [okI, Bool.and_eq_true] at z
    simp only [vI, evI, muts]
    refine (opd Sa F z.1).bind fun x x' s1 h1 P1 x1 md1 F1 t1 => (opd Sb F1 z.2).bind0 fun y y' s2 h2 P2 x2 md2 F2 t2 => ?_
    have t1 := t1.ext2 (L'' := L) x2 md2 (fun i hi => List.mem_append_left _ hi) fun i hi => List.mem_append_right _ hi
    cases x with
    | lst us =>
      cases y with
      | lst vs' =>
        obtain ⟨ws, e1, q1, st1⟩ := seq_it t1 (us := us) rfl
        obtain ⟨xs, e2, q2, st2⟩ := seq_it t2 (us := vs') rfl
        obtain ⟨n1, _, rfl, _, _⟩ := t1.1.lst_
        obtain ⟨n2, _, rfl, _, _⟩ := t2.1.lst_
        simp only [zipIt, e1, e2, bothRef, if_true]
        exact RelQ.ok F2 ⟨q1.zip q2, st1.app st2⟩
      | _ => trivial
    | tup us =>
      cases y with
      | tup vs' =>
        obtain ⟨ws, e1, q1, st1⟩ := seq_it t1 (us := us) rfl
        obtain ⟨xs, e2, q2, st2⟩ := seq_it t2 (us := vs') rfl
        obtain ⟨_, rfl, _⟩ := t1.1.tup_
        obtain ⟨_, rfl, _⟩ := t2.1.tup_
        simp only [zipIt, e1, e2, bothRef, if_true]
        exact RelQ.ok F2 ⟨q1.zip q2, st1.app st2⟩
      | _ => trivial
    | _ => trivial
termination_by x => sizeOf x
end
end Vm
end

section
set_option Elab.async false
set_option linter.all false
set_option maxRecDepth 100000
set_option maxHeartbeats 4000000
set_option autoImplicit false
/-! Runs over values are runs over a heap: the look at statements; what slots take. -/
namespace Vm
open PySem Wm
/-- the owned slots whose objects a statement may change -/
def mutsS (io : Nat → List Bool) : S → List Nat
  | .sq a b => mutsS io a ++ mutsS io b
  | .asg _ e => muts io e
  | .par _ as => muts io as
  | .seti (.v k) i e => muts io e ++ (muts io i ++ [k])
  | .seti (.ix (.v k) a) i e => muts io e ++ (muts io a ++ (muts io i ++ [k]))
  | .ex e => muts io e
  | .ret e => muts io e
  | .ite t a b => muts io t ++ (mutsS io a ++ mutsS io b)
  | .whl t b => muts io t ++ mutsS io b
  | .for _ it b => muts io it ++ mutsS io b
  | .fgt _ b => mutsS io b
  | _ => []
def dem : Kd → Kd
  | .O => .S
  | .O2 => .S
  | k => k
/-- new rows -/
def rowsE (kt : List Ki) (kd : List Kd) : E → Bool
  | .lc e own t it cond => okE kt kd (.lc e own t it cond) && freshE kt e
  | _ => false
section
variable (kt : List Ki) (kd : List Kd)
def okPar : List Nat → E → Bool
  | [], .nil => true
  | i :: is, .cons a r => (if kOf kd i = .S then okE kt kd a else decide (kOf kd i = .O) && okE kt kd a && freshE kt a) && okPar is r
  | _, _ => false
def okS (fr : Bool) : S → Bool
  | .skip => true
  | .sq a b => okS fr a && okS fr b
  | .asg (.nm i) e => match kOf kd i with
    | .S => okE kt kd e
    | .O => okE kt kd e && freshE kt e
    | .O2 => rowsE kt kd e
    | _ => false
  | .asg t e => okE kt kd e && (tsl t).all fun i => decide (kOf kd i = .S)
  | .par is as => okPar kt kd is as
  | .seti (.v k) i e => (decide (kOf kd k = .O) || decide (kOf kd k = .I)) && okE kt kd e && okE kt kd i
  | .seti (.ix (.v k) a) i e => decide (kOf kd k = .O2) && okE kt kd e && okE kt kd a && okE kt kd i && !(muts (ioOf kt) i).contains k && !(muts (ioOf kt) a).contains k
  | .ex e => okE kt kd e
  | .ret e => if fr = true then (okE kt kd e && freshE kt e) || (match e with | .v i => decide (kOf kd i = .O) | _ => false) else okE kt kd e || okE kt (kd.map dem) e
  | .retn => true
  | .ite t a b => okT kt kd t && okS fr a && okS fr b
  | .whl t b => okT kt kd t && okS fr b
  | .for t it b => okI kt kd (mutsS (ioOf kt) b) it && ((tsl t).all fun i => decide (kOf kd i = .S)) && okS fr b
  | .fgt own b => okS fr b
  | .brk => true
  | .cnt => true
  | _ => false
end
def updC (C : Nat → List Nat) (i : Nat) (c : List Nat) : Nat → List Nat := fun j => if j = i then c else C j
section
variable {base : Nat} {kd : List Kd} {P : Nat → Prop} {h : OH} {s σ : Sl} {C : Nat → List Nat} {M : List Nat}
/-- an owned slot takes a new object -/
theorem Fr.hold (F : Fr base kd P h s σ C) {i : Nat} {u w : W} {c : List Nat} (hk : (kOf kd i).own = true) (sr : SlotR h P (kOf kd i) u w c) (hc : ∀ n ∈ c, base ≤ n ∧ ¬ P n ∧ n < h.length ∧ ∀ j, n ∉ C j)
    (hb : ∀ j n, kOf kd j = .B → getS σ j = some (.ref n) → n ∉ c) : Fr base kd P h (setS s i (some u)) (setS σ i (some w)) (updC C i c) := by
  have up : ∀ j n, n ∈ updC C i c j → (j = i ∧ n ∈ c) ∨ (j ≠ i ∧ n ∈ C j) := fun j n hn => by
    unfold updC at hn
    by_cases hj : j = i
    · rw [if_pos hj] at hn; exact .inl ⟨hj, hn⟩
    · rw [if_neg hj] at hn; exact .inr ⟨hj, hn⟩
  refine ⟨by rw [setS_len, setS_len]; exact F.len, fun j v hj => ?_, fun j k n hj hk' => ?_, fun j n hj => ?_, F.inn, fun j n hj => ?_, fun j n hj ho => ?_, fun j n hb' hs => ?_⟩
  · have hl := getS_lt hj
    rw [setS_len] at hl
    rcases getS_setS_some hj with ⟨rfl, ev⟩ | ⟨h1, h2⟩
    · cases ev
      refine ⟨w, getS_setS_eq _ _ _ (by rw [← F.len]; exact hl), ?_⟩
      have : updC C j c j = c := by simp [updC]
      rw [this]; exact sr
    · obtain ⟨v', e1, q⟩ := F.sl j v h2
      refine ⟨v', by rw [getS_setS_ne _ _ _ _ (Ne.symm h1)]; exact e1, ?_⟩
      have : updC C i c j = C j := by simp [updC, h1]
      rw [this]; exact q
  · rcases up j n hj with ⟨a1, a2⟩ | ⟨a1, a2⟩ <;> rcases up k n hk' with ⟨b1, b2⟩ | ⟨b1, b2⟩
    · rw [a1, b1]
    · exact absurd b2 ((hc n a2).2.2.2 k)
    · exact absurd a2 ((hc n b2).2.2.2 j)
    · exact F.dis j k n a2 b2
  · rcases up j n hj with ⟨a1, a2⟩ | ⟨a1, a2⟩
    · exact (hc n a2).2.1
    · exact F.out j n a2
  · rcases up j n hj with ⟨a1, a2⟩ | ⟨a1, a2⟩
    · exact (hc n a2).2.2.1
    · exact F.cin j n a2
  · rcases up j n hj with ⟨a1, a2⟩ | ⟨a1, a2⟩
    · exact (hc n a2).1
    · exact F.own j n a2 ho
  · rcases getS_setS_some hs with ⟨rfl, _⟩ | ⟨h1, h2⟩
    · rw [hb'] at hk; cases hk
    · refine ⟨(F.bout j n hb' h2).1, fun k hk' => ?_⟩
      rcases up k n hk' with ⟨a1, a2⟩ | ⟨a1, a2⟩
      · exact hb j n hb' h2 a2
      · exact (F.bout j n hb' h2).2 k a2
theorem FoR.own {b : Nat} {u w : W} (f : FoR b h P u w) : ∃ c, Own h P u w c ∧ ∀ n ∈ c, b ≤ n ∧ ¬ P n ∧ n < h.length := by
  cases f with
  | bare a q => exact ⟨[], .bare a q, nofun⟩
  | lst a d e q => exact ⟨_, .lst e q, fun n hn => by rw [List.mem_singleton.mp hn]; exact ⟨a, d, (List.getElem?_eq_some_iff.mp e).1⟩⟩
  | dic a d e q r => exact ⟨_, .dic e q r, fun n hn => by rw [List.mem_singleton.mp hn]; exact ⟨a, d, (List.getElem?_eq_some_iff.mp e).1⟩⟩
theorem Own.for_ {b : Nat} {u w : W} {c : List Nat} (o : Own h P u w c) (hb : ∀ n ∈ c, b ≤ n ∧ ¬ P n) : FoR b h P u w := by
  cases o with
  | lst e q => exact .lst (hb _ (by simp)).1 (hb _ (by simp)).2 e q
  | dic e q r => exact .dic (hb _ (by simp)).1 (hb _ (by simp)).2 e q r
  | bare a q => exact .bare a q
/-- rows with a row changed -/
theorem Rows.put {rs ws : List W} {ns : List Nat} (r : Rows h P rs ws ns) (nd : ns.Nodup) (hp : ∀ n ∈ ns, ¬ P n) (hl : ∀ n ∈ ns, n < h.length) : ∀ (j : Nat) (us us' ws' : List W) (m : Nat), rs[j]? = some (.lst us) → ws[j]? = some (.ref m) → Rps h P us' ws' →
    m ∈ ns ∧ Rows (h.set m (.lst ws')) P (rs.set j (.lst us')) ws ns := by
  induction r with
  | nil => intro j us us' ws' m e; simp at e
  | cons o r ih =>
    rename_i u w rs ws c ns
    intro j us us' ws' m e ew q
    rw [List.nodup_append] at nd
    have keepP : ∀ m', m' ∈ c ++ ns → ∀ k, P k → P k ∧ (h.set m' (.lst ws'))[k]? = h[k]? := fun m' hm' k p => ⟨p, h_set h m' _ k fun z => hp m' hm' (z ▸ p)⟩
    cases j with
    | zero =>
      simp at e ew
      subst e; subst ew
      have hc := o.ref
      subst hc
      refine ⟨by simp, ?_⟩
      have hm : m < h.length := hl m (by simp)
      refine .cons (.lst (by rw [List.getElem?_set_self hm]) (q.mv (keepP m (by simp)))) (r.mv (keepP m (by simp)) fun n hn => h_set h m _ n fun z => ?_)
      exact nd.2.2 m (by simp) n hn z.symm
    | succ j =>
      obtain ⟨h1, h2⟩ := ih nd.2.1 (fun n hn => hp n (List.mem_append_right _ hn)) (fun n hn => hl n (List.mem_append_right _ hn)) j us us' ws' m (by simpa using e) (by simpa using ew) q
      refine ⟨List.mem_append_right _ h1, .cons (o.mv (keepP m (List.mem_append_right _ h1)) fun n hn => h_set h m _ n fun z => ?_) h2⟩
      exact nd.2.2 n hn m h1 z
theorem Own.rp {P' : Nat → Prop} {u w : W} {c : List Nat} (o : Own h P u w c) (keep : ∀ m, P m → P' m ∧ h[m]? = h[m]?) (hc : ∀ n ∈ c, P' n) : Rp h P' u w := by
  cases o with
  | lst en q => exact .lst (hc _ (by simp)) en (q.mv keep)
  | dic en q r => exact .dic (hc _ (by simp)) en (q.mv keep) (r.mv keep)
  | bare b q => exact q.mv keep
theorem Rows.rp {P' : Nat → Prop} {rs ws : List W} {ns : List Nat} (r : Rows h P rs ws ns) (keep : ∀ m, P m → P' m ∧ h[m]? = h[m]?) (hc : ∀ n ∈ ns, P' n) : Rps h P' rs ws := by
  induction r with
  | nil => exact .nil
  | cons o r ih => exact .cons (o.rp keep fun n hn => hc n (List.mem_append_left _ hn)) (ih fun n hn => hc n (List.mem_append_right _ hn))
/-- owned slots as shared ones: the frame is at its end -/
theorem Fr.dem (F : Fr base kd P h s σ C) : Fr base (kd.map dem) (fun m => P m ∨ ∃ i, (kOf kd i).own = true ∧ m ∈ C i) h s σ (fun i => if (kOf kd i).own = true then [] else C i) := by
  have hk : ∀ i, kOf (kd.map Vm.dem) i = Vm.dem (kOf kd i) := fun i => by
    unfold kOf
    rw [List.getD_eq_getElem?_getD, List.getD_eq_getElem?_getD, List.getElem?_map]
    cases kd[i]? <;> rfl
  have up : ∀ i n, n ∈ (if (kOf kd i).own = true then [] else C i) → (kOf kd i).own = false ∧ n ∈ C i := fun i n hn => by
    split at hn
    · cases hn
    · rename_i z; exact ⟨by simpa using z, hn⟩
  have keep : ∀ m, P m → (P m ∨ ∃ i, (kOf kd i).own = true ∧ m ∈ C i) ∧ h[m]? = h[m]? := fun m p => ⟨.inl p, rfl⟩
  refine ⟨F.len, fun i u hu => ?_, fun i j n hi hj => F.dis i j n (up i n hi).2 (up j n hj).2, fun i n hi => ?_, fun m p => ?_, fun i n hi => F.cin i n (up i n hi).2, fun i n hi ho => ?_, fun i n hb hs => ?_⟩
  · obtain ⟨w, e, q⟩ := F.sl i u hu
    refine ⟨w, e, ?_⟩
    rw [hk]
    have oo : (kOf kd i).own = true → ∀ n ∈ C i, (P n ∨ ∃ i, (kOf kd i).own = true ∧ n ∈ C i) := fun z n hn => .inr ⟨i, z, hn⟩
    have ownrp : ∀ {u w : W} {c : List Nat}, (∀ n ∈ c, (P n ∨ ∃ i, (kOf kd i).own = true ∧ n ∈ C i)) → Own h P u w c → Rp h (fun m => P m ∨ ∃ i, (kOf kd i).own = true ∧ m ∈ C i) u w := fun hc o => by
      cases o with
      | lst en q => exact .lst (hc _ (by simp)) en (q.mv keep)
      | dic en q r => exact .dic (hc _ (by simp)) en (q.mv keep) (r.mv keep)
      | bare b q => exact q.mv keep
    generalize hki : kOf kd i = k at q oo
    cases k with
    | S => exact Rp.mv keep q
    | B => exact Tp.mvd q keep fun _ _ _ => rfl
    | O => exact ownrp (oo rfl) q
    | I => simp only [Kd.own, Bool.false_eq_true, if_false]; exact Own.mv q keep fun _ _ => rfl
    | O2 =>
      have q : Own2 h P u w (C i) := q
      have oo := oo rfl
      generalize C i = c at q oo
      cases q with
      | lst en r nd =>
        refine .lst (oo _ (by simp)) en ?_
        exact r.rp keep fun n hn => oo n (List.mem_cons_of_mem _ hn)
      | bare b q => exact q.mv keep
  · rintro (p | ⟨j, hj, hn⟩)
    · exact F.out i n (up i n hi).2 p
    · rw [F.dis i j n (up i n hi).2 hn] at hi
      rw [(up j n hi).1] at hj; cases hj
  · rcases p with p | ⟨j, _, hn⟩
    · exact F.inn m p
    · exact F.cin j m hn
  · rw [hk] at ho
    cases z : kOf kd i <;> rw [z] at ho <;> cases ho
  · rw [hk] at hb
    have hb : kOf kd i = .B := by cases z : kOf kd i <;> rw [z] at hb <;> first | rfl | cases hb
    exact ⟨(F.bout i n hb hs).1, fun j hj => (F.bout i n hb hs).2 j (up j n hj).2⟩
theorem kOf_dem (i : Nat) : kOf (kd.map dem) i = dem (kOf kd i) := by
  unfold kOf
  rw [List.getD_eq_getElem?_getD, List.getD_eq_getElem?_getD, List.getElem?_map]
  cases kd[i]? <;> rfl
end
end Vm
end

section
set_option Elab.async false
set_option linter.all false
set_option maxRecDepth 100000
set_option maxHeartbeats 4000000
set_option autoImplicit false
/-! Runs over values are runs over a heap: statements. -/
namespace Vm
open PySem Wm
/-- owned slots hold what they held, or something new -/
def CE (kd : List Kd) (l : Nat) (C C' : Nat → List Nat) (σ σ' : Sl) : Prop := ∀ i, (kOf kd i = .I → C' i = C i ∧ getS σ' i = getS σ i) ∧ (C' i = C i ∨ ∀ n ∈ C' i, l ≤ n)
theorem CE.refl (kd : List Kd) (l : Nat) (C : Nat → List Nat) (σ : Sl) : CE kd l C C σ σ := fun _ => ⟨fun _ => ⟨rfl, rfl⟩, .inl rfl⟩
theorem CE.trans {kd : List Kd} {l l' : Nat} {C C1 C2 : Nat → List Nat} {σ σ1 σ2 : Sl} (a : CE kd l C C1 σ σ1) (hl : l ≤ l') (b : CE kd l' C1 C2 σ1 σ2) : CE kd l C C2 σ σ2 := fun i => by
  refine ⟨fun hk => ⟨((b i).1 hk).1.trans ((a i).1 hk).1, ((b i).1 hk).2.trans ((a i).1 hk).2⟩, ?_⟩
  rcases (b i).2 with z | z
  · rcases (a i).2 with y | y
    · exact .inl (z.trans y)
    · exact .inr fun n hn => y n (z ▸ hn)
  · exact .inr fun n hn => Nat.le_trans hl (z n hn)
theorem CE.md {kd : List Kd} {h h1 h2 : OH} {C C1 : Nat → List Nat} {σ σ1 : Sl} {M M' : List Nat} (ce : CE kd h.length C C1 σ σ1) (a : Md C M h h1) (l : h.length ≤ h1.length) (b : Md C1 M' h1 h2) : Md C (M ++ M') h h2 := fun m hm q => by
  rw [b m (Nat.lt_of_lt_of_le hm l) fun i hi => ?_, a m hm fun i hi => q i (List.mem_append_left _ hi)]
  rcases (ce i).2 with z | z
  · rw [z]; exact q i (List.mem_append_right _ hi)
  · intro hn; have := z m hn; omega
theorem CE.st {kd : List Kd} {h h1 : OH} {P P1 : Nat → Prop} {C C1 : Nat → List Nat} {σ σ1 : Sl} {L : List Nat} {wt : List (Nat × List W)} (ce : CE kd h.length C C1 σ σ1) (t : StR C L h P wt) (e : Ext P h P1 h1) (md : Md C L h h1) : StR C1 L h1 P1 wt := fun q hq => by
  obtain ⟨e1, z⟩ := t q hq
  rcases z with z | ⟨z1, z2⟩
  · exact ⟨(e.keep _ z).trans e1, .inl (e.sub _ z)⟩
  · refine ⟨(md _ z1 fun i hi => z2 i hi).trans e1, .inr ⟨Nat.lt_of_lt_of_le z1 e.len, fun i hi => ?_⟩⟩
    rcases (ce i).2 with y | y
    · rw [y]; exact z2 i hi
    · intro hn; have := y _ hn; omega
def FlR (fr : Bool) (base : Nat) (h : OH) (P : Nat → Prop) : F → F → Prop
  | .nx, .nx => True
  | .bk, .bk => True
  | .ct, .ct => True
  | .rt u, .rt w => RetR fr base h P u w
  | _, _ => False
def isRt : F → Bool
  | .rt _ => true
  | _ => false
/-- the world has grown; what was owned may be used by others -/
structure ExtD (kd : List Kd) (C : Nat → List Nat) (P : Nat → Prop) (h : OH) (P' : Nat → Prop) (h' : OH) : Prop where
  sub : ∀ m, P m → P' m
  new : ∀ m, P' m → P m ∨ h.length ≤ m ∨ ∃ i, (kOf kd i).own = true ∧ m ∈ C i
  len : h.length ≤ h'.length
  keep : ∀ m, P m → h'[m]? = h[m]?
theorem Ext.thenD {kd : List Kd} {C C1 : Nat → List Nat} {P P1 P2 : Nat → Prop} {h h1 h2 : OH} {σ σ1 : Sl} (a : Ext P h P1 h1) (ce : CE kd h.length C C1 σ σ1) (b : ExtD kd C1 P1 h1 P2 h2) : ExtD kd C P h P2 h2 := by
  refine ⟨fun m q => b.sub m (a.sub m q), fun m q => ?_, Nat.le_trans a.len b.len, fun m q => (b.keep m (a.sub m q)).trans (a.keep m q)⟩
  rcases b.new m q with q | q | ⟨i, hi, hm⟩
  · exact (a.new m q).imp id .inl
  · exact .inr (.inl (Nat.le_trans a.len q))
  · rcases (ce i).2 with z | z
    · exact .inr (.inr ⟨i, hi, z ▸ hm⟩)
    · exact .inr (.inl (z m hm))
def ExtK (kd kd' : List Kd) (C : Nat → List Nat) (P : Nat → Prop) (h : OH) (P' : Nat → Prop) (h' : OH) (b : Prop) : Prop := (kd' = kd ∧ Ext P h P' h') ∨ (b ∧ kd' = kd.map dem ∧ ExtD kd C P h P' h')
theorem Ext.thenK {kd kd' : List Kd} {C C1 : Nat → List Nat} {P P1 P2 : Nat → Prop} {h h1 h2 : OH} {σ σ1 : Sl} {b : Prop} (a : Ext P h P1 h1) (ce : CE kd h.length C C1 σ σ1) (k : ExtK kd kd' C1 P1 h1 P2 h2 b) : ExtK kd kd' C P h P2 h2 b :=
  k.imp (fun ⟨e, x⟩ => ⟨e, a.trans x⟩) fun ⟨p, e, x⟩ => ⟨p, e, a.thenD ce x⟩
/-- a statement's run over values and over a heap -/
def RelS (fr : Bool) (base : Nat) (kd : List Kd) (P : Nat → Prop) (h : OH) (σ : Sl) (C : Nat → List Nat) (M : List Nat) (q : Q F) (r : RS) : Prop := match q with
  | .ok p s' => ∃ p' σ' h' P' C' kd', r = .ok (p', σ') h' ∧ ExtK kd kd' C P h P' h' (isRt p = true) ∧ Md C M h h' ∧ CE kd h.length C C' σ σ' ∧ Fr base kd' P' h' s' σ' C' ∧ FlR fr base h' P' p p'
  | .exc c fs s' => ∃ fs' σ' h' P' C' kd', r = .exc c fs' h' ∧ ExtK kd kd' C P h P' h' True ∧ Md C M h h' ∧ CE kd h.length C C' σ σ' ∧ Fr base kd' P' h' s' σ' C' ∧ RpF h' P' fs fs'
  | .no => True
section
variable {fr : Bool} {base : Nat} {kd : List Kd} {P : Nat → Prop} {h : OH} {s σ : Sl} {C : Nat → List Nat} {M M' : List Nat}
theorem RelS.sub {q : Q F} {r : RS} (a : RelS fr base kd P h σ C M q r) (sub : ∀ i ∈ M, i ∈ M') : RelS fr base kd P h σ C M' q r := by
  cases q with
  | ok p s' => obtain ⟨p', σ', h', P', C', kd', e, x, md, z⟩ := a; exact ⟨p', σ', h', P', C', kd', e, x, md.mono sub, z⟩
  | exc c fs s' => obtain ⟨p', σ', h', P', C', kd', e, x, md, z⟩ := a; exact ⟨p', σ', h', P', C', kd', e, x, md.mono sub, z⟩
  | no => trivial
/-- at an end -/
theorem RelS.ok {p : F} (F0 : Fr base kd P h s σ C) (hp : p = .nx ∨ p = .bk ∨ p = .ct) : RelS fr base kd P h σ C M (.ok p s) (.ok (p, σ) h) := by
  refine ⟨p, σ, h, P, C, kd, rfl, .inl ⟨rfl, Ext.refl _ _⟩, Md.refl _ _ _, CE.refl _ _ _ _, F0, ?_⟩
  rcases hp with rfl | rfl | rfl <;> trivial
/-- behind another start -/
theorem RelS.from {σ1 : Sl} {h1 : OH} {P1 : Nat → Prop} {C1 : Nat → List Nat} {q : Q F} {r : RS} (x : Ext P h P1 h1) (md : Md C M h h1) (ce : CE kd h.length C C1 σ σ1) (a : RelS fr base kd P1 h1 σ1 C1 M' q r) : RelS fr base kd P h σ C (M ++ M') q r := by
  cases q with
  | ok p s' =>
    obtain ⟨p', σ', h', P', C', kd', e, x2, md2, ce2, z⟩ := a
    exact ⟨p', σ', h', P', C', kd', e, x.thenK ce x2, ce.md md x.len md2, ce.trans x.len ce2, z⟩
  | exc c fs s' =>
    obtain ⟨p', σ', h', P', C', kd', e, x2, md2, ce2, z⟩ := a
    exact ⟨p', σ', h', P', C', kd', e, x.thenK ce x2, ce.md md x.len md2, ce.trans x.len ce2, z⟩
  | no => trivial
theorem RelS.bind {q : Q F} {r : RS} {f : F → Sl → Q F} {g : F × Sl → OH → RS} (a : RelS fr base kd P h σ C M q r)
    (go : ∀ p s1 σ1 h1 P1 C1, isRt p = false → Ext P h P1 h1 → Md C M h h1 → CE kd h.length C C1 σ σ1 → Fr base kd P1 h1 s1 σ1 C1 → RelS fr base kd P1 h1 σ1 C1 M' (f p s1) (g (p, σ1) h1))
    (rt : ∀ w s1, f (.rt w) s1 = .ok (.rt w) s1) (rt' : ∀ w σ1 h1, g (.rt w, σ1) h1 = .ok (.rt w, σ1) h1) : RelS fr base kd P h σ C (M ++ M') (q.bind f) (r.bind g) := by
  cases q with
  | ok p s1 =>
    obtain ⟨p', σ1, h1, P1, C1, kd', rfl, x, md, ce, F1, fl⟩ := a
    by_cases hp : isRt p = false
    · rcases x with ⟨rfl, x⟩ | ⟨z, _⟩
      · have : p' = p := by cases p <;> cases p' <;> first | rfl | exact fl.elim | cases hp
        subst this
        simp only [Q.bind_ok, R.bind_ok]
        exact RelS.from x md ce (go _ _ _ _ _ _ hp x md ce F1)
      · rw [hp] at z; cases z
    · cases p with
      | rt u =>
        cases p' with
        | rt w =>
          simp only [Q.bind_ok, R.bind_ok, rt, rt']
          exact ⟨_, σ1, h1, P1, C1, kd', rfl, x, md.mono fun i hi => List.mem_append_left _ hi, ce, F1, fl⟩
        | _ => exact fl.elim
      | _ => simp [isRt] at hp
  | exc c fs s1 =>
    obtain ⟨fs', σ1, h1, P1, C1, kd', rfl, x, md, ce, F1, z⟩ := a
    exact ⟨fs', σ1, h1, P1, C1, kd', rfl, x, md.mono fun i hi => List.mem_append_left _ hi, ce, F1, z⟩
  | no => trivial
theorem RelQ.bindS {α β : Type} {r1 : OH → (Nat → Prop) → α → β → Prop} {q : Q α} {r : R β} {f : α → Sl → Q F} {g : β → OH → RS} (a : RelQ r1 base kd P h σ C M q r)
    (go : ∀ u w s1 h1 P1, Ext P h P1 h1 → Md C M h h1 → Fr base kd P1 h1 s1 σ C → r1 h1 P1 u w → RelS fr base kd P1 h1 σ C M' (f u s1) (g w h1)) : RelS fr base kd P h σ C (M ++ M') (q.bind f) (r.bind g) := by
  cases q with
  | ok u s1 =>
    obtain ⟨w, h1, P1, rfl, x, md, F1, z⟩ := a
    simp only [Q.bind_ok, R.bind_ok]
    exact RelS.from x md (CE.refl _ _ _ _) (go u w s1 h1 P1 x md F1 z)
  | exc c fs s1 =>
    obtain ⟨fs', h1, P1, rfl, x, md, F1, z⟩ := a
    exact ⟨fs', σ, h1, P1, C, kd, rfl, .inl ⟨rfl, x⟩, md.mono fun i hi => List.mem_append_left _ hi, CE.refl _ _ _ _, F1, z⟩
  | no => trivial
theorem RelQ.bindS0 {α β : Type} {r1 : OH → (Nat → Prop) → α → β → Prop} {q : Q α} {r : R β} {f : α → Sl → Q F} {g : β → OH → RS} (a : RelQ r1 base kd P h σ C M q r)
    (go : ∀ u w s1 h1 P1, Ext P h P1 h1 → Md C M h h1 → Fr base kd P1 h1 s1 σ C → r1 h1 P1 u w → RelS fr base kd P1 h1 σ C [] (f u s1) (g w h1)) : RelS fr base kd P h σ C M (q.bind f) (r.bind g) := by
  have := RelQ.bindS (M' := []) a go
  rwa [List.append_nil] at this
/-- an owned slot takes a new object -/
theorem RelS.hold {h0 : OH} {i : Nat} {u w : W} {c : List Nat} (F0 : Fr base kd P h s σ C) (hk : (kOf kd i).own = true) (sr : SlotR h P (kOf kd i) u w c) (hc : ∀ n ∈ c, h0.length ≤ n ∧ ¬ P n ∧ n < h.length) (hb : base ≤ h0.length) (old : ∀ j n, n ∈ C j → n < h0.length) (oldb : ∀ j n, kOf kd j = .B → getS σ j = some (.ref n) → n < h0.length) :
    Fr base kd P h (setS s i (some u)) (setS σ i (some w)) (updC C i c) ∧ CE kd h0.length C (updC C i c) σ (setS σ i (some w)) := by
  refine ⟨F0.hold hk sr (fun n hn => ⟨Nat.le_trans hb (hc n hn).1, (hc n hn).2.1, (hc n hn).2.2, fun j hj => ?_⟩) fun j n hbk hs hn => ?_, fun j => ⟨fun hj => ?_, ?_⟩⟩
  · have := old j n hj; have := (hc n hn).1; omega
  · have := oldb j n hbk hs; have := (hc n hn).1; omega
  · have hne : j ≠ i := fun z => by rw [← z, hj] at hk; cases hk
    exact ⟨by simp [updC, hne], getS_setS_ne _ _ _ _ (Ne.symm hne)⟩
  · by_cases hne : j = i
    · subst hne
      right
      simp only [updC, if_true]
      exact fun n hn => (hc n hn).1
    · left; simp [updC, hne]
/-- the rest of a frame's run behind a new CE -/
theorem RelS.now {h0 : OH} {P0 : Nat → Prop} {σ0 : Sl} {C0 : Nat → List Nat} {p : F} {M : List Nat} (x : Ext P0 h0 P h) (md : Md C0 M h0 h) (ce : CE kd h0.length C0 C σ0 σ) (F0 : Fr base kd P h s σ C) (hp : p = .nx) : RelS fr base kd P0 h0 σ0 C0 M (.ok p s) (.ok (p, σ) h) :=
  ⟨p, σ, h, P, C, kd, rfl, .inl ⟨rfl, x⟩, md, ce, F0, by subst hp; trivial⟩
end
end Vm
end

section
set_option Elab.async false
set_option linter.all false
set_option maxRecDepth 100000
set_option maxHeartbeats 4000000
set_option autoImplicit false
/-! Runs over values are runs over a heap: the induction over statements. -/
namespace Vm
open PySem Wm
section
variable {fr : Bool} {base : Nat} {kd : List Kd} {P : Nat → Prop} {h : OH} {s σ : Sl} {C : Nat → List Nat} {M M' : List Nat}
theorem RelQ.thenS {α β : Type} {r1 : OH → (Nat → Prop) → α → β → Prop} {q : Q α} {r : R β} {f : α → Sl → Q F} {g : β → OH → RS} (a : RelQ r1 base kd P h σ C M q r)
    (go : ∀ u w s1 h1 P1, Ext P h P1 h1 → Md C M h h1 → Fr base kd P1 h1 s1 σ C → r1 h1 P1 u w → RelS fr base kd P h σ C M (f u s1) (g w h1)) : RelS fr base kd P h σ C M (q.bind f) (r.bind g) := by
  cases q with
  | ok u s1 =>
    obtain ⟨w, h1, P1, rfl, x, md, F1, z⟩ := a
    simp only [Q.bind_ok, R.bind_ok]
    exact go u w s1 h1 P1 x md F1 z
  | exc c fs s1 =>
    obtain ⟨fs', h1, P1, rfl, x, md, F1, z⟩ := a
    exact ⟨fs', σ, h1, P1, C, kd, rfl, .inl ⟨rfl, x⟩, md, CE.refl _ _ _ _, F1, z⟩
  | no => trivial
theorem CE.asg {l : Nat} {t : T} {w : W} {σ' : Sl} (e : asgT t w σ = some σ') (hk : ∀ i ∈ tsl t, kOf kd i = .S) : CE kd l C C σ σ' := fun i => ⟨fun hi => ⟨rfl, asgT_ne t _ _ _ e i fun hm => by rw [hk i hm] at hi; cases hi⟩, .inl rfl⟩
theorem asg_shared {t : T} {u w : W} (F0 : Fr base kd P h s σ C) {P0 : Nat → Prop} {h0 : OH} (x : Ext P0 h0 P h) (md : Md C M h0 h) (hk : ∀ i ∈ tsl t, kOf kd i = .S) (r : Rp h P u w) :
    RelS fr base kd P0 h0 σ C M (match asgT t u s with | some s2 => .ok .nx s2 | none => .no) ((asgR t w σ h).bind fun s' h2 => .ok (.nx, s') h2) := by
  cases e : asgT t u s with
  | none => trivial
  | some s2 =>
    obtain ⟨σ2, e2, F2⟩ := asgT_ok t F0 hk r e
    simp only [asgR, e2, R.bind_ok]
    exact RelS.now x md (CE.asg e2 hk) F2 rfl
inductive ParR (kd : List Kd) (h : OH) (P : Nat → Prop) : List Nat → List W → List W → List Nat → Prop
  | nil : ParR kd h P [] [] [] []
  | s {i : Nat} {u w : W} {is : List Nat} {us ws : List W} {c : List Nat} : kOf kd i = .S → Rp h P u w → ParR kd h P is us ws c → ParR kd h P (i :: is) (u :: us) (w :: ws) c
  | o {i : Nat} {u w : W} {is : List Nat} {us ws : List W} {c1 c : List Nat} : kOf kd i = .O → Own h P u w c1 → (∀ n ∈ c1, n ∉ c) → ParR kd h P is us ws c → ParR kd h P (i :: is) (u :: us) (w :: ws) (c1 ++ c)
section
variable {kt : List Ki} {GV : Nat → List W → Q W} {G : Nat → List W → OH → R W}
theorem par_ev (cs : CallSim kt GV G) : ∀ (is : List Nat) (as : E) (P : Nat → Prop) (h : OH) (s : Sl), Fr base kd P h s σ C → okPar kt kd is as = true →
    RelQ (fun h' P' us ws => ∃ c, ParR kd h' P' is us ws c ∧ ∀ n ∈ c, h.length ≤ n ∧ ¬ P' n) base kd P h σ C (muts (ioOf kt) as) (vs GV (ioOf kt) as s) (evs G as σ h) := by
  intro is
  induction is with
  | nil =>
    intro as P h s F0 z
    cases as with
    | nil => exact RelQ.ok F0 ⟨[], .nil, nofun⟩
    | _ => simp [okPar] at z
  | cons i is ih =>
    intro as P h s F0 z
    cases as with
    | cons a r =>
      simp only [okPar, Bool.and_eq_true] at z
      simp only [vs, evs, muts]
      by_cases hk : kOf kd i = .S
      · rw [if_pos hk] at z
        refine ((simE cs a).e F0 z.1).1.bind fun u w s1 h1 P1 x1 md1 F1 r1 => (ih r P1 h1 s1 F1 z.2).bind0 fun us ws s2 h2 P2 x2 md2 F2 r2 => ?_
        obtain ⟨c, pr, hc⟩ := r2
        exact RelQ.ok F2 ⟨c, .s hk (r1.ext x2) pr, fun n hn => ⟨Nat.le_trans x1.len (hc n hn).1, (hc n hn).2⟩⟩
      · rw [if_neg hk] at z
        simp only [Bool.and_eq_true, decide_eq_true_eq] at z
        refine (((simE cs a).e F0 z.1.1.2).2 z.1.2).bind fun u w s1 h1 P1 x1 md1 F1 r1 => (ih r P1 h1 s1 F1 z.2).bind0 fun us ws s2 h2 P2 x2 md2 F2 r2 => ?_
        obtain ⟨c, pr, hc⟩ := r2
        obtain ⟨c1, o, hc1⟩ := r1.own
        have keep : ∀ n ∈ c1, h2[n]? = h1[n]? := fun n hn => md2 n (hc1 n hn).2.2 fun j _ hj => by
          have := F0.cin j n hj; have := (hc1 n hn).1; omega
        refine RelQ.ok F2 ⟨c1 ++ c, .o z.1.1.1 (o.mv (fun m p => ⟨x2.sub m p, x2.keep m p⟩) keep) (fun n hn hn2 => ?_) pr, fun n hn => ?_⟩
        · have := (hc1 n hn).2.2; have := (hc n hn2).1; omega
        · rcases List.mem_append.mp hn with hn | hn
          · refine ⟨(hc1 n hn).1, fun p => ?_⟩
            rcases x2.new n p with p | p
            · exact (hc1 n hn).2.1 p
            · have := (hc1 n hn).2.2; omega
          · exact ⟨Nat.le_trans x1.len (hc n hn).1, (hc n hn).2⟩
    | _ => simp [okPar] at z
theorem par_asg {h0 : OH} (hb : base ≤ h0.length) {is : List Nat} {us ws : List W} {c : List Nat} (pr : ParR kd h P is us ws c) : ∀ (s σ : Sl) (C : Nat → List Nat) (s2 : Sl), Fr base kd P h s σ C → (∀ n ∈ c, h0.length ≤ n ∧ ¬ P n ∧ ∀ j, n ∉ C j) → (∀ j n, kOf kd j = .B → getS σ j = some (.ref n) → n < h0.length) → parS is us s = some s2 →
    ∃ σ2 C2, parS is ws σ = some σ2 ∧ Fr base kd P h s2 σ2 C2 ∧ CE kd h0.length C C2 σ σ2 := by
  induction pr with
  | nil =>
    intro s σ C s2 F0 _ _ e
    simp only [parS, Option.some.injEq] at e
    subst e
    exact ⟨σ, C, rfl, F0, CE.refl _ _ _ _⟩
  | s hk r pr ih =>
    rename_i i u w is us ws c
    intro s σ C s2 F0 hc ob e
    simp only [parS] at e ⊢
    have hne : ∀ j n, kOf kd j = .B → getS (setS σ i (some w)) j = some (.ref n) → n < h0.length := fun j n hj hs => by
      rcases getS_setS_some hs with ⟨rfl, _⟩ | ⟨_, h2⟩
      · rw [hk] at hj; cases hj
      · exact ob j n hj h2
    obtain ⟨σ1, e1, F1⟩ := asgT_ok (.nm i) F0 (fun j hj => by rw [show j = i by simpa [tsl] using hj]; exact hk) r (s' := setS s i (some u)) rfl
    simp only [asgT, Option.some.injEq] at e1
    subst e1
    obtain ⟨σ2, C2, e2, F2, ce⟩ := ih _ _ C s2 F1 hc hne e
    refine ⟨σ2, C2, e2, F2, CE.trans (CE.asg (t := .nm i) rfl fun j hj => ?_) (Nat.le_refl _) ce⟩
    rw [show j = i by simpa [tsl] using hj]; exact hk
  | o hk o dj pr ih =>
    rename_i i u w is us ws c1 c
    intro s σ C s2 F0 hc ob e
    simp only [parS] at e ⊢
    have hne : ∀ j n, kOf kd j = .B → getS (setS σ i (some w)) j = some (.ref n) → n < h0.length := fun j n hj hs => by
      rcases getS_setS_some hs with ⟨rfl, _⟩ | ⟨_, h2⟩
      · rw [hk] at hj; cases hj
      · exact ob j n hj h2
    have F1 := F0.hold (i := i) (u := u) (w := w) (c := c1) (by rw [hk]; rfl) (by rw [hk]; exact o) (fun n hn => ⟨Nat.le_trans hb (hc n (List.mem_append_left _ hn)).1, (hc n (List.mem_append_left _ hn)).2.1, o.in_ n hn, (hc n (List.mem_append_left _ hn)).2.2⟩) (fun j n hj hs hn => by
      have := ob j n hj hs; have := (hc n (List.mem_append_left _ hn)).1; omega)
    have nin : ∀ n ∈ c, ∀ j, n ∉ updC C i c1 j := fun n hn j hj => by
      unfold updC at hj
      split at hj
      · exact dj n hj hn
      · exact (hc n (List.mem_append_right _ hn)).2.2 j hj
    obtain ⟨σ2, C2, e2, F2, ce⟩ := ih _ _ (updC C i c1) s2 F1 (fun n hn => ⟨(hc n (List.mem_append_right _ hn)).1, (hc n (List.mem_append_right _ hn)).2.1, nin n hn⟩) hne e
    · refine ⟨σ2, C2, e2, F2, CE.trans (C1 := updC C i c1) (σ1 := setS σ i (some w)) (fun j => ⟨fun hj => ?_, ?_⟩) (Nat.le_refl _) ce⟩
      · have hne : j ≠ i := fun z => by rw [z, hk] at hj; cases hj
        exact ⟨by simp [updC, hne], getS_setS_ne _ _ _ _ (Ne.symm hne)⟩
      · by_cases hji : j = i
        · right; subst hji; simp only [updC, if_true]
          exact fun n hn => (hc n (List.mem_append_left _ hn)).1
        · left; simp [updC, hji]
/-- xs[i] = x in an owned list -/
theorem set_ok {k : Nat} {z z' x x' : W} {u0 : W} (F0 : Fr base kd P h s σ C) (ho : kOf kd k = .O ∨ kOf kd k = .I) (e0 : getS σ k = some u0) (tz : Tp h P z z') (rx : Rp h P x x') :
    RelS fr base kd P h σ C [k] (setSl k z x s) ((setIx u0 z' x' h).bind fun _ h4 => .ok (.nx, σ) h4) := by
  unfold setSl
  cases e : getS s k with
  | none => trivial
  | some y =>
    dsimp only
    obtain ⟨w, eσ, o⟩ := slot_own F0 ho e
    rw [e0] at eσ; cases eσ
    cases e1 : setV y z x with
    | none => trivial
    | some y' =>
      unfold setV at e1
      split at e1
      · rename_i ws i
        split at e1
        · rename_i j ej
          cases e1
          generalize hc : C k = c at o
          cases o with
          | bare b _ => cases b
          | lst en q =>
            rename_i n wl
            rw [q.len] at ej
            rw [tz.int_]
            simp only [setIx, lstAt, en, ej, R.bind_ok]
            obtain ⟨xx, md, F2⟩ := F0.put ho e e0 en hc (q.set rx j)
            exact RelS.now xx md (CE.refl _ _ _ _) F2 rfl
        · cases e1
      · cases e1
/-- xs[a][i] = x in owned rows -/
theorem set2_ok {k : Nat} {a z z' x x' row : W} (F0 : Fr base kd P h s σ C) (ho : kOf kd k = .O2) (rx : Rp h P x x') (tz : Tp h P z z') 
    (at_ : ∀ (n : Nat) (rs ws : List W) (j : Int) (kx : Nat), getS s k = some (.lst rs) → getS σ k = some (.ref n) → h[n]? = some (.lst ws) → a = .int j → ixN rs.length j = some kx → ws[kx]? = some row) :
    RelS fr base kd P h σ C [k] (setSl2 k a z x s) ((setIx row z' x' h).bind fun _ h4 => .ok (.nx, σ) h4) := by
  unfold setSl2
  cases e : getS s k with
  | none => trivial
  | some y =>
    dsimp only
    obtain ⟨w, eσ, o⟩ := F0.sl k y e
    rw [ho] at o
    have o : Own2 h P y w (C k) := o
    cases e1 : ixV y a with
    | none => trivial
    | some u =>
      dsimp only
      cases e2 : setV u z x with
      | none => trivial
      | some u' =>
        dsimp only
        cases e3 : setV y a u' with
        | none => trivial
        | some y' =>
          dsimp only
          generalize hc : C k = c at o
          cases o with
          | bare b _ => cases y <;> first | (cases b; done) | (simp [setV] at e3)
          | lst en r nd =>
            rename_i n rs ws ns
            unfold setV at e3
            split at e3
            · rename_i ws0 ia hy
              cases hy
              split at e3
              · rename_i kx ek
                cases e3
                have hrow := at_ n _ ws ia kx e eσ en rfl ek
                simp only [ixV, vseq, ek] at e1
                unfold setV at e2
                split at e2
                · rename_i ul i
                  split at e2
                  · rename_i j ej
                    cases e2
                    obtain ⟨wr, cr, g1, g2, g3⟩ := rows_get r kx _ e1
                    rw [hrow] at g1; cases g1
                    cases g2 with
                    | bare b _ => cases b
                    | lst em q =>
                      rename_i m wl
                      have hin : ∀ n' ∈ ns, n' ∈ C k := fun n' hn' => by rw [hc]; exact List.mem_cons_of_mem _ hn'
                      have ndn := List.nodup_cons.mp nd
                      obtain ⟨hm, r2⟩ := Rows.put r ndn.2 (fun n' hn' => F0.out k n' (hin n' hn')) (fun n' hn' => F0.cin k n' (hin n' hn')) kx ul _ _ m e1 hrow (q.set rx j)
                      rw [q.len] at ej
                      rw [tz.int_]
                      simp only [setIx, lstAt, em, ej, R.bind_ok]
                      have hmC := hin m hm
                      have x : Ext P h P (h.set m (.lst (wl.set j x'))) := ⟨fun _ p => p, fun _ p => .inl p, by simp, fun m' p => h_set h m _ m' fun z => F0.out k m hmC (z ▸ p)⟩
                      have md : Md C [k] h (h.set m (.lst (wl.set j x'))) := fun m' hm' hx => h_set h m _ m' fun z => hx k (by simp) (z ▸ hmC)
                      refine RelS.now x md (CE.refl _ _ _ _) (F0.step x md (fun m' p => by simpa using F0.inn m' p) (setS_len _ _ _) fun i u hu => ?_) rfl
                      rcases getS_setS_some hu with ⟨rfl, ev⟩ | ⟨h1, h2⟩
                      · cases ev
                        refine .inr ⟨.ref n, eσ, ?_⟩
                        rw [ho, hc]
                        have hnm : n ≠ m := fun z => ndn.1 (z ▸ hm)
                        exact Own2.lst (by rw [h_set h m _ n hnm]; exact en) r2 nd
                      · exact .inl ⟨by simpa using h1, h2⟩
                  · cases e2
                · cases e2
              · cases e3
            · cases e3
end
end
end Vm
end

section
set_option Elab.async false
set_option linter.all false
set_option maxRecDepth 100000
set_option maxHeartbeats 4000000
set_option autoImplicit false
namespace Vm
open PySem Wm
section
variable {kt : List Ki} {GV : Nat → List W → Q W} {G : Nat → List W → OH → R W}
variable {fr : Bool} {base : Nat} {kd : List Kd} {P : Nat → Prop} {h : OH} {s σ : Sl} {C : Nat → List Nat} {M : List Nat}
structure SimS (kt : List Ki) (GV : Nat → List W → Q W) (G : Nat → List W → OH → R W) (b : S) : Prop where
  run : ∀ {fr : Bool} {base : Nat} {kd : List Kd} {P : Nat → Prop} {h : OH} {s σ : Sl} {C : Nat → List Nat}, Fr base kd P h s σ C → base ≤ h.length → okS kt kd fr b = true → RelS fr base kd P h σ C (mutsS (ioOf kt) b) (vX GV (ioOf kt) b s) (ex G b σ h)
theorem whl_ok {tV : Sl → Q Bool} {t : Sl → OH → R Bool} {bV : Sl → Q F} {b : Sl → OH → RS} {M1 M2 : List Nat}
    (ht : ∀ {P : Nat → Prop} {h : OH} {s σ : Sl} {C : Nat → List Nat}, Fr base kd P h s σ C → RelQ (fun _ _ a b => a = b) base kd P h σ C M1 (tV s) (t σ h))
    (hb : ∀ {P : Nat → Prop} {h : OH} {s σ : Sl} {C : Nat → List Nat}, Fr base kd P h s σ C → base ≤ h.length → RelS fr base kd P h σ C M2 (bV s) (b σ h)) :
    ∀ (n : Nat) (P : Nat → Prop) (h : OH) (s σ : Sl) (C : Nat → List Nat), Fr base kd P h s σ C → base ≤ h.length → RelS fr base kd P h σ C (M1 ++ M2) (whlV tV bV n s) (whlN t b n σ h)
  | 0, _, _, _, _, _, _, _ => trivial
  | n + 1, P, h, s, σ, C, F0, hl => by
    simp only [whlV, whlN]
    have key : RelS fr base kd P h σ C (M1 ++ (M2 ++ (M1 ++ M2))) ((tV s).bind fun k s1 => if k = true then (bV s1).bind (vgo (whlV tV bV n)) else .ok .nx s1) ((t σ h).bind fun k h1 => if k = true then (b σ h1).bind (goOn (whlN t b n)) else .ok (.nx, σ) h1) := by
      refine RelQ.bindS (ht F0) fun k k' s1 h1 P1 x1 md1 F1 ek => ?_
      subst ek
      cases k with
      | false =>
        simp only [if_false, Bool.false_eq_true]
        exact RelS.ok F1 (.inl rfl)
      | true =>
        simp only [if_true]
        refine RelS.bind (hb F1 (Nat.le_trans hl x1.len)) (fun p s2 σ2 h2 P2 C2 hp x2 md2 ce2 F2 => ?_) (fun _ _ => rfl) (fun _ _ _ => rfl)
        have hl2 := Nat.le_trans hl (Nat.le_trans x1.len x2.len)
        cases p with
        | nx => exact whl_ok ht hb n P2 h2 s2 σ2 C2 F2 hl2
        | ct => exact whl_ok ht hb n P2 h2 s2 σ2 C2 F2 hl2
        | bk => exact RelS.ok F2 (.inl rfl)
        | rt w => cases hp
    exact key.sub fun i hi => by
      simp only [List.mem_append] at hi ⊢
      rcases hi with hi | hi | hi | hi
      · exact .inl hi
      · exact .inr hi
      · exact .inl hi
      · exact .inr hi
theorem for_ok {t : T} {bV : Sl → Q F} {b : Sl → OH → RS} {M1 : List Nat} (hk : ∀ i ∈ tsl t, kOf kd i = .S)
    (hb : ∀ {P : Nat → Prop} {h : OH} {s σ : Sl} {C : Nat → List Nat}, Fr base kd P h s σ C → base ≤ h.length → RelS fr base kd P h σ C M1 (bV s) (b σ h)) (wt : List (Nat × List W)) :
    ∀ (us ws : List W) (P : Nat → Prop) (h : OH) (s σ : Sl) (C : Nat → List Nat), Fr base kd P h s σ C → base ≤ h.length → Rps h P us ws → StR C M1 h P wt → RelS fr base kd P h σ C M1 (forV t bV us s) (forN t b wt ws σ h) := by
  intro us
  induction us with
  | nil =>
    intro ws P h s σ C F0 hl q st
    cases q
    simp only [forV, forN, st.still, if_true]
    exact RelS.ok F0 (.inl rfl)
  | cons u us ih =>
    intro ws P h s σ C F0 hl q st
    cases q with
    | cons a q =>
      rename_i w ws
      simp only [forV, forN, st.still, if_true]
      cases e : asgT t u s with
      | none => trivial
      | some s1 =>
        obtain ⟨σ1, e2, F1⟩ := asgT_ok t F0 hk a e
        simp only [asgR, e2, R.bind_ok]
        have ce1 : CE kd h.length C C σ σ1 := CE.asg e2 hk
        have key : RelS fr base kd P h σ1 C (M1 ++ M1) ((bV s1).bind (vgo (forV t bV us))) ((b σ1 h).bind (goOn (forN t b wt ws))) := by
          refine RelS.bind (hb F1 hl) (fun p s2 σ2 h2 P2 C2 hp x2 md2 ce2 F2 => ?_) (fun _ _ => rfl) (fun _ _ _ => rfl)
          have hl2 := Nat.le_trans hl x2.len
          have st2 := ce2.st st x2 md2
          cases p with
          | nx => exact ih ws P2 h2 s2 σ2 C2 F2 hl2 (q.ext x2) st2
          | ct => exact ih ws P2 h2 s2 σ2 C2 F2 hl2 (q.ext x2) st2
          | bk => exact RelS.ok F2 (.inl rfl)
          | rt w => cases hp
        have key2 := RelS.from (M := []) (Ext.refl P h) (Md.refl C [] h) ce1 key
        exact key2.sub fun i hi => by simpa using hi
theorem simS (cs : CallSim kt GV G) : ∀ b : S, SimS kt GV G b
  | .skip => ⟨fun F0 _ _ => RelS.ok F0 (.inl rfl)⟩
  | .brk => ⟨fun F0 _ _ => RelS.ok F0 (.inr (.inl rfl))⟩
  | .cnt => ⟨fun F0 _ _ => RelS.ok F0 (.inr (.inr rfl))⟩
  | .sq a b => .mk fun {fr base kd P h s σ C} F0 hl z => by
    simp only [okS, Bool.and_eq_true] at z
    simp only [vX, ex, mutsS]
    refine RelS.bind ((simS cs a).run F0 hl z.1) (fun p s2 σ2 h2 P2 C2 hp x2 md2 ce2 F2 => ?_) (fun _ _ => rfl) (fun _ _ _ => rfl)
    cases p with
    | nx => exact (simS cs b).run F2 (Nat.le_trans hl x2.len) z.2
    | ct => exact RelS.ok F2 (.inr (.inr rfl))
    | bk => exact RelS.ok F2 (.inr (.inl rfl))
    | rt w => cases hp
  | .asg t e => .mk fun {fr base kd P h s σ C} F0 hl z => by
    have shared : okE kt kd e = true → (∀ i ∈ tsl t, kOf kd i = .S) → RelS fr base kd P h σ C (mutsS (ioOf kt) (.asg t e)) (vX GV (ioOf kt) (.asg t e) s) (ex G (.asg t e) σ h) := fun z1 hk => by
      simp only [vX, ex, mutsS]
      exact RelQ.thenS ((simE cs e).e F0 z1).1 fun u w s1 h1 P1 x1 md1 F1 r1 => asg_shared F1 x1 md1 hk r1
    cases t with
    | nm i =>
      simp only [okS] at z
      have own : ∀ {c : List Nat} {u w : W} {s1 : Sl} {h1 : OH} {P1 : Nat → Prop}, (kOf kd i).own = true → Ext P h P1 h1 → Md C (muts (ioOf kt) e) h h1 → Fr base kd P1 h1 s1 σ C → SlotR h1 P1 (kOf kd i) u w c → (∀ n ∈ c, h.length ≤ n ∧ ¬ P1 n ∧ n < h1.length) → RelS fr base kd P h σ C (muts (ioOf kt) e) (.ok .nx (setS s1 i (some u))) (.ok (.nx, setS σ i (some w)) h1) := fun {c u w s1 h1 P1} hk x1 md1 F1 sr hc => by
        obtain ⟨F2, ce⟩ := RelS.hold (h0 := h) F1 hk sr hc hl F0.cin fun j n hj hs => (F0.bout j n hj hs).1
        exact RelS.now x1 md1 ce F2 rfl
      split at z
      · rename_i hk
        exact shared z fun j hj => by rw [show j = i by simpa [tsl] using hj]; exact hk
      · rename_i hk
        rw [Bool.and_eq_true] at z
        simp only [vX, ex, mutsS]
        refine RelQ.thenS (((simE cs e).e F0 z.1).2 z.2) fun u w s1 h1 P1 x1 md1 F1 r1 => ?_
        obtain ⟨c, o, hc⟩ := r1.own
        simp only [asgT, asgR, R.bind_ok]
        exact own (by rw [hk]; rfl) x1 md1 F1 (by rw [hk]; exact o) hc
      · rename_i hk
        simp only [vX, ex, mutsS]
        cases e with
        | lc e own' t it cond =>
          simp only [rowsE, Bool.and_eq_true] at z
          obtain ⟨z1, z0⟩ := z
          simp only [okE, Bool.and_eq_true] at z1
          obtain ⟨⟨⟨⟨z1, z2⟩, z3⟩, z4⟩, z5⟩ := z1
          have key : RelQ (fun h' P' u w => ∃ c, Own2 h' P' u w c ∧ ∀ n ∈ c, h.length ≤ n ∧ ¬ P' n ∧ n < h'.length) base kd P h σ C (muts (ioOf kt) (.lc e own' t it cond)) (vE GV (ioOf kt) (.lc e own' t it cond) s) (ev G (.lc e own' t it cond) σ h) := by
            simp only [vE, ev, muts]
            refine ((simE cs it).i (muts (ioOf kt) cond ++ muts (ioOf kt) e) F0 z1).bind fun us p s1 h1 P1 x1 md1 F1 itr => ?_
            refine RelQ.bind0 (lc_rows (fun u w h P s F r => turn_ok (rl := FoR h.length) (t_ := e) (simE cs cond) (fun hl' F' => FoR.from hl' (((simE cs e).e F' z5).2 z0)) (by simpa using z2) (by simpa using z3) z4 F r) us p.1 p.2 h1 P1 s1 F1 itr.1 itr.2) fun rs ws s2 h2 P2 x2 md2 F2 r => ?_
            · obtain ⟨ns, rw', nd, big⟩ := r
              have nin : ∀ n ∈ ns, n < h2.length := fun n hn => by
                clear nd big
                induction rw' with
                | nil => cases hn
                | cons o r ih =>
                  rcases List.mem_append.mp hn with hn | hn
                  · exact o.in_ n hn
                  · exact ih hn
              unfold lenOk newLst
              rw [rows_len rw']
              split
              · refine ⟨.ref h2.length, h2 ++ [.lst ws], P2, rfl, .new0 F2.inn, Md.new, F2.new0, h2.length :: ns, .lst (by simp) (rw'.mv (fun m p => ⟨p, List.getElem?_append_left (F2.inn m p)⟩) fun n hn => List.getElem?_append_left (nin n hn)) ?_, fun n hn => ?_⟩
                · rw [List.nodup_cons]
                  exact ⟨fun hn => Nat.lt_irrefl _ (nin _ hn), nd⟩
                · rcases List.mem_cons.mp hn with rfl | hn
                  · exact ⟨Nat.le_trans x1.len x2.len, fun p => Nat.lt_irrefl _ (F2.inn _ p), by simp⟩
                  · exact ⟨Nat.le_trans x1.len (big n hn).1, (big n hn).2, by have := nin n hn; simp; omega⟩
              · trivial
          refine RelQ.thenS key fun u w s1 h1 P1 x1 md1 F1 r1 => ?_
          obtain ⟨c, o, hc⟩ := r1
          simp only [asgT, asgR, R.bind_ok]
          exact own (by rw [hk]; rfl) x1 md1 F1 (by rw [hk]; exact o) hc
        | _ => simp [rowsE] at z
      · cases z
    | nil =>
      simp only [okS, Bool.and_eq_true] at z
      exact shared z.1 fun i hi => by simp [tsl] at hi
    | cons a r =>
      simp only [okS, Bool.and_eq_true, List.all_eq_true, decide_eq_true_eq] at z
      exact shared z.1 z.2
  | .par is as => .mk fun {fr base kd P h s σ C} F0 hl z => by
    simp only [okS] at z
    simp only [vX, ex, mutsS]
    refine RelQ.thenS (par_ev cs is as P h s F0 z) fun us ws s1 h1 P1 x1 md1 F1 r1 => ?_
    obtain ⟨c, pr, hc⟩ := r1
    cases e : parS is us s1 with
    | none => trivial
    | some s2 =>
      obtain ⟨σ2, C2, e2, F2, ce⟩ := par_asg hl pr s1 σ C s2 F1 (fun n hn => ⟨(hc n hn).1, (hc n hn).2, fun j hj => by have := F0.cin j n hj; have := (hc n hn).1; omega⟩) (fun j n hj hs => (F0.bout j n hj hs).1) e
      simp only [parR, e2]
      exact RelS.now x1 md1 ce F2 rfl
  | .seti o i e => .mk fun {fr base kd P h s σ C} F0 hl z => by
    cases o with
    | v k =>
      simp only [okS, Bool.and_eq_true, Bool.or_eq_true, decide_eq_true_eq] at z
      simp only [vX, ex, mutsS]
      refine RelQ.bindS ((simE cs e).e F0 z.1.2).1 fun x x' s1 h1 P1 x1 md1 F1 rx => ?_
      cases e1 : getS s1 k with
      | none => trivial
      | some y =>
        obtain ⟨w, e2, o⟩ := slot_own F1 z.1.1 e1
        simp only [Q.of_some, Q.bind_ok, ev, e2, R.bind_ok]
        refine RelQ.bindS ((simE cs i).e F1 z.2).1 fun a a' s2 h2 P2 x2 md2 F2 ra => ?_
        exact set_ok F2 z.1.1 e2 (.s ra) (rx.ext x2)
    | ix o1 a =>
      cases o1 with
      | v k =>
        simp only [okS, Bool.and_eq_true, Bool.not_eq_true', List.contains_eq_mem, decide_eq_false_iff_not, decide_eq_true_eq] at z
        obtain ⟨⟨⟨⟨⟨z1, z2⟩, z3⟩, z4⟩, z5⟩, z6⟩ := z
        simp only [vX, ex, mutsS]
        refine RelQ.bindS ((simE cs e).e F0 z2).1 fun x x' s1 h1 P1 x1 md1 F1 rx => ?_
        cases e1 : getS s1 k with
        | none => trivial
        | some y1 =>
          obtain ⟨w0, e2, _⟩ := F1.sl k y1 e1
          have as2 : ∀ {α β : Type} (q : R α) (f : α → OH → R β) {γ : Type} (g : β → OH → R γ), (q.bind f).bind g = q.bind fun a s => (f a s).bind g := fun q f _ g => by cases q <;> rfl
          simp only [Q.of_some, Q.bind_ok, ev, e2, R.bind_ok]
          rw [as2]
          refine RelQ.bindS ((simE cs a).e F1 z3).1 fun u u' s2 h2 P2 x2 md2 F2 ru => ?_
          cases e3 : getS s2 k with
          | none => simp only [rowS, e3, Q.of_none, Q.bind_no]; trivial
          | some y =>
            obtain ⟨w, e4, o⟩ := F2.sl k y e3
            rw [e2] at e4; cases e4
            rw [z1] at o
            have o : Own2 h2 P2 y w0 (C k) := o
            simp only [rowS, e3]
            cases er : ixV y u with
            | none => simp only [Q.of_none, Q.bind_no]; trivial
            | some rv =>
              simp only [Q.of_some, Q.bind_ok]
              have get : ∃ row, ixW w0 u' h2 = .ok row h2 ∧ (∀ (n : Nat) (ws : List W) (j : Int) (kx : Nat), w0 = .ref n → h2[n]? = some (.lst ws) → u = .int j → ixN ws.length j = some kx → ws[kx]? = some row) := by
                generalize hc : C k = cc at o
                cases o with
                | bare bb qq =>
                  obtain ⟨row, e5, _⟩ := ixV_ok (.s qq) (.s ru) er
                  exact ⟨row, e5, fun n ws j kx en => by subst en; cases qq <;> cases bb⟩
                | lst en r nd =>
                  rename_i n rs ws ns
                  unfold ixV at er
                  split at er
                  · rename_i j
                    simp only [vseq] at er
                    split at er
                    · rename_i kx ek
                      obtain ⟨row, c', g1, g2, g3⟩ := rows_get r kx rv er
                      cases ru
                      rw [rows_len r] at ek
                      refine ⟨row, by simp only [ixW, seqOf, items, en, ek, g1], fun n' ws' j' kx' e6 e7 e8 e9 => ?_⟩
                      cases e6; cases e8
                      rw [en] at e7; cases e7
                      rw [ek] at e9; cases e9
                      exact g1
                    · cases er
                  · cases er
              obtain ⟨row, e5, at_⟩ := get
              simp only [e5, R.bind_ok]
              refine RelQ.bindS ((simE cs i).e F2 z4).1 fun v v' s3 h3 P3 x3 md3 F3 rv' => ?_
              refine set2_ok F3 z1 (rx.ext (x2.trans x3)) (.s rv') fun n rs ws j kx g1 g2 g3 g4 g5 => ?_
              rw [e2] at g2; cases g2
              have hn : n ∈ C k := by
                generalize hc : C k = cc at o
                cases o with
                | lst _ _ _ => simp
                | bare bb qq => cases qq <;> cases bb
              rw [md3 n (F2.cin k n hn) fun jj hj hnj => z5 (F2.dis k jj n hn hnj ▸ hj)] at g3
              refine at_ n ws j kx rfl g3 g4 ?_
              obtain ⟨w9, e9, o9⟩ := F3.sl k _ g1
              rw [e2] at e9; cases e9
              rw [z1] at o9
              have o9 : Own2 h3 P3 (.lst rs) (.ref n) (C k) := o9
              generalize hc : C k = cc at o9
              cases o9 with
              | bare bb _ => cases bb
              | lst en9 r9 _ =>
                rw [md3 n (F2.cin k n hn) fun jj hj hnj => z5 (F2.dis k jj n hn hnj ▸ hj), g3] at en9
                cases en9
                rw [← rows_len r9]; exact g5
      | _ => simp [okS] at z
    | _ => simp [okS] at z
  | .ex e => .mk fun {fr base kd P h s σ C} F0 hl z => by
    simp only [okS] at z
    simp only [vX, ex, mutsS]
    exact RelQ.bindS0 ((simE cs e).e F0 z).1 fun u w s1 h1 P1 x1 md1 F1 r1 => RelS.ok F1 (.inl rfl)
  | .ret e => .mk fun {fr base kd P h s σ C} F0 hl z => by
    simp only [vX, ex, mutsS]
    have fin : ∀ {u w : W} {s1 : Sl} {h1 : OH} {P1 : Nat → Prop}, Ext P h P1 h1 → Md C (muts (ioOf kt) e) h h1 → Fr base kd P1 h1 s1 σ C → RetR fr base h1 P1 u w → RelS fr base kd P h σ C (muts (ioOf kt) e) (.ok (.rt u) s1) (.ok (.rt w, σ) h1) := fun {u w s1 h1 P1} x1 md1 F1 r => ⟨_, σ, h1, P1, C, kd, rfl, .inl ⟨rfl, x1⟩, md1, CE.refl _ _ _ _, F1, r⟩
    cases fr with
    | true =>
      simp only [okS, if_true, Bool.or_eq_true, Bool.and_eq_true] at z
      rcases z with z | z
      · refine RelQ.thenS (((simE cs e).e F0 z.1).2 z.2) fun u w s1 h1 P1 x1 md1 F1 r1 => fin x1 md1 F1 ?_
        simpa [RetR] using r1.le hl
      · cases e with
        | v i =>
          have z : kOf kd i = .O := by simpa using z
          simp only [vE, ev]
          cases e1 : getS s i with
          | none => trivial
          | some u =>
            obtain ⟨w, e2, o⟩ := slot_own F0 (.inl z) e1
            simp only [Q.of_some, Q.bind_ok, e2, R.bind_ok]
            refine fin (Ext.refl _ _) (Md.refl _ _ _) F0 ?_
            simpa [RetR] using o.for_ fun n hn => ⟨F0.own i n hn (by rw [z]; rfl), F0.out i n hn⟩
        | _ => cases z
    | false =>
      simp only [okS, if_false, Bool.false_eq_true, Bool.or_eq_true] at z
      rcases z with z | z
      · refine RelQ.thenS ((simE cs e).e F0 z).1 fun u w s1 h1 P1 x1 md1 F1 r1 => fin x1 md1 F1 ?_
        simpa [RetR] using r1
      · have a := ((simE cs e).e F0.dem z).1
        have ce : CE kd h.length C (fun i => if (kOf kd i).own = true then [] else C i) σ σ := fun i => by
          refine ⟨fun hi => ⟨by simp [hi, Kd.own], rfl⟩, ?_⟩
          by_cases ho : (kOf kd i).own = true
          · right; simp [ho]
          · left; simp [ho]
        have xd : ∀ {h1 : OH} {P1 : Nat → Prop}, Ext (fun m => P m ∨ ∃ i, (kOf kd i).own = true ∧ m ∈ C i) h P1 h1 → ExtD kd C P h P1 h1 := fun {h1 P1} x => ⟨fun m p => x.sub m (.inl p), fun m p => by
          rcases x.new m p with (p | p) | p
          · exact .inl p
          · exact .inr (.inr p)
          · exact .inr (.inl p), x.len, fun m p => x.keep m (.inl p)⟩
        have mdd : ∀ {h1 : OH}, Md (fun i => if (kOf kd i).own = true then [] else C i) (muts (ioOf kt) e) h h1 → Md C (muts (ioOf kt) e) h h1 := fun {h1} md m hm q => md m hm fun i hi hn => by
          have hn : m ∈ (if (kOf kd i).own = true then [] else C i) := hn
          split at hn
          · cases hn
          · exact q i hi hn
        cases hq : vE GV (ioOf kt) e s with
        | ok u s1 =>
          rw [hq] at a
          obtain ⟨w, h1, P1, e1, x, md, F1, r⟩ := a
          rw [e1]
          exact ⟨_, σ, h1, P1, _, _, rfl, .inr ⟨rfl, rfl, xd x⟩, mdd md, ce, F1, by show RetR false base h1 P1 u w; simpa [RetR] using r⟩
        | exc c fs s1 =>
          rw [hq] at a
          obtain ⟨fs', h1, P1, e1, x, md, F1, r⟩ := a
          rw [e1]
          exact ⟨fs', σ, h1, P1, _, _, rfl, .inr ⟨trivial, rfl, xd x⟩, mdd md, ce, F1, r⟩
        | no => trivial
  | .retn => .mk fun {fr base kd P h s σ C} F0 hl z => by
    refine ⟨_, σ, h, P, C, kd, rfl, .inl ⟨rfl, Ext.refl _ _⟩, Md.refl _ _ _, CE.refl _ _ _ _, F0, ?_⟩
    show RetR fr base h P .non .non
    unfold RetR
    split
    · exact .bare rfl .non
    · exact .non
  | .ite t a b => .mk fun {fr base kd P h s σ C} F0 hl z => by
    simp only [okS, Bool.and_eq_true] at z
    simp only [vX, ex, mutsS]
    refine RelQ.bindS ((simE cs t).t F0 z.1.1) fun k k' s1 h1 P1 x1 md1 F1 ek => ?_
    subst ek
    cases k with
    | true => simpa only [if_true] using ((simS cs a).run F1 (Nat.le_trans hl x1.len) z.1.2).sub fun i hi => List.mem_append_left _ hi
    | false => simpa only [if_false, Bool.false_eq_true] using ((simS cs b).run F1 (Nat.le_trans hl x1.len) z.2).sub fun i hi => List.mem_append_right _ hi
  | .whl t b => .mk fun {fr base kd P h s σ C} F0 hl z => by
    simp only [okS, Bool.and_eq_true] at z
    simp only [vX, ex, mutsS]
    exact whl_ok (fun F => (simE cs t).t F z.1) (fun F hl => (simS cs b).run F hl z.2) _ P h s σ C F0 hl
  | .for t it b => .mk fun {fr base kd P h s σ C} F0 hl z => by
    simp only [okS, Bool.and_eq_true, List.all_eq_true, decide_eq_true_eq] at z
    simp only [vX, ex, mutsS]
    exact RelQ.bindS ((simE cs it).i (mutsS (ioOf kt) b) F0 z.1.1) fun us p s1 h1 P1 x1 md1 F1 itr => for_ok z.1.2 (fun F hl => (simS cs b).run F hl z.2) p.2 us p.1 P1 h1 s1 σ C F1 (Nat.le_trans hl x1.len) itr.1 itr.2
  | .fgt own b => .mk fun {fr base kd P h s σ C} F0 hl z => by
    simp only [okS] at z
    have a := (simS cs b).run F0 hl z
    simp only [vX, ex, mutsS]
    cases hq : vX GV (ioOf kt) b s with
    | ok p s1 =>
      rw [hq] at a
      obtain ⟨p', σ', h', P', C', kd', e, x, md, ce, F1, zz⟩ := a
      exact ⟨p', σ', h', P', C', kd', e, x, md, ce, F1.wipe own, zz⟩
    | exc c fs s1 => rw [hq] at a; exact a
    | no => trivial
  | .gc _ _ => ⟨fun _ _ z => by simp [okS] at z⟩
end
end Vm
end

section
set_option Elab.async false
set_option linter.all false
set_option maxRecDepth 100000
set_option maxHeartbeats 4000000
set_option autoImplicit false
/-! Runs over values are runs over a heap: calls of all defs. -/
namespace Vm
open PySem Wm
/-- a def's look -/
def okFn (kt : List Ki) (d : Fn) (k : Ki) : Bool := !d.gc && okS kt k.ks k.fr d.body && ((k.ks.take d.params).all fun q => !q.own)
def okTab (kt : List Ki) : List Fn → List Ki → Bool
  | [], [] => true
  | d :: ds, k :: ks => okFn kt d k && okTab kt ds ks
  | _, _ => false
theorem okTab_get {kt : List Ki} : ∀ {tab : List Fn} {ks : List Ki}, okTab kt tab ks = true → ∀ {f : Nat} {d : Fn}, tab[f]? = some d → ∃ k, ks[f]? = some k ∧ okFn kt d k = true
  | [], ks, _, f, d, e => by simp at e
  | d' :: ds, [], h, _, _, _ => by simp [okTab] at h
  | d' :: ds, k :: ks, h, 0, d, e => by
    simp only [okTab, Bool.and_eq_true] at h
    simp at e; subst e
    exact ⟨k, rfl, h.1⟩
  | d' :: ds, k :: ks, h, f + 1, d, e => by
    simp only [okTab, Bool.and_eq_true] at h
    obtain ⟨k', h1, h2⟩ := okTab_get h.2 (f := f) (d := d) (by simpa using e)
    exact ⟨k', by simpa using h1, h2⟩
theorem getS_app : ∀ (a b : Sl) (i : Nat), i < a.length → getS (a ++ b) i = getS a i
  | [], _, i, h => by simp at h
  | _ :: _, _, 0, _ => rfl
  | _ :: a, b, i + 1, h => by simpa [getS] using getS_app a b i (by simpa using h)
theorem getS_nones : ∀ (n i : Nat), getS (List.replicate n (none : Option W)) i = none
  | 0, i => by simp [getS]
  | n + 1, 0 => rfl
  | n + 1, i + 1 => by simpa [List.replicate_succ, getS] using getS_nones n i
theorem getS_app2 : ∀ (a b : Sl) (i : Nat), a.length ≤ i → getS (a ++ b) i = getS b (i - a.length)
  | [], b, i, _ => by simp
  | _ :: _, _, 0, h => by simp at h
  | x :: a, b, i + 1, h => by simpa [getS] using getS_app2 a b i (by simpa using h)
theorem start_get {d : Fn} {us : List W} {i : Nat} {u : W} (e : getS (startS d us) i = some u) : i < us.length ∧ getS (us.map some) i = some u := by
  unfold startS at e
  by_cases h : i < us.length
  · exact ⟨h, by rwa [getS_app _ _ _ (by simpa using h)] at e⟩
  · rw [getS_app2 _ _ _ (by simpa using h), getS_nones] at e
    cases e
theorem take_get : ∀ {s : Sl} {p i : Nat} {u : W}, getS (s.take p) i = some u → i < p ∧ getS s i = some u
  | [], p, i, u, e => by simp [getS] at e
  | x :: s, 0, i, u, e => by simp [getS] at e
  | x :: s, p + 1, 0, u, e => ⟨by omega, by simpa [getS] using e⟩
  | x :: s, p + 1, i + 1, u, e => by
    obtain ⟨h1, h2⟩ := take_get (s := s) (p := p) (i := i) (u := u) (by simpa [getS] using e)
    exact ⟨by omega, by simpa [getS] using h2⟩
theorem callSim {tab : List Fn} {kt : List Ki} (ok : okTab kt tab kt = true) : ∀ n, CallSim kt (vcallN tab kt n) (callN tab n)
  | 0 => fun f us ws h P C F0 hc => trivial
  | n + 1 => fun f us ws h P C F0 hc => by
    have ih := callSim ok n
    simp only [vcallN, callN]
    cases ed : tab[f]? with
    | none => trivial
    | some d =>
      obtain ⟨k, ek, hk⟩ := okTab_get ok ed
      simp only [okFn, Bool.and_eq_true, Bool.not_eq_true'] at hk
      obtain ⟨⟨hg, hs⟩, hp⟩ := hk
      have hks : ksOf kt f = k.ks := by simp only [ksOf, ek]
      have hfr : frOf kt f = k.fr := by simp only [frOf, ek]
      rw [hks] at F0 hc
      rw [hks, hfr]
      have hl : us.length = ws.length := by have := F0.len; simpa using this
      dsimp only
      rw [← hl]
      by_cases hlen : Nat.beq us.length d.params = true
      · rw [if_pos hlen, if_pos hlen]
        have hlen := Nat.eq_of_beq_eq_true hlen
        have Fs : Fr h.length k.ks P h (startS d us) (startS d ws) C := by
          refine ⟨by simp [startS, hl], fun i u hu => ?_, F0.dis, F0.out, F0.inn, F0.cin, F0.own, fun i m hb hs' => F0.bout i m hb (start_get hs').2⟩
          obtain ⟨h1, h2⟩ := start_get hu
          obtain ⟨w, e, q⟩ := F0.sl i u h2
          refine ⟨w, ?_, q⟩
          unfold startS
          rw [getS_app _ _ _ (by simpa [← hl] using h1)]
          exact e
        have noown : ∀ i m, m ∈ C i → (kOf k.ks i).own = true → False := fun i m hm ho => by
          rw [hc i m hm] at ho; cases ho
        have a := (simS ih d.body).run Fs (Nat.le_refl _) hs
        have extE : ∀ {kd' : List Kd} {P' : Nat → Prop} {h' : OH} {b : Prop}, ExtK k.ks kd' C P h P' h' b → Ext P h P' h' ∧ (kd' = k.ks ∨ kd' = k.ks.map dem) := fun {kd' P' h' b} x => by
          rcases x with ⟨e, x⟩ | ⟨_, e, x⟩
          · exact ⟨x, .inl e⟩
          · refine ⟨⟨x.sub, fun m p => ?_, x.len, x.keep⟩, .inr e⟩
            rcases x.new m p with p | p | ⟨i, hi, hm⟩
            · exact .inl p
            · exact .inr p
            · exact (noown i m hm hi).elim
        have mkR : ∀ {kd' : List Kd} {P' : Nat → Prop} {h' : OH} {b : Prop} {C' : Nat → List Nat} {s' σ' : Sl}, ExtK k.ks kd' C P h P' h' b → Md C (mutsS (ioOf kt) d.body) h h' → CE k.ks h.length C C' (startS d ws) σ' → Fr h.length kd' P' h' s' σ' C' → CallR k.ks h P ws C h' P' (s'.take d.params) := fun {kd' P' h' b C' s' σ'} x md ce F1 => by
          obtain ⟨xe, hk'⟩ := extE x
          have isI : ∀ i, kOf k.ks i = .I → kOf kd' i = .I := fun i hi => by
            rcases hk' with rfl | rfl
            · exact hi
            · rw [kOf_dem, hi]; rfl
          refine ⟨xe, fun m hm q => md m hm fun i _ => q i, F1.inn, fun i m hm p => ?_, fun i u hi hu => ?_⟩
          · have hC := ((ce i).1 (hc i m hm)).1
            exact F1.out i m (by rw [hC]; exact hm) p
          · obtain ⟨h1, h2⟩ := take_get hu
            obtain ⟨w, e, q⟩ := F1.sl i u h2
            rw [isI i hi] at q
            obtain ⟨c1, c2⟩ := (ce i).1 hi
            rw [c1] at q
            rw [c2] at e
            refine ⟨w, ?_, q⟩
            have := (start_get e).2
            rwa [getS_map] at this
        cases hq : vX (vcallN tab kt n) (ioOf kt) d.body (startS d us) with
        | no => trivial
        | exc c fs s' =>
          rw [hq] at a
          obtain ⟨fs', σ', h', P', C', kd', e, x, md, ce, F1, z⟩ := a
          exact ⟨fs', h', P', by rw [e]; rfl, mkR x md ce F1, z⟩
        | ok p s' =>
          rw [hq] at a
          obtain ⟨p', σ', h', P', C', kd', e, x, md, ce, F1, z⟩ := a
          rw [e]
          cases p with
          | nx =>
            cases p' with
            | nx =>
              refine ⟨.non, h', P', by simp [R.bind, finS, fin, hg], mkR x md ce F1, ?_⟩
              unfold RetR
              split
              · exact .bare rfl .non
              · exact .non
            | _ => exact z.elim
          | rt u =>
            cases p' with
            | rt w => exact ⟨w, h', P', by simp [R.bind, finS, fin, hg], mkR x md ce F1, z⟩
            | _ => exact z.elim
          | bk => trivial
          | ct => trivial
      · rw [if_neg hlen]; trivial
/-- a law over values is a law over a heap -/
theorem plain_of {tab : List Fn} {kt : List Ki} (ok : okTab kt tab kt = true) {K f : Nat} {k : Ki} (ek : kt[f]? = some k) (hk : kOf k.ks 0 = .S) {ns : List Int} {o : Sl} (e : vcallN tab kt K f [.rol (ns.map .int)] = .ok (.bl true) o) :
    ∃ hh, callN tab K f [.rol (ns.map .int)] [] = .ok (.bl true) hh := by
  have F0 : Fr ([] : OH).length (ksOf kt f) (fun _ => False) [] ([W.rol (ns.map .int)].map some) ([W.rol (ns.map .int)].map some) (fun _ => []) := by
    refine ⟨rfl, fun i u hu => ⟨u, hu, ?_⟩, nofun, nofun, nofun, nofun, nofun, fun i n hb hs => ?_⟩
    · cases i with
      | zero =>
        simp only [List.map_cons, getS, Option.some.injEq] at hu
        subst hu
        rw [show ksOf kt f = k.ks by simp only [ksOf, ek], hk]
        exact .rol (Rps.ints ns)
      | succ i => simp [getS] at hu
    · cases i with
      | zero => simp [getS] at hs
      | succ i => simp [getS] at hs
  have z := callSim ok K f _ _ _ _ _ F0 (fun i n hn => by cases hn)
  rw [e] at z
  obtain ⟨w, h', P', e2, c, r⟩ := z
  have : w = .bl true := by
    unfold RetR at r
    split at r
    · cases r with
      | bare _ q => cases q; rfl
    · cases r; rfl
  subst this
  exact ⟨h', e2⟩
end Vm
end

section
set_option Elab.async false
set_option linter.all false
set_option maxRecDepth 100000
set_option maxHeartbeats 4000000
/-! Plain lemmas about runs over values. -/
namespace Vm
open PySem Wm
/-- a def stands in the tables -/
structure AtF (tab : List Fn) (kt : List Ki) (ix : Nat → Nat) (n : Nat) (f : (Nat → Nat) → Fn) (k : Ki) : Prop where
  t : tab[ix n]? = some (f ix)
  k : kt[ix n]? = some k
end Vm
end

section
set_option Elab.async false
set_option linter.all false
set_option maxRecDepth 100000
set_option maxHeartbeats 4000000
/-! The functions of the laws, in the own language. -/
namespace Vm
open Wm PySem
abbrev n_ways_at : Nat := 19
abbrev n_far_end : Nat := 20
abbrev n_reached_from : Nat := 21
abbrev n_is_joined : Nat := 22
abbrev n_law_pen : Nat := 5
abbrev n_law_fresh : Nat := 6
abbrev n_law_draw : Nat := 7
abbrev n_law_one_of : Nat := 8
abbrev n_law_reached : Nat := 23
abbrev n_law_is_joined : Nat := 24
abbrev n_law_two_places : Nat := 12
abbrev n_law_mine : Nat := 13
abbrev n_law : Nat := 18
abbrev n_inner_places : Nat := 25
abbrev n_fan_fact : Nat := 56
abbrev n_all_facts : Nat := 57
abbrev n_is_shut_in : Nat := 60
abbrev n_is_stuck : Nat := 61
abbrev n_stuck_places : Nat := 62
abbrev n_law_inner : Nat := 43
abbrev n_law_fact : Nat := 83
abbrev n_law_known : Nat := 88
abbrev n_law_is_stuck : Nat := 93
abbrev n_law_loose : Nat := 86
abbrev n_law_around : Nat := 94
/-- ways_at -/
def sh_ways_at (ix : Nat → Nat) : Fn := ⟨4, 2,
  .sq (.ret (.bi .tuple (.cons (.lc (.v 2) [2, 3] (.cons (.nm 2) (.cons (.nm 3) .nil)) (.enum (.ix (.v 0) (.c (.int 1)))) (.cons (.cmp .inn (.v 1) (.v 3)) .nil)) .nil))) .skip, false⟩
def k_ways_at : Ki := ⟨[.S, .S, .S, .S], false⟩
structure D_ways_at (tab : List Fn) (kt : List Ki) (ix : Nat → Nat) : Prop where
  me : AtF tab kt ix n_ways_at sh_ways_at k_ways_at
/-- far_end -/
def sh_far_end (ix : Nat → Nat) : Fn := ⟨5, 3,
  .sq (.asg (.cons (.nm 3) (.cons (.nm 4) .nil)) (.ix (.ix (.v 0) (.c (.int 1))) (.v 1))) (
  .sq (.ret (.ite (.cmp .eq (.v 2) (.v 3)) (.v 4) (.v 3))) .skip), false⟩
def k_far_end : Ki := ⟨[.S, .S, .S, .S, .S], false⟩
structure D_far_end (tab : List Fn) (kt : List Ki) (ix : Nat → Nat) : Prop where
  me : AtF tab kt ix n_far_end sh_far_end k_far_end
def sb_reached_from_2 (ix : Nat → Nat) : S :=
  .sq (.ite (.and (.cmp .eq (.v 8) (.v 5)) (.and (.cmp .nin (.v 9) (.v 3)) (.cmp .nin (.v 9) (.v 2)))) (
   .sq (.ex (.mt .append (.v 3) (.cons (.v 9) .nil))) (
   .sq (.ex (.mt .append (.v 4) (.cons (.v 9) .nil))) .skip)) (.skip)) .skip
def sb_reached_from_1 (ix : Nat → Nat) : S :=
  .sq (.for (.cons (.nm 8) (.cons (.nm 9) .nil)) (.seq (.tup (.cons (.tup (.cons (.v 6) (.cons (.v 7) .nil))) (.cons (.tup (.cons (.v 7) (.cons (.v 6) .nil))) .nil)))) (.fgt [8, 9] (sb_reached_from_2 ix))) .skip
def sb_reached_from_0 (ix : Nat → Nat) : S :=
  .sq (.asg (.nm 5) (.mt .pop (.v 4) .nil)) (
  .sq (.for (.cons (.nm 6) (.cons (.nm 7) .nil)) (.seq (.v 0)) (.fgt [6, 7, 8, 9] (sb_reached_from_1 ix))) .skip)
/-- reached_from -/
def sh_reached_from (ix : Nat → Nat) : Fn := ⟨10, 3,
  .sq (.par [3, 4] (.cons (.lst (.cons (.v 1) .nil)) (.cons (.lst (.cons (.v 1) .nil)) .nil))) (
  .sq (.whl (.cmp .ne (.v 4) (.lst .nil)) (.fgt [5, 6, 7, 8, 9] (sb_reached_from_0 ix))) (
  .sq (.ret (.bi .sorted (.cons (.v 3) .nil))) .skip)), false⟩
def k_reached_from : Ki := ⟨[.S, .S, .S, .O, .O, .S, .S, .S, .S, .S], false⟩
structure D_reached_from (tab : List Fn) (kt : List Ki) (ix : Nat → Nat) : Prop where
  me : AtF tab kt ix n_reached_from sh_reached_from k_reached_from
/-- is_joined -/
def sh_is_joined (ix : Nat → Nat) : Fn := ⟨1, 1,
  .sq (.ret (.cmp .eq (.bi .len (.cons (.call (ix n_reached_from) (.cons (.ix (.v 0) (.c (.int 1))) (.cons (.ix (.v 0) (.c (.int 2))) (.cons (.tup .nil) .nil)))) .nil)) (.ix (.v 0) (.c (.int 0))))) .skip, false⟩
def k_is_joined : Ki := ⟨[.S], false⟩
structure D_is_joined (tab : List Fn) (kt : List Ki) (ix : Nat → Nat) : Prop where
  me : AtF tab kt ix n_is_joined sh_is_joined k_is_joined
  c_reached_from : D_reached_from tab kt ix
/-- _law_pen -/
def sh_law_pen (ix : Nat → Nat) : Fn := ⟨1, 1,
  .sq (.ret (.lst (.cons (.bi .list (.cons (.sl (.v 0) .nil (.cons (.c (.int 63)) .nil)) .nil)) (.cons (.c (.int 0)) (.cons (.c (.int 0)) .nil))))) .skip, false⟩
def k_law_pen : Ki := ⟨[.S], true⟩
structure D_law_pen (tab : List Fn) (kt : List Ki) (ix : Nat → Nat) : Prop where
  me : AtF tab kt ix n_law_pen sh_law_pen k_law_pen
def sb_law_fresh_0 (ix : Nat → Nat) : S :=
  .sq (.asg (.nm 3) (.bin .mod (.bi .int (.cons (.bin .add (.bin .add (.bin .mul (.v 3) (.v 3)) (.bin .mul (.bin .mul (.c (.int 70139)) (.bin .add (.v 5) (.c (.int 5)))) (.bin .add (.v 6) (.c (.int 1))))) (.v 1)) .nil)) (.v 2))) (
  .sq (.asg (.nm 4) (.bin .add (.bin .mul (.v 4) (.v 2)) (.v 3))) .skip)
/-- _law_fresh -/
def sh_law_fresh (ix : Nat → Nat) : Fn := ⟨8, 1,
  .sq (.par [6, 7] (.cons (.ix (.v 0) (.c (.int 1))) (.cons (.ix (.v 0) (.c (.int 0))) .nil))) (
  .sq (.seti (.v 0) (.c (.int 1)) (.bin .add (.v 6) (.c (.int 1)))) (
  .sq (.asg (.nm 1) (.ite (.cmp .ne (.v 7) (.lst .nil)) (.ix (.v 7) (.bin .mod (.bi .int (.cons (.v 6) .nil)) (.bi .len (.cons (.v 7) .nil)))) (.c (.int 0)))) (
  .sq (.ite (.and (.cmp .lt (.v 6) (.bi .len (.cons (.v 7) .nil))) (.cmp .ge (.v 1) (.bin .pow (.c (.int 10)) (.c (.int 18))))) (
   .sq (.ret (.bin .sub (.v 1) (.bin .pow (.c (.int 10)) (.c (.int 18))))) .skip) (.skip)) (
  .sq (.asg (.nm 2) (.c (.int 2305843009213693951))) (
  .sq (.asg (.nm 3) (.bin .mod (.bi .int (.cons (.bin .add (.bin .add (.bin .mul (.v 1) (.c (.int 48271))) (.bin .mul (.c (.int 60013)) (.v 6))) (.c (.int 31))) .nil)) (.v 2))) (
  .sq (.asg (.nm 4) (.v 3)) (
  .sq (.for (.nm 5) (.rng1 (.c (.int 6))) (.fgt [5] (sb_law_fresh_0 ix))) (
  .sq (.ret (.v 4)) .skip)))))))), false⟩
def k_law_fresh : Ki := ⟨[.I, .S, .S, .S, .S, .S, .S, .S], false⟩
structure D_law_fresh (tab : List Fn) (kt : List Ki) (ix : Nat → Nat) : Prop where
  me : AtF tab kt ix n_law_fresh sh_law_fresh k_law_fresh
/-- _law_draw -/
def sh_law_draw (ix : Nat → Nat) : Fn := ⟨3, 2,
  .sq (.ite (.cmp .lt (.ix (.v 0) (.c (.int 2))) (.v 1)) (
   .sq (.seti (.v 0) (.c (.int 2)) (.call (ix n_law_fresh) (.cons (.v 0) .nil))) .skip) (.skip)) (
  .sq (.asg (.nm 2) (.bin .mod (.bi .int (.cons (.ix (.v 0) (.c (.int 2))) .nil)) (.v 1))) (
  .sq (.seti (.v 0) (.c (.int 2)) (.bin .fdiv (.bi .int (.cons (.ix (.v 0) (.c (.int 2))) .nil)) (.v 1))) (
  .sq (.ret (.v 2)) .skip))), false⟩
def k_law_draw : Ki := ⟨[.I, .S, .S], false⟩
structure D_law_draw (tab : List Fn) (kt : List Ki) (ix : Nat → Nat) : Prop where
  me : AtF tab kt ix n_law_draw sh_law_draw k_law_draw
  c_law_fresh : D_law_fresh tab kt ix
/-- _law_one_of -/
def sh_law_one_of (ix : Nat → Nat) : Fn := ⟨2, 2,
  .sq (.ret (.ix (.v 1) (.call (ix n_law_draw) (.cons (.v 0) (.cons (.bi .len (.cons (.v 1) .nil)) .nil))))) .skip, false⟩
def k_law_one_of : Ki := ⟨[.I, .S], false⟩
structure D_law_one_of (tab : List Fn) (kt : List Ki) (ix : Nat → Nat) : Prop where
  me : AtF tab kt ix n_law_one_of sh_law_one_of k_law_one_of
  c_law_draw : D_law_draw tab kt ix
def sb_law_reached_2 (ix : Nat → Nat) : S :=
  .sq (.ite (.and (.cmp .inn (.v 7) (.v 3)) (.and (.cmp .nin (.v 8) (.v 3)) (.cmp .nin (.v 8) (.v 2)))) (
   .sq (.ex (.mt .append (.v 3) (.cons (.v 8) .nil))) .skip) (.skip)) .skip
def sb_law_reached_1 (ix : Nat → Nat) : S :=
  .sq (.for (.cons (.nm 7) (.cons (.nm 8) .nil)) (.seq (.tup (.cons (.tup (.cons (.v 5) (.cons (.v 6) .nil))) (.cons (.tup (.cons (.v 6) (.cons (.v 5) .nil))) .nil)))) (.fgt [7, 8] (sb_law_reached_2 ix))) .skip
def sb_law_reached_0 (ix : Nat → Nat) : S :=
  .sq (.for (.cons (.nm 5) (.cons (.nm 6) .nil)) (.seq (.v 0)) (.fgt [5, 6, 7, 8] (sb_law_reached_1 ix))) .skip
/-- _law_reached -/
def sh_law_reached (ix : Nat → Nat) : Fn := ⟨9, 3,
  .sq (.asg (.nm 3) (.lst (.cons (.v 1) .nil))) (
  .sq (.for (.nm 4) (.rng1 (.c (.int 8))) (.fgt [4, 5, 6, 7, 8] (sb_law_reached_0 ix))) (
  .sq (.ret (.v 3)) .skip)), false⟩
def k_law_reached : Ki := ⟨[.S, .S, .S, .O, .S, .S, .S, .S, .S], false⟩
structure D_law_reached (tab : List Fn) (kt : List Ki) (ix : Nat → Nat) : Prop where
  me : AtF tab kt ix n_law_reached sh_law_reached k_law_reached
/-- _law_is_joined -/
def sh_law_is_joined (ix : Nat → Nat) : Fn := ⟨1, 1,
  .sq (.ret (.cmp .eq (.bi .len (.cons (.call (ix n_law_reached) (.cons (.ix (.v 0) (.c (.int 1))) (.cons (.ix (.v 0) (.c (.int 2))) (.cons (.tup .nil) .nil)))) .nil)) (.ix (.v 0) (.c (.int 0))))) .skip, false⟩
def k_law_is_joined : Ki := ⟨[.S], false⟩
structure D_law_is_joined (tab : List Fn) (kt : List Ki) (ix : Nat → Nat) : Prop where
  me : AtF tab kt ix n_law_is_joined sh_law_is_joined k_law_is_joined
  c_law_reached : D_law_reached tab kt ix
/-- _law_two_places -/
def sh_law_two_places (ix : Nat → Nat) : Fn := ⟨3, 2,
  .sq (.asg (.nm 2) (.call (ix n_law_draw) (.cons (.v 0) (.cons (.v 1) .nil)))) (
  .sq (.ret (.tup (.cons (.v 2) (.cons (.bin .mod (.bi .int (.cons (.bin .add (.bin .add (.v 2) (.c (.int 1))) (.call (ix n_law_draw) (.cons (.v 0) (.cons (.bin .sub (.v 1) (.c (.int 1))) .nil)))) .nil)) (.v 1)) .nil)))) .skip), false⟩
def k_law_two_places : Ki := ⟨[.I, .S, .S], false⟩
structure D_law_two_places (tab : List Fn) (kt : List Ki) (ix : Nat → Nat) : Prop where
  me : AtF tab kt ix n_law_two_places sh_law_two_places k_law_two_places
  c_law_draw : D_law_draw tab kt ix
def sb_law_mine_1 (ix : Nat → Nat) : S :=
  .sq (.ex (.mt .append (.v 6) (.cons (.call (ix n_law_two_places) (.cons (.v 0) (.cons (.v 3) .nil))) .nil))) .skip
def sb_law_mine_0 (ix : Nat → Nat) : S :=
  .sq (.asg (.nm 7) (.tup (.cons (.v 4) (.cons (.call (ix n_law_draw) (.cons (.v 0) (.cons (.v 4) .nil))) .nil)))) (
  .sq (.ex (.mt .append (.v 6) (.cons (.ite (.cmp .eq (.call (ix n_law_draw) (.cons (.v 0) (.cons (.c (.int 2)) .nil))) (.c (.int 0))) (.v 7) (.rev (.v 7))) .nil))) .skip)
/-- _law_mine -/
def sh_law_mine (ix : Nat → Nat) : Fn := ⟨10, 3,
  .sq (.asg (.nm 3) (.call (ix n_law_one_of) (.cons (.v 0) (.cons (.lst (.cons (.c (.int 2)) (.cons (.c (.int 3)) (.cons (.v 1) (.cons (.v 1) (.cons (.bin .add (.c (.int 2)) (.call (ix n_law_draw) (.cons (.v 0) (.cons (.bin .sub (.v 1) (.c (.int 1))) .nil)))) .nil)))))) .nil)))) (
  .sq (.par [3, 6] (.cons (.bi .min2 (.cons (.v 3) (.cons (.bin .add (.v 2) (.c (.int 1))) .nil))) (.cons (.lst .nil) .nil))) (
  .sq (.for (.nm 4) (.rng2 (.c (.int 1)) (.v 3)) (.fgt [4, 7] (sb_law_mine_0 ix))) (
  .sq (.for (.nm 5) (.rng1 (.call (ix n_law_draw) (.cons (.v 0) (.cons (.bin .add (.bin .sub (.v 2) (.bi .len (.cons (.v 6) .nil))) (.c (.int 1))) .nil)))) (.fgt [5] (sb_law_mine_1 ix))) (
  .sq (.asg (.cons (.nm 8) (.cons (.nm 9) .nil)) (.call (ix n_law_two_places) (.cons (.v 0) (.cons (.v 3) .nil)))) (
  .sq (.ret (.tup (.cons (.v 3) (.cons (.bi .tuple (.cons (.v 6) .nil)) (.cons (.v 8) (.cons (.v 9) .nil)))))) .skip))))), false⟩
def k_law_mine : Ki := ⟨[.I, .S, .S, .S, .S, .S, .O, .S, .S, .S], false⟩
structure D_law_mine (tab : List Fn) (kt : List Ki) (ix : Nat → Nat) : Prop where
  me : AtF tab kt ix n_law_mine sh_law_mine k_law_mine
  c_law_draw : D_law_draw tab kt ix
  c_law_one_of : D_law_one_of tab kt ix
  c_law_two_places : D_law_two_places tab kt ix
def sb_law_k02_2 (ix : Nat → Nat) : S :=
  .sq (.asg (.cons (.nm 10) (.cons (.nm 11) .nil)) (.ix (.ix (.v 3) (.c (.int 1))) (.v 8))) (
  .sq (.ite (.cmp .ne (.bi .repr (.cons (.call (ix n_far_end) (.cons (.v 3) (.cons (.v 8) (.cons (.v 5) .nil)))) .nil)) (.bi .repr (.cons (.ite (.cmp .eq (.v 5) (.v 10)) (.v 11) (.v 10)) .nil))) (
   .sq (.ret (.c (.bl false))) .skip) (.skip)) .skip)
def sb_law_k02_1 (ix : Nat → Nat) : S :=
  .sq (.asg (.nm 7) (.lc (.v 12) [12, 13] (.cons (.nm 12) (.cons (.nm 13) .nil)) (.enum (.ix (.v 3) (.c (.int 1)))) (.cons (.cmp .inn (.v 5) (.v 13)) .nil))) (
  .sq (.ite (.cmp .ne (.bi .repr (.cons (.call (ix n_ways_at) (.cons (.v 3) (.cons (.v 5) .nil))) .nil)) (.bi .repr (.cons (.bi .tuple (.cons (.v 7) .nil)) .nil))) (
   .sq (.ret (.c (.bl false))) .skip) (.skip)) (
  .sq (.for (.nm 8) (.seq (.v 7)) (.fgt [8, 10, 11] (sb_law_k02_2 ix))) .skip))
def sb_law_k02_0 (ix : Nat → Nat) : S :=
  .sq (.asg (.nm 3) (.call (ix n_law_mine) (.cons (.v 1) (.cons (.bin .add (.c (.int 2)) (.call (ix n_law_draw) (.cons (.v 1) (.cons (.c (.int 7)) .nil)))) (.cons (.c (.int 12)) .nil))))) (
  .sq (.ite (.cmp .eq (.call (ix n_law_draw) (.cons (.v 1) (.cons (.c (.int 2)) .nil))) (.c (.int 0))) (
   .sq (.asg (.nm 6) (.lc (.call (ix n_law_two_places) (.cons (.v 1) (.cons (.ix (.v 3) (.c (.int 0))) .nil))) [9] (.nm 9) (.rng1 (.bin .add (.c (.int 1)) (.call (ix n_law_draw) (.cons (.v 1) (.cons (.c (.int 8)) .nil))))) .nil)) (
   .sq (.asg (.nm 3) (.tup (.cons (.ix (.v 3) (.c (.int 0))) (.cons (.bi .tuple (.cons (.v 6) .nil)) (.cons (.ix (.v 3) (.c (.int 2))) (.cons (.ix (.v 3) (.c (.int 3))) .nil)))))) .skip)) (.skip)) (
  .sq (.asg (.nm 4) (.bi .repr (.cons (.v 3) .nil))) (
  .sq (.ite (.cmp .ne (.bi .repr (.cons (.call (ix n_is_joined) (.cons (.v 3) .nil)) .nil)) (.bi .repr (.cons (.call (ix n_law_is_joined) (.cons (.v 3) .nil)) .nil))) (
   .sq (.ret (.c (.bl false))) .skip) (.skip)) (
  .sq (.for (.nm 5) (.rng1 (.ix (.v 3) (.c (.int 0)))) (.fgt [5, 7, 8, 10, 11] (sb_law_k02_1 ix))) (
  .sq (.ite (.cmp .ne (.bi .repr (.cons (.v 3) .nil)) (.v 4)) (
   .sq (.ret (.c (.bl false))) .skip) (.skip)) .skip)))))
/-- law -/
def sh_law_k02 (ix : Nat → Nat) : Fn := ⟨14, 1,
  .sq (.asg (.nm 1) (.call (ix n_law_pen) (.cons (.v 0) .nil))) (
  .sq (.for (.nm 2) (.rng1 (.bi .max2 (.cons (.c (.int 3)) (.cons (.bi .min2 (.cons (.c (.int 8)) (.cons (.bi .len (.cons (.v 0) .nil)) .nil))) .nil)))) (.fgt [2, 3, 4, 5, 6, 7, 8, 10, 11] (sb_law_k02_0 ix))) (
  .sq (.ret (.c (.bl true))) .skip)), false⟩
def k_law_k02 : Ki := ⟨[.S, .O, .S, .S, .S, .S, .S, .S, .S, .S, .S, .S, .S, .S], false⟩
structure D_law_k02 (tab : List Fn) (kt : List Ki) (ix : Nat → Nat) : Prop where
  me : AtF tab kt ix n_law sh_law_k02 k_law_k02
  c_law_draw : D_law_draw tab kt ix
  c_law_is_joined : D_law_is_joined tab kt ix
  c_law_mine : D_law_mine tab kt ix
  c_law_pen : D_law_pen tab kt ix
  c_law_two_places : D_law_two_places tab kt ix
  c_far_end : D_far_end tab kt ix
  c_is_joined : D_is_joined tab kt ix
  c_ways_at : D_ways_at tab kt ix
/-- inner_places -/
def sh_inner_places (ix : Nat → Nat) : Fn := ⟨2, 1,
  .sq (.ret (.lc (.v 1) [1] (.nm 1) (.rng1 (.ix (.v 0) (.c (.int 0)))) (.cons (.cmp .nin (.v 1) (.sl (.v 0) (.cons (.c (.int 2)) .nil) .nil)) .nil))) .skip, false⟩
def k_inner_places : Ki := ⟨[.S, .S], false⟩
structure D_inner_places (tab : List Fn) (kt : List Ki) (ix : Nat → Nat) : Prop where
  me : AtF tab kt ix n_inner_places sh_inner_places k_inner_places
/-- fan_fact -/
def sh_fan_fact (ix : Nat → Nat) : Fn := ⟨1, 1,
  .sq (.ret (.tup (.cons (.ix (.v 0) (.c (.int 2))) (.cons (.ix (.v 0) (.c (.int 3))) (.cons (.c (.int 1)) .nil))))) .skip, false⟩
def k_fan_fact : Ki := ⟨[.S], false⟩
structure D_fan_fact (tab : List Fn) (kt : List Ki) (ix : Nat → Nat) : Prop where
  me : AtF tab kt ix n_fan_fact sh_fan_fact k_fan_fact
/-- all_facts -/
def sh_all_facts (ix : Nat → Nat) : Fn := ⟨2, 2,
  .sq (.ret (.bin .add (.tup (.cons (.call (ix n_fan_fact) (.cons (.v 0) .nil)) .nil)) (.bi .tuple (.cons (.v 1) .nil)))) .skip, false⟩
def k_all_facts : Ki := ⟨[.S, .S], false⟩
structure D_all_facts (tab : List Fn) (kt : List Ki) (ix : Nat → Nat) : Prop where
  me : AtF tab kt ix n_all_facts sh_all_facts k_all_facts
  c_fan_fact : D_fan_fact tab kt ix
def sb_is_shut_in_0 (ix : Nat → Nat) : S :=
  .sq (.asg (.nm 6) (.call (ix n_far_end) (.cons (.v 0) (.cons (.v 5) (.cons (.v 2) .nil))))) (
  .sq (.asg (.cons (.nm 7) (.cons (.nm 8) .nil)) (.ite (.v 3) (.tup (.cons (.v 6) (.cons (.v 2) .nil))) (.tup (.cons (.v 2) (.cons (.v 6) .nil))))) (
  .sq (.ite (.cmp .inn (.tup (.cons (.v 7) (.cons (.v 8) (.cons (.c (.int 1)) .nil)))) (.v 1)) (
   .sq (.asg (.nm 4) (.c (.bl true))) .skip) (
   .sq (.ite (.cmp .nin (.tup (.cons (.v 7) (.cons (.v 8) (.cons (.c (.int 0)) .nil)))) (.v 1)) (
    .sq (.ret (.c (.bl false))) .skip) (.skip)) .skip)) .skip))
/-- is_shut_in -/
def sh_is_shut_in (ix : Nat → Nat) : Fn := ⟨9, 4,
  .sq (.asg (.nm 4) (.c (.bl false))) (
  .sq (.for (.nm 5) (.seq (.call (ix n_ways_at) (.cons (.v 0) (.cons (.v 2) .nil)))) (.fgt [5, 6, 7, 8] (sb_is_shut_in_0 ix))) (
  .sq (.ret (.v 4)) .skip)), false⟩
def k_is_shut_in : Ki := ⟨[.S, .S, .S, .S, .S, .S, .S, .S, .S], false⟩
structure D_is_shut_in (tab : List Fn) (kt : List Ki) (ix : Nat → Nat) : Prop where
  me : AtF tab kt ix n_is_shut_in sh_is_shut_in k_is_shut_in
  c_far_end : D_far_end tab kt ix
  c_ways_at : D_ways_at tab kt ix
/-- is_stuck -/
def sh_is_stuck (ix : Nat → Nat) : Fn := ⟨4, 3,
  .sq (.asg (.nm 3) (.call (ix n_all_facts) (.cons (.v 0) (.cons (.v 1) .nil)))) (
  .sq (.ret (.or (.call (ix n_is_shut_in) (.cons (.v 0) (.cons (.v 3) (.cons (.v 2) (.cons (.c (.bl true)) .nil))))) (.call (ix n_is_shut_in) (.cons (.v 0) (.cons (.v 3) (.cons (.v 2) (.cons (.c (.bl false)) .nil))))))) .skip), false⟩
def k_is_stuck : Ki := ⟨[.S, .S, .S, .S], false⟩
structure D_is_stuck (tab : List Fn) (kt : List Ki) (ix : Nat → Nat) : Prop where
  me : AtF tab kt ix n_is_stuck sh_is_stuck k_is_stuck
  c_all_facts : D_all_facts tab kt ix
  c_is_shut_in : D_is_shut_in tab kt ix
/-- stuck_places -/
def sh_stuck_places (ix : Nat → Nat) : Fn := ⟨3, 2,
  .sq (.ret (.bi .tuple (.cons (.lc (.v 2) [2] (.nm 2) (.seq (.call (ix n_inner_places) (.cons (.v 0) .nil))) (.cons (.call (ix n_is_stuck) (.cons (.v 0) (.cons (.v 1) (.cons (.v 2) .nil)))) .nil)) .nil))) .skip, false⟩
def k_stuck_places : Ki := ⟨[.S, .S, .S], false⟩
structure D_stuck_places (tab : List Fn) (kt : List Ki) (ix : Nat → Nat) : Prop where
  me : AtF tab kt ix n_stuck_places sh_stuck_places k_stuck_places
  c_inner_places : D_inner_places tab kt ix
  c_is_stuck : D_is_stuck tab kt ix
/-- _law_inner -/
def sh_law_inner (ix : Nat → Nat) : Fn := ⟨2, 1,
  .sq (.ret (.lc (.v 1) [1] (.nm 1) (.rng1 (.ix (.v 0) (.c (.int 0)))) (.cons (.cmp .nin (.v 1) (.sl (.v 0) (.cons (.c (.int 2)) .nil) .nil)) .nil))) .skip, false⟩
def k_law_inner : Ki := ⟨[.S, .S], false⟩
structure D_law_inner (tab : List Fn) (kt : List Ki) (ix : Nat → Nat) : Prop where
  me : AtF tab kt ix n_law_inner sh_law_inner k_law_inner
/-- _law_fact -/
def sh_law_fact (ix : Nat → Nat) : Fn := ⟨2, 2,
  .sq (.ret (.bin .add (.call (ix n_law_two_places) (.cons (.v 0) (.cons (.v 1) .nil))) (.tup (.cons (.call (ix n_law_draw) (.cons (.v 0) (.cons (.c (.int 2)) .nil))) .nil)))) .skip, false⟩
def k_law_fact : Ki := ⟨[.I, .S], false⟩
structure D_law_fact (tab : List Fn) (kt : List Ki) (ix : Nat → Nat) : Prop where
  me : AtF tab kt ix n_law_fact sh_law_fact k_law_fact
  c_law_draw : D_law_draw tab kt ix
  c_law_two_places : D_law_two_places tab kt ix
/-- _law_known -/
def sh_law_known (ix : Nat → Nat) : Fn := ⟨2, 2,
  .sq (.ret (.bin .add (.lst (.cons (.tup (.cons (.ix (.v 0) (.c (.int 2))) (.cons (.ix (.v 0) (.c (.int 3))) (.cons (.c (.int 1)) .nil)))) .nil)) (.bi .list (.cons (.v 1) .nil)))) .skip, false⟩
def k_law_known : Ki := ⟨[.S, .S], false⟩
structure D_law_known (tab : List Fn) (kt : List Ki) (ix : Nat → Nat) : Prop where
  me : AtF tab kt ix n_law_known sh_law_known k_law_known
def sb_law_is_stuck_0 (ix : Nat → Nat) : S :=
  .sq (.asg (.nm 5) (.lc (.v 10) [10] (.nm 10) (.seq (.v 4)) (.cons (.cmp .inn (.bin .add (.v 10) (.tup (.cons (.c (.int 1)) .nil))) (.v 1)) .nil))) (
  .sq (.asg (.nm 6) (.lc (.v 10) [10] (.nm 10) (.seq (.v 4)) (.cons (.and (.cmp .nin (.bin .add (.v 10) (.tup (.cons (.c (.int 1)) .nil))) (.v 1)) (.cmp .nin (.bin .add (.v 10) (.tup (.cons (.c (.int 0)) .nil))) (.v 1))) .nil))) (
  .sq (.ite (.and (.cmp .ne (.v 5) (.lst .nil)) (.cmp .eq (.v 6) (.lst .nil))) (
   .sq (.ret (.c (.bl true))) .skip) (.skip)) .skip))
/-- _law_is_stuck -/
def sh_law_is_stuck (ix : Nat → Nat) : Fn := ⟨11, 3,
  .sq (.asg (.nm 3) (.lc (.ite (.cmp .eq (.v 7) (.v 2)) (.v 8) (.v 7)) [7, 8] (.cons (.nm 7) (.cons (.nm 8) .nil)) (.seq (.ix (.v 0) (.c (.int 1)))) (.cons (.cmp .inn (.v 2) (.tup (.cons (.v 7) (.cons (.v 8) .nil)))) .nil))) (
  .sq (.ite (.cmp .nin (.v 2) (.call (ix n_law_inner) (.cons (.v 0) .nil))) (
   .sq (.ret (.c (.bl false))) .skip) (.skip)) (
  .sq (.for (.nm 4) (.seq (.tup (.cons (.lc (.tup (.cons (.v 9) (.cons (.v 2) .nil))) [9] (.nm 9) (.seq (.v 3)) .nil) (.cons (.lc (.tup (.cons (.v 2) (.cons (.v 9) .nil))) [9] (.nm 9) (.seq (.v 3)) .nil) .nil)))) (.fgt [4, 5, 6] (sb_law_is_stuck_0 ix))) (
  .sq (.ret (.c (.bl false))) .skip))), false⟩
def k_law_is_stuck : Ki := ⟨[.S, .S, .S, .S, .S, .S, .S, .S, .S, .S, .S], false⟩
structure D_law_is_stuck (tab : List Fn) (kt : List Ki) (ix : Nat → Nat) : Prop where
  me : AtF tab kt ix n_law_is_stuck sh_law_is_stuck k_law_is_stuck
  c_law_inner : D_law_inner tab kt ix
/-- _law_loose -/
def sh_law_loose (ix : Nat → Nat) : Fn := ⟨4, 2,
  .sq (.ite (.cmp .gt (.call (ix n_law_draw) (.cons (.v 0) (.cons (.c (.int 3)) .nil))) (.c (.int 0))) (
   .sq (.ret (.v 1)) .skip) (.skip)) (
  .sq (.asg (.nm 2) (.lc (.call (ix n_law_two_places) (.cons (.v 0) (.cons (.ix (.v 1) (.c (.int 0))) .nil))) [3] (.nm 3) (.rng1 (.bin .add (.c (.int 1)) (.call (ix n_law_draw) (.cons (.v 0) (.cons (.c (.int 6)) .nil))))) .nil)) (
  .sq (.ret (.tup (.cons (.ix (.v 1) (.c (.int 0))) (.cons (.bi .tuple (.cons (.v 2) .nil)) (.cons (.ix (.v 1) (.c (.int 2))) (.cons (.ix (.v 1) (.c (.int 3))) .nil)))))) .skip)), false⟩
def k_law_loose : Ki := ⟨[.I, .S, .S, .S], false⟩
structure D_law_loose (tab : List Fn) (kt : List Ki) (ix : Nat → Nat) : Prop where
  me : AtF tab kt ix n_law_loose sh_law_loose k_law_loose
  c_law_draw : D_law_draw tab kt ix
  c_law_two_places : D_law_two_places tab kt ix
def sb_law_around_0 (ix : Nat → Nat) : S :=
  .sq (.ite (.cmp .inn (.v 2) (.tup (.cons (.v 5) (.cons (.v 6) .nil)))) (
   .sq (.asg (.nm 7) (.ite (.cmp .eq (.v 5) (.v 2)) (.v 6) (.v 5))) (
   .sq (.asg (.cons (.nm 8) (.cons (.nm 9) .nil)) (.ite (.cmp .eq (.v 4) (.c (.int 0))) (.tup (.cons (.v 7) (.cons (.v 2) .nil))) (.tup (.cons (.v 2) (.cons (.v 7) .nil))))) (
   .sq (.ite (.cmp .gt (.call (ix n_law_draw) (.cons (.v 0) (.cons (.c (.int 9)) .nil))) (.c (.int 0))) (
    .sq (.ex (.mt .append (.v 3) (.cons (.tup (.cons (.v 8) (.cons (.v 9) (.cons (.call (ix n_law_draw) (.cons (.v 0) (.cons (.c (.int 2)) .nil))) .nil)))) .nil))) .skip) (.skip)) .skip))) (.skip)) .skip
/-- _law_around -/
def sh_law_around (ix : Nat → Nat) : Fn := ⟨10, 3,
  .sq (.par [3, 4] (.cons (.lst .nil) (.cons (.call (ix n_law_draw) (.cons (.v 0) (.cons (.c (.int 2)) .nil))) .nil))) (
  .sq (.for (.cons (.nm 5) (.cons (.nm 6) .nil)) (.seq (.ix (.v 1) (.c (.int 1)))) (.fgt [5, 6, 7, 8, 9] (sb_law_around_0 ix))) (
  .sq (.ret (.v 3)) .skip)), false⟩
def k_law_around : Ki := ⟨[.I, .S, .S, .O, .S, .S, .S, .S, .S, .S], false⟩
structure D_law_around (tab : List Fn) (kt : List Ki) (ix : Nat → Nat) : Prop where
  me : AtF tab kt ix n_law_around sh_law_around k_law_around
  c_law_draw : D_law_draw tab kt ix
def sb_law_k09_0 (ix : Nat → Nat) : S :=
  .sq (.asg (.nm 3) (.call (ix n_law_loose) (.cons (.v 1) (.cons (.call (ix n_law_mine) (.cons (.v 1) (.cons (.c (.int 6)) (.cons (.c (.int 9)) .nil)))) .nil)))) (
  .sq (.asg (.nm 4) (.bin .add (.call (ix n_law_around) (.cons (.v 1) (.cons (.v 3) (.cons (.call (ix n_law_draw) (.cons (.v 1) (.cons (.ix (.v 3) (.c (.int 0))) .nil))) .nil)))) (.call (ix n_law_around) (.cons (.v 1) (.cons (.v 3) (.cons (.call (ix n_law_draw) (.cons (.v 1) (.cons (.ix (.v 3) (.c (.int 0))) .nil))) .nil)))))) (
  .sq (.asg (.nm 4) (.sl (.v 4) .nil (.cons (.call (ix n_law_one_of) (.cons (.v 1) (.cons (.lst (.cons (.c (.int 11)) (.cons (.c (.int 11)) (.cons (.c (.int 5)) .nil)))) .nil))) .nil))) (
  .sq (.asg (.nm 4) (.bi .tuple (.cons (.ite (.cmp .eq (.call (ix n_law_draw) (.cons (.v 1) (.cons (.c (.int 2)) .nil))) (.c (.int 0))) (.bin .add (.v 4) (.lst (.cons (.call (ix n_law_fact) (.cons (.v 1) (.cons (.ix (.v 3) (.c (.int 0))) .nil))) .nil))) (.v 4)) .nil))) (
  .sq (.asg (.cons (.nm 6) (.cons (.nm 7) .nil)) (.tup (.cons (.bi .repr (.cons (.v 4) .nil)) (.cons (.call (ix n_law_known) (.cons (.v 3) (.cons (.v 4) .nil))) .nil)))) (
  .sq (.asg (.nm 5) (.lc (.v 8) [8] (.nm 8) (.rng1 (.ix (.v 3) (.c (.int 0)))) (.cons (.call (ix n_law_is_stuck) (.cons (.v 3) (.cons (.v 7) (.cons (.v 8) .nil)))) .nil))) (
  .sq (.ite (.or (.cmp .ne (.bi .repr (.cons (.call (ix n_stuck_places) (.cons (.v 3) (.cons (.v 4) .nil))) .nil)) (.bi .repr (.cons (.bi .tuple (.cons (.v 5) .nil)) .nil))) (.cmp .ne (.bi .repr (.cons (.v 4) .nil)) (.v 6))) (
   .sq (.ret (.c (.bl false))) .skip) (.skip)) .skip))))))
/-- law -/
def sh_law_k09 (ix : Nat → Nat) : Fn := ⟨9, 1,
  .sq (.asg (.nm 1) (.call (ix n_law_pen) (.cons (.v 0) .nil))) (
  .sq (.for (.nm 2) (.rng1 (.bi .max2 (.cons (.c (.int 4)) (.cons (.bi .min2 (.cons (.c (.int 10)) (.cons (.bi .len (.cons (.v 0) .nil)) .nil))) .nil)))) (.fgt [2, 3, 4, 5, 6, 7] (sb_law_k09_0 ix))) (
  .sq (.ret (.c (.bl true))) .skip)), false⟩
def k_law_k09 : Ki := ⟨[.S, .O, .S, .S, .S, .S, .S, .S, .S], false⟩
structure D_law_k09 (tab : List Fn) (kt : List Ki) (ix : Nat → Nat) : Prop where
  me : AtF tab kt ix n_law sh_law_k09 k_law_k09
  c_law_around : D_law_around tab kt ix
  c_law_draw : D_law_draw tab kt ix
  c_law_fact : D_law_fact tab kt ix
  c_law_is_stuck : D_law_is_stuck tab kt ix
  c_law_known : D_law_known tab kt ix
  c_law_loose : D_law_loose tab kt ix
  c_law_mine : D_law_mine tab kt ix
  c_law_one_of : D_law_one_of tab kt ix
  c_law_pen : D_law_pen tab kt ix
  c_stuck_places : D_stuck_places tab kt ix
end Vm
end

section
set_option Elab.async false
set_option linter.all false
set_option maxRecDepth 100000
set_option maxHeartbeats 4000000
namespace K09
open Vm Wm PySem
def ids : List Nat := [n_ways_at, n_far_end, n_inner_places, n_fan_fact, n_all_facts, n_is_shut_in, n_is_stuck, n_stuck_places, n_law_pen, n_law_fresh, n_law_draw, n_law_one_of, n_law_two_places, n_law_mine, n_law_inner, n_law_fact, n_law_known, n_law_is_stuck, n_law_loose, n_law_around, n_law]
def ix (n : Nat) : Nat := ids.findIdx (fun m => Nat.beq m n)
def tab : List Fn := [sh_ways_at ix, sh_far_end ix, sh_inner_places ix, sh_fan_fact ix, sh_all_facts ix, sh_is_shut_in ix, sh_is_stuck ix, sh_stuck_places ix, sh_law_pen ix, sh_law_fresh ix, sh_law_draw ix, sh_law_one_of ix, sh_law_two_places ix, sh_law_mine ix, sh_law_inner ix, sh_law_fact ix, sh_law_known ix, sh_law_is_stuck ix, sh_law_loose ix, sh_law_around ix, sh_law_k09 ix]
def kt : List Ki := [k_ways_at, k_far_end, k_inner_places, k_fan_fact, k_all_facts, k_is_shut_in, k_is_stuck, k_stuck_places, k_law_pen, k_law_fresh, k_law_draw, k_law_one_of, k_law_two_places, k_law_mine, k_law_inner, k_law_fact, k_law_known, k_law_is_stuck, k_law_loose, k_law_around, k_law_k09]
theorem d_ways_at : D_ways_at tab kt ix := ⟨⟨rfl, rfl⟩⟩
theorem d_far_end : D_far_end tab kt ix := ⟨⟨rfl, rfl⟩⟩
theorem d_inner_places : D_inner_places tab kt ix := ⟨⟨rfl, rfl⟩⟩
theorem d_fan_fact : D_fan_fact tab kt ix := ⟨⟨rfl, rfl⟩⟩
theorem d_all_facts : D_all_facts tab kt ix := ⟨⟨rfl, rfl⟩, d_fan_fact⟩
theorem d_is_shut_in : D_is_shut_in tab kt ix := ⟨⟨rfl, rfl⟩, d_far_end, d_ways_at⟩
theorem d_is_stuck : D_is_stuck tab kt ix := ⟨⟨rfl, rfl⟩, d_all_facts, d_is_shut_in⟩
theorem d_stuck_places : D_stuck_places tab kt ix := ⟨⟨rfl, rfl⟩, d_inner_places, d_is_stuck⟩
theorem d_law_pen : D_law_pen tab kt ix := ⟨⟨rfl, rfl⟩⟩
theorem d_law_fresh : D_law_fresh tab kt ix := ⟨⟨rfl, rfl⟩⟩
theorem d_law_draw : D_law_draw tab kt ix := ⟨⟨rfl, rfl⟩, d_law_fresh⟩
theorem d_law_one_of : D_law_one_of tab kt ix := ⟨⟨rfl, rfl⟩, d_law_draw⟩
theorem d_law_two_places : D_law_two_places tab kt ix := ⟨⟨rfl, rfl⟩, d_law_draw⟩
theorem d_law_mine : D_law_mine tab kt ix := ⟨⟨rfl, rfl⟩, d_law_draw, d_law_one_of, d_law_two_places⟩
theorem d_law_inner : D_law_inner tab kt ix := ⟨⟨rfl, rfl⟩⟩
theorem d_law_fact : D_law_fact tab kt ix := ⟨⟨rfl, rfl⟩, d_law_draw, d_law_two_places⟩
theorem d_law_known : D_law_known tab kt ix := ⟨⟨rfl, rfl⟩⟩
theorem d_law_is_stuck : D_law_is_stuck tab kt ix := ⟨⟨rfl, rfl⟩, d_law_inner⟩
theorem d_law_loose : D_law_loose tab kt ix := ⟨⟨rfl, rfl⟩, d_law_draw, d_law_two_places⟩
theorem d_law_around : D_law_around tab kt ix := ⟨⟨rfl, rfl⟩, d_law_draw⟩
theorem d_law_k09 : D_law_k09 tab kt ix := ⟨⟨rfl, rfl⟩, d_law_around, d_law_draw, d_law_fact, d_law_is_stuck, d_law_known, d_law_loose, d_law_mine, d_law_one_of, d_law_pen, d_stuck_places⟩
def cn : List (String × W) := []
end K09
end

section
set_option Elab.async false
set_option linter.all false
set_option maxRecDepth 100000
set_option maxHeartbeats 4000000
namespace K09
open Vm Wm PySem
def top (i : Nat) : Stmt := PySem.Challenge.pw_windways_k09_stuck_places.main.body.getD i (.Pass ⟨0, 0, 0, 0⟩)
def d0 : Df := ⟨"ways_at", ["mine", "x"], ["mine", "x", "number", "way"], top 1⟩
def d1 : Df := ⟨"far_end", ["mine", "w", "x"], ["mine", "w", "x", "one", "other"], top 2⟩
def d2 : Df := ⟨"inner_places", ["mine"], ["mine", "x"], top 3⟩
def d3 : Df := ⟨"fan_fact", ["mine"], ["mine"], top 5⟩
def d4 : Df := ⟨"all_facts", ["mine", "facts"], ["mine", "facts"], top 6⟩
def d5 : Df := ⟨"is_shut_in", ["mine", "known", "x", "above"], ["mine", "known", "x", "above", "strict", "w", "z", "high", "low"], top 7⟩
def d6 : Df := ⟨"is_stuck", ["mine", "facts", "x"], ["mine", "facts", "x", "known"], top 8⟩
def d7 : Df := ⟨"stuck_places", ["mine", "facts"], ["mine", "facts", "x"], top 9⟩
def d8 : Df := ⟨"_law_pen", ["script"], ["script"], top 11⟩
def d9 : Df := ⟨"_law_fresh", ["pen"], ["pen", "cell", "prime", "state", "found", "lap", "seat", "given"], top 12⟩
def d10 : Df := ⟨"_law_draw", ["pen", "bound"], ["pen", "bound", "digit"], top 13⟩
def d11 : Df := ⟨"_law_one_of", ["pen", "some"], ["pen", "some"], top 14⟩
def d12 : Df := ⟨"_law_two_places", ["pen", "places"], ["pen", "places", "one"], top 15⟩
def d13 : Df := ⟨"_law_mine", ["pen", "most", "many"], ["pen", "most", "many", "places", "x", "lap", "ways", "pair", "inlet", "outlet"], top 16⟩
def d14 : Df := ⟨"_law_inner", ["mine"], ["mine", "x"], top 17⟩
def d15 : Df := ⟨"_law_fact", ["pen", "places"], ["pen", "places"], top 18⟩
def d16 : Df := ⟨"_law_known", ["mine", "facts"], ["mine", "facts"], top 19⟩
def d17 : Df := ⟨"_law_is_stuck", ["mine", "known", "x"], ["mine", "known", "x", "fars", "pairs", "strict", "rest", "one", "other", "far", "pair"], top 20⟩
def d18 : Df := ⟨"_law_loose", ["pen", "mine"], ["pen", "mine", "ways", "lap"], top 21⟩
def d19 : Df := ⟨"_law_around", ["pen", "mine", "x"], ["pen", "mine", "x", "found", "side", "one", "other", "far", "high", "low"], top 22⟩
def d20 : Df := ⟨"law", ["script"], ["script", "pen", "turn", "mine", "facts", "due", "before", "known", "x"], top 23⟩
def ds : List Df := [d0, d1, d2, d3, d4, d5, d6, d7, d8, d9, d10, d11, d12, d13, d14, d15, d16, d17, d18, d19, d20]
def cnS : List (Str × W) := cn.map fun p => (Str.ofString p.1, p.2)
theorem okv : okTab kt tab kt = true := by decide +kernel
theorem ok : allOk cnS ds tab = true := by decide +kernel
abbrev theRow : PySem.W.OpenRow := PySem.W.OpenLaw.row PySem.Challenge.rw_windways_k09_stuck_places
def ob (s : PySem.W.SharedT) : He.AlD := He.obsDG 4 (faOf cnS ds) (Wm.fnOf ds) (HandSHeadRun.getT s)
def loose : List Str := (ds.take 20).map (·.x)
set_option maxHeartbeats 0 in
theorem run (w : World) : HandSHeadRun.RunEq theRow (PySem.W.view theRow.prog [23]) (He.hookD 4 (faOf cnS ds) (Wm.fnOf ds)) ob 4000 loose w := by
  intro os
  kernel_rfl
end K09
open PySem PySem.W PySem.Calls PyProof.Rows
set_option maxHeartbeats 0 in
theorem K09.of_heap (plain : ∀ ns : List Int, ns.length ≤ 63 → ∃ hh, Wm.callN K09.tab 40 20 [.rol (ns.map .int)] [] = .ok (.bl true) hh) : PySem.Challenge.rw_windways_k09_stuck_places.Holds := by
  w_on; o_law
  refine HandSHeadRun.head_any (r := K09.theRow) (q := view K09.theRow.prog [23]) (H := He.hookD 4 (Wm.faOf K09.cnS K09.ds) (Wm.fnOf K09.ds)) (ob := K09.ob) (M := 4000) (loose := K09.loose) (d := HandSHeadRun.topDef K09.theRow.prog 23) (kwd := []) (fun s => He.obsDG_eq (HandSHeadRun.getT_eq s))
    (by kernel_rfl) (fun s => by kernel_rfl) K09.run (by kernel_rfl) (by kernel_rfl) (by kernel_rfl) (by rfl) (by first | assumption | decide +kernel) (by decide +kernel) ⟨rfl, rfl, rfl, rfl, rfl, by decide +kernel⟩ ?hw ?hc
  case hw => w_witness2
  case hc => exact Wm.walk (n := 63) (k := 40) (i := 20) (x := "script") rfl (by decide) (by kernel_rfl) ⟨rfl, by decide, by decide⟩ plain (Wm.entry K09.ok (by rfl) (dl := K09.d20) rfl rfl (by kernel_rfl))
theorem K09.of_plain (plain : ∀ ns : List Int, ns.length ≤ 63 → ∃ o, Vm.vcallN K09.tab K09.kt 40 (K09.ix Vm.n_law) [.rol (ns.map .int)] = .ok (.bl true) o) : PySem.Challenge.rw_windways_k09_stuck_places.Holds :=
  K09.of_heap fun ns hl => (plain ns hl).elim fun o e => Vm.plain_of K09.okv (k := Vm.k_law_k09) rfl rfl e
end

section
set_option Elab.async false
set_option linter.all false
set_option maxRecDepth 100000
set_option maxHeartbeats 4000000
/-! Plain lemmas about runs over values: steps. -/
namespace Vm
open PySem Wm
variable {G : Nat → List W → Q W} {io : Nat → List Bool}
/-! ### steps -/
theorem Q.bind_congr {α β : Type} {q q' : Q α} {f : α → Sl → Q β} (h : q = q') : q.bind f = q'.bind f := by rw [h]
@[simp] theorem getS_z (x : Option W) (s : Sl) : getS (x :: s) 0 = x := rfl
@[simp] theorem getS_s (x : Option W) (s : Sl) (i : Nat) : getS (x :: s) (i + 1) = getS s i := rfl
@[simp] theorem setS_z (x w : Option W) (s : Sl) : setS (x :: s) 0 w = w :: s := rfl
@[simp] theorem setS_s (x w : Option W) (s : Sl) (i : Nat) : setS (x :: s) (i + 1) w = x :: setS s i w := rfl
@[simp] theorem wipe_n (s : Sl) : wipeS s [] = s := rfl
@[simp] theorem wipe_c (s : Sl) (i : Nat) (is : List Nat) : wipeS s (i :: is) = setS (wipeS s is) i none := rfl
@[simp] theorem rest_n (s0 s : Sl) : restS s0 [] s = s := rfl
@[simp] theorem rest_c (s0 s : Sl) (i : Nat) (is : List Nat) : restS s0 (i :: is) s = setS (restS s0 is s) i (getS s0 i) := rfl
@[simp] theorem asg_nm (i : Nat) (w : W) (s : Sl) : asgT (.nm i) w s = some (setS s i (some w)) := rfl
@[simp] theorem asg_nil (s : Sl) : asgT .nil (.tup []) s = some s := rfl
@[simp] theorem asg_cons (a r : T) (x : W) (xs : List W) (s : Sl) : asgT (.cons a r) (.tup (x :: xs)) s = (match asgT a x s with | some s' => asgT r (.tup xs) s' | none => none) := rfl
@[simp] theorem par_nil (s : Sl) : parS [] [] s = some s := rfl
@[simp] theorem par_cons (i : Nat) (is : List Nat) (w : W) (ws : List W) (s : Sl) : parS (i :: is) (w :: ws) s = parS is ws (setS s i (some w)) := rfl
@[simp] theorem vE_v (i : Nat) (s : Sl) : vE G io (.v i) s = Q.of (getS s i) s := rfl
@[simp] theorem vE_c (w : W) (s : Sl) : vE G io (.c w) s = .ok w s := rfl
@[simp] theorem vE_bin (o : Bop) (a b : E) (s : Sl) : vE G io (.bin o a b) s = (vE G io a s).bind fun x s1 => (vE G io b s1).bind fun y s2 => Q.of (binV o x y) s2 := rfl
@[simp] theorem vE_neg (a : E) (s : Sl) : vE G io (.neg a) s = (vE G io a s).bind fun x s1 => Q.of (negV x) s1 := rfl
@[simp] theorem vE_cmp (o : Cop) (a b : E) (s : Sl) : vE G io (.cmp o a b) s = (vE G io a s).bind fun x s1 => (vE G io b s1).bind fun y s2 => (Q.of (cmpV o x y) s2).bind fun k s3 => .ok (.bl k) s3 := rfl
@[simp] theorem vE_chain (o p : Cop) (a b c : E) (s : Sl) : vE G io (.chain o p a b c) s = (vE G io a s).bind fun x s1 => (vE G io b s1).bind fun y s2 => (Q.of (cmpV o x y) s2).bind fun k s3 =>
      if k = true then (vE G io c s3).bind fun u s4 => (Q.of (cmpV p y u) s4).bind fun k s5 => .ok (.bl k) s5 else .ok (.bl false) s3 := rfl
@[simp] theorem vE_and (a b : E) (s : Sl) : vE G io (.and a b) s = (vE G io a s).bind fun x s1 => (Q.of (truV x) s1).bind fun k s2 => if k = true then vE G io b s2 else .ok x s2 := rfl
@[simp] theorem vE_or (a b : E) (s : Sl) : vE G io (.or a b) s = (vE G io a s).bind fun x s1 => (Q.of (truV x) s1).bind fun k s2 => if k = true then .ok x s2 else vE G io b s2 := rfl
@[simp] theorem vE_not (a : E) (s : Sl) : vE G io (.not a) s = (vE G io a s).bind fun x s1 => (Q.of (truV x) s1).bind fun k s2 => .ok (.bl (!k)) s2 := rfl
@[simp] theorem vE_ite (t a b : E) (s : Sl) : vE G io (.ite t a b) s = (vT G io t s).bind fun k s1 => if k = true then vE G io a s1 else vE G io b s1 := rfl
@[simp] theorem vE_call (f : Nat) (as : E) (s : Sl) : vE G io (.call f as) s = (vA G io (io f) as s).bind fun ws s1 => (G f ws).back (io f) as s1 := rfl
@[simp] theorem vE_bi (b : Bi) (as : E) (s : Sl) : vE G io (.bi b as) s = (vs G io as s).bind fun ws s1 => Q.of (biV' b ws) s1 := rfl
@[simp] theorem vE_isi (a : E) (ts : List String) (s : Sl) : vE G io (.isi a ts) s = (vE G io a s).bind fun x s1 => (Q.of (isiO ts x) s1).bind fun k s2 => .ok (.bl k) s2 := rfl
@[simp] theorem vE_mt (m : Mt) (k : Nat) (as : E) (s : Sl) : vE G io (.mt m (.v k) as) s = (Q.of (lstS s k) s).bind fun _ s0 => (vs G io as s0).bind fun ws s1 => mtS m k ws s1 := rfl
@[simp] theorem vE_tup (as : E) (s : Sl) : vE G io (.tup as) s = (vs G io as s).bind fun ws s1 => if lenOk ws = true then .ok (.tup ws) s1 else .no := rfl
@[simp] theorem vE_lst (as : E) (s : Sl) : vE G io (.lst as) s = (vs G io as s).bind fun ws s1 => if lenOk ws = true then .ok (.lst ws) s1 else .no := rfl
@[simp] theorem vE_ix (a b : E) (s : Sl) : vE G io (.ix a b) s = (vE G io a s).bind fun x s1 => (vE G io b s1).bind fun y s2 => Q.of (ixV x y) s2 := rfl
@[simp] theorem vE_sl (a lo hi : E) (s : Sl) : vE G io (.sl a lo hi) s = (vE G io a s).bind fun x s1 => (vO G io lo s1).bind fun l s2 => (vO G io hi s2).bind fun u s3 => Q.of (slV x l u) s3 := rfl
@[simp] theorem vE_rev (a : E) (s : Sl) : vE G io (.rev a) s = (vE G io a s).bind fun x s1 => Q.of (revV x) s1 := rfl
@[simp] theorem vE_lrg (a : E) (s : Sl) : vE G io (.lrg a) s = (vE G io a s).bind fun x s1 => Q.of (lrgV x) s1 := rfl
/-- a comprehension's turn -/
def lcF (G : Nat → List W → Q W) (io : Nat → List Bool) (e : E) (own : List Nat) (t : T) (cond : E) (w : W) (s2 : Sl) : Q (Option W) := match asgT t w (wipeS s2 own) with
        | some s3 => (vC G io cond s3).bind fun k s4 => if k = true then (vE G io e s4).bind fun y s5 => .ok (some y) (restS s2 own s5) else .ok none (restS s2 own s4)
        | none => .no
@[simp] theorem vE_lc (e : E) (own : List Nat) (t : T) (it cond : E) (s : Sl) : vE G io (.lc e own t it cond) s = (vI G io it s).bind fun ws s1 => (lcV (lcF G io e own t cond) ws s1).bind fun ys s6 => if lenOk ys = true then .ok (.lst ys) s6 else .no := rfl
@[simp] theorem vT_and (a b : E) (s : Sl) : vT G io (.and a b) s = (vT G io a s).bind fun k s1 => if k = true then vT G io b s1 else .ok false s1 := rfl
@[simp] theorem vT_or (a b : E) (s : Sl) : vT G io (.or a b) s = (vT G io a s).bind fun k s1 => if k = true then .ok true s1 else vT G io b s1 := rfl
@[simp] theorem vT_not (a : E) (s : Sl) : vT G io (.not a) s = (vT G io a s).bind fun k s1 => .ok (!k) s1 := rfl
@[simp] theorem vT_cmp (o : Cop) (a b : E) (s : Sl) : vT G io (.cmp o a b) s = (vE G io a s).bind fun x s1 => (vE G io b s1).bind fun y s2 => Q.of (cmpV o x y) s2 := rfl
@[simp] theorem vT_chain (o p : Cop) (a b c : E) (s : Sl) : vT G io (.chain o p a b c) s = (vE G io a s).bind fun x s1 => (vE G io b s1).bind fun y s2 => (Q.of (cmpV o x y) s2).bind fun k s3 =>
      if k = true then (vE G io c s3).bind fun u s4 => Q.of (cmpV p y u) s4 else .ok false s3 := rfl
@[simp] theorem vT_v (i : Nat) (s : Sl) : vT G io (.v i) s = (Q.of (getS s i) s).bind fun w s1 => Q.of (truV w) s1 := rfl
@[simp] theorem vT_c (w : W) (s : Sl) : vT G io (.c w) s = Q.of (truV w) s := rfl
@[simp] theorem vT_call (f : Nat) (as : E) (s : Sl) : vT G io (.call f as) s = ((vA G io (io f) as s).bind fun ws s1 => (G f ws).back (io f) as s1).bind fun w s2 => Q.of (truV w) s2 := rfl
@[simp] theorem vT_bi (b : Bi) (as : E) (s : Sl) : vT G io (.bi b as) s = ((vs G io as s).bind fun ws s1 => Q.of (biV' b ws) s1).bind fun w s2 => Q.of (truV w) s2 := rfl
@[simp] theorem vT_isi (a : E) (ts : List String) (s : Sl) : vT G io (.isi a ts) s = (vE G io a s).bind fun x s1 => Q.of (isiO ts x) s1 := rfl
@[simp] theorem vT_ix (a b : E) (s : Sl) : vT G io (.ix a b) s = ((vE G io a s).bind fun x s1 => (vE G io b s1).bind fun y s2 => Q.of (ixV x y) s2).bind fun w s3 => Q.of (truV w) s3 := rfl
@[simp] theorem vC_nil (s : Sl) : vC G io .nil s = .ok true s := rfl
@[simp] theorem vC_cons (a : E) (s : Sl) : vC G io (.cons a .nil) s = vT G io a s := rfl
@[simp] theorem vs_nil (s : Sl) : vs G io .nil s = .ok [] s := rfl
@[simp] theorem vs_cons (a r : E) (s : Sl) : vs G io (.cons a r) s = (vE G io a s).bind fun w s1 => (vs G io r s1).bind fun ws s2 => .ok (w :: ws) s2 := rfl
@[simp] theorem vA_t (l : List Bool) (i : Nat) (r : E) (s : Sl) : vA G io (true :: l) (.cons (.v i) r) s = (Q.of (getS s i) s).bind fun _ s0 => (vA G io l r s0).bind fun ws s1 => (Q.of (getS s1 i) s1).bind fun w s2 => .ok (w :: ws) s2 := rfl
@[simp] theorem vA_f (l : List Bool) (a r : E) (s : Sl) : vA G io (false :: l) (.cons a r) s = (vE G io a s).bind fun w s1 => (vA G io l r s1).bind fun ws s2 => .ok (w :: ws) s2 := rfl
@[simp] theorem vA_n (l : List Bool) (s : Sl) : vA G io l .nil s = .ok [] s := by cases l with | nil => rfl | cons b l => cases b <;> rfl
@[simp] theorem vO_nil (s : Sl) : vO G io .nil s = .ok none s := rfl
@[simp] theorem vO_cons (a : E) (s : Sl) : vO G io (.cons a .nil) s = (vE G io a s).bind fun w s1 => Q.of (asIV w) s1 := rfl
@[simp] theorem vI_seq (a : E) (s : Sl) : vI G io (.seq a) s = (vE G io a s).bind fun x s1 => Q.of (vseq x) s1 := rfl
def rngQ (x : W) (s1 : Sl) : Q (List W) := match x with
    | .int n => if within62 n = true then .ok (rangeI 0 n.toNat) s1 else .no
    | _ => .no
def rngQ2 (x y : W) (s2 : Sl) : Q (List W) := match x, y with
    | .int u, .int w => if (within62 u && within62 w) = true then .ok (rangeI u (w - u).toNat) s2 else .no
    | _, _ => .no
def zipQ (x y : W) (s2 : Sl) : Q (List W) := match x, y with
    | .lst ws, .lst us => .ok (zipT ws us) s2
    | .tup ws, .tup us => .ok (zipT ws us) s2
    | _, _ => .no
@[simp] theorem vI_rng1 (a : E) (s : Sl) : vI G io (.rng1 a) s = (vE G io a s).bind rngQ := rfl
@[simp] theorem vI_rng2 (a b : E) (s : Sl) : vI G io (.rng2 a b) s = (vE G io a s).bind fun x s1 => (vE G io b s1).bind fun y s2 => rngQ2 x y s2 := rfl
@[simp] theorem vI_enum (a : E) (s : Sl) : vI G io (.enum a) s = (vE G io a s).bind fun x s1 => (Q.of (vseq x) s1).bind fun ws s2 => .ok (enumT 0 ws) s2 := rfl
@[simp] theorem vI_zip (a b : E) (s : Sl) : vI G io (.zip a b) s = (vE G io a s).bind fun x s1 => (vE G io b s1).bind fun y s2 => zipQ x y s2 := rfl
@[simp] theorem vX_skip (s : Sl) : vX G io .skip s = .ok .nx s := rfl
@[simp] theorem vX_sq (a b : S) (s : Sl) : vX G io (.sq a b) s = (vX G io a s).bind (vthen (vX G io b)) := rfl
def asgQ (t : T) (w : W) (s : Sl) : Q F := match asgT t w s with
    | some s2 => .ok .nx s2
    | none => .no
def parQ (is : List Nat) (ws : List W) (s : Sl) : Q F := match parS is ws s with
    | some s2 => .ok .nx s2
    | none => .no
@[simp] theorem vX_asg (t : T) (e : E) (s : Sl) : vX G io (.asg t e) s = (vE G io e s).bind (asgQ t) := rfl
@[simp] theorem vX_par (is : List Nat) (as : E) (s : Sl) : vX G io (.par is as) s = (vs G io as s).bind (parQ is) := rfl
@[simp] theorem vX_seti (k : Nat) (i e : E) (s : Sl) : vX G io (.seti (.v k) i e) s = (vE G io e s).bind fun x s1 => (Q.of (getS s1 k) s1).bind fun _ s1 => (vE G io i s1).bind fun z s2 => setSl k z x s2 := rfl
@[simp] theorem vX_seti2 (k : Nat) (a i e : E) (s : Sl) : vX G io (.seti (.ix (.v k) a) i e) s = (vE G io e s).bind fun x s1 => (Q.of (getS s1 k) s1).bind fun _ s1 => (vE G io a s1).bind fun y s2 => (Q.of (rowS s2 k y) s2).bind fun _ s2 => (vE G io i s2).bind fun z s3 => setSl2 k y z x s3 := rfl
@[simp] theorem vX_ex (e : E) (s : Sl) : vX G io (.ex e) s = (vE G io e s).bind fun _ s1 => .ok .nx s1 := rfl
@[simp] theorem vX_ret (e : E) (s : Sl) : vX G io (.ret e) s = (vE G io e s).bind fun w s1 => .ok (.rt w) s1 := rfl
@[simp] theorem vX_retn (s : Sl) : vX G io .retn s = .ok (.rt .non) s := rfl
@[simp] theorem vX_ite (t : E) (a b : S) (s : Sl) : vX G io (.ite t a b) s = (vT G io t s).bind fun k s1 => if k = true then vX G io a s1 else vX G io b s1 := rfl
@[simp] theorem vX_for (t : T) (it : E) (b : S) (s : Sl) : vX G io (.for t it b) s = (vI G io it s).bind fun ws s1 => forV t (vX G io b) ws s1 := rfl
@[simp] theorem vX_fgt (own : List Nat) (b : S) (s : Sl) : vX G io (.fgt own b) s = (vX G io b s).bind fun p s1 => .ok p (wipeS s1 own) := rfl
@[simp] theorem vX_brk (s : Sl) : vX G io .brk s = .ok .bk s := rfl
@[simp] theorem vX_cnt (s : Sl) : vX G io .cnt s = .ok .ct s := rfl
@[simp] theorem vthen_nx (f : Sl → Q F) (s : Sl) : vthen f .nx s = f s := rfl
@[simp] theorem vthen_rt (f : Sl → Q F) (w : W) (s : Sl) : vthen f (.rt w) s = .ok (.rt w) s := rfl
@[simp] theorem vthen_bk (f : Sl → Q F) (s : Sl) : vthen f .bk s = .ok .bk s := rfl
@[simp] theorem vthen_ct (f : Sl → Q F) (s : Sl) : vthen f .ct s = .ok .ct s := rfl
@[simp] theorem vgo_nx (f : Sl → Q F) (s : Sl) : vgo f .nx s = f s := rfl
@[simp] theorem vgo_ct (f : Sl → Q F) (s : Sl) : vgo f .ct s = f s := rfl
@[simp] theorem vgo_bk (f : Sl → Q F) (s : Sl) : vgo f .bk s = .ok .nx s := rfl
@[simp] theorem vgo_rt (f : Sl → Q F) (w : W) (s : Sl) : vgo f (.rt w) s = .ok (.rt w) s := rfl
@[simp] theorem fin_rt (p : Nat) (w : W) (s : Sl) : Q.fin p (.ok (.rt w) s) = .ok w (s.take p) := rfl
@[simp] theorem fin_nx (p : Nat) (s : Sl) : Q.fin p (.ok .nx s) = .ok .non (s.take p) := rfl
@[simp] theorem back_ok (w : W) (o : Sl) (l : List Bool) (as : E) (s : Sl) : (Q.ok w o).back l as s = .ok w (wb l as o s) := rfl
@[simp] theorem wb_t (l : List Bool) (i : Nat) (r : E) (o s : Sl) : wb (true :: l) (.cons (.v i) r) o s = wb l r o.tail (setS s i (hdS o)) := rfl
@[simp] theorem wb_f (l : List Bool) (a r : E) (o s : Sl) : wb (false :: l) (.cons a r) o s = wb l r o.tail s := by cases a <;> rfl
@[simp] theorem wb_n (l : List Bool) (o s : Sl) : wb l .nil o s = s := by cases l with | nil => rfl | cons b l => cases b <;> rfl
@[simp] theorem wb_e (as : E) (o s : Sl) : wb [] as o s = s := rfl
@[simp] theorem hdS_c (x : Option W) (s : Sl) : hdS (x :: s) = x := rfl
@[simp] theorem lstS_ok (s : Sl) (k : Nat) (us : List W) (h : getS s k = some (.lst us)) : lstS s k = some () := by simp [lstS, h]
/-! ### operations at plain values -/
@[simp] theorem b_add (i j : Int) : binV .add (.int i) (.int j) = some (.int (i + j)) := rfl
@[simp] theorem b_sub (i j : Int) : binV .sub (.int i) (.int j) = some (.int (i - j)) := rfl
theorem b_mul {i j : Int} (h : i.natAbs < 2 ^ 64 ∨ j.natAbs < 2 ^ 64) : binV .mul (.int i) (.int j) = some (.int (i * j)) := by
  have : mulOk i j = true := by
    unfold mulOk
    rcases h with h | h
    · simp only [decide_eq_true h, Bool.true_or]
    · simp only [decide_eq_true h, Bool.true_or, Bool.or_true]
  simp only [binV, this, if_true]
theorem b_mod {i j : Int} (h : 0 < j) : binV .mod (.int i) (.int j) = some (.int (i % j)) := by simp only [binV, h, if_true]
theorem b_fdiv {i j : Int} (h : 0 < j) (h2 : j.natAbs.log2 < 9000) : binV .fdiv (.int i) (.int j) = some (.int (i / j)) := by simp only [binV, h, h2, and_self, if_true]
@[simp] theorem c_lt (i j : Int) : cmpV .lt (.int i) (.int j) = some (decide (i < j)) := rfl
@[simp] theorem c_le (i j : Int) : cmpV .le (.int i) (.int j) = some (decide (i ≤ j)) := rfl
@[simp] theorem c_gt (i j : Int) : cmpV .gt (.int i) (.int j) = some (decide (j < i)) := rfl
@[simp] theorem c_ge (i j : Int) : cmpV .ge (.int i) (.int j) = some (decide (j ≤ i)) := rfl
@[simp] theorem c_eqi (i j : Int) : cmpV .eq (.int i) (.int j) = some (decide (i = j)) := rfl
@[simp] theorem c_nei (i j : Int) : cmpV .ne (.int i) (.int j) = some (!decide (i = j)) := rfl
@[simp] theorem c_nes (a b : Str) : cmpV .ne (.str a) (.str b) = some (!decide (a = b)) := rfl
@[simp] theorem c_eqs (a b : Str) : cmpV .eq (.str a) (.str b) = some (decide (a = b)) := rfl
@[simp] theorem c_isn (x : W) : cmpV .is x .non = some (isNon x) := by cases x <;> rfl
@[simp] theorem c_isnn (x : W) : cmpV .isn x .non = some (!isNon x) := by cases x <;> rfl
@[simp] theorem t_bl (b : Bool) : truV (.bl b) = some b := rfl
@[simp] theorem t_int (i : Int) : truV (.int i) = some (decide (i ≠ 0)) := rfl
@[simp] theorem t_non : truV .non = some false := rfl
@[simp] theorem vseq_t (ws : List W) : vseq (.tup ws) = some ws := rfl
@[simp] theorem vseq_l (ws : List W) : vseq (.lst ws) = some ws := rfl
@[simp] theorem as_int (i : Int) : asIV (.int i) = some (some i) := rfl
@[simp] theorem len_l (ws : List W) : biV' .len [.lst ws] = some (.int ws.length) := rfl
@[simp] theorem len_t (ws : List W) : biV' .len [.tup ws] = some (.int ws.length) := rfl
@[simp] theorem len_r (ws : List W) : biV' .len [.rol ws] = some (.int ws.length) := rfl
@[simp] theorem bi_int (i : Int) : biV' .int [.int i] = some (.int i) := rfl
@[simp] theorem bi_intb (i : Bool) : biV' .int [.bl i] = some (.int (b2I i)) := rfl
@[simp] theorem bi_abs (i : Int) : biV' .abs [.int i] = some (.int (if i < 0 then -i else i)) := rfl
@[simp] theorem bi_max2 (i j : Int) : biV' .max2 [.int i, .int j] = some (.int (if j > i then j else i)) := rfl
@[simp] theorem bi_min2 (i j : Int) : biV' .min2 [.int i, .int j] = some (.int (if j < i then j else i)) := rfl
@[simp] theorem bi_tup_t (ws : List W) : biV' .tuple [.tup ws] = some (.tup ws) := rfl
@[simp] theorem bi_tup_l (ws : List W) : biV' .tuple [.lst ws] = some (.tup ws) := rfl
@[simp] theorem bi_list_t (ws : List W) : biV' .list [.tup ws] = some (.lst ws) := rfl
@[simp] theorem bi_list_l (ws : List W) : biV' .list [.lst ws] = some (.lst ws) := rfl
@[simp] theorem neg_int (i : Int) : negV (.int i) = some (.int (-i)) := rfl
@[simp] theorem sl_t (ws : List W) (lo hi : Option Int) : slV (.tup ws) lo hi = some (.tup (cut ws lo hi)) := rfl
@[simp] theorem sl_l (ws : List W) (lo hi : Option Int) : slV (.lst ws) lo hi = some (.lst (cut ws lo hi)) := rfl
@[simp] theorem sl_r (ws : List W) (lo hi : Option Int) : slV (.rol ws) lo hi = some (.lst (cut ws lo hi)) := rfl
@[simp] theorem rev_t (ws : List W) : revV (.tup ws) = some (.tup ws.reverse) := rfl
@[simp] theorem rev_l (ws : List W) : revV (.lst ws) = some (.lst ws.reverse) := rfl
theorem lenOk_of {ws : List W} (h : ws.length ≤ 16000000) : lenOk ws = true := Nat.ble_eq_true_of_le h
@[simp] theorem lenOk_nil : lenOk [] = true := rfl
@[simp] theorem lenOk_1 (a : W) : lenOk [a] = true := rfl
@[simp] theorem lenOk_2 (a b : W) : lenOk [a, b] = true := rfl
@[simp] theorem lenOk_3 (a b c : W) : lenOk [a, b, c] = true := rfl
@[simp] theorem lenOk_4 (a b c d : W) : lenOk [a, b, c, d] = true := rfl
@[simp] theorem lenOk_5 (a b c d e : W) : lenOk [a, b, c, d, e] = true := rfl
@[simp] theorem lenOk_6 (a b c d e f : W) : lenOk [a, b, c, d, e, f] = true := rfl
/-- an index in range -/
theorem ix_at {x : W} {ws : List W} {i : Int} {w : W} (hx : vseq x = some ws) (h0 : 0 ≤ i) (e : ws[i.toNat]? = some w) : ixV x (.int i) = some w := by
  have hl : i.toNat < ws.length := (List.getElem?_eq_some_iff.mp e).1
  have h1 : i < (ws.length : Int) := by omega
  simp only [ixV, hx, ixN, h0, h1, if_true, e]
@[simp] theorem ix_t0 (a : W) (ws : List W) : ixV (.tup (a :: ws)) (.int 0) = some a := ix_at (vseq_t _) (by omega) rfl
@[simp] theorem ix_t1 (a b : W) (ws : List W) : ixV (.tup (a :: b :: ws)) (.int 1) = some b := ix_at (vseq_t _) (by omega) rfl
@[simp] theorem ix_t2 (a b c : W) (ws : List W) : ixV (.tup (a :: b :: c :: ws)) (.int 2) = some c := ix_at (vseq_t _) (by omega) rfl
@[simp] theorem ix_t3 (a b c d : W) (ws : List W) : ixV (.tup (a :: b :: c :: d :: ws)) (.int 3) = some d := ix_at (vseq_t _) (by omega) rfl
@[simp] theorem ix_t4 (a b c d e : W) (ws : List W) : ixV (.tup (a :: b :: c :: d :: e :: ws)) (.int 4) = some e := ix_at (vseq_t _) (by omega) rfl
@[simp] theorem ix_l0 (a : W) (ws : List W) : ixV (.lst (a :: ws)) (.int 0) = some a := ix_at (vseq_l _) (by omega) rfl
@[simp] theorem ix_l1 (a b : W) (ws : List W) : ixV (.lst (a :: b :: ws)) (.int 1) = some b := ix_at (vseq_l _) (by omega) rfl
@[simp] theorem ix_l2 (a b c : W) (ws : List W) : ixV (.lst (a :: b :: c :: ws)) (.int 2) = some c := ix_at (vseq_l _) (by omega) rfl
theorem mt_append {k : Nat} {s : Sl} {us : List W} {x : W} (e : getS s k = some (.lst us)) (h : us.length ≤ 16000000) : mtS .append k [x] s = .ok .non (setS s k (some (.lst (us ++ [x])))) := by
  have : Nat.ble us.length line = true := Nat.ble_eq_true_of_le h
  simp only [mtS, e, mtV, this, if_true]
theorem mt_extend {k : Nat} {s : Sl} {us xs : List W} (e : getS s k = some (.lst us)) (h : us.length + xs.length ≤ 16000000) : mtS .extend k [.lst xs] s = .ok .non (setS s k (some (.lst (us ++ xs)))) := by
  have : Nat.ble (us.length + xs.length) line = true := Nat.ble_eq_true_of_le h
  simp only [mtS, e, mtV, this, if_true]
/-! ### tables -/
theorem AtF.iof {tab : List Fn} {kt : List Ki} {ix : Nat → Nat} {n : Nat} {f : (Nat → Nat) → Fn} {k : Ki} (A : AtF tab kt ix n f k) : ioOf kt (ix n) = k.ks.map Kd.io := by
  simp only [ioOf, A.k]
theorem AtF.enter {tab : List Fn} {kt : List Ki} {ix : Nat → Nat} {n : Nat} {f : (Nat → Nat) → Fn} {k : Ki} (A : AtF tab kt ix n f k) {K : Nat} {ws : List W} (h : Nat.beq ws.length (f ix).params = true) : vcallN tab kt (K + 1) (ix n) ws = (vX (vcallN tab kt K) (ioOf kt) (f ix).body (startS (f ix) ws)).fin (f ix).params := by
  simp only [vcallN, A.t, h, if_true]
/-! ### what a run comes to -/
def Wp {α : Type} (q : Q α) (post : α → Sl → Prop) : Prop := match q with
  | .ok a s => post a s
  | _ => False
theorem Wp_congr {α : Type} {q q' : Q α} {post : α → Sl → Prop} (h : q = q') : Wp q post = Wp q' post := by rw [h]
@[simp] theorem Wp_ok {α : Type} (a : α) (s : Sl) (post : α → Sl → Prop) : Wp (.ok a s) post ↔ post a s := Iff.rfl
theorem Wp_bind {α β : Type} (q : Q α) (f : α → Sl → Q β) (post : β → Sl → Prop) : Wp (q.bind f) post ↔ Wp q fun a s => Wp (f a s) post := by cases q <;> exact Iff.rfl
theorem Wp.mono {α : Type} {q : Q α} {p r : α → Sl → Prop} (h : Wp q p) (i : ∀ a s, p a s → r a s) : Wp q r := by
  cases q with
  | ok a s => exact i a s h
  | _ => exact h
theorem Wp.step {α β : Type} {q : Q α} {f : α → Sl → Q β} {p : α → Sl → Prop} {post : β → Sl → Prop} (h : Wp q p) (i : ∀ a s, p a s → Wp (f a s) post) : Wp (q.bind f) post := (Wp_bind q f post).mpr (h.mono i)
theorem Wp.get {α : Type} {q : Q α} {p : α → Sl → Prop} (h : Wp q p) : ∃ a s, q = .ok a s ∧ p a s := by
  cases q with
  | ok a s => exact ⟨a, s, rfl, h⟩
  | _ => exact h.elim
theorem Wp_fin (p : Nat) (q : Q F) (post : W → Sl → Prop) (h : Wp q fun r s => match r with | .rt w => post w (s.take p) | .nx => post .non (s.take p) | _ => False) : Wp (q.fin p) post := by
  cases q with
  | ok r s => cases r <;> exact h
  | _ => exact h
/-! ### loops -/
/-- how a turn's end goes on -/
def turnP (I : Sl → Prop) (post : F → Sl → Prop) : F → Sl → Prop
  | .nx, s => I s
  | .ct, s => I s
  | .bk, s => post .nx s
  | .rt w, s => post (.rt w) s
/-- a loop over coded items, an invariant over what is done -/
theorem for_inv {α : Type} {t : T} {b : Sl → Q F} {post : F → Sl → Prop} (enc : α → W) (I : List α → Sl → Prop) (l : List α)
    (turn : ∀ pre x rest s, l = pre ++ x :: rest → I pre s → ∃ s', asgT t (enc x) s = some s' ∧ Wp (b s') (turnP (I (pre ++ [x])) post)) (last : ∀ s, I l s → post .nx s) : ∀ s, I [] s → Wp (forV t b (l.map enc) s) post := by
  have go : ∀ (rest pre : List α) (s : Sl), l = pre ++ rest → I pre s → Wp (forV t b (rest.map enc) s) post := by
    intro rest
    induction rest with
    | nil => intro pre s e i; simp only [List.map_nil, forV, Wp_ok]; exact last s (by rw [e, List.append_nil]; exact i)
    | cons x rest ih =>
      intro pre s e i
      obtain ⟨s', e1, w⟩ := turn pre x rest s e i
      simp only [List.map_cons, forV, e1]
      refine w.step fun p s'' hp => ?_
      cases p with
      | nx => exact ih (pre ++ [x]) s'' (by rw [e]; simp) hp
      | ct => exact ih (pre ++ [x]) s'' (by rw [e]; simp) hp
      | bk => exact hp
      | rt w => exact hp
  exact fun s i => go l [] s rfl i
/-- a loop that goes through all items, each turn alike -/
theorem for_fold {α σ : Type} {t : T} {b : Sl → Q F} (enc : α → W) (S : σ → Sl) (g : σ → α → σ) (l : List α) (turn : ∀ x ∈ l, ∀ a, ∃ s', asgT t (enc x) (S a) = some s' ∧ (b s' = .ok .nx (S (g a x)) ∨ b s' = .ok .ct (S (g a x)))) : ∀ a, forV t b (l.map enc) (S a) = .ok .nx (S (l.foldl g a)) := by
  induction l with
  | nil => intro a; rfl
  | cons x l ih =>
    intro a
    obtain ⟨s', e1, e2⟩ := turn x (by simp) a
    simp only [List.map_cons, forV, e1, List.foldl_cons]
    rcases e2 with e2 | e2 <;> (rw [e2]; exact ih (fun y hy => turn y (List.mem_cons_of_mem _ hy)) _)
/-- a comprehension whose turns leave the slots as they are -/
theorem lc_fm {α : Type} {f : W → Sl → Q (Option W)} {s : Sl} (enc : α → W) (g : α → Option W) : ∀ l : List α, (∀ x ∈ l, f (enc x) s = .ok (g x) s) → lcV f (l.map enc) s = .ok (l.filterMap g) s
  | [], _ => rfl
  | x :: l, h => by
    simp only [List.map_cons, lcV, h x (by simp), Q.calm_ok, Q.bind_ok, lc_fm enc g l fun y hy => h y (List.mem_cons_of_mem _ hy)]
    cases hg : g x <;> simp [consO, List.filterMap_cons, hg]
/-- .. with no test -/
theorem lc_map {α : Type} {f : W → Sl → Q (Option W)} {s : Sl} (enc : α → W) (g : α → W) (l : List α) (h : ∀ x ∈ l, f (enc x) s = .ok (some (g x)) s) : lcV f (l.map enc) s = .ok (l.map g) s := by
  rw [lc_fm enc (fun x => some (g x)) l h]
  simp [List.filterMap_eq_map]
/-- a comprehension whose turns change the slots -/
theorem lc_inv {α : Type} {f : W → Sl → Q (Option W)} (enc : α → W) (I : List α → List W → Sl → Prop) (l : List α) {post : List W → Sl → Prop}
    (turn : ∀ pre x rest ys s, l = pre ++ x :: rest → I pre ys s → Wp (f (enc x) s) fun o s' => I (pre ++ [x]) (match o with | some y => ys ++ [y] | none => ys) s') (last : ∀ ys s, I l ys s → post ys s) : ∀ s, I [] [] s → Wp (lcV f (l.map enc) s) post := by
  have go : ∀ (rest pre : List α) (ys : List W) (s : Sl), l = pre ++ rest → I pre ys s → Wp (lcV f (rest.map enc) s) fun zs s' => post (ys ++ zs) s' := by
    intro rest
    induction rest with
    | nil => intro pre ys s e i; simp only [List.map_nil, lcV, Wp_ok, List.append_nil]; exact last ys s (by rw [e, List.append_nil]; exact i)
    | cons x rest ih =>
      intro pre ys s e i
      obtain ⟨o, s', e1, k⟩ := (turn pre x rest ys s e i).get
      simp only [List.map_cons, lcV, e1, Q.calm_ok, Q.bind_ok]
      cases o with
      | none => exact (ih (pre ++ [x]) ys s' (by rw [e]; simp) k).step fun zs s2 h => h
      | some y => exact (ih (pre ++ [x]) (ys ++ [y]) s' (by rw [e]; simp) k).step fun zs s2 h => by simpa [consO] using h
  exact fun s i => by simpa using go l [] [] s rfl i
/-- a while loop, by a measure -/
theorem whl_inv {t : Sl → Q Bool} {b : Sl → Q F} {post : F → Sl → Prop} (I : Nat → Sl → Prop)
    (turn : ∀ m s, I m s → Wp (t s) fun k s1 => if k = true then Wp (b s1) (turnP (fun s2 => ∃ m', m' < m ∧ I m' s2) post) else post .nx s1) : ∀ (m n : Nat) (s : Sl), m < n → I m s → Wp (whlV t b n s) post := by
  intro m
  induction m using Nat.strongRecOn with
  | ind m ih =>
    intro n s hn i
    cases n with
    | zero => omega
    | succ n =>
      simp only [whlV]
      refine (turn m s i).step fun k s1 h => ?_
      cases k with
      | false => simpa using h
      | true =>
        simp only [if_true] at h ⊢
        refine h.step fun p s2 hp => ?_
        cases p with
        | nx => obtain ⟨m', h1, h2⟩ := hp; exact ih m' h1 n s2 (by omega) h2
        | ct => obtain ⟨m', h1, h2⟩ := hp; exact ih m' h1 n s2 (by omega) h2
        | bk => exact hp
        | rt w => exact hp
end Vm
end

section
set_option Elab.async false
set_option linter.all false
set_option maxRecDepth 100000
set_option maxHeartbeats 4000000
/-! The own language's runs in plain Lean: the law's pen. -/
namespace Wm
open PySem

/-! ### runs, by small steps -/
theorem ixW_lst {h : OH} {n : Nat} {ws : List W} {i : Int} {w : W} (e : h[n]? = some (.lst ws)) (hi : 0 ≤ i) (hw : ws[i.toNat]? = some w) : ixW (.ref n) (.int i) h = .ok w h := by
  have hl := (List.getElem?_eq_some_iff.mp hw).1
  simp only [ixW, seqOf, items, e, ixN, hi, if_true]
  rw [if_pos (by omega)]
  simp only [hw]
theorem ixW_tup {h : OH} {ws : List W} {i : Int} {w : W} (hi : 0 ≤ i) (hw : ws[i.toNat]? = some w) : ixW (.tup ws) (.int i) h = .ok w h := by
  have hl := (List.getElem?_eq_some_iff.mp hw).1
  simp only [ixW, seqOf, ixN, hi, if_true]
  rw [if_pos (by omega)]
  simp only [hw]
theorem setIx_lst {h : OH} {n : Nat} {ws : List W} {i : Int} {x : W} (e : h[n]? = some (.lst ws)) (hi : 0 ≤ i) (hl : i.toNat < ws.length) : setIx (.ref n) (.int i) x h = .ok .non (h.set n (.lst (ws.set i.toNat x))) := by
  simp only [setIx, lstAt, e, ixN, hi, if_true]
  rw [if_pos (by omega)]
/-- a for that runs to its end -/
theorem forN_inv {t : T} {b : Sl → OH → RS} {wt : List (Nat × List W)} (I : Nat → Sl → OH → Prop) (ws : List W)
    (step : ∀ i w s h, ws[i]? = some w → I i s h → still h wt = true ∧ ∃ s1, asgT t w s = some s1 ∧ ∃ f s2 h2, b s1 h = .ok (f, s2) h2 ∧ (f = .nx ∨ f = .ct) ∧ I (i + 1) s2 h2)
    (fin : ∀ s h, I ws.length s h → still h wt = true) {s : Sl} {h : OH} (h0 : I 0 s h) : ∃ s' h', forN t b wt ws s h = .ok (.nx, s') h' ∧ I ws.length s' h' := by
  have key : ∀ (us : List W) (i : Nat) (s : Sl) (h : OH), i + us.length = ws.length → ws.drop i = us → I i s h → ∃ s' h', forN t b wt us s h = .ok (.nx, s') h' ∧ I ws.length s' h' := by
    intro us
    induction us with
    | nil =>
      intro i s h hi _ q
      simp at hi
      subst hi
      exact ⟨s, h, by simp [forN, fin s h q], q⟩
    | cons u us ih =>
      intro i s h hi hd q
      have hw : ws[i]? = some u := by
        have := congrArg (fun l => l[0]?) hd
        simpa using this
      obtain ⟨st, s1, e1, f, s2, h2, e2, hf, q2⟩ := step i u s h hw q
      have hd2 : ws.drop (i + 1) = us := by
        have := congrArg List.tail hd
        simpa using this
      obtain ⟨s', h', e3, q3⟩ := ih (i + 1) s2 h2 (by simp at hi; omega) hd2 q2
      refine ⟨s', h', ?_, q3⟩
      simp only [forN, st, if_true, asgR, e1, R.bind_ok, e2]
      rcases hf with rfl | rfl <;> exact e3
  exact key ws 0 s h (by simp) rfl h0
@[simp] theorem O.beq_self (o : O) : O.beq o o = true := O.beq_refl o
theorem keepOk_refl (n : Nat) : ∀ h : OH, keepOk n h h = true
  | [] => rfl
  | o :: r => by simp [keepOk, keepOk_refl n r]
theorem ex_step {G : Nat → List W → OH → R W} {a b : S} {s s1 : Sl} {h h1 : OH} (e : ex G a s h = .ok (.nx, s1) h1) : ex G (.sq a b) s h = ex G b s1 h1 := by
  simp only [ex, e, R.bind_ok, thenS]
theorem ex_ret {G : Nat → List W → OH → R W} {a b : S} {s s1 : Sl} {h h1 : OH} {w : W} (e : ex G a s h = .ok (.rt w, s1) h1) : ex G (.sq a b) s h = .ok (.rt w, s1) h1 := by
  simp only [ex, e, R.bind_ok, thenS]
theorem ex_asg {G : Nat → List W → OH → R W} {i : Nat} {e : E} {s : Sl} {h h1 : OH} {w : W} (q : ev G e s h = .ok w h1) : ex G (.asg (.nm i) e) s h = .ok (.nx, setS s i (some w)) h1 := by
  simp only [ex, q, R.bind_ok, asgR, asgT]
/-- a call, one level deep -/
theorem enter {tab : List Fn} {n f : Nat} {d : Fn} {ws : List W} {h : OH} (e : tab[f]? = some d) (hl : Nat.beq ws.length d.params = true) : callN tab (n + 1) f ws h = (ex (callN tab n) d.body (startS d ws) h).bind (finS d.gc h) := by
  simp only [callN, e, hl, if_true]
/-! ### the pen -/
def penH (C : List Int) (s d : Int) (e : OH) : OH := .lst (C.map .int) :: .lst (C.map .int) :: .lst [.ref 1, .int s, .int d] :: e
def bPen : S :=
  .sq (.ret (.lst (.cons (.bi .list (.cons (.sl (.v 0) .nil (.cons (.c (.int 63)) .nil)) .nil)) (.cons (.c (.int 0)) (.cons (.c (.int 0)) .nil))))) .skip
def bFresh : S :=
  .sq (.par [6, 7] (.cons (.ix (.v 0) (.c (.int 1))) (.cons (.ix (.v 0) (.c (.int 0))) .nil))) (
  .sq (.seti (.v 0) (.c (.int 1)) (.bin .add (.v 6) (.c (.int 1)))) (
  .sq (.asg (.nm 1) (.ite (.gc (.cmp .ne (.v 7) (.lst .nil))) (.ix (.v 7) (.bin .mod (.bi .int (.cons (.v 6) .nil)) (.bi .len (.cons (.v 7) .nil)))) (.c (.int 0)))) (
  .sq (.ite (.and (.cmp .lt (.v 6) (.bi .len (.cons (.v 7) .nil))) (.cmp .ge (.v 1) (.bin .pow (.c (.int 10)) (.c (.int 18))))) (
   .sq (.ret (.bin .sub (.v 1) (.bin .pow (.c (.int 10)) (.c (.int 18))))) .skip) (.skip)) (
  .sq (.asg (.nm 2) (.c (.int 2305843009213693951))) (
  .sq (.asg (.nm 3) (.bin .mod (.bi .int (.cons (.bin .add (.bin .add (.bin .mul (.v 1) (.c (.int 48271))) (.bin .mul (.c (.int 60013)) (.v 6))) (.c (.int 31))) .nil)) (.v 2))) (
  .sq (.asg (.nm 4) (.v 3)) (
  .sq (.for (.nm 5) (.rng1 (.c (.int 6))) (
   .sq (.asg (.nm 3) (.bin .mod (.bi .int (.cons (.bin .add (.bin .add (.bin .mul (.v 3) (.v 3)) (.bin .mul (.bin .mul (.c (.int 70139)) (.bin .add (.v 5) (.c (.int 5)))) (.bin .add (.v 6) (.c (.int 1))))) (.v 1)) .nil)) (.v 2))) (
   .sq (.asg (.nm 4) (.bin .add (.bin .mul (.v 4) (.v 2)) (.v 3))) .skip))) (
  .sq (.ret (.v 4)) .skip))))))))
def fPen : Fn := ⟨1, 1, bPen, false⟩
def fFresh : Fn := ⟨8, 1, bFresh, false⟩
def bDraw (iF : Nat) : S :=
  .sq (.ite (.cmp .lt (.ix (.v 0) (.c (.int 2))) (.v 1)) (
   .sq (.seti (.v 0) (.c (.int 2)) (.call iF (.cons (.v 0) .nil))) .skip) (.skip)) (
  .sq (.asg (.nm 2) (.bin .mod (.bi .int (.cons (.ix (.v 0) (.c (.int 2))) .nil)) (.v 1))) (
  .sq (.seti (.v 0) (.c (.int 2)) (.bin .fdiv (.bi .int (.cons (.ix (.v 0) (.c (.int 2))) .nil)) (.v 1))) (
  .sq (.ret (.v 2)) .skip)))
def fDraw (iF : Nat) : Fn := ⟨3, 2, bDraw iF, false⟩
section
variable {tab : List Fn} {k : Nat}
theorem draw_ok {iF iD : Nat} (hD : tab[iD]? = some (fDraw iF)) (fresh : ∀ C s d e, 0 ≤ s → ∃ f, callN tab k iF [.ref 2] (penH C s d e) = .ok (.int f) (penH C (s + 1) d e)) (C : List Int) (s d : Int) (e : OH) (b : Int) (hb : 0 < b) (hb2 : b.natAbs.log2 < 9000) (hs : 0 ≤ s) :
    ∃ v s' d', 0 ≤ v ∧ v < b ∧ 0 ≤ s' ∧ callN tab (k + 1) iD [.ref 2, .int b] (penH C s d e) = .ok (.int v) (penH C s' d' e) := by
  simp only [callN, hD, fDraw]
  by_cases hd : d < b
  · obtain ⟨f, ef⟩ := fresh C s d e hs
    refine ⟨f % b, s + 1, f / b, ?_, ?_, by omega, ?_⟩
    · exact Int.emod_nonneg _ (by omega)
    · exact Int.emod_lt_of_pos _ hb
    unfold penH at ef ⊢
    simp [bDraw, ex, ev, evs, evT, startS, getS, setS, ixW, seqOf, items, ixN, cmpW, asB, hd, thenS, ef, setIx, lstAt, binW, biW, hb, hb2, asgR, asgT, finS, fin]
  · refine ⟨d % b, s, d / b, ?_, ?_, hs, ?_⟩
    · exact Int.emod_nonneg _ (by omega)
    · exact Int.emod_lt_of_pos _ hb
    unfold penH
    simp [bDraw, ex, ev, evs, evT, startS, getS, setS, ixW, seqOf, items, ixN, cmpW, asB, hd, thenS, setIx, lstAt, binW, biW, hb, hb2, asgR, asgT, finS, fin]
end
end Wm
end

section
set_option Elab.async false
set_option linter.all false
set_option maxRecDepth 100000
set_option maxHeartbeats 4000000
namespace Wm
open PySem
/-! ### data -/
@[simp] theorem toD_int (h : OH) (n : Nat) (i : Int) : toD h n (.int i) = some (.int i) := by cases n <;> rfl
@[simp] theorem toD_bl (h : OH) (n : Nat) (i : Bool) : toD h n (.bl i) = some (.bool i) := by cases n <;> rfl
@[simp] theorem toD_non (h : OH) (n : Nat) : toD h n .non = some .none := by cases n <;> rfl
theorem toDl_ints (h : OH) (n : Nat) : ∀ C : List Int, toDl (toD h n) (C.map .int) = some (C.map .int)
  | [] => rfl
  | i :: C => by simp [toDl, toDl_ints h n C]
theorem toD_ref {h : OH} {r n : Nat} {ws : List W} {ds : List PyData} (e : items h r = some ws) (ed : toDl (toD h n) ws = some ds) : toD h (n + 1) (.ref r) = some (.list ds) := by
  simp [toD, e, ed]
theorem toD_tup {h : OH} {n : Nat} {ws : List W} {ds : List PyData} (ed : toDl (toD h n) ws = some ds) : toD h (n + 1) (.tup ws) = some (.tuple ds) := by
  simp [toD, ed]
theorem toDl_len {f : W → Option PyData} : ∀ {ws : List W} {ds : List PyData}, toDl f ws = some ds → ds.length = ws.length
  | [], ds, e => by cases e; rfl
  | w :: ws, ds, e => by
    simp only [toDl] at e
    split at e
    · rename_i d ds' e1 e2
      cases e
      simp [toDl_len e2]
    · cases e
theorem eqW_nil {h : OH} {r n : Nat} {ws : List W} {ds : List PyData} (e1 : items h r = some ws) (ed : toDl (toD h 59) ws = some ds) (e2 : items h n = some []) : eqW h (.ref r) (.ref n) = some ws.isEmpty := by
  have h1 : toD h deep (.ref r) = some (.list ds) := toD_ref e1 ed
  have h2 : toD h deep (.ref n) = some (.list []) := toD_ref e2 rfl
  simp only [eqW, h1, h2]
  have := toDl_len ed
  cases ws with
  | nil => cases ds with
    | nil => rfl
    | cons _ _ => simp at this
  | cons _ _ => cases ds with
    | nil => simp at this
    | cons _ _ => rfl
theorem beqs_refl' (ws : List W) : W.beqs ws ws = true := W.beqs_refl ws
theorem cutOk_self (h e : OH) : cutOk h (h ++ e) = true := by simp [cutOk, keepOk_refl]
theorem lows_ints (n : Nat) : ∀ C : List Int, W.lows n (C.map .int) = true
  | [] => rfl
  | i :: C => by simp [W.lows, W.low, lows_ints n C]
section
variable {tab : List Fn} {k : Nat}
def prime : Int := 2305843009213693951
theorem mulOk_l {i j : Int} (h : i.natAbs < 2 ^ 64) : mulOk i j = true := by simp [mulOk, h]
theorem mulOk_r {i j : Int} (h : j.natAbs < 2 ^ 64) : mulOk i j = true := by simp [mulOk, h]
theorem evT_nil {G : Nat → List W → OH → R W} {s : Sl} {h : OH} {j r : Nat} {ws : List W} {ds : List PyData} (hs : getS s j = some (.ref r)) (e1 : items h r = some ws) (ed : toDl (toD (h ++ [.lst []]) 59) ws = some ds) (hr : r < h.length) :
    evT G (.gc (.cmp .ne (.v j) (.lst .nil))) s h = .ok (!ws.isEmpty) h := by
  have e2 : items (h ++ [.lst []]) r = some ws := by
    simp only [items] at e1 ⊢
    rw [List.getElem?_append_left hr]
    exact e1
  have e3 : items (h ++ [.lst []]) h.length = some [] := by simp [items]
  simp [evT, ev, evs, hs, newLst, alloc, cmpW, eqW_nil e2 ed e3, bR, asB, gcB, cutOk_self]
theorem cell_ok (C : List Int) (s d : Int) (e : OH) (hs : 0 ≤ s) : ∃ cell : Int, ∀ sl : Sl, getS sl 6 = some (.int s) → getS sl 7 = some (.ref 1) →
    ev (callN tab k) (.ite (.gc (.cmp .ne (.v 7) (.lst .nil))) (.ix (.v 7) (.bin .mod (.bi .int (.cons (.v 6) .nil)) (.bi .len (.cons (.v 7) .nil)))) (.c (.int 0))) sl (penH C (s + 1) d e) = .ok (.int cell) (penH C (s + 1) d e) := by
  have i1 : items (penH C (s + 1) d e) 1 = some (C.map .int) := rfl
  have el : penH C (s + 1) d e ++ [.lst []] = penH C (s + 1) d (e ++ [.lst []]) := rfl
  cases C with
  | nil =>
    refine ⟨0, fun sl h6 h7 => ?_⟩
    simp only [ev, evT_nil h7 i1 (toDl_ints _ _ _) (by simp [penH]), R.bind_ok]
    simp
  | cons c0 cs =>
    have hm : 0 ≤ s % ((cs.length : Int) + 1) := Int.emod_nonneg _ (by omega)
    have hl : (s % ((cs.length : Int) + 1)).toNat < (c0 :: cs).length := by
      have := Int.emod_lt_of_pos s (show (0 : Int) < (cs.length : Int) + 1 by omega)
      simp
      omega
    refine ⟨(c0 :: cs)[(s % ((cs.length : Int) + 1)).toNat], fun sl h6 h7 => ?_⟩
    simp only [ev, evT_nil h7 i1 (toDl_ints _ _ _) (by simp [penH]), R.bind_ok]
    have hp : (0 : Int) < (cs.length : Int) + 1 := by omega
    simp [evs, h6, h7, ev, biW, seqOf, i1, binW, hp]
    rw [ixW_lst (ws := (c0 :: cs).map .int) rfl hm (w := .int (c0 :: cs)[(s % ((cs.length : Int) + 1)).toNat]) (by rw [List.getElem?_map, List.getElem?_eq_getElem hl]; rfl)]
/-- the laps: their state and found -/
def lapI (h0 : OH) (seat cell : Int) (i : Nat) (s : Sl) (h : OH) : Prop :=
  h = h0 ∧ ∃ st fo lap, 0 ≤ st ∧ st < prime ∧ s = [some (.ref 2), some (.int cell), some (.int prime), some (.int st), some (.int fo), lap, some (.int seat), some (.ref 1)]
theorem fresh_ok {iF : Nat} (hF : tab[iF]? = some fFresh) (C : List Int) (s d : Int) (e : OH) (hs : 0 ≤ s) : ∃ f, callN tab (k + 1) iF [.ref 2] (penH C s d e) = .ok (.int f) (penH C (s + 1) d e) := by
  simp only [callN, hF, fFresh]
  obtain ⟨cell, hc⟩ := cell_ok (tab := tab) (k := k) C s d e hs
  have pos : (0 : Int) < prime := by decide
  have i1 : items (penH C (s + 1) d e) 1 = some (C.map .int) := rfl
  -- the loop
  have lp : ∀ st fo, 0 ≤ st → st < prime → ∃ st2 fo2 lap2, forN (.nm 5) (ex (callN tab k) (
   .sq (.asg (.nm 3) (.bin .mod (.bi .int (.cons (.bin .add (.bin .add (.bin .mul (.v 3) (.v 3)) (.bin .mul (.bin .mul (.c (.int 70139)) (.bin .add (.v 5) (.c (.int 5)))) (.bin .add (.v 6) (.c (.int 1))))) (.v 1)) .nil)) (.v 2))) (
   .sq (.asg (.nm 4) (.bin .add (.bin .mul (.v 4) (.v 2)) (.v 3))) .skip))) [] (rangeI 0 6) [some (.ref 2), some (.int cell), some (.int prime), some (.int st), some (.int fo), none, some (.int s), some (.ref 1)] (penH C (s + 1) d e) =
      .ok (.nx, [some (.ref 2), some (.int cell), some (.int prime), some (.int st2), some (.int fo2), lap2, some (.int s), some (.ref 1)]) (penH C (s + 1) d e) := by
    intro st fo h0 h1
    have step : ∀ i w sl h, (rangeI 0 6)[i]? = some w → lapI (penH C (s + 1) d e) s cell i sl h → still h [] = true ∧ ∃ s1, asgT (.nm 5) w sl = some s1 ∧ ∃ f s2 h2, ex (callN tab k) (
   .sq (.asg (.nm 3) (.bin .mod (.bi .int (.cons (.bin .add (.bin .add (.bin .mul (.v 3) (.v 3)) (.bin .mul (.bin .mul (.c (.int 70139)) (.bin .add (.v 5) (.c (.int 5)))) (.bin .add (.v 6) (.c (.int 1))))) (.v 1)) .nil)) (.v 2))) (
   .sq (.asg (.nm 4) (.bin .add (.bin .mul (.v 4) (.v 2)) (.v 3))) .skip)) s1 h = .ok (f, s2) h2 ∧ (f = .nx ∨ f = .ct) ∧ lapI (penH C (s + 1) d e) s cell (i + 1) s2 h2 := by
      rintro i w sl h hw ⟨rfl, st, fo, lap, q0, q1, rfl⟩
      obtain ⟨l, rfl, hl0, hl1⟩ : ∃ l : Int, w = .int l ∧ 0 ≤ l ∧ l < 6 := by
        rcases i with _ | _ | _ | _ | _ | _ | i <;> simp [rangeI] at hw <;> exact ⟨_, hw.symm, by decide, by decide⟩
      refine ⟨rfl, _, rfl, .nx, _, _, ?_, .inl rfl, rfl, (st * st + 70139 * (l + 5) * (s + 1) + cell) % prime, fo * prime + (st * st + 70139 * (l + 5) * (s + 1) + cell) % prime, some (.int l), Int.emod_nonneg _ (by decide), Int.emod_lt_of_pos _ pos, rfl⟩
      have m1 : mulOk st st = true := mulOk_l (by unfold prime at q1; omega)
      have m2 : mulOk 70139 (l + 5) = true := mulOk_l (by decide)
      have m3 : mulOk (70139 * (l + 5)) (s + 1) = true := mulOk_l (by omega)
      have m4 : mulOk fo prime = true := mulOk_r (by decide)
      simp [ex, ev, evs, getS, setS, binW, biW, m1, m2, m3, m4, pos, thenS, asgR, asgT]
    obtain ⟨s', h', e1, rfl, st2, fo2, lap2, _, _, rfl⟩ := forN_inv (wt := []) (t := .nm 5) (lapI (penH C (s + 1) d e) s cell) (rangeI 0 6) step (fun _ _ _ => rfl) (s := [some (.ref 2), some (.int cell), some (.int prime), some (.int st), some (.int fo), none, some (.int s), some (.ref 1)]) (h := penH C (s + 1) d e) ⟨rfl, st, fo, none, h0, h1, rfl⟩
    exact ⟨st2, fo2, lap2, e1⟩
  have m5 : mulOk cell 48271 = true := mulOk_r (by decide)
  have m6 : mulOk 60013 s = true := mulOk_l (by decide)
  have p10 : (10 : Int) ^ 18 = 1000000000000000000 := by decide
  have A1 : ex (callN tab k) (.par [6, 7] (.cons (.ix (.v 0) (.c (.int 1))) (.cons (.ix (.v 0) (.c (.int 0))) .nil))) [some (.ref 2), none, none, none, none, none, none, none] (penH C s d e) = .ok (.nx, [some (.ref 2), none, none, none, none, none, some (.int s), some (.ref 1)]) (penH C s d e) := by
    simp [penH, ex, ev, evs, getS, setS, ixW, seqOf, items, ixN, parR, parS]
  have A2 : ex (callN tab k) (.seti (.v 0) (.c (.int 1)) (.bin .add (.v 6) (.c (.int 1)))) [some (.ref 2), none, none, none, none, none, some (.int s), some (.ref 1)] (penH C s d e) = .ok (.nx, [some (.ref 2), none, none, none, none, none, some (.int s), some (.ref 1)]) (penH C (s + 1) d e) := by
    simp [penH, ex, ev, evs, getS, setS, ixN, setIx, lstAt, binW]
  have A3 := ex_asg (i := 1) (hc [some (.ref 2), none, none, none, none, none, some (.int s), some (.ref 1)] rfl rfl)
  have A4 : ∀ w, ex (callN tab k) (.asg (.nm 3) (.bin .mod (.bi .int (.cons (.bin .add (.bin .add (.bin .mul (.v 1) (.c (.int 48271))) (.bin .mul (.c (.int 60013)) (.v 6))) (.c (.int 31))) .nil)) (.v 2))) [some (.ref 2), some (.int cell), some (.int prime), none, none, none, some (.int s), some (.ref 1)] w =
      .ok (.nx, [some (.ref 2), some (.int cell), some (.int prime), some (.int ((cell * 48271 + 60013 * s + 31) % prime)), none, none, some (.int s), some (.ref 1)]) w := fun w => by
    simp [ex, ev, evs, getS, setS, binW, biW, m5, m6, pos, asgR, asgT]
  have hlen : biW .len [.ref 1] (penH C (s + 1) d e) = .ok (.int C.length) (penH C (s + 1) d e) := by simp [biW, seqOf, i1]
  have len2 : within62 6 = true := by decide
  obtain ⟨st2, fo2, lap2, hlp⟩ := lp ((cell * 48271 + 60013 * s + 31) % prime) ((cell * 48271 + 60013 * s + 31) % prime) (Int.emod_nonneg _ (by decide)) (Int.emod_lt_of_pos _ pos)
  by_cases hsl : s < (C.length : Int) ∧ 1000000000000000000 ≤ cell
  · refine ⟨cell - 10 ^ 18, ?_⟩
    show (ex (callN tab k) bFresh [some (.ref 2), none, none, none, none, none, none, none] (penH C s d e)).bind (finS false _) = _
    rw [bFresh, ex_step A1, ex_step A2, ex_step A3]
    rw [ex_ret (w := .int (cell - 10 ^ 18)) (s1 := [some (.ref 2), some (.int cell), none, none, none, none, some (.int s), some (.ref 1)]) (h1 := penH C (s + 1) d e)]
    · rfl
    · simp [ex, ev, evs, evT, getS, setS, cmpW, asB, hlen, hsl.1, hsl.2, binW, thenS]
  · refine ⟨fo2, ?_⟩
    show (ex (callN tab k) bFresh [some (.ref 2), none, none, none, none, none, none, none] (penH C s d e)).bind (finS false _) = _
    rw [bFresh, ex_step A1, ex_step A2, ex_step A3]
    rw [ex_step (s1 := [some (.ref 2), some (.int cell), none, none, none, none, some (.int s), some (.ref 1)]) (h1 := penH C (s + 1) d e)]
    · rw [ex_step (s1 := [some (.ref 2), some (.int cell), some (.int prime), none, none, none, some (.int s), some (.ref 1)]) (ex_asg (w := .int prime) (h1 := penH C (s + 1) d e) rfl)]
      rw [ex_step (A4 _)]
      rw [ex_step (s1 := [some (.ref 2), some (.int cell), some (.int prime), some (.int ((cell * 48271 + 60013 * s + 31) % prime)), some (.int ((cell * 48271 + 60013 * s + 31) % prime)), none, some (.int s), some (.ref 1)]) (ex_asg (w := .int ((cell * 48271 + 60013 * s + 31) % prime)) (h1 := penH C (s + 1) d e) rfl)]
      rw [ex_step (s1 := [some (.ref 2), some (.int cell), some (.int prime), some (.int st2), some (.int fo2), lap2, some (.int s), some (.ref 1)]) (h1 := penH C (s + 1) d e)]
      · simp [ex, ev, getS, thenS, finS, fin]
      · rw [← hlp]
        simp only [ex, evI, ev, R.bind_ok, rng1It, len2, if_true]
        rfl
    · simp [ex, ev, evs, evT, getS, setS, cmpW, asB, hlen, binW]
      by_cases h1 : s < (C.length : Int)
      · simp [h1] at hsl
        simp [h1, show ¬ (1000000000000000000 ≤ cell) by omega]
      · simp [h1]
end
end Wm
end

section
set_option Elab.async false
set_option linter.all false
set_option maxRecDepth 100000
set_option maxHeartbeats 4000000
namespace Wm
open PySem
/-! ### texts of data are short -/
mutual
def dSml : PyData → Bool
  | .none => true
  | .bool _ => true
  | .int i => decide (i.natAbs.log2 < 100)
  | .str _ => false
  | .list xs => dSmls xs
  | .tuple xs => dSmls xs
  | .dict _ => false
def dSmls : List PyData → Bool
  | [] => true
  | x :: xs => dSml x && dSmls xs
end
mutual
def dWt : PyData → Nat
  | .list xs => 3 + dWts xs
  | .tuple xs => 3 + dWts xs
  | _ => 102
def dWts : List PyData → Nat
  | [] => 0
  | x :: xs => (dWt x + 2) + dWts xs
end
theorem int_len {i : Int} (h : i.natAbs.log2 < 100) : (Str.ofString (toString i)).length ≤ 101 := by
  have := int_text_length_le (k := 100) (by decide) h
  rw [PyProof.Rows.ofString_length, String.length_toList]
  exact this
theorem strapp_len (a b : Str) : (a ++ b).length = a.length + b.length := Str.length_append a b
theorem textFrom_le : ∀ (ts : List Str) (k : Nat) (acc : Str), (textFrom k acc ts).length ≤ acc.length + piled ts
  | [], k, acc => by show acc.length ≤ _; omega
  | t :: r, k, acc => by
    have ih := textFrom_le r (k + 1) (acc ++ (if k > 0 then ", " else "" : String) ++ t)
    have e : textFrom k acc (t :: r) = textFrom (k + 1) (acc ++ (if k > 0 then ", " else "" : String) ++ t) r := rfl
    rw [e, piled_cons]
    refine Nat.le_trans ih ?_
    rw [strapp_len, strapp_len]
    have : (Str.ofString (if k > 0 then ", " else "" : String)).length ≤ 2 := by
      split <;> decide
    omega
theorem listText_le (ts : List Str) : (listText ts).length ≤ piled ts + 2 := by
  unfold listText
  rw [strapp_len]
  have := textFrom_le ts 0 "["
  have e1 : (Str.ofString "[").length = 1 := by decide
  have e2 : (Str.ofString "]").length = 1 := by decide
  omega
theorem tupleText_le (ts : List Str) : (tupleText ts).length ≤ piled ts + 3 := by
  unfold tupleText
  rw [strapp_len, strapp_len]
  have e1 : (Str.ofString "(").length = 1 := by decide
  have e2 : (Str.ofString (if ts.length == 1 then ",)" else ")" : String)).length ≤ 2 := by
    split <;> decide
  have e3 : (Str.join ", " ts).length ≤ piled ts := by
    by_cases h : ts = []
    · subst h; exact Nat.le_refl _
    · have := join_length_add ts h
      omega
  omega
mutual
theorem shown_le : ∀ d : PyData, dSml d = true → d.shown.length ≤ dWt d ∧ d.showable = true
  | .none, _ => ⟨by decide, rfl⟩
  | .bool b, _ => ⟨by cases b <;> decide, rfl⟩
  | .int i, h => by
    have h : i.natAbs.log2 < 100 := by simpa [dSml] using h
    exact ⟨Nat.le_succ_of_le (int_len h), by simp [PyData.showable]; omega⟩
  | .str _, h => by simp [dSml] at h
  | .dict _, h => by simp [dSml] at h
  | .list xs, h => by
    have q := shownAll_le xs (by simpa [dSml] using h)
    refine ⟨?_, by simpa [PyData.showable] using q.2⟩
    have := listText_le (PyData.shownAll xs)
    simp only [PyData.shown, dWt]
    omega
  | .tuple xs, h => by
    have q := shownAll_le xs (by simpa [dSml] using h)
    refine ⟨?_, by simpa [PyData.showable] using q.2⟩
    have := tupleText_le (PyData.shownAll xs)
    simp only [PyData.shown, dWt]
    omega
theorem shownAll_le : ∀ ds : List PyData, dSmls ds = true → piled (PyData.shownAll ds) ≤ dWts ds ∧ PyData.showableAll ds = true
  | [], _ => ⟨Nat.le_refl _, rfl⟩
  | d :: ds, h => by
    simp only [dSmls, Bool.and_eq_true] at h
    have h1 := shown_le d h.1
    have h2 := shownAll_le ds h.2
    refine ⟨?_, by simp [PyData.showableAll, h1.2, h2.2]⟩
    simp only [PyData.shownAll, piled_cons, dWts]
    omega
end
theorem repr_run {h : OH} {x : W} {d : PyData} (e : toD h deep x = some d) (hs : dSml d = true) (hw : dWt d ≤ line) : biW .repr [x] h = .ok (.str d.shown) h := by
  have q := shown_le d hs
  simp only [biW, e, q.2, Bool.true_and]
  rw [if_pos (Nat.ble_eq_true_of_le (Nat.le_trans q.1 hw))]
end Wm
end

section
set_option Elab.async false
set_option linter.all false
set_option maxRecDepth 100000
set_option maxHeartbeats 4000000
/-! Plain lemmas about runs over values: data, ranges. -/
namespace Vm
open PySem Wm
/-! ### data: numbers, None, texts, tuples and lists of such -/
def cl : Nat → W → Bool
  | _, .non => true
  | _, .int _ => true
  | _, .str x => PyData.strOk x
  | n + 1, .tup ws => ws.all (cl n)
  | n + 1, .lst ws => ws.all (cl n)
  | _, _ => false
theorem cl_td : ∀ (n : Nat) (u : W), cl n u = true → ∃ d, td n u = some d
  | 0, u, h => by
    cases u <;> simp only [cl] at h <;> first | (cases h; done) | skip
    · exact ⟨_, rfl⟩
    · exact ⟨_, rfl⟩
    · exact ⟨_, by simp [td, h]; rfl⟩
  | n + 1, u, h => by
    have go : ∀ ws : List W, ws.all (cl n) = true → ∃ ds, toDl (td n) ws = some ds := by
      intro ws
      induction ws with
      | nil => intro _; exact ⟨[], rfl⟩
      | cons w ws ih =>
        intro h
        simp only [List.all_cons, Bool.and_eq_true] at h
        obtain ⟨d, e1⟩ := cl_td n w h.1
        obtain ⟨ds, e2⟩ := ih h.2
        exact ⟨d :: ds, by simp [toDl, e1, e2]⟩
    cases u <;> simp only [cl] at h <;> first | (cases h; done) | skip
    · exact ⟨_, rfl⟩
    · exact ⟨_, rfl⟩
    · exact ⟨_, by simp [td, h]; rfl⟩
    · obtain ⟨ds, e⟩ := go _ h
      exact ⟨_, by simp [td, e]; rfl⟩
    · obtain ⟨ds, e⟩ := go _ h
      exact ⟨_, by simp [td, e]; rfl⟩
theorem cl_eqv : ∀ (n m : Nat) (u v : W) (d e : PyData), cl n u = true → cl m v = true → td n u = some d → td m v = some e → PyData.eqv d e = W.beq u v
  | n, m, u, v, d, e, hu, hv, eu, ev => by
    cases u with
    | tup us =>
      cases n with
      | zero => simp [cl] at hu
      | succ n =>
        simp only [td, Option.map_eq_some_iff] at eu
        obtain ⟨ds, e1, rfl⟩ := eu
        cases v with
        | tup vs' =>
          cases m with
          | zero => simp [cl] at hv
          | succ m =>
            simp only [td, Option.map_eq_some_iff] at ev
            obtain ⟨es, e2, rfl⟩ := ev
            show PyData.eqvAll ds es = W.beqs us vs'
            simp only [cl] at hu hv
            exact go n m us vs' ds es hu hv e1 e2
        | lst vs' =>
          cases m with
          | zero => simp [cl] at hv
          | succ m =>
            simp only [td, Option.map_eq_some_iff] at ev
            obtain ⟨es, e2, rfl⟩ := ev
            rfl
        | non => cases m <;> (simp only [td, Option.some.injEq] at ev; subst ev; rfl)
        | int i => cases m <;> (simp only [td, Option.some.injEq] at ev; subst ev; rfl)
        | str x => cases m <;> (simp only [td] at ev; split at ev <;> cases ev; rfl)
        | _ => cases m <;> simp [cl] at hv
    | lst us =>
      cases n with
      | zero => simp [cl] at hu
      | succ n =>
        simp only [td, Option.map_eq_some_iff] at eu
        obtain ⟨ds, e1, rfl⟩ := eu
        cases v with
        | lst vs' =>
          cases m with
          | zero => simp [cl] at hv
          | succ m =>
            simp only [td, Option.map_eq_some_iff] at ev
            obtain ⟨es, e2, rfl⟩ := ev
            show PyData.eqvAll ds es = W.beqs us vs'
            simp only [cl] at hu hv
            exact go n m us vs' ds es hu hv e1 e2
        | tup vs' =>
          cases m with
          | zero => simp [cl] at hv
          | succ m =>
            simp only [td, Option.map_eq_some_iff] at ev
            obtain ⟨es, e2, rfl⟩ := ev
            rfl
        | non => cases m <;> (simp only [td, Option.some.injEq] at ev; subst ev; rfl)
        | int i => cases m <;> (simp only [td, Option.some.injEq] at ev; subst ev; rfl)
        | str x => cases m <;> (simp only [td] at ev; split at ev <;> cases ev; rfl)
        | _ => cases m <;> simp [cl] at hv
    | non =>
      have : d = .none := by cases n <;> (simp only [td, Option.some.injEq] at eu; exact eu.symm)
      subst this
      cases v with
      | tup vs' => cases m with
        | zero => simp [cl] at hv
        | succ m => simp only [td, Option.map_eq_some_iff] at ev; obtain ⟨es, e2, rfl⟩ := ev; rfl
      | lst vs' => cases m with
        | zero => simp [cl] at hv
        | succ m => simp only [td, Option.map_eq_some_iff] at ev; obtain ⟨es, e2, rfl⟩ := ev; rfl
      | non => cases m <;> (simp only [td, Option.some.injEq] at ev; subst ev; rfl)
      | int i => cases m <;> (simp only [td, Option.some.injEq] at ev; subst ev; rfl)
      | str x => cases m <;> (simp only [td] at ev; split at ev <;> cases ev; rfl)
      | _ => cases m <;> simp [cl] at hv
    | int i =>
      have : d = .int i := by cases n <;> (simp only [td, Option.some.injEq] at eu; exact eu.symm)
      subst this
      cases v with
      | tup vs' => cases m with
        | zero => simp [cl] at hv
        | succ m => simp only [td, Option.map_eq_some_iff] at ev; obtain ⟨es, e2, rfl⟩ := ev; rfl
      | lst vs' => cases m with
        | zero => simp [cl] at hv
        | succ m => simp only [td, Option.map_eq_some_iff] at ev; obtain ⟨es, e2, rfl⟩ := ev; rfl
      | non => cases m <;> (simp only [td, Option.some.injEq] at ev; subst ev; rfl)
      | int j => cases m <;> (simp only [td, Option.some.injEq] at ev; subst ev; rw [Bool.eq_iff_iff]; simp [PyData.eqv, W.beq])
      | str x => cases m <;> (simp only [td] at ev; split at ev <;> cases ev; rfl)
      | _ => cases m <;> simp [cl] at hv
    | str x =>
      have : d = .str x := by cases n <;> (simp only [td] at eu; split at eu <;> cases eu; rfl)
      subst this
      cases v with
      | tup vs' => cases m with
        | zero => simp [cl] at hv
        | succ m => simp only [td, Option.map_eq_some_iff] at ev; obtain ⟨es, e2, rfl⟩ := ev; rfl
      | lst vs' => cases m with
        | zero => simp [cl] at hv
        | succ m => simp only [td, Option.map_eq_some_iff] at ev; obtain ⟨es, e2, rfl⟩ := ev; rfl
      | non => cases m <;> (simp only [td, Option.some.injEq] at ev; subst ev; rfl)
      | int j => cases m <;> (simp only [td, Option.some.injEq] at ev; subst ev; rfl)
      | str y =>
        have : e = .str y := by cases m <;> (simp only [td] at ev; split at ev <;> cases ev; rfl)
        subst this
        rw [Bool.eq_iff_iff]
        simp [PyData.eqv, W.beq]
      | _ => cases m <;> simp [cl] at hv
    | _ => cases n <;> simp [cl] at hu
where go (n m : Nat) : ∀ (us vs' : List W) (ds es : List PyData), us.all (cl n) = true → vs'.all (cl m) = true → toDl (td n) us = some ds → toDl (td m) vs' = some es → PyData.eqvAll ds es = W.beqs us vs'
  | [], vs', ds, es, _, hv, e1, e2 => by
    simp only [toDl, Option.some.injEq] at e1
    subst e1
    cases vs' with
    | nil => simp only [toDl, Option.some.injEq] at e2; subst e2; rfl
    | cons v vs' =>
      simp only [toDl] at e2
      split at e2
      · cases e2; rfl
      · cases e2
  | u :: us, vs', ds, es, hu, hv, e1, e2 => by
    simp only [toDl] at e1
    split at e1
    · rename_i d ds' h1 h2
      cases e1
      simp only [List.all_cons, Bool.and_eq_true] at hu
      cases vs' with
      | nil => simp only [toDl, Option.some.injEq] at e2; subst e2; rfl
      | cons v vs' =>
        simp only [toDl] at e2
        split at e2
        · rename_i e es' h3 h4
          cases e2
          simp only [List.all_cons, Bool.and_eq_true] at hv
          show (PyData.eqv d e && PyData.eqvAll ds' es') = (W.beq u v && W.beqs us vs')
          rw [cl_eqv n m u v d e hu.1 hv.1 h1 h3, go n m us vs' ds' es' hu.2 hv.2 h2 h4]
        · cases e2
    · cases e1
theorem cl_mono : ∀ (n : Nat) (u : W), cl n u = true → cl (n + 1) u = true
  | 0, u, h => by cases u <;> simp_all [cl]
  | n + 1, u, h => by
    have go : ∀ ws : List W, ws.all (cl n) = true → ws.all (cl (n + 1)) = true := fun ws h => List.all_eq_true.mpr fun w hw => cl_mono n w (List.all_eq_true.mp h w hw)
    cases u with
    | tup ws => simp only [cl] at h ⊢; exact go ws h
    | lst ws => simp only [cl] at h ⊢; exact go ws h
    | _ => simpa [cl] using h
theorem cl_le {n m : Nat} (h : n ≤ m) {u : W} (c : cl n u = true) : cl m u = true := by
  induction h with
  | refl => exact c
  | step _ ih => exact cl_mono _ _ ih
/-- plain data are equal exactly if they are the same -/
theorem eq_cl {u v : W} (hu : cl 60 u = true) (hv : cl 60 v = true) : eqV u v = some (W.beq u v) := by
  obtain ⟨d, e1⟩ := cl_td 60 u hu
  obtain ⟨e, e2⟩ := cl_td 60 v hv
  have gen : (match td deep u, td deep v with | some d, some e => some (PyData.eqv d e) | _, _ => none) = some (W.beq u v) := by
    show (match td 60 u, td 60 v with | some d, some e => some (PyData.eqv d e) | _, _ => none) = _
    rw [e1, e2]
    simp only [cl_eqv 60 60 u v d e hu hv e1 e2]
  unfold eqV
  split
  · simp [W.beq]
  · simp [W.beq]
  · simp [W.beq]
  · rfl
  · exact gen
theorem beq_iff {u v : W} : W.beq u v = true ↔ u = v := ⟨W.beq_eq, fun h => h ▸ W.beq_refl u⟩
theorem eq_same {u : W} (hu : cl 60 u = true) : cmpV .eq u u = some true := by
  show eqV u u = _
  rw [eq_cl hu hu, W.beq_refl]
theorem ne_same {u : W} (hu : cl 60 u = true) : cmpV .ne u u = some false := by
  show (eqV u u).map not = _
  rw [eq_cl hu hu, W.beq_refl]; rfl
theorem any_cl {u : W} {ws : List W} (hu : cl 59 u = true) (hw : ws.all (cl 59) = true) : anyD u ws = some (ws.any fun z => W.beq z u) := by
  obtain ⟨d, e1⟩ := cl_td 60 u (cl_le (by omega) hu)
  have go : ∀ ws : List W, ws.all (cl 59) = true → ∃ ds, toDl (td 59) ws = some ds ∧ (ds.any fun z => PyData.eqv z d) = ws.any fun z => W.beq z u := by
    intro ws
    induction ws with
    | nil => intro _; exact ⟨[], rfl, rfl⟩
    | cons w ws ih =>
      intro h
      simp only [List.all_cons, Bool.and_eq_true] at h
      obtain ⟨e, h1⟩ := cl_td 59 w h.1
      obtain ⟨ds, h2, h3⟩ := ih h.2
      exact ⟨e :: ds, by simp [toDl, h1, h2], by simp only [List.any_cons, h3, cl_eqv 59 60 w u e d h.1 (cl_le (by omega) hu) h1 e1]⟩
  obtain ⟨ds, h1, h2⟩ := go ws hw
  unfold anyD
  rw [show td deep u = some d from e1, h1]
  simp only [h2]
theorem eqF_beq {z x : W} (hz : flat z = true) (hx : flat x = true) (cz : cl 0 z = true) (cx : cl 0 x = true) : eqF z x = W.beq z x := by
  cases z <;> cases x <;> first | rfl | (cases hz; done) | (cases hx; done) | (simp [cl] at cz; done) | (simp [cl] at cx; done)
theorem all_iff {α : Type} {l : List α} {p : α → Bool} : l.all p = true ↔ ∀ x ∈ l, p x = true := List.all_eq_true
/-- in a list or tuple of plain data -/
theorem in_cl {u : W} {ws : List W} (hu : cl 59 u = true) (hw : ws.all (cl 59) = true) : inV u (.tup ws) = some (ws.any fun z => W.beq z u) ∧ inV u (.lst ws) = some (ws.any fun z => W.beq z u) := by
  have key : (if (flat u && ws.all flat) = true then some (ws.any fun z => eqF z u) else anyD u ws) = some (ws.any fun z => W.beq z u) := by
    split
    · rename_i hf
      simp only [Bool.and_eq_true] at hf
      congr 1
      have c0 : ∀ {w : W}, flat w = true → cl 59 w = true → cl 0 w = true := fun {w} a b => by cases w <;> first | (cases a; done) | simpa [cl] using b
      have := all_iff.mp hw
      have f2 := all_iff.mp hf.2
      clear hw
      induction ws with
      | nil => rfl
      | cons w ws ih =>
        simp only [List.any_cons]
        rw [eqF_beq (f2 w (by simp)) hf.1 (c0 (f2 w (by simp)) (this w (by simp))) (c0 hf.1 hu)]
        rw [ih ⟨hf.1, all_iff.mpr fun x hx => f2 x (List.mem_cons_of_mem _ hx)⟩ (fun x hx => this x (List.mem_cons_of_mem _ hx)) fun x hx => f2 x (List.mem_cons_of_mem _ hx)]
    · exact any_cl hu hw
  exact ⟨key, key⟩
theorem any_beq {u : W} {ws : List W} : (ws.any fun z => W.beq z u) = true ↔ u ∈ ws := by
  rw [List.any_eq_true]
  exact ⟨fun ⟨z, hz, e⟩ => by rw [← W.beq_eq e]; exact hz, fun h => ⟨u, h, W.beq_refl u⟩⟩
/-- .. of a coded list -/
theorem in_enc {α : Type} {enc : α → W} (inj : ∀ a b, enc a = enc b → a = b) (hc : ∀ a, cl 59 (enc a) = true) (x : α) (l : List α) [Decidable (x ∈ l)] : cmpV .inn (enc x) (.lst (l.map enc)) = some (decide (x ∈ l)) ∧ cmpV .inn (enc x) (.tup (l.map enc)) = some (decide (x ∈ l)) ∧ cmpV .nin (enc x) (.lst (l.map enc)) = some (!decide (x ∈ l)) ∧ cmpV .nin (enc x) (.tup (l.map enc)) = some (!decide (x ∈ l)) := by
  have hw : (l.map enc).all (cl 59) = true := all_iff.mpr fun w hw => by
    obtain ⟨a, _, rfl⟩ := List.mem_map.mp hw
    exact hc a
  have e : ((l.map enc).any fun z => W.beq z (enc x)) = decide (x ∈ l) := by
    rw [Bool.eq_iff_iff, any_beq, decide_eq_true_iff]
    constructor
    · intro h
      obtain ⟨a, ha, q⟩ := List.mem_map.mp h
      rw [← inj _ _ q]; exact ha
    · exact fun h => List.mem_map.mpr ⟨x, h, rfl⟩
  have := in_cl (hc x) hw
  rw [e] at this
  refine ⟨this.2, this.1, ?_, ?_⟩
  · show (inV _ _).map not = _
    rw [this.2]; rfl
  · show (inV _ _).map not = _
    rw [this.1]; rfl
@[simp] theorem cl_int (n : Nat) (i : Int) : cl n (.int i) = true := by cases n <;> rfl
@[simp] theorem cl_non (n : Nat) : cl n .non = true := by cases n <;> rfl
@[simp] theorem cl_tup (n : Nat) (ws : List W) : cl (n + 1) (.tup ws) = ws.all (cl n) := rfl
@[simp] theorem cl_lst (n : Nat) (ws : List W) : cl (n + 1) (.lst ws) = ws.all (cl n) := rfl
theorem in_int (x : Int) (l : List Int) : cmpV .inn (.int x) (.lst (l.map .int)) = some (decide (x ∈ l)) ∧ cmpV .inn (.int x) (.tup (l.map .int)) = some (decide (x ∈ l)) ∧ cmpV .nin (.int x) (.lst (l.map .int)) = some (!decide (x ∈ l)) ∧ cmpV .nin (.int x) (.tup (l.map .int)) = some (!decide (x ∈ l)) :=
  in_enc (enc := W.int) (fun a b h => by cases h; rfl) (fun a => by simp) x l
/-! ### repr -/
theorem repr_of {x : W} {d : PyData} (e : td deep x = some d) (hs : dSml d = true) (hw : dWt d ≤ line) : biV' .repr [x] = some (.str d.shown) := by
  obtain ⟨h1, h2⟩ := shown_le d hs
  have : (d.showable && Nat.ble d.shown.length line) = true := Bool.and_eq_true_iff.mpr ⟨h2, Nat.ble_eq_true_of_le (Nat.le_trans h1 hw)⟩
  show reprV x = _
  simp only [reprV, e, this, if_true]
/-! ### ranges -/
def rngZ (lo : Int) : Nat → List Int
  | 0 => []
  | n + 1 => lo :: rngZ (lo + 1) n
theorem rngI (n : Nat) : ∀ lo : Int, rangeI lo n = (rngZ lo n).map .int := by
  induction n with
  | zero => intro lo; rfl
  | succ n ih => intro lo; simp only [rangeI, rngZ, List.map_cons, ih]
theorem mem_rng {n : Nat} : ∀ {lo x : Int}, x ∈ rngZ lo n ↔ lo ≤ x ∧ x < lo + n := by
  induction n with
  | zero => intro lo x; simp only [rngZ, List.not_mem_nil, false_iff]; omega
  | succ n ih => intro lo x; simp only [rngZ, List.mem_cons, ih]; omega
theorem rng_len (n : Nat) : ∀ lo : Int, (rngZ lo n).length = n := by
  induction n with
  | zero => intro lo; rfl
  | succ n ih => intro lo; simp [rngZ, ih]
theorem rng_get (n : Nat) : ∀ (lo : Int) (i : Nat), i < n → (rngZ lo n)[i]? = some (lo + i) := by
  induction n with
  | zero => intro lo i h; omega
  | succ n ih =>
    intro lo i h
    cases i with
    | zero => simp [rngZ]
    | succ i => simp only [rngZ, List.getElem?_cons_succ, ih (lo + 1) i (by omega)]; congr 1; omega
theorem rngQ_ok {n : Int} (h0 : -(2 ^ 62) ≤ n) (h : n < 2 ^ 62) (s : Sl) : rngQ (.int n) s = .ok ((rngZ 0 n.toNat).map .int) s := by
  have : within62 n = true := by simp only [within62, h0, h, decide_true, Bool.and_self]
  simp only [rngQ, this, if_true, rngI]
theorem rngQ2_ok {a b : Int} (ha0 : -(2 ^ 62) ≤ a) (ha : a < 2 ^ 62) (h0 : -(2 ^ 62) ≤ b) (h : b < 2 ^ 62) (s : Sl) : rngQ2 (.int a) (.int b) s = .ok ((rngZ a (b - a).toNat).map .int) s := by
  have h1 : within62 b = true := by simp only [within62, h0, h, decide_true, Bool.and_self]
  have h2 : within62 a = true := by simp only [within62, ha0, ha, decide_true, Bool.and_self]
  simp only [rngQ2, h1, h2, Bool.and_self, if_true, rngI]
end Vm
end

section
set_option Elab.async false
set_option linter.all false
set_option maxRecDepth 100000
set_option maxHeartbeats 4000000
/-! The laws' pen. -/
namespace Vm
open PySem Wm
variable {tab : List Fn} {kt : List Ki} {ix : Nat → Nat}
def penV (C : List Int) (sd d : Int) : W := .lst [.lst (C.map .int), .int sd, .int d]
def PenOk (w : W) : Prop := ∃ C sd d, w = penV C sd d
theorem set_i0 (a w : W) (ws : List W) : setV (.lst (a :: ws)) (.int 0) w = some (.lst (w :: ws)) := by
  have h1 : (0 : Int) < ((a :: ws).length : Int) := by simp only [List.length_cons]; omega
  simp [setV, ixN, h1]
theorem set_i1 (a b w : W) (ws : List W) : setV (.lst (a :: b :: ws)) (.int 1) w = some (.lst (a :: w :: ws)) := by
  have h1 : (1 : Int) < ((a :: b :: ws).length : Int) := by simp only [List.length_cons]; omega
  simp only [setV, ixN, h1, if_true, show (0:Int) ≤ 1 by omega]
  rfl
theorem set_i2 (a b c w : W) (ws : List W) : setV (.lst (a :: b :: c :: ws)) (.int 2) w = some (.lst (a :: b :: w :: ws)) := by
  have h1 : (2 : Int) < ((a :: b :: c :: ws).length : Int) := by simp only [List.length_cons]; omega
  simp only [setV, ixN, h1, if_true, show (0:Int) ≤ 2 by omega]
  rfl
theorem setSl_ok {k : Nat} {z x y y' : W} {s : Sl} (e : getS s k = some y) (e2 : setV y z x = some y') : setSl k z x s = .ok .nx (setS s k (some y')) := by simp [setSl, e, e2]
theorem b_pow18 : binV .pow (.int 10) (.int 18) = some (.int 1000000000000000000) := rfl
theorem ints_cl (C : List Int) : (C.map W.int).all (cl 59) = true := all_iff.mpr fun w hw => by
  obtain ⟨i, _, rfl⟩ := List.mem_map.mp hw
  simp
theorem ne_nil (C : List Int) : cmpV .ne (.lst (C.map .int)) (.lst []) = some (!C.isEmpty) := by
  show (eqV _ _).map not = _
  rw [eq_cl (by rw [cl_lst]; exact ints_cl C) (by simp)]
  cases C <;> simp [W.beq, W.beqs]
theorem pen_ok (D : D_law_pen tab kt ix) {K : Nat} (hK : 1 ≤ K) (ns : List Int) : Wp (vcallN tab kt K (ix n_law_pen) [.rol (ns.map .int)]) fun w _ => PenOk w := by
  obtain ⟨K, rfl⟩ : ∃ k, K = k + 1 := ⟨K - 1, by omega⟩
  rw [D.me.enter rfl]
  have hc : cut (ns.map W.int) none (some 63) = (ns.take (min 63 ns.length)).map .int := by
    simp [cut, endOf, List.map_take]
  simp only [sh_law_pen, startS]
  simp [hc]
  exact ⟨ns.take (min 63 ns.length), 0, 0, by simp [penV, List.map_take]⟩
/-- the loop that mixes -/
theorem fresh_loop {G : Nat → List W → Q W} {io : Nat → List Bool} (pen given : W) (cell seat : Int) : ∀ (l : List Int) (state found : Int), (∀ x ∈ l, 0 ≤ x ∧ x < 6) → 0 ≤ state → state < 2305843009213693951 →
    ∃ st fo, forV (.nm 5) (vX G io (.fgt [5] (sb_law_fresh_0 ix))) (l.map .int) [some pen, some (.int cell), some (.int 2305843009213693951), some (.int state), some (.int found), none, some (.int seat), some given] = .ok .nx [some pen, some (.int cell), some (.int 2305843009213693951), some (.int st), some (.int fo), none, some (.int seat), some given] := by
  intro l
  induction l with
  | nil => intro st fo _ _ _; exact ⟨st, fo, rfl⟩
  | cons x l ih =>
    intro state found hx h1 h2
    have n1 : 0 ≤ (state * state + 70139 * (x + 5) * (seat + 1) + cell) % 2305843009213693951 := Int.emod_nonneg _ (by omega)
    have n2 : (state * state + 70139 * (x + 5) * (seat + 1) + cell) % 2305843009213693951 < 2305843009213693951 := Int.emod_lt_of_pos _ (by omega)
    have hx0 := hx x (by simp)
    obtain ⟨st, fo, e⟩ := ih _ (found * 2305843009213693951 + (state * state + 70139 * (x + 5) * (seat + 1) + cell) % 2305843009213693951) (fun y hy => hx y (List.mem_cons_of_mem _ hy)) n1 n2
    refine ⟨st, fo, ?_⟩
    rw [← e]
    have m1 : binV .mul (.int state) (.int state) = some (.int (state * state)) := b_mul (.inl (by omega))
    have m2 : binV .mul (.int 70139) (.int (x + 5)) = some (.int (70139 * (x + 5))) := b_mul (.inl (by omega))
    have m3 : binV .mul (.int (70139 * (x + 5))) (.int (seat + 1)) = some (.int (70139 * (x + 5) * (seat + 1))) := b_mul (.inl (by omega))
    have m4 : binV .mul (.int found) (.int 2305843009213693951) = some (.int (found * 2305843009213693951)) := b_mul (.inr (by omega))
    have m5 : ∀ i, binV .mod (.int i) (.int 2305843009213693951) = some (.int (i % 2305843009213693951)) := fun i => b_mod (by omega)
    simp only [List.map_cons, forV, asg_nm, setS_s, setS_z, vX_fgt]
    unfold sb_law_fresh_0
    simp only [getS_z, getS_s, setS_z, setS_s, wipe_n, wipe_c, rest_n, rest_c, asg_nm, asg_nil, asg_cons, par_nil, par_cons, vE_v, vE_c, vE_bin, vE_neg, vE_cmp, vE_chain, vE_and, vE_or, vE_not, vE_ite, vE_call, vE_bi, vE_isi, vE_mt, vE_tup, vE_lst, vE_ix, vE_sl, vE_rev, vE_lrg, vE_lc, vT_and, vT_or, vT_not, vT_cmp, vT_chain, vT_v, vT_c, vT_call, vT_bi, vT_isi, vT_ix, vC_nil, vC_cons, vs_nil, vs_cons, vA_t, vA_f, vA_n, vO_nil, vO_cons, vI_seq, vI_rng1, vI_rng2, vI_enum, vI_zip, vX_skip, vX_sq, vX_asg, vX_par, vX_seti, vX_seti2, vX_ex, vX_ret, vX_retn, vX_ite, vX_for, vX_brk, vX_cnt, vthen_nx, vthen_rt, vthen_bk, vthen_ct, vgo_nx, vgo_ct, vgo_bk, vgo_rt, fin_rt, fin_nx, back_ok, wb_t, wb_f, wb_n, wb_e, hdS_c, b_add, b_sub, c_lt, c_le, c_gt, c_ge, c_eqi, c_nei, c_nes, c_eqs, c_isn, c_isnn, t_bl, t_int, t_non, vseq_t, vseq_l, as_int, len_l, len_t, len_r, bi_int, bi_intb, bi_abs, bi_max2, bi_min2, bi_tup_t, bi_tup_l, bi_list_t, bi_list_l, neg_int, sl_t, sl_l, sl_r, rev_t, rev_l, lenOk_nil, lenOk_1, lenOk_2, lenOk_3, lenOk_4, lenOk_5, lenOk_6, ix_t0, ix_t1, ix_t2, ix_t3, ix_t4, ix_l0, ix_l1, ix_l2, Wp_ok, cl_int, cl_non, cl_tup, cl_lst, Q.bind_ok, Q.bind_exc, Q.bind_no, Q.of_some, Q.of_none, Q.calm_ok, if_true, if_false, Bool.false_eq_true, Bool.true_eq_false, decide_true, decide_false, Bool.not_true, Bool.not_false, Bool.and_true, Bool.true_and, Bool.and_false, Bool.false_and, Bool.or_true, Bool.or_false, Bool.true_or, Bool.false_or, Bool.not_not, not_true_eq_false, not_false_eq_true, List.map_cons, List.map_nil, List.length_map, List.take_succ_cons, List.take_zero, List.tail_cons, List.nil_append, List.cons_append, List.append_nil, asgQ, parQ, List.reduceReplicate, List.length_cons, List.length_nil, Nat.reduceSub, Nat.reduceAdd, Nat.zero_add, Wp_ok, decide_eq_true_eq, isNon, List.reverse_cons, List.reverse_nil, Bool.not_eq_true', decide_eq_false_iff_not, bne_iff_ne, ne_eq, m1, m2, m3, m4, m5]
theorem fresh_ok (D : D_law_fresh tab kt ix) {K : Nat} (hK : 1 ≤ K) (C : List Int) (sd d : Int) : ∃ v, vcallN tab kt K (ix n_law_fresh) [penV C sd d] = .ok (.int v) [some (penV C (sd + 1) d)] := by
  obtain ⟨K, rfl⟩ : ∃ k, K = k + 1 := ⟨K - 1, by omega⟩
  rw [D.me.enter rfl]
  simp only [sh_law_fresh, startS]
  have w1 : setSl 0 (.int 1) (.int (sd + 1)) [some (penV C sd d), none, none, none, none, none, some (.int sd), some (.lst (C.map .int))] = .ok .nx [some (penV C (sd + 1) d), none, none, none, none, none, some (.int sd), some (.lst (C.map .int))] := setSl_ok rfl (set_i1 _ _ _ _)
  have pw : ∀ s, vE (vcallN tab kt K) (ioOf kt) (.bin .pow (.c (.int 10)) (.c (.int 18))) s = .ok (.int 1000000000000000000) s := fun s => by simp only [getS_z, getS_s, setS_z, setS_s, wipe_n, wipe_c, rest_n, rest_c, asg_nm, asg_nil, asg_cons, par_nil, par_cons, vE_v, vE_c, vE_bin, vE_neg, vE_cmp, vE_chain, vE_and, vE_or, vE_not, vE_ite, vE_call, vE_bi, vE_isi, vE_mt, vE_tup, vE_lst, vE_ix, vE_sl, vE_rev, vE_lrg, vE_lc, vT_and, vT_or, vT_not, vT_cmp, vT_chain, vT_v, vT_c, vT_call, vT_bi, vT_isi, vT_ix, vC_nil, vC_cons, vs_nil, vs_cons, vA_t, vA_f, vA_n, vO_nil, vO_cons, vI_seq, vI_rng1, vI_rng2, vI_enum, vI_zip, vX_skip, vX_sq, vX_asg, vX_par, vX_seti, vX_seti2, vX_ex, vX_ret, vX_retn, vX_ite, vX_for, vX_brk, vX_cnt, vthen_nx, vthen_rt, vthen_bk, vthen_ct, vgo_nx, vgo_ct, vgo_bk, vgo_rt, fin_rt, fin_nx, back_ok, wb_t, wb_f, wb_n, wb_e, hdS_c, b_add, b_sub, c_lt, c_le, c_gt, c_ge, c_eqi, c_nei, c_nes, c_eqs, c_isn, c_isnn, t_bl, t_int, t_non, vseq_t, vseq_l, as_int, len_l, len_t, len_r, bi_int, bi_intb, bi_abs, bi_max2, bi_min2, bi_tup_t, bi_tup_l, bi_list_t, bi_list_l, neg_int, sl_t, sl_l, sl_r, rev_t, rev_l, lenOk_nil, lenOk_1, lenOk_2, lenOk_3, lenOk_4, lenOk_5, lenOk_6, ix_t0, ix_t1, ix_t2, ix_t3, ix_t4, ix_l0, ix_l1, ix_l2, Wp_ok, cl_int, cl_non, cl_tup, cl_lst, Q.bind_ok, Q.bind_exc, Q.bind_no, Q.of_some, Q.of_none, Q.calm_ok, if_true, if_false, Bool.false_eq_true, Bool.true_eq_false, decide_true, decide_false, Bool.not_true, Bool.not_false, Bool.and_true, Bool.true_and, Bool.and_false, Bool.false_and, Bool.or_true, Bool.or_false, Bool.true_or, Bool.false_or, Bool.not_not, not_true_eq_false, not_false_eq_true, List.map_cons, List.map_nil, List.length_map, List.take_succ_cons, List.take_zero, List.tail_cons, List.nil_append, List.cons_append, List.append_nil, asgQ, parQ, List.reduceReplicate, List.length_cons, List.length_nil, Nat.reduceSub, Nat.reduceAdd, Nat.zero_add, Wp_ok, decide_eq_true_eq, isNon, List.reverse_cons, List.reverse_nil, Bool.not_eq_true', decide_eq_false_iff_not, bne_iff_ne, ne_eq, b_pow18]
  -- the cell
  obtain ⟨cell, hcell⟩ : ∃ cell, vE (vcallN tab kt K) (ioOf kt) (.ite (.cmp .ne (.v 7) (.lst .nil)) (.ix (.v 7) (.bin .mod (.bi .int (.cons (.v 6) .nil)) (.bi .len (.cons (.v 7) .nil)))) (.c (.int 0))) [some (penV C (sd + 1) d), none, none, none, none, none, some (.int sd), some (.lst (C.map .int))] = .ok (.int cell) [some (penV C (sd + 1) d), none, none, none, none, none, some (.int sd), some (.lst (C.map .int))] := by
    cases hC : C with
    | nil => exact ⟨0, by have := ne_nil []; simp only [List.map_nil] at this; simp only [getS_z, getS_s, setS_z, setS_s, wipe_n, wipe_c, rest_n, rest_c, asg_nm, asg_nil, asg_cons, par_nil, par_cons, vE_v, vE_c, vE_bin, vE_neg, vE_cmp, vE_chain, vE_and, vE_or, vE_not, vE_ite, vE_call, vE_bi, vE_isi, vE_mt, vE_tup, vE_lst, vE_ix, vE_sl, vE_rev, vE_lrg, vE_lc, vT_and, vT_or, vT_not, vT_cmp, vT_chain, vT_v, vT_c, vT_call, vT_bi, vT_isi, vT_ix, vC_nil, vC_cons, vs_nil, vs_cons, vA_t, vA_f, vA_n, vO_nil, vO_cons, vI_seq, vI_rng1, vI_rng2, vI_enum, vI_zip, vX_skip, vX_sq, vX_asg, vX_par, vX_seti, vX_seti2, vX_ex, vX_ret, vX_retn, vX_ite, vX_for, vX_brk, vX_cnt, vthen_nx, vthen_rt, vthen_bk, vthen_ct, vgo_nx, vgo_ct, vgo_bk, vgo_rt, fin_rt, fin_nx, back_ok, wb_t, wb_f, wb_n, wb_e, hdS_c, b_add, b_sub, c_lt, c_le, c_gt, c_ge, c_eqi, c_nei, c_nes, c_eqs, c_isn, c_isnn, t_bl, t_int, t_non, vseq_t, vseq_l, as_int, len_l, len_t, len_r, bi_int, bi_intb, bi_abs, bi_max2, bi_min2, bi_tup_t, bi_tup_l, bi_list_t, bi_list_l, neg_int, sl_t, sl_l, sl_r, rev_t, rev_l, lenOk_nil, lenOk_1, lenOk_2, lenOk_3, lenOk_4, lenOk_5, lenOk_6, ix_t0, ix_t1, ix_t2, ix_t3, ix_t4, ix_l0, ix_l1, ix_l2, Wp_ok, cl_int, cl_non, cl_tup, cl_lst, Q.bind_ok, Q.bind_exc, Q.bind_no, Q.of_some, Q.of_none, Q.calm_ok, if_true, if_false, Bool.false_eq_true, Bool.true_eq_false, decide_true, decide_false, Bool.not_true, Bool.not_false, Bool.and_true, Bool.true_and, Bool.and_false, Bool.false_and, Bool.or_true, Bool.or_false, Bool.true_or, Bool.false_or, Bool.not_not, not_true_eq_false, not_false_eq_true, List.map_cons, List.map_nil, List.length_map, List.take_succ_cons, List.take_zero, List.tail_cons, List.nil_append, List.cons_append, List.append_nil, asgQ, parQ, List.reduceReplicate, List.length_cons, List.length_nil, Nat.reduceSub, Nat.reduceAdd, Nat.zero_add, Wp_ok, decide_eq_true_eq, isNon, List.reverse_cons, List.reverse_nil, Bool.not_eq_true', decide_eq_false_iff_not, bne_iff_ne, ne_eq, this, List.isEmpty_nil]⟩
    | cons c C' =>
      have hl : (0 : Int) < ((c :: C').length : Int) := by simp only [List.length_cons]; omega
      have r1 := Int.emod_nonneg sd (by omega : ((c :: C').length : Int) ≠ 0)
      have r2 := Int.emod_lt_of_pos sd hl
      have hlt : (sd % ((c :: C').length : Int)).toNat < (c :: C').length := by omega
      refine ⟨(c :: C')[(sd % ((c :: C').length : Int)).toNat], ?_⟩
      have e1 : ixV (.lst ((c :: C').map .int)) (.int (sd % ((c :: C').length : Int))) = some (.int (c :: C')[(sd % ((c :: C').length : Int)).toNat]) := ix_at (vseq_l _) r1 (by rw [List.getElem?_map, List.getElem?_eq_getElem hlt]; rfl)
      have e2 := b_mod (i := sd) hl
      simp only [vE_ite, vT_cmp, vE_v, vE_lst, vs_nil, Q.bind_ok, Q.of_some, getS_s, getS_z, lenOk_nil, if_true, ne_nil, List.isEmpty_cons, Bool.not_false, vE_ix, vE_bin, vE_bi, vs_cons, bi_int, len_l, List.length_map, e1, e2]
  have pw : vE (vcallN tab kt K) (ioOf kt) (.bin .pow (.c (.int 10)) (.c (.int 18))) = fun s => .ok (.int 1000000000000000000) s := by
    funext s
    simp only [getS_z, getS_s, setS_z, setS_s, wipe_n, wipe_c, rest_n, rest_c, asg_nm, asg_nil, asg_cons, par_nil, par_cons, vE_v, vE_c, vE_bin, vE_neg, vE_cmp, vE_chain, vE_and, vE_or, vE_not, vE_ite, vE_call, vE_bi, vE_isi, vE_mt, vE_tup, vE_lst, vE_ix, vE_sl, vE_rev, vE_lrg, vE_lc, vT_and, vT_or, vT_not, vT_cmp, vT_chain, vT_v, vT_c, vT_call, vT_bi, vT_isi, vT_ix, vC_nil, vC_cons, vs_nil, vs_cons, vA_t, vA_f, vA_n, vO_nil, vO_cons, vI_seq, vI_rng1, vI_rng2, vI_enum, vI_zip, vX_skip, vX_sq, vX_asg, vX_par, vX_seti, vX_seti2, vX_ex, vX_ret, vX_retn, vX_ite, vX_for, vX_brk, vX_cnt, vthen_nx, vthen_rt, vthen_bk, vthen_ct, vgo_nx, vgo_ct, vgo_bk, vgo_rt, fin_rt, fin_nx, back_ok, wb_t, wb_f, wb_n, wb_e, hdS_c, b_add, b_sub, c_lt, c_le, c_gt, c_ge, c_eqi, c_nei, c_nes, c_eqs, c_isn, c_isnn, t_bl, t_int, t_non, vseq_t, vseq_l, as_int, len_l, len_t, len_r, bi_int, bi_intb, bi_abs, bi_max2, bi_min2, bi_tup_t, bi_tup_l, bi_list_t, bi_list_l, neg_int, sl_t, sl_l, sl_r, rev_t, rev_l, lenOk_nil, lenOk_1, lenOk_2, lenOk_3, lenOk_4, lenOk_5, lenOk_6, ix_t0, ix_t1, ix_t2, ix_t3, ix_t4, ix_l0, ix_l1, ix_l2, Wp_ok, cl_int, cl_non, cl_tup, cl_lst, Q.bind_ok, Q.bind_exc, Q.bind_no, Q.of_some, Q.of_none, Q.calm_ok, if_true, if_false, Bool.false_eq_true, Bool.true_eq_false, decide_true, decide_false, Bool.not_true, Bool.not_false, Bool.and_true, Bool.true_and, Bool.and_false, Bool.false_and, Bool.or_true, Bool.or_false, Bool.true_or, Bool.false_or, Bool.not_not, not_true_eq_false, not_false_eq_true, List.map_cons, List.map_nil, List.length_map, List.take_succ_cons, List.take_zero, List.tail_cons, List.nil_append, List.cons_append, List.append_nil, asgQ, parQ, List.reduceReplicate, List.length_cons, List.length_nil, Nat.reduceSub, Nat.reduceAdd, Nat.zero_add, Wp_ok, decide_eq_true_eq, isNon, List.reverse_cons, List.reverse_nil, Bool.not_eq_true', decide_eq_false_iff_not, bne_iff_ne, ne_eq, b_pow18]
  have w1 := setSl_ok (k := 0) (z := .int 1) (x := .int (sd + 1)) (s := [some (penV C sd d), none, none, none, none, none, some (.int sd), some (.lst (C.map .int))]) rfl (set_i1 _ _ _ _)
  have m5 : ∀ i, binV .mod (.int i) (.int 2305843009213693951) = some (.int (i % 2305843009213693951)) := fun i => b_mod (by omega)
  have m1 : binV .mul (.int cell) (.int 48271) = some (.int (cell * 48271)) := b_mul (.inr (by omega))
  have m2 : binV .mul (.int 60013) (.int sd) = some (.int (60013 * sd)) := b_mul (.inl (by omega))
  have r6 := rngQ_ok (n := 6) (by omega) (by omega)
  obtain ⟨st, fo, lp⟩ := fresh_loop (ix := ix) (G := vcallN tab kt K) (io := ioOf kt) (penV C (sd + 1) d) (.lst (C.map .int)) cell sd (rngZ 0 6) ((cell * 48271 + 60013 * sd + 31) % 2305843009213693951) ((cell * 48271 + 60013 * sd + 31) % 2305843009213693951) (fun x hx => by have := mem_rng.mp hx; omega) (Int.emod_nonneg _ (by omega)) (Int.emod_lt_of_pos _ (by omega))
  have r6' : (6 : Int).toNat = 6 := rfl
  by_cases h1 : sd < (C.length : Int)
  · by_cases h2 : 1000000000000000000 ≤ cell
    · refine ⟨cell - 1000000000000000000, ?_⟩
      rw [vX_sq, vX_par]
      simp only [vX_sq, vX_asg, hcell, vX_seti, getS_z, getS_s, setS_z, setS_s, wipe_n, wipe_c, rest_n, rest_c, asg_nm, asg_nil, asg_cons, par_nil, par_cons, vE_v, vE_c, vE_bin, vE_neg, vE_cmp, vE_chain, vE_and, vE_or, vE_not, vE_ite, vE_call, vE_bi, vE_isi, vE_mt, vE_tup, vE_lst, vE_ix, vE_sl, vE_rev, vE_lrg, vE_lc, vT_and, vT_or, vT_not, vT_cmp, vT_chain, vT_v, vT_c, vT_call, vT_bi, vT_isi, vT_ix, vC_nil, vC_cons, vs_nil, vs_cons, vA_t, vA_f, vA_n, vO_nil, vO_cons, vI_seq, vI_rng1, vI_rng2, vI_enum, vI_zip, vX_skip, vX_sq, vX_asg, vX_par, vX_seti, vX_seti2, vX_ex, vX_ret, vX_retn, vX_ite, vX_for, vX_brk, vX_cnt, vthen_nx, vthen_rt, vthen_bk, vthen_ct, vgo_nx, vgo_ct, vgo_bk, vgo_rt, fin_rt, fin_nx, back_ok, wb_t, wb_f, wb_n, wb_e, hdS_c, b_add, b_sub, c_lt, c_le, c_gt, c_ge, c_eqi, c_nei, c_nes, c_eqs, c_isn, c_isnn, t_bl, t_int, t_non, vseq_t, vseq_l, as_int, len_l, len_t, len_r, bi_int, bi_intb, bi_abs, bi_max2, bi_min2, bi_tup_t, bi_tup_l, bi_list_t, bi_list_l, neg_int, sl_t, sl_l, sl_r, rev_t, rev_l, lenOk_nil, lenOk_1, lenOk_2, lenOk_3, lenOk_4, lenOk_5, lenOk_6, ix_t0, ix_t1, ix_t2, ix_t3, ix_t4, ix_l0, ix_l1, ix_l2, Wp_ok, cl_int, cl_non, cl_tup, cl_lst, Q.bind_ok, Q.bind_exc, Q.bind_no, Q.of_some, Q.of_none, Q.calm_ok, if_true, if_false, Bool.false_eq_true, Bool.true_eq_false, decide_true, decide_false, Bool.not_true, Bool.not_false, Bool.and_true, Bool.true_and, Bool.and_false, Bool.false_and, Bool.or_true, Bool.or_false, Bool.true_or, Bool.false_or, Bool.not_not, not_true_eq_false, not_false_eq_true, List.map_cons, List.map_nil, List.length_map, List.take_succ_cons, List.take_zero, List.tail_cons, List.nil_append, List.cons_append, List.append_nil, asgQ, parQ, List.reduceReplicate, List.length_cons, List.length_nil, Nat.reduceSub, Nat.reduceAdd, Nat.zero_add, Wp_ok, decide_eq_true_eq, isNon, List.reverse_cons, List.reverse_nil, Bool.not_eq_true', decide_eq_false_iff_not, bne_iff_ne, ne_eq, penV] at w1 ⊢
      simp only [penV] at hcell
      simp only [getS_z, getS_s, setS_z, setS_s, wipe_n, wipe_c, rest_n, rest_c, asg_nm, asg_nil, asg_cons, par_nil, par_cons, vE_v, vE_c, vE_bin, vE_neg, vE_cmp, vE_chain, vE_and, vE_or, vE_not, vE_ite, vE_call, vE_bi, vE_isi, vE_mt, vE_tup, vE_lst, vE_ix, vE_sl, vE_rev, vE_lrg, vE_lc, vT_and, vT_or, vT_not, vT_cmp, vT_chain, vT_v, vT_c, vT_call, vT_bi, vT_isi, vT_ix, vC_nil, vC_cons, vs_nil, vs_cons, vA_t, vA_f, vA_n, vO_nil, vO_cons, vI_seq, vI_rng1, vI_rng2, vI_enum, vI_zip, vX_skip, vX_sq, vX_asg, vX_par, vX_seti, vX_seti2, vX_ex, vX_ret, vX_retn, vX_ite, vX_for, vX_brk, vX_cnt, vthen_nx, vthen_rt, vthen_bk, vthen_ct, vgo_nx, vgo_ct, vgo_bk, vgo_rt, fin_rt, fin_nx, back_ok, wb_t, wb_f, wb_n, wb_e, hdS_c, b_add, b_sub, c_lt, c_le, c_gt, c_ge, c_eqi, c_nei, c_nes, c_eqs, c_isn, c_isnn, t_bl, t_int, t_non, vseq_t, vseq_l, as_int, len_l, len_t, len_r, bi_int, bi_intb, bi_abs, bi_max2, bi_min2, bi_tup_t, bi_tup_l, bi_list_t, bi_list_l, neg_int, sl_t, sl_l, sl_r, rev_t, rev_l, lenOk_nil, lenOk_1, lenOk_2, lenOk_3, lenOk_4, lenOk_5, lenOk_6, ix_t0, ix_t1, ix_t2, ix_t3, ix_t4, ix_l0, ix_l1, ix_l2, Wp_ok, cl_int, cl_non, cl_tup, cl_lst, Q.bind_ok, Q.bind_exc, Q.bind_no, Q.of_some, Q.of_none, Q.calm_ok, if_true, if_false, Bool.false_eq_true, Bool.true_eq_false, decide_true, decide_false, Bool.not_true, Bool.not_false, Bool.and_true, Bool.true_and, Bool.and_false, Bool.false_and, Bool.or_true, Bool.or_false, Bool.true_or, Bool.false_or, Bool.not_not, not_true_eq_false, not_false_eq_true, List.map_cons, List.map_nil, List.length_map, List.take_succ_cons, List.take_zero, List.tail_cons, List.nil_append, List.cons_append, List.append_nil, asgQ, parQ, List.reduceReplicate, List.length_cons, List.length_nil, Nat.reduceSub, Nat.reduceAdd, Nat.zero_add, Wp_ok, decide_eq_true_eq, isNon, List.reverse_cons, List.reverse_nil, Bool.not_eq_true', decide_eq_false_iff_not, bne_iff_ne, ne_eq, w1, hcell, b_pow18, h1, h2]
    · refine ⟨fo, ?_⟩
      simp only [penV] at w1 hcell lp ⊢
      simp only [getS_z, getS_s, setS_z, setS_s, wipe_n, wipe_c, rest_n, rest_c, asg_nm, asg_nil, asg_cons, par_nil, par_cons, vE_v, vE_c, vE_bin, vE_neg, vE_cmp, vE_chain, vE_and, vE_or, vE_not, vE_ite, vE_call, vE_bi, vE_isi, vE_mt, vE_tup, vE_lst, vE_ix, vE_sl, vE_rev, vE_lrg, vE_lc, vT_and, vT_or, vT_not, vT_cmp, vT_chain, vT_v, vT_c, vT_call, vT_bi, vT_isi, vT_ix, vC_nil, vC_cons, vs_nil, vs_cons, vA_t, vA_f, vA_n, vO_nil, vO_cons, vI_seq, vI_rng1, vI_rng2, vI_enum, vI_zip, vX_skip, vX_sq, vX_asg, vX_par, vX_seti, vX_seti2, vX_ex, vX_ret, vX_retn, vX_ite, vX_for, vX_brk, vX_cnt, vthen_nx, vthen_rt, vthen_bk, vthen_ct, vgo_nx, vgo_ct, vgo_bk, vgo_rt, fin_rt, fin_nx, back_ok, wb_t, wb_f, wb_n, wb_e, hdS_c, b_add, b_sub, c_lt, c_le, c_gt, c_ge, c_eqi, c_nei, c_nes, c_eqs, c_isn, c_isnn, t_bl, t_int, t_non, vseq_t, vseq_l, as_int, len_l, len_t, len_r, bi_int, bi_intb, bi_abs, bi_max2, bi_min2, bi_tup_t, bi_tup_l, bi_list_t, bi_list_l, neg_int, sl_t, sl_l, sl_r, rev_t, rev_l, lenOk_nil, lenOk_1, lenOk_2, lenOk_3, lenOk_4, lenOk_5, lenOk_6, ix_t0, ix_t1, ix_t2, ix_t3, ix_t4, ix_l0, ix_l1, ix_l2, Wp_ok, cl_int, cl_non, cl_tup, cl_lst, Q.bind_ok, Q.bind_exc, Q.bind_no, Q.of_some, Q.of_none, Q.calm_ok, if_true, if_false, Bool.false_eq_true, Bool.true_eq_false, decide_true, decide_false, Bool.not_true, Bool.not_false, Bool.and_true, Bool.true_and, Bool.and_false, Bool.false_and, Bool.or_true, Bool.or_false, Bool.true_or, Bool.false_or, Bool.not_not, not_true_eq_false, not_false_eq_true, List.map_cons, List.map_nil, List.length_map, List.take_succ_cons, List.take_zero, List.tail_cons, List.nil_append, List.cons_append, List.append_nil, asgQ, parQ, List.reduceReplicate, List.length_cons, List.length_nil, Nat.reduceSub, Nat.reduceAdd, Nat.zero_add, Wp_ok, decide_eq_true_eq, isNon, List.reverse_cons, List.reverse_nil, Bool.not_eq_true', decide_eq_false_iff_not, bne_iff_ne, ne_eq, w1, hcell, b_pow18, h1, h2, m5, m1, m2, r6, r6', lp]
  · refine ⟨fo, ?_⟩
    simp only [penV] at w1 hcell lp ⊢
    simp only [getS_z, getS_s, setS_z, setS_s, wipe_n, wipe_c, rest_n, rest_c, asg_nm, asg_nil, asg_cons, par_nil, par_cons, vE_v, vE_c, vE_bin, vE_neg, vE_cmp, vE_chain, vE_and, vE_or, vE_not, vE_ite, vE_call, vE_bi, vE_isi, vE_mt, vE_tup, vE_lst, vE_ix, vE_sl, vE_rev, vE_lrg, vE_lc, vT_and, vT_or, vT_not, vT_cmp, vT_chain, vT_v, vT_c, vT_call, vT_bi, vT_isi, vT_ix, vC_nil, vC_cons, vs_nil, vs_cons, vA_t, vA_f, vA_n, vO_nil, vO_cons, vI_seq, vI_rng1, vI_rng2, vI_enum, vI_zip, vX_skip, vX_sq, vX_asg, vX_par, vX_seti, vX_seti2, vX_ex, vX_ret, vX_retn, vX_ite, vX_for, vX_brk, vX_cnt, vthen_nx, vthen_rt, vthen_bk, vthen_ct, vgo_nx, vgo_ct, vgo_bk, vgo_rt, fin_rt, fin_nx, back_ok, wb_t, wb_f, wb_n, wb_e, hdS_c, b_add, b_sub, c_lt, c_le, c_gt, c_ge, c_eqi, c_nei, c_nes, c_eqs, c_isn, c_isnn, t_bl, t_int, t_non, vseq_t, vseq_l, as_int, len_l, len_t, len_r, bi_int, bi_intb, bi_abs, bi_max2, bi_min2, bi_tup_t, bi_tup_l, bi_list_t, bi_list_l, neg_int, sl_t, sl_l, sl_r, rev_t, rev_l, lenOk_nil, lenOk_1, lenOk_2, lenOk_3, lenOk_4, lenOk_5, lenOk_6, ix_t0, ix_t1, ix_t2, ix_t3, ix_t4, ix_l0, ix_l1, ix_l2, Wp_ok, cl_int, cl_non, cl_tup, cl_lst, Q.bind_ok, Q.bind_exc, Q.bind_no, Q.of_some, Q.of_none, Q.calm_ok, if_true, if_false, Bool.false_eq_true, Bool.true_eq_false, decide_true, decide_false, Bool.not_true, Bool.not_false, Bool.and_true, Bool.true_and, Bool.and_false, Bool.false_and, Bool.or_true, Bool.or_false, Bool.true_or, Bool.false_or, Bool.not_not, not_true_eq_false, not_false_eq_true, List.map_cons, List.map_nil, List.length_map, List.take_succ_cons, List.take_zero, List.tail_cons, List.nil_append, List.cons_append, List.append_nil, asgQ, parQ, List.reduceReplicate, List.length_cons, List.length_nil, Nat.reduceSub, Nat.reduceAdd, Nat.zero_add, Wp_ok, decide_eq_true_eq, isNon, List.reverse_cons, List.reverse_nil, Bool.not_eq_true', decide_eq_false_iff_not, bne_iff_ne, ne_eq, w1, hcell, b_pow18, h1, m5, m1, m2, r6, r6', lp]

/-- a draw -/
theorem draw_ok (D : D_law_draw tab kt ix) {K : Nat} (hK : 2 ≤ K) {p : W} (hp : PenOk p) {b : Int} (hb : 0 < b) (hb2 : b < 10 ^ 18) :
    Wp (vcallN tab kt K (ix n_law_draw) [p, .int b]) fun w o => ∃ x p', w = .int x ∧ 0 ≤ x ∧ x < b ∧ o = [some p', some (.int b)] ∧ PenOk p' := by
  obtain ⟨K, rfl⟩ : ∃ k, K = k + 1 := ⟨K - 1, by omega⟩
  obtain ⟨C, sd, d, rfl⟩ := hp
  rw [D.me.enter rfl]
  have hlog : b.natAbs.log2 < 9000 := by
    have : b.natAbs < 2 ^ 9000 := Nat.lt_of_lt_of_le (show b.natAbs < 10 ^ 18 by omega) (by decide +kernel)
    by_cases h0 : b.natAbs = 0
    · rw [h0]; decide
    · exact (Nat.log2_lt h0).mpr this
  have m1 : ∀ i, binV .mod (.int i) (.int b) = some (.int (i % b)) := fun i => b_mod hb
  have m2 : ∀ i, binV .fdiv (.int i) (.int b) = some (.int (i / b)) := fun i => b_fdiv hb hlog
  have fin : ∀ d' sd', ∃ x p', W.int (d' % b) = .int x ∧ 0 ≤ x ∧ x < b ∧ ([some (penV C sd' (d' / b)), some (.int b)] : Sl) = [some p', some (.int b)] ∧ PenOk p' := fun d' sd' => ⟨d' % b, penV C sd' (d' / b), rfl, Int.emod_nonneg _ (by omega), Int.emod_lt_of_pos _ hb, rfl, C, sd', d' / b, rfl⟩
  simp only [sh_law_draw]
  by_cases h : d < b
  · obtain ⟨v, e⟩ := fresh_ok D.c_law_fresh (K := K) (by omega) C sd d
    have w1 : setSl 2 (.int 0) (.int 0) [] = setSl 2 (.int 0) (.int 0) [] := rfl
    have w2 := setSl_ok (k := 0) (z := .int 2) (x := .int v) (s := [some (penV C (sd + 1) d), some (.int b), none]) rfl (set_i2 _ _ _ _ _)
    have w3 := setSl_ok (k := 0) (z := .int 2) (x := .int (v / b)) (s := [some (penV C (sd + 1) v), some (.int b), some (.int (v % b))]) rfl (set_i2 _ _ _ _ _)
    simp only [penV] at e w2 w3
    simp only [getS_z, getS_s, setS_z, setS_s, wipe_n, wipe_c, rest_n, rest_c, asg_nm, asg_nil, asg_cons, par_nil, par_cons, vE_v, vE_c, vE_bin, vE_neg, vE_cmp, vE_chain, vE_and, vE_or, vE_not, vE_ite, vE_call, vE_bi, vE_isi, vE_mt, vE_tup, vE_lst, vE_ix, vE_sl, vE_rev, vE_lrg, vE_lc, vT_and, vT_or, vT_not, vT_cmp, vT_chain, vT_v, vT_c, vT_call, vT_bi, vT_isi, vT_ix, vC_nil, vC_cons, vs_nil, vs_cons, vA_t, vA_f, vA_n, vO_nil, vO_cons, vI_seq, vI_rng1, vI_rng2, vI_enum, vI_zip, vX_skip, vX_sq, vX_asg, vX_par, vX_seti, vX_seti2, vX_ex, vX_ret, vX_retn, vX_ite, vX_for, vX_brk, vX_cnt, vthen_nx, vthen_rt, vthen_bk, vthen_ct, vgo_nx, vgo_ct, vgo_bk, vgo_rt, fin_rt, fin_nx, back_ok, wb_t, wb_f, wb_n, wb_e, hdS_c, b_add, b_sub, c_lt, c_le, c_gt, c_ge, c_eqi, c_nei, c_nes, c_eqs, c_isn, c_isnn, t_bl, t_int, t_non, vseq_t, vseq_l, as_int, len_l, len_t, len_r, bi_int, bi_intb, bi_abs, bi_max2, bi_min2, bi_tup_t, bi_tup_l, bi_list_t, bi_list_l, neg_int, sl_t, sl_l, sl_r, rev_t, rev_l, lenOk_nil, lenOk_1, lenOk_2, lenOk_3, lenOk_4, lenOk_5, lenOk_6, ix_t0, ix_t1, ix_t2, ix_t3, ix_t4, ix_l0, ix_l1, ix_l2, Wp_ok, cl_int, cl_non, cl_tup, cl_lst, Q.bind_ok, Q.bind_exc, Q.bind_no, Q.of_some, Q.of_none, Q.calm_ok, if_true, if_false, Bool.false_eq_true, Bool.true_eq_false, decide_true, decide_false, Bool.not_true, Bool.not_false, Bool.and_true, Bool.true_and, Bool.and_false, Bool.false_and, Bool.or_true, Bool.or_false, Bool.true_or, Bool.false_or, Bool.not_not, not_true_eq_false, not_false_eq_true, List.map_cons, List.map_nil, List.length_map, List.take_succ_cons, List.take_zero, List.tail_cons, List.nil_append, List.cons_append, List.append_nil, asgQ, parQ, List.reduceReplicate, List.length_cons, List.length_nil, Nat.reduceSub, Nat.reduceAdd, Nat.zero_add, Wp_ok, decide_eq_true_eq, isNon, List.reverse_cons, List.reverse_nil, Bool.not_eq_true', decide_eq_false_iff_not, bne_iff_ne, ne_eq, startS, penV, h, D.c_law_fresh.me.iof, k_law_fresh, Kd.io, e, w2, w3, m1, m2]
    exact fin v (sd + 1)
  · have w3 := setSl_ok (k := 0) (z := .int 2) (x := .int (d / b)) (s := [some (penV C sd d), some (.int b), some (.int (d % b))]) rfl (set_i2 _ _ _ _ _)
    simp only [penV] at w3
    simp only [getS_z, getS_s, setS_z, setS_s, wipe_n, wipe_c, rest_n, rest_c, asg_nm, asg_nil, asg_cons, par_nil, par_cons, vE_v, vE_c, vE_bin, vE_neg, vE_cmp, vE_chain, vE_and, vE_or, vE_not, vE_ite, vE_call, vE_bi, vE_isi, vE_mt, vE_tup, vE_lst, vE_ix, vE_sl, vE_rev, vE_lrg, vE_lc, vT_and, vT_or, vT_not, vT_cmp, vT_chain, vT_v, vT_c, vT_call, vT_bi, vT_isi, vT_ix, vC_nil, vC_cons, vs_nil, vs_cons, vA_t, vA_f, vA_n, vO_nil, vO_cons, vI_seq, vI_rng1, vI_rng2, vI_enum, vI_zip, vX_skip, vX_sq, vX_asg, vX_par, vX_seti, vX_seti2, vX_ex, vX_ret, vX_retn, vX_ite, vX_for, vX_brk, vX_cnt, vthen_nx, vthen_rt, vthen_bk, vthen_ct, vgo_nx, vgo_ct, vgo_bk, vgo_rt, fin_rt, fin_nx, back_ok, wb_t, wb_f, wb_n, wb_e, hdS_c, b_add, b_sub, c_lt, c_le, c_gt, c_ge, c_eqi, c_nei, c_nes, c_eqs, c_isn, c_isnn, t_bl, t_int, t_non, vseq_t, vseq_l, as_int, len_l, len_t, len_r, bi_int, bi_intb, bi_abs, bi_max2, bi_min2, bi_tup_t, bi_tup_l, bi_list_t, bi_list_l, neg_int, sl_t, sl_l, sl_r, rev_t, rev_l, lenOk_nil, lenOk_1, lenOk_2, lenOk_3, lenOk_4, lenOk_5, lenOk_6, ix_t0, ix_t1, ix_t2, ix_t3, ix_t4, ix_l0, ix_l1, ix_l2, Wp_ok, cl_int, cl_non, cl_tup, cl_lst, Q.bind_ok, Q.bind_exc, Q.bind_no, Q.of_some, Q.of_none, Q.calm_ok, if_true, if_false, Bool.false_eq_true, Bool.true_eq_false, decide_true, decide_false, Bool.not_true, Bool.not_false, Bool.and_true, Bool.true_and, Bool.and_false, Bool.false_and, Bool.or_true, Bool.or_false, Bool.true_or, Bool.false_or, Bool.not_not, not_true_eq_false, not_false_eq_true, List.map_cons, List.map_nil, List.length_map, List.take_succ_cons, List.take_zero, List.tail_cons, List.nil_append, List.cons_append, List.append_nil, asgQ, parQ, List.reduceReplicate, List.length_cons, List.length_nil, Nat.reduceSub, Nat.reduceAdd, Nat.zero_add, Wp_ok, decide_eq_true_eq, isNon, List.reverse_cons, List.reverse_nil, Bool.not_eq_true', decide_eq_false_iff_not, bne_iff_ne, ne_eq, startS, penV, h, w3, m1, m2]
    exact fin d sd
/-- a drawn part of a list or tuple -/
theorem one_of_ok (D : D_law_one_of tab kt ix) {K : Nat} (hK : 3 ≤ K) {p x : W} (hp : PenOk p) {ws : List W} (hx : x = .lst ws ∨ x = .tup ws) (h0 : ws ≠ []) (hl : ws.length < 10 ^ 18) :
    Wp (vcallN tab kt K (ix n_law_one_of) [p, x]) fun w o => w ∈ ws ∧ ∃ p', o = [some p', some x] ∧ PenOk p' := by
  obtain ⟨K, rfl⟩ : ∃ k, K = k + 1 := ⟨K - 1, by omega⟩
  rw [D.me.enter rfl]
  have hpos : 0 < ws.length := by cases ws with | nil => exact absurd rfl h0 | cons _ _ => simp
  obtain ⟨w, o, e, i, p', rfl, h1, h2, rfl, hp'⟩ := (draw_ok D.c_law_draw (K := K) (by omega) hp (b := (ws.length : Int)) (by omega) (by omega)).get
  have hi : i.toNat < ws.length := by omega
  have el : biV' .len [x] = some (.int ws.length) := by rcases hx with rfl | rfl <;> rfl
  have es : vseq x = some ws := by rcases hx with rfl | rfl <;> rfl
  have ei := ix_at es h1 (List.getElem?_eq_getElem hi)
  simp only [sh_law_one_of, getS_z, getS_s, setS_z, setS_s, wipe_n, wipe_c, rest_n, rest_c, asg_nm, asg_nil, asg_cons, par_nil, par_cons, vE_v, vE_c, vE_bin, vE_neg, vE_cmp, vE_chain, vE_and, vE_or, vE_not, vE_ite, vE_call, vE_bi, vE_isi, vE_mt, vE_tup, vE_lst, vE_ix, vE_sl, vE_rev, vE_lrg, vE_lc, vT_and, vT_or, vT_not, vT_cmp, vT_chain, vT_v, vT_c, vT_call, vT_bi, vT_isi, vT_ix, vC_nil, vC_cons, vs_nil, vs_cons, vA_t, vA_f, vA_n, vO_nil, vO_cons, vI_seq, vI_rng1, vI_rng2, vI_enum, vI_zip, vX_skip, vX_sq, vX_asg, vX_par, vX_seti, vX_seti2, vX_ex, vX_ret, vX_retn, vX_ite, vX_for, vX_brk, vX_cnt, vthen_nx, vthen_rt, vthen_bk, vthen_ct, vgo_nx, vgo_ct, vgo_bk, vgo_rt, fin_rt, fin_nx, back_ok, wb_t, wb_f, wb_n, wb_e, hdS_c, b_add, b_sub, c_lt, c_le, c_gt, c_ge, c_eqi, c_nei, c_nes, c_eqs, c_isn, c_isnn, t_bl, t_int, t_non, vseq_t, vseq_l, as_int, len_l, len_t, len_r, bi_int, bi_intb, bi_abs, bi_max2, bi_min2, bi_tup_t, bi_tup_l, bi_list_t, bi_list_l, neg_int, sl_t, sl_l, sl_r, rev_t, rev_l, lenOk_nil, lenOk_1, lenOk_2, lenOk_3, lenOk_4, lenOk_5, lenOk_6, ix_t0, ix_t1, ix_t2, ix_t3, ix_t4, ix_l0, ix_l1, ix_l2, Wp_ok, cl_int, cl_non, cl_tup, cl_lst, Q.bind_ok, Q.bind_exc, Q.bind_no, Q.of_some, Q.of_none, Q.calm_ok, if_true, if_false, Bool.false_eq_true, Bool.true_eq_false, decide_true, decide_false, Bool.not_true, Bool.not_false, Bool.and_true, Bool.true_and, Bool.and_false, Bool.false_and, Bool.or_true, Bool.or_false, Bool.true_or, Bool.false_or, Bool.not_not, not_true_eq_false, not_false_eq_true, List.map_cons, List.map_nil, List.length_map, List.take_succ_cons, List.take_zero, List.tail_cons, List.nil_append, List.cons_append, List.append_nil, asgQ, parQ, List.reduceReplicate, List.length_cons, List.length_nil, Nat.reduceSub, Nat.reduceAdd, Nat.zero_add, Wp_ok, decide_eq_true_eq, isNon, List.reverse_cons, List.reverse_nil, Bool.not_eq_true', decide_eq_false_iff_not, bne_iff_ne, ne_eq, startS, D.c_law_draw.me.iof, k_law_draw, Kd.io, el, e, ei]
  exact ⟨List.getElem_mem hi, p', rfl, hp'⟩
end Vm
end

section
set_option linter.all false
/-! Places that ways join: plain lists. -/
namespace Wq
theorem le_of_sub {α : Type} [DecidableEq α] : ∀ {l m : List α}, l.Nodup → (∀ x ∈ l, x ∈ m) → l.length ≤ m.length
  | [], m, _, _ => Nat.zero_le _
  | a :: l, m, nd, h => by
    have ha := h a List.mem_cons_self
    have nd' := List.nodup_cons.mp nd
    have ih := le_of_sub (l := l) (m := m.erase a) nd'.2 fun x hx => by
      have hne : x ≠ a := fun e => nd'.1 (e ▸ hx)
      exact (List.mem_erase_of_ne hne).mpr (h x (List.mem_cons_of_mem _ hx))
    rw [List.length_erase_of_mem ha] at ih
    have : 0 < m.length := List.length_pos_of_mem ha
    simp only [List.length_cons]
    omega
theorem same_len {α : Type} [DecidableEq α] {l m : List α} (nl : l.Nodup) (nm : m.Nodup) (h : ∀ x, x ∈ l ↔ x ∈ m) : l.length = m.length :=
  Nat.le_antisymm (le_of_sub nl fun x hx => (h x).mp hx) (le_of_sub nm fun x hx => (h x).mpr hx)
def below (n : Nat) : List Int := (List.range n).map Int.ofNat
theorem mem_below {n : Nat} {x : Int} : x ∈ below n ↔ 0 ≤ x ∧ x < n := by
  unfold below
  rw [List.mem_map]
  constructor
  · rintro ⟨i, hi, rfl⟩
    rw [List.mem_range] at hi
    exact ⟨Int.natCast_nonneg i, Int.ofNat_lt.mpr hi⟩
  · rintro ⟨h0, h1⟩
    exact ⟨x.toNat, List.mem_range.mpr (by omega), Int.toNat_of_nonneg h0⟩
theorem len_below (n : Nat) : (below n).length = n := by simp [below]
theorem nodup_len {n : Nat} {l : List Int} (nd : l.Nodup) (h : ∀ x ∈ l, 0 ≤ x ∧ x < n) : l.length ≤ n := by
  rw [← len_below n]
  exact le_of_sub nd fun x hx => mem_below.mpr (h x hx)
theorem nodup_snoc {l : List Int} {y : Int} (nd : l.Nodup) (h : y ∉ l) : (l ++ [y]).Nodup := by
  rw [List.nodup_append]
  exact ⟨nd, by simp, fun a ha b hb => by rw [List.mem_singleton.mp hb]; intro z; exact h (z ▸ ha)⟩
/-! ### joined places -/
def Adj (E : List (Int × Int)) (a b : Int) : Prop := (a, b) ∈ E ∨ (b, a) ∈ E
inductive Rch (E : List (Int × Int)) (x : Int) : Int → Prop
  | refl : Rch E x x
  | step {a b : Int} : Rch E x a → Adj E a b → Rch E x b
def Closed (E : List (Int × Int)) (f : List Int) : Prop := ∀ a ∈ f, ∀ b, Adj E a b → b ∈ f
theorem all_in {E : List (Int × Int)} {x : Int} {f : List Int} (hx : x ∈ f) (c : Closed E f) {y : Int} (r : Rch E x y) : y ∈ f := by
  induction r with
  | refl => exact hx
  | step _ ad ih => exact c _ ih _ ad
/-! ### one way after another, from a place -/
def st2 (here : Int) (st : List Int × List Int) (e f : Int) : List Int × List Int := if e = here ∧ f ∉ st.1 then (st.1 ++ [f], st.2 ++ [f]) else st
def scan1 (here : Int) (st : List Int × List Int) (p : Int × Int) : List Int × List Int := st2 here (st2 here st p.1 p.2) p.2 p.1
theorem st2_ok (here : Int) (st : List Int × List Int) (e f : Int) : ∃ new, st2 here st e f = (st.1 ++ new, st.2 ++ new) ∧ (st.1.Nodup → (st.1 ++ new).Nodup) ∧ (∀ y ∈ new, e = here ∧ y = f) ∧ (e = here → f ∈ st.1 ++ new) := by
  unfold st2
  by_cases h : e = here ∧ f ∉ st.1
  · rw [if_pos h]
    exact ⟨[f], rfl, fun nd => nodup_snoc nd h.2, fun y hy => ⟨h.1, List.mem_singleton.mp hy⟩, fun _ => by simp⟩
  · rw [if_neg h]
    refine ⟨[], by simp, fun nd => by simpa using nd, by simp, fun he => ?_⟩
    simp only [not_and, Decidable.not_not] at h
    simpa using h he
theorem scan_ok (here : Int) : ∀ (E : List (Int × Int)) (st : List Int × List Int), ∃ new, E.foldl (scan1 here) st = (st.1 ++ new, st.2 ++ new) ∧ (st.1.Nodup → (st.1 ++ new).Nodup) ∧ (∀ y ∈ new, Adj E here y) ∧ (∀ p ∈ E, (p.1 = here → p.2 ∈ st.1 ++ new) ∧ (p.2 = here → p.1 ∈ st.1 ++ new))
  | [], st => ⟨[], by simp, fun nd => by simpa using nd, by simp, by simp⟩
  | p :: E, st => by
    obtain ⟨n1, e1, d1, a1, c1⟩ := st2_ok here st p.1 p.2
    obtain ⟨n2, e2, d2, a2, c2⟩ := st2_ok here (st2 here st p.1 p.2) p.2 p.1
    rw [e1] at e2 d2 c2
    obtain ⟨n3, e3, d3, a3, c3⟩ := scan_ok here E (scan1 here st p)
    have es : scan1 here st p = (st.1 ++ (n1 ++ n2), st.2 ++ (n1 ++ n2)) := by
      unfold scan1
      rw [e1, e2]
      simp
    rw [es] at e3 d3 c3
    dsimp only at e2 d2 c2 e3 d3 c3
    refine ⟨n1 ++ n2 ++ n3, ?_, fun nd => ?_, fun y hy => ?_, fun q hq => ?_⟩
    · rw [List.foldl_cons, es, e3]
      simp
    · have := d3 (by have := d2 (d1 nd); simpa using this)
      simpa using this
    · rcases List.mem_append.mp hy with hy | hy
      · rcases List.mem_append.mp hy with hy | hy
        · obtain ⟨h1, rfl⟩ := a1 y hy
          exact .inl (by rw [← h1]; exact List.mem_cons_self)
        · obtain ⟨h1, rfl⟩ := a2 y hy
          exact .inr (by rw [← h1]; exact List.mem_cons_self)
      · rcases a3 y hy with z | z
        · exact .inl (List.mem_cons_of_mem _ z)
        · exact .inr (List.mem_cons_of_mem _ z)
    · rcases List.mem_cons.mp hq with rfl | hq
      · refine ⟨fun h => ?_, fun h => ?_⟩
        · have z := List.mem_append_left (n2 ++ n3) (c1 h)
          rw [List.append_assoc] at z
          rw [List.append_assoc]
          exact z
        · have z := List.mem_append_left n3 (c2 h)
          rw [List.append_assoc st.1] at z
          rw [← List.append_assoc]
          exact z
      · have := c3 q hq
        simp only [List.append_assoc] at this ⊢
        exact this
/-- what stands while places wait -/
structure Wait (E : List (Int × Int)) (x : Int) (N : Nat) (f w : List Int) : Prop where
  nd : f.Nodup
  here : x ∈ f
  sub : ∀ a ∈ w, a ∈ f
  done : ∀ a ∈ f, a ∉ w → ∀ b, Adj E a b → b ∈ f
  rch : ∀ y ∈ f, Rch E x y
  low : ∀ y ∈ f, 0 ≤ y ∧ y < N
theorem Wait.start {E : List (Int × Int)} {x : Int} {N : Nat} (h : 0 ≤ x ∧ x < N) : Wait E x N [x] [x] :=
  ⟨by simp, by simp, by simp, fun a h1 h2 => absurd h1 h2, fun y hy => by rw [List.mem_singleton.mp hy]; exact .refl, fun y hy => by rw [List.mem_singleton.mp hy]; exact h⟩
theorem Wait.scan {E : List (Int × Int)} {x : Int} {N : Nat} {f w : List Int} {here : Int} (q : Wait E x N f (w ++ [here])) (hE : ∀ p ∈ E, (0 ≤ p.1 ∧ p.1 < N) ∧ (0 ≤ p.2 ∧ p.2 < N)) :
    ∃ new, E.foldl (scan1 here) (f, w) = (f ++ new, w ++ new) ∧ Wait E x N (f ++ new) (w ++ new) ∧ (w ++ new).length + 2 * (N - (f ++ new).length) < (w ++ [here]).length + 2 * (N - f.length) := by
  obtain ⟨new, e, d, a, c⟩ := scan_ok here E (f, w)
  dsimp only at e d c
  have low : ∀ y ∈ f ++ new, 0 ≤ y ∧ y < N := fun y hy => by
    rcases List.mem_append.mp hy with hy | hy
    · exact q.low y hy
    · rcases a y hy with z | z
      · exact (hE _ z).2
      · exact (hE _ z).1
  have nl := nodup_len (d q.nd) low
  refine ⟨new, e, ⟨d q.nd, List.mem_append_left _ q.here, fun y hy => ?_, fun y hy hn b ad => ?_, fun y hy => ?_, low⟩, ?_⟩
  · rcases List.mem_append.mp hy with hy | hy
    · exact List.mem_append_left _ (q.sub y (List.mem_append_left _ hy))
    · exact List.mem_append_right _ hy
  · simp only [List.mem_append, not_or] at hn
    rcases List.mem_append.mp hy with hy | hy
    · by_cases hh : y = here
      · subst hh
        rcases ad with z | z
        · exact (c _ z).1 rfl
        · exact (c _ z).2 rfl
      · exact List.mem_append_left _ (q.done y hy (by simp [hn.1, hh]) b ad)
    · exact absurd hy hn.2
  · rcases List.mem_append.mp hy with hy | hy
    · exact q.rch y hy
    · exact .step (q.rch here (q.sub here (by simp))) (a y hy)
  · simp only [List.length_append, List.length_cons, List.length_nil] at nl ⊢
    omega
theorem Wait.fin {E : List (Int × Int)} {x : Int} {N : Nat} {f : List Int} (q : Wait E x N f []) (y : Int) : y ∈ f ↔ Rch E x y :=
  ⟨q.rch y, fun r => all_in q.here (fun a ha b ad => q.done a ha (by simp) b ad) r⟩
/-! ### round after round -/
def eL (f : List Int) (a b : Int) : List Int := if a ∈ f ∧ b ∉ f then f ++ [b] else f
def edgeL (f : List Int) (p : Int × Int) : List Int := eL (eL f p.1 p.2) p.2 p.1
def roundL (E : List (Int × Int)) (f : List Int) : List Int := E.foldl edgeL f
theorem eL_ok (f : List Int) (a b : Int) : ∃ new, eL f a b = f ++ new ∧ (f.Nodup → (f ++ new).Nodup) ∧ (∀ y ∈ new, a ∈ f ∧ y = b) ∧ (new = [] → a ∈ f → b ∈ f) := by
  unfold eL
  by_cases h : a ∈ f ∧ b ∉ f
  · rw [if_pos h]
    exact ⟨[b], rfl, fun nd => nodup_snoc nd h.2, fun y hy => ⟨h.1, List.mem_singleton.mp hy⟩, fun z => by cases z⟩
  · rw [if_neg h]
    refine ⟨[], by simp, fun nd => by simpa using nd, by simp, fun _ ha => ?_⟩
    simp only [not_and, Decidable.not_not] at h
    exact h ha
theorem round_ok {x : Int} {E0 : List (Int × Int)} : ∀ (E : List (Int × Int)) (f : List Int), (∀ p ∈ E, p ∈ E0) → (∀ y ∈ f, Rch E0 x y) → ∃ new, E.foldl edgeL f = f ++ new ∧ (f.Nodup → (f ++ new).Nodup) ∧ (∀ y ∈ f ++ new, Rch E0 x y) ∧ (new = [] → ∀ p ∈ E, (p.1 ∈ f → p.2 ∈ f) ∧ (p.2 ∈ f → p.1 ∈ f))
  | [], f, _, hr => ⟨[], by simp, fun nd => by simpa using nd, by simpa using hr, by simp⟩
  | p :: E, f, hE, hr => by
    obtain ⟨n1, e1, d1, a1, c1⟩ := eL_ok f p.1 p.2
    obtain ⟨n2, e2, d2, a2, c2⟩ := eL_ok (f ++ n1) p.2 p.1
    have hp := hE p List.mem_cons_self
    have r1 : ∀ y ∈ f ++ n1, Rch E0 x y := fun y hy => by
      rcases List.mem_append.mp hy with hy | hy
      · exact hr y hy
      · obtain ⟨h1, rfl⟩ := a1 y hy
        exact .step (hr _ h1) (.inl hp)
    have r2 : ∀ y ∈ f ++ n1 ++ n2, Rch E0 x y := fun y hy => by
      rcases List.mem_append.mp hy with hy | hy
      · exact r1 y hy
      · obtain ⟨h1, rfl⟩ := a2 y hy
        exact .step (r1 _ h1) (.inr hp)
    have es : edgeL f p = f ++ n1 ++ n2 := by
      unfold edgeL
      rw [e1, e2]
    obtain ⟨n3, e3, d3, a3, c3⟩ := round_ok E (f ++ n1 ++ n2) (fun q hq => hE q (List.mem_cons_of_mem _ hq)) r2
    refine ⟨n1 ++ n2 ++ n3, ?_, fun nd => ?_, ?_, fun z q hq => ?_⟩
    · rw [List.foldl_cons, es, e3]
      simp
    · have := d3 (d2 (d1 nd))
      simpa using this
    · simpa using a3
    · simp only [List.append_eq_nil_iff] at z
      obtain ⟨⟨z1, z2⟩, z3⟩ := z
      rcases List.mem_cons.mp hq with rfl | hq
      · refine ⟨c1 z1, fun h => ?_⟩
        have := c2 z2 (by rw [z1]; simpa using h)
        rw [z1] at this
        simpa using this
      · have := c3 z3 q hq
        rw [z1, z2] at this
        simpa using this
def rounds (E : List (Int × Int)) (f : List Int) : Nat → List Int
  | 0 => f
  | n + 1 => roundL E (rounds E f n)
theorem rounds_ok {E : List (Int × Int)} {x : Int} {N : Nat} (h : 0 ≤ x ∧ x < N) (hE : ∀ p ∈ E, (0 ≤ p.1 ∧ p.1 < N) ∧ (0 ≤ p.2 ∧ p.2 < N)) : ∀ n, (rounds E [x] n).Nodup ∧ x ∈ rounds E [x] n ∧ (∀ y ∈ rounds E [x] n, Rch E x y) ∧ (Closed E (rounds E [x] n) ∨ n + 1 ≤ (rounds E [x] n).length)
  | 0 => ⟨by simp [rounds], by simp [rounds], fun y hy => by rw [List.mem_singleton.mp (show y ∈ [x] from hy)]; exact .refl, .inr (by simp [rounds])⟩
  | n + 1 => by
    obtain ⟨nd, hx, hr, hc⟩ := rounds_ok h hE n
    obtain ⟨new, e, d, a, c⟩ := round_ok E (rounds E [x] n) (fun p hp => hp) hr
    have e : rounds E [x] (n + 1) = rounds E [x] n ++ new := e
    rw [e]
    refine ⟨d nd, List.mem_append_left _ hx, a, ?_⟩
    rcases hc with hc | hc
    · exact .inl fun y hy b ad => List.mem_append_left _ (all_in hx hc (.step (a y hy) ad))
    · cases new with
      | nil =>
        refine .inl fun y hy b ad => ?_
        rw [List.append_nil] at hy ⊢
        rcases ad with z | z
        · exact (c rfl _ z).1 hy
        · exact (c rfl _ z).2 hy
      | cons y ys =>
        refine .inr ?_
        simp only [List.length_append, List.length_cons]
        omega
theorem rch_low {E : List (Int × Int)} {x : Int} {N : Nat} (h : 0 ≤ x ∧ x < N) (hE : ∀ p ∈ E, (0 ≤ p.1 ∧ p.1 < N) ∧ (0 ≤ p.2 ∧ p.2 < N)) {y : Int} (r : Rch E x y) : 0 ≤ y ∧ y < N := by
  induction r with
  | refl => exact h
  | step _ ad _ =>
    rcases ad with z | z
    · exact (hE _ z).2
    · exact (hE _ z).1
theorem rounds_fin {E : List (Int × Int)} {x : Int} {N n : Nat} (h : 0 ≤ x ∧ x < N) (hE : ∀ p ∈ E, (0 ≤ p.1 ∧ p.1 < N) ∧ (0 ≤ p.2 ∧ p.2 < N)) (hn : N ≤ n) (y : Int) : y ∈ rounds E [x] n ↔ Rch E x y := by
  obtain ⟨nd, hx, hr, hc⟩ := rounds_ok h hE n
  refine ⟨hr y, fun r => ?_⟩
  rcases hc with hc | hc
  · exact all_in hx hc r
  · have := nodup_len nd fun z hz => rch_low h hE (hr z hz)
    omega
end Wq
end

section
set_option Elab.async false
set_option linter.all false
set_option maxRecDepth 100000
set_option maxHeartbeats 4000000
/-! Drawn mines. -/
namespace Vm
open PySem Wm
variable {tab : List Fn} {kt : List Ki} {ix : Nat → Nat}
def pairW (p : Int × Int) : W := .tup [.int p.1, .int p.2]
theorem pairW_inj (a b : Int × Int) (h : pairW a = pairW b) : a = b := by
  simp only [pairW, W.tup.injEq, List.cons.injEq, W.int.injEq, and_true] at h
  exact Prod.ext h.1 h.2
structure Mine where
  n : Int
  E : List (Int × Int)
  i : Int
  o : Int
def Mine.v (m : Mine) : W := .tup [.int m.n, .tup (m.E.map pairW), .int m.i, .int m.o]
/-- a way of places below n -/
def wayOk (n : Int) (p : Int × Int) : Prop := 0 ≤ p.1 ∧ p.1 < n ∧ 0 ≤ p.2 ∧ p.2 < n ∧ p.1 ≠ p.2
structure Mine.Ok (m : Mine) : Prop where
  n2 : 2 ≤ m.n
  n8 : m.n ≤ 8
  e1 : 1 ≤ m.E.length
  e12 : m.E.length ≤ 12
  ways : ∀ p ∈ m.E, wayOk m.n p
  i0 : 0 ≤ m.i
  i1 : m.i < m.n
  o0 : 0 ≤ m.o
  o1 : m.o < m.n
  io : m.i ≠ m.o
abbrev Adj := Wq.Adj
abbrev Reach := Wq.Rch
theorem Adj_symm {E : List (Int × Int)} {a b : Int} (h : Adj E a b) : Adj E b a := Or.symm h
theorem Reach_trans {E : List (Int × Int)} {a b c : Int} (h : Reach E a b) (k : Reach E b c) : Reach E a c := by
  induction k with
  | refl => exact h
  | step _ e ih => exact ih.step e
theorem Reach_symm {E : List (Int × Int)} {a b : Int} (h : Reach E a b) : Reach E b a := by
  induction h with
  | refl => exact .refl
  | step _ e ih => exact Reach_trans (Wq.Rch.step .refl (Adj_symm e)) ih
theorem Adj_mono {E E' : List (Int × Int)} (s : ∀ p ∈ E, p ∈ E') {a b : Int} (h : Adj E a b) : Adj E' a b := Or.imp (s _) (s _) h
theorem Reach_mono {E E' : List (Int × Int)} (s : ∀ p ∈ E, p ∈ E') {a b : Int} (h : Reach E a b) : Reach E' a b := by
  induction h with
  | refl => exact .refl
  | step _ e ih => exact ih.step (Adj_mono s e)
/-- every place is reached -/
def Mine.Joined (m : Mine) : Prop := ∀ x, 0 ≤ x → x < m.n → Reach m.E m.i x
theorem mod_other {one d n : Int} (h0 : 0 ≤ one) (h1 : one < n) (h2 : 0 ≤ d) (h3 : d < n - 1) : 0 ≤ (one + 1 + d) % n ∧ (one + 1 + d) % n < n ∧ one ≠ (one + 1 + d) % n := by
  have hn : 0 < n := by omega
  have a := Int.emod_nonneg (one + 1 + d) (show n ≠ 0 by omega)
  have b := Int.emod_lt_of_pos (one + 1 + d) hn
  refine ⟨a, b, ?_⟩
  by_cases h : one + 1 + d < n
  · rw [Int.emod_eq_of_lt (by omega) h]; omega
  · have : (one + 1 + d) % n = one + 1 + d - n := by
      rw [← Int.sub_emod_right, Int.emod_eq_of_lt (by omega) (by omega)]
    omega
theorem two_ok (D : D_law_two_places tab kt ix) {K : Nat} (hK : 3 ≤ K) {p : W} (hp : PenOk p) {n : Int} (h2 : 2 ≤ n) (hn : n < 10 ^ 18) :
    Wp (vcallN tab kt K (ix n_law_two_places) [p, .int n]) fun w o => ∃ q p', w = pairW q ∧ wayOk n q ∧ o = [some p', some (.int n)] ∧ PenOk p' := by
  obtain ⟨K, rfl⟩ : ∃ k, K = k + 1 := ⟨K - 1, by omega⟩
  rw [D.me.enter rfl]
  obtain ⟨w, o, e, x, p1, rfl, h0, h1, rfl, hp1⟩ := (draw_ok D.c_law_draw (K := K) (by omega) hp (b := n) (by omega) hn).get
  obtain ⟨w, o, e2, d, p2, rfl, h3, h4, rfl, hp2⟩ := (draw_ok D.c_law_draw (K := K) (by omega) hp1 (b := n - 1) (by omega) (by omega)).get
  obtain ⟨q1, q2, q3⟩ := mod_other h0 h1 h3 h4
  have m1 : binV .mod (.int (x + 1 + d)) (.int n) = some (.int ((x + 1 + d) % n)) := b_mod (by omega)
  simp only [sh_law_two_places, getS_z, getS_s, setS_z, setS_s, wipe_n, wipe_c, rest_n, rest_c, asg_nm, asg_nil, asg_cons, par_nil, par_cons, vE_v, vE_c, vE_bin, vE_neg, vE_cmp, vE_chain, vE_and, vE_or, vE_not, vE_ite, vE_call, vE_bi, vE_isi, vE_mt, vE_tup, vE_lst, vE_ix, vE_sl, vE_rev, vE_lrg, vE_lc, vT_and, vT_or, vT_not, vT_cmp, vT_chain, vT_v, vT_c, vT_call, vT_bi, vT_isi, vT_ix, vC_nil, vC_cons, vs_nil, vs_cons, vA_t, vA_f, vA_n, vO_nil, vO_cons, vI_seq, vI_rng1, vI_rng2, vI_enum, vI_zip, vX_skip, vX_sq, vX_asg, vX_par, vX_seti, vX_seti2, vX_ex, vX_ret, vX_retn, vX_ite, vX_for, vX_brk, vX_cnt, vthen_nx, vthen_rt, vthen_bk, vthen_ct, vgo_nx, vgo_ct, vgo_bk, vgo_rt, fin_rt, fin_nx, back_ok, wb_t, wb_f, wb_n, wb_e, hdS_c, b_add, b_sub, c_lt, c_le, c_gt, c_ge, c_eqi, c_nei, c_nes, c_eqs, c_isn, c_isnn, t_bl, t_int, t_non, vseq_t, vseq_l, as_int, len_l, len_t, len_r, bi_int, bi_intb, bi_abs, bi_max2, bi_min2, bi_tup_t, bi_tup_l, bi_list_t, bi_list_l, neg_int, sl_t, sl_l, sl_r, rev_t, rev_l, lenOk_nil, lenOk_1, lenOk_2, lenOk_3, lenOk_4, lenOk_5, lenOk_6, ix_t0, ix_t1, ix_t2, ix_t3, ix_t4, ix_l0, ix_l1, ix_l2, Wp_ok, cl_int, cl_non, cl_tup, cl_lst, Q.bind_ok, Q.bind_exc, Q.bind_no, Q.of_some, Q.of_none, Q.calm_ok, if_true, if_false, Bool.false_eq_true, Bool.true_eq_false, decide_true, decide_false, Bool.not_true, Bool.not_false, Bool.and_true, Bool.true_and, Bool.and_false, Bool.false_and, Bool.or_true, Bool.or_false, Bool.true_or, Bool.false_or, Bool.not_not, not_true_eq_false, not_false_eq_true, List.map_cons, List.map_nil, List.length_map, List.take_succ_cons, List.take_zero, List.tail_cons, List.nil_append, List.cons_append, List.append_nil, asgQ, parQ, List.reduceReplicate, List.length_cons, List.length_nil, Nat.reduceSub, Nat.reduceAdd, Nat.zero_add, Wp_ok, decide_eq_true_eq, isNon, List.reverse_cons, List.reverse_nil, Bool.not_eq_true', decide_eq_false_iff_not, bne_iff_ne, ne_eq, startS, D.c_law_draw.me.iof, k_law_draw, Kd.io, e, e2, m1]
  exact ⟨(x, (x + 1 + d) % n), p2, rfl, ⟨h0, h1, q1, q2, q3⟩, rfl, hp2⟩

theorem rng_at {n : Nat} : ∀ {lo : Int} {pre rest : List Int} {x : Int}, rngZ lo n = pre ++ x :: rest → x = lo + pre.length ∧ pre.length < n := by
  induction n with
  | zero => intro lo pre rest x e; cases pre <;> cases e
  | succ n ih =>
    intro lo pre rest x e
    cases pre with
    | nil => simp only [rngZ, List.nil_append, List.cons.injEq] at e; exact ⟨by simp [e.1], by simp⟩
    | cons a pre =>
      simp only [rngZ, List.cons_append, List.cons.injEq] at e
      obtain ⟨h1, h2⟩ := ih e.2
      simp only [List.length_cons]
      exact ⟨by omega, by omega⟩
theorem enc_snoc {α : Type} (enc : α → W) (l : List α) (x : α) : l.map enc ++ [enc x] = (l ++ [x]).map enc := by simp
theorem mine_ok (D : D_law_mine tab kt ix) {K : Nat} (hK : 4 ≤ K) {p : W} (hp : PenOk p) {most many : Int} (h2 : 2 ≤ most) (h8 : most ≤ 8) (hm : 1 ≤ many) (hm2 : many ≤ 12) :
    Wp (vcallN tab kt K (ix n_law_mine) [p, .int most, .int many]) fun w o => ∃ m p', w = Mine.v m ∧ m.Ok ∧ m.Joined ∧ m.n ≤ max 3 most ∧ (m.E.length : Int) ≤ many ∧ m.n ≤ many + 1 ∧ o = [some p', some (.int most), some (.int many)] ∧ PenOk p' := by
  obtain ⟨K, rfl⟩ : ∃ k, K = k + 1 := ⟨K - 1, by omega⟩
  rw [D.me.enter rfl]
  obtain ⟨w, o, e1, d, p1, rfl, d0, d1, rfl, hp1⟩ := (draw_ok D.c_law_draw (K := K) (by omega) hp (b := most - 1) (by omega) (by omega)).get
  obtain ⟨w, o, e2, hw, p2, rfl, hp2⟩ := (one_of_ok D.c_law_one_of (K := K) (by omega) hp1 (x := .lst [.int 2, .int 3, .int most, .int most, .int (2 + d)]) (.inl rfl) (by simp) (by simp)).get
  obtain ⟨pl, rfl, g2, g3⟩ : ∃ pl, w = .int pl ∧ 2 ≤ pl ∧ pl ≤ max 3 most := by
    simp only [List.mem_cons, List.not_mem_nil, or_false] at hw
    rcases hw with rfl | rfl | rfl | rfl | rfl
    · exact ⟨2, rfl, by omega, by omega⟩
    · exact ⟨3, rfl, by omega, by omega⟩
    · exact ⟨most, rfl, by omega, by omega⟩
    · exact ⟨most, rfl, by omega, by omega⟩
    · exact ⟨2 + d, rfl, by omega, by omega⟩
  obtain ⟨n, hn⟩ : ∃ n, (if many + 1 < pl then many + 1 else pl) = n := ⟨_, rfl⟩
  have n2 : 2 ≤ n := by rw [← hn]; split <;> omega
  have n3 : n ≤ max 3 most := by rw [← hn]; split <;> omega
  have n4 : n ≤ many + 1 := by rw [← hn]; split <;> omega
  have r1 := rngQ2_ok (a := 1) (b := n) (by omega) (by omega) (by omega) (by omega)
  apply Wp_fin
  simp only [sh_law_mine, getS_z, getS_s, setS_z, setS_s, wipe_n, wipe_c, rest_n, rest_c, asg_nm, asg_nil, asg_cons, par_nil, par_cons, vE_v, vE_c, vE_bin, vE_neg, vE_cmp, vE_chain, vE_and, vE_or, vE_not, vE_ite, vE_call, vE_bi, vE_isi, vE_mt, vE_tup, vE_lst, vE_ix, vE_sl, vE_rev, vE_lrg, vE_lc, vT_and, vT_or, vT_not, vT_cmp, vT_chain, vT_v, vT_c, vT_call, vT_bi, vT_isi, vT_ix, vC_nil, vC_cons, vs_nil, vs_cons, vA_t, vA_f, vA_n, vO_nil, vO_cons, vI_seq, vI_rng1, vI_rng2, vI_enum, vI_zip, vX_skip, vX_sq, vX_asg, vX_par, vX_seti, vX_seti2, vX_ex, vX_ret, vX_retn, vX_ite, vX_for, vX_brk, vX_cnt, vthen_nx, vthen_rt, vthen_bk, vthen_ct, vgo_nx, vgo_ct, vgo_bk, vgo_rt, fin_rt, fin_nx, back_ok, wb_t, wb_f, wb_n, wb_e, hdS_c, b_add, b_sub, c_lt, c_le, c_gt, c_ge, c_eqi, c_nei, c_nes, c_eqs, c_isn, c_isnn, t_bl, t_int, t_non, vseq_t, vseq_l, as_int, len_l, len_t, len_r, bi_int, bi_intb, bi_abs, bi_max2, bi_min2, bi_tup_t, bi_tup_l, bi_list_t, bi_list_l, neg_int, sl_t, sl_l, sl_r, rev_t, rev_l, lenOk_nil, lenOk_1, lenOk_2, lenOk_3, lenOk_4, lenOk_5, lenOk_6, ix_t0, ix_t1, ix_t2, ix_t3, ix_t4, ix_l0, ix_l1, ix_l2, Wp_ok, cl_int, cl_non, cl_tup, cl_lst, Q.bind_ok, Q.bind_exc, Q.bind_no, Q.of_some, Q.of_none, Q.calm_ok, if_true, if_false, Bool.false_eq_true, Bool.true_eq_false, decide_true, decide_false, Bool.not_true, Bool.not_false, Bool.and_true, Bool.true_and, Bool.and_false, Bool.false_and, Bool.or_true, Bool.or_false, Bool.true_or, Bool.false_or, Bool.not_not, not_true_eq_false, not_false_eq_true, List.map_cons, List.map_nil, List.length_map, List.take_succ_cons, List.take_zero, List.tail_cons, List.nil_append, List.cons_append, List.append_nil, asgQ, parQ, List.reduceReplicate, List.length_cons, List.length_nil, Nat.reduceSub, Nat.reduceAdd, Nat.zero_add, Wp_ok, decide_eq_true_eq, isNon, List.reverse_cons, List.reverse_nil, Bool.not_eq_true', decide_eq_false_iff_not, bne_iff_ne, ne_eq, startS, D.c_law_draw.me.iof, k_law_draw, D.c_law_one_of.me.iof, k_law_one_of, Kd.io, e1, e2, hn, r1]
  -- the tree
  refine Wp.step (for_inv (enc := W.int) (fun (pre : List Int) s => ∃ (p : W) (E : List (Int × Int)), s = [some p, some (.int most), some (.int many), some (.int n), none, none, some (.lst (E.map pairW)), none, none, none] ∧ PenOk p ∧ E.length = pre.length ∧ (∀ q ∈ E, wayOk n q) ∧ ∀ y : Int, 0 ≤ y → y ≤ (pre.length : Int) → Reach E 0 y) (rngZ 1 (n - 1).toNat)
    (post := fun q s => q = .nx ∧ ∃ (p : W) (E : List (Int × Int)), s = [some p, some (.int most), some (.int many), some (.int n), none, none, some (.lst (E.map pairW)), none, none, none] ∧ PenOk p ∧ (E.length : Int) = n - 1 ∧ (∀ q ∈ E, wayOk n q) ∧ ∀ y : Int, 0 ≤ y → y < n → Reach E 0 y) ?_ ?_ _ ?_) ?_
  · rintro pre x rest s hl ⟨p, E, rfl, hp, hE, hw, hr⟩
    obtain ⟨hx, hx2⟩ := rng_at hl
    refine ⟨_, rfl, ?_⟩
    obtain ⟨w, o, e3, y, p3, rfl, y0, y1, rfl, hp3⟩ := (draw_ok D.c_law_draw (K := K) (by omega) hp (b := x) (by omega) (by omega)).get
    obtain ⟨w, o, e4, z, p4, rfl, z0, z1, rfl, hp4⟩ := (draw_ok D.c_law_draw (K := K) (by omega) hp3 (b := 2) (by omega) (by omega)).get
    simp only [vX_fgt]
    unfold sb_law_mine_0
    have fin : ∀ q : Int × Int, (q = (x, y) ∨ q = (y, x)) → ∃ p' E', ([some p4, some (.int most), some (.int many), some (.int n), none, none, some (.lst (E.map pairW ++ [pairW q])), none, none, none] : Sl) = [some p', some (.int most), some (.int many), some (.int n), none, none, some (.lst (E'.map pairW)), none, none, none] ∧ PenOk p' ∧ E'.length = (pre ++ [x]).length ∧ (∀ q ∈ E', wayOk n q) ∧ ∀ y : Int, 0 ≤ y → y ≤ ((pre ++ [x]).length : Int) → Reach E' 0 y := fun q hq => by
      have mono : ∀ r ∈ E, r ∈ E ++ [q] := fun r hr => List.mem_append_left _ hr
      refine ⟨p4, E ++ [q], by rw [enc_snoc], hp4, by simp [hE], fun r hr' => ?_, fun v hv hv2 => ?_⟩
      · rcases List.mem_append.mp hr' with h | h
        · exact hw r h
        · rw [List.mem_singleton.mp h]
          unfold wayOk
          rcases hq with rfl | rfl <;> (dsimp only; omega)
      · simp only [List.length_append, List.length_singleton] at hv2
        by_cases hv3 : v ≤ (pre.length : Int)
        · exact Reach_mono mono (hr v hv hv3)
        · have : v = x := by omega
          subst this
          refine Wq.Rch.step (Reach_mono mono (hr y y0 (by omega))) ?_
          rcases hq with rfl | rfl
          · exact .inr (List.mem_append_right _ (by simp))
          · exact .inl (List.mem_append_right _ (by simp))
    have ap : ∀ q : Int × Int, mtS .append 6 [pairW q] [some p4, some (.int most), some (.int many), some (.int n), some (.int x), none, some (.lst (E.map pairW)), some (pairW (x, y)), none, none] = .ok .non [some p4, some (.int most), some (.int many), some (.int n), some (.int x), none, some (.lst (E.map pairW ++ [pairW q])), some (pairW (x, y)), none, none] := fun q => mt_append (k := 6) (us := E.map pairW) rfl (by simp; omega)
    simp only [pairW] at ap fin
    by_cases hz : z = 0
    · subst hz
      simp only [getS_z, getS_s, setS_z, setS_s, wipe_n, wipe_c, rest_n, rest_c, asg_nm, asg_nil, asg_cons, par_nil, par_cons, vE_v, vE_c, vE_bin, vE_neg, vE_cmp, vE_chain, vE_and, vE_or, vE_not, vE_ite, vE_call, vE_bi, vE_isi, vE_mt, vE_tup, vE_lst, vE_ix, vE_sl, vE_rev, vE_lrg, vE_lc, vT_and, vT_or, vT_not, vT_cmp, vT_chain, vT_v, vT_c, vT_call, vT_bi, vT_isi, vT_ix, vC_nil, vC_cons, vs_nil, vs_cons, vA_t, vA_f, vA_n, vO_nil, vO_cons, vI_seq, vI_rng1, vI_rng2, vI_enum, vI_zip, vX_skip, vX_sq, vX_asg, vX_par, vX_seti, vX_seti2, vX_ex, vX_ret, vX_retn, vX_ite, vX_for, vX_brk, vX_cnt, vthen_nx, vthen_rt, vthen_bk, vthen_ct, vgo_nx, vgo_ct, vgo_bk, vgo_rt, fin_rt, fin_nx, back_ok, wb_t, wb_f, wb_n, wb_e, hdS_c, b_add, b_sub, c_lt, c_le, c_gt, c_ge, c_eqi, c_nei, c_nes, c_eqs, c_isn, c_isnn, t_bl, t_int, t_non, vseq_t, vseq_l, as_int, len_l, len_t, len_r, bi_int, bi_intb, bi_abs, bi_max2, bi_min2, bi_tup_t, bi_tup_l, bi_list_t, bi_list_l, neg_int, sl_t, sl_l, sl_r, rev_t, rev_l, lenOk_nil, lenOk_1, lenOk_2, lenOk_3, lenOk_4, lenOk_5, lenOk_6, ix_t0, ix_t1, ix_t2, ix_t3, ix_t4, ix_l0, ix_l1, ix_l2, Wp_ok, cl_int, cl_non, cl_tup, cl_lst, Q.bind_ok, Q.bind_exc, Q.bind_no, Q.of_some, Q.of_none, Q.calm_ok, if_true, if_false, Bool.false_eq_true, Bool.true_eq_false, decide_true, decide_false, Bool.not_true, Bool.not_false, Bool.and_true, Bool.true_and, Bool.and_false, Bool.false_and, Bool.or_true, Bool.or_false, Bool.true_or, Bool.false_or, Bool.not_not, not_true_eq_false, not_false_eq_true, List.map_cons, List.map_nil, List.length_map, List.take_succ_cons, List.take_zero, List.tail_cons, List.nil_append, List.cons_append, List.append_nil, asgQ, parQ, List.reduceReplicate, List.length_cons, List.length_nil, Nat.reduceSub, Nat.reduceAdd, Nat.zero_add, Wp_ok, decide_eq_true_eq, isNon, List.reverse_cons, List.reverse_nil, Bool.not_eq_true', decide_eq_false_iff_not, bne_iff_ne, ne_eq, D.c_law_draw.me.iof, k_law_draw, Kd.io, e3, e4, lstS, ap (x, y), turnP]
      exact fin (x, y) (.inl rfl)
    · simp only [getS_z, getS_s, setS_z, setS_s, wipe_n, wipe_c, rest_n, rest_c, asg_nm, asg_nil, asg_cons, par_nil, par_cons, vE_v, vE_c, vE_bin, vE_neg, vE_cmp, vE_chain, vE_and, vE_or, vE_not, vE_ite, vE_call, vE_bi, vE_isi, vE_mt, vE_tup, vE_lst, vE_ix, vE_sl, vE_rev, vE_lrg, vE_lc, vT_and, vT_or, vT_not, vT_cmp, vT_chain, vT_v, vT_c, vT_call, vT_bi, vT_isi, vT_ix, vC_nil, vC_cons, vs_nil, vs_cons, vA_t, vA_f, vA_n, vO_nil, vO_cons, vI_seq, vI_rng1, vI_rng2, vI_enum, vI_zip, vX_skip, vX_sq, vX_asg, vX_par, vX_seti, vX_seti2, vX_ex, vX_ret, vX_retn, vX_ite, vX_for, vX_brk, vX_cnt, vthen_nx, vthen_rt, vthen_bk, vthen_ct, vgo_nx, vgo_ct, vgo_bk, vgo_rt, fin_rt, fin_nx, back_ok, wb_t, wb_f, wb_n, wb_e, hdS_c, b_add, b_sub, c_lt, c_le, c_gt, c_ge, c_eqi, c_nei, c_nes, c_eqs, c_isn, c_isnn, t_bl, t_int, t_non, vseq_t, vseq_l, as_int, len_l, len_t, len_r, bi_int, bi_intb, bi_abs, bi_max2, bi_min2, bi_tup_t, bi_tup_l, bi_list_t, bi_list_l, neg_int, sl_t, sl_l, sl_r, rev_t, rev_l, lenOk_nil, lenOk_1, lenOk_2, lenOk_3, lenOk_4, lenOk_5, lenOk_6, ix_t0, ix_t1, ix_t2, ix_t3, ix_t4, ix_l0, ix_l1, ix_l2, Wp_ok, cl_int, cl_non, cl_tup, cl_lst, Q.bind_ok, Q.bind_exc, Q.bind_no, Q.of_some, Q.of_none, Q.calm_ok, if_true, if_false, Bool.false_eq_true, Bool.true_eq_false, decide_true, decide_false, Bool.not_true, Bool.not_false, Bool.and_true, Bool.true_and, Bool.and_false, Bool.false_and, Bool.or_true, Bool.or_false, Bool.true_or, Bool.false_or, Bool.not_not, not_true_eq_false, not_false_eq_true, List.map_cons, List.map_nil, List.length_map, List.take_succ_cons, List.take_zero, List.tail_cons, List.nil_append, List.cons_append, List.append_nil, asgQ, parQ, List.reduceReplicate, List.length_cons, List.length_nil, Nat.reduceSub, Nat.reduceAdd, Nat.zero_add, Wp_ok, decide_eq_true_eq, isNon, List.reverse_cons, List.reverse_nil, Bool.not_eq_true', decide_eq_false_iff_not, bne_iff_ne, ne_eq, D.c_law_draw.me.iof, k_law_draw, Kd.io, e3, e4, lstS, hz, ap (y, x), turnP]
      exact fin (y, x) (.inr rfl)
  · rintro s ⟨p, E, rfl, hp, hE, hw, hr⟩
    rw [rng_len] at hE hr
    exact ⟨rfl, p, E, rfl, hp, by omega, hw, fun y h0 h1 => hr y h0 (by omega)⟩
  · exact ⟨p2, [], rfl, hp2, rfl, by simp, fun y h0 h1 => by
      have : y = 0 := by simp only [List.length_nil] at h1; omega
      subst this; exact .refl⟩
  rintro _ s ⟨rfl, p3, E, rfl, hp3, hE, hw, hr⟩
  -- more ways
  obtain ⟨w, o, e3, l, p4, rfl, l0, l1, rfl, hp4⟩ := (draw_ok D.c_law_draw (K := K) (by omega) hp3 (b := many - (E.length : Int) + 1) (by omega) (by omega)).get
  have r2 := rngQ_ok (n := l) (by omega) (by omega)
  simp only [getS_z, getS_s, setS_z, setS_s, wipe_n, wipe_c, rest_n, rest_c, asg_nm, asg_nil, asg_cons, par_nil, par_cons, vE_v, vE_c, vE_bin, vE_neg, vE_cmp, vE_chain, vE_and, vE_or, vE_not, vE_ite, vE_call, vE_bi, vE_isi, vE_mt, vE_tup, vE_lst, vE_ix, vE_sl, vE_rev, vE_lrg, vE_lc, vT_and, vT_or, vT_not, vT_cmp, vT_chain, vT_v, vT_c, vT_call, vT_bi, vT_isi, vT_ix, vC_nil, vC_cons, vs_nil, vs_cons, vA_t, vA_f, vA_n, vO_nil, vO_cons, vI_seq, vI_rng1, vI_rng2, vI_enum, vI_zip, vX_skip, vX_sq, vX_asg, vX_par, vX_seti, vX_seti2, vX_ex, vX_ret, vX_retn, vX_ite, vX_for, vX_brk, vX_cnt, vthen_nx, vthen_rt, vthen_bk, vthen_ct, vgo_nx, vgo_ct, vgo_bk, vgo_rt, fin_rt, fin_nx, back_ok, wb_t, wb_f, wb_n, wb_e, hdS_c, b_add, b_sub, c_lt, c_le, c_gt, c_ge, c_eqi, c_nei, c_nes, c_eqs, c_isn, c_isnn, t_bl, t_int, t_non, vseq_t, vseq_l, as_int, len_l, len_t, len_r, bi_int, bi_intb, bi_abs, bi_max2, bi_min2, bi_tup_t, bi_tup_l, bi_list_t, bi_list_l, neg_int, sl_t, sl_l, sl_r, rev_t, rev_l, lenOk_nil, lenOk_1, lenOk_2, lenOk_3, lenOk_4, lenOk_5, lenOk_6, ix_t0, ix_t1, ix_t2, ix_t3, ix_t4, ix_l0, ix_l1, ix_l2, Wp_ok, cl_int, cl_non, cl_tup, cl_lst, Q.bind_ok, Q.bind_exc, Q.bind_no, Q.of_some, Q.of_none, Q.calm_ok, if_true, if_false, Bool.false_eq_true, Bool.true_eq_false, decide_true, decide_false, Bool.not_true, Bool.not_false, Bool.and_true, Bool.true_and, Bool.and_false, Bool.false_and, Bool.or_true, Bool.or_false, Bool.true_or, Bool.false_or, Bool.not_not, not_true_eq_false, not_false_eq_true, List.map_cons, List.map_nil, List.length_map, List.take_succ_cons, List.take_zero, List.tail_cons, List.nil_append, List.cons_append, List.append_nil, asgQ, parQ, List.reduceReplicate, List.length_cons, List.length_nil, Nat.reduceSub, Nat.reduceAdd, Nat.zero_add, Wp_ok, decide_eq_true_eq, isNon, List.reverse_cons, List.reverse_nil, Bool.not_eq_true', decide_eq_false_iff_not, bne_iff_ne, ne_eq, D.c_law_draw.me.iof, k_law_draw, Kd.io, e3, r2]
  refine Wp.step (for_inv (enc := W.int) (fun (pre : List Int) s => ∃ (p : W) (E' : List (Int × Int)), s = [some p, some (.int most), some (.int many), some (.int n), none, none, some (.lst (E'.map pairW)), none, none, none] ∧ PenOk p ∧ E'.length = E.length + pre.length ∧ (∀ q ∈ E', wayOk n q) ∧ ∀ q ∈ E, q ∈ E') (rngZ 0 l.toNat)
    (post := fun q s => q = .nx ∧ ∃ (p : W) (E' : List (Int × Int)), s = [some p, some (.int most), some (.int many), some (.int n), none, none, some (.lst (E'.map pairW)), none, none, none] ∧ PenOk p ∧ (E'.length : Int) ≤ many ∧ E.length ≤ E'.length ∧ (∀ q ∈ E', wayOk n q) ∧ ∀ q ∈ E, q ∈ E') ?_ ?_ _ ?_) ?_
  · rintro pre x rest s hl ⟨p, E', rfl, hp, hE', hw', hs⟩
    obtain ⟨hx, hx2⟩ := rng_at hl
    refine ⟨_, rfl, ?_⟩
    obtain ⟨w, o, e4, q, p5, rfl, hq, rfl, hp5⟩ := (two_ok D.c_law_two_places (K := K) (by omega) hp n2 (by omega)).get
    have ap := mt_append (k := 6) (x := pairW q) (s := [some p5, some (.int most), some (.int many), some (.int n), none, some (.int x), some (.lst (E'.map pairW)), none, none, none]) (us := E'.map pairW) rfl (by simp; omega)
    simp only [vX_fgt]
    unfold sb_law_mine_1
    simp only [getS_z, getS_s, setS_z, setS_s, wipe_n, wipe_c, rest_n, rest_c, asg_nm, asg_nil, asg_cons, par_nil, par_cons, vE_v, vE_c, vE_bin, vE_neg, vE_cmp, vE_chain, vE_and, vE_or, vE_not, vE_ite, vE_call, vE_bi, vE_isi, vE_mt, vE_tup, vE_lst, vE_ix, vE_sl, vE_rev, vE_lrg, vE_lc, vT_and, vT_or, vT_not, vT_cmp, vT_chain, vT_v, vT_c, vT_call, vT_bi, vT_isi, vT_ix, vC_nil, vC_cons, vs_nil, vs_cons, vA_t, vA_f, vA_n, vO_nil, vO_cons, vI_seq, vI_rng1, vI_rng2, vI_enum, vI_zip, vX_skip, vX_sq, vX_asg, vX_par, vX_seti, vX_seti2, vX_ex, vX_ret, vX_retn, vX_ite, vX_for, vX_brk, vX_cnt, vthen_nx, vthen_rt, vthen_bk, vthen_ct, vgo_nx, vgo_ct, vgo_bk, vgo_rt, fin_rt, fin_nx, back_ok, wb_t, wb_f, wb_n, wb_e, hdS_c, b_add, b_sub, c_lt, c_le, c_gt, c_ge, c_eqi, c_nei, c_nes, c_eqs, c_isn, c_isnn, t_bl, t_int, t_non, vseq_t, vseq_l, as_int, len_l, len_t, len_r, bi_int, bi_intb, bi_abs, bi_max2, bi_min2, bi_tup_t, bi_tup_l, bi_list_t, bi_list_l, neg_int, sl_t, sl_l, sl_r, rev_t, rev_l, lenOk_nil, lenOk_1, lenOk_2, lenOk_3, lenOk_4, lenOk_5, lenOk_6, ix_t0, ix_t1, ix_t2, ix_t3, ix_t4, ix_l0, ix_l1, ix_l2, Wp_ok, cl_int, cl_non, cl_tup, cl_lst, Q.bind_ok, Q.bind_exc, Q.bind_no, Q.of_some, Q.of_none, Q.calm_ok, if_true, if_false, Bool.false_eq_true, Bool.true_eq_false, decide_true, decide_false, Bool.not_true, Bool.not_false, Bool.and_true, Bool.true_and, Bool.and_false, Bool.false_and, Bool.or_true, Bool.or_false, Bool.true_or, Bool.false_or, Bool.not_not, not_true_eq_false, not_false_eq_true, List.map_cons, List.map_nil, List.length_map, List.take_succ_cons, List.take_zero, List.tail_cons, List.nil_append, List.cons_append, List.append_nil, asgQ, parQ, List.reduceReplicate, List.length_cons, List.length_nil, Nat.reduceSub, Nat.reduceAdd, Nat.zero_add, Wp_ok, decide_eq_true_eq, isNon, List.reverse_cons, List.reverse_nil, Bool.not_eq_true', decide_eq_false_iff_not, bne_iff_ne, ne_eq, D.c_law_two_places.me.iof, k_law_two_places, Kd.io, e4, lstS, ap, turnP]
    refine ⟨p5, E' ++ [q], by rw [enc_snoc], hp5, by simp [hE']; omega, fun r hr' => ?_, fun r hr' => List.mem_append_left _ (hs r hr')⟩
    rcases List.mem_append.mp hr' with h | h
    · exact hw' r h
    · rw [List.mem_singleton.mp h]; exact hq
  · rintro s ⟨p, E', rfl, hp, hE', hw', hs⟩
    rw [rng_len] at hE'
    exact ⟨rfl, p, E', rfl, hp, by omega, by omega, hw', hs⟩
  · exact ⟨p4, E, rfl, hp4, by simp, hw, fun q hq => hq⟩
  rintro _ s ⟨rfl, p5, E', rfl, hp5, hE', hE2, hw', hs⟩
  obtain ⟨w, o, e5, q, p6, rfl, hq, rfl, hp6⟩ := (two_ok D.c_law_two_places (K := K) (by omega) hp5 n2 (by omega)).get
  obtain ⟨q1, q2⟩ := q
  simp only [pairW] at e5
  simp only [getS_z, getS_s, setS_z, setS_s, wipe_n, wipe_c, rest_n, rest_c, asg_nm, asg_nil, asg_cons, par_nil, par_cons, vE_v, vE_c, vE_bin, vE_neg, vE_cmp, vE_chain, vE_and, vE_or, vE_not, vE_ite, vE_call, vE_bi, vE_isi, vE_mt, vE_tup, vE_lst, vE_ix, vE_sl, vE_rev, vE_lrg, vE_lc, vT_and, vT_or, vT_not, vT_cmp, vT_chain, vT_v, vT_c, vT_call, vT_bi, vT_isi, vT_ix, vC_nil, vC_cons, vs_nil, vs_cons, vA_t, vA_f, vA_n, vO_nil, vO_cons, vI_seq, vI_rng1, vI_rng2, vI_enum, vI_zip, vX_skip, vX_sq, vX_asg, vX_par, vX_seti, vX_seti2, vX_ex, vX_ret, vX_retn, vX_ite, vX_for, vX_brk, vX_cnt, vthen_nx, vthen_rt, vthen_bk, vthen_ct, vgo_nx, vgo_ct, vgo_bk, vgo_rt, fin_rt, fin_nx, back_ok, wb_t, wb_f, wb_n, wb_e, hdS_c, b_add, b_sub, c_lt, c_le, c_gt, c_ge, c_eqi, c_nei, c_nes, c_eqs, c_isn, c_isnn, t_bl, t_int, t_non, vseq_t, vseq_l, as_int, len_l, len_t, len_r, bi_int, bi_intb, bi_abs, bi_max2, bi_min2, bi_tup_t, bi_tup_l, bi_list_t, bi_list_l, neg_int, sl_t, sl_l, sl_r, rev_t, rev_l, lenOk_nil, lenOk_1, lenOk_2, lenOk_3, lenOk_4, lenOk_5, lenOk_6, ix_t0, ix_t1, ix_t2, ix_t3, ix_t4, ix_l0, ix_l1, ix_l2, Wp_ok, cl_int, cl_non, cl_tup, cl_lst, Q.bind_ok, Q.bind_exc, Q.bind_no, Q.of_some, Q.of_none, Q.calm_ok, if_true, if_false, Bool.false_eq_true, Bool.true_eq_false, decide_true, decide_false, Bool.not_true, Bool.not_false, Bool.and_true, Bool.true_and, Bool.and_false, Bool.false_and, Bool.or_true, Bool.or_false, Bool.true_or, Bool.false_or, Bool.not_not, not_true_eq_false, not_false_eq_true, List.map_cons, List.map_nil, List.length_map, List.take_succ_cons, List.take_zero, List.tail_cons, List.nil_append, List.cons_append, List.append_nil, asgQ, parQ, List.reduceReplicate, List.length_cons, List.length_nil, Nat.reduceSub, Nat.reduceAdd, Nat.zero_add, Wp_ok, decide_eq_true_eq, isNon, List.reverse_cons, List.reverse_nil, Bool.not_eq_true', decide_eq_false_iff_not, bne_iff_ne, ne_eq, D.c_law_two_places.me.iof, k_law_two_places, Kd.io, e5]
  refine ⟨⟨n, E', q1, q2⟩, p6, rfl, ⟨n2, by show n ≤ 8; omega, by show 1 ≤ E'.length; omega, by show E'.length ≤ 12; omega, hw', hq.1, hq.2.1, hq.2.2.1, hq.2.2.2.1, hq.2.2.2.2⟩, fun x x0 x1 => ?_, n3, hE', n4, rfl, hp6⟩
  exact Reach_trans (Reach_symm (Reach_mono hs (hr q1 hq.1 hq.2.1))) (Reach_mono hs (hr x x0 x1))
end Vm
end

section
set_option Elab.async false
set_option linter.all false
set_option maxRecDepth 100000
set_option maxHeartbeats 4000000
/-! Shared functions of the program: ways at a place, inner places, facts, stuck places. -/
namespace Vm
open PySem Wm
variable {tab : List Fn} {kt : List Ki} {ix : Nat → Nat}
/-! ### small things -/
theorem b_addl {a b : List W} (h : a.length + b.length ≤ 16000000) : binV .add (.lst a) (.lst b) = some (.lst (a ++ b)) := by
  have : Nat.ble (a.length + b.length) line = true := Nat.ble_eq_true_of_le h
  simp only [binV, this, if_true]
theorem b_addt {a b : List W} (h : a.length + b.length ≤ 16000000) : binV .add (.tup a) (.tup b) = some (.tup (a ++ b)) := by
  have : Nat.ble (a.length + b.length) line = true := Nat.ble_eq_true_of_le h
  simp only [binV, this, if_true]
theorem b_addp (a b c : W) : binV .add (.tup [a, b]) (.tup [c]) = some (.tup [a, b, c]) := b_addt (by simp)
theorem b_add1 (a : W) {b : List W} (h : b.length ≤ 1000000) : binV .add (.tup [a]) (.tup b) = some (.tup (a :: b)) := b_addt (by simp; omega)
theorem b_add1l (a : W) {b : List W} (h : b.length ≤ 1000000) : binV .add (.lst [a]) (.lst b) = some (.lst (a :: b)) := b_addl (by simp; omega)
theorem in_pair (x a b : Int) : cmpV .inn (.int x) (.tup [.int a, .int b]) = some (decide (x = a ∨ x = b)) ∧ cmpV .nin (.int x) (.tup [.int a, .int b]) = some (!decide (x = a ∨ x = b)) ∧ cmpV .inn (.int x) (.lst [.int a, .int b]) = some (decide (x = a ∨ x = b)) := by
  have h := in_int x [a, b]
  simp only [List.map_cons, List.map_nil] at h
  have e : decide (x ∈ [a, b]) = decide (x = a ∨ x = b) := by simp
  rw [e] at h
  exact ⟨h.2.1, h.2.2.2, h.1⟩
def enumZ {α : Type} : Int → List α → List (Int × α)
  | _, [] => []
  | i, a :: l => (i, a) :: enumZ (i + 1) l
theorem enumT_enc {α : Type} (enc : α → W) : ∀ (l : List α) (i : Int), enumT i (l.map enc) = (enumZ i l).map fun q => .tup [.int q.1, enc q.2]
  | [], _ => rfl
  | a :: l, i => by simp [enumT, enumZ, enumT_enc enc l]
theorem enumZ_mem {α : Type} : ∀ {l : List α} {i j : Int} {a : α}, (j, a) ∈ enumZ i l ↔ i ≤ j ∧ l[(j - i).toNat]? = some a
  | [], i, j, a => by simp [enumZ]
  | b :: l, i, j, a => by
    simp only [enumZ, List.mem_cons, Prod.mk.injEq, enumZ_mem (l := l)]
    constructor
    · rintro (⟨rfl, rfl⟩ | ⟨h1, h2⟩)
      · exact ⟨Int.le_refl _, by simp⟩
      · refine ⟨by omega, ?_⟩
        rw [show (j - i).toNat = (j - (i + 1)).toNat + 1 by omega]
        simpa using h2
    · rintro ⟨h1, h2⟩
      by_cases h : j = i
      · subst h
        left
        simp at h2
        exact ⟨rfl, h2.symm⟩
      · right
        refine ⟨by omega, ?_⟩
        rw [show (j - i).toNat = (j - (i + 1)).toNat + 1 by omega] at h2
        simpa using h2
theorem enumZ_len {α : Type} : ∀ (l : List α) (i : Int), (enumZ i l).length = l.length
  | [], _ => rfl
  | _ :: l, i => by simp [enumZ, enumZ_len l]
/-- a comprehension with a test -/
theorem lc_fil {α : Type} {f : W → Sl → Q (Option W)} {s : Sl} (enc : α → W) (c : α → Bool) (g : α → W) (l : List α) (h : ∀ x ∈ l, f (enc x) s = .ok (if c x = true then some (g x) else none) s) : lcV f (l.map enc) s = .ok ((l.filter c).map g) s := by
  rw [lc_fm enc (fun x => if c x = true then some (g x) else none) l h]
  congr 1
  clear h
  induction l with
  | nil => rfl
  | cons a l ih => by_cases hc : c a = true <;> simp [List.filterMap_cons, List.filter_cons, hc, ih]
/-! ### mines -/
def other (x : Int) (p : Int × Int) : Int := if x = p.1 then p.2 else p.1
def atB (x : Int) (p : Int × Int) : Bool := decide (x = p.1 ∨ x = p.2)
/-- the numbers of the ways at a place -/
def waysAt (E : List (Int × Int)) (x : Int) : List Int := ((enumZ 0 E).filter fun q => atB x q.2).map (·.1)
/-- the far ends of the ways at a place -/
def farsAt (E : List (Int × Int)) (x : Int) : List Int := (E.filter (atB x)).map (other x)
theorem waysAt_mem {E : List (Int × Int)} {x w : Int} : w ∈ waysAt E x ↔ 0 ≤ w ∧ ∃ p, E[w.toNat]? = some p ∧ atB x p = true := by
  unfold waysAt
  rw [List.mem_map]
  constructor
  · rintro ⟨⟨v, p⟩, h, rfl⟩
    obtain ⟨h1, h2⟩ := List.mem_filter.mp h
    obtain ⟨h3, h4⟩ := enumZ_mem.mp h1
    exact ⟨h3, p, by simpa using h4, h2⟩
  · rintro ⟨h1, p, h2, h3⟩
    exact ⟨(w, p), List.mem_filter.mpr ⟨enumZ_mem.mpr ⟨h1, by simpa using h2⟩, h3⟩, rfl⟩
theorem waysAt_len (E : List (Int × Int)) (x : Int) : (waysAt E x).length ≤ E.length := by
  unfold waysAt
  rw [List.length_map]
  exact Nat.le_trans (List.length_filter_le _ _) (by rw [enumZ_len]; exact Nat.le_refl _)
theorem ways_at_ok (D : D_ways_at tab kt ix) {K : Nat} (hK : 1 ≤ K) (m : Mine) (hm : m.E.length ≤ 1000) (x : Int) : vcallN tab kt K (ix n_ways_at) [m.v, .int x] = .ok (.tup ((waysAt m.E x).map .int)) [some m.v, some (.int x)] := by
  obtain ⟨K, rfl⟩ : ∃ k, K = k + 1 := ⟨K - 1, by omega⟩
  rw [D.me.enter rfl]
  have hl := waysAt_len m.E x
  have e := lc_fil (s := [some m.v, some (.int x), none, none]) (f := lcF (vcallN tab kt K) (ioOf kt) (.v 2) [2, 3] (.cons (.nm 2) (.cons (.nm 3) .nil)) (.cons (.cmp .inn (.v 1) (.v 3)) .nil)) (fun q : Int × (Int × Int) => .tup [.int q.1, pairW q.2]) (fun q => atB x q.2) (fun q => .int q.1) (enumZ 0 m.E) fun q _ => by
    by_cases h : atB x q.2 = true
    · have h' : x = q.2.1 ∨ x = q.2.2 := by simpa [atB] using h
      simp only [lcF, getS_z, getS_s, setS_z, setS_s, wipe_n, wipe_c, rest_n, rest_c, asg_nm, asg_nil, asg_cons, par_nil, par_cons, vE_v, vE_c, vE_bin, vE_neg, vE_cmp, vE_chain, vE_and, vE_or, vE_not, vE_ite, vE_call, vE_bi, vE_isi, vE_mt, vE_tup, vE_lst, vE_ix, vE_sl, vE_rev, vE_lrg, vE_lc, vT_and, vT_or, vT_not, vT_cmp, vT_chain, vT_v, vT_c, vT_call, vT_bi, vT_isi, vT_ix, vC_nil, vC_cons, vs_nil, vs_cons, vA_t, vA_f, vA_n, vO_nil, vO_cons, vI_seq, vI_rng1, vI_rng2, vI_enum, vI_zip, vX_skip, vX_sq, vX_asg, vX_par, vX_seti, vX_seti2, vX_ex, vX_ret, vX_retn, vX_ite, vX_for, vX_brk, vX_cnt, vthen_nx, vthen_rt, vthen_bk, vthen_ct, vgo_nx, vgo_ct, vgo_bk, vgo_rt, fin_rt, fin_nx, back_ok, wb_t, wb_f, wb_n, wb_e, hdS_c, b_add, b_sub, c_lt, c_le, c_gt, c_ge, c_eqi, c_nei, c_nes, c_eqs, c_isn, c_isnn, t_bl, t_int, t_non, vseq_t, vseq_l, as_int, len_l, len_t, len_r, bi_int, bi_intb, bi_abs, bi_max2, bi_min2, bi_tup_t, bi_tup_l, bi_list_t, bi_list_l, neg_int, sl_t, sl_l, sl_r, rev_t, rev_l, lenOk_nil, lenOk_1, lenOk_2, lenOk_3, lenOk_4, lenOk_5, lenOk_6, ix_t0, ix_t1, ix_t2, ix_t3, ix_t4, ix_l0, ix_l1, ix_l2, Wp_ok, cl_int, cl_non, cl_tup, cl_lst, Q.bind_ok, Q.bind_exc, Q.bind_no, Q.of_some, Q.of_none, Q.calm_ok, if_true, if_false, Bool.false_eq_true, Bool.true_eq_false, decide_true, decide_false, Bool.not_true, Bool.not_false, Bool.and_true, Bool.true_and, Bool.and_false, Bool.false_and, Bool.or_true, Bool.or_false, Bool.true_or, Bool.false_or, Bool.not_not, not_true_eq_false, not_false_eq_true, List.map_cons, List.map_nil, List.length_map, List.take_succ_cons, List.take_zero, List.tail_cons, List.nil_append, List.cons_append, List.append_nil, asgQ, parQ, List.reduceReplicate, List.length_cons, List.length_nil, Nat.reduceSub, Nat.reduceAdd, Nat.zero_add, Wp_ok, decide_eq_true_eq, isNon, List.reverse_cons, List.reverse_nil, Bool.not_eq_true', decide_eq_false_iff_not, bne_iff_ne, ne_eq, pairW, (in_pair _ _ _).1, h', h]
    · have h' : ¬ (x = q.2.1 ∨ x = q.2.2) := by simpa [atB] using h
      simp only [lcF, getS_z, getS_s, setS_z, setS_s, wipe_n, wipe_c, rest_n, rest_c, asg_nm, asg_nil, asg_cons, par_nil, par_cons, vE_v, vE_c, vE_bin, vE_neg, vE_cmp, vE_chain, vE_and, vE_or, vE_not, vE_ite, vE_call, vE_bi, vE_isi, vE_mt, vE_tup, vE_lst, vE_ix, vE_sl, vE_rev, vE_lrg, vE_lc, vT_and, vT_or, vT_not, vT_cmp, vT_chain, vT_v, vT_c, vT_call, vT_bi, vT_isi, vT_ix, vC_nil, vC_cons, vs_nil, vs_cons, vA_t, vA_f, vA_n, vO_nil, vO_cons, vI_seq, vI_rng1, vI_rng2, vI_enum, vI_zip, vX_skip, vX_sq, vX_asg, vX_par, vX_seti, vX_seti2, vX_ex, vX_ret, vX_retn, vX_ite, vX_for, vX_brk, vX_cnt, vthen_nx, vthen_rt, vthen_bk, vthen_ct, vgo_nx, vgo_ct, vgo_bk, vgo_rt, fin_rt, fin_nx, back_ok, wb_t, wb_f, wb_n, wb_e, hdS_c, b_add, b_sub, c_lt, c_le, c_gt, c_ge, c_eqi, c_nei, c_nes, c_eqs, c_isn, c_isnn, t_bl, t_int, t_non, vseq_t, vseq_l, as_int, len_l, len_t, len_r, bi_int, bi_intb, bi_abs, bi_max2, bi_min2, bi_tup_t, bi_tup_l, bi_list_t, bi_list_l, neg_int, sl_t, sl_l, sl_r, rev_t, rev_l, lenOk_nil, lenOk_1, lenOk_2, lenOk_3, lenOk_4, lenOk_5, lenOk_6, ix_t0, ix_t1, ix_t2, ix_t3, ix_t4, ix_l0, ix_l1, ix_l2, Wp_ok, cl_int, cl_non, cl_tup, cl_lst, Q.bind_ok, Q.bind_exc, Q.bind_no, Q.of_some, Q.of_none, Q.calm_ok, if_true, if_false, Bool.false_eq_true, Bool.true_eq_false, decide_true, decide_false, Bool.not_true, Bool.not_false, Bool.and_true, Bool.true_and, Bool.and_false, Bool.false_and, Bool.or_true, Bool.or_false, Bool.true_or, Bool.false_or, Bool.not_not, not_true_eq_false, not_false_eq_true, List.map_cons, List.map_nil, List.length_map, List.take_succ_cons, List.take_zero, List.tail_cons, List.nil_append, List.cons_append, List.append_nil, asgQ, parQ, List.reduceReplicate, List.length_cons, List.length_nil, Nat.reduceSub, Nat.reduceAdd, Nat.zero_add, Wp_ok, decide_eq_true_eq, isNon, List.reverse_cons, List.reverse_nil, Bool.not_eq_true', decide_eq_false_iff_not, bne_iff_ne, ne_eq, pairW, (in_pair _ _ _).1, h', h]
  have e2 : ((enumZ 0 m.E).filter fun q => atB x q.2).map (fun q => W.int q.1) = (waysAt m.E x).map .int := by simp [waysAt]
  rw [e2] at e
  have l1 : lenOk ((waysAt m.E x).map .int) = true := lenOk_of (by simp; omega)
  simp only [Mine.v] at e
  simp only [sh_ways_at, getS_z, getS_s, setS_z, setS_s, wipe_n, wipe_c, rest_n, rest_c, asg_nm, asg_nil, asg_cons, par_nil, par_cons, vE_v, vE_c, vE_bin, vE_neg, vE_cmp, vE_chain, vE_and, vE_or, vE_not, vE_ite, vE_call, vE_bi, vE_isi, vE_mt, vE_tup, vE_lst, vE_ix, vE_sl, vE_rev, vE_lrg, vE_lc, vT_and, vT_or, vT_not, vT_cmp, vT_chain, vT_v, vT_c, vT_call, vT_bi, vT_isi, vT_ix, vC_nil, vC_cons, vs_nil, vs_cons, vA_t, vA_f, vA_n, vO_nil, vO_cons, vI_seq, vI_rng1, vI_rng2, vI_enum, vI_zip, vX_skip, vX_sq, vX_asg, vX_par, vX_seti, vX_seti2, vX_ex, vX_ret, vX_retn, vX_ite, vX_for, vX_brk, vX_cnt, vthen_nx, vthen_rt, vthen_bk, vthen_ct, vgo_nx, vgo_ct, vgo_bk, vgo_rt, fin_rt, fin_nx, back_ok, wb_t, wb_f, wb_n, wb_e, hdS_c, b_add, b_sub, c_lt, c_le, c_gt, c_ge, c_eqi, c_nei, c_nes, c_eqs, c_isn, c_isnn, t_bl, t_int, t_non, vseq_t, vseq_l, as_int, len_l, len_t, len_r, bi_int, bi_intb, bi_abs, bi_max2, bi_min2, bi_tup_t, bi_tup_l, bi_list_t, bi_list_l, neg_int, sl_t, sl_l, sl_r, rev_t, rev_l, lenOk_nil, lenOk_1, lenOk_2, lenOk_3, lenOk_4, lenOk_5, lenOk_6, ix_t0, ix_t1, ix_t2, ix_t3, ix_t4, ix_l0, ix_l1, ix_l2, Wp_ok, cl_int, cl_non, cl_tup, cl_lst, Q.bind_ok, Q.bind_exc, Q.bind_no, Q.of_some, Q.of_none, Q.calm_ok, if_true, if_false, Bool.false_eq_true, Bool.true_eq_false, decide_true, decide_false, Bool.not_true, Bool.not_false, Bool.and_true, Bool.true_and, Bool.and_false, Bool.false_and, Bool.or_true, Bool.or_false, Bool.true_or, Bool.false_or, Bool.not_not, not_true_eq_false, not_false_eq_true, List.map_cons, List.map_nil, List.length_map, List.take_succ_cons, List.take_zero, List.tail_cons, List.nil_append, List.cons_append, List.append_nil, asgQ, parQ, List.reduceReplicate, List.length_cons, List.length_nil, Nat.reduceSub, Nat.reduceAdd, Nat.zero_add, Wp_ok, decide_eq_true_eq, isNon, List.reverse_cons, List.reverse_nil, Bool.not_eq_true', decide_eq_false_iff_not, bne_iff_ne, ne_eq, startS, Mine.v, enumT_enc, e, l1]
theorem far_end_ok (D : D_far_end tab kt ix) {K : Nat} (hK : 1 ≤ K) (m : Mine) {w x : Int} {p : Int × Int} (h0 : 0 ≤ w) (e : m.E[w.toNat]? = some p) : vcallN tab kt K (ix n_far_end) [m.v, .int w, .int x] = .ok (.int (other x p)) [some m.v, some (.int w), some (.int x)] := by
  obtain ⟨K, rfl⟩ : ∃ k, K = k + 1 := ⟨K - 1, by omega⟩
  rw [D.me.enter rfl]
  have e1 : ixV (.tup (m.E.map pairW)) (.int w) = some (pairW p) := ix_at (vseq_t _) h0 (by rw [List.getElem?_map, e]; rfl)
  simp only [pairW] at e1
  by_cases h : x = p.1
  · simp only [sh_far_end, getS_z, getS_s, setS_z, setS_s, wipe_n, wipe_c, rest_n, rest_c, asg_nm, asg_nil, asg_cons, par_nil, par_cons, vE_v, vE_c, vE_bin, vE_neg, vE_cmp, vE_chain, vE_and, vE_or, vE_not, vE_ite, vE_call, vE_bi, vE_isi, vE_mt, vE_tup, vE_lst, vE_ix, vE_sl, vE_rev, vE_lrg, vE_lc, vT_and, vT_or, vT_not, vT_cmp, vT_chain, vT_v, vT_c, vT_call, vT_bi, vT_isi, vT_ix, vC_nil, vC_cons, vs_nil, vs_cons, vA_t, vA_f, vA_n, vO_nil, vO_cons, vI_seq, vI_rng1, vI_rng2, vI_enum, vI_zip, vX_skip, vX_sq, vX_asg, vX_par, vX_seti, vX_seti2, vX_ex, vX_ret, vX_retn, vX_ite, vX_for, vX_brk, vX_cnt, vthen_nx, vthen_rt, vthen_bk, vthen_ct, vgo_nx, vgo_ct, vgo_bk, vgo_rt, fin_rt, fin_nx, back_ok, wb_t, wb_f, wb_n, wb_e, hdS_c, b_add, b_sub, c_lt, c_le, c_gt, c_ge, c_eqi, c_nei, c_nes, c_eqs, c_isn, c_isnn, t_bl, t_int, t_non, vseq_t, vseq_l, as_int, len_l, len_t, len_r, bi_int, bi_intb, bi_abs, bi_max2, bi_min2, bi_tup_t, bi_tup_l, bi_list_t, bi_list_l, neg_int, sl_t, sl_l, sl_r, rev_t, rev_l, lenOk_nil, lenOk_1, lenOk_2, lenOk_3, lenOk_4, lenOk_5, lenOk_6, ix_t0, ix_t1, ix_t2, ix_t3, ix_t4, ix_l0, ix_l1, ix_l2, Wp_ok, cl_int, cl_non, cl_tup, cl_lst, Q.bind_ok, Q.bind_exc, Q.bind_no, Q.of_some, Q.of_none, Q.calm_ok, if_true, if_false, Bool.false_eq_true, Bool.true_eq_false, decide_true, decide_false, Bool.not_true, Bool.not_false, Bool.and_true, Bool.true_and, Bool.and_false, Bool.false_and, Bool.or_true, Bool.or_false, Bool.true_or, Bool.false_or, Bool.not_not, not_true_eq_false, not_false_eq_true, List.map_cons, List.map_nil, List.length_map, List.take_succ_cons, List.take_zero, List.tail_cons, List.nil_append, List.cons_append, List.append_nil, asgQ, parQ, List.reduceReplicate, List.length_cons, List.length_nil, Nat.reduceSub, Nat.reduceAdd, Nat.zero_add, Wp_ok, decide_eq_true_eq, isNon, List.reverse_cons, List.reverse_nil, Bool.not_eq_true', decide_eq_false_iff_not, bne_iff_ne, ne_eq, startS, Mine.v, pairW, e1, h, other]
  · simp only [sh_far_end, getS_z, getS_s, setS_z, setS_s, wipe_n, wipe_c, rest_n, rest_c, asg_nm, asg_nil, asg_cons, par_nil, par_cons, vE_v, vE_c, vE_bin, vE_neg, vE_cmp, vE_chain, vE_and, vE_or, vE_not, vE_ite, vE_call, vE_bi, vE_isi, vE_mt, vE_tup, vE_lst, vE_ix, vE_sl, vE_rev, vE_lrg, vE_lc, vT_and, vT_or, vT_not, vT_cmp, vT_chain, vT_v, vT_c, vT_call, vT_bi, vT_isi, vT_ix, vC_nil, vC_cons, vs_nil, vs_cons, vA_t, vA_f, vA_n, vO_nil, vO_cons, vI_seq, vI_rng1, vI_rng2, vI_enum, vI_zip, vX_skip, vX_sq, vX_asg, vX_par, vX_seti, vX_seti2, vX_ex, vX_ret, vX_retn, vX_ite, vX_for, vX_brk, vX_cnt, vthen_nx, vthen_rt, vthen_bk, vthen_ct, vgo_nx, vgo_ct, vgo_bk, vgo_rt, fin_rt, fin_nx, back_ok, wb_t, wb_f, wb_n, wb_e, hdS_c, b_add, b_sub, c_lt, c_le, c_gt, c_ge, c_eqi, c_nei, c_nes, c_eqs, c_isn, c_isnn, t_bl, t_int, t_non, vseq_t, vseq_l, as_int, len_l, len_t, len_r, bi_int, bi_intb, bi_abs, bi_max2, bi_min2, bi_tup_t, bi_tup_l, bi_list_t, bi_list_l, neg_int, sl_t, sl_l, sl_r, rev_t, rev_l, lenOk_nil, lenOk_1, lenOk_2, lenOk_3, lenOk_4, lenOk_5, lenOk_6, ix_t0, ix_t1, ix_t2, ix_t3, ix_t4, ix_l0, ix_l1, ix_l2, Wp_ok, cl_int, cl_non, cl_tup, cl_lst, Q.bind_ok, Q.bind_exc, Q.bind_no, Q.of_some, Q.of_none, Q.calm_ok, if_true, if_false, Bool.false_eq_true, Bool.true_eq_false, decide_true, decide_false, Bool.not_true, Bool.not_false, Bool.and_true, Bool.true_and, Bool.and_false, Bool.false_and, Bool.or_true, Bool.or_false, Bool.true_or, Bool.false_or, Bool.not_not, not_true_eq_false, not_false_eq_true, List.map_cons, List.map_nil, List.length_map, List.take_succ_cons, List.take_zero, List.tail_cons, List.nil_append, List.cons_append, List.append_nil, asgQ, parQ, List.reduceReplicate, List.length_cons, List.length_nil, Nat.reduceSub, Nat.reduceAdd, Nat.zero_add, Wp_ok, decide_eq_true_eq, isNon, List.reverse_cons, List.reverse_nil, Bool.not_eq_true', decide_eq_false_iff_not, bne_iff_ne, ne_eq, startS, Mine.v, pairW, e1, h, other]
def innerL (m : Mine) : List Int := (rngZ 0 m.n.toNat).filter fun x => !decide (x = m.i ∨ x = m.o)
theorem cut2 (a b c d : W) : cut [a, b, c, d] (some 2) none = [c, d] := by simp [cut, endOf]
theorem inner_lc (m : Mine) (G : Nat → List W → Q W) (io : Nat → List Bool) : lcV (lcF G io (.v 1) [1] (.nm 1) (.cons (.cmp .nin (.v 1) (.sl (.v 0) (.cons (.c (.int 2)) .nil) .nil)) .nil)) ((rngZ 0 m.n.toNat).map .int) [some m.v, none] = .ok ((innerL m).map .int) [some m.v, none] := by
  unfold innerL
  refine lc_fil W.int (fun x => !decide (x = m.i ∨ x = m.o)) W.int _ fun x _ => ?_
  by_cases h : x = m.i ∨ x = m.o
  · simp only [lcF, getS_z, getS_s, setS_z, setS_s, wipe_n, wipe_c, rest_n, rest_c, asg_nm, asg_nil, asg_cons, par_nil, par_cons, vE_v, vE_c, vE_bin, vE_neg, vE_cmp, vE_chain, vE_and, vE_or, vE_not, vE_ite, vE_call, vE_bi, vE_isi, vE_mt, vE_tup, vE_lst, vE_ix, vE_sl, vE_rev, vE_lrg, vE_lc, vT_and, vT_or, vT_not, vT_cmp, vT_chain, vT_v, vT_c, vT_call, vT_bi, vT_isi, vT_ix, vC_nil, vC_cons, vs_nil, vs_cons, vA_t, vA_f, vA_n, vO_nil, vO_cons, vI_seq, vI_rng1, vI_rng2, vI_enum, vI_zip, vX_skip, vX_sq, vX_asg, vX_par, vX_seti, vX_seti2, vX_ex, vX_ret, vX_retn, vX_ite, vX_for, vX_brk, vX_cnt, vthen_nx, vthen_rt, vthen_bk, vthen_ct, vgo_nx, vgo_ct, vgo_bk, vgo_rt, fin_rt, fin_nx, back_ok, wb_t, wb_f, wb_n, wb_e, hdS_c, b_add, b_sub, c_lt, c_le, c_gt, c_ge, c_eqi, c_nei, c_nes, c_eqs, c_isn, c_isnn, t_bl, t_int, t_non, vseq_t, vseq_l, as_int, len_l, len_t, len_r, bi_int, bi_intb, bi_abs, bi_max2, bi_min2, bi_tup_t, bi_tup_l, bi_list_t, bi_list_l, neg_int, sl_t, sl_l, sl_r, rev_t, rev_l, lenOk_nil, lenOk_1, lenOk_2, lenOk_3, lenOk_4, lenOk_5, lenOk_6, ix_t0, ix_t1, ix_t2, ix_t3, ix_t4, ix_l0, ix_l1, ix_l2, Wp_ok, cl_int, cl_non, cl_tup, cl_lst, Q.bind_ok, Q.bind_exc, Q.bind_no, Q.of_some, Q.of_none, Q.calm_ok, if_true, if_false, Bool.false_eq_true, Bool.true_eq_false, decide_true, decide_false, Bool.not_true, Bool.not_false, Bool.and_true, Bool.true_and, Bool.and_false, Bool.false_and, Bool.or_true, Bool.or_false, Bool.true_or, Bool.false_or, Bool.not_not, not_true_eq_false, not_false_eq_true, List.map_cons, List.map_nil, List.length_map, List.take_succ_cons, List.take_zero, List.tail_cons, List.nil_append, List.cons_append, List.append_nil, asgQ, parQ, List.reduceReplicate, List.length_cons, List.length_nil, Nat.reduceSub, Nat.reduceAdd, Nat.zero_add, Wp_ok, decide_eq_true_eq, isNon, List.reverse_cons, List.reverse_nil, Bool.not_eq_true', decide_eq_false_iff_not, bne_iff_ne, ne_eq, Mine.v, cut2, (in_pair _ _ _).2.1, h]
  · simp only [lcF, getS_z, getS_s, setS_z, setS_s, wipe_n, wipe_c, rest_n, rest_c, asg_nm, asg_nil, asg_cons, par_nil, par_cons, vE_v, vE_c, vE_bin, vE_neg, vE_cmp, vE_chain, vE_and, vE_or, vE_not, vE_ite, vE_call, vE_bi, vE_isi, vE_mt, vE_tup, vE_lst, vE_ix, vE_sl, vE_rev, vE_lrg, vE_lc, vT_and, vT_or, vT_not, vT_cmp, vT_chain, vT_v, vT_c, vT_call, vT_bi, vT_isi, vT_ix, vC_nil, vC_cons, vs_nil, vs_cons, vA_t, vA_f, vA_n, vO_nil, vO_cons, vI_seq, vI_rng1, vI_rng2, vI_enum, vI_zip, vX_skip, vX_sq, vX_asg, vX_par, vX_seti, vX_seti2, vX_ex, vX_ret, vX_retn, vX_ite, vX_for, vX_brk, vX_cnt, vthen_nx, vthen_rt, vthen_bk, vthen_ct, vgo_nx, vgo_ct, vgo_bk, vgo_rt, fin_rt, fin_nx, back_ok, wb_t, wb_f, wb_n, wb_e, hdS_c, b_add, b_sub, c_lt, c_le, c_gt, c_ge, c_eqi, c_nei, c_nes, c_eqs, c_isn, c_isnn, t_bl, t_int, t_non, vseq_t, vseq_l, as_int, len_l, len_t, len_r, bi_int, bi_intb, bi_abs, bi_max2, bi_min2, bi_tup_t, bi_tup_l, bi_list_t, bi_list_l, neg_int, sl_t, sl_l, sl_r, rev_t, rev_l, lenOk_nil, lenOk_1, lenOk_2, lenOk_3, lenOk_4, lenOk_5, lenOk_6, ix_t0, ix_t1, ix_t2, ix_t3, ix_t4, ix_l0, ix_l1, ix_l2, Wp_ok, cl_int, cl_non, cl_tup, cl_lst, Q.bind_ok, Q.bind_exc, Q.bind_no, Q.of_some, Q.of_none, Q.calm_ok, if_true, if_false, Bool.false_eq_true, Bool.true_eq_false, decide_true, decide_false, Bool.not_true, Bool.not_false, Bool.and_true, Bool.true_and, Bool.and_false, Bool.false_and, Bool.or_true, Bool.or_false, Bool.true_or, Bool.false_or, Bool.not_not, not_true_eq_false, not_false_eq_true, List.map_cons, List.map_nil, List.length_map, List.take_succ_cons, List.take_zero, List.tail_cons, List.nil_append, List.cons_append, List.append_nil, asgQ, parQ, List.reduceReplicate, List.length_cons, List.length_nil, Nat.reduceSub, Nat.reduceAdd, Nat.zero_add, Wp_ok, decide_eq_true_eq, isNon, List.reverse_cons, List.reverse_nil, Bool.not_eq_true', decide_eq_false_iff_not, bne_iff_ne, ne_eq, Mine.v, cut2, (in_pair _ _ _).2.1, h]
theorem innerL_len (m : Mine) : (innerL m).length ≤ m.n.toNat := Nat.le_trans (List.length_filter_le _ _) (by rw [rng_len]; exact Nat.le_refl _)
theorem inner_ok (D : D_inner_places tab kt ix) {K : Nat} (hK : 1 ≤ K) (m : Mine) (h2 : 0 ≤ m.n) (h8 : m.n ≤ 1000) : vcallN tab kt K (ix n_inner_places) [m.v] = .ok (.lst ((innerL m).map .int)) [some m.v] := by
  obtain ⟨K, rfl⟩ : ∃ k, K = k + 1 := ⟨K - 1, by omega⟩
  rw [D.me.enter rfl]
  have e := inner_lc m (vcallN tab kt K) (ioOf kt)
  have hl := innerL_len m
  have l1 : lenOk ((innerL m).map .int) = true := lenOk_of (by simp; omega)
  have r := rngQ_ok (n := m.n) (by omega) (by omega)
  simp only [Mine.v] at e
  simp only [sh_inner_places, getS_z, getS_s, setS_z, setS_s, wipe_n, wipe_c, rest_n, rest_c, asg_nm, asg_nil, asg_cons, par_nil, par_cons, vE_v, vE_c, vE_bin, vE_neg, vE_cmp, vE_chain, vE_and, vE_or, vE_not, vE_ite, vE_call, vE_bi, vE_isi, vE_mt, vE_tup, vE_lst, vE_ix, vE_sl, vE_rev, vE_lrg, vE_lc, vT_and, vT_or, vT_not, vT_cmp, vT_chain, vT_v, vT_c, vT_call, vT_bi, vT_isi, vT_ix, vC_nil, vC_cons, vs_nil, vs_cons, vA_t, vA_f, vA_n, vO_nil, vO_cons, vI_seq, vI_rng1, vI_rng2, vI_enum, vI_zip, vX_skip, vX_sq, vX_asg, vX_par, vX_seti, vX_seti2, vX_ex, vX_ret, vX_retn, vX_ite, vX_for, vX_brk, vX_cnt, vthen_nx, vthen_rt, vthen_bk, vthen_ct, vgo_nx, vgo_ct, vgo_bk, vgo_rt, fin_rt, fin_nx, back_ok, wb_t, wb_f, wb_n, wb_e, hdS_c, b_add, b_sub, c_lt, c_le, c_gt, c_ge, c_eqi, c_nei, c_nes, c_eqs, c_isn, c_isnn, t_bl, t_int, t_non, vseq_t, vseq_l, as_int, len_l, len_t, len_r, bi_int, bi_intb, bi_abs, bi_max2, bi_min2, bi_tup_t, bi_tup_l, bi_list_t, bi_list_l, neg_int, sl_t, sl_l, sl_r, rev_t, rev_l, lenOk_nil, lenOk_1, lenOk_2, lenOk_3, lenOk_4, lenOk_5, lenOk_6, ix_t0, ix_t1, ix_t2, ix_t3, ix_t4, ix_l0, ix_l1, ix_l2, Wp_ok, cl_int, cl_non, cl_tup, cl_lst, Q.bind_ok, Q.bind_exc, Q.bind_no, Q.of_some, Q.of_none, Q.calm_ok, if_true, if_false, Bool.false_eq_true, Bool.true_eq_false, decide_true, decide_false, Bool.not_true, Bool.not_false, Bool.and_true, Bool.true_and, Bool.and_false, Bool.false_and, Bool.or_true, Bool.or_false, Bool.true_or, Bool.false_or, Bool.not_not, not_true_eq_false, not_false_eq_true, List.map_cons, List.map_nil, List.length_map, List.take_succ_cons, List.take_zero, List.tail_cons, List.nil_append, List.cons_append, List.append_nil, asgQ, parQ, List.reduceReplicate, List.length_cons, List.length_nil, Nat.reduceSub, Nat.reduceAdd, Nat.zero_add, Wp_ok, decide_eq_true_eq, isNon, List.reverse_cons, List.reverse_nil, Bool.not_eq_true', decide_eq_false_iff_not, bne_iff_ne, ne_eq, startS, Mine.v, r, e, l1]
theorem law_inner_ok (D : D_law_inner tab kt ix) {K : Nat} (hK : 1 ≤ K) (m : Mine) (h2 : 0 ≤ m.n) (h8 : m.n ≤ 1000) : vcallN tab kt K (ix n_law_inner) [m.v] = .ok (.lst ((innerL m).map .int)) [some m.v] := by
  obtain ⟨K, rfl⟩ : ∃ k, K = k + 1 := ⟨K - 1, by omega⟩
  rw [D.me.enter rfl]
  have e := inner_lc m (vcallN tab kt K) (ioOf kt)
  have hl := innerL_len m
  have l1 : lenOk ((innerL m).map .int) = true := lenOk_of (by simp; omega)
  have r := rngQ_ok (n := m.n) (by omega) (by omega)
  simp only [Mine.v] at e
  simp only [sh_law_inner, getS_z, getS_s, setS_z, setS_s, wipe_n, wipe_c, rest_n, rest_c, asg_nm, asg_nil, asg_cons, par_nil, par_cons, vE_v, vE_c, vE_bin, vE_neg, vE_cmp, vE_chain, vE_and, vE_or, vE_not, vE_ite, vE_call, vE_bi, vE_isi, vE_mt, vE_tup, vE_lst, vE_ix, vE_sl, vE_rev, vE_lrg, vE_lc, vT_and, vT_or, vT_not, vT_cmp, vT_chain, vT_v, vT_c, vT_call, vT_bi, vT_isi, vT_ix, vC_nil, vC_cons, vs_nil, vs_cons, vA_t, vA_f, vA_n, vO_nil, vO_cons, vI_seq, vI_rng1, vI_rng2, vI_enum, vI_zip, vX_skip, vX_sq, vX_asg, vX_par, vX_seti, vX_seti2, vX_ex, vX_ret, vX_retn, vX_ite, vX_for, vX_brk, vX_cnt, vthen_nx, vthen_rt, vthen_bk, vthen_ct, vgo_nx, vgo_ct, vgo_bk, vgo_rt, fin_rt, fin_nx, back_ok, wb_t, wb_f, wb_n, wb_e, hdS_c, b_add, b_sub, c_lt, c_le, c_gt, c_ge, c_eqi, c_nei, c_nes, c_eqs, c_isn, c_isnn, t_bl, t_int, t_non, vseq_t, vseq_l, as_int, len_l, len_t, len_r, bi_int, bi_intb, bi_abs, bi_max2, bi_min2, bi_tup_t, bi_tup_l, bi_list_t, bi_list_l, neg_int, sl_t, sl_l, sl_r, rev_t, rev_l, lenOk_nil, lenOk_1, lenOk_2, lenOk_3, lenOk_4, lenOk_5, lenOk_6, ix_t0, ix_t1, ix_t2, ix_t3, ix_t4, ix_l0, ix_l1, ix_l2, Wp_ok, cl_int, cl_non, cl_tup, cl_lst, Q.bind_ok, Q.bind_exc, Q.bind_no, Q.of_some, Q.of_none, Q.calm_ok, if_true, if_false, Bool.false_eq_true, Bool.true_eq_false, decide_true, decide_false, Bool.not_true, Bool.not_false, Bool.and_true, Bool.true_and, Bool.and_false, Bool.false_and, Bool.or_true, Bool.or_false, Bool.true_or, Bool.false_or, Bool.not_not, not_true_eq_false, not_false_eq_true, List.map_cons, List.map_nil, List.length_map, List.take_succ_cons, List.take_zero, List.tail_cons, List.nil_append, List.cons_append, List.append_nil, asgQ, parQ, List.reduceReplicate, List.length_cons, List.length_nil, Nat.reduceSub, Nat.reduceAdd, Nat.zero_add, Wp_ok, decide_eq_true_eq, isNon, List.reverse_cons, List.reverse_nil, Bool.not_eq_true', decide_eq_false_iff_not, bne_iff_ne, ne_eq, startS, Mine.v, r, e, l1]
/-! ### facts -/
abbrev Fact := Int × Int × Int
def factW (f : Fact) : W := .tup [.int f.1, .int f.2.1, .int f.2.2]
theorem factW_inj (a b : Fact) (h : factW a = factW b) : a = b := by
  simp only [factW, W.tup.injEq, List.cons.injEq, W.int.injEq, and_true] at h
  exact Prod.ext h.1 (Prod.ext h.2.1 h.2.2)
theorem in_fact (f : Fact) (l : List Fact) : cmpV .inn (.tup [.int f.1, .int f.2.1, .int f.2.2]) (.lst (l.map factW)) = some (decide (f ∈ l)) ∧ cmpV .inn (.tup [.int f.1, .int f.2.1, .int f.2.2]) (.tup (l.map factW)) = some (decide (f ∈ l)) ∧ cmpV .nin (.tup [.int f.1, .int f.2.1, .int f.2.2]) (.lst (l.map factW)) = some (!decide (f ∈ l)) ∧ cmpV .nin (.tup [.int f.1, .int f.2.1, .int f.2.2]) (.tup (l.map factW)) = some (!decide (f ∈ l)) :=
  in_enc (enc := factW) factW_inj (fun a => by simp [factW]) f l
def fanF (m : Mine) : Fact := (m.i, m.o, 1)
def known (m : Mine) (fs : List Fact) : List Fact := fanF m :: fs
theorem fan_ok (D : D_fan_fact tab kt ix) {K : Nat} (hK : 1 ≤ K) (m : Mine) : vcallN tab kt K (ix n_fan_fact) [m.v] = .ok (factW (fanF m)) [some m.v] := by
  obtain ⟨K, rfl⟩ : ∃ k, K = k + 1 := ⟨K - 1, by omega⟩
  rw [D.me.enter rfl]
  simp only [sh_fan_fact, getS_z, getS_s, setS_z, setS_s, wipe_n, wipe_c, rest_n, rest_c, asg_nm, asg_nil, asg_cons, par_nil, par_cons, vE_v, vE_c, vE_bin, vE_neg, vE_cmp, vE_chain, vE_and, vE_or, vE_not, vE_ite, vE_call, vE_bi, vE_isi, vE_mt, vE_tup, vE_lst, vE_ix, vE_sl, vE_rev, vE_lrg, vE_lc, vT_and, vT_or, vT_not, vT_cmp, vT_chain, vT_v, vT_c, vT_call, vT_bi, vT_isi, vT_ix, vC_nil, vC_cons, vs_nil, vs_cons, vA_t, vA_f, vA_n, vO_nil, vO_cons, vI_seq, vI_rng1, vI_rng2, vI_enum, vI_zip, vX_skip, vX_sq, vX_asg, vX_par, vX_seti, vX_seti2, vX_ex, vX_ret, vX_retn, vX_ite, vX_for, vX_brk, vX_cnt, vthen_nx, vthen_rt, vthen_bk, vthen_ct, vgo_nx, vgo_ct, vgo_bk, vgo_rt, fin_rt, fin_nx, back_ok, wb_t, wb_f, wb_n, wb_e, hdS_c, b_add, b_sub, c_lt, c_le, c_gt, c_ge, c_eqi, c_nei, c_nes, c_eqs, c_isn, c_isnn, t_bl, t_int, t_non, vseq_t, vseq_l, as_int, len_l, len_t, len_r, bi_int, bi_intb, bi_abs, bi_max2, bi_min2, bi_tup_t, bi_tup_l, bi_list_t, bi_list_l, neg_int, sl_t, sl_l, sl_r, rev_t, rev_l, lenOk_nil, lenOk_1, lenOk_2, lenOk_3, lenOk_4, lenOk_5, lenOk_6, ix_t0, ix_t1, ix_t2, ix_t3, ix_t4, ix_l0, ix_l1, ix_l2, Wp_ok, cl_int, cl_non, cl_tup, cl_lst, Q.bind_ok, Q.bind_exc, Q.bind_no, Q.of_some, Q.of_none, Q.calm_ok, if_true, if_false, Bool.false_eq_true, Bool.true_eq_false, decide_true, decide_false, Bool.not_true, Bool.not_false, Bool.and_true, Bool.true_and, Bool.and_false, Bool.false_and, Bool.or_true, Bool.or_false, Bool.true_or, Bool.false_or, Bool.not_not, not_true_eq_false, not_false_eq_true, List.map_cons, List.map_nil, List.length_map, List.take_succ_cons, List.take_zero, List.tail_cons, List.nil_append, List.cons_append, List.append_nil, asgQ, parQ, List.reduceReplicate, List.length_cons, List.length_nil, Nat.reduceSub, Nat.reduceAdd, Nat.zero_add, Wp_ok, decide_eq_true_eq, isNon, List.reverse_cons, List.reverse_nil, Bool.not_eq_true', decide_eq_false_iff_not, bne_iff_ne, ne_eq, startS, Mine.v, factW, fanF]
theorem all_facts_ok (D : D_all_facts tab kt ix) {K : Nat} (hK : 2 ≤ K) (m : Mine) (fs : List Fact) (hf : fs.length ≤ 100000) {fw : W} (hw : fw = .lst (fs.map factW) ∨ fw = .tup (fs.map factW)) : vcallN tab kt K (ix n_all_facts) [m.v, fw] = .ok (.tup ((known m fs).map factW)) [some m.v, some fw] := by
  obtain ⟨K, rfl⟩ : ∃ k, K = k + 1 := ⟨K - 1, by omega⟩
  rw [D.me.enter rfl]
  have e := fan_ok D.c_fan_fact (K := K) (by omega) m
  have ad := b_add1 (factW (fanF m)) (b := fs.map factW) (by simp; omega)
  rcases hw with rfl | rfl <;> simp only [sh_all_facts, getS_z, getS_s, setS_z, setS_s, wipe_n, wipe_c, rest_n, rest_c, asg_nm, asg_nil, asg_cons, par_nil, par_cons, vE_v, vE_c, vE_bin, vE_neg, vE_cmp, vE_chain, vE_and, vE_or, vE_not, vE_ite, vE_call, vE_bi, vE_isi, vE_mt, vE_tup, vE_lst, vE_ix, vE_sl, vE_rev, vE_lrg, vE_lc, vT_and, vT_or, vT_not, vT_cmp, vT_chain, vT_v, vT_c, vT_call, vT_bi, vT_isi, vT_ix, vC_nil, vC_cons, vs_nil, vs_cons, vA_t, vA_f, vA_n, vO_nil, vO_cons, vI_seq, vI_rng1, vI_rng2, vI_enum, vI_zip, vX_skip, vX_sq, vX_asg, vX_par, vX_seti, vX_seti2, vX_ex, vX_ret, vX_retn, vX_ite, vX_for, vX_brk, vX_cnt, vthen_nx, vthen_rt, vthen_bk, vthen_ct, vgo_nx, vgo_ct, vgo_bk, vgo_rt, fin_rt, fin_nx, back_ok, wb_t, wb_f, wb_n, wb_e, hdS_c, b_add, b_sub, c_lt, c_le, c_gt, c_ge, c_eqi, c_nei, c_nes, c_eqs, c_isn, c_isnn, t_bl, t_int, t_non, vseq_t, vseq_l, as_int, len_l, len_t, len_r, bi_int, bi_intb, bi_abs, bi_max2, bi_min2, bi_tup_t, bi_tup_l, bi_list_t, bi_list_l, neg_int, sl_t, sl_l, sl_r, rev_t, rev_l, lenOk_nil, lenOk_1, lenOk_2, lenOk_3, lenOk_4, lenOk_5, lenOk_6, ix_t0, ix_t1, ix_t2, ix_t3, ix_t4, ix_l0, ix_l1, ix_l2, Wp_ok, cl_int, cl_non, cl_tup, cl_lst, Q.bind_ok, Q.bind_exc, Q.bind_no, Q.of_some, Q.of_none, Q.calm_ok, if_true, if_false, Bool.false_eq_true, Bool.true_eq_false, decide_true, decide_false, Bool.not_true, Bool.not_false, Bool.and_true, Bool.true_and, Bool.and_false, Bool.false_and, Bool.or_true, Bool.or_false, Bool.true_or, Bool.false_or, Bool.not_not, not_true_eq_false, not_false_eq_true, List.map_cons, List.map_nil, List.length_map, List.take_succ_cons, List.take_zero, List.tail_cons, List.nil_append, List.cons_append, List.append_nil, asgQ, parQ, List.reduceReplicate, List.length_cons, List.length_nil, Nat.reduceSub, Nat.reduceAdd, Nat.zero_add, Wp_ok, decide_eq_true_eq, isNon, List.reverse_cons, List.reverse_nil, Bool.not_eq_true', decide_eq_false_iff_not, bne_iff_ne, ne_eq, startS, D.c_fan_fact.me.iof, k_fan_fact, Kd.io, e, ad, known]
/-- air arrives (above) and cannot leave, or leaves and cannot arrive -/
def pairD (above : Bool) (x z s : Int) : Fact := if above = true then (z, x, s) else (x, z, s)
def shutB (kn : List Fact) (fars : List Int) (x : Int) (above : Bool) : Bool := (fars.all fun z => decide (pairD above x z 1 ∈ kn) || decide (pairD above x z 0 ∈ kn)) && fars.any fun z => decide (pairD above x z 1 ∈ kn)
theorem fars_ways (E : List (Int × Int)) (x : Int) : ∀ i : Int, ((enumZ i E).filter fun q => atB x q.2).map (fun q => other x q.2) = (E.filter (atB x)).map (other x) := by
  induction E with
  | nil => intro i; rfl
  | cons p E ih => intro i; by_cases h : atB x p = true <;> simp [enumZ, List.filter_cons, h, ih]
theorem shut_ok (D : D_is_shut_in tab kt ix) {K : Nat} (hK : 2 ≤ K) (m : Mine) (hm : m.E.length ≤ 1000) (kn : List Fact) (x : Int) (above : Bool) :
    vcallN tab kt K (ix n_is_shut_in) [m.v, .tup (kn.map factW), .int x, .bl above] = .ok (.bl (shutB kn (farsAt m.E x) x above)) [some m.v, some (.tup (kn.map factW)), some (.int x), some (.bl above)] := by
  obtain ⟨K, rfl⟩ : ∃ k, K = k + 1 := ⟨K - 1, by omega⟩
  rw [D.me.enter rfl]
  have e1 := ways_at_ok D.c_ways_at (K := K) (by omega) m hm x
  -- the loop over the numbers of the ways with their ways
  have hW : (waysAt m.E x).map W.int = ((enumZ 0 m.E).filter fun q => atB x q.2).map fun q => W.int q.1 := by simp [waysAt]
  let ok : Int × (Int × Int) → Bool := fun q => decide (pairD above x (other x q.2) 1 ∈ kn) || decide (pairD above x (other x q.2) 0 ∈ kn)
  let st : Int × (Int × Int) → Bool := fun q => decide (pairD above x (other x q.2) 1 ∈ kn)
  have lp := for_inv (t := .nm 5) (b := vX (vcallN tab kt K) (ioOf kt) (.fgt [5, 6, 7, 8] (sb_is_shut_in_0 ix))) (fun q : Int × (Int × Int) => W.int q.1)
    (fun pre s => s = [some m.v, some (.tup (kn.map factW)), some (.int x), some (.bl above), some (.bl (pre.any st)), none, none, none, none] ∧ pre.all ok = true) ((enumZ 0 m.E).filter fun q => atB x q.2)
    (post := fun r s => (r = .nx ∧ s = [some m.v, some (.tup (kn.map factW)), some (.int x), some (.bl above), some (.bl (((enumZ 0 m.E).filter fun q => atB x q.2).any st)), none, none, none, none] ∧ ((enumZ 0 m.E).filter fun q => atB x q.2).all ok = true) ∨ (r = .rt (.bl false) ∧ s.take 4 = [some m.v, some (.tup (kn.map factW)), some (.int x), some (.bl above)] ∧ ((enumZ 0 m.E).filter fun q => atB x q.2).all ok = false))
    (fun pre q rest s hl i => by
      obtain ⟨rfl, ha⟩ := i
      refine ⟨_, rfl, ?_⟩
      have hq : q ∈ (enumZ 0 m.E).filter fun q => atB x q.2 := by rw [hl]; simp
      obtain ⟨hq1, hq2⟩ := List.mem_filter.mp hq
      obtain ⟨w, p⟩ := q
      obtain ⟨w0, wp⟩ := enumZ_mem.mp hq1
      have e2 := far_end_ok D.c_far_end (K := K) (by omega) m (x := x) (p := p) w0 (by simpa using wp)
      simp only [vX_fgt]
      unfold sb_is_shut_in_0
      have i1 := in_fact (pairD above x (other x p) 1) kn
      have i0 := in_fact (pairD above x (other x p) 0) kn
      have hok : ok (w, p) = (decide (pairD above x (other x p) 1 ∈ kn) || decide (pairD above x (other x p) 0 ∈ kn)) := rfl
      have hst : st (w, p) = decide (pairD above x (other x p) 1 ∈ kn) := rfl
      generalize hf1 : decide (pairD above x (other x p) 1 ∈ kn) = f1 at i1 hok hst
      generalize hf0 : decide (pairD above x (other x p) 0 ∈ kn) = f0 at i0 hok
      have fin : (f1 || f0) = true → (pre ++ [(w, p)]).all ok = true := fun h => by simp [ha, hok, h]
      have bad : (f1 || f0) = false → ((enumZ 0 m.E).filter fun q => atB x q.2).all ok = false := fun h => by rw [hl]; simp [hok, h]
      cases above <;> simp only [pairD, if_true, if_false, Bool.false_eq_true] at i1 i0 <;> cases f1 <;> cases f0 <;>
        simp only [getS_z, getS_s, setS_z, setS_s, wipe_n, wipe_c, rest_n, rest_c, asg_nm, asg_nil, asg_cons, par_nil, par_cons, vE_v, vE_c, vE_bin, vE_neg, vE_cmp, vE_chain, vE_and, vE_or, vE_not, vE_ite, vE_call, vE_bi, vE_isi, vE_mt, vE_tup, vE_lst, vE_ix, vE_sl, vE_rev, vE_lrg, vE_lc, vT_and, vT_or, vT_not, vT_cmp, vT_chain, vT_v, vT_c, vT_call, vT_bi, vT_isi, vT_ix, vC_nil, vC_cons, vs_nil, vs_cons, vA_t, vA_f, vA_n, vO_nil, vO_cons, vI_seq, vI_rng1, vI_rng2, vI_enum, vI_zip, vX_skip, vX_sq, vX_asg, vX_par, vX_seti, vX_seti2, vX_ex, vX_ret, vX_retn, vX_ite, vX_for, vX_brk, vX_cnt, vthen_nx, vthen_rt, vthen_bk, vthen_ct, vgo_nx, vgo_ct, vgo_bk, vgo_rt, fin_rt, fin_nx, back_ok, wb_t, wb_f, wb_n, wb_e, hdS_c, b_add, b_sub, c_lt, c_le, c_gt, c_ge, c_eqi, c_nei, c_nes, c_eqs, c_isn, c_isnn, t_bl, t_int, t_non, vseq_t, vseq_l, as_int, len_l, len_t, len_r, bi_int, bi_intb, bi_abs, bi_max2, bi_min2, bi_tup_t, bi_tup_l, bi_list_t, bi_list_l, neg_int, sl_t, sl_l, sl_r, rev_t, rev_l, lenOk_nil, lenOk_1, lenOk_2, lenOk_3, lenOk_4, lenOk_5, lenOk_6, ix_t0, ix_t1, ix_t2, ix_t3, ix_t4, ix_l0, ix_l1, ix_l2, Wp_ok, cl_int, cl_non, cl_tup, cl_lst, Q.bind_ok, Q.bind_exc, Q.bind_no, Q.of_some, Q.of_none, Q.calm_ok, if_true, if_false, Bool.false_eq_true, Bool.true_eq_false, decide_true, decide_false, Bool.not_true, Bool.not_false, Bool.and_true, Bool.true_and, Bool.and_false, Bool.false_and, Bool.or_true, Bool.or_false, Bool.true_or, Bool.false_or, Bool.not_not, not_true_eq_false, not_false_eq_true, List.map_cons, List.map_nil, List.length_map, List.take_succ_cons, List.take_zero, List.tail_cons, List.nil_append, List.cons_append, List.append_nil, asgQ, parQ, List.reduceReplicate, List.length_cons, List.length_nil, Nat.reduceSub, Nat.reduceAdd, Nat.zero_add, Wp_ok, decide_eq_true_eq, isNon, List.reverse_cons, List.reverse_nil, Bool.not_eq_true', decide_eq_false_iff_not, bne_iff_ne, ne_eq, D.c_far_end.me.iof, k_far_end, Kd.io, e2, i1, i0, turnP] <;>
        first
          | exact .inr ⟨trivial, trivial, bad rfl⟩
          | exact ⟨by simp [hst], fin rfl⟩)
    (fun s i => .inl ⟨rfl, i.1, i.2⟩) _ ⟨rfl, rfl⟩
  obtain ⟨r, s, el, hr⟩ := lp.get
  rw [← hW] at el
  have hall : ((enumZ 0 m.E).filter fun q => atB x q.2).all ok = (farsAt m.E x).all fun z => decide (pairD above x z 1 ∈ kn) || decide (pairD above x z 0 ∈ kn) := by
    rw [farsAt, ← fars_ways m.E x 0, List.all_map]; rfl
  have hany : ((enumZ 0 m.E).filter fun q => atB x q.2).any st = (farsAt m.E x).any fun z => decide (pairD above x z 1 ∈ kn) := by
    rw [farsAt, ← fars_ways m.E x 0, List.any_map]; rfl
  simp only [List.any_nil] at el
  rcases hr with ⟨rfl, rfl, ha⟩ | ⟨rfl, hs, ha⟩
  · rw [hall] at ha
    simp only [sh_is_shut_in, getS_z, getS_s, setS_z, setS_s, wipe_n, wipe_c, rest_n, rest_c, asg_nm, asg_nil, asg_cons, par_nil, par_cons, vE_v, vE_c, vE_bin, vE_neg, vE_cmp, vE_chain, vE_and, vE_or, vE_not, vE_ite, vE_call, vE_bi, vE_isi, vE_mt, vE_tup, vE_lst, vE_ix, vE_sl, vE_rev, vE_lrg, vE_lc, vT_and, vT_or, vT_not, vT_cmp, vT_chain, vT_v, vT_c, vT_call, vT_bi, vT_isi, vT_ix, vC_nil, vC_cons, vs_nil, vs_cons, vA_t, vA_f, vA_n, vO_nil, vO_cons, vI_seq, vI_rng1, vI_rng2, vI_enum, vI_zip, vX_skip, vX_sq, vX_asg, vX_par, vX_seti, vX_seti2, vX_ex, vX_ret, vX_retn, vX_ite, vX_for, vX_brk, vX_cnt, vthen_nx, vthen_rt, vthen_bk, vthen_ct, vgo_nx, vgo_ct, vgo_bk, vgo_rt, fin_rt, fin_nx, back_ok, wb_t, wb_f, wb_n, wb_e, hdS_c, b_add, b_sub, c_lt, c_le, c_gt, c_ge, c_eqi, c_nei, c_nes, c_eqs, c_isn, c_isnn, t_bl, t_int, t_non, vseq_t, vseq_l, as_int, len_l, len_t, len_r, bi_int, bi_intb, bi_abs, bi_max2, bi_min2, bi_tup_t, bi_tup_l, bi_list_t, bi_list_l, neg_int, sl_t, sl_l, sl_r, rev_t, rev_l, lenOk_nil, lenOk_1, lenOk_2, lenOk_3, lenOk_4, lenOk_5, lenOk_6, ix_t0, ix_t1, ix_t2, ix_t3, ix_t4, ix_l0, ix_l1, ix_l2, Wp_ok, cl_int, cl_non, cl_tup, cl_lst, Q.bind_ok, Q.bind_exc, Q.bind_no, Q.of_some, Q.of_none, Q.calm_ok, if_true, if_false, Bool.false_eq_true, Bool.true_eq_false, decide_true, decide_false, Bool.not_true, Bool.not_false, Bool.and_true, Bool.true_and, Bool.and_false, Bool.false_and, Bool.or_true, Bool.or_false, Bool.true_or, Bool.false_or, Bool.not_not, not_true_eq_false, not_false_eq_true, List.map_cons, List.map_nil, List.length_map, List.take_succ_cons, List.take_zero, List.tail_cons, List.nil_append, List.cons_append, List.append_nil, asgQ, parQ, List.reduceReplicate, List.length_cons, List.length_nil, Nat.reduceSub, Nat.reduceAdd, Nat.zero_add, Wp_ok, decide_eq_true_eq, isNon, List.reverse_cons, List.reverse_nil, Bool.not_eq_true', decide_eq_false_iff_not, bne_iff_ne, ne_eq, startS, D.c_ways_at.me.iof, k_ways_at, Kd.io, e1, el, shutB, ha, hany]
  · rw [hall] at ha
    simp only [sh_is_shut_in, getS_z, getS_s, setS_z, setS_s, wipe_n, wipe_c, rest_n, rest_c, asg_nm, asg_nil, asg_cons, par_nil, par_cons, vE_v, vE_c, vE_bin, vE_neg, vE_cmp, vE_chain, vE_and, vE_or, vE_not, vE_ite, vE_call, vE_bi, vE_isi, vE_mt, vE_tup, vE_lst, vE_ix, vE_sl, vE_rev, vE_lrg, vE_lc, vT_and, vT_or, vT_not, vT_cmp, vT_chain, vT_v, vT_c, vT_call, vT_bi, vT_isi, vT_ix, vC_nil, vC_cons, vs_nil, vs_cons, vA_t, vA_f, vA_n, vO_nil, vO_cons, vI_seq, vI_rng1, vI_rng2, vI_enum, vI_zip, vX_skip, vX_sq, vX_asg, vX_par, vX_seti, vX_seti2, vX_ex, vX_ret, vX_retn, vX_ite, vX_for, vX_brk, vX_cnt, vthen_nx, vthen_rt, vthen_bk, vthen_ct, vgo_nx, vgo_ct, vgo_bk, vgo_rt, fin_rt, fin_nx, back_ok, wb_t, wb_f, wb_n, wb_e, hdS_c, b_add, b_sub, c_lt, c_le, c_gt, c_ge, c_eqi, c_nei, c_nes, c_eqs, c_isn, c_isnn, t_bl, t_int, t_non, vseq_t, vseq_l, as_int, len_l, len_t, len_r, bi_int, bi_intb, bi_abs, bi_max2, bi_min2, bi_tup_t, bi_tup_l, bi_list_t, bi_list_l, neg_int, sl_t, sl_l, sl_r, rev_t, rev_l, lenOk_nil, lenOk_1, lenOk_2, lenOk_3, lenOk_4, lenOk_5, lenOk_6, ix_t0, ix_t1, ix_t2, ix_t3, ix_t4, ix_l0, ix_l1, ix_l2, Wp_ok, cl_int, cl_non, cl_tup, cl_lst, Q.bind_ok, Q.bind_exc, Q.bind_no, Q.of_some, Q.of_none, Q.calm_ok, if_true, if_false, Bool.false_eq_true, Bool.true_eq_false, decide_true, decide_false, Bool.not_true, Bool.not_false, Bool.and_true, Bool.true_and, Bool.and_false, Bool.false_and, Bool.or_true, Bool.or_false, Bool.true_or, Bool.false_or, Bool.not_not, not_true_eq_false, not_false_eq_true, List.map_cons, List.map_nil, List.length_map, List.take_succ_cons, List.take_zero, List.tail_cons, List.nil_append, List.cons_append, List.append_nil, asgQ, parQ, List.reduceReplicate, List.length_cons, List.length_nil, Nat.reduceSub, Nat.reduceAdd, Nat.zero_add, Wp_ok, decide_eq_true_eq, isNon, List.reverse_cons, List.reverse_nil, Bool.not_eq_true', decide_eq_false_iff_not, bne_iff_ne, ne_eq, startS, D.c_ways_at.me.iof, k_ways_at, Kd.io, e1, el, shutB, ha, hs]
def stuckB (m : Mine) (fs : List Fact) (x : Int) : Bool := shutB (known m fs) (farsAt m.E x) x true || shutB (known m fs) (farsAt m.E x) x false
theorem stuck_ok (D : D_is_stuck tab kt ix) {K : Nat} (hK : 3 ≤ K) (m : Mine) (hm : m.E.length ≤ 1000) (fs : List Fact) (hf : fs.length ≤ 100000) (x : Int) {fw : W} (hw : fw = .lst (fs.map factW) ∨ fw = .tup (fs.map factW)) :
    vcallN tab kt K (ix n_is_stuck) [m.v, fw, .int x] = .ok (.bl (stuckB m fs x)) [some m.v, some fw, some (.int x)] := by
  obtain ⟨K, rfl⟩ : ∃ k, K = k + 1 := ⟨K - 1, by omega⟩
  rw [D.me.enter rfl]
  have e := all_facts_ok D.c_all_facts (K := K) (by omega) m fs hf hw
  have e1 := shut_ok D.c_is_shut_in (K := K) (by omega) m hm (known m fs) x true
  have e2 := shut_ok D.c_is_shut_in (K := K) (by omega) m hm (known m fs) x false
  generalize hb : shutB (known m fs) (farsAt m.E x) x true = b at e1
  cases b <;> simp only [sh_is_stuck, getS_z, getS_s, setS_z, setS_s, wipe_n, wipe_c, rest_n, rest_c, asg_nm, asg_nil, asg_cons, par_nil, par_cons, vE_v, vE_c, vE_bin, vE_neg, vE_cmp, vE_chain, vE_and, vE_or, vE_not, vE_ite, vE_call, vE_bi, vE_isi, vE_mt, vE_tup, vE_lst, vE_ix, vE_sl, vE_rev, vE_lrg, vE_lc, vT_and, vT_or, vT_not, vT_cmp, vT_chain, vT_v, vT_c, vT_call, vT_bi, vT_isi, vT_ix, vC_nil, vC_cons, vs_nil, vs_cons, vA_t, vA_f, vA_n, vO_nil, vO_cons, vI_seq, vI_rng1, vI_rng2, vI_enum, vI_zip, vX_skip, vX_sq, vX_asg, vX_par, vX_seti, vX_seti2, vX_ex, vX_ret, vX_retn, vX_ite, vX_for, vX_brk, vX_cnt, vthen_nx, vthen_rt, vthen_bk, vthen_ct, vgo_nx, vgo_ct, vgo_bk, vgo_rt, fin_rt, fin_nx, back_ok, wb_t, wb_f, wb_n, wb_e, hdS_c, b_add, b_sub, c_lt, c_le, c_gt, c_ge, c_eqi, c_nei, c_nes, c_eqs, c_isn, c_isnn, t_bl, t_int, t_non, vseq_t, vseq_l, as_int, len_l, len_t, len_r, bi_int, bi_intb, bi_abs, bi_max2, bi_min2, bi_tup_t, bi_tup_l, bi_list_t, bi_list_l, neg_int, sl_t, sl_l, sl_r, rev_t, rev_l, lenOk_nil, lenOk_1, lenOk_2, lenOk_3, lenOk_4, lenOk_5, lenOk_6, ix_t0, ix_t1, ix_t2, ix_t3, ix_t4, ix_l0, ix_l1, ix_l2, Wp_ok, cl_int, cl_non, cl_tup, cl_lst, Q.bind_ok, Q.bind_exc, Q.bind_no, Q.of_some, Q.of_none, Q.calm_ok, if_true, if_false, Bool.false_eq_true, Bool.true_eq_false, decide_true, decide_false, Bool.not_true, Bool.not_false, Bool.and_true, Bool.true_and, Bool.and_false, Bool.false_and, Bool.or_true, Bool.or_false, Bool.true_or, Bool.false_or, Bool.not_not, not_true_eq_false, not_false_eq_true, List.map_cons, List.map_nil, List.length_map, List.take_succ_cons, List.take_zero, List.tail_cons, List.nil_append, List.cons_append, List.append_nil, asgQ, parQ, List.reduceReplicate, List.length_cons, List.length_nil, Nat.reduceSub, Nat.reduceAdd, Nat.zero_add, Wp_ok, decide_eq_true_eq, isNon, List.reverse_cons, List.reverse_nil, Bool.not_eq_true', decide_eq_false_iff_not, bne_iff_ne, ne_eq, startS, D.c_all_facts.me.iof, k_all_facts, D.c_is_shut_in.me.iof, k_is_shut_in, Kd.io, e, e1, e2, stuckB, hb]
def stuckL (m : Mine) (fs : List Fact) : List Int := (innerL m).filter (stuckB m fs)
theorem places_ok (D : D_stuck_places tab kt ix) {K : Nat} (hK : 4 ≤ K) (m : Mine) (h2 : 0 ≤ m.n) (h8 : m.n ≤ 1000) (hm : m.E.length ≤ 1000) (fs : List Fact) (hf : fs.length ≤ 100000) {fw : W} (hw : fw = .lst (fs.map factW) ∨ fw = .tup (fs.map factW)) :
    vcallN tab kt K (ix n_stuck_places) [m.v, fw] = .ok (.tup ((stuckL m fs).map .int)) [some m.v, some fw] := by
  obtain ⟨K, rfl⟩ : ∃ k, K = k + 1 := ⟨K - 1, by omega⟩
  rw [D.me.enter rfl]
  have e := inner_ok D.c_inner_places (K := K) (by omega) m h2 h8
  have e2 := lc_fil (s := [some m.v, some fw, none]) (f := lcF (vcallN tab kt K) (ioOf kt) (.v 2) [2] (.nm 2) (.cons (.call (ix n_is_stuck) (.cons (.v 0) (.cons (.v 1) (.cons (.v 2) .nil)))) .nil)) W.int (stuckB m fs) W.int (innerL m) fun x _ => by
    have e3 := stuck_ok D.c_is_stuck (K := K) (by omega) m hm fs hf x hw
    by_cases h : stuckB m fs x = true
    · simp only [lcF, getS_z, getS_s, setS_z, setS_s, wipe_n, wipe_c, rest_n, rest_c, asg_nm, asg_nil, asg_cons, par_nil, par_cons, vE_v, vE_c, vE_bin, vE_neg, vE_cmp, vE_chain, vE_and, vE_or, vE_not, vE_ite, vE_call, vE_bi, vE_isi, vE_mt, vE_tup, vE_lst, vE_ix, vE_sl, vE_rev, vE_lrg, vE_lc, vT_and, vT_or, vT_not, vT_cmp, vT_chain, vT_v, vT_c, vT_call, vT_bi, vT_isi, vT_ix, vC_nil, vC_cons, vs_nil, vs_cons, vA_t, vA_f, vA_n, vO_nil, vO_cons, vI_seq, vI_rng1, vI_rng2, vI_enum, vI_zip, vX_skip, vX_sq, vX_asg, vX_par, vX_seti, vX_seti2, vX_ex, vX_ret, vX_retn, vX_ite, vX_for, vX_brk, vX_cnt, vthen_nx, vthen_rt, vthen_bk, vthen_ct, vgo_nx, vgo_ct, vgo_bk, vgo_rt, fin_rt, fin_nx, back_ok, wb_t, wb_f, wb_n, wb_e, hdS_c, b_add, b_sub, c_lt, c_le, c_gt, c_ge, c_eqi, c_nei, c_nes, c_eqs, c_isn, c_isnn, t_bl, t_int, t_non, vseq_t, vseq_l, as_int, len_l, len_t, len_r, bi_int, bi_intb, bi_abs, bi_max2, bi_min2, bi_tup_t, bi_tup_l, bi_list_t, bi_list_l, neg_int, sl_t, sl_l, sl_r, rev_t, rev_l, lenOk_nil, lenOk_1, lenOk_2, lenOk_3, lenOk_4, lenOk_5, lenOk_6, ix_t0, ix_t1, ix_t2, ix_t3, ix_t4, ix_l0, ix_l1, ix_l2, Wp_ok, cl_int, cl_non, cl_tup, cl_lst, Q.bind_ok, Q.bind_exc, Q.bind_no, Q.of_some, Q.of_none, Q.calm_ok, if_true, if_false, Bool.false_eq_true, Bool.true_eq_false, decide_true, decide_false, Bool.not_true, Bool.not_false, Bool.and_true, Bool.true_and, Bool.and_false, Bool.false_and, Bool.or_true, Bool.or_false, Bool.true_or, Bool.false_or, Bool.not_not, not_true_eq_false, not_false_eq_true, List.map_cons, List.map_nil, List.length_map, List.take_succ_cons, List.take_zero, List.tail_cons, List.nil_append, List.cons_append, List.append_nil, asgQ, parQ, List.reduceReplicate, List.length_cons, List.length_nil, Nat.reduceSub, Nat.reduceAdd, Nat.zero_add, Wp_ok, decide_eq_true_eq, isNon, List.reverse_cons, List.reverse_nil, Bool.not_eq_true', decide_eq_false_iff_not, bne_iff_ne, ne_eq, D.c_is_stuck.me.iof, k_is_stuck, Kd.io, e3, h]
    · simp only [lcF, getS_z, getS_s, setS_z, setS_s, wipe_n, wipe_c, rest_n, rest_c, asg_nm, asg_nil, asg_cons, par_nil, par_cons, vE_v, vE_c, vE_bin, vE_neg, vE_cmp, vE_chain, vE_and, vE_or, vE_not, vE_ite, vE_call, vE_bi, vE_isi, vE_mt, vE_tup, vE_lst, vE_ix, vE_sl, vE_rev, vE_lrg, vE_lc, vT_and, vT_or, vT_not, vT_cmp, vT_chain, vT_v, vT_c, vT_call, vT_bi, vT_isi, vT_ix, vC_nil, vC_cons, vs_nil, vs_cons, vA_t, vA_f, vA_n, vO_nil, vO_cons, vI_seq, vI_rng1, vI_rng2, vI_enum, vI_zip, vX_skip, vX_sq, vX_asg, vX_par, vX_seti, vX_seti2, vX_ex, vX_ret, vX_retn, vX_ite, vX_for, vX_brk, vX_cnt, vthen_nx, vthen_rt, vthen_bk, vthen_ct, vgo_nx, vgo_ct, vgo_bk, vgo_rt, fin_rt, fin_nx, back_ok, wb_t, wb_f, wb_n, wb_e, hdS_c, b_add, b_sub, c_lt, c_le, c_gt, c_ge, c_eqi, c_nei, c_nes, c_eqs, c_isn, c_isnn, t_bl, t_int, t_non, vseq_t, vseq_l, as_int, len_l, len_t, len_r, bi_int, bi_intb, bi_abs, bi_max2, bi_min2, bi_tup_t, bi_tup_l, bi_list_t, bi_list_l, neg_int, sl_t, sl_l, sl_r, rev_t, rev_l, lenOk_nil, lenOk_1, lenOk_2, lenOk_3, lenOk_4, lenOk_5, lenOk_6, ix_t0, ix_t1, ix_t2, ix_t3, ix_t4, ix_l0, ix_l1, ix_l2, Wp_ok, cl_int, cl_non, cl_tup, cl_lst, Q.bind_ok, Q.bind_exc, Q.bind_no, Q.of_some, Q.of_none, Q.calm_ok, if_true, if_false, Bool.false_eq_true, Bool.true_eq_false, decide_true, decide_false, Bool.not_true, Bool.not_false, Bool.and_true, Bool.true_and, Bool.and_false, Bool.false_and, Bool.or_true, Bool.or_false, Bool.true_or, Bool.false_or, Bool.not_not, not_true_eq_false, not_false_eq_true, List.map_cons, List.map_nil, List.length_map, List.take_succ_cons, List.take_zero, List.tail_cons, List.nil_append, List.cons_append, List.append_nil, asgQ, parQ, List.reduceReplicate, List.length_cons, List.length_nil, Nat.reduceSub, Nat.reduceAdd, Nat.zero_add, Wp_ok, decide_eq_true_eq, isNon, List.reverse_cons, List.reverse_nil, Bool.not_eq_true', decide_eq_false_iff_not, bne_iff_ne, ne_eq, D.c_is_stuck.me.iof, k_is_stuck, Kd.io, e3, h]
  have hl : ((innerL m).filter (stuckB m fs)).length ≤ 1000 := Nat.le_trans (List.length_filter_le _ _) (Nat.le_trans (innerL_len m) (by omega))
  have l1 : lenOk (((innerL m).filter (stuckB m fs)).map .int) = true := lenOk_of (by simp; omega)
  simp only [sh_stuck_places, getS_z, getS_s, setS_z, setS_s, wipe_n, wipe_c, rest_n, rest_c, asg_nm, asg_nil, asg_cons, par_nil, par_cons, vE_v, vE_c, vE_bin, vE_neg, vE_cmp, vE_chain, vE_and, vE_or, vE_not, vE_ite, vE_call, vE_bi, vE_isi, vE_mt, vE_tup, vE_lst, vE_ix, vE_sl, vE_rev, vE_lrg, vE_lc, vT_and, vT_or, vT_not, vT_cmp, vT_chain, vT_v, vT_c, vT_call, vT_bi, vT_isi, vT_ix, vC_nil, vC_cons, vs_nil, vs_cons, vA_t, vA_f, vA_n, vO_nil, vO_cons, vI_seq, vI_rng1, vI_rng2, vI_enum, vI_zip, vX_skip, vX_sq, vX_asg, vX_par, vX_seti, vX_seti2, vX_ex, vX_ret, vX_retn, vX_ite, vX_for, vX_brk, vX_cnt, vthen_nx, vthen_rt, vthen_bk, vthen_ct, vgo_nx, vgo_ct, vgo_bk, vgo_rt, fin_rt, fin_nx, back_ok, wb_t, wb_f, wb_n, wb_e, hdS_c, b_add, b_sub, c_lt, c_le, c_gt, c_ge, c_eqi, c_nei, c_nes, c_eqs, c_isn, c_isnn, t_bl, t_int, t_non, vseq_t, vseq_l, as_int, len_l, len_t, len_r, bi_int, bi_intb, bi_abs, bi_max2, bi_min2, bi_tup_t, bi_tup_l, bi_list_t, bi_list_l, neg_int, sl_t, sl_l, sl_r, rev_t, rev_l, lenOk_nil, lenOk_1, lenOk_2, lenOk_3, lenOk_4, lenOk_5, lenOk_6, ix_t0, ix_t1, ix_t2, ix_t3, ix_t4, ix_l0, ix_l1, ix_l2, Wp_ok, cl_int, cl_non, cl_tup, cl_lst, Q.bind_ok, Q.bind_exc, Q.bind_no, Q.of_some, Q.of_none, Q.calm_ok, if_true, if_false, Bool.false_eq_true, Bool.true_eq_false, decide_true, decide_false, Bool.not_true, Bool.not_false, Bool.and_true, Bool.true_and, Bool.and_false, Bool.false_and, Bool.or_true, Bool.or_false, Bool.true_or, Bool.false_or, Bool.not_not, not_true_eq_false, not_false_eq_true, List.map_cons, List.map_nil, List.length_map, List.take_succ_cons, List.take_zero, List.tail_cons, List.nil_append, List.cons_append, List.append_nil, asgQ, parQ, List.reduceReplicate, List.length_cons, List.length_nil, Nat.reduceSub, Nat.reduceAdd, Nat.zero_add, Wp_ok, decide_eq_true_eq, isNon, List.reverse_cons, List.reverse_nil, Bool.not_eq_true', decide_eq_false_iff_not, bne_iff_ne, ne_eq, startS, D.c_inner_places.me.iof, k_inner_places, Kd.io, e, e2, l1, stuckL]
end Vm
end

section
set_option Elab.async false
set_option linter.all false
set_option maxRecDepth 100000
set_option maxHeartbeats 4000000
/-! Texts of data; facts drawn. -/
namespace Vm
open PySem Wm
variable {tab : List Fn} {kt : List Ki} {ix : Nat → Nat}
/-! ### texts -/
def sml : Nat → W → Bool
  | _, .non => true
  | _, .bl _ => true
  | _, .int i => decide (i.natAbs < 2 ^ 99)
  | n + 1, .tup ws => ws.all (sml n)
  | n + 1, .lst ws => ws.all (sml n)
  | _, _ => false
mutual
def wtW : W → Nat
  | .tup ws => 3 + wtWs ws
  | .lst ws => 3 + wtWs ws
  | _ => 102
def wtWs : List W → Nat
  | [] => 0
  | w :: ws => (wtW w + 2) + wtWs ws
end
theorem sml_td : ∀ (n : Nat) (w : W), sml n w = true → ∃ d, td n w = some d ∧ dSml d = true ∧ dWt d ≤ wtW w := by
  intro n
  induction n with
  | zero =>
    intro w h
    cases w <;> simp only [sml] at h <;> first | (cases h; done) | skip
    · exact ⟨.none, rfl, rfl, by simp [dWt, wtW]⟩
    · exact ⟨.bool _, rfl, rfl, by simp [dWt, wtW]⟩
    · rename_i i
      have hi : i.natAbs < 2 ^ 99 := of_decide_eq_true h
      refine ⟨.int i, rfl, ?_, by simp [dWt, wtW]⟩
      have : i.natAbs.log2 < 100 := by
        by_cases h0 : i.natAbs = 0
        · rw [h0]; decide
        · exact (Nat.log2_lt h0).mpr (by omega)
      simpa [dSml] using this
  | succ n ih =>
    intro w h
    have go : ∀ ws : List W, ws.all (sml n) = true → ∃ ds, toDl (td n) ws = some ds ∧ dSmls ds = true ∧ dWts ds ≤ wtWs ws := by
      intro ws
      induction ws with
      | nil => intro _; exact ⟨[], rfl, rfl, by simp [dWts, wtWs]⟩
      | cons w ws ih2 =>
        intro h
        simp only [List.all_cons, Bool.and_eq_true] at h
        obtain ⟨d, e1, e2, e3⟩ := ih w h.1
        obtain ⟨ds, f1, f2, f3⟩ := ih2 h.2
        exact ⟨d :: ds, by simp [toDl, e1, f1], by simp [dSmls, e2, f2], by simp only [dWts, wtWs]; omega⟩
    cases w <;> simp only [sml] at h <;> first | (cases h; done) | skip
    · exact ⟨.none, rfl, rfl, by simp [dWt, wtW]⟩
    · exact ⟨.bool _, rfl, rfl, by simp [dWt, wtW]⟩
    · rename_i i
      have hi : i.natAbs < 2 ^ 99 := of_decide_eq_true h
      refine ⟨.int i, rfl, ?_, by simp [dWt, wtW]⟩
      have : i.natAbs.log2 < 100 := by
        by_cases h0 : i.natAbs = 0
        · rw [h0]; decide
        · exact (Nat.log2_lt h0).mpr (by omega)
      simpa [dSml] using this
    · obtain ⟨ds, f1, f2, f3⟩ := go _ h
      exact ⟨.tuple ds, by simp [td, f1], by simpa [dSml] using f2, by simp only [dWt, wtW]; omega⟩
    · obtain ⟨ds, f1, f2, f3⟩ := go _ h
      exact ⟨.list ds, by simp [td, f1], by simpa [dSml] using f2, by simp only [dWt, wtW]; omega⟩
/-- the text of small data -/
def rpS (w : W) : Str := match reprV w with
  | some (.str t) => t
  | _ => ""
theorem repr_sml {w : W} (h : sml 60 w = true) (hw : wtW w ≤ 15000000) : biV' .repr [w] = some (.str (rpS w)) := by
  obtain ⟨d, e1, e2, e3⟩ := sml_td 60 w h
  have e := repr_of (x := w) (d := d) e1 e2 (by unfold line; omega)
  have e' : reprV w = some (.str d.shown) := e
  rw [e]
  simp only [rpS, e']
theorem wt_enc {α : Type} {enc : α → W} {B : Nat} (h : ∀ a, wtW (enc a) ≤ B) : ∀ l : List α, wtWs (l.map enc) ≤ (B + 2) * l.length
  | [] => by simp [wtWs]
  | a :: l => by
    have := wt_enc h l
    have := h a
    simp only [List.map_cons, wtWs, List.length_cons]
    rw [Nat.mul_succ]; omega
/-- lists compared with the empty one -/
theorem nil_cmp {ws : List W} (h : ws.all (cl 59) = true) : cmpV .ne (.lst ws) (.lst []) = some (!ws.isEmpty) ∧ cmpV .eq (.lst ws) (.lst []) = some ws.isEmpty ∧ cmpV .ne (.tup ws) (.tup []) = some (!ws.isEmpty) ∧ cmpV .eq (.tup ws) (.tup []) = some ws.isEmpty := by
  have e1 : eqV (.lst ws) (.lst []) = some ws.isEmpty := by
    rw [eq_cl (by rw [cl_lst]; exact h) (by simp)]
    cases ws <;> rfl
  have e2 : eqV (.tup ws) (.tup []) = some ws.isEmpty := by
    rw [eq_cl (by rw [cl_tup]; exact h) (by simp)]
    cases ws <;> rfl
  refine ⟨?_, e1, ?_, e2⟩
  · show (eqV _ _).map not = _; rw [e1]; rfl
  · show (eqV _ _).map not = _; rw [e2]; rfl
theorem cl_enc {α : Type} {enc : α → W} (n : Nat) (h : ∀ a, cl n (enc a) = true) (l : List α) : (l.map enc).all (cl n) = true := all_iff.mpr fun w hw => by
  obtain ⟨a, _, rfl⟩ := List.mem_map.mp hw
  exact h a
theorem sml_enc {α : Type} {enc : α → W} {n : Nat} {l : List α} (h : ∀ a ∈ l, sml n (enc a) = true) : (l.map enc).all (sml n) = true := all_iff.mpr fun w hw => by
  obtain ⟨a, ha, rfl⟩ := List.mem_map.mp hw
  exact h a ha
/-! ### facts drawn -/
/-- a fact of places below n -/
def factOk (n : Int) (f : Fact) : Prop := wayOk n (f.1, f.2.1) ∧ (f.2.2 = 0 ∨ f.2.2 = 1)
theorem fact_ok (D : D_law_fact tab kt ix) {K : Nat} (hK : 4 ≤ K) {p : W} (hp : PenOk p) {n : Int} (h2 : 2 ≤ n) (hn : n < 10 ^ 18) :
    Wp (vcallN tab kt K (ix n_law_fact) [p, .int n]) fun w o => ∃ f p', w = factW f ∧ factOk n f ∧ o = [some p', some (.int n)] ∧ PenOk p' := by
  obtain ⟨K, rfl⟩ : ∃ k, K = k + 1 := ⟨K - 1, by omega⟩
  rw [D.me.enter rfl]
  obtain ⟨w, o, e, q, p1, rfl, hq, rfl, hp1⟩ := (two_ok D.c_law_two_places (K := K) (by omega) hp h2 hn).get
  obtain ⟨w, o, e2, d, p2, rfl, h3, h4, rfl, hp2⟩ := (draw_ok D.c_law_draw (K := K) (by omega) hp1 (b := 2) (by omega) (by omega)).get
  simp only [pairW] at e
  simp only [sh_law_fact, getS_z, getS_s, setS_z, setS_s, wipe_n, wipe_c, rest_n, rest_c, asg_nm, asg_nil, asg_cons, par_nil, par_cons, vE_v, vE_c, vE_bin, vE_neg, vE_cmp, vE_chain, vE_and, vE_or, vE_not, vE_ite, vE_call, vE_bi, vE_isi, vE_mt, vE_tup, vE_lst, vE_ix, vE_sl, vE_rev, vE_lrg, vE_lc, vT_and, vT_or, vT_not, vT_cmp, vT_chain, vT_v, vT_c, vT_call, vT_bi, vT_isi, vT_ix, vC_nil, vC_cons, vs_nil, vs_cons, vA_t, vA_f, vA_n, vO_nil, vO_cons, vI_seq, vI_rng1, vI_rng2, vI_enum, vI_zip, vX_skip, vX_sq, vX_asg, vX_par, vX_seti, vX_seti2, vX_ex, vX_ret, vX_retn, vX_ite, vX_for, vX_brk, vX_cnt, vthen_nx, vthen_rt, vthen_bk, vthen_ct, vgo_nx, vgo_ct, vgo_bk, vgo_rt, fin_rt, fin_nx, back_ok, wb_t, wb_f, wb_n, wb_e, hdS_c, b_add, b_sub, c_lt, c_le, c_gt, c_ge, c_eqi, c_nei, c_nes, c_eqs, c_isn, c_isnn, t_bl, t_int, t_non, vseq_t, vseq_l, as_int, len_l, len_t, len_r, bi_int, bi_intb, bi_abs, bi_max2, bi_min2, bi_tup_t, bi_tup_l, bi_list_t, bi_list_l, neg_int, sl_t, sl_l, sl_r, rev_t, rev_l, lenOk_nil, lenOk_1, lenOk_2, lenOk_3, lenOk_4, lenOk_5, lenOk_6, ix_t0, ix_t1, ix_t2, ix_t3, ix_t4, ix_l0, ix_l1, ix_l2, Wp_ok, cl_int, cl_non, cl_tup, cl_lst, Q.bind_ok, Q.bind_exc, Q.bind_no, Q.of_some, Q.of_none, Q.calm_ok, if_true, if_false, Bool.false_eq_true, Bool.true_eq_false, decide_true, decide_false, Bool.not_true, Bool.not_false, Bool.and_true, Bool.true_and, Bool.and_false, Bool.false_and, Bool.or_true, Bool.or_false, Bool.true_or, Bool.false_or, Bool.not_not, not_true_eq_false, not_false_eq_true, List.map_cons, List.map_nil, List.length_map, List.take_succ_cons, List.take_zero, List.tail_cons, List.nil_append, List.cons_append, List.append_nil, asgQ, parQ, List.reduceReplicate, List.length_cons, List.length_nil, Nat.reduceSub, Nat.reduceAdd, Nat.zero_add, Wp_ok, decide_eq_true_eq, isNon, List.reverse_cons, List.reverse_nil, Bool.not_eq_true', decide_eq_false_iff_not, bne_iff_ne, ne_eq, startS, D.c_law_draw.me.iof, k_law_draw, D.c_law_two_places.me.iof, k_law_two_places, Kd.io, e, e2, b_addp]
  exact ⟨(q.1, q.2, d), p2, rfl, ⟨hq, by show d = 0 ∨ d = 1; omega⟩, rfl, hp2⟩
theorem known_ok (D : D_law_known tab kt ix) {K : Nat} (hK : 1 ≤ K) (m : Mine) (fs : List Fact) (hf : fs.length ≤ 100000) {fw : W} (hw : fw = .lst (fs.map factW) ∨ fw = .tup (fs.map factW)) : vcallN tab kt K (ix n_law_known) [m.v, fw] = .ok (.lst ((known m fs).map factW)) [some m.v, some fw] := by
  obtain ⟨K, rfl⟩ : ∃ k, K = k + 1 := ⟨K - 1, by omega⟩
  rw [D.me.enter rfl]
  have ad := b_add1l (factW (fanF m)) (b := fs.map factW) (by simp; omega)
  simp only [factW, fanF] at ad
  rcases hw with rfl | rfl <;> simp only [sh_law_known, getS_z, getS_s, setS_z, setS_s, wipe_n, wipe_c, rest_n, rest_c, asg_nm, asg_nil, asg_cons, par_nil, par_cons, vE_v, vE_c, vE_bin, vE_neg, vE_cmp, vE_chain, vE_and, vE_or, vE_not, vE_ite, vE_call, vE_bi, vE_isi, vE_mt, vE_tup, vE_lst, vE_ix, vE_sl, vE_rev, vE_lrg, vE_lc, vT_and, vT_or, vT_not, vT_cmp, vT_chain, vT_v, vT_c, vT_call, vT_bi, vT_isi, vT_ix, vC_nil, vC_cons, vs_nil, vs_cons, vA_t, vA_f, vA_n, vO_nil, vO_cons, vI_seq, vI_rng1, vI_rng2, vI_enum, vI_zip, vX_skip, vX_sq, vX_asg, vX_par, vX_seti, vX_seti2, vX_ex, vX_ret, vX_retn, vX_ite, vX_for, vX_brk, vX_cnt, vthen_nx, vthen_rt, vthen_bk, vthen_ct, vgo_nx, vgo_ct, vgo_bk, vgo_rt, fin_rt, fin_nx, back_ok, wb_t, wb_f, wb_n, wb_e, hdS_c, b_add, b_sub, c_lt, c_le, c_gt, c_ge, c_eqi, c_nei, c_nes, c_eqs, c_isn, c_isnn, t_bl, t_int, t_non, vseq_t, vseq_l, as_int, len_l, len_t, len_r, bi_int, bi_intb, bi_abs, bi_max2, bi_min2, bi_tup_t, bi_tup_l, bi_list_t, bi_list_l, neg_int, sl_t, sl_l, sl_r, rev_t, rev_l, lenOk_nil, lenOk_1, lenOk_2, lenOk_3, lenOk_4, lenOk_5, lenOk_6, ix_t0, ix_t1, ix_t2, ix_t3, ix_t4, ix_l0, ix_l1, ix_l2, Wp_ok, cl_int, cl_non, cl_tup, cl_lst, Q.bind_ok, Q.bind_exc, Q.bind_no, Q.of_some, Q.of_none, Q.calm_ok, if_true, if_false, Bool.false_eq_true, Bool.true_eq_false, decide_true, decide_false, Bool.not_true, Bool.not_false, Bool.and_true, Bool.true_and, Bool.and_false, Bool.false_and, Bool.or_true, Bool.or_false, Bool.true_or, Bool.false_or, Bool.not_not, not_true_eq_false, not_false_eq_true, List.map_cons, List.map_nil, List.length_map, List.take_succ_cons, List.take_zero, List.tail_cons, List.nil_append, List.cons_append, List.append_nil, asgQ, parQ, List.reduceReplicate, List.length_cons, List.length_nil, Nat.reduceSub, Nat.reduceAdd, Nat.zero_add, Wp_ok, decide_eq_true_eq, isNon, List.reverse_cons, List.reverse_nil, Bool.not_eq_true', decide_eq_false_iff_not, bne_iff_ne, ne_eq, startS, Mine.v, known, factW, fanF, ad]
/-- one side of the law's own look at a stuck place -/
theorem side_ok {G : Nat → List W → Q W} {io : Nat → List Bool} (m : Mine) (kn : List Fact) (x : Int) (fars : List Int) (above : Bool) (mw fw : W) (hl : fars.length ≤ 1000) :
    Wp (vX G io (.fgt [4, 5, 6] (sb_law_is_stuck_0 ix)) [some mw, some (.lst (kn.map factW)), some (.int x), some fw, some (.lst (fars.map fun z => pairW ((pairD above x z 0).1, (pairD above x z 0).2.1))), none, none, none, none, none, none])
      fun r s => (shutB kn fars x above = true ∧ r = .rt (.bl true) ∧ s.take 3 = [some mw, some (.lst (kn.map factW)), some (.int x)]) ∨ (shutB kn fars x above = false ∧ r = .nx ∧ s = [some mw, some (.lst (kn.map factW)), some (.int x), some fw, none, none, none, none, none, none, none]) := by
  let st : Int → Bool := fun z => decide (pairD above x z 1 ∈ kn)
  let no : Int → Bool := fun z => !decide (pairD above x z 1 ∈ kn) && !decide (pairD above x z 0 ∈ kn)
  let pw : Int → W := fun z => pairW ((pairD above x z 0).1, (pairD above x z 0).2.1)
  have p1 : ∀ z s, binV .add (.tup [.int (pairD above x z 0).1, .int (pairD above x z 0).2.1]) (.tup [.int s]) = some (.tup [.int (pairD above x z s).1, .int (pairD above x z s).2.1, .int (pairD above x z s).2.2]) := fun z s => by
    rw [b_addp]; cases above <;> rfl
  have l1 := lc_fil (s := [some mw, some (.lst (kn.map factW)), some (.int x), some fw, some (.lst (fars.map pw)), none, none, none, none, none, none]) (f := lcF G io (.v 10) [10] (.nm 10) (.cons (.cmp .inn (.bin .add (.v 10) (.tup (.cons (.c (.int 1)) .nil))) (.v 1)) .nil)) pw st pw fars fun z _ => by
    have i1 := in_fact (pairD above x z 1) kn
    by_cases h : pairD above x z 1 ∈ kn
    · simp only [h, decide_true] at i1
      simp only [lcF, getS_z, getS_s, setS_z, setS_s, wipe_n, wipe_c, rest_n, rest_c, asg_nm, asg_nil, asg_cons, par_nil, par_cons, vE_v, vE_c, vE_bin, vE_neg, vE_cmp, vE_chain, vE_and, vE_or, vE_not, vE_ite, vE_call, vE_bi, vE_isi, vE_mt, vE_tup, vE_lst, vE_ix, vE_sl, vE_rev, vE_lrg, vE_lc, vT_and, vT_or, vT_not, vT_cmp, vT_chain, vT_v, vT_c, vT_call, vT_bi, vT_isi, vT_ix, vC_nil, vC_cons, vs_nil, vs_cons, vA_t, vA_f, vA_n, vO_nil, vO_cons, vI_seq, vI_rng1, vI_rng2, vI_enum, vI_zip, vX_skip, vX_sq, vX_asg, vX_par, vX_seti, vX_seti2, vX_ex, vX_ret, vX_retn, vX_ite, vX_for, vX_brk, vX_cnt, vthen_nx, vthen_rt, vthen_bk, vthen_ct, vgo_nx, vgo_ct, vgo_bk, vgo_rt, fin_rt, fin_nx, back_ok, wb_t, wb_f, wb_n, wb_e, hdS_c, b_add, b_sub, c_lt, c_le, c_gt, c_ge, c_eqi, c_nei, c_nes, c_eqs, c_isn, c_isnn, t_bl, t_int, t_non, vseq_t, vseq_l, as_int, len_l, len_t, len_r, bi_int, bi_intb, bi_abs, bi_max2, bi_min2, bi_tup_t, bi_tup_l, bi_list_t, bi_list_l, neg_int, sl_t, sl_l, sl_r, rev_t, rev_l, lenOk_nil, lenOk_1, lenOk_2, lenOk_3, lenOk_4, lenOk_5, lenOk_6, ix_t0, ix_t1, ix_t2, ix_t3, ix_t4, ix_l0, ix_l1, ix_l2, Wp_ok, cl_int, cl_non, cl_tup, cl_lst, Q.bind_ok, Q.bind_exc, Q.bind_no, Q.of_some, Q.of_none, Q.calm_ok, if_true, if_false, Bool.false_eq_true, Bool.true_eq_false, decide_true, decide_false, Bool.not_true, Bool.not_false, Bool.and_true, Bool.true_and, Bool.and_false, Bool.false_and, Bool.or_true, Bool.or_false, Bool.true_or, Bool.false_or, Bool.not_not, not_true_eq_false, not_false_eq_true, List.map_cons, List.map_nil, List.length_map, List.take_succ_cons, List.take_zero, List.tail_cons, List.nil_append, List.cons_append, List.append_nil, asgQ, parQ, List.reduceReplicate, List.length_cons, List.length_nil, Nat.reduceSub, Nat.reduceAdd, Nat.zero_add, Wp_ok, decide_eq_true_eq, isNon, List.reverse_cons, List.reverse_nil, Bool.not_eq_true', decide_eq_false_iff_not, bne_iff_ne, ne_eq, pw, pairW, p1, i1, st, h]
    · simp only [h, decide_false] at i1
      simp only [lcF, getS_z, getS_s, setS_z, setS_s, wipe_n, wipe_c, rest_n, rest_c, asg_nm, asg_nil, asg_cons, par_nil, par_cons, vE_v, vE_c, vE_bin, vE_neg, vE_cmp, vE_chain, vE_and, vE_or, vE_not, vE_ite, vE_call, vE_bi, vE_isi, vE_mt, vE_tup, vE_lst, vE_ix, vE_sl, vE_rev, vE_lrg, vE_lc, vT_and, vT_or, vT_not, vT_cmp, vT_chain, vT_v, vT_c, vT_call, vT_bi, vT_isi, vT_ix, vC_nil, vC_cons, vs_nil, vs_cons, vA_t, vA_f, vA_n, vO_nil, vO_cons, vI_seq, vI_rng1, vI_rng2, vI_enum, vI_zip, vX_skip, vX_sq, vX_asg, vX_par, vX_seti, vX_seti2, vX_ex, vX_ret, vX_retn, vX_ite, vX_for, vX_brk, vX_cnt, vthen_nx, vthen_rt, vthen_bk, vthen_ct, vgo_nx, vgo_ct, vgo_bk, vgo_rt, fin_rt, fin_nx, back_ok, wb_t, wb_f, wb_n, wb_e, hdS_c, b_add, b_sub, c_lt, c_le, c_gt, c_ge, c_eqi, c_nei, c_nes, c_eqs, c_isn, c_isnn, t_bl, t_int, t_non, vseq_t, vseq_l, as_int, len_l, len_t, len_r, bi_int, bi_intb, bi_abs, bi_max2, bi_min2, bi_tup_t, bi_tup_l, bi_list_t, bi_list_l, neg_int, sl_t, sl_l, sl_r, rev_t, rev_l, lenOk_nil, lenOk_1, lenOk_2, lenOk_3, lenOk_4, lenOk_5, lenOk_6, ix_t0, ix_t1, ix_t2, ix_t3, ix_t4, ix_l0, ix_l1, ix_l2, Wp_ok, cl_int, cl_non, cl_tup, cl_lst, Q.bind_ok, Q.bind_exc, Q.bind_no, Q.of_some, Q.of_none, Q.calm_ok, if_true, if_false, Bool.false_eq_true, Bool.true_eq_false, decide_true, decide_false, Bool.not_true, Bool.not_false, Bool.and_true, Bool.true_and, Bool.and_false, Bool.false_and, Bool.or_true, Bool.or_false, Bool.true_or, Bool.false_or, Bool.not_not, not_true_eq_false, not_false_eq_true, List.map_cons, List.map_nil, List.length_map, List.take_succ_cons, List.take_zero, List.tail_cons, List.nil_append, List.cons_append, List.append_nil, asgQ, parQ, List.reduceReplicate, List.length_cons, List.length_nil, Nat.reduceSub, Nat.reduceAdd, Nat.zero_add, Wp_ok, decide_eq_true_eq, isNon, List.reverse_cons, List.reverse_nil, Bool.not_eq_true', decide_eq_false_iff_not, bne_iff_ne, ne_eq, pw, pairW, p1, i1, st, h]
  have l2 := lc_fil (s := [some mw, some (.lst (kn.map factW)), some (.int x), some fw, some (.lst (fars.map pw)), some (.lst ((fars.filter st).map pw)), none, none, none, none, none]) (f := lcF G io (.v 10) [10] (.nm 10) (.cons (.and (.cmp .nin (.bin .add (.v 10) (.tup (.cons (.c (.int 1)) .nil))) (.v 1)) (.cmp .nin (.bin .add (.v 10) (.tup (.cons (.c (.int 0)) .nil))) (.v 1))) .nil)) pw no pw fars fun z _ => by
    have i1 := in_fact (pairD above x z 1) kn
    have i0 := in_fact (pairD above x z 0) kn
    by_cases h : pairD above x z 1 ∈ kn <;> by_cases h' : pairD above x z 0 ∈ kn <;> simp only [h, h', decide_true, decide_false] at i1 i0 <;>
      simp only [lcF, getS_z, getS_s, setS_z, setS_s, wipe_n, wipe_c, rest_n, rest_c, asg_nm, asg_nil, asg_cons, par_nil, par_cons, vE_v, vE_c, vE_bin, vE_neg, vE_cmp, vE_chain, vE_and, vE_or, vE_not, vE_ite, vE_call, vE_bi, vE_isi, vE_mt, vE_tup, vE_lst, vE_ix, vE_sl, vE_rev, vE_lrg, vE_lc, vT_and, vT_or, vT_not, vT_cmp, vT_chain, vT_v, vT_c, vT_call, vT_bi, vT_isi, vT_ix, vC_nil, vC_cons, vs_nil, vs_cons, vA_t, vA_f, vA_n, vO_nil, vO_cons, vI_seq, vI_rng1, vI_rng2, vI_enum, vI_zip, vX_skip, vX_sq, vX_asg, vX_par, vX_seti, vX_seti2, vX_ex, vX_ret, vX_retn, vX_ite, vX_for, vX_brk, vX_cnt, vthen_nx, vthen_rt, vthen_bk, vthen_ct, vgo_nx, vgo_ct, vgo_bk, vgo_rt, fin_rt, fin_nx, back_ok, wb_t, wb_f, wb_n, wb_e, hdS_c, b_add, b_sub, c_lt, c_le, c_gt, c_ge, c_eqi, c_nei, c_nes, c_eqs, c_isn, c_isnn, t_bl, t_int, t_non, vseq_t, vseq_l, as_int, len_l, len_t, len_r, bi_int, bi_intb, bi_abs, bi_max2, bi_min2, bi_tup_t, bi_tup_l, bi_list_t, bi_list_l, neg_int, sl_t, sl_l, sl_r, rev_t, rev_l, lenOk_nil, lenOk_1, lenOk_2, lenOk_3, lenOk_4, lenOk_5, lenOk_6, ix_t0, ix_t1, ix_t2, ix_t3, ix_t4, ix_l0, ix_l1, ix_l2, Wp_ok, cl_int, cl_non, cl_tup, cl_lst, Q.bind_ok, Q.bind_exc, Q.bind_no, Q.of_some, Q.of_none, Q.calm_ok, if_true, if_false, Bool.false_eq_true, Bool.true_eq_false, decide_true, decide_false, Bool.not_true, Bool.not_false, Bool.and_true, Bool.true_and, Bool.and_false, Bool.false_and, Bool.or_true, Bool.or_false, Bool.true_or, Bool.false_or, Bool.not_not, not_true_eq_false, not_false_eq_true, List.map_cons, List.map_nil, List.length_map, List.take_succ_cons, List.take_zero, List.tail_cons, List.nil_append, List.cons_append, List.append_nil, asgQ, parQ, List.reduceReplicate, List.length_cons, List.length_nil, Nat.reduceSub, Nat.reduceAdd, Nat.zero_add, Wp_ok, decide_eq_true_eq, isNon, List.reverse_cons, List.reverse_nil, Bool.not_eq_true', decide_eq_false_iff_not, bne_iff_ne, ne_eq, pw, pairW, p1, i1, i0, no, h, h']
  have f1 : lenOk ((fars.filter st).map pw) = true := lenOk_of (by have := List.length_filter_le st fars; simp; omega)
  have f2 : lenOk ((fars.filter no).map pw) = true := lenOk_of (by have := List.length_filter_le no fars; simp; omega)
  have clp : ∀ z, cl 59 (pw z) = true := fun z => by simp [pw, pairW]
  have n1 := nil_cmp (cl_enc 59 clp (fars.filter st))
  have n2 := nil_cmp (cl_enc 59 clp (fars.filter no))
  have e1 : ((fars.filter st).map pw).isEmpty = !fars.any st := by
    rw [Bool.eq_iff_iff]; simp [List.filter_eq_nil_iff]
  have e2 : ((fars.filter no).map pw).isEmpty = fars.all fun z => decide (pairD above x z 1 ∈ kn) || decide (pairD above x z 0 ∈ kn) := by
    rw [Bool.eq_iff_iff]; simp only [List.isEmpty_iff, List.map_eq_nil_iff, List.filter_eq_nil_iff, List.all_eq_true, no]
    simp
    exact ⟨fun h z hz => by by_cases q : pairD above x z 1 ∈ kn; exact .inl q; exact .inr (h z hz q), fun h z hz q => (h z hz).resolve_left q⟩
  rw [e1] at n1
  rw [e2] at n2
  have sh : shutB kn fars x above = ((fars.all fun z => decide (pairD above x z 1 ∈ kn) || decide (pairD above x z 0 ∈ kn)) && fars.any st) := rfl
  rw [sh]
  simp only [vX_fgt]
  unfold sb_law_is_stuck_0
  show Wp ((vX G io _ [some mw, some (.lst (kn.map factW)), some (.int x), some fw, some (.lst (fars.map pw)), none, none, none, none, none, none]).bind _) _
  generalize fars.any st = a at n1
  generalize (fars.all fun z => decide (pairD above x z 1 ∈ kn) || decide (pairD above x z 0 ∈ kn)) = b at n2
  cases a <;> cases b <;> simp only [getS_z, getS_s, setS_z, setS_s, wipe_n, wipe_c, rest_n, rest_c, asg_nm, asg_nil, asg_cons, par_nil, par_cons, vE_v, vE_c, vE_bin, vE_neg, vE_cmp, vE_chain, vE_and, vE_or, vE_not, vE_ite, vE_call, vE_bi, vE_isi, vE_mt, vE_tup, vE_lst, vE_ix, vE_sl, vE_rev, vE_lrg, vE_lc, vT_and, vT_or, vT_not, vT_cmp, vT_chain, vT_v, vT_c, vT_call, vT_bi, vT_isi, vT_ix, vC_nil, vC_cons, vs_nil, vs_cons, vA_t, vA_f, vA_n, vO_nil, vO_cons, vI_seq, vI_rng1, vI_rng2, vI_enum, vI_zip, vX_skip, vX_sq, vX_asg, vX_par, vX_seti, vX_seti2, vX_ex, vX_ret, vX_retn, vX_ite, vX_for, vX_brk, vX_cnt, vthen_nx, vthen_rt, vthen_bk, vthen_ct, vgo_nx, vgo_ct, vgo_bk, vgo_rt, fin_rt, fin_nx, back_ok, wb_t, wb_f, wb_n, wb_e, hdS_c, b_add, b_sub, c_lt, c_le, c_gt, c_ge, c_eqi, c_nei, c_nes, c_eqs, c_isn, c_isnn, t_bl, t_int, t_non, vseq_t, vseq_l, as_int, len_l, len_t, len_r, bi_int, bi_intb, bi_abs, bi_max2, bi_min2, bi_tup_t, bi_tup_l, bi_list_t, bi_list_l, neg_int, sl_t, sl_l, sl_r, rev_t, rev_l, lenOk_nil, lenOk_1, lenOk_2, lenOk_3, lenOk_4, lenOk_5, lenOk_6, ix_t0, ix_t1, ix_t2, ix_t3, ix_t4, ix_l0, ix_l1, ix_l2, Wp_ok, cl_int, cl_non, cl_tup, cl_lst, Q.bind_ok, Q.bind_exc, Q.bind_no, Q.of_some, Q.of_none, Q.calm_ok, if_true, if_false, Bool.false_eq_true, Bool.true_eq_false, decide_true, decide_false, Bool.not_true, Bool.not_false, Bool.and_true, Bool.true_and, Bool.and_false, Bool.false_and, Bool.or_true, Bool.or_false, Bool.true_or, Bool.false_or, Bool.not_not, not_true_eq_false, not_false_eq_true, List.map_cons, List.map_nil, List.length_map, List.take_succ_cons, List.take_zero, List.tail_cons, List.nil_append, List.cons_append, List.append_nil, asgQ, parQ, List.reduceReplicate, List.length_cons, List.length_nil, Nat.reduceSub, Nat.reduceAdd, Nat.zero_add, Wp_ok, decide_eq_true_eq, isNon, List.reverse_cons, List.reverse_nil, Bool.not_eq_true', decide_eq_false_iff_not, bne_iff_ne, ne_eq, l1, l2, f1, f2, n1, n2] <;> simp
theorem is_stuck_ok (D : D_law_is_stuck tab kt ix) {K : Nat} (hK : 2 ≤ K) (m : Mine) (h2 : 0 ≤ m.n) (h8 : m.n ≤ 1000) (hm : m.E.length ≤ 1000) (fs : List Fact) (x : Int) :
    vcallN tab kt K (ix n_law_is_stuck) [m.v, .lst ((known m fs).map factW), .int x] = .ok (.bl (decide (x ∈ innerL m) && stuckB m fs x)) [some m.v, some (.lst ((known m fs).map factW)), some (.int x)] := by
  obtain ⟨K, rfl⟩ : ∃ k, K = k + 1 := ⟨K - 1, by omega⟩
  rw [D.me.enter rfl]
  have e := law_inner_ok D.c_law_inner (K := K) (by omega) m h2 h8
  have fl : (farsAt m.E x).length ≤ 1000 := by unfold farsAt; rw [List.length_map]; exact Nat.le_trans (List.length_filter_le _ _) hm
  have l1 := lc_fil (s := [some m.v, some (.lst ((known m fs).map factW)), some (.int x), none, none, none, none, none, none, none, none]) (f := lcF (vcallN tab kt K) (ioOf kt) (.ite (.cmp .eq (.v 7) (.v 2)) (.v 8) (.v 7)) [7, 8] (.cons (.nm 7) (.cons (.nm 8) .nil)) (.cons (.cmp .inn (.v 2) (.tup (.cons (.v 7) (.cons (.v 8) .nil)))) .nil)) pairW (atB x) (fun p => .int (other x p)) m.E fun p _ => by
    have i := (in_pair x p.1 p.2).1
    by_cases h1 : p.1 = x
    · rw [h1] at i
      simp only [lcF, getS_z, getS_s, setS_z, setS_s, wipe_n, wipe_c, rest_n, rest_c, asg_nm, asg_nil, asg_cons, par_nil, par_cons, vE_v, vE_c, vE_bin, vE_neg, vE_cmp, vE_chain, vE_and, vE_or, vE_not, vE_ite, vE_call, vE_bi, vE_isi, vE_mt, vE_tup, vE_lst, vE_ix, vE_sl, vE_rev, vE_lrg, vE_lc, vT_and, vT_or, vT_not, vT_cmp, vT_chain, vT_v, vT_c, vT_call, vT_bi, vT_isi, vT_ix, vC_nil, vC_cons, vs_nil, vs_cons, vA_t, vA_f, vA_n, vO_nil, vO_cons, vI_seq, vI_rng1, vI_rng2, vI_enum, vI_zip, vX_skip, vX_sq, vX_asg, vX_par, vX_seti, vX_seti2, vX_ex, vX_ret, vX_retn, vX_ite, vX_for, vX_brk, vX_cnt, vthen_nx, vthen_rt, vthen_bk, vthen_ct, vgo_nx, vgo_ct, vgo_bk, vgo_rt, fin_rt, fin_nx, back_ok, wb_t, wb_f, wb_n, wb_e, hdS_c, b_add, b_sub, c_lt, c_le, c_gt, c_ge, c_eqi, c_nei, c_nes, c_eqs, c_isn, c_isnn, t_bl, t_int, t_non, vseq_t, vseq_l, as_int, len_l, len_t, len_r, bi_int, bi_intb, bi_abs, bi_max2, bi_min2, bi_tup_t, bi_tup_l, bi_list_t, bi_list_l, neg_int, sl_t, sl_l, sl_r, rev_t, rev_l, lenOk_nil, lenOk_1, lenOk_2, lenOk_3, lenOk_4, lenOk_5, lenOk_6, ix_t0, ix_t1, ix_t2, ix_t3, ix_t4, ix_l0, ix_l1, ix_l2, Wp_ok, cl_int, cl_non, cl_tup, cl_lst, Q.bind_ok, Q.bind_exc, Q.bind_no, Q.of_some, Q.of_none, Q.calm_ok, if_true, if_false, Bool.false_eq_true, Bool.true_eq_false, decide_true, decide_false, Bool.not_true, Bool.not_false, Bool.and_true, Bool.true_and, Bool.and_false, Bool.false_and, Bool.or_true, Bool.or_false, Bool.true_or, Bool.false_or, Bool.not_not, not_true_eq_false, not_false_eq_true, List.map_cons, List.map_nil, List.length_map, List.take_succ_cons, List.take_zero, List.tail_cons, List.nil_append, List.cons_append, List.append_nil, asgQ, parQ, List.reduceReplicate, List.length_cons, List.length_nil, Nat.reduceSub, Nat.reduceAdd, Nat.zero_add, Wp_ok, decide_eq_true_eq, isNon, List.reverse_cons, List.reverse_nil, Bool.not_eq_true', decide_eq_false_iff_not, bne_iff_ne, ne_eq, pairW, i, atB, other, h1, true_or]
    · have h1' : ¬ x = p.1 := fun z => h1 z.symm
      by_cases h3 : x = p.2
      · subst h3
        simp only [lcF, getS_z, getS_s, setS_z, setS_s, wipe_n, wipe_c, rest_n, rest_c, asg_nm, asg_nil, asg_cons, par_nil, par_cons, vE_v, vE_c, vE_bin, vE_neg, vE_cmp, vE_chain, vE_and, vE_or, vE_not, vE_ite, vE_call, vE_bi, vE_isi, vE_mt, vE_tup, vE_lst, vE_ix, vE_sl, vE_rev, vE_lrg, vE_lc, vT_and, vT_or, vT_not, vT_cmp, vT_chain, vT_v, vT_c, vT_call, vT_bi, vT_isi, vT_ix, vC_nil, vC_cons, vs_nil, vs_cons, vA_t, vA_f, vA_n, vO_nil, vO_cons, vI_seq, vI_rng1, vI_rng2, vI_enum, vI_zip, vX_skip, vX_sq, vX_asg, vX_par, vX_seti, vX_seti2, vX_ex, vX_ret, vX_retn, vX_ite, vX_for, vX_brk, vX_cnt, vthen_nx, vthen_rt, vthen_bk, vthen_ct, vgo_nx, vgo_ct, vgo_bk, vgo_rt, fin_rt, fin_nx, back_ok, wb_t, wb_f, wb_n, wb_e, hdS_c, b_add, b_sub, c_lt, c_le, c_gt, c_ge, c_eqi, c_nei, c_nes, c_eqs, c_isn, c_isnn, t_bl, t_int, t_non, vseq_t, vseq_l, as_int, len_l, len_t, len_r, bi_int, bi_intb, bi_abs, bi_max2, bi_min2, bi_tup_t, bi_tup_l, bi_list_t, bi_list_l, neg_int, sl_t, sl_l, sl_r, rev_t, rev_l, lenOk_nil, lenOk_1, lenOk_2, lenOk_3, lenOk_4, lenOk_5, lenOk_6, ix_t0, ix_t1, ix_t2, ix_t3, ix_t4, ix_l0, ix_l1, ix_l2, Wp_ok, cl_int, cl_non, cl_tup, cl_lst, Q.bind_ok, Q.bind_exc, Q.bind_no, Q.of_some, Q.of_none, Q.calm_ok, if_true, if_false, Bool.false_eq_true, Bool.true_eq_false, decide_true, decide_false, Bool.not_true, Bool.not_false, Bool.and_true, Bool.true_and, Bool.and_false, Bool.false_and, Bool.or_true, Bool.or_false, Bool.true_or, Bool.false_or, Bool.not_not, not_true_eq_false, not_false_eq_true, List.map_cons, List.map_nil, List.length_map, List.take_succ_cons, List.take_zero, List.tail_cons, List.nil_append, List.cons_append, List.append_nil, asgQ, parQ, List.reduceReplicate, List.length_cons, List.length_nil, Nat.reduceSub, Nat.reduceAdd, Nat.zero_add, Wp_ok, decide_eq_true_eq, isNon, List.reverse_cons, List.reverse_nil, Bool.not_eq_true', decide_eq_false_iff_not, bne_iff_ne, ne_eq, pairW, i, atB, other, h1, h1', or_true]
      · simp only [lcF, getS_z, getS_s, setS_z, setS_s, wipe_n, wipe_c, rest_n, rest_c, asg_nm, asg_nil, asg_cons, par_nil, par_cons, vE_v, vE_c, vE_bin, vE_neg, vE_cmp, vE_chain, vE_and, vE_or, vE_not, vE_ite, vE_call, vE_bi, vE_isi, vE_mt, vE_tup, vE_lst, vE_ix, vE_sl, vE_rev, vE_lrg, vE_lc, vT_and, vT_or, vT_not, vT_cmp, vT_chain, vT_v, vT_c, vT_call, vT_bi, vT_isi, vT_ix, vC_nil, vC_cons, vs_nil, vs_cons, vA_t, vA_f, vA_n, vO_nil, vO_cons, vI_seq, vI_rng1, vI_rng2, vI_enum, vI_zip, vX_skip, vX_sq, vX_asg, vX_par, vX_seti, vX_seti2, vX_ex, vX_ret, vX_retn, vX_ite, vX_for, vX_brk, vX_cnt, vthen_nx, vthen_rt, vthen_bk, vthen_ct, vgo_nx, vgo_ct, vgo_bk, vgo_rt, fin_rt, fin_nx, back_ok, wb_t, wb_f, wb_n, wb_e, hdS_c, b_add, b_sub, c_lt, c_le, c_gt, c_ge, c_eqi, c_nei, c_nes, c_eqs, c_isn, c_isnn, t_bl, t_int, t_non, vseq_t, vseq_l, as_int, len_l, len_t, len_r, bi_int, bi_intb, bi_abs, bi_max2, bi_min2, bi_tup_t, bi_tup_l, bi_list_t, bi_list_l, neg_int, sl_t, sl_l, sl_r, rev_t, rev_l, lenOk_nil, lenOk_1, lenOk_2, lenOk_3, lenOk_4, lenOk_5, lenOk_6, ix_t0, ix_t1, ix_t2, ix_t3, ix_t4, ix_l0, ix_l1, ix_l2, Wp_ok, cl_int, cl_non, cl_tup, cl_lst, Q.bind_ok, Q.bind_exc, Q.bind_no, Q.of_some, Q.of_none, Q.calm_ok, if_true, if_false, Bool.false_eq_true, Bool.true_eq_false, decide_true, decide_false, Bool.not_true, Bool.not_false, Bool.and_true, Bool.true_and, Bool.and_false, Bool.false_and, Bool.or_true, Bool.or_false, Bool.true_or, Bool.false_or, Bool.not_not, not_true_eq_false, not_false_eq_true, List.map_cons, List.map_nil, List.length_map, List.take_succ_cons, List.take_zero, List.tail_cons, List.nil_append, List.cons_append, List.append_nil, asgQ, parQ, List.reduceReplicate, List.length_cons, List.length_nil, Nat.reduceSub, Nat.reduceAdd, Nat.zero_add, Wp_ok, decide_eq_true_eq, isNon, List.reverse_cons, List.reverse_nil, Bool.not_eq_true', decide_eq_false_iff_not, bne_iff_ne, ne_eq, pairW, i, atB, other, h1, h1', h3, or_self]
  have e2 : (m.E.filter (atB x)).map (fun p => W.int (other x p)) = (farsAt m.E x).map .int := by simp [farsAt]
  rw [e2] at l1
  have f1 : lenOk ((farsAt m.E x).map .int) = true := lenOk_of (by simp; omega)
  have i := in_int x (innerL m)
  have sd := fun (fw : W) (ab : Bool) => side_ok (ix := ix) (G := vcallN tab kt K) (io := ioOf kt) m (known m fs) x (farsAt m.E x) ab m.v fw fl
  have lp1 := fun s => lc_map (s := s) (f := lcF (vcallN tab kt K) (ioOf kt) (.tup (.cons (.v 9) (.cons (.v 2) .nil))) [9] (.nm 9) .nil) W.int (fun z => pairW (z, x)) (farsAt m.E x)
  have lp2 := fun s => lc_map (s := s) (f := lcF (vcallN tab kt K) (ioOf kt) (.tup (.cons (.v 2) (.cons (.v 9) .nil))) [9] (.nm 9) .nil) W.int (fun z => pairW (x, z)) (farsAt m.E x)
  have q1 := lp1 [some m.v, some (.lst ((known m fs).map factW)), some (.int x), some (.lst ((farsAt m.E x).map .int)), none, none, none, none, none, none, none] fun z _ => by simp only [lcF, getS_z, getS_s, setS_z, setS_s, wipe_n, wipe_c, rest_n, rest_c, asg_nm, asg_nil, asg_cons, par_nil, par_cons, vE_v, vE_c, vE_bin, vE_neg, vE_cmp, vE_chain, vE_and, vE_or, vE_not, vE_ite, vE_call, vE_bi, vE_isi, vE_mt, vE_tup, vE_lst, vE_ix, vE_sl, vE_rev, vE_lrg, vE_lc, vT_and, vT_or, vT_not, vT_cmp, vT_chain, vT_v, vT_c, vT_call, vT_bi, vT_isi, vT_ix, vC_nil, vC_cons, vs_nil, vs_cons, vA_t, vA_f, vA_n, vO_nil, vO_cons, vI_seq, vI_rng1, vI_rng2, vI_enum, vI_zip, vX_skip, vX_sq, vX_asg, vX_par, vX_seti, vX_seti2, vX_ex, vX_ret, vX_retn, vX_ite, vX_for, vX_brk, vX_cnt, vthen_nx, vthen_rt, vthen_bk, vthen_ct, vgo_nx, vgo_ct, vgo_bk, vgo_rt, fin_rt, fin_nx, back_ok, wb_t, wb_f, wb_n, wb_e, hdS_c, b_add, b_sub, c_lt, c_le, c_gt, c_ge, c_eqi, c_nei, c_nes, c_eqs, c_isn, c_isnn, t_bl, t_int, t_non, vseq_t, vseq_l, as_int, len_l, len_t, len_r, bi_int, bi_intb, bi_abs, bi_max2, bi_min2, bi_tup_t, bi_tup_l, bi_list_t, bi_list_l, neg_int, sl_t, sl_l, sl_r, rev_t, rev_l, lenOk_nil, lenOk_1, lenOk_2, lenOk_3, lenOk_4, lenOk_5, lenOk_6, ix_t0, ix_t1, ix_t2, ix_t3, ix_t4, ix_l0, ix_l1, ix_l2, Wp_ok, cl_int, cl_non, cl_tup, cl_lst, Q.bind_ok, Q.bind_exc, Q.bind_no, Q.of_some, Q.of_none, Q.calm_ok, if_true, if_false, Bool.false_eq_true, Bool.true_eq_false, decide_true, decide_false, Bool.not_true, Bool.not_false, Bool.and_true, Bool.true_and, Bool.and_false, Bool.false_and, Bool.or_true, Bool.or_false, Bool.true_or, Bool.false_or, Bool.not_not, not_true_eq_false, not_false_eq_true, List.map_cons, List.map_nil, List.length_map, List.take_succ_cons, List.take_zero, List.tail_cons, List.nil_append, List.cons_append, List.append_nil, asgQ, parQ, List.reduceReplicate, List.length_cons, List.length_nil, Nat.reduceSub, Nat.reduceAdd, Nat.zero_add, Wp_ok, decide_eq_true_eq, isNon, List.reverse_cons, List.reverse_nil, Bool.not_eq_true', decide_eq_false_iff_not, bne_iff_ne, ne_eq, pairW]
  have q2 := lp2 [some m.v, some (.lst ((known m fs).map factW)), some (.int x), some (.lst ((farsAt m.E x).map .int)), none, none, none, none, none, none, none] fun z _ => by simp only [lcF, getS_z, getS_s, setS_z, setS_s, wipe_n, wipe_c, rest_n, rest_c, asg_nm, asg_nil, asg_cons, par_nil, par_cons, vE_v, vE_c, vE_bin, vE_neg, vE_cmp, vE_chain, vE_and, vE_or, vE_not, vE_ite, vE_call, vE_bi, vE_isi, vE_mt, vE_tup, vE_lst, vE_ix, vE_sl, vE_rev, vE_lrg, vE_lc, vT_and, vT_or, vT_not, vT_cmp, vT_chain, vT_v, vT_c, vT_call, vT_bi, vT_isi, vT_ix, vC_nil, vC_cons, vs_nil, vs_cons, vA_t, vA_f, vA_n, vO_nil, vO_cons, vI_seq, vI_rng1, vI_rng2, vI_enum, vI_zip, vX_skip, vX_sq, vX_asg, vX_par, vX_seti, vX_seti2, vX_ex, vX_ret, vX_retn, vX_ite, vX_for, vX_brk, vX_cnt, vthen_nx, vthen_rt, vthen_bk, vthen_ct, vgo_nx, vgo_ct, vgo_bk, vgo_rt, fin_rt, fin_nx, back_ok, wb_t, wb_f, wb_n, wb_e, hdS_c, b_add, b_sub, c_lt, c_le, c_gt, c_ge, c_eqi, c_nei, c_nes, c_eqs, c_isn, c_isnn, t_bl, t_int, t_non, vseq_t, vseq_l, as_int, len_l, len_t, len_r, bi_int, bi_intb, bi_abs, bi_max2, bi_min2, bi_tup_t, bi_tup_l, bi_list_t, bi_list_l, neg_int, sl_t, sl_l, sl_r, rev_t, rev_l, lenOk_nil, lenOk_1, lenOk_2, lenOk_3, lenOk_4, lenOk_5, lenOk_6, ix_t0, ix_t1, ix_t2, ix_t3, ix_t4, ix_l0, ix_l1, ix_l2, Wp_ok, cl_int, cl_non, cl_tup, cl_lst, Q.bind_ok, Q.bind_exc, Q.bind_no, Q.of_some, Q.of_none, Q.calm_ok, if_true, if_false, Bool.false_eq_true, Bool.true_eq_false, decide_true, decide_false, Bool.not_true, Bool.not_false, Bool.and_true, Bool.true_and, Bool.and_false, Bool.false_and, Bool.or_true, Bool.or_false, Bool.true_or, Bool.false_or, Bool.not_not, not_true_eq_false, not_false_eq_true, List.map_cons, List.map_nil, List.length_map, List.take_succ_cons, List.take_zero, List.tail_cons, List.nil_append, List.cons_append, List.append_nil, asgQ, parQ, List.reduceReplicate, List.length_cons, List.length_nil, Nat.reduceSub, Nat.reduceAdd, Nat.zero_add, Wp_ok, decide_eq_true_eq, isNon, List.reverse_cons, List.reverse_nil, Bool.not_eq_true', decide_eq_false_iff_not, bne_iff_ne, ne_eq, pairW]
  have g1 : lenOk ((farsAt m.E x).map fun z => pairW (z, x)) = true := lenOk_of (by simp; omega)
  have g2 : lenOk ((farsAt m.E x).map fun z => pairW (x, z)) = true := lenOk_of (by simp; omega)
  by_cases hin : x ∈ innerL m
  · simp only [hin, decide_true] at i
    obtain ⟨r1, s1, t1, c1⟩ := (sd (.lst ((farsAt m.E x).map .int)) true).get
    obtain ⟨r2, s2, t2, c2⟩ := (sd (.lst ((farsAt m.E x).map .int)) false).get
    simp only [pairD, if_true, if_false, Bool.false_eq_true] at t1 t2
    simp only [Mine.v] at *
    rcases c1 with ⟨c1, rfl, c3⟩ | ⟨c1, rfl, rfl⟩
    · simp only [sh_law_is_stuck, getS_z, getS_s, setS_z, setS_s, wipe_n, wipe_c, rest_n, rest_c, asg_nm, asg_nil, asg_cons, par_nil, par_cons, vE_v, vE_c, vE_bin, vE_neg, vE_cmp, vE_chain, vE_and, vE_or, vE_not, vE_ite, vE_call, vE_bi, vE_isi, vE_mt, vE_tup, vE_lst, vE_ix, vE_sl, vE_rev, vE_lrg, vE_lc, vT_and, vT_or, vT_not, vT_cmp, vT_chain, vT_v, vT_c, vT_call, vT_bi, vT_isi, vT_ix, vC_nil, vC_cons, vs_nil, vs_cons, vA_t, vA_f, vA_n, vO_nil, vO_cons, vI_seq, vI_rng1, vI_rng2, vI_enum, vI_zip, vX_skip, vX_sq, vX_asg, vX_par, vX_seti, vX_seti2, vX_ex, vX_ret, vX_retn, vX_ite, vX_for, vX_brk, vX_cnt, vthen_nx, vthen_rt, vthen_bk, vthen_ct, vgo_nx, vgo_ct, vgo_bk, vgo_rt, fin_rt, fin_nx, back_ok, wb_t, wb_f, wb_n, wb_e, hdS_c, b_add, b_sub, c_lt, c_le, c_gt, c_ge, c_eqi, c_nei, c_nes, c_eqs, c_isn, c_isnn, t_bl, t_int, t_non, vseq_t, vseq_l, as_int, len_l, len_t, len_r, bi_int, bi_intb, bi_abs, bi_max2, bi_min2, bi_tup_t, bi_tup_l, bi_list_t, bi_list_l, neg_int, sl_t, sl_l, sl_r, rev_t, rev_l, lenOk_nil, lenOk_1, lenOk_2, lenOk_3, lenOk_4, lenOk_5, lenOk_6, ix_t0, ix_t1, ix_t2, ix_t3, ix_t4, ix_l0, ix_l1, ix_l2, Wp_ok, cl_int, cl_non, cl_tup, cl_lst, Q.bind_ok, Q.bind_exc, Q.bind_no, Q.of_some, Q.of_none, Q.calm_ok, if_true, if_false, Bool.false_eq_true, Bool.true_eq_false, decide_true, decide_false, Bool.not_true, Bool.not_false, Bool.and_true, Bool.true_and, Bool.and_false, Bool.false_and, Bool.or_true, Bool.or_false, Bool.true_or, Bool.false_or, Bool.not_not, not_true_eq_false, not_false_eq_true, List.map_cons, List.map_nil, List.length_map, List.take_succ_cons, List.take_zero, List.tail_cons, List.nil_append, List.cons_append, List.append_nil, asgQ, parQ, List.reduceReplicate, List.length_cons, List.length_nil, Nat.reduceSub, Nat.reduceAdd, Nat.zero_add, Wp_ok, decide_eq_true_eq, isNon, List.reverse_cons, List.reverse_nil, Bool.not_eq_true', decide_eq_false_iff_not, bne_iff_ne, ne_eq, startS, l1, f1, D.c_law_inner.me.iof, k_law_inner, Kd.io, e, i, q1, q2, g1, g2, forV, t1, c3, hin, stuckB, c1]
    · rcases c2 with ⟨c2, rfl, c3⟩ | ⟨c2, rfl, rfl⟩
      · simp only [sh_law_is_stuck, getS_z, getS_s, setS_z, setS_s, wipe_n, wipe_c, rest_n, rest_c, asg_nm, asg_nil, asg_cons, par_nil, par_cons, vE_v, vE_c, vE_bin, vE_neg, vE_cmp, vE_chain, vE_and, vE_or, vE_not, vE_ite, vE_call, vE_bi, vE_isi, vE_mt, vE_tup, vE_lst, vE_ix, vE_sl, vE_rev, vE_lrg, vE_lc, vT_and, vT_or, vT_not, vT_cmp, vT_chain, vT_v, vT_c, vT_call, vT_bi, vT_isi, vT_ix, vC_nil, vC_cons, vs_nil, vs_cons, vA_t, vA_f, vA_n, vO_nil, vO_cons, vI_seq, vI_rng1, vI_rng2, vI_enum, vI_zip, vX_skip, vX_sq, vX_asg, vX_par, vX_seti, vX_seti2, vX_ex, vX_ret, vX_retn, vX_ite, vX_for, vX_brk, vX_cnt, vthen_nx, vthen_rt, vthen_bk, vthen_ct, vgo_nx, vgo_ct, vgo_bk, vgo_rt, fin_rt, fin_nx, back_ok, wb_t, wb_f, wb_n, wb_e, hdS_c, b_add, b_sub, c_lt, c_le, c_gt, c_ge, c_eqi, c_nei, c_nes, c_eqs, c_isn, c_isnn, t_bl, t_int, t_non, vseq_t, vseq_l, as_int, len_l, len_t, len_r, bi_int, bi_intb, bi_abs, bi_max2, bi_min2, bi_tup_t, bi_tup_l, bi_list_t, bi_list_l, neg_int, sl_t, sl_l, sl_r, rev_t, rev_l, lenOk_nil, lenOk_1, lenOk_2, lenOk_3, lenOk_4, lenOk_5, lenOk_6, ix_t0, ix_t1, ix_t2, ix_t3, ix_t4, ix_l0, ix_l1, ix_l2, Wp_ok, cl_int, cl_non, cl_tup, cl_lst, Q.bind_ok, Q.bind_exc, Q.bind_no, Q.of_some, Q.of_none, Q.calm_ok, if_true, if_false, Bool.false_eq_true, Bool.true_eq_false, decide_true, decide_false, Bool.not_true, Bool.not_false, Bool.and_true, Bool.true_and, Bool.and_false, Bool.false_and, Bool.or_true, Bool.or_false, Bool.true_or, Bool.false_or, Bool.not_not, not_true_eq_false, not_false_eq_true, List.map_cons, List.map_nil, List.length_map, List.take_succ_cons, List.take_zero, List.tail_cons, List.nil_append, List.cons_append, List.append_nil, asgQ, parQ, List.reduceReplicate, List.length_cons, List.length_nil, Nat.reduceSub, Nat.reduceAdd, Nat.zero_add, Wp_ok, decide_eq_true_eq, isNon, List.reverse_cons, List.reverse_nil, Bool.not_eq_true', decide_eq_false_iff_not, bne_iff_ne, ne_eq, startS, l1, f1, D.c_law_inner.me.iof, k_law_inner, Kd.io, e, i, q1, q2, g1, g2, forV, t1, t2, c3, hin, stuckB, c1, c2]
      · simp only [sh_law_is_stuck, getS_z, getS_s, setS_z, setS_s, wipe_n, wipe_c, rest_n, rest_c, asg_nm, asg_nil, asg_cons, par_nil, par_cons, vE_v, vE_c, vE_bin, vE_neg, vE_cmp, vE_chain, vE_and, vE_or, vE_not, vE_ite, vE_call, vE_bi, vE_isi, vE_mt, vE_tup, vE_lst, vE_ix, vE_sl, vE_rev, vE_lrg, vE_lc, vT_and, vT_or, vT_not, vT_cmp, vT_chain, vT_v, vT_c, vT_call, vT_bi, vT_isi, vT_ix, vC_nil, vC_cons, vs_nil, vs_cons, vA_t, vA_f, vA_n, vO_nil, vO_cons, vI_seq, vI_rng1, vI_rng2, vI_enum, vI_zip, vX_skip, vX_sq, vX_asg, vX_par, vX_seti, vX_seti2, vX_ex, vX_ret, vX_retn, vX_ite, vX_for, vX_brk, vX_cnt, vthen_nx, vthen_rt, vthen_bk, vthen_ct, vgo_nx, vgo_ct, vgo_bk, vgo_rt, fin_rt, fin_nx, back_ok, wb_t, wb_f, wb_n, wb_e, hdS_c, b_add, b_sub, c_lt, c_le, c_gt, c_ge, c_eqi, c_nei, c_nes, c_eqs, c_isn, c_isnn, t_bl, t_int, t_non, vseq_t, vseq_l, as_int, len_l, len_t, len_r, bi_int, bi_intb, bi_abs, bi_max2, bi_min2, bi_tup_t, bi_tup_l, bi_list_t, bi_list_l, neg_int, sl_t, sl_l, sl_r, rev_t, rev_l, lenOk_nil, lenOk_1, lenOk_2, lenOk_3, lenOk_4, lenOk_5, lenOk_6, ix_t0, ix_t1, ix_t2, ix_t3, ix_t4, ix_l0, ix_l1, ix_l2, Wp_ok, cl_int, cl_non, cl_tup, cl_lst, Q.bind_ok, Q.bind_exc, Q.bind_no, Q.of_some, Q.of_none, Q.calm_ok, if_true, if_false, Bool.false_eq_true, Bool.true_eq_false, decide_true, decide_false, Bool.not_true, Bool.not_false, Bool.and_true, Bool.true_and, Bool.and_false, Bool.false_and, Bool.or_true, Bool.or_false, Bool.true_or, Bool.false_or, Bool.not_not, not_true_eq_false, not_false_eq_true, List.map_cons, List.map_nil, List.length_map, List.take_succ_cons, List.take_zero, List.tail_cons, List.nil_append, List.cons_append, List.append_nil, asgQ, parQ, List.reduceReplicate, List.length_cons, List.length_nil, Nat.reduceSub, Nat.reduceAdd, Nat.zero_add, Wp_ok, decide_eq_true_eq, isNon, List.reverse_cons, List.reverse_nil, Bool.not_eq_true', decide_eq_false_iff_not, bne_iff_ne, ne_eq, startS, l1, f1, D.c_law_inner.me.iof, k_law_inner, Kd.io, e, i, q1, q2, g1, g2, forV, t1, t2, hin, stuckB, c1, c2]
  · simp only [hin, decide_false] at i
    simp only [Mine.v] at *
    simp only [sh_law_is_stuck, getS_z, getS_s, setS_z, setS_s, wipe_n, wipe_c, rest_n, rest_c, asg_nm, asg_nil, asg_cons, par_nil, par_cons, vE_v, vE_c, vE_bin, vE_neg, vE_cmp, vE_chain, vE_and, vE_or, vE_not, vE_ite, vE_call, vE_bi, vE_isi, vE_mt, vE_tup, vE_lst, vE_ix, vE_sl, vE_rev, vE_lrg, vE_lc, vT_and, vT_or, vT_not, vT_cmp, vT_chain, vT_v, vT_c, vT_call, vT_bi, vT_isi, vT_ix, vC_nil, vC_cons, vs_nil, vs_cons, vA_t, vA_f, vA_n, vO_nil, vO_cons, vI_seq, vI_rng1, vI_rng2, vI_enum, vI_zip, vX_skip, vX_sq, vX_asg, vX_par, vX_seti, vX_seti2, vX_ex, vX_ret, vX_retn, vX_ite, vX_for, vX_brk, vX_cnt, vthen_nx, vthen_rt, vthen_bk, vthen_ct, vgo_nx, vgo_ct, vgo_bk, vgo_rt, fin_rt, fin_nx, back_ok, wb_t, wb_f, wb_n, wb_e, hdS_c, b_add, b_sub, c_lt, c_le, c_gt, c_ge, c_eqi, c_nei, c_nes, c_eqs, c_isn, c_isnn, t_bl, t_int, t_non, vseq_t, vseq_l, as_int, len_l, len_t, len_r, bi_int, bi_intb, bi_abs, bi_max2, bi_min2, bi_tup_t, bi_tup_l, bi_list_t, bi_list_l, neg_int, sl_t, sl_l, sl_r, rev_t, rev_l, lenOk_nil, lenOk_1, lenOk_2, lenOk_3, lenOk_4, lenOk_5, lenOk_6, ix_t0, ix_t1, ix_t2, ix_t3, ix_t4, ix_l0, ix_l1, ix_l2, Wp_ok, cl_int, cl_non, cl_tup, cl_lst, Q.bind_ok, Q.bind_exc, Q.bind_no, Q.of_some, Q.of_none, Q.calm_ok, if_true, if_false, Bool.false_eq_true, Bool.true_eq_false, decide_true, decide_false, Bool.not_true, Bool.not_false, Bool.and_true, Bool.true_and, Bool.and_false, Bool.false_and, Bool.or_true, Bool.or_false, Bool.true_or, Bool.false_or, Bool.not_not, not_true_eq_false, not_false_eq_true, List.map_cons, List.map_nil, List.length_map, List.take_succ_cons, List.take_zero, List.tail_cons, List.nil_append, List.cons_append, List.append_nil, asgQ, parQ, List.reduceReplicate, List.length_cons, List.length_nil, Nat.reduceSub, Nat.reduceAdd, Nat.zero_add, Wp_ok, decide_eq_true_eq, isNon, List.reverse_cons, List.reverse_nil, Bool.not_eq_true', decide_eq_false_iff_not, bne_iff_ne, ne_eq, startS, l1, f1, D.c_law_inner.me.iof, k_law_inner, Kd.io, e, i, hin]
end Vm
end

section
set_option Elab.async false
set_option linter.all false
set_option maxRecDepth 100000
set_option maxHeartbeats 4000000
/-! k09: the law's own functions. -/
namespace Vm
open PySem Wm
section
variable {tab : List Fn} {kt : List Ki} {ix : Nat → Nat}
theorem loose_ok (D : D_law_loose tab kt ix) {K : Nat} (hK : 4 ≤ K) {p : W} (hp : PenOk p) (m : Mine) (hm : m.Ok) :
    Wp (vcallN tab kt K (ix n_law_loose) [p, m.v]) fun w o => ∃ (m' : Mine) (p' : W), w = m'.v ∧ m'.Ok ∧ o = [some p', some m.v] ∧ PenOk p' := by
  obtain ⟨K, rfl⟩ : ∃ k, K = k + 1 := ⟨K - 1, by omega⟩
  rw [D.me.enter rfl]
  have n2 := hm.n2
  have n8 := hm.n8
  obtain ⟨w, o, e, d, p1, rfl, d0, d1, rfl, hp1⟩ := (draw_ok D.c_law_draw (K := K) (by omega) hp (b := 3) (by omega) (by omega)).get
  by_cases h : 0 < d
  · simp only [sh_law_loose, getS_z, getS_s, setS_z, setS_s, wipe_n, wipe_c, rest_n, rest_c, asg_nm, asg_nil, asg_cons, par_nil, par_cons, vE_v, vE_c, vE_bin, vE_neg, vE_cmp, vE_chain, vE_and, vE_or, vE_not, vE_ite, vE_call, vE_bi, vE_isi, vE_mt, vE_tup, vE_lst, vE_ix, vE_sl, vE_rev, vE_lrg, vE_lc, vT_and, vT_or, vT_not, vT_cmp, vT_chain, vT_v, vT_c, vT_call, vT_bi, vT_isi, vT_ix, vC_nil, vC_cons, vs_nil, vs_cons, vA_t, vA_f, vA_n, vO_nil, vO_cons, vI_seq, vI_rng1, vI_rng2, vI_enum, vI_zip, vX_skip, vX_sq, vX_asg, vX_par, vX_seti, vX_seti2, vX_ex, vX_ret, vX_retn, vX_ite, vX_for, vX_brk, vX_cnt, vthen_nx, vthen_rt, vthen_bk, vthen_ct, vgo_nx, vgo_ct, vgo_bk, vgo_rt, fin_rt, fin_nx, back_ok, wb_t, wb_f, wb_n, wb_e, hdS_c, b_add, b_sub, c_lt, c_le, c_gt, c_ge, c_eqi, c_nei, c_nes, c_eqs, c_isn, c_isnn, t_bl, t_int, t_non, vseq_t, vseq_l, as_int, len_l, len_t, len_r, bi_int, bi_intb, bi_abs, bi_max2, bi_min2, bi_tup_t, bi_tup_l, bi_list_t, bi_list_l, neg_int, sl_t, sl_l, sl_r, rev_t, rev_l, lenOk_nil, lenOk_1, lenOk_2, lenOk_3, lenOk_4, lenOk_5, lenOk_6, ix_t0, ix_t1, ix_t2, ix_t3, ix_t4, ix_l0, ix_l1, ix_l2, Wp_ok, cl_int, cl_non, cl_tup, cl_lst, Q.bind_ok, Q.bind_exc, Q.bind_no, Q.of_some, Q.of_none, Q.calm_ok, if_true, if_false, Bool.false_eq_true, Bool.true_eq_false, decide_true, decide_false, Bool.not_true, Bool.not_false, Bool.and_true, Bool.true_and, Bool.and_false, Bool.false_and, Bool.or_true, Bool.or_false, Bool.true_or, Bool.false_or, Bool.not_not, not_true_eq_false, not_false_eq_true, List.map_cons, List.map_nil, List.length_map, List.take_succ_cons, List.take_zero, List.tail_cons, List.nil_append, List.cons_append, List.append_nil, asgQ, parQ, List.reduceReplicate, List.length_cons, List.length_nil, Nat.reduceSub, Nat.reduceAdd, Nat.zero_add, Wp_ok, decide_eq_true_eq, isNon, List.reverse_cons, List.reverse_nil, Bool.not_eq_true', decide_eq_false_iff_not, bne_iff_ne, ne_eq, startS, D.c_law_draw.me.iof, k_law_draw, Kd.io, e, h]
    exact ⟨m, p1, rfl, hm, rfl, hp1⟩
  · obtain ⟨w, o, e2, l, p2, rfl, l0, l1, rfl, hp2⟩ := (draw_ok D.c_law_draw (K := K) (by omega) hp1 (b := 6) (by omega) (by omega)).get
    have r := rngQ_ok (n := 1 + l) (by omega) (by omega)
    apply Wp_fin
    simp only [sh_law_loose, getS_z, getS_s, setS_z, setS_s, wipe_n, wipe_c, rest_n, rest_c, asg_nm, asg_nil, asg_cons, par_nil, par_cons, vE_v, vE_c, vE_bin, vE_neg, vE_cmp, vE_chain, vE_and, vE_or, vE_not, vE_ite, vE_call, vE_bi, vE_isi, vE_mt, vE_tup, vE_lst, vE_ix, vE_sl, vE_rev, vE_lrg, vE_lc, vT_and, vT_or, vT_not, vT_cmp, vT_chain, vT_v, vT_c, vT_call, vT_bi, vT_isi, vT_ix, vC_nil, vC_cons, vs_nil, vs_cons, vA_t, vA_f, vA_n, vO_nil, vO_cons, vI_seq, vI_rng1, vI_rng2, vI_enum, vI_zip, vX_skip, vX_sq, vX_asg, vX_par, vX_seti, vX_seti2, vX_ex, vX_ret, vX_retn, vX_ite, vX_for, vX_brk, vX_cnt, vthen_nx, vthen_rt, vthen_bk, vthen_ct, vgo_nx, vgo_ct, vgo_bk, vgo_rt, fin_rt, fin_nx, back_ok, wb_t, wb_f, wb_n, wb_e, hdS_c, b_add, b_sub, c_lt, c_le, c_gt, c_ge, c_eqi, c_nei, c_nes, c_eqs, c_isn, c_isnn, t_bl, t_int, t_non, vseq_t, vseq_l, as_int, len_l, len_t, len_r, bi_int, bi_intb, bi_abs, bi_max2, bi_min2, bi_tup_t, bi_tup_l, bi_list_t, bi_list_l, neg_int, sl_t, sl_l, sl_r, rev_t, rev_l, lenOk_nil, lenOk_1, lenOk_2, lenOk_3, lenOk_4, lenOk_5, lenOk_6, ix_t0, ix_t1, ix_t2, ix_t3, ix_t4, ix_l0, ix_l1, ix_l2, Wp_ok, cl_int, cl_non, cl_tup, cl_lst, Q.bind_ok, Q.bind_exc, Q.bind_no, Q.of_some, Q.of_none, Q.calm_ok, if_true, if_false, Bool.false_eq_true, Bool.true_eq_false, decide_true, decide_false, Bool.not_true, Bool.not_false, Bool.and_true, Bool.true_and, Bool.and_false, Bool.false_and, Bool.or_true, Bool.or_false, Bool.true_or, Bool.false_or, Bool.not_not, not_true_eq_false, not_false_eq_true, List.map_cons, List.map_nil, List.length_map, List.take_succ_cons, List.take_zero, List.tail_cons, List.nil_append, List.cons_append, List.append_nil, asgQ, parQ, List.reduceReplicate, List.length_cons, List.length_nil, Nat.reduceSub, Nat.reduceAdd, Nat.zero_add, Wp_ok, decide_eq_true_eq, isNon, List.reverse_cons, List.reverse_nil, Bool.not_eq_true', decide_eq_false_iff_not, bne_iff_ne, ne_eq, startS, D.c_law_draw.me.iof, k_law_draw, Kd.io, e, e2, h, r]
    have lp := lc_inv (f := lcF (vcallN tab kt K) (ioOf kt) (.call (ix n_law_two_places) (.cons (.v 0) (.cons (.ix (.v 1) (.c (.int 0))) .nil))) [3] (.nm 3) .nil) W.int
      (fun pre ys s => ∃ (p' : W) (E' : List (Int × Int)), ys = E'.map pairW ∧ s = [some p', some m.v, none, none] ∧ PenOk p' ∧ E'.length = pre.length ∧ ∀ q ∈ E', wayOk m.n q) (rngZ 0 (1 + l).toNat)
      (post := fun ys s => ∃ (p' : W) (E' : List (Int × Int)), ys = E'.map pairW ∧ s = [some p', some m.v, none, none] ∧ PenOk p' ∧ E'.length = (1 + l).toNat ∧ ∀ q ∈ E', wayOk m.n q)
      (fun pre x rest ys s hl i => by
        obtain ⟨p', E', rfl, rfl, hp', hE, hw⟩ := i
        obtain ⟨w, o, e4, q, p5, rfl, hq, rfl, hp5⟩ := (two_ok D.c_law_two_places (K := K) (by omega) hp' n2 (by omega)).get
        simp only [lcF, getS_z, getS_s, setS_z, setS_s, wipe_n, wipe_c, rest_n, rest_c, asg_nm, asg_nil, asg_cons, par_nil, par_cons, vE_v, vE_c, vE_bin, vE_neg, vE_cmp, vE_chain, vE_and, vE_or, vE_not, vE_ite, vE_call, vE_bi, vE_isi, vE_mt, vE_tup, vE_lst, vE_ix, vE_sl, vE_rev, vE_lrg, vE_lc, vT_and, vT_or, vT_not, vT_cmp, vT_chain, vT_v, vT_c, vT_call, vT_bi, vT_isi, vT_ix, vC_nil, vC_cons, vs_nil, vs_cons, vA_t, vA_f, vA_n, vO_nil, vO_cons, vI_seq, vI_rng1, vI_rng2, vI_enum, vI_zip, vX_skip, vX_sq, vX_asg, vX_par, vX_seti, vX_seti2, vX_ex, vX_ret, vX_retn, vX_ite, vX_for, vX_brk, vX_cnt, vthen_nx, vthen_rt, vthen_bk, vthen_ct, vgo_nx, vgo_ct, vgo_bk, vgo_rt, fin_rt, fin_nx, back_ok, wb_t, wb_f, wb_n, wb_e, hdS_c, b_add, b_sub, c_lt, c_le, c_gt, c_ge, c_eqi, c_nei, c_nes, c_eqs, c_isn, c_isnn, t_bl, t_int, t_non, vseq_t, vseq_l, as_int, len_l, len_t, len_r, bi_int, bi_intb, bi_abs, bi_max2, bi_min2, bi_tup_t, bi_tup_l, bi_list_t, bi_list_l, neg_int, sl_t, sl_l, sl_r, rev_t, rev_l, lenOk_nil, lenOk_1, lenOk_2, lenOk_3, lenOk_4, lenOk_5, lenOk_6, ix_t0, ix_t1, ix_t2, ix_t3, ix_t4, ix_l0, ix_l1, ix_l2, Wp_ok, cl_int, cl_non, cl_tup, cl_lst, Q.bind_ok, Q.bind_exc, Q.bind_no, Q.of_some, Q.of_none, Q.calm_ok, if_true, if_false, Bool.false_eq_true, Bool.true_eq_false, decide_true, decide_false, Bool.not_true, Bool.not_false, Bool.and_true, Bool.true_and, Bool.and_false, Bool.false_and, Bool.or_true, Bool.or_false, Bool.true_or, Bool.false_or, Bool.not_not, not_true_eq_false, not_false_eq_true, List.map_cons, List.map_nil, List.length_map, List.take_succ_cons, List.take_zero, List.tail_cons, List.nil_append, List.cons_append, List.append_nil, asgQ, parQ, List.reduceReplicate, List.length_cons, List.length_nil, Nat.reduceSub, Nat.reduceAdd, Nat.zero_add, Wp_ok, decide_eq_true_eq, isNon, List.reverse_cons, List.reverse_nil, Bool.not_eq_true', decide_eq_false_iff_not, bne_iff_ne, ne_eq, D.c_law_two_places.me.iof, k_law_two_places, Kd.io, Mine.v, e4]
        exact ⟨p5, E' ++ [q], enc_snoc _ _ _, rfl, hp5, by simp [hE], fun r hr => (List.mem_append.mp hr).elim (hw r) fun h => by rw [List.mem_singleton.mp h]; exact hq⟩)
      (fun ys s i => by obtain ⟨p', E', h1, h2, h3, h4, h5⟩ := i; exact ⟨p', E', h1, h2, h3, by rw [h4, rng_len], h5⟩) [some p2, some m.v, none, none] ⟨p2, [], rfl, rfl, hp2, rfl, by simp⟩
    obtain ⟨ys, s, el, p', E', rfl, rfl, hp', hE, hw⟩ := lp.get
    have f1 : lenOk (E'.map pairW) = true := lenOk_of (by simp; omega)
    simp only [Mine.v] at el
    simp only [getS_z, getS_s, setS_z, setS_s, wipe_n, wipe_c, rest_n, rest_c, asg_nm, asg_nil, asg_cons, par_nil, par_cons, vE_v, vE_c, vE_bin, vE_neg, vE_cmp, vE_chain, vE_and, vE_or, vE_not, vE_ite, vE_call, vE_bi, vE_isi, vE_mt, vE_tup, vE_lst, vE_ix, vE_sl, vE_rev, vE_lrg, vE_lc, vT_and, vT_or, vT_not, vT_cmp, vT_chain, vT_v, vT_c, vT_call, vT_bi, vT_isi, vT_ix, vC_nil, vC_cons, vs_nil, vs_cons, vA_t, vA_f, vA_n, vO_nil, vO_cons, vI_seq, vI_rng1, vI_rng2, vI_enum, vI_zip, vX_skip, vX_sq, vX_asg, vX_par, vX_seti, vX_seti2, vX_ex, vX_ret, vX_retn, vX_ite, vX_for, vX_brk, vX_cnt, vthen_nx, vthen_rt, vthen_bk, vthen_ct, vgo_nx, vgo_ct, vgo_bk, vgo_rt, fin_rt, fin_nx, back_ok, wb_t, wb_f, wb_n, wb_e, hdS_c, b_add, b_sub, c_lt, c_le, c_gt, c_ge, c_eqi, c_nei, c_nes, c_eqs, c_isn, c_isnn, t_bl, t_int, t_non, vseq_t, vseq_l, as_int, len_l, len_t, len_r, bi_int, bi_intb, bi_abs, bi_max2, bi_min2, bi_tup_t, bi_tup_l, bi_list_t, bi_list_l, neg_int, sl_t, sl_l, sl_r, rev_t, rev_l, lenOk_nil, lenOk_1, lenOk_2, lenOk_3, lenOk_4, lenOk_5, lenOk_6, ix_t0, ix_t1, ix_t2, ix_t3, ix_t4, ix_l0, ix_l1, ix_l2, Wp_ok, cl_int, cl_non, cl_tup, cl_lst, Q.bind_ok, Q.bind_exc, Q.bind_no, Q.of_some, Q.of_none, Q.calm_ok, if_true, if_false, Bool.false_eq_true, Bool.true_eq_false, decide_true, decide_false, Bool.not_true, Bool.not_false, Bool.and_true, Bool.true_and, Bool.and_false, Bool.false_and, Bool.or_true, Bool.or_false, Bool.true_or, Bool.false_or, Bool.not_not, not_true_eq_false, not_false_eq_true, List.map_cons, List.map_nil, List.length_map, List.take_succ_cons, List.take_zero, List.tail_cons, List.nil_append, List.cons_append, List.append_nil, asgQ, parQ, List.reduceReplicate, List.length_cons, List.length_nil, Nat.reduceSub, Nat.reduceAdd, Nat.zero_add, Wp_ok, decide_eq_true_eq, isNon, List.reverse_cons, List.reverse_nil, Bool.not_eq_true', decide_eq_false_iff_not, bne_iff_ne, ne_eq, Mine.v, el, f1]
    exact ⟨⟨m.n, E', m.i, m.o⟩, p', rfl, ⟨n2, n8, by show 1 ≤ E'.length; omega, by show E'.length ≤ 12; omega, hw, hm.i0, hm.i1, hm.o0, hm.o1, hm.io⟩, rfl, hp'⟩
theorem around_ok (D : D_law_around tab kt ix) {K : Nat} (hK : 3 ≤ K) {p : W} (hp : PenOk p) (m : Mine) (hm : m.Ok) (x : Int) (x0 : 0 ≤ x) (x1 : x < m.n) :
    Wp (vcallN tab kt K (ix n_law_around) [p, m.v, .int x]) fun w o => ∃ (fs : List Fact) (p' : W), w = .lst (fs.map factW) ∧ (fs.length ≤ m.E.length) ∧ (∀ f ∈ fs, factOk m.n f) ∧ o = [some p', some m.v, some (.int x)] ∧ PenOk p' := by
  obtain ⟨K, rfl⟩ : ∃ k, K = k + 1 := ⟨K - 1, by omega⟩
  rw [D.me.enter rfl]
  obtain ⟨w, o, e, sd, p1, rfl, d0, d1, rfl, hp1⟩ := (draw_ok D.c_law_draw (K := K) (by omega) hp (b := 2) (by omega) (by omega)).get
  have e12 := hm.e12
  have lp := for_inv (t := .cons (.nm 5) (.cons (.nm 6) .nil)) (b := vX (vcallN tab kt K) (ioOf kt) (.fgt [5, 6, 7, 8, 9] (sb_law_around_0 ix))) pairW
    (fun (pre : List (Int × Int)) s => ∃ (p' : W) (fs : List Fact), s = [some p', some m.v, some (.int x), some (.lst (fs.map factW)), some (.int sd), none, none, none, none, none] ∧ PenOk p' ∧ fs.length ≤ pre.length ∧ ∀ f ∈ fs, factOk m.n f) m.E
    (post := fun r s => r = .nx ∧ ∃ (p' : W) (fs : List Fact), s = [some p', some m.v, some (.int x), some (.lst (fs.map factW)), some (.int sd), none, none, none, none, none] ∧ PenOk p' ∧ fs.length ≤ m.E.length ∧ ∀ f ∈ fs, factOk m.n f)
    (fun pre q rest s hl i => by
      obtain ⟨p', fs, rfl, hp', hf, hw⟩ := i
      refine ⟨_, rfl, ?_⟩
      have hq : wayOk m.n q := hm.ways q (by rw [hl]; simp)
      have hlen : pre.length ≤ 12 := by have := congrArg List.length hl; simp at this; omega
      have i := (in_pair x q.1 q.2).1
      have keep : ∀ p', PenOk p' → ∃ (p'_1 : W) (fs_1 : List Fact), ([some p', some m.v, some (W.int x), some (W.lst (fs.map factW)), some (W.int sd), none, none, none, none, none] : Sl) = [some p'_1, some m.v, some (W.int x), some (W.lst (fs_1.map factW)), some (W.int sd), none, none, none, none, none] ∧ PenOk p'_1 ∧ fs_1.length ≤ (pre ++ [q]).length ∧ ∀ f ∈ fs_1, factOk m.n f := fun p' h => ⟨p', fs, rfl, h, by simp; omega, hw⟩
      simp only [vX_fgt]
      unfold sb_law_around_0
      by_cases hx : x = q.1 ∨ x = q.2
      · obtain ⟨w, o, e2, a, p2, rfl, a0, a1, rfl, hp2⟩ := (draw_ok D.c_law_draw (K := K) (by omega) hp' (b := 9) (by omega) (by omega)).get
        obtain ⟨w, o, e3, b, p3, rfl, b0, b1, rfl, hp3⟩ := (draw_ok D.c_law_draw (K := K) (by omega) hp2 (b := 2) (by omega) (by omega)).get
        simp only [hx, decide_true] at i
        have fin : ∀ f : Fact, factOk m.n f → ∃ (p'_1 : W) (fs_1 : List Fact), ([some p3, some m.v, some (W.int x), some (W.lst (fs.map factW ++ [factW f])), some (W.int sd), none, none, none, none, none] : Sl) = [some p'_1, some m.v, some (W.int x), some (W.lst (fs_1.map factW)), some (W.int sd), none, none, none, none, none] ∧ PenOk p'_1 ∧ fs_1.length ≤ (pre ++ [q]).length ∧ ∀ f ∈ fs_1, factOk m.n f := fun f hf' => ⟨p3, fs ++ [f], by rw [enc_snoc], hp3, by simp; omega, fun g hg => (List.mem_append.mp hg).elim (hw g) fun h => by rw [List.mem_singleton.mp h]; exact hf'⟩
        have ap : ∀ (a b c : Int) (z5 z6 z7 z8 z9 : W), mtS .append 3 [.tup [.int a, .int b, .int c]] [some p3, some m.v, some (.int x), some (.lst (fs.map factW)), some (.int sd), some z5, some z6, some z7, some z8, some z9] = .ok .non [some p3, some m.v, some (.int x), some (.lst (fs.map factW ++ [.tup [.int a, .int b, .int c]])), some (.int sd), some z5, some z6, some z7, some z8, some z9] := fun a b c z5 z6 z7 z8 z9 => mt_append (k := 3) (us := fs.map factW) rfl (by simp; omega)
        simp only [factW] at fin
        unfold wayOk at hq
        obtain ⟨b1, h1⟩ : ∃ b, decide (q.1 = x) = b := ⟨_, rfl⟩
        obtain ⟨b2, h2⟩ : ∃ b, decide (sd = 0) = b := ⟨_, rfl⟩
        obtain ⟨b3, h3⟩ : ∃ b, decide (0 < a) = b := ⟨_, rfl⟩
        simp only [Mine.v] at *
        cases b1 <;> cases b2 <;> cases b3 <;> simp only [getS_z, getS_s, setS_z, setS_s, wipe_n, wipe_c, rest_n, rest_c, asg_nm, asg_nil, asg_cons, par_nil, par_cons, vE_v, vE_c, vE_bin, vE_neg, vE_cmp, vE_chain, vE_and, vE_or, vE_not, vE_ite, vE_call, vE_bi, vE_isi, vE_mt, vE_tup, vE_lst, vE_ix, vE_sl, vE_rev, vE_lrg, vE_lc, vT_and, vT_or, vT_not, vT_cmp, vT_chain, vT_v, vT_c, vT_call, vT_bi, vT_isi, vT_ix, vC_nil, vC_cons, vs_nil, vs_cons, vA_t, vA_f, vA_n, vO_nil, vO_cons, vI_seq, vI_rng1, vI_rng2, vI_enum, vI_zip, vX_skip, vX_sq, vX_asg, vX_par, vX_seti, vX_seti2, vX_ex, vX_ret, vX_retn, vX_ite, vX_for, vX_brk, vX_cnt, vthen_nx, vthen_rt, vthen_bk, vthen_ct, vgo_nx, vgo_ct, vgo_bk, vgo_rt, fin_rt, fin_nx, back_ok, wb_t, wb_f, wb_n, wb_e, hdS_c, b_add, b_sub, c_lt, c_le, c_gt, c_ge, c_eqi, c_nei, c_nes, c_eqs, c_isn, c_isnn, t_bl, t_int, t_non, vseq_t, vseq_l, as_int, len_l, len_t, len_r, bi_int, bi_intb, bi_abs, bi_max2, bi_min2, bi_tup_t, bi_tup_l, bi_list_t, bi_list_l, neg_int, sl_t, sl_l, sl_r, rev_t, rev_l, lenOk_nil, lenOk_1, lenOk_2, lenOk_3, lenOk_4, lenOk_5, lenOk_6, ix_t0, ix_t1, ix_t2, ix_t3, ix_t4, ix_l0, ix_l1, ix_l2, Wp_ok, cl_int, cl_non, cl_tup, cl_lst, Q.bind_ok, Q.bind_exc, Q.bind_no, Q.of_some, Q.of_none, Q.calm_ok, if_true, if_false, Bool.false_eq_true, Bool.true_eq_false, decide_true, decide_false, Bool.not_true, Bool.not_false, Bool.and_true, Bool.true_and, Bool.and_false, Bool.false_and, Bool.or_true, Bool.or_false, Bool.true_or, Bool.false_or, Bool.not_not, not_true_eq_false, not_false_eq_true, List.map_cons, List.map_nil, List.length_map, List.take_succ_cons, List.take_zero, List.tail_cons, List.nil_append, List.cons_append, List.append_nil, asgQ, parQ, List.reduceReplicate, List.length_cons, List.length_nil, Nat.reduceSub, Nat.reduceAdd, Nat.zero_add, Wp_ok, decide_eq_true_eq, isNon, List.reverse_cons, List.reverse_nil, Bool.not_eq_true', decide_eq_false_iff_not, bne_iff_ne, ne_eq, pairW, i, h1, h2, D.c_law_draw.me.iof, k_law_draw, Kd.io, e2, h3, e3, lstS, turnP, ap] <;> simp only [decide_eq_true_eq, decide_eq_false_iff_not] at h1 h2 h3
        · exact keep _ hp2
        · exact fin (x, q.1, b) ⟨by unfold wayOk; dsimp only; omega, by dsimp only; omega⟩
        · exact keep _ hp2
        · exact fin (q.1, x, b) ⟨by unfold wayOk; dsimp only; omega, by dsimp only; omega⟩
        · exact keep _ hp2
        · exact fin (x, q.2, b) ⟨by unfold wayOk; dsimp only; omega, by dsimp only; omega⟩
        · exact keep _ hp2
        · exact fin (q.2, x, b) ⟨by unfold wayOk; dsimp only; omega, by dsimp only; omega⟩
      · simp only [hx, decide_false] at i
        simp only [getS_z, getS_s, setS_z, setS_s, wipe_n, wipe_c, rest_n, rest_c, asg_nm, asg_nil, asg_cons, par_nil, par_cons, vE_v, vE_c, vE_bin, vE_neg, vE_cmp, vE_chain, vE_and, vE_or, vE_not, vE_ite, vE_call, vE_bi, vE_isi, vE_mt, vE_tup, vE_lst, vE_ix, vE_sl, vE_rev, vE_lrg, vE_lc, vT_and, vT_or, vT_not, vT_cmp, vT_chain, vT_v, vT_c, vT_call, vT_bi, vT_isi, vT_ix, vC_nil, vC_cons, vs_nil, vs_cons, vA_t, vA_f, vA_n, vO_nil, vO_cons, vI_seq, vI_rng1, vI_rng2, vI_enum, vI_zip, vX_skip, vX_sq, vX_asg, vX_par, vX_seti, vX_seti2, vX_ex, vX_ret, vX_retn, vX_ite, vX_for, vX_brk, vX_cnt, vthen_nx, vthen_rt, vthen_bk, vthen_ct, vgo_nx, vgo_ct, vgo_bk, vgo_rt, fin_rt, fin_nx, back_ok, wb_t, wb_f, wb_n, wb_e, hdS_c, b_add, b_sub, c_lt, c_le, c_gt, c_ge, c_eqi, c_nei, c_nes, c_eqs, c_isn, c_isnn, t_bl, t_int, t_non, vseq_t, vseq_l, as_int, len_l, len_t, len_r, bi_int, bi_intb, bi_abs, bi_max2, bi_min2, bi_tup_t, bi_tup_l, bi_list_t, bi_list_l, neg_int, sl_t, sl_l, sl_r, rev_t, rev_l, lenOk_nil, lenOk_1, lenOk_2, lenOk_3, lenOk_4, lenOk_5, lenOk_6, ix_t0, ix_t1, ix_t2, ix_t3, ix_t4, ix_l0, ix_l1, ix_l2, Wp_ok, cl_int, cl_non, cl_tup, cl_lst, Q.bind_ok, Q.bind_exc, Q.bind_no, Q.of_some, Q.of_none, Q.calm_ok, if_true, if_false, Bool.false_eq_true, Bool.true_eq_false, decide_true, decide_false, Bool.not_true, Bool.not_false, Bool.and_true, Bool.true_and, Bool.and_false, Bool.false_and, Bool.or_true, Bool.or_false, Bool.true_or, Bool.false_or, Bool.not_not, not_true_eq_false, not_false_eq_true, List.map_cons, List.map_nil, List.length_map, List.take_succ_cons, List.take_zero, List.tail_cons, List.nil_append, List.cons_append, List.append_nil, asgQ, parQ, List.reduceReplicate, List.length_cons, List.length_nil, Nat.reduceSub, Nat.reduceAdd, Nat.zero_add, Wp_ok, decide_eq_true_eq, isNon, List.reverse_cons, List.reverse_nil, Bool.not_eq_true', decide_eq_false_iff_not, bne_iff_ne, ne_eq, pairW, i, turnP]
        exact keep _ hp')
    (fun s i => ⟨rfl, i⟩) [some p1, some m.v, some (.int x), some (.lst []), some (.int sd), none, none, none, none, none] ⟨p1, [], rfl, hp1, by simp, by simp⟩
  obtain ⟨r, s, el, rfl, p', fs, rfl, hp', hf, hw⟩ := lp.get
  simp only [Mine.v] at el
  simp only [sh_law_around, getS_z, getS_s, setS_z, setS_s, wipe_n, wipe_c, rest_n, rest_c, asg_nm, asg_nil, asg_cons, par_nil, par_cons, vE_v, vE_c, vE_bin, vE_neg, vE_cmp, vE_chain, vE_and, vE_or, vE_not, vE_ite, vE_call, vE_bi, vE_isi, vE_mt, vE_tup, vE_lst, vE_ix, vE_sl, vE_rev, vE_lrg, vE_lc, vT_and, vT_or, vT_not, vT_cmp, vT_chain, vT_v, vT_c, vT_call, vT_bi, vT_isi, vT_ix, vC_nil, vC_cons, vs_nil, vs_cons, vA_t, vA_f, vA_n, vO_nil, vO_cons, vI_seq, vI_rng1, vI_rng2, vI_enum, vI_zip, vX_skip, vX_sq, vX_asg, vX_par, vX_seti, vX_seti2, vX_ex, vX_ret, vX_retn, vX_ite, vX_for, vX_brk, vX_cnt, vthen_nx, vthen_rt, vthen_bk, vthen_ct, vgo_nx, vgo_ct, vgo_bk, vgo_rt, fin_rt, fin_nx, back_ok, wb_t, wb_f, wb_n, wb_e, hdS_c, b_add, b_sub, c_lt, c_le, c_gt, c_ge, c_eqi, c_nei, c_nes, c_eqs, c_isn, c_isnn, t_bl, t_int, t_non, vseq_t, vseq_l, as_int, len_l, len_t, len_r, bi_int, bi_intb, bi_abs, bi_max2, bi_min2, bi_tup_t, bi_tup_l, bi_list_t, bi_list_l, neg_int, sl_t, sl_l, sl_r, rev_t, rev_l, lenOk_nil, lenOk_1, lenOk_2, lenOk_3, lenOk_4, lenOk_5, lenOk_6, ix_t0, ix_t1, ix_t2, ix_t3, ix_t4, ix_l0, ix_l1, ix_l2, Wp_ok, cl_int, cl_non, cl_tup, cl_lst, Q.bind_ok, Q.bind_exc, Q.bind_no, Q.of_some, Q.of_none, Q.calm_ok, if_true, if_false, Bool.false_eq_true, Bool.true_eq_false, decide_true, decide_false, Bool.not_true, Bool.not_false, Bool.and_true, Bool.true_and, Bool.and_false, Bool.false_and, Bool.or_true, Bool.or_false, Bool.true_or, Bool.false_or, Bool.not_not, not_true_eq_false, not_false_eq_true, List.map_cons, List.map_nil, List.length_map, List.take_succ_cons, List.take_zero, List.tail_cons, List.nil_append, List.cons_append, List.append_nil, asgQ, parQ, List.reduceReplicate, List.length_cons, List.length_nil, Nat.reduceSub, Nat.reduceAdd, Nat.zero_add, Wp_ok, decide_eq_true_eq, isNon, List.reverse_cons, List.reverse_nil, Bool.not_eq_true', decide_eq_false_iff_not, bne_iff_ne, ne_eq, startS, D.c_law_draw.me.iof, k_law_draw, Kd.io, e, Mine.v, el]
  exact ⟨fs, p', rfl, hf, hw, rfl, hp'⟩

theorem wt_fact (f : Fact) : wtW (factW f) ≤ 315 := by simp [factW, wtW, wtWs]
theorem sml_fact {n : Int} (hn : n ≤ 1000) {f : Fact} (h : factOk n f) : sml 59 (factW f) = true := by
  obtain ⟨⟨h1, h2, h3, h4, h5⟩, h6⟩ := h
  simp only [] at *
  simp only [factW, sml, List.all_cons, List.all_nil, Bool.and_true, Bool.and_eq_true, decide_eq_true_eq]
  refine ⟨?_, ?_, ?_⟩ <;> omega
theorem stuckL_eq (m : Mine) (fs : List Fact) : (rngZ 0 m.n.toNat).filter (fun x => decide (x ∈ innerL m) && stuckB m fs x) = stuckL m fs := by
  unfold stuckL innerL
  rw [List.filter_filter]
  apply List.filter_congr
  intro x hx
  rw [Bool.eq_iff_iff]
  simp only [Bool.and_eq_true, decide_eq_true_eq, List.mem_filter]
  exact ⟨fun h => ⟨h.2, h.1.2⟩, fun h => ⟨⟨hx, h.2⟩, h.1⟩⟩
theorem turn_k09 (D : D_law_k09 tab kt ix) {K : Nat} (hK : 6 ≤ K) (sc : W) {p : W} (hp : PenOk p) (t : W) :
    Wp (vX (vcallN tab kt K) (ioOf kt) (.fgt [2, 3, 4, 5, 6, 7] (sb_law_k09_0 ix)) [some sc, some p, some t, none, none, none, none, none, none]) fun r s => r = .nx ∧ ∃ p', s = [some sc, some p', none, none, none, none, none, none, none] ∧ PenOk p' := by
  obtain ⟨w, o, e1, m0, p1, rfl, ok0, _, _, _, _, rfl, hp1⟩ := (mine_ok D.c_law_mine (K := K) (by omega) hp (most := 6) (many := 9) (by omega) (by omega) (by omega) (by omega)).get
  obtain ⟨w, o, e2, m, p2, rfl, ok, rfl, hp2⟩ := (loose_ok D.c_law_loose (K := K) (by omega) hp1 m0 ok0).get
  have n2 := ok.n2
  have n8 := ok.n8
  have e12 := ok.e12
  obtain ⟨w, o, e3, x, p3, rfl, x0, x1, rfl, hp3⟩ := (draw_ok D.c_law_draw (K := K) (by omega) hp2 (b := m.n) (by omega) (by omega)).get
  obtain ⟨w, o, e4, f1, p4, rfl, l1, k1, rfl, hp4⟩ := (around_ok D.c_law_around (K := K) (by omega) hp3 m ok x x0 x1).get
  obtain ⟨w, o, e5, y, p5, rfl, y0, y1, rfl, hp5⟩ := (draw_ok D.c_law_draw (K := K) (by omega) hp4 (b := m.n) (by omega) (by omega)).get
  obtain ⟨w, o, e6, f2, p6, rfl, l2, k2, rfl, hp6⟩ := (around_ok D.c_law_around (K := K) (by omega) hp5 m ok y y0 y1).get
  obtain ⟨w, o, e7, hw7, p7, rfl, hp7⟩ := (one_of_ok D.c_law_one_of (K := K) (by omega) hp6 (x := .lst [.int 11, .int 11, .int 5]) (.inl rfl) (by simp) (by simp)).get
  obtain ⟨c, rfl⟩ : ∃ c, w = .int c := by
    simp only [List.mem_cons, List.not_mem_nil, or_false] at hw7
    rcases hw7 with rfl | rfl | rfl <;> exact ⟨_, rfl⟩
  obtain ⟨w, o, e8, b, p8, rfl, b0, b1, rfl, hp8⟩ := (draw_ok D.c_law_draw (K := K) (by omega) hp7 (b := 2) (by omega) (by omega)).get
  obtain ⟨w, o, e9, g, p9, rfl, hg, rfl, hp9⟩ := (fact_ok D.c_law_fact (K := K) (by omega) hp8 (n := m.n) n2 (by omega)).get
  have ad1 : binV .add (.lst (f1.map factW)) (.lst (f2.map factW)) = some (.lst ((f1 ++ f2).map factW)) := by rw [b_addl (by simp; omega), List.map_append]
  -- what is left of them
  obtain ⟨fs0, hcut, lcut, kcut⟩ : ∃ fs0 : List Fact, cut ((f1 ++ f2).map factW) none (some c) = fs0.map factW ∧ fs0.length ≤ 24 ∧ ∀ f ∈ fs0, factOk m.n f := by
    refine ⟨((f1 ++ f2).drop 0).take (endOf ((f1 ++ f2).map factW).length ((f1 ++ f2).map factW).length (some c) - 0), by simp [cut, endOf, List.map_take], ?_, fun f hf => ?_⟩
    · rw [List.length_take]; simp; omega
    · have hf2 := List.mem_of_mem_drop (List.mem_of_mem_take hf)
      rcases List.mem_append.mp hf2 with h | h
      · exact k1 f h
      · exact k2 f h
  have ad2 : binV .add (.lst (fs0.map factW)) (.lst [factW g]) = some (.lst ((fs0 ++ [g]).map factW)) := by rw [b_addl (by simp; omega), List.map_append]; rfl
  -- the rest, for any facts
  have rest : ∀ (fs : List Fact) (pz : W), fs.length ≤ 30 → (∀ f ∈ fs, factOk m.n f) →
      biV' .repr [.tup (fs.map factW)] = some (.str (rpS (.tup (fs.map factW)))) ∧ vcallN tab kt K (ix n_law_known) [m.v, .tup (fs.map factW)] = .ok (.lst ((known m fs).map factW)) [some m.v, some (.tup (fs.map factW))] ∧
      vcallN tab kt K (ix n_stuck_places) [m.v, .tup (fs.map factW)] = .ok (.tup ((stuckL m fs).map .int)) [some m.v, some (.tup (fs.map factW))] ∧
      lcV (lcF (vcallN tab kt K) (ioOf kt) (.v 8) [8] (.nm 8) (.cons (.call (ix n_law_is_stuck) (.cons (.v 3) (.cons (.v 7) (.cons (.v 8) .nil)))) .nil)) ((rngZ 0 m.n.toNat).map .int) [some sc, some pz, some t, some m.v, some (.tup (fs.map factW)), none, some (.str (rpS (.tup (fs.map factW)))), some (.lst ((known m fs).map factW)), none] = .ok ((stuckL m fs).map .int) [some sc, some pz, some t, some m.v, some (.tup (fs.map factW)), none, some (.str (rpS (.tup (fs.map factW)))), some (.lst ((known m fs).map factW)), none] ∧
      lenOk ((stuckL m fs).map .int) = true ∧ biV' .repr [.tup ((stuckL m fs).map .int)] = some (.str (rpS (.tup ((stuckL m fs).map .int)))) := by
    intro fs pz hl hf
    have rp : biV' .repr [.tup (fs.map factW)] = some (.str (rpS (.tup (fs.map factW)))) := repr_sml (by simp only [sml]; exact sml_enc fun f h => sml_fact (by omega) (hf f h)) (by have := wt_enc wt_fact fs; simp only [wtW]; omega)
    have ekn := known_ok D.c_law_known (K := K) (by omega) m fs (by omega) (fw := .tup (fs.map factW)) (.inr rfl)
    have epl := places_ok D.c_stuck_places (K := K) (by omega) m (by omega) (by omega) (by omega) fs (by omega) (fw := .tup (fs.map factW)) (.inr rfl)
    have r := rngQ_ok (n := m.n) (by omega) (by omega)
    have ll := lc_fil (s := [some sc, some pz, some t, some m.v, some (.tup (fs.map factW)), none, some (.str (rpS (.tup (fs.map factW)))), some (.lst ((known m fs).map factW)), none]) (f := lcF (vcallN tab kt K) (ioOf kt) (.v 8) [8] (.nm 8) (.cons (.call (ix n_law_is_stuck) (.cons (.v 3) (.cons (.v 7) (.cons (.v 8) .nil)))) .nil)) W.int (fun x => decide (x ∈ innerL m) && stuckB m fs x) W.int (rngZ 0 m.n.toNat) fun x _ => by
      have es := is_stuck_ok D.c_law_is_stuck (K := K) (by omega) m (by omega) (by omega) (by omega) fs x
      by_cases h : (decide (x ∈ innerL m) && stuckB m fs x) = true
      · simp only [h] at es; simp only [lcF, getS_z, getS_s, setS_z, setS_s, wipe_n, wipe_c, rest_n, rest_c, asg_nm, asg_nil, asg_cons, par_nil, par_cons, vE_v, vE_c, vE_bin, vE_neg, vE_cmp, vE_chain, vE_and, vE_or, vE_not, vE_ite, vE_call, vE_bi, vE_isi, vE_mt, vE_tup, vE_lst, vE_ix, vE_sl, vE_rev, vE_lrg, vE_lc, vT_and, vT_or, vT_not, vT_cmp, vT_chain, vT_v, vT_c, vT_call, vT_bi, vT_isi, vT_ix, vC_nil, vC_cons, vs_nil, vs_cons, vA_t, vA_f, vA_n, vO_nil, vO_cons, vI_seq, vI_rng1, vI_rng2, vI_enum, vI_zip, vX_skip, vX_sq, vX_asg, vX_par, vX_seti, vX_seti2, vX_ex, vX_ret, vX_retn, vX_ite, vX_for, vX_brk, vX_cnt, vthen_nx, vthen_rt, vthen_bk, vthen_ct, vgo_nx, vgo_ct, vgo_bk, vgo_rt, fin_rt, fin_nx, back_ok, wb_t, wb_f, wb_n, wb_e, hdS_c, b_add, b_sub, c_lt, c_le, c_gt, c_ge, c_eqi, c_nei, c_nes, c_eqs, c_isn, c_isnn, t_bl, t_int, t_non, vseq_t, vseq_l, as_int, len_l, len_t, len_r, bi_int, bi_intb, bi_abs, bi_max2, bi_min2, bi_tup_t, bi_tup_l, bi_list_t, bi_list_l, neg_int, sl_t, sl_l, sl_r, rev_t, rev_l, lenOk_nil, lenOk_1, lenOk_2, lenOk_3, lenOk_4, lenOk_5, lenOk_6, ix_t0, ix_t1, ix_t2, ix_t3, ix_t4, ix_l0, ix_l1, ix_l2, Wp_ok, cl_int, cl_non, cl_tup, cl_lst, Q.bind_ok, Q.bind_exc, Q.bind_no, Q.of_some, Q.of_none, Q.calm_ok, if_true, if_false, Bool.false_eq_true, Bool.true_eq_false, decide_true, decide_false, Bool.not_true, Bool.not_false, Bool.and_true, Bool.true_and, Bool.and_false, Bool.false_and, Bool.or_true, Bool.or_false, Bool.true_or, Bool.false_or, Bool.not_not, not_true_eq_false, not_false_eq_true, List.map_cons, List.map_nil, List.length_map, List.take_succ_cons, List.take_zero, List.tail_cons, List.nil_append, List.cons_append, List.append_nil, asgQ, parQ, List.reduceReplicate, List.length_cons, List.length_nil, Nat.reduceSub, Nat.reduceAdd, Nat.zero_add, Wp_ok, decide_eq_true_eq, isNon, List.reverse_cons, List.reverse_nil, Bool.not_eq_true', decide_eq_false_iff_not, bne_iff_ne, ne_eq, D.c_law_is_stuck.me.iof, k_law_is_stuck, Kd.io, es, h]
      · have h := Bool.eq_false_iff.mpr h
        simp only [h] at es; simp only [lcF, getS_z, getS_s, setS_z, setS_s, wipe_n, wipe_c, rest_n, rest_c, asg_nm, asg_nil, asg_cons, par_nil, par_cons, vE_v, vE_c, vE_bin, vE_neg, vE_cmp, vE_chain, vE_and, vE_or, vE_not, vE_ite, vE_call, vE_bi, vE_isi, vE_mt, vE_tup, vE_lst, vE_ix, vE_sl, vE_rev, vE_lrg, vE_lc, vT_and, vT_or, vT_not, vT_cmp, vT_chain, vT_v, vT_c, vT_call, vT_bi, vT_isi, vT_ix, vC_nil, vC_cons, vs_nil, vs_cons, vA_t, vA_f, vA_n, vO_nil, vO_cons, vI_seq, vI_rng1, vI_rng2, vI_enum, vI_zip, vX_skip, vX_sq, vX_asg, vX_par, vX_seti, vX_seti2, vX_ex, vX_ret, vX_retn, vX_ite, vX_for, vX_brk, vX_cnt, vthen_nx, vthen_rt, vthen_bk, vthen_ct, vgo_nx, vgo_ct, vgo_bk, vgo_rt, fin_rt, fin_nx, back_ok, wb_t, wb_f, wb_n, wb_e, hdS_c, b_add, b_sub, c_lt, c_le, c_gt, c_ge, c_eqi, c_nei, c_nes, c_eqs, c_isn, c_isnn, t_bl, t_int, t_non, vseq_t, vseq_l, as_int, len_l, len_t, len_r, bi_int, bi_intb, bi_abs, bi_max2, bi_min2, bi_tup_t, bi_tup_l, bi_list_t, bi_list_l, neg_int, sl_t, sl_l, sl_r, rev_t, rev_l, lenOk_nil, lenOk_1, lenOk_2, lenOk_3, lenOk_4, lenOk_5, lenOk_6, ix_t0, ix_t1, ix_t2, ix_t3, ix_t4, ix_l0, ix_l1, ix_l2, Wp_ok, cl_int, cl_non, cl_tup, cl_lst, Q.bind_ok, Q.bind_exc, Q.bind_no, Q.of_some, Q.of_none, Q.calm_ok, if_true, if_false, Bool.false_eq_true, Bool.true_eq_false, decide_true, decide_false, Bool.not_true, Bool.not_false, Bool.and_true, Bool.true_and, Bool.and_false, Bool.false_and, Bool.or_true, Bool.or_false, Bool.true_or, Bool.false_or, Bool.not_not, not_true_eq_false, not_false_eq_true, List.map_cons, List.map_nil, List.length_map, List.take_succ_cons, List.take_zero, List.tail_cons, List.nil_append, List.cons_append, List.append_nil, asgQ, parQ, List.reduceReplicate, List.length_cons, List.length_nil, Nat.reduceSub, Nat.reduceAdd, Nat.zero_add, Wp_ok, decide_eq_true_eq, isNon, List.reverse_cons, List.reverse_nil, Bool.not_eq_true', decide_eq_false_iff_not, bne_iff_ne, ne_eq, D.c_law_is_stuck.me.iof, k_law_is_stuck, Kd.io, es, h]
    rw [stuckL_eq] at ll
    have sl : (stuckL m fs).length ≤ 8 := Nat.le_trans (List.length_filter_le _ _) (Nat.le_trans (innerL_len m) (by omega))
    have hin : ∀ x ∈ stuckL m fs, 0 ≤ x ∧ x < 8 := fun x hx => by
      have h1 := (List.mem_filter.mp hx).1
      have h2 := mem_rng.mp (List.mem_filter.mp h1).1
      omega
    have f1 : lenOk ((stuckL m fs).map .int) = true := lenOk_of (by simp; omega)
    have rp2 : biV' .repr [.tup ((stuckL m fs).map .int)] = some (.str (rpS (.tup ((stuckL m fs).map .int)))) := repr_sml (by simp only [sml]; exact sml_enc fun x hx => by have := hin x hx; simp only [sml, decide_eq_true_eq]; omega) (by have := wt_enc (enc := W.int) (B := 102) (fun a => by simp [wtW]) (stuckL m fs); simp only [wtW]; omega)
    exact ⟨rp, ekn, epl, ll, f1, rp2⟩
  have r := rngQ_ok (n := m.n) (by omega) (by omega)
  simp only [vX_fgt]
  unfold sb_law_k09_0
  obtain ⟨bb, hb⟩ : ∃ bb, decide (b = 0) = bb := ⟨_, rfl⟩
  cases bb with
  | true =>
    obtain ⟨q1, q2, q3, q4, q5, q6⟩ := rest (fs0 ++ [g]) p9 (by simp; omega) (fun f hf => (List.mem_append.mp hf).elim (kcut f) fun h => by rw [List.mem_singleton.mp h]; exact hg)
    simp only [Mine.v] at *
    simp only [getS_z, getS_s, setS_z, setS_s, wipe_n, wipe_c, rest_n, rest_c, asg_nm, asg_nil, asg_cons, par_nil, par_cons, vE_v, vE_c, vE_bin, vE_neg, vE_cmp, vE_chain, vE_and, vE_or, vE_not, vE_ite, vE_call, vE_bi, vE_isi, vE_mt, vE_tup, vE_lst, vE_ix, vE_sl, vE_rev, vE_lrg, vE_lc, vT_and, vT_or, vT_not, vT_cmp, vT_chain, vT_v, vT_c, vT_call, vT_bi, vT_isi, vT_ix, vC_nil, vC_cons, vs_nil, vs_cons, vA_t, vA_f, vA_n, vO_nil, vO_cons, vI_seq, vI_rng1, vI_rng2, vI_enum, vI_zip, vX_skip, vX_sq, vX_asg, vX_par, vX_seti, vX_seti2, vX_ex, vX_ret, vX_retn, vX_ite, vX_for, vX_brk, vX_cnt, vthen_nx, vthen_rt, vthen_bk, vthen_ct, vgo_nx, vgo_ct, vgo_bk, vgo_rt, fin_rt, fin_nx, back_ok, wb_t, wb_f, wb_n, wb_e, hdS_c, b_add, b_sub, c_lt, c_le, c_gt, c_ge, c_eqi, c_nei, c_nes, c_eqs, c_isn, c_isnn, t_bl, t_int, t_non, vseq_t, vseq_l, as_int, len_l, len_t, len_r, bi_int, bi_intb, bi_abs, bi_max2, bi_min2, bi_tup_t, bi_tup_l, bi_list_t, bi_list_l, neg_int, sl_t, sl_l, sl_r, rev_t, rev_l, lenOk_nil, lenOk_1, lenOk_2, lenOk_3, lenOk_4, lenOk_5, lenOk_6, ix_t0, ix_t1, ix_t2, ix_t3, ix_t4, ix_l0, ix_l1, ix_l2, Wp_ok, cl_int, cl_non, cl_tup, cl_lst, Q.bind_ok, Q.bind_exc, Q.bind_no, Q.of_some, Q.of_none, Q.calm_ok, if_true, if_false, Bool.false_eq_true, Bool.true_eq_false, decide_true, decide_false, Bool.not_true, Bool.not_false, Bool.and_true, Bool.true_and, Bool.and_false, Bool.false_and, Bool.or_true, Bool.or_false, Bool.true_or, Bool.false_or, Bool.not_not, not_true_eq_false, not_false_eq_true, List.map_cons, List.map_nil, List.length_map, List.take_succ_cons, List.take_zero, List.tail_cons, List.nil_append, List.cons_append, List.append_nil, asgQ, parQ, List.reduceReplicate, List.length_cons, List.length_nil, Nat.reduceSub, Nat.reduceAdd, Nat.zero_add, Wp_ok, decide_eq_true_eq, isNon, List.reverse_cons, List.reverse_nil, Bool.not_eq_true', decide_eq_false_iff_not, bne_iff_ne, ne_eq, D.c_law_mine.me.iof, k_law_mine, D.c_law_loose.me.iof, k_law_loose, D.c_law_draw.me.iof, k_law_draw, D.c_law_around.me.iof, k_law_around, D.c_law_one_of.me.iof, k_law_one_of, D.c_law_fact.me.iof, k_law_fact, D.c_law_known.me.iof, k_law_known, D.c_stuck_places.me.iof, k_stuck_places, Kd.io, e1, e2, e3, e4, e5, e6, e7, e8, e9, ad1, hcut, hb, ad2, q1, q2, q3, q4, q5, q6, r]
    exact ⟨trivial, p9, rfl, hp9⟩
  | false =>
    obtain ⟨q1, q2, q3, q4, q5, q6⟩ := rest fs0 p8 (by omega) kcut
    simp only [Mine.v] at *
    simp only [getS_z, getS_s, setS_z, setS_s, wipe_n, wipe_c, rest_n, rest_c, asg_nm, asg_nil, asg_cons, par_nil, par_cons, vE_v, vE_c, vE_bin, vE_neg, vE_cmp, vE_chain, vE_and, vE_or, vE_not, vE_ite, vE_call, vE_bi, vE_isi, vE_mt, vE_tup, vE_lst, vE_ix, vE_sl, vE_rev, vE_lrg, vE_lc, vT_and, vT_or, vT_not, vT_cmp, vT_chain, vT_v, vT_c, vT_call, vT_bi, vT_isi, vT_ix, vC_nil, vC_cons, vs_nil, vs_cons, vA_t, vA_f, vA_n, vO_nil, vO_cons, vI_seq, vI_rng1, vI_rng2, vI_enum, vI_zip, vX_skip, vX_sq, vX_asg, vX_par, vX_seti, vX_seti2, vX_ex, vX_ret, vX_retn, vX_ite, vX_for, vX_brk, vX_cnt, vthen_nx, vthen_rt, vthen_bk, vthen_ct, vgo_nx, vgo_ct, vgo_bk, vgo_rt, fin_rt, fin_nx, back_ok, wb_t, wb_f, wb_n, wb_e, hdS_c, b_add, b_sub, c_lt, c_le, c_gt, c_ge, c_eqi, c_nei, c_nes, c_eqs, c_isn, c_isnn, t_bl, t_int, t_non, vseq_t, vseq_l, as_int, len_l, len_t, len_r, bi_int, bi_intb, bi_abs, bi_max2, bi_min2, bi_tup_t, bi_tup_l, bi_list_t, bi_list_l, neg_int, sl_t, sl_l, sl_r, rev_t, rev_l, lenOk_nil, lenOk_1, lenOk_2, lenOk_3, lenOk_4, lenOk_5, lenOk_6, ix_t0, ix_t1, ix_t2, ix_t3, ix_t4, ix_l0, ix_l1, ix_l2, Wp_ok, cl_int, cl_non, cl_tup, cl_lst, Q.bind_ok, Q.bind_exc, Q.bind_no, Q.of_some, Q.of_none, Q.calm_ok, if_true, if_false, Bool.false_eq_true, Bool.true_eq_false, decide_true, decide_false, Bool.not_true, Bool.not_false, Bool.and_true, Bool.true_and, Bool.and_false, Bool.false_and, Bool.or_true, Bool.or_false, Bool.true_or, Bool.false_or, Bool.not_not, not_true_eq_false, not_false_eq_true, List.map_cons, List.map_nil, List.length_map, List.take_succ_cons, List.take_zero, List.tail_cons, List.nil_append, List.cons_append, List.append_nil, asgQ, parQ, List.reduceReplicate, List.length_cons, List.length_nil, Nat.reduceSub, Nat.reduceAdd, Nat.zero_add, Wp_ok, decide_eq_true_eq, isNon, List.reverse_cons, List.reverse_nil, Bool.not_eq_true', decide_eq_false_iff_not, bne_iff_ne, ne_eq, D.c_law_mine.me.iof, k_law_mine, D.c_law_loose.me.iof, k_law_loose, D.c_law_draw.me.iof, k_law_draw, D.c_law_around.me.iof, k_law_around, D.c_law_one_of.me.iof, k_law_one_of, D.c_law_fact.me.iof, k_law_fact, D.c_law_known.me.iof, k_law_known, D.c_stuck_places.me.iof, k_stuck_places, Kd.io, e1, e2, e3, e4, e5, e6, e7, e8, e9, ad1, hcut, hb, ad2, q1, q2, q3, q4, q5, q6, r]
    exact ⟨trivial, p8, rfl, hp8⟩
theorem law_k09_ok (D : D_law_k09 tab kt ix) {K : Nat} (hK : 7 ≤ K) (ns : List Int) (hns : ns.length ≤ 63) : ∃ o, vcallN tab kt K (ix n_law) [.rol (ns.map .int)] = .ok (.bl true) o := by
  obtain ⟨K, rfl⟩ : ∃ k, K = k + 1 := ⟨K - 1, by omega⟩
  rw [D.me.enter rfl]
  obtain ⟨p, o, e1, hp⟩ := (pen_ok D.c_law_pen (K := K) (by omega) ns).get
  obtain ⟨n, hn⟩ : ∃ n : Int, (if (if (ns.length : Int) < 10 then (ns.length : Int) else 10) > 4 then (if (ns.length : Int) < 10 then (ns.length : Int) else 10) else 4) = n := ⟨_, rfl⟩
  have hb : 0 ≤ n ∧ n ≤ 100 := by rw [← hn]; split <;> (try split) <;> omega
  have r := rngQ_ok (n := n) (by omega) (by omega)
  have lp := for_inv (t := .nm 2) (b := vX (vcallN tab kt K) (ioOf kt) (.fgt [2, 3, 4, 5, 6, 7] (sb_law_k09_0 ix))) W.int
    (fun (_ : List Int) s => ∃ p', s = [some (.rol (ns.map .int)), some p', none, none, none, none, none, none, none] ∧ PenOk p') (rngZ 0 n.toNat)
    (post := fun r s => r = .nx ∧ ∃ p', s = [some (.rol (ns.map .int)), some p', none, none, none, none, none, none, none] ∧ PenOk p')
    (fun pre x rest s hl i => by
      obtain ⟨p', rfl, hp'⟩ := i
      exact ⟨_, rfl, (turn_k09 D (K := K) (by omega) _ hp' _).mono fun q s hq => by obtain ⟨rfl, h⟩ := hq; exact h⟩)
    (fun s i => ⟨rfl, i⟩) [some (.rol (ns.map .int)), some p, none, none, none, none, none, none, none] ⟨p, rfl, hp⟩
  obtain ⟨q, s, el, rfl, p', rfl, hp'⟩ := lp.get
  simp only [sh_law_k09, getS_z, getS_s, setS_z, setS_s, wipe_n, wipe_c, rest_n, rest_c, asg_nm, asg_nil, asg_cons, par_nil, par_cons, vE_v, vE_c, vE_bin, vE_neg, vE_cmp, vE_chain, vE_and, vE_or, vE_not, vE_ite, vE_call, vE_bi, vE_isi, vE_mt, vE_tup, vE_lst, vE_ix, vE_sl, vE_rev, vE_lrg, vE_lc, vT_and, vT_or, vT_not, vT_cmp, vT_chain, vT_v, vT_c, vT_call, vT_bi, vT_isi, vT_ix, vC_nil, vC_cons, vs_nil, vs_cons, vA_t, vA_f, vA_n, vO_nil, vO_cons, vI_seq, vI_rng1, vI_rng2, vI_enum, vI_zip, vX_skip, vX_sq, vX_asg, vX_par, vX_seti, vX_seti2, vX_ex, vX_ret, vX_retn, vX_ite, vX_for, vX_brk, vX_cnt, vthen_nx, vthen_rt, vthen_bk, vthen_ct, vgo_nx, vgo_ct, vgo_bk, vgo_rt, fin_rt, fin_nx, back_ok, wb_t, wb_f, wb_n, wb_e, hdS_c, b_add, b_sub, c_lt, c_le, c_gt, c_ge, c_eqi, c_nei, c_nes, c_eqs, c_isn, c_isnn, t_bl, t_int, t_non, vseq_t, vseq_l, as_int, len_l, len_t, len_r, bi_int, bi_intb, bi_abs, bi_max2, bi_min2, bi_tup_t, bi_tup_l, bi_list_t, bi_list_l, neg_int, sl_t, sl_l, sl_r, rev_t, rev_l, lenOk_nil, lenOk_1, lenOk_2, lenOk_3, lenOk_4, lenOk_5, lenOk_6, ix_t0, ix_t1, ix_t2, ix_t3, ix_t4, ix_l0, ix_l1, ix_l2, Wp_ok, cl_int, cl_non, cl_tup, cl_lst, Q.bind_ok, Q.bind_exc, Q.bind_no, Q.of_some, Q.of_none, Q.calm_ok, if_true, if_false, Bool.false_eq_true, Bool.true_eq_false, decide_true, decide_false, Bool.not_true, Bool.not_false, Bool.and_true, Bool.true_and, Bool.and_false, Bool.false_and, Bool.or_true, Bool.or_false, Bool.true_or, Bool.false_or, Bool.not_not, not_true_eq_false, not_false_eq_true, List.map_cons, List.map_nil, List.length_map, List.take_succ_cons, List.take_zero, List.tail_cons, List.nil_append, List.cons_append, List.append_nil, asgQ, parQ, List.reduceReplicate, List.length_cons, List.length_nil, Nat.reduceSub, Nat.reduceAdd, Nat.zero_add, Wp_ok, decide_eq_true_eq, isNon, List.reverse_cons, List.reverse_nil, Bool.not_eq_true', decide_eq_false_iff_not, bne_iff_ne, ne_eq, startS, D.c_law_pen.me.iof, k_law_pen, Kd.io, e1, hn, r, el]
  exact ⟨_, rfl⟩
end
end Vm
end

section
set_option Elab.async false
theorem final_k09 : PySem.Challenge.rw_windways_k09_stuck_places.Holds := K09.of_plain fun ns h => Vm.law_k09_ok K09.d_law_k09 (by omega) ns h
end
theorem PySem.Challenge.cw_windways_k09_stuck_places_holds : PySem.Challenge.rw_windways_k09_stuck_places.Holds := by
  exact final_k09
