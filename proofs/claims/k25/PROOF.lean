import PyProof.Rows.All
import Wide.All
import OpenK.AllK
import Wide.FinOn
import HandS.ForMost
import HandS.ForExc
import HandS.Flow
import HandS.Wide
import HandS.WideMore
import HandS.Zip
import HandS.Walk
import HandS.SortInts
import HandS.SortRule
import HandS.IsInst
import HandS.CallLocal
import HandS.CallSlots
import HandS.TupAny
import HandS.Style
import HandS.Small
import HandS.Deep
import HandS.Conv
import HandS.ExcIs
import KE.KTupSum
import HandS.Evl
import PySem.Challenge.RW_termsdivide_k25_main_neighbours_by_one_e
set_option Elab.async false
set_option linter.all false
set_option maxRecDepth 100000
set_option maxHeartbeats 0
set_option exponentiation.threshold 3000
set_option Elab.async false
set_option linter.all false
set_option maxRecDepth 100000
/-! R: a small reading of the pure part of Python over trees of values. -/
namespace R
open PySem L2

/-! ### pure values -/
inductive PV where
  | non | bl (b : Bool) | int (i : Int) | str (x : Str) | ty (n : String)
  | tup (xs : List PV) | lst (xs : List PV)
  | ro (xs : List PV)
  | fn (k : Nat) | cell
  deriving Inhabited

mutual
def PV.beq : PV → PV → Bool
  | .non, .non => true
  | .bl a, .bl b => a == b
  | .int a, .int b => decide (a = b)
  | .str a, .str b => decide (a = b)
  | .ty a, .ty b => decide (a = b)
  | .tup a, .tup b => PV.beqs a b
  | .lst a, .lst b => PV.beqs a b
  | .ro a, .ro b => PV.beqs a b
  | .fn a, .fn b => decide (a = b)
  | .cell, .cell => true
  | _, _ => false
def PV.beqs : List PV → List PV → Bool
  | [], [] => true
  | a :: as, b :: bs => PV.beq a b && PV.beqs as bs
  | _, _ => false
end
mutual
theorem PV.beq_iff : ∀ (a b : PV), PV.beq a b = true ↔ a = b
  | .non, b => by cases b <;> simp [PV.beq]
  | .bl a, b => by cases b <;> simp [PV.beq]
  | .int a, b => by cases b <;> simp [PV.beq]
  | .str a, b => by cases b <;> simp [PV.beq]
  | .ty a, b => by cases b <;> simp [PV.beq]
  | .tup a, b => by cases b <;> simp [PV.beq, PV.beqs_iff a]
  | .lst a, b => by cases b <;> simp [PV.beq, PV.beqs_iff a]
  | .ro a, b => by cases b <;> simp [PV.beq, PV.beqs_iff a]
  | .fn a, b => by cases b <;> simp [PV.beq]
  | .cell, b => by cases b <;> simp [PV.beq]
theorem PV.beqs_iff : ∀ (a b : List PV), PV.beqs a b = true ↔ a = b
  | [], b => by cases b <;> simp [PV.beqs]
  | x :: xs, b => by cases b <;> simp [PV.beqs, PV.beq_iff x, PV.beqs_iff xs]
end
instance : DecidableEq PV := fun a b =>
  if h : PV.beq a b = true then .isTrue ((PV.beq_iff a b).mp h) else .isFalse fun e => h ((PV.beq_iff a b).mpr e)

mutual
def pyEq : PV → PV → Bool
  | .non, .non => true
  | .bl a, .bl b => a == b
  | .int a, .int b => a == b
  | .bl a, .int b => (if a then 1 else 0) == b
  | .int a, .bl b => a == (if b then 1 else 0)
  | .str a, .str b => a == b
  | .tup a, .tup b => pyEqs a b
  | .lst a, .lst b => pyEqs a b
  | _, _ => false
def pyEqs : List PV → List PV → Bool
  | [], [] => true
  | a :: as, b :: bs => pyEq a b && pyEqs as bs
  | _, _ => false
end

/-! ### the state -/
inductive Slot where
  | un | val (v : PV) | own (xs : List PV) | bor (i : Nat) (xs : List PV)
  deriving Inhabited
structure PSt where
  sl : List Slot
  d : Nat
def PSt.set (p : PSt) (i : Nat) (s : Slot) : PSt := ⟨p.sl.set i s, p.d⟩
def PSt.get (p : PSt) (i : Nat) : Slot := p.sl.getD i .un

/-- what may be raised -/
inductive XN where
  | unfit | cannot | toomany | nothing | bad (n : Int)
  deriving DecidableEq, Inhabited
abbrev KE := Slot → PSt → Prop
abbrev EX := XN → Nat → Prop
abbrev TP := PSt → KE → EX → Prop
/-- a def's promise over pure values: the arguments, the draws that are left, what is wanted -/
abbrev PSpec := List PV → Nat → (Slot → Nat → Prop) → EX → Prop

/-- the value of a result that only looks -/
def peek : Slot → (PV → Prop) → Prop
  | .val v, K => K v
  | .own xs, K => K (.lst xs)
  | .bor _ xs, K => K (.lst xs)
  | .un, _ => False
/-- the value of a result that is kept by another -/
def esc : Slot → PSt → (PV → PSt → Prop) → Prop
  | .val v, p, K => K v p
  | .own xs, p, K => K (.lst xs) p
  | .bor i xs, p, K => K (.lst xs) (p.set i (.val (.lst xs)))
  | .un, _, _ => False

/-- a choice -/
def cnd (k : Bool) (A B : Prop) : Prop := match k with
  | true => A
  | false => B
theorem cnd_t {A B : Prop} : cnd true A B = A := rfl
theorem cnd_f {A B : Prop} : cnd false A B = B := rfl
theorem cnd_of {k : Bool} {A B : Prop} (h : k = true → A) (h2 : k = false → B) : cnd k A B := by
  cases k
  · exact h2 rfl
  · exact h rfl
/-! ### the short language -/
inductive BO where
  | add | sub | mul | fdiv | mod | pow
  deriving DecidableEq, Inhabited
inductive CO where
  | eq | ne | lt | le | gt | ge | isN | notN | inn | notin
  deriving DecidableEq, Inhabited
inductive B1 where
  | len | abs | sum | max | min | int | list | tuple | sorted | all | any | set | str
  deriving DecidableEq, Inhabited
inductive B2 where
  | max | min
  deriving DecidableEq, Inhabited
inductive TgI where
  | nm (i : Nat) | ow (i : Nat) | tup (ts : List TgI)
  deriving Inhabited

mutual
inductive IE where
  | cst (v : PV)
  | var (i : Nat)
  | bin (op : BO) (a b : IE)
  | neg (a : IE)
  | cmp (op : CO) (a b : IE)
  | chain (o1 o2 : CO) (a b c : IE)
  | and (a b : IE) | or (a b : IE) | not (a : IE)
  | ifx (t : IT) (a b : IE)
  | tup (es : List IE) | lst (es : List IE)
  | sub (a i : IE)
  | slc (a : IE) (lo hi : Option IE)
  | rev (a : IE)
  | slast (a : IE)
  | call (k : Nat) (es : List IE)
  | callv (i : Nat) (es : List IE)
  | blt1 (b : B1) (a : IE)
  | blt2 (b : B2) (a c : IE)
  | isi (a : IE) (ts : List String)
  | comp (elt : IE) (tg : TgI) (it : II) (cnd : IT) (own : List Nat)
  | index (a b : IE)
  | lrng1 (a : IE) | lrng2 (a b : IE)
/-- tests -/
inductive IT where
  | yes
  | and (a b : IT) | or (a b : IT) | not (a : IT)
  | ifx (t a b : IT)
  | val (e : IE)
/-- what is walked -/
inductive II where
  | seq (e : IE)
  | rng1 (a : IE) | rng2 (a b : IE)
  | enum (a : IE)
  | zip (a b : IE)
end

inductive IS where
  | asg (t : TgI) (e : IE)
  | par (ts : List TgI) (es : List IE)
  | aug (i : Nat) (op : BO) (e : IE)
  | app (i : Nat) (e : IE)
  | appPop (i j : Nat) (e : IE)
  | ext (i : Nat) (e : IE)
  | sti (i : Nat) (ix : IE) (e : IE)
  | cond (t : IT) (a b : List IS)
  | forr (t : TgI) (it : II) (b : List IS)
  | whil (t : IT) (b : List IS)
  | ret (e : IE) | retO (e : IE) | retN
  | raise (x : XN)
  | brk | cnt | pass
  | heard (i : Nat) (e : IE) (j : Nat) (hs : List (XN × Str))
  | ex (e : IE)

/-! ### what it means -/
def tru : PV → Option Bool
  | .non => some false
  | .bl b => some b
  | .int i => some (i != 0)
  | .tup xs => some (!xs.isEmpty)
  | .lst xs => some (!xs.isEmpty)
  | _ => none

def sixP (n d : Nat) : Option Int → Nat := HT.sIx n d
def cutP {α : Type} (xs : List α) (lo hi : Option Int) : List α := (xs.drop (HT.sIx xs.length 0 lo)).take (HT.sIx xs.length xs.length hi - HT.sIx xs.length 0 lo)

def szOk (n : Nat) : Prop := n ≤ 16777216

/-- sizes of whole numbers that the machine multiplies -/
def MulOk (i j : Int) : Prop := IntMulOk i j

/-- a division that the machine does by itself -/
def DivOk (i j : Int) : Prop := Builtin.divisionGoesByPylong i j = false
def binP : BO → PV → PV → (Slot → Prop) → Prop
  | .add, .int i, .int j, K => K (.val (.int (i + j)))
  | .add, .str a, .str b, K => a.length + b.length ≤ 16777216 ∧ K (.val (.str (a ++ b)))
  | .add, .lst a, .lst b, K => a.length + b.length ≤ 16777216 ∧ K (.own (a ++ b))
  | .add, .tup a, .tup b, K => a.length + b.length ≤ 16777216 ∧ K (.val (.tup (a ++ b)))
  | .sub, .int i, .int j, K => K (.val (.int (i - j)))
  | .mul, .int i, .int j, K => MulOk i j ∧ K (.val (.int (i * j)))
  | .mul, .lst a, .int j, K => a.length * j.toNat ≤ 16777216 ∧ j.natAbs < 2 ^ 62 ∧ K (.own (List.replicate j.toNat a).flatten)
  | .fdiv, .int i, .int j, K => j ≠ 0 ∧ DivOk i j ∧ K (.val (.int (i.fdiv j)))
  | .mod, .int i, .int j, K => j ≠ 0 ∧ K (.val (.int (i.fmod j)))
  | .pow, .int i, .int j, K => 0 ≤ j ∧ j ≤ 1000000 ∧ i.natAbs < 2 ^ 64 ∧ K (.val (.int (i ^ j.toNat)))
  | _, _, _, _ => False

mutual
def isData : PV → Bool
  | .non | .bl _ | .int _ => true
  | .str x => PyData.strOk x
  | .tup xs => areData xs
  | .lst xs => areData xs
  | _ => false
def areData : List PV → Bool
  | [] => true
  | x :: xs => isData x && areData xs
end
mutual
def deep : PV → Nat
  | .tup xs => deeps xs + 1
  | .lst xs => deeps xs + 1
  | _ => 0
def deeps : List PV → Nat
  | [] => 0
  | x :: xs => max (deep x) (deeps xs)
end
def dataOk (x : PV) : Prop := isData x = true ∧ deep x ≤ 60

def cmpP : CO → PV → PV → (Bool → Prop) → Prop
  | .eq, .int i, .int j, K => K (decide (i = j))
  | .ne, .int i, .int j, K => K (!decide (i = j))
  | .eq, x, y, K => dataOk x ∧ dataOk y ∧ K (pyEq x y)
  | .ne, x, y, K => dataOk x ∧ dataOk y ∧ K (!pyEq x y)
  | .lt, .int i, .int j, K => K (decide (i < j))
  | .le, .int i, .int j, K => K (decide (i ≤ j))
  | .gt, .int i, .int j, K => K (decide (j < i))
  | .ge, .int i, .int j, K => K (decide (j ≤ i))
  | .isN, x, .non, K => K (decide (x = .non))
  | .notN, x, .non, K => K (!decide (x = .non))
  | .inn, x, .tup ys, K => dataOk x ∧ dataOk (.tup ys) ∧ K (ys.any fun y => pyEq y x)
  | .inn, x, .lst ys, K => dataOk x ∧ dataOk (.lst ys) ∧ K (ys.any fun y => pyEq y x)
  | .notin, x, .tup ys, K => dataOk x ∧ dataOk (.tup ys) ∧ K (!ys.any fun y => pyEq y x)
  | .notin, x, .lst ys, K => dataOk x ∧ dataOk (.lst ys) ∧ K (!ys.any fun y => pyEq y x)
  | _, _, _, _ => False

def subP : PV → PV → (PV → Prop) → Prop
  | .lst xs, .int i, K => ∃ v, atI xs i = some v ∧ K v
  | .tup xs, .int i, K => ∃ v, atI xs i = some v ∧ K v
  | .ro xs, .int i, K => ∃ v, atI xs i = some v ∧ K v
  | _, _, _ => False
def slcP : PV → Option Int → Option Int → (Slot → Prop) → Prop
  | .lst xs, lo, hi, K => K (.own (cutP xs lo hi))
  | .ro xs, lo, hi, K => K (.own (cutP xs lo hi))
  | .tup xs, lo, hi, K => K (.val (.tup (cutP xs lo hi)))
  | _, _, _, _ => False

def intsOf : List PV → Option (List Int)
  | [] => some []
  | .int i :: xs => (intsOf xs).map (i :: ·)
  | _ => none
def blsOf : List PV → Option (List Bool)
  | [] => some []
  | .bl b :: xs => (blsOf xs).map (b :: ·)
  | _ => none
def maxL : List Int → Int
  | [] => 0
  | x :: xs => xs.foldl max x
def minL : List Int → Int
  | [] => 0
  | x :: xs => xs.foldl min x

/-- a pair of numbers -/
def prV (x : Int × Int) : PV := .tup [.int x.1, .int x.2]
def lexLe (x y : Int × Int) : Prop := x.1 < y.1 ∨ (x.1 = y.1 ∧ x.2 ≤ y.2)
def blt1P : B1 → PV → (Slot → Prop) → Prop
  | .len, .lst xs, K => K (.val (.int xs.length))
  | .len, .tup xs, K => K (.val (.int xs.length))
  | .len, .ro xs, K => K (.val (.int xs.length))
  | .len, .str x, K => x.length ≤ 16777216 ∧ K (.val (.int x.length))
  | .abs, .int i, K => K (.val (.int (if i < 0 then -i else i)))
  | .int, .int i, K => K (.val (.int i))
  | .int, .bl b, K => K (.val (.int (if b then 1 else 0)))
  | .sum, .lst xs, K => ∃ ns : List Int, xs = ns.map PV.int ∧ K (.val (.int ns.sum))
  | .sum, .tup xs, K => ∃ ns : List Int, xs = ns.map PV.int ∧ K (.val (.int ns.sum))
  | .min, .tup xs, K => ∃ ns : List Int, xs = ns.map PV.int ∧ ns ≠ [] ∧ ∀ m, m ∈ ns → (∀ y, y ∈ ns → m ≤ y) → K (.val (.int m))
  | .max, .tup xs, K => ∃ ns : List Int, xs = ns.map PV.int ∧ ns ≠ [] ∧ ∀ m, m ∈ ns → (∀ y, y ∈ ns → y ≤ m) → K (.val (.int m))
  | .max, .lst xs, K => ∃ ns : List Int, xs = ns.map PV.int ∧ ns ≠ [] ∧ ∀ m, m ∈ ns → (∀ y, y ∈ ns → y ≤ m) → K (.val (.int m))
  | .min, .lst xs, K => ∃ ns : List Int, xs = ns.map PV.int ∧ ns ≠ [] ∧ ∀ m, m ∈ ns → (∀ y, y ∈ ns → m ≤ y) → K (.val (.int m))
  | .all, .lst xs, K => ∃ bs : List Bool, xs = bs.map PV.bl ∧ K (.val (.bl (bs.all id)))
  | .any, .lst xs, K => ∃ bs : List Bool, xs = bs.map PV.bl ∧ K (.val (.bl (bs.any id)))
  | .list, .lst xs, K => K (.own xs)
  | .list, .tup xs, K => K (.own xs)
  | .list, .ro xs, K => K (.own xs)
  | .tuple, .lst xs, K => K (.val (.tup xs))
  | .tuple, .tup xs, K => K (.val (.tup xs))
  | .sorted, .lst xs, K => (∃ ns : List Int, xs = ns.map PV.int ∧ ∀ ns' : List Int, ns'.Perm ns → ns'.Pairwise (· ≤ ·) → K (.own (ns'.map PV.int))) ∨
      ∃ ps : List (Int × Int), xs = ps.map prV ∧ ∀ ps' : List (Int × Int), ps'.Perm ps → ps'.Pairwise lexLe → K (.own (ps'.map prV))
  | _, _, _ => False

def tyOf : PV → Option String
  | .non => some "NoneType"
  | .bl _ => some "bool"
  | .int _ => some "int"
  | .str _ => some "str"
  | .tup _ => some "tuple"
  | .lst _ => some "list"
  | _ => none
def knownTy : List String := ["int", "bool", "str", "list", "tuple"]
def isiP (v : PV) (ts : List String) : Option Bool := if ts.all (fun n => knownTy.contains n) then
  (tyOf v).map fun t => ts.any fun n => decide (t = n) || (decide (t = "bool") && decide (n = "int")) else none

/-- what a for, a comprehension walks -/
def itemsP : PV → Option (List PV)
  | .lst xs => some xs
  | .tup xs => some xs
  | .ro xs => some xs
  | _ => none
@[irreducible] def rngL (lo hi : Int) : List PV := (List.range (hi - lo).toNat).map fun i => .int (lo + (i : Nat))
@[irreducible] def enumL (xs : List PV) : List PV := (xs.zipIdx).map fun p => .tup [.int p.2, p.1]
@[irreducible] def zipL (xs ys : List PV) : List PV := (xs.zip ys).map fun p => .tup [p.1, p.2]

/-- a target takes a value that is kept -/
def bindT : TgI → PV → PSt → (PSt → Prop) → Prop
  | .nm i, v, p, K => K (p.set i (.val v))
  | .ow i, v, p, K => K (p.set i (.val v))
  | .tup ts, .tup xs, p, K => bindTs ts xs p K
  | .tup ts, .lst xs, p, K => bindTs ts xs p K
  | .tup _, _, _, _ => False
where bindTs : List TgI → List PV → PSt → (PSt → Prop) → Prop
  | [], [], p, K => K p
  | t :: ts, x :: xs, p, K => bindT t x p fun p1 => bindTs ts xs p1 K
  | _, _, _, _ => False

/-- a target takes a result -/
def takeT : TgI → Slot → PSt → (PSt → Prop) → Prop
  | .ow i, .own xs, p, K => K (p.set i (.own xs))
  | t, r, p, K => esc r p fun v p1 => bindT t v p1 K

/-- the slots of a comprehension's own names, wiped, put back -/
def wipeP (sl : List Slot) : List Nat → List Slot
  | [] => sl
  | i :: is => (wipeP sl is).set i .un
def backP (old now : List Slot) : List Nat → List Slot
  | [] => now
  | i :: is => (backP old now is).set i (old.getD i .un)

def walkC (old : List Slot) (own : List Nat) (bind : PV → PSt → (PSt → Prop) → Prop) (cond : PSt → (Bool → PSt → Prop) → Prop) (elt : PSt → (PV → PSt → Prop) → Prop) :
    List PV → List PV → Nat → List Slot → (List PV → PSt → Prop) → Prop
  | [], acc, d, sl, K => K acc ⟨backP old sl own, d⟩
  | x :: xs, acc, d, sl, K => bind x ⟨wipeP sl own, d⟩ fun p1 => cond p1 fun b p2 =>
      cnd b (elt p2 fun v p3 => acc.length < 16777216 ∧ walkC old own bind cond elt xs (acc ++ [v]) p3.d p3.sl K)
      (walkC old own bind cond elt xs acc p2.d p2.sl K)

structure PEnds where
  nx : PSt → Prop
  rt : Slot → PSt → Prop
  bk : PSt → Prop
  ct : PSt → Prop
  ex : EX


def negP : PV → (Slot → Prop) → Prop
  | .int i, K => K (.val (.int (-i)))
  | _, _ => False
def revP : PV → (Slot → Prop) → Prop
  | .lst xs, K => K (.own xs.reverse)
  | _, _ => False
def slastP : PV → (Slot → Prop) → Prop
  | .lst xs, K => K (.own (xs.drop 1).reverse)
  | _, _ => False
def blt2P : B2 → PV → PV → (Slot → Prop) → Prop
  | .max, .int i, .int j, K => K (.val (.int (if j > i then j else i)))
  | .min, .int i, .int j, K => K (.val (.int (if j < i then j else i)))
  | _, _, _, _ => False
def truP (x : PV) (K : Bool → Prop) : Prop := match tru x with
  | some k => K k
  | none => False
@[irreducible] def isiK (x : PV) (ts : List String) (K : Bool → Prop) : Prop := match isiP x ts with
  | some k => K k
  | none => False
def intK : PV → (Int → Prop) → Prop
  | .int i, K => K i
  | _, _ => False
def lstK : PV → (List PV → Prop) → Prop
  | .lst xs, K => K xs
  | _, _ => False
def ownK : Slot → (List PV → Prop) → Prop
  | .own xs, K => K xs
  | _, _ => False
def itemsK (x : PV) (K : List PV → Prop) : Prop := match itemsP x with
  | some k => K k
  | none => False
def enumK : PV → (List PV → Prop) → Prop
  | .lst xs, K => K (enumL xs)
  | .ro xs, K => K (enumL xs)
  | _, _ => False
def zipK : PV → PV → (List PV → Prop) → Prop
  | .lst xs, .lst ys, K => K (zipL xs ys)
  | .tup xs, .tup ys, K => K (zipL xs ys)
  | _, _, _ => False
def indexP : PV → PV → (Slot → Prop) → Prop
  | .lst xs, y, K => dataOk y ∧ dataOk (.lst xs) ∧ ∃ j : Nat, ∃ z, xs[j]? = some z ∧ pyEq z y = true ∧ (∀ (m : Nat) z', m < j → xs[m]? = some z' → pyEq z' y = false) ∧ K (.val (.int j))
  | _, _, _ => False
def augP : BO → PV → PV → (PV → Prop) → Prop
  | .add, .int i, .int j, K => K (.int (i + j))
  | .sub, .int i, .int j, K => K (.int (i - j))
  | _, _, _, _ => False
/-- a result that is put by -/
def keepR : Slot → PSt → (Slot → PSt → Prop) → Prop
  | .val v, p, K => K (.val v) p
  | .own xs, p, K => K (.own xs) p
  | .bor i xs, p, K => K (.val (.lst xs)) (p.set i (.val (.lst xs)))
  | .un, _, _ => False
def ownR : Slot → (Slot → Prop) → Prop
  | .val v, K => K (.val v)
  | .own xs, K => K (.own xs)
  | .bor _ xs, K => K (.own xs)
  | .un, _ => False

section
variable (G : Nat → PSpec)
mutual
def evE : IE → TP
  | .cst v, p, K, _ => K (.val v) p
  | .var i, p, K, _ => match p.get i with
    | .val v => K (.val v) p
    | .own xs => K (.bor i xs) p
    | _ => False
  | .bin op a b, p, K, E => evE a p (fun r p1 => evE b p1 (fun r2 p2 => peek r fun x => peek r2 fun y => binP op x y fun z => K z p2) E) E
  | .neg a, p, K, E => evE a p (fun r p1 => peek r fun x => negP x fun z => K z p1) E
  | .cmp op a b, p, K, E => evE a p (fun r p1 => evE b p1 (fun r2 p2 => peek r fun x => peek r2 fun y => cmpP op x y fun c => K (.val (.bl c)) p2) E) E
  | .chain o1 o2 a b c, p, K, E => evE a p (fun r p1 => evE b p1 (fun r2 p2 => peek r fun x => peek r2 fun y => cmpP o1 x y fun k =>
      cnd k (evE c p2 (fun r3 p3 => peek r3 fun z => cmpP o2 y z fun k2 => K (.val (.bl k2)) p3) E) (K (.val (.bl false)) p2)) E) E
  | .and a b, p, K, E => evE a p (fun r p1 => peek r fun x => truP x fun k => cnd k (evE b p1 K E) (K r p1)) E
  | .or a b, p, K, E => evE a p (fun r p1 => peek r fun x => truP x fun k => cnd k (K r p1) (evE b p1 K E)) E
  | .not a, p, K, E => evE a p (fun r p1 => peek r fun x => truP x fun k => K (.val (.bl (!k))) p1) E
  | .ifx t a b, p, K, E => evT t p (fun k p1 => cnd k (evE a p1 K E) (evE b p1 K E)) E
  | .tup es, p, K, E => evEs es p (fun vs p1 => K (.val (.tup vs)) p1) E
  | .lst es, p, K, E => evEs es p (fun vs p1 => K (.own vs) p1) E
  | .sub a i, p, K, E => evE a p (fun r p1 => evE i p1 (fun r2 p2 => peek r fun x => peek r2 fun y => subP x y fun v => K (.val v) p2) E) E
  | .slc a lo hi, p, K, E => evE a p (fun r p1 => evO lo p1 (fun l p2 => evO hi p2 (fun h p3 => peek r fun x => slcP x l h fun z => K z p3) E) E) E
  | .rev a, p, K, E => evE a p (fun r p1 => peek r fun x => revP x fun z => K z p1) E
  | .slast a, p, K, E => evE a p (fun r p1 => peek r fun x => slastP x fun z => K z p1) E
  | .call k es, p, K, E => evEs es p (fun vs p1 => G k vs p1.d (fun r d => K r ⟨p1.sl, d⟩) E) E
  | .callv i es, p, K, E => match p.get i with
    | .val (.fn k) => evEs es p (fun vs p1 => G k vs p1.d (fun r d => K r ⟨p1.sl, d⟩) E) E
    | _ => False
  | .blt1 b a, p, K, E => evE a p (fun r p1 => peek r fun x => blt1P b x fun z => K z p1) E
  | .blt2 b a c, p, K, E => evE a p (fun r p1 => evE c p1 (fun r2 p2 => peek r fun x => peek r2 fun y => blt2P b x y fun z => K z p2) E) E
  | .isi a ts, p, K, E => evE a p (fun r p1 => peek r fun x => isiK x ts fun b => K (.val (.bl b)) p1) E
  | .comp elt tg it cnd own, p, K, _ => evIt it p (fun items p1 =>
      walkC p1.sl own (bindT tg) (fun q J => evT cnd q J (fun _ _ => False)) (fun q J => evE elt q (fun r q1 => esc r q1 J) (fun _ _ => False)) items [] p1.d p1.sl fun acc p2 => K (.own acc) p2) (fun _ _ => False)
  | .index a b, p, K, E => evE a p (fun r p1 => peek r fun x0 => lstK x0 fun _ => evE b p1 (fun r2 p2 => peek r fun x => peek r2 fun y => indexP x y fun z => K z p2) E) E
  | .lrng1 a, p, K, E => evE a p (fun r p1 => peek r fun x => intK x fun n => n.natAbs < 2 ^ 61 ∧ n ≤ 16777216 ∧ K (.own (rngL 0 n)) p1) E
  | .lrng2 a b, p, K, E => evE a p (fun r p1 => evE b p1 (fun r2 p2 => peek r fun x => peek r2 fun y => intK x fun i => intK y fun j => i.natAbs < 2 ^ 61 ∧ j.natAbs < 2 ^ 61 ∧ j - i ≤ 16777216 ∧ K (.own (rngL i j)) p2) E) E
def evEs : List IE → PSt → (List PV → PSt → Prop) → EX → Prop
  | [], p, K, _ => K [] p
  | e :: es, p, K, E => evE e p (fun r p1 => esc r p1 fun v p2 => evEs es p2 (fun vs p3 => K (v :: vs) p3) E) E
def evO : Option IE → PSt → (Option Int → PSt → Prop) → EX → Prop
  | none, p, K, _ => K none p
  | some e, p, K, E => evE e p (fun r p1 => peek r fun x => intK x fun i => K (some i) p1) E
def evT : IT → PSt → (Bool → PSt → Prop) → EX → Prop
  | .yes, p, K, _ => K true p
  | .and a b, p, K, E => evT a p (fun k p1 => cnd k (evT b p1 K E) (K false p1)) E
  | .or a b, p, K, E => evT a p (fun k p1 => cnd k (K true p1) (evT b p1 K E)) E
  | .not a, p, K, E => evT a p (fun k p1 => K (!k) p1) E
  | .ifx t a b, p, K, E => evT t p (fun k p1 => cnd k (evT a p1 K E) (evT b p1 K E)) E
  | .val e, p, K, E => evE e p (fun r p1 => peek r fun x => truP x fun k => K k p1) E
def evIt : II → PSt → (List PV → PSt → Prop) → EX → Prop
  | .rng1 a, p, K, E => evE a p (fun r p1 => peek r fun x => intK x fun n => n.natAbs < 2 ^ 61 ∧ K (rngL 0 n) p1) E
  | .rng2 a b, p, K, E => evE a p (fun r p1 => evE b p1 (fun r2 p2 => peek r fun x => peek r2 fun y => intK x fun i => intK y fun j => i.natAbs < 2 ^ 61 ∧ j.natAbs < 2 ^ 61 ∧ K (rngL i j) p2) E) E
  | .enum a, p, K, E => evE a p (fun r p1 => esc r p1 fun v p2 => enumK v fun xs => K xs p2) E
  | .zip a b, p, K, E => evE a p (fun r p1 => esc r p1 fun v p2 => evE b p2 (fun r2 p3 => esc r2 p3 fun w p4 => zipK v w fun xs => K xs p4) E) E
  | .seq e, p, K, E => evE e p (fun r p1 => esc r p1 fun v p2 => itemsK v fun xs => K xs p2) E
end

/-! ### statements -/
/-- which clause hears an exception; it must be one of them -/
def hrd : List (XN × Str) → XN → (Str → Prop) → Prop
  | [], _, _ => False
  | p :: r, x, A => cnd (decide (x = p.1)) (A p.2) (hrd r x A)
def forP (bind : PV → PSt → (PSt → Prop) → Prop) (body : PEnds → PSt → Prop) (D : PEnds) : List PV → PSt → Prop
  | [], p => D.nx p
  | x :: xs, p => bind x p fun p1 => body { D with nx := forP bind body D xs, ct := forP bind body D xs, bk := D.nx } p1
def whilP (test : PSt → (Bool → PSt → Prop) → Prop) (body : PEnds → PSt → Prop) (D : PEnds) : Nat → PSt → Prop
  | 0, p => test p fun k p1 => k = false ∧ D.nx p1
  | n + 1, p => test p fun k p1 => cnd k (body { D with nx := whilP test body D n, ct := whilP test body D n, bk := D.nx } p1) (D.nx p1)
/-- a result on its way to a name -/
def keepT : TgI → Slot → PSt → (Slot → PSt → Prop) → Prop
  | .ow _, .own xs, p, K => K (.own xs) p
  | _, r, p, K => esc r p fun v p1 => K (.val v) p1
def takeR : TgI → Slot → PSt → (PSt → Prop) → Prop
  | .ow i, .own xs, p, K => K (p.set i (.own xs))
  | t, .val v, p, K => bindT t v p K
  | _, _, _, _ => False
def takeTs : List TgI → List Slot → PSt → (PSt → Prop) → Prop
  | [], [], p, K => K p
  | t :: ts, r :: rs, p, K => takeR t r p fun p1 => takeTs ts rs p1 K
  | _, _, _, _ => False
/-- several results, none in a name yet -/
def evRs (G : Nat → PSpec) : List TgI → List IE → PSt → (List Slot → PSt → Prop) → EX → Prop
  | [], [], p, K, _ => K [] p
  | t :: ts, e :: es, p, K, E => evE G e p (fun r p1 => keepT t r p1 fun s p2 => evRs G ts es p2 (fun rs p3 => K (s :: rs) p3) E) E
  | _, _, _, _, _ => False

mutual
def evS : IS → PEnds → PSt → Prop
  | .asg t e, D, p => evE G e p (fun r p1 => takeT t r p1 D.nx) D.ex
  | .par ts es, D, p => evRs G ts es p (fun rs p1 => takeTs ts rs p1 D.nx) D.ex
  | .aug i op e, D, p => evE G (.var i) p (fun r p1 => evE G e p1 (fun r2 p2 => peek r fun x => peek r2 fun y => augP op x y fun z => D.nx (p2.set i (.val z))) D.ex) D.ex
  | .app i e, D, p => ownK (p.get i) fun _ => evE G e p (fun r p1 => esc r p1 fun v p2 => ownK (p2.get i) fun xs => xs.length < 16777216 ∧ D.nx (p2.set i (.own (xs ++ [v])))) D.ex
  | .appPop i j e, D, p => ownK (p.get i) fun _ => ownK (p.get j) fun _ => evE G e p (fun r p1 => peek r fun x => intK x fun k => ownK (p1.get i) fun xs => ownK (p1.get j) fun ys =>
      i ≠ j ∧ xs.length < 16777216 ∧ 0 ≤ k ∧ k < 2 ^ 62 ∧ ∃ v, ys[k.toNat]? = some v ∧ D.nx ((p1.set j (.own (ys.eraseIdx k.toNat))).set i (.own (xs ++ [v])))) D.ex
  | .ext i e, D, p => ownK (p.get i) fun _ => evE G e p (fun r p1 => peek r fun x => ownK (p1.get i) fun xs => lstK x fun ys => xs.length + ys.length ≤ 16777216 ∧ D.nx (p1.set i (.own (xs ++ ys)))) D.ex
  | .sti i ix e, D, p => evE G e p (fun r p1 => esc r p1 fun v p2 => ownK (p2.get i) fun _ => evE G ix p2 (fun r2 p3 => peek r2 fun y => intK y fun k => ownK (p3.get i) fun xs => ∃ j, ixN xs.length k = some j ∧ D.nx (p3.set i (.own (xs.set j v)))) D.ex) D.ex
  | .cond t a b, D, p => evT G t p (fun k p1 => cnd k (evSs a D p1) (evSs b D p1)) D.ex
  | .forr t it b, D, p => evIt G it p (fun items p1 => forP (bindT t) (fun D' p' => evSs b D' p') D items p1) D.ex
  | .whil t b, D, p => ∃ n, whilP (fun q J => evT G t q J D.ex) (fun D' p' => evSs b D' p') D n p
  | .ret e, D, p => evE G e p (fun r p1 => esc r p1 fun v p2 => D.rt (.val v) p2) D.ex
  | .retO e, D, p => evE G e p (fun r p1 => ownK r fun xs => D.rt (.own xs) p1) D.ex
  | .retN, D, p => D.rt (.val .non) p
  | .raise x, D, p => D.ex x p.d
  | .brk, D, p => D.bk p
  | .cnt, D, p => D.ct p
  | .pass, D, p => D.nx p
  | .heard i e j hs, D, p => evE G e p (fun r p1 => takeT (.nm i) r p1 D.nx) (fun x d => hrd hs x fun s => D.nx ⟨(List.replicate p.sl.length Slot.un).set j (.val (.lst [.str s, .bl true])), d⟩)
  | .ex e, D, p => evE G e p (fun _ p1 => D.nx p1) D.ex
def evSs : List IS → PEnds → PSt → Prop
  | [], D, p => D.nx p
  | s :: ss, D, p => evS s { D with nx := fun q => evSs ss D q } p
end
end
end R

set_option Elab.async false
set_option linter.all false
set_option maxRecDepth 100000
/-! R: how pure values stand in the heap. -/
namespace R
open PySem PySem.Spec PyProof.Rows L2

/-- what a def's run is over: the written part, the globals, the addresses of defs that are handed on, the draws' cell, the heap at the entry, what of it is frozen -/
structure RC where
  K : PySem.W.Frag
  mg : Str → Option Value
  fa : Nat → Option Addr
  cell : Option Addr
  H0 : Hp
  B : Hp
  M : Nat → Bool   -- the slots of names that may own a list

mutual
def RV (C : RC) (F : Hp) : PV → V → Prop
  | .non, v => v = .non
  | .bl b, v => v = .bl b
  | .int i, v => v = .int i
  | .str x, v => v = .str x
  | .ty n, v => v = .ty n
  | .tup xs, v => ∃ a vs, v = .ref a ∧ SqT C.K F a vs ∧ RVs C F xs vs
  | .lst xs, v => ∃ a vs, v = .ref a ∧ F a = some (.lst vs) ∧ RVs C F xs vs
  | .ro xs, v => ∃ a vs, v = .ref a ∧ SqL C.K F a vs ∧ RVs C F xs vs
  | .fn k, v => ∃ a, v = .ref a ∧ C.fa k = some a
  | .cell, v => ∃ a, v = .ref a ∧ C.cell = some a
def RVs (C : RC) (F : Hp) : List PV → List V → Prop
  | [], vs => vs = []
  | x :: xs, vs => ∃ v r, vs = v :: r ∧ RV C F x v ∧ RVs C F xs r
end

theorem Same.tseq {K : PySem.W.Frag} {H H' : Hp} {a : Addr} {xs : List V} (e : Same H H') (h : SqT K H a xs) : SqT K H' a xs := by
  rcases h with (h | ⟨o, h⟩) | h
  · exact .inl (.inl (e _ _ h))
  · exact .inl (.inr ⟨o, e _ _ h⟩)
  · exact .inr h
/-- what a value's standing hangs on -/
structure RC.Like (C C' : RC) : Prop where
  K : C.K = C'.K
  fa : C.fa = C'.fa
  cell : C.cell = C'.cell
theorem RC.Like.refl (C : RC) : C.Like C := ⟨rfl, rfl, rfl⟩
theorem RC.Like.symm {C C' : RC} (h : C.Like C') : C'.Like C := ⟨h.K.symm, h.fa.symm, h.cell.symm⟩
mutual
theorem RV.mono {C C' : RC} (l : C.Like C') {F F' : Hp} (s : Same F F') : ∀ {x : PV} {v : V}, RV C F x v → RV C' F' x v
  | .non, _, h => h
  | .bl _, _, h => h
  | .int _, _, h => h
  | .str _, _, h => h
  | .ty _, _, h => h
  | .tup xs, _, h => by
    obtain ⟨a, vs, e, h1, h2⟩ := h
    exact ⟨a, vs, e, by rw [← l.K]; exact Same.tseq s h1, RVs.mono l s h2⟩
  | .lst xs, _, h => by
    obtain ⟨a, vs, e, h1, h2⟩ := h
    exact ⟨a, vs, e, s _ _ h1, RVs.mono l s h2⟩
  | .ro xs, _, h => by
    obtain ⟨a, vs, e, h1, h2⟩ := h
    exact ⟨a, vs, e, by rw [← l.K]; exact Same.seq s h1, RVs.mono l s h2⟩
  | .fn _, _, h => by
    obtain ⟨a, e, h1⟩ := h
    exact ⟨a, e, by rw [← l.fa]; exact h1⟩
  | .cell, _, h => by
    obtain ⟨a, e, h1⟩ := h
    exact ⟨a, e, by rw [← l.cell]; exact h1⟩
theorem RVs.mono {C C' : RC} (l : C.Like C') {F F' : Hp} (s : Same F F') : ∀ {xs : List PV} {vs : List V}, RVs C F xs vs → RVs C' F' xs vs
  | [], _, h => h
  | x :: xs, _, h => by
    obtain ⟨v, r, e, h1, h2⟩ := h
    exact ⟨v, r, e, RV.mono l s h1, RVs.mono l s h2⟩
end
section
variable {C : RC} {F : Hp}
theorem RVs.length : ∀ {xs : List PV} {vs : List V}, RVs C F xs vs → xs.length = vs.length
  | [], vs, h => by
    rw [show vs = [] from h]
    rfl
  | x :: xs, _, h => by
    obtain ⟨v, r, rfl, _, h2⟩ := h
    rw [List.length_cons, List.length_cons, RVs.length h2]
theorem RVs.get : ∀ {xs : List PV} {vs : List V} {i : Nat} {x : PV}, RVs C F xs vs → xs[i]? = some x → ∃ v, vs[i]? = some v ∧ RV C F x v
  | [], _, _, _, _, e => by simp at e
  | y :: ys, _, 0, x, h, e => by
    obtain ⟨v, r, rfl, h1, h2⟩ := h
    simp at e
    subst e
    exact ⟨v, by simp, h1⟩
  | y :: ys, _, i + 1, x, h, e => by
    obtain ⟨v, r, rfl, h1, h2⟩ := h
    obtain ⟨w, e1, e2⟩ := RVs.get (i := i) h2 (by simpa using e)
    exact ⟨w, by simpa using e1, e2⟩
theorem RVs.get' : ∀ {xs : List PV} {vs : List V} {i : Nat} {v : V}, RVs C F xs vs → vs[i]? = some v → ∃ x, xs[i]? = some x ∧ RV C F x v
  | [], _, _, _, h, e => by rw [show _ = [] from h] at e; simp at e
  | y :: ys, _, 0, x, h, e => by
    obtain ⟨v, r, rfl, h1, h2⟩ := h
    simp at e
    subst e
    exact ⟨y, by simp, h1⟩
  | y :: ys, _, i + 1, x, h, e => by
    obtain ⟨v, r, rfl, h1, h2⟩ := h
    obtain ⟨w, e1, e2⟩ := RVs.get' (i := i) h2 (by simpa using e)
    exact ⟨w, by simpa using e1, e2⟩
theorem RVs.append : ∀ {xs ys : List PV} {vs ws : List V}, RVs C F xs vs → RVs C F ys ws → RVs C F (xs ++ ys) (vs ++ ws)
  | [], _, _, _, h, k => by rw [show _ = [] from h]; exact k
  | x :: xs, _, _, _, h, k => by
    obtain ⟨v, r, rfl, h1, h2⟩ := h
    exact ⟨v, _, rfl, h1, RVs.append h2 k⟩
theorem RVs.one {x : PV} {v : V} (h : RV C F x v) : RVs C F [x] [v] := ⟨v, [], rfl, h, rfl⟩
theorem RVs.set : ∀ {xs : List PV} {vs : List V} {x : PV} {v : V} (i : Nat), RVs C F xs vs → RV C F x v → RVs C F (xs.set i x) (vs.set i v)
  | [], _, _, _, _, h, _ => by rw [show _ = [] from h]; exact rfl
  | y :: ys, _, _, _, 0, h, k => by
    obtain ⟨v, r, rfl, h1, h2⟩ := h
    exact ⟨_, _, rfl, k, h2⟩
  | y :: ys, _, _, _, i + 1, h, k => by
    obtain ⟨v, r, rfl, h1, h2⟩ := h
    exact ⟨_, _, rfl, h1, RVs.set i h2 k⟩
theorem RVs.take : ∀ {xs : List PV} {vs : List V} (n : Nat), RVs C F xs vs → RVs C F (xs.take n) (vs.take n)
  | _, _, 0, _ => rfl
  | [], _, _ + 1, h => by rw [show _ = [] from h]; exact rfl
  | x :: xs, _, n + 1, h => by
    obtain ⟨v, r, rfl, h1, h2⟩ := h
    exact ⟨_, _, rfl, h1, RVs.take n h2⟩
theorem RVs.drop : ∀ {xs : List PV} {vs : List V} (n : Nat), RVs C F xs vs → RVs C F (xs.drop n) (vs.drop n)
  | _, _, 0, h => by simpa using h
  | [], _, _ + 1, h => by rw [show _ = [] from h]; exact rfl
  | x :: xs, _, n + 1, h => by
    obtain ⟨v, r, rfl, h1, h2⟩ := h
    simpa using RVs.drop n h2
theorem RVs.eraseIdx : ∀ {xs : List PV} {vs : List V} (n : Nat), RVs C F xs vs → RVs C F (xs.eraseIdx n) (vs.eraseIdx n)
  | [], _, _, h => by rw [show _ = [] from h]; exact rfl
  | x :: xs, _, 0, h => by
    obtain ⟨v, r, rfl, h1, h2⟩ := h
    simpa using h2
  | x :: xs, _, n + 1, h => by
    obtain ⟨v, r, rfl, h1, h2⟩ := h
    exact ⟨_, _, rfl, h1, RVs.eraseIdx n h2⟩
theorem RVs.reverse {xs : List PV} {vs : List V} (h : RVs C F xs vs) : RVs C F xs.reverse vs.reverse := by
  induction xs generalizing vs with
  | nil => rw [show vs = [] from h]; exact rfl
  | cons x xs ih =>
    obtain ⟨v, r, rfl, h1, h2⟩ := h
    rw [List.reverse_cons, List.reverse_cons]
    exact (ih h2).append (.one h1)
theorem RVs.rep {xs : List PV} {vs : List V} (h : RVs C F xs vs) : ∀ n : Nat, RVs C F (List.replicate n xs).flatten (List.replicate n vs).flatten
  | 0 => rfl
  | n + 1 => by
    rw [List.replicate_succ, List.replicate_succ, List.flatten_cons, List.flatten_cons]
    exact h.append (RVs.rep h n)
theorem RVs.nil_iff {xs : List PV} {vs : List V} (h : RVs C F xs vs) : xs = [] ↔ vs = [] := by
  have := h.length
  cases xs <;> cases vs <;> simp_all
theorem RVs.cut {xs : List PV} {vs : List V} (h : RVs C F xs vs) (lo hi : Option Int) : RVs C F (cutP xs lo hi) (cutV vs lo hi) := by
  unfold cutP cutV
  rw [h.length]
  exact (h.drop _).take _
theorem RVs.ints : ∀ {ns : List Int} {vs : List V}, RVs C F (ns.map PV.int) vs → vs = ns.map V.int
  | [], _, h => h
  | n :: ns, _, h => by
    obtain ⟨v, r, rfl, h1, h2⟩ := h
    rw [List.map_cons, RVs.ints h2, show v = .int n from h1]
theorem RVs.bls : ∀ {ns : List Bool} {vs : List V}, RVs C F (ns.map PV.bl) vs → vs = ns.map V.bl
  | [], _, h => h
  | n :: ns, _, h => by
    obtain ⟨v, r, rfl, h1, h2⟩ := h
    rw [List.map_cons, RVs.bls h2, show v = .bl n from h1]
theorem RVs.ofInts : ∀ (ns : List Int), RVs C F (ns.map PV.int) (ns.map V.int)
  | [] => rfl
  | n :: ns => ⟨_, _, rfl, rfl, RVs.ofInts ns⟩
end

/-! ### the relation -/
abbrev Id := Sum Nat Nat
def CellOk (c : Option Addr) (H : Hp) (d : Nat) : Prop := ∀ a, c = some a → ∃ x y z : Int, H a = some (.lst [.int x, .int y, .int z]) ∧ 0 ≤ x ∧ -(2 ^ 63) ≤ y ∧ y ≤ 2 ^ 63 ∧ 0 ≤ z ∧ z + d ≤ 2 ^ 60
def Ent (C : RC) (F : Hp) (ow : Addr → Option Id) (σ : L2.St) (H : Hp) (id : Id) : Slot → Option V → Prop
  | .un, _ => True
  | .val v, o => ∃ x, o = some x ∧ RV C F v x
  | .own xs, o => ∃ a vs, o = some (.ref a) ∧ H a = some (.lst vs) ∧ ow a = some id ∧ RVs C F xs vs ∧ ∀ i, id = .inl i → C.M i = true
  | .bor i xs, o => ∃ a vs, o = some (.ref a) ∧ H a = some (.lst vs) ∧ (ow a = some (.inl i) ∨ F a = some (.lst vs)) ∧ RVs C F xs vs ∧ σ[i]? = some (some (.ref a)) ∧ C.M i = true
def Tms (C : RC) (F : Hp) (ow : Addr → Option Id) (σ : L2.St) (H : Hp) : List (Slot × V) → Prop
  | [] => True
  | t :: ts => Ent C F ow σ H (.inr ts.length) t.1 (some t.2) ∧ Tms C F ow σ H ts
structure Rel (C : RC) (F : Hp) (ow : Addr → Option Id) (p : PSt) (ts : List (Slot × V)) (σ : L2.St) (H : Hp) : Prop where
  fh : Same F H
  bf : Same C.B F
  new : ∀ a, C.H0 a ≠ none → F a = C.B a
  keep : ∀ a o, C.cell ≠ some a → C.H0 a = some o → H a = some o
  oww : ∀ a i, ow a = some i → F a = none ∧ C.H0 a = none ∧ H a ≠ none
  cok : CellOk C.cell H p.d
  cfr : ∀ a, C.cell = some a → F a = none ∧ C.H0 a ≠ none
  len : p.sl.length = σ.length
  sl : ∀ i, Ent C F ow σ H (.inl i) (p.get i) (σ[i]?.join)
  tm : Tms C F ow σ H ts
  nob : ∀ i j xs, p.get i ≠ .bor j xs

section
variable {C : RC} {F F' : Hp} {ow ow' : Addr → Option Id} {p : PSt} {ts : List (Slot × V)} {σ : L2.St} {H H' : Hp} {r : Slot} {v : V}
theorem CellOk.mono {c : Option Addr} {d d' : Nat} (h : CellOk c H d) (l : d' ≤ d) : CellOk c H d' := fun a e => by
  obtain ⟨x, y, z, h1, h2, h3, h4, h5, h6⟩ := h a e
  exact ⟨x, y, z, h1, h2, h3, h4, h5, by omega⟩
theorem Rel.hold (R : Rel C F ow p ts σ H) {a : Addr} (h : C.H0 a ≠ none) : H a ≠ none := by
  by_cases hc : C.cell = some a
  · obtain ⟨x, y, z, h1, _⟩ := R.cok a hc
    rw [h1]
    exact fun q => nomatch q
  · cases e : C.H0 a with
    | none => exact absurd e h
    | some o =>
      rw [R.keep a o hc e]
      exact fun q => nomatch q
theorem Rel.fnone (R : Rel C F ow p ts σ H) {a : Addr} (h : H a = none) : F a = none := R.fh.free h
theorem Rel.onone (R : Rel C F ow p ts σ H) {a : Addr} (h : H a = none) : ow a = none := by
  cases e : ow a with
  | none => rfl
  | some i => exact absurd h (R.oww a i e).2.2
/-- the entries go over -/
theorem Ent.mono {id : Id} {s : Slot} {o : Option V} (h : Ent C F ow σ H id s o) (hs : Same F F') (hh : ∀ a vs, (ow a ≠ none ∨ F a = some (.lst vs)) → H a = some (.lst vs) → H' a = some (.lst vs)) (ho : ∀ a i, ow a = some i → ow' a = some i) : Ent C F' ow' σ H' id s o := by
  cases s with
  | un => trivial
  | val v =>
    obtain ⟨x, e, h1⟩ := h
    exact ⟨x, e, h1.mono (.refl C) hs⟩
  | own xs =>
    obtain ⟨a, vs, e, h1, h2, h3, hm⟩ := h
    exact ⟨a, vs, e, hh a vs (.inl (by rw [h2]; exact fun q => nomatch q)) h1, ho _ _ h2, h3.mono (.refl C) hs, hm⟩
  | bor i xs =>
    obtain ⟨a, vs, e, h1, h2, h3, h4⟩ := h
    rcases h2 with h2 | h2
    · exact ⟨a, vs, e, hh a vs (.inl (by rw [h2]; exact fun q => nomatch q)) h1, .inl (ho _ _ h2), h3.mono (.refl C) hs, h4⟩
    · exact ⟨a, vs, e, hh a vs (.inr h2) h1, .inr (hs _ _ h2), h3.mono (.refl C) hs, h4⟩
theorem Tms.mono : ∀ {ts : List (Slot × V)}, Tms C F ow σ H ts → Same F F' → (∀ a vs, (ow a ≠ none ∨ F a = some (.lst vs)) → H a = some (.lst vs) → H' a = some (.lst vs)) → (∀ a i, ow a = some i → ow' a = some i) → Tms C F' ow' σ H' ts
  | [], _, _, _, _ => trivial
  | t :: ts, h, hs, hh, ho => ⟨h.1.mono hs hh ho, Tms.mono h.2 hs hh ho⟩

theorem same_upd {F : Hp} {a : Addr} {o : HO} (h : F a = none) : Same F (upd F a o) := fun b u e => by
  rw [upd_ne (ne_of_none e h)]
  exact e
/-- a new object that is frozen at once -/
theorem Rel.laid (R : Rel C F ow p ts σ H) {a : Addr} {o : HO} (h : H a = none) : Same F (upd F a o) ∧ Rel C (upd F a o) ow p ts σ (upd H a o) := by
  have hf := R.fnone h
  have h0 : C.H0 a = none := by
    cases e : C.H0 a with
    | none => rfl
    | some u => exact absurd h (R.hold (by rw [e]; exact fun q => nomatch q))
  have sF : Same F (upd F a o) := same_upd hf
  have sH : Same H (upd H a o) := same_upd h
  have ncell : C.cell ≠ some a := fun e => (R.cfr a e).2 h0
  refine ⟨sF, ⟨fun b u e => ?_, R.bf.trans sF, fun b hb => ?_, fun b u hc e => ?_, fun b i e => ?_, fun b e => ?_, fun b e => ?_, R.len, fun i => (R.sl i).mono sF (fun b vs _ q => sH _ _ q) fun _ _ q => q, R.tm.mono sF (fun b vs _ q => sH _ _ q) fun _ _ q => q, R.nob⟩⟩
  · by_cases q : b = a
    · subst q
      rw [upd_same] at e ⊢
      exact e
    · rw [upd_ne q] at e ⊢
      exact R.fh _ _ e
  · have q : b ≠ a := fun z => by subst z; exact hb h0
    rw [upd_ne q]
    exact R.new b hb
  · exact sH _ _ (R.keep b u hc e)
  · obtain ⟨h1, h2, h3⟩ := R.oww b i e
    have q : b ≠ a := fun z => by subst z; exact h3 h
    refine ⟨by rw [upd_ne q]; exact h1, h2, by rw [upd_ne q]; exact h3⟩
  · obtain ⟨x, y, z, h1, h2⟩ := R.cok b e
    exact ⟨x, y, z, sH _ _ h1, h2⟩
  · have q : b ≠ a := fun z => by subst z; exact ncell e
    rw [upd_ne q]
    exact R.cfr b e
/-- a new object that is not frozen: nobody's (junk, a list in the making) -/
theorem Rel.laid0 (R : Rel C F ow p ts σ H) {a : Addr} {o : HO} (h : H a = none) : Rel C F ow p ts σ (upd H a o) := by
  have sH : Same H (upd H a o) := same_upd h
  exact ⟨R.fh.trans sH, R.bf, R.new, fun b u hc e => sH _ _ (R.keep b u hc e), fun b i e => by
    obtain ⟨h1, h2, h3⟩ := R.oww b i e
    have q : b ≠ a := fun z => by subst z; exact h3 h
    exact ⟨h1, h2, by rw [upd_ne q]; exact h3⟩, fun b e => by
    obtain ⟨x, y, z, h1, h2⟩ := R.cok b e
    exact ⟨x, y, z, sH _ _ h1, h2⟩, R.cfr, R.len, fun i => (R.sl i).mono (.refl F) (fun b vs _ q => sH _ _ q) fun _ _ q => q, R.tm.mono (.refl F) (fun b vs _ q => sH _ _ q) fun _ _ q => q, R.nob⟩
def owset (ow : Addr → Option Id) (a : Addr) (i : Option Id) : Addr → Option Id := fun b => if b = a then i else ow b
theorem owset_same {a : Addr} {i : Option Id} : owset ow a i a = i := by unfold owset; rw [if_pos rfl]
theorem owset_ne {a b : Addr} {i : Option Id} (h : b ≠ a) : owset ow a i b = ow b := by unfold owset; rw [if_neg h]
/-- a value on top -/
theorem Rel.push (R : Rel C F ow p ts σ H) {x : PV} (h : RV C F x v) : Rel C F ow p ((.val x, v) :: ts) σ H :=
  ⟨R.fh, R.bf, R.new, R.keep, R.oww, R.cok, R.cfr, R.len, R.sl, ⟨⟨v, rfl, h⟩, R.tm⟩, R.nob⟩
/-- an address that nobody owns yet is a new temp's -/
theorem Rel.pushOwn (R : Rel C F ow p ts σ H) {a : Addr} {vs : List V} {xs : List PV} (hH : H a = some (.lst vs)) (hF : F a = none) (h0 : C.H0 a = none) (ho : ow a = none) (h : RVs C F xs vs) :
    Rel C F (owset ow a (some (.inr ts.length))) p ((.own xs, .ref a) :: ts) σ H := by
  have hm : ∀ b i, ow b = some i → owset ow a (some (.inr ts.length)) b = some i := fun b i e => by
    have q : b ≠ a := fun z => by subst z; rw [ho] at e; cases e
    rw [owset_ne q]
    exact e
  refine ⟨R.fh, R.bf, R.new, R.keep, fun b i e => ?_, R.cok, R.cfr, R.len, fun i => (R.sl i).mono (.refl F) (fun _ _ _ q => q) hm, ⟨⟨a, vs, rfl, hH, owset_same, h, fun i e => nomatch e⟩, R.tm.mono (.refl F) (fun _ _ _ q => q) hm⟩, R.nob⟩
  by_cases q : b = a
  · subst q
    exact ⟨hF, h0, by rw [hH]; exact fun q => nomatch q⟩
  · rw [owset_ne q] at e
    exact R.oww b i e
/-- a new list on top -/
theorem Rel.pushNew (R : Rel C F ow p ts σ H) {a : Addr} {vs : List V} {xs : List PV} (hH : H a = none) (h : RVs C F xs vs) : Rel C F (owset ow a (some (.inr ts.length))) p ((.own xs, .ref a) :: ts) σ (upd H a (.lst vs)) := by
  have h0 : C.H0 a = none := by
    cases e : C.H0 a with
    | none => rfl
    | some u => exact absurd hH (R.hold (by rw [e]; exact fun q => nomatch q))
  exact (R.laid0 hH).pushOwn upd_same (R.fnone hH) h0 (R.onone hH) h
theorem Rel.pop (R : Rel C F ow p ((r, v) :: ts) σ H) : Rel C F ow p ts σ H := ⟨R.fh, R.bf, R.new, R.keep, R.oww, R.cok, R.cfr, R.len, R.sl, R.tm.2, R.nob⟩
/-- the second temp goes -/
theorem Rel.top (R : Rel C F ow p ((r, v) :: ts) σ H) : Ent C F ow σ H (.inr ts.length) r (some v) := R.tm.1

/-- looked at: what stands there -/
inductive Lk (C : RC) (F H : Hp) : PV → V → Prop
  | val {x : PV} {v : V} : RV C F x v → Lk C F H x v
  | lst {xs : List PV} {a : Addr} {vs : List V} : H a = some (.lst vs) → RVs C F xs vs → Lk C F H (.lst xs) (.ref a)
theorem Ent.look {id : Id} {K : PV → Prop} (h : Ent C F ow σ H id r (some v)) (k : peek r K) : ∃ x, Lk C F H x v ∧ K x := by
  cases r with
  | un => exact k.elim
  | val y =>
    obtain ⟨x, e, h1⟩ := h
    cases e
    exact ⟨y, .val h1, k⟩
  | own xs =>
    obtain ⟨a, vs, e, h1, h2, h3, _⟩ := h
    cases e
    exact ⟨_, .lst h1 h3, k⟩
  | bor i xs =>
    obtain ⟨a, vs, e, h1, h2, h3, h4⟩ := h
    cases e
    exact ⟨_, .lst h1 h3, k⟩
def Slot.pv : Slot → PV
  | .val v => v
  | .own xs => .lst xs
  | .bor _ xs => .lst xs
  | .un => .non
theorem peek_pv {K : PV → Prop} (k : peek r K) : r ≠ .un ∧ K r.pv := by
  cases r with
  | un => exact k.elim
  | _ => exact ⟨fun z => (nomatch z), k⟩
theorem Ent.look2 {id : Id} (h : Ent C F ow σ H id r (some v)) (k : r ≠ .un) : Lk C F H r.pv v := by
  have h2 : peek r (fun x => x = r.pv) := by cases r <;> first | exact absurd rfl k | rfl
  obtain ⟨x, lx, e⟩ := h.look h2
  rw [← e]
  exact lx
theorem Lk.lstAt {xs : List PV} (hs : Same F H) (h : Lk C F H (.lst xs) v) : ∃ a vs, v = .ref a ∧ H a = some (.lst vs) ∧ RVs C F xs vs := by
  cases h with
  | val h =>
    obtain ⟨a, vs, e, h1, h2⟩ := h
    exact ⟨a, vs, e, hs _ _ h1, h2⟩
  | lst h1 h2 => exact ⟨_, _, rfl, h1, h2⟩
theorem Lk.rv {x : PV} (h : Lk C F H x v) (hx : ∀ xs, x ≠ .lst xs) : RV C F x v := by
  cases h with
  | val h => exact h
  | lst h1 h2 => exact absurd rfl (hx _)

theorem getD_set {l : List Slot} {i j : Nat} {s : Slot} (h : i < l.length) : (l.set i s).getD j .un = if i = j then s else l.getD j .un := by
  rw [List.getD_eq_getElem?_getD, List.getElem?_set]
  by_cases e : i = j
  · subst e
    simp [h]
  · simp [e]
theorem PSt.get_lt {p : PSt} {i : Nat} (h : p.get i ≠ .un) : i < p.sl.length := by
  apply Nat.lt_of_not_le
  intro q
  apply h
  unfold PSt.get
  rw [List.getD_eq_getElem?_getD, List.getElem?_eq_none q]
  rfl

/-- a list that someone owns is frozen -/
theorem Rel.freeze (R : Rel C F ow p ts σ H) {a : Addr} {vs : List V} {xs : List PV} {id : Id} (hH : H a = some (.lst vs)) (ho : ow a = some id) (h : RVs C F xs vs) :
    Same F (upd F a (.lst vs)) ∧ (∀ b i, b ≠ a → ow b = some i → owset ow a none b = some i) ∧ ∀ b i, owset ow a none b = some i → (upd F a (.lst vs)) b = none ∧ C.H0 b = none ∧ H b ≠ none := by
  obtain ⟨h1, h2, h3⟩ := R.oww a id ho
  refine ⟨same_upd h1, fun b i hb e => by rw [owset_ne hb]; exact e, fun b i e => ?_⟩
  by_cases q : b = a
  · subst q
    rw [owset_same] at e
    cases e
  · rw [owset_ne q] at e
    rw [upd_ne q]
    exact R.oww b i e
theorem Ent.mono2 {id : Id} {s : Slot} {o : Option V} (h : Ent C F ow σ H id s o) (hs : Same F F') (hown : ∀ b, ow b = some id → ow' b = some id)
    (hbor : ∀ b i vs, ow b = some (.inl i) → H b = some (.lst vs) → ow' b = some (.inl i) ∨ F' b = some (.lst vs)) : Ent C F' ow' σ H id s o := by
  cases s with
  | un => trivial
  | val v =>
    obtain ⟨x, e, h1⟩ := h
    exact ⟨x, e, h1.mono (.refl C) hs⟩
  | own xs =>
    obtain ⟨a, vs, e, h1, h2, h3, hm⟩ := h
    exact ⟨a, vs, e, h1, hown _ h2, h3.mono (.refl C) hs, hm⟩
  | bor i xs =>
    obtain ⟨a, vs, e, h1, h2, h3, h4⟩ := h
    rcases h2 with h2 | h2
    · exact ⟨a, vs, e, h1, hbor _ _ _ h2 h1, h3.mono (.refl C) hs, h4⟩
    · exact ⟨a, vs, e, h1, .inr (hs _ _ h2), h3.mono (.refl C) hs, h4⟩
theorem Tms.mono2 {N : Nat} : ∀ {ts : List (Slot × V)}, Tms C F ow σ H ts → ts.length ≤ N → Same F F' → (∀ b n, n < N → ow b = some (.inr n) → ow' b = some (.inr n)) →
    (∀ b i vs, ow b = some (.inl i) → H b = some (.lst vs) → ow' b = some (.inl i) ∨ F' b = some (.lst vs)) → Tms C F' ow' σ H ts
  | [], _, _, _, _, _ => trivial
  | t :: ts, h, hl, hs, hown, hbor => ⟨h.1.mono2 hs (fun b e => hown b _ (by rw [List.length_cons] at hl; omega) e) hbor, Tms.mono2 h.2 (by rw [List.length_cons] at hl; omega) hs hown hbor⟩
theorem Rel.frzF (R : Rel C F ow p ts σ H) {a : Addr} {vs : List V} {id : Id} (hH : H a = some (.lst vs)) (ho : ow a = some id) : Same (upd F a (.lst vs)) H ∧ Same C.B (upd F a (.lst vs)) ∧ (∀ b, C.H0 b ≠ none → upd F a (.lst vs) b = C.B b) ∧
    (∀ b i, owset ow a none b = some i → (upd F a (.lst vs)) b = none ∧ C.H0 b = none ∧ H b ≠ none) ∧ ∀ b, C.cell = some b → (upd F a (.lst vs)) b = none ∧ C.H0 b ≠ none := by
  obtain ⟨h1, h2, h3⟩ := R.oww a id ho
  refine ⟨fun b u e => ?_, R.bf.trans (same_upd h1), fun b hb => ?_, fun b i e => ?_, fun b e => ?_⟩
  · by_cases q : b = a
    · subst q
      rw [upd_same] at e
      rw [hH]
      exact e
    · rw [upd_ne q] at e
      exact R.fh _ _ e
  · have q : b ≠ a := fun z => by subst z; exact hb h2
    rw [upd_ne q]
    exact R.new b hb
  · by_cases q : b = a
    · subst q
      rw [owset_same] at e
      cases e
    · rw [owset_ne q] at e
      rw [upd_ne q]
      exact R.oww b i e
  · obtain ⟨g1, g2⟩ := R.cfr b e
    have q : b ≠ a := fun z => by subst z; exact g2 h2
    rw [upd_ne q]
    exact ⟨g1, g2⟩
/-- a temp's own list is frozen, the temp gone -/
theorem Rel.frzTemp (R : Rel C F ow p ts σ H) {a : Addr} {vs : List V} {n : Nat} (hH : H a = some (.lst vs)) (ho : ow a = some (.inr n)) (hn : ts.length ≤ n) :
    Same F (upd F a (.lst vs)) ∧ Rel C (upd F a (.lst vs)) (owset ow a none) p ts σ H := by
  obtain ⟨f1, f2, f3, f4, f5⟩ := R.frzF hH ho
  have hs : Same F (upd F a (.lst vs)) := same_upd (R.oww a _ ho).1
  have hne : ∀ b i, ow b = some i → i ≠ .inr n → b ≠ a := fun b i e hi z => by
    subst z
    rw [ho] at e
    exact hi (Option.some.inj e).symm
  have hbor : ∀ b i ws, ow b = some (.inl i) → H b = some (.lst ws) → owset ow a none b = some (.inl i) ∨ upd F a (.lst vs) b = some (.lst ws) := fun b i ws e _ => .inl (by
    rw [owset_ne (hne b _ e (by intro q; cases q))]
    exact e)
  refine ⟨hs, ⟨f1, f2, f3, R.keep, f4, R.cok, f5, R.len, fun i => (R.sl i).mono2 hs (fun b e => ?_) hbor, R.tm.mono2 (N := n) hn hs (fun b m hm e => ?_) hbor, R.nob⟩⟩
  · rw [owset_ne (hne b _ e (by intro q; cases q))]
    exact e
  · rw [owset_ne (hne b _ e (by intro q; have := Sum.inr.inj q; omega))]
    exact e
theorem nob_set {p : PSt} {i : Nat} {s : Slot} (h : ∀ i j xs, p.get i ≠ .bor j xs) (hi : i < p.sl.length) (hs : ∀ j xs, s ≠ .bor j xs) : ∀ n j xs, (p.set i s).get n ≠ .bor j xs := fun n j xs => by
  have e : (p.set i s).get n = if i = n then s else p.get n := getD_set hi
  rw [e]
  split
  · exact hs j xs
  · exact h n j xs
theorem get_set {p : PSt} {i j : Nat} {s : Slot} (h : i < p.sl.length) : (p.set i s).get j = if i = j then s else p.get j := getD_set h
/-- a name's own list is frozen -/
theorem Rel.frzSlot (R : Rel C F ow p ts σ H) {a : Addr} {vs : List V} {xs : List PV} {i : Nat} (hH : H a = some (.lst vs)) (ho : ow a = some (.inl i)) (h : RVs C F xs vs) (hσ : σ[i]? = some (some (.ref a))) :
    Same F (upd F a (.lst vs)) ∧ Rel C (upd F a (.lst vs)) (owset ow a none) (p.set i (.val (.lst xs))) ts σ H := by
  obtain ⟨f1, f2, f3, f4, f5⟩ := R.frzF hH ho
  have hs : Same F (upd F a (.lst vs)) := same_upd (R.oww a _ ho).1
  have hne : ∀ b j, ow b = some j → j ≠ .inl i → b ≠ a := fun b j e hi z => by
    subst z
    rw [ho] at e
    exact hi (Option.some.inj e).symm
  have hbor : ∀ b j ws, ow b = some (.inl j) → H b = some (.lst ws) → owset ow a none b = some (.inl j) ∨ upd F a (.lst vs) b = some (.lst ws) := fun b j ws e hb => by
    by_cases q : b = a
    · subst q
      rw [hH] at hb
      cases hb
      exact .inr upd_same
    · exact .inl (by rw [owset_ne q]; exact e)
  have hi : i < p.sl.length := by rw [R.len]; exact (List.getElem?_eq_some_iff.mp hσ).1
  refine ⟨hs, ⟨f1, f2, f3, R.keep, f4, R.cok, f5, by rw [← R.len]; exact List.length_set, fun j => ?_, R.tm.mono2 (N := ts.length) (Nat.le_refl _) hs (fun b m hm e => ?_) hbor, nob_set R.nob hi (by intro j ys; exact fun q => nomatch q)⟩⟩
  · rw [get_set hi]
    by_cases q : i = j
    · subst q
      rw [if_pos rfl]
      exact ⟨.ref a, by rw [hσ]; rfl, a, vs, rfl, upd_same, h.mono (.refl C) hs⟩
    · rw [if_neg q]
      refine (R.sl j).mono2 hs (fun b e => ?_) hbor
      rw [owset_ne (hne b _ e (by intro z; exact q (Sum.inl.inj z).symm))]
      exact e
  · rw [owset_ne (hne b _ e (by intro q; cases q))]
    exact e
/-- a name's slot is a frozen list's, once more -/
theorem Rel.setFrz (R : Rel C F ow p ts σ H) {x : PV} {v : V} {i : Nat} (h : RV C F x v) (hσ : σ[i]? = some (some v)) : Rel C F ow (p.set i (.val x)) ts σ H := by
  have hi : i < p.sl.length := by rw [R.len]; exact (List.getElem?_eq_some_iff.mp hσ).1
  refine ⟨R.fh, R.bf, R.new, R.keep, R.oww, R.cok, R.cfr, by rw [← R.len]; exact List.length_set, fun j => ?_, R.tm, nob_set R.nob hi (by intro j ys; exact fun q => nomatch q)⟩
  rw [get_set hi]
  by_cases q : i = j
  · subst q
    rw [if_pos rfl]
    exact ⟨v, by rw [hσ]; rfl, h⟩
  · rw [if_neg q]
    exact R.sl j
/-- THE ESCAPE -/
theorem Rel.esc (R : Rel C F ow p ((r, v) :: ts) σ H) {K : PV → PSt → Prop} (k : esc r p K) :
    ∃ x p' F' ow', Same F F' ∧ Rel C F' ow' p' ts σ H ∧ RV C F' x v ∧ K x p' := by
  have h := R.top
  cases r with
  | un => exact False.elim k
  | val y =>
    obtain ⟨x, e, h1⟩ := h
    cases e
    exact ⟨y, p, F, ow, .refl F, R.pop, h1, k⟩
  | own xs =>
    obtain ⟨a, vs, e, h1, h2, h3, _⟩ := h
    cases e
    obtain ⟨hs, R'⟩ := R.pop.frzTemp h1 h2 (Nat.le_refl _)
    exact ⟨.lst xs, p, _, _, hs, R', ⟨a, vs, rfl, upd_same, h3.mono (.refl C) hs⟩, k⟩
  | bor i xs =>
    obtain ⟨a, vs, e, h1, h2, h3, h4, _⟩ := h
    cases e
    rcases h2 with h2 | h2
    · obtain ⟨hs, R'⟩ := R.pop.frzSlot h1 h2 h3 h4
      exact ⟨.lst xs, _, _, _, hs, R', ⟨a, vs, rfl, upd_same, h3.mono (.refl C) hs⟩, k⟩
    · have hv : RV C F (.lst xs) (.ref a) := ⟨a, vs, rfl, h2, h3⟩
      exact ⟨.lst xs, _, F, ow, .refl F, R.pop.setFrz hv h4, hv, k⟩
end
end R

set_option Elab.async false
set_option linter.all false
set_option maxRecDepth 100000
/-! R: from the text's own trees to the short language. -/
namespace R
open PySem L2

/-- what a global name is -/
inductive GK where
  | fn (k : Nat) | cst (v : PV) | exc (x : XN)
  deriving Inhabited
structure CG where
  g : List (Str × GK)
  N : List Str
  mu : List Str
  hv : Bool := false

/-- a name that is none of three odd ones -/
def okName (x : Str) : Bool := !(x == ("__debug__" : Str)) && !(x == ("__classdict__" : Str)) && !(x == ("__name__" : Str))
def slotOf (G : CG) (sc : Scope) (x : Str) : Option Nat := if okName x then (match sc.names.lookup x with
  | some .local | some .cell | some .free => G.N.findIdx? (· == x)
  | _ => none) else none
def isGlob (sc : Scope) (x : Str) : Bool := okName x && sc.names.lookup x == some .globalImplicit
def b1Of (x : Str) : Option B1 :=
  if x = "len" then some .len else if x = "abs" then some .abs else if x = "sum" then some .sum else if x = "max" then some .max
  else if x = "min" then some .min else if x = "int" then some .int else if x = "list" then some .list else if x = "tuple" then some .tuple
  else if x = "sorted" then some .sorted else if x = "all" then some .all else if x = "any" then some .any else none
def tyName (x : Str) : Option String :=
  if x = "int" then some "int" else if x = "bool" then some "bool" else if x = "str" then some "str" else if x = "list" then some "list" else if x = "tuple" then some "tuple" else none
def boOf : Operator → Option BO
  | .Add => some .add | .Sub => some .sub | .Mult => some .mul | .FloorDiv => some .fdiv | .Mod => some .mod | .Pow => some .pow
  | _ => none
def coOf : CmpOp → CO
  | .Eq => .eq | .NotEq => .ne | .Lt => .lt | .LtE => .le | .Gt => .gt | .GtE => .ge | .Is => .isN | .IsNot => .notN | .In => .inn | .NotIn => .notin
def isNone : Expr → Bool
  | .Constant .none _ _ => true
  | _ => false
/-- a comparison that is served -/
def cmpOk (op : CmpOp) (b : Expr) : Bool := match op, b with
  | .Is, b => isNone b
  | .IsNot, b => isNone b
  | _, .Set _ _ _ => false
  | _, _ => true
def gOf (G : CG) (x : Str) : Option GK := G.g.lookup x
def minusOne : Expr → Bool
  | .UnaryOp .USub (.Constant (.int 1) _ _) _ => true
  | _ => false
def isZero : Expr → Bool
  | .Constant (.int 0) _ _ => true
  | _ => false
def isStar : Expr → Bool
  | .Starred _ _ => true
  | _ => false
def isSlice : Expr → Bool
  | .Slice _ _ _ _ => true
  | _ => false
def isSet : Expr → Bool
  | .Set _ _ _ => true
  | _ => false
def isTupE : Expr → Bool
  | .Tuple _ _ _ => true
  | _ => false
def II.pairs : II → Bool
  | .enum _ => true
  | .zip _ _ => true
  | _ => false
/-- a comprehension's own names with their slots -/
def ownOf (G : CG) (sc : Scope) : List (Str × Nat) := sc.names.filterMap fun y => match y.2 with
  | .local | .cell => (G.N.findIdx? (· == y.1)).map fun i => (y.1, i)
  | _ => none
mutual
def tgSlots : TgI → List Nat
  | .nm i => [i]
  | .ow i => [i]
  | .tup ts => tgsSlots ts
def tgsSlots : List TgI → List Nat
  | [] => []
  | t :: ts => tgSlots t ++ tgsSlots ts
end
def muOf (G : CG) : Nat → Bool := fun i => match G.N[i]? with
  | some x => G.mu.contains x
  | none => false
mutual
def cTgt (G : CG) (sc : Scope) (ow : Bool) : Nat → Expr → Option TgI
  | 0, _ => none
  | n + 1, e => match e with
    | .Name x _ => match sc.names.lookup x with
      | some .local | some .cell => (G.N.findIdx? (· == x)).map fun i => if ow && G.mu.contains x then .ow i else .nm i
      | _ => none
    | .Tuple es _ _ => (cTgts G sc ow n es).map .tup
    | _ => none
def cTgts (G : CG) (sc : Scope) (ow : Bool) : Nat → List Expr → Option (List TgI)
  | 0, _ => none
  | _ + 1, [] => some []
  | n + 1, e :: es => match cTgt G sc ow n e, cTgts G sc ow n es with
    | some t, some ts => some (t :: ts)
    | _, _ => none
end
def tyNames (sc : Scope) (G : CG) : List Expr → Option (List String)
  | [] => some []
  | .Name x _ :: es => if isGlob sc x && (gOf G x).isNone then match tyName x, tyNames sc G es with
    | some t, some ts => some (t :: ts)
    | _, _ => none
    else none
  | _ => none
mutual
def cE (G : CG) : Nat → Scope → Expr → Option IE
  | 0, _, _ => none
  | n + 1, sc, e => match e with
    | .Constant (.int i) _ _ => some (.cst (.int i))
    | .Constant (.bool b) _ _ => some (.cst (.bl b))
    | .Constant .none _ _ => some (.cst .non)
    | .Constant (.str x) _ _ => some (.cst (.str x))
    | .Name x _ => match slotOf G sc x with
      | some i => some (.var i)
      | none => if isGlob sc x then match gOf G x with
        | some (.cst v) => some (.cst v)
        | some (.fn k) => some (.cst (.fn k))
        | _ => none
        else none
    | .BinOp a op b _ => match boOf op, cE G n sc a, cE G n sc b with
      | some o, some x, some y => some (.bin o x y)
      | _, _, _ => none
    | .UnaryOp .USub a _ => (cE G n sc a).map .neg
    | .UnaryOp .Not a _ => (cE G n sc a).map .not
    | .Compare a [op] [b] _ => if cmpOk op b then match cE G n sc a, cE G n sc b with
      | some x, some y => some (.cmp (coOf op) x y)
      | _, _ => none
      else none
    | .Compare a [op, op2] [b, c] _ => if !isNone b && !isNone c && !isSet b && !isSet c && cmpOk op b && cmpOk op2 c then match cE G n sc a, cE G n sc b, cE G n sc c with
      | some x, some y, some z => some (.chain (coOf op) (coOf op2) x y z)
      | _, _, _ => none
      else none
    | .BoolOp .And [a] _ => cE G n sc a
    | .BoolOp .Or [a] _ => cE G n sc a
    | .BoolOp .And (a :: b :: es) pos => match cE G n sc a, cE G n sc (.BoolOp .And (b :: es) pos) with
      | some x, some y => some (.and x y)
      | _, _ => none
    | .BoolOp .Or (a :: b :: es) pos => match cE G n sc a, cE G n sc (.BoolOp .Or (b :: es) pos) with
      | some x, some y => some (.or x y)
      | _, _ => none
    | .IfExp t a b _ => match cT G n sc t, cE G n sc a, cE G n sc b with
      | some x, some y, some z => some (.ifx x y z)
      | _, _, _ => none
    | .Tuple es _ _ => match cEs G n sc es with
      | some xs => if es.length ≤ 1000 then some (.tup xs) else none
      | none => none
    | .List es _ => match cEs G n sc es with
      | some xs => if es.length ≤ 1000 then some (.lst xs) else none
      | none => none
    | .Subscript a (.Slice lo hi none _) _ => match cE G n sc a, cO G n sc lo, cO G n sc hi with
      | some x, some l, some h => some (.slc x l h)
      | _, _, _ => none
    | .Subscript a (.Slice none none (some s) _) _ => if minusOne s then (cE G n sc a).map .rev else none
    | .Subscript a i _ => if isSlice i then none else match cE G n sc a, cE G n sc i with
      | some x, some y => some (.sub x y)
      | _, _ => none
    | .Call (.Name f _) args [] _ => match slotOf G sc f with
      | some i => match args with
        | [] => none
        | a :: as => if G.hv then (cEs G n sc (a :: as)).map (.callv i) else none
      | none => if isGlob sc f then match gOf G f with
        | some (.fn k) => (match args with
          | [] => none
          | a :: as => (cEs G n sc (a :: as)).map (.call k))
        | some _ => none
        | none => match args with
          | [a] => match b1Of f, a with
            | some .list, .Call (.Name h _) as [] _ => if isGlob sc h && (gOf G h).isNone && h = "range" then (match as with
                | [a1] => if isStar a1 then none else (cE G n sc a1).map .lrng1
                | [a1, a2] => (match cE G n sc a1, cE G n sc a2 with
                  | some x, some y => if isStar a1 || isStar a2 then none else some (.lrng2 x y)
                  | _, _ => none)
                | _ => none)
              else (cE G n sc a).map (.blt1 .list)
            | some b, a => if isStar a then none else (cE G n sc a).map (.blt1 b)
            | _, _ => none
          | [a, c] => if f = "isinstance" then (match c with
              | .Tuple ts _ _ => (match cE G n sc a, tyNames sc G ts with
                | some x, some ns => if isStar a || decide (10 < ns.length) then none else some (.isi x ns)
                | _, _ => none)
              | .Name t p => (match cE G n sc a, tyNames sc G [.Name t p] with
                | some x, some ns => if isStar a then none else some (.isi x ns)
                | _, _ => none)
              | _ => none)
            else match cE G n sc a, cE G n sc c with
              | some x, some y => if isStar a || isStar c then none else if f = "max" then some (.blt2 .max x y) else if f = "min" then some (.blt2 .min x y) else none
              | _, _ => none
          | _ => none
        else none
    | .Call (.Attribute (.Name x _) m apos) [e] [] cpos => match slotOf G sc x, cE G n sc e with
      | some i, some y => if m = "index" then (if isStar e || apos.endLine != cpos.line then none else some (.index (.var i) y)) else none
      | _, _ => none
    | .ListComp elt [⟨tg, it, ifs, 0⟩] sc2 _ => match cTgt G sc2 false n tg, cI G n sc it, cIf G n (relS sc2 sc) ifs, cE G n (relS sc2 sc) elt with
      | some t, some i, some c, some x => if blkC G.N sc sc2 (ownOf G sc2) && (!i.pairs || isTupE tg) && !isSet it && ((ownOf G sc2).all fun y => !G.mu.contains y.1) && (tgSlots t).all (fun i => ((ownOf G sc2).map (·.2)).contains i) then some (.comp x t i c ((ownOf G sc2).map (·.2))) else none
      | _, _, _, _ => none
    | _ => none
def cEs (G : CG) : Nat → Scope → List Expr → Option (List IE)
  | 0, _, _ => none
  | _ + 1, _, [] => some []
  | n + 1, sc, e :: es => if isStar e then none else match cE G n sc e, cEs G n sc es with
    | some x, some xs => some (x :: xs)
    | _, _ => none
def cO (G : CG) : Nat → Scope → Option Expr → Option (Option IE)
  | 0, _, _ => none
  | _ + 1, _, none => some none
  | n + 1, sc, some e => (cE G n sc e).map some
def cT (G : CG) : Nat → Scope → Expr → Option IT
  | 0, _, _ => none
  | n + 1, sc, e => match e with
    | .BoolOp .And [a] _ => cT G n sc a
    | .BoolOp .Or [a] _ => cT G n sc a
    | .BoolOp .And (a :: b :: es) pos => match cT G n sc a, cT G n sc (.BoolOp .And (b :: es) pos) with
      | some x, some y => some (.and x y)
      | _, _ => none
    | .BoolOp .Or (a :: b :: es) pos => match cT G n sc a, cT G n sc (.BoolOp .Or (b :: es) pos) with
      | some x, some y => some (.or x y)
      | _, _ => none
    | .UnaryOp .Not a _ => (cT G n sc a).map .not
    | .IfExp _ _ _ _ => none
    | e => (cE G n sc e).map .val
def cIf (G : CG) : Nat → Scope → List Expr → Option IT
  | 0, _, _ => none
  | _ + 1, _, [] => some .yes
  | n + 1, sc, [e] => cT G n sc e
  | _ + 1, _, _ => none
def cI (G : CG) : Nat → Scope → Expr → Option II
  | 0, _, _ => none
  | n + 1, sc, e => match e with
    | .Call (.Name f p) args [] pos => if isGlob sc f && (gOf G f).isNone && f = "range" then (match args with
        | [a] => if isStar a then none else (cE G n sc a).map .rng1
        | [a, b] => (match cE G n sc a, cE G n sc b with
          | some x, some y => if isStar a || isStar b then none else some (.rng2 x y)
          | _, _ => none)
        | _ => none)
      else if isGlob sc f && (gOf G f).isNone && f = "enumerate" then (match args with
        | [a] => if isStar a then none else (cE G n sc a).map .enum
        | _ => none)
      else if isGlob sc f && (gOf G f).isNone && f = "zip" then (match args with
        | [a, b] => (match cE G n sc a, cE G n sc b with
          | some x, some y => if isStar a || isStar b then none else some (.zip x y)
          | _, _ => none)
        | _ => none)
      else (cE G n sc (.Call (.Name f p) args [] pos)).map .seq
    | e => (cE G n sc e).map .seq
end
def excOf (x : GK) : Option XN := match x with
  | .exc x => some x
  | _ => none
def isLst : Expr → Bool
  | .List _ _ => true
  | _ => false
def isComp : Expr → Bool
  | .ListComp _ _ _ _ => true
  | _ => false
/-- the name of a local, its slot -/
def locOf (G : CG) (sc : Scope) (x : Str) : Option Nat := match sc.names.lookup x with
  | some .local | some .cell => G.N.findIdx? (· == x)
  | _ => none
/-- one comprehension put in a name on one line: the machine stores within -/
def swapsC (sc : Scope) (tg e : Expr) : Bool := match tg, e with
  | .Name t p, .ListComp _ _ s q => sc.names.lookup t == some .local && p.line == q.line && !(s.names.any fun (n, k) => n == t && (k == .local || k == .cell))
  | _, _ => false
def sameLine : Expr → Expr → Bool
  | .Name _ p, .ListComp _ _ _ q => p.line == q.line
  | _, _ => true
/-- the names that are stored from the right -/
def swS (sc : Scope) (ts vs : List Expr) : Option (Option (List Str)) :=
  if !(ts.length == 2 || ts.length == 3) || vs.length != ts.length then some none else
  if vs.any isStar then none else
  let line := (ts.head?.map (·.pos.line)).getD 0
  let names := ts.filterMap fun t => match t with
    | .Name id pos => if sc.names.lookup id == some .local && pos.line == line then some id else none
    | _ => none
  if names.length != ts.length || names.eraseDups.length != names.length then some none else
  if vs.all (foldedForSure 8) then some none else
  if vs.all (constantsAlone 8) then none else some (some names)
/-- the name that a clause bears, the name that it stores -/
def caughtN : ExceptHandler → Option (Str × Str)
  | .ExceptHandler _ (some nm) [.Assign [.Name y _] _ _] _ => some (nm, y)
  | _ => none
/-- the clauses of a try that notes a refusal -/
def clO (G : CG) (sc : Scope) (nm y : Str) : List ExceptHandler → Option (List (XN × Str))
  | [] => some []
  | .ExceptHandler (some (.Name c _)) (some nm2) [.Assign [.Name y2 _] (.List [.Constant (.str s) _ _, .Call (.Name f _) [.Name nm3 _, .Name v _] [] _] _) _] _ :: r =>
    if nm2 = nm ∧ nm3 = nm ∧ y2 = y ∧ f = "isinstance" ∧ v = "ValueError" ∧ okName nm = true ∧ isGlob sc c = true ∧ isGlob sc f = true ∧ isGlob sc v = true ∧ (gOf G f).isNone = true ∧ (gOf G v).isNone = true then
      (match (gOf G c).bind excOf, clO G sc nm y r with
      | some .unfit, some hs => some ((.unfit, s) :: hs)
      | some .cannot, some hs => some ((.cannot, s) :: hs)
      | some .toomany, some hs => some ((.toomany, s) :: hs)
      | _, _ => none)
    else none
  | _ => none
mutual
def cS (G : CG) : Nat → Scope → Stmt → Option IS
  | 0, _, _ => none
  | n + 1, sc, s => match s with
    | .Assign [tg] e _ => match tg, e with
      | .Tuple ts _ _, .Tuple es _ _ => if ts.length = es.length && decide (es.length ≤ 1000) && (swS sc ts es).isSome then match cTgts G sc true n ts, cEs G n sc es with
        | some xs, some ys => some (.par xs ys)
        | _, _ => none
        else none
      | .Subscript (.Name x _) ix _, e => match locOf G sc x, cE G n sc ix, cE G n sc e with
        | some i, some y, some z => if isSlice ix || !(okName x) then none else some (.sti i y z)
        | _, _, _ => none
      | tg, e => match cTgt G sc true n tg, cE G n sc e with
        | some t, some x => some (.asg t x)
        | _, _ => none
    | .AugAssign (.Name x _) op e _ => match locOf G sc x, boOf op, cE G n sc e with
      | some i, some o, some y => if o = .add || o = .sub then some (.aug i o y) else none
      | _, _, _ => none
    | .Expr (.Call (.Attribute (.Name x _) m apos) [e] [] cpos) _ => match locOf G sc x with
      | some i => if isStar e || !(okName x) || apos.endLine != cpos.line then none else if m = "append" then (match e with
          | .Call (.Attribute (.Name y _) m2 apos2) [e2] [] cpos2 => if m2 = "pop" then (match locOf G sc y, cE G n sc e2 with
            | some j, some z => if isStar e2 || i == j || !(okName y) || apos2.endLine != cpos2.line then none else some (.appPop i j z)
            | _, _ => none)
            else none
          | e => (cE G n sc e).map (.app i))
        else if m = "extend" then (cE G n sc e).map (.ext i) else none
      | none => none
    | .Expr e _ => if isComp e then none else (cE G n sc e).map .ex
    | .Try [.Assign [.Name t _] e _] (c :: cs) [] [] _ => match locOf G sc t, cE G n sc e, caughtN c with
      | some i, some z, some (nm, y) => (match locOf G sc y, clO G sc nm y (c :: cs) with
        | some j, some hs => if sc.names.lookup nm == some .local && (G.N.findIdx? (· == nm)).isSome && !(nm == y) then some (.heard i z j hs) else none
        | _, _ => none)
      | _, _, _ => none
    | .If t a b _ => match cT G n sc t, cSs G n sc a, cSs G n sc b with
      | some x, some y, some z => some (.cond x y z)
      | _, _, _ => none
    | .For tg it b [] _ => match cTgt G sc true n tg, cI G n sc it, cSs G n sc b with
      | some t, some i, some y => if (!i.pairs || isTupE tg) && !isSet it then some (.forr t i y) else none
      | _, _, _ => none
    | .While t b [] _ => match cT G n sc t, cSs G n sc b with
      | some x, some y => some (.whil x y)
      | _, _ => none
    | .Return (some e) _ => (cE G n sc e).map (if isLst e then .retO else .ret)
    | .Return none _ => some .retN
    | .Raise (some (.Call (.Name x _) [] [] _)) none _ => if isGlob sc x then ((gOf G x).bind excOf).map .raise else none
    | .Break _ => some .brk
    | .Continue _ => some .cnt
    | .Pass _ => some .pass
    | _ => none
def cSs (G : CG) : Nat → Scope → List Stmt → Option (List IS)
  | 0, _, _ => none
  | _ + 1, _, [] => some []
  | n + 1, sc, s :: ss => match cS G n sc s, cSs G n sc ss with
    | some x, some xs => some (x :: xs)
    | _, _ => none
end
end R

set_option Elab.async false
set_option linter.all false
set_option maxRecDepth 100000
/-! R: what is promised, what is raised, the readings of the short language over the heap. -/
namespace R
open PySem PySem.Spec PyProof.Rows L2

def excName : XN → Str
  | .unfit => "Unfit"
  | .cannot => "CanNot"
  | .toomany => "TooMany"
  | .nothing => "NothingDone"
  | .bad _ => "BadText"
def excV (mg : Str → Option Value) (x : XN) : Value := (mg (excName x)).getD .none
/-- what a def's body lets out, at its slots -/
def RW (C : RC) (E : EX) : WX := fun cls dd σ H => ∃ x F ow p, cls = excV C.mg x ∧ dd = none ∧ Rel C F ow p [] σ H ∧ E x p.d
def HX (X : Cx) (C : RC) (E : EX) : Prop := (∀ x d, ¬ E x d) ∨ Takes X (RW C E)

/-- behind a def: the result, the draws left, the heap -/
def Ret (C : RC) (r : Slot) (d : Nat) (v : V) (H : Hp) : Prop := ((∃ x, r = .val x) ∨ ∃ xs, r = .own xs) ∧ ∃ M F ow sl σ, Rel { C with M := M } F ow ⟨sl, d⟩ [(r, v)] σ H
def Out (C : RC) (d : Nat) (H : Hp) : Prop := ∃ M F ow sl σ, Rel { C with M := M } F ow ⟨sl, d⟩ [] σ H
/-- a def's promise in the hand layer, from one over pure values -/
def spOf (K : PySem.W.Frag) (mg : Str → Option Value) (fa : Nat → Option Addr) (n : Nat) (S : PSpec) : Sp := fun vs H Q XE => vs.length = n ∧
  ∃ (cell : Option Addr) (F : Hp) (args : List PV) (d : Nat) (J : Slot → Nat → Prop) (E : EX), RVs ⟨K, mg, fa, cell, H, F, fun _ => false⟩ F args vs ∧ Same F H ∧ CellOk cell H d ∧ (∀ a, cell = some a → F a = none) ∧ S args d J E ∧
    (∀ r d' v H', Ret ⟨K, mg, fa, cell, H, F, fun _ => false⟩ r d' v H' → J r d' → Q v H') ∧ (∀ x d' H', Out ⟨K, mg, fa, cell, H, F, fun _ => false⟩ d' H' → E x d' → XE (excV mg x) none H')

/-! ### the readings, lifted -/
def NX (E : EX) : Prop := ∀ x d, ¬ E x d
def LE (hX : EX → Prop) (C : RC) (T : TP) : TE := fun σ H Qh => ∃ F ow p ts K E, Rel C F ow p ts σ H ∧ hX E ∧ T p K E ∧
  ∀ r p' v F' ow' H', Same F F' → Rel C F' ow' p' ((r, v) :: ts) σ H' → K r p' → Qh v H'
def LEs (n : Nat) (hX : EX → Prop) (C : RC) (T : PSt → (List PV → PSt → Prop) → EX → Prop) : TA := fun σ H Qh => ∃ F ow p ts K E, Rel C F ow p ts σ H ∧ hX E ∧ T p K E ∧
  ∀ xs p' vs F' ow' H', xs.length = n → Same F F' → Rel C F' ow' p' ts σ H' → RVs C F' xs vs → K xs p' → Qh vs H'
def LO (hX : EX → Prop) (C : RC) (T : PSt → (Option Int → PSt → Prop) → EX → Prop) : TO := fun σ H Qh => ∃ F ow p ts K E, Rel C F ow p ts σ H ∧ hX E ∧ T p K E ∧
  ∀ o p' F' ow' H', Same F F' → Rel C F' ow' p' ts σ H' → K o p' → Qh o H'
def LT (hX : EX → Prop) (C : RC) (T : PSt → (Bool → PSt → Prop) → EX → Prop) : TT := fun σ H Qh => ∃ F ow p ts K E, Rel C F ow p ts σ H ∧ hX E ∧ T p K E ∧
  ∀ b p' F' ow' H', Same F F' → Rel C F' ow' p' ts σ H' → K b p' → Qh b H'
/-- what a walk yields, at any frozen heap above -/
def YOk (C : RC) (F : Hp) (x : PV) (H : Hp) (v : V) (H' : Hp) : Prop := ∀ F1 ow p ts σ, Same F F1 → Rel C F1 ow p ts σ H → ∃ F2, Same F1 F2 ∧ Rel C F2 ow p ts σ H' ∧ RV C F2 x v
def WOk (C : RC) (F : Hp) (items : List PV) (J : It) : Prop := ∃ (Gh : Hp → Prop) (Y : Nat → Hp → V → Hp → Prop), Walk J items.length Gh Y ∧ (∀ F1 H, Same F F1 → Same F1 H → Gh H) ∧
  ∀ i H v H', i < items.length → Y i H v H' → ∃ x, items[i]? = some x ∧ YOk C F x H v H'
def LI (hX : EX → Prop) (C : RC) (T : PSt → (List PV → PSt → Prop) → EX → Prop) : TI := fun σ H R => ∃ F ow p ts K E, Rel C F ow p ts σ H ∧ hX E ∧ T p K E ∧
  ∀ items p' F' ow' H' J, Same F F' → Rel C F' ow' p' ts σ H' → K items p' → WOk C F' items J → R J H'

/-! ### weakening -/
theorem PE.imp {X : Cx} {e : Expr} {t t' : TE} (h : PE X e t) (k : ∀ σ H Q, t' σ H Q → t σ H Q) : PE X e t' := ⟨fun pins s σ H Q I q => h.run pins s σ H Q I (k σ H Q q)⟩
theorem PT.imp {X : Cx} {e : Expr} {t t' : TT} (h : PT X e t) (k : ∀ σ H Q, t' σ H Q → t σ H Q) : PT X e t' := ⟨fun pins s σ H Q I q => h.run pins s σ H Q I (k σ H Q q)⟩
theorem PW.imp {X : Cx} {e : Expr} {t t' : TT} (h : PW X e t) (k : ∀ σ H Q, t' σ H Q → t σ H Q) : PW X e t' := ⟨fun wh pins s σ H Q I q => h.run wh pins s σ H Q I (k σ H Q q)⟩
theorem PA.imp {X : Cx} {e : List Expr} {t t' : TA} (h : PA X e t) (k : ∀ σ H Q, t' σ H Q → t σ H Q) : PA X e t' := ⟨fun pos pins s σ H Q I q => h.run pos pins s σ H Q I (k σ H Q q)⟩
theorem PO.imp {X : Cx} {e : Option Expr} {t t' : TO} (h : PO X e t) (k : ∀ σ H Q, t' σ H Q → t σ H Q) : PO X e t' := ⟨fun pins s σ H Q I q => h.run pins s σ H Q I (k σ H Q q)⟩
theorem PI.imp {X : Cx} {tg e : Expr} {t t' : TI} (h : PI X tg e t) (k : ∀ σ H Q, t' σ H Q → t σ H Q) : PI X tg e t' := ⟨fun pins s σ H Q I q => h.run pins s σ H Q I (k σ H Q q)⟩
theorem PS.imp {X : Cx} {e : Stmt} {t t' : TS} (h : PS X e t) (k : ∀ D σ H, t' D σ H → t D σ H) : PS X e t' := ⟨fun pins s σ H Q I q => h.run pins s σ H Q I (k Q σ H q)⟩
theorem PSs.imp {X : Cx} {e : List Stmt} {t t' : TS} (h : PSs X e t) (k : ∀ D σ H, t' D σ H → t D σ H) : PSs X e t' := ⟨fun pins s σ H Q I q => h.run pins s σ H Q I (k Q σ H q)⟩

/-! ### the context of a body -/
/-- a def that may be called -/
structure Callee (X : Cx) (C : RC) (k : Nat) (f : Addr) (S : PSpec) : Prop where
  ex : ∃ fd ps, (∀ args d J E, S args d J E → args.length = ps.length) ∧ PySem.W.keepIn X.K (.ref f) = true ∧ Binds X.K fd ps [] ∧ FnOk X.prog X.w X.K X.mg X.base (L2.CX X.prog X.w) k f fd ps (spOf C.K C.mg C.fa ps.length S)
def Hd (e : XN) : Prop := e = .unfit ∨ e = .cannot ∨ e = .toomany
/-- what a clause asks of an own error -/
structure ExMore (K : PySem.W.Frag) (mg : Str → Option Value) (a : Addr) (e : XN) : Prop where
  is : ExcC K a
  ve : PySem.W.kitOne K (.ref a) (.type "ValueError") = some true
  sub : ∀ e2 b, Hd e2 → mg (excName e2) = some (.ref b) → PySem.W.exmOne K (.ref a) (.ref b) = some (decide (e = e2))
def GOk (X : Cx) (C : RC) (Γ : Nat → PSpec) (k : Nat) (x : Str) : GK → Prop
  | .fn n => ∃ f, X.mg x = some (.ref f) ∧ C.fa n = some f ∧ Callee X C k f (Γ n)
  | .cst v => ∃ u w, X.mg x = some u ∧ RelV w u ∧ ∀ F, RV C F v w
  | .exc e => x = excName e ∧ ∃ (a : Addr) (bmB : List Value) (B newId initId : String), X.mg x = some (.ref a) ∧ ExcBaseFacts B newId initId bmB ∧ PySem.W.excIn X.K a bmB newId = true ∧ PySem.W.keepIn X.K (.ref a) = true ∧ Raises X (.ref a) ∧ (Hd e → ExMore X.K X.mg a e)
def bltNames : List Str := ["len", "abs", "sum", "max", "min", "int", "list", "tuple", "sorted", "all", "any", "isinstance", "bool", "str", "range", "enumerate", "zip", "ValueError"]
structure Cn (X : Cx) (C : RC) (G : CG) (Γ : Nat → PSpec) (k : Nat) (sc : Scope) : Prop where
  K : X.K = C.K
  mg : X.mg = C.mg
  N : X.N = G.N
  nd : G.N.Nodup
  scp : X.env.scope = sc
  calm : X.calm = true
  room : Room k X.A
  glob : ∀ x g, gOf G x = some g → GOk X C Γ k x g
  blt : ∀ x ∈ bltNames, gOf G x = none → X.mg x = none
  M : C.M = muOf G
  held : G.hv = true → ∀ n f, C.fa n = some f → Callee X C k f (Γ n)

section
variable {X : Cx} {C : RC} {G : CG} {Γ : Nat → PSpec} {k : Nat} {sc : Scope}
theorem findIdx_get {N : List Str} {x : Str} {i : Nat} (h : N.findIdx? (· == x) = some i) : N[i]? = some x := by
  obtain ⟨hi, h1, _⟩ := List.findIdx?_eq_some_iff_getElem.mp h
  rw [List.getElem?_eq_getElem hi]
  exact congrArg some (eq_of_beq h1)
theorem Cn.slot (c : Cn X C G Γ k sc) {x : Str} {i : Nat} (h : slotOf G sc x = some i) : X.N[i]? = some x ∧ Vis X.env.scope x := by
  unfold slotOf at h
  rw [c.N, c.scp]
  split at h
  rotate_left
  · cases h
  split at h
  · rename_i e; exact ⟨findIdx_get h, .inl e⟩
  · rename_i e; exact ⟨findIdx_get h, .inr (.inl e)⟩
  · rename_i e; exact ⟨findIdx_get h, .inr (.inr e)⟩
  · cases h
theorem isGlob_gl (c : Cn X C G Γ k sc) {x : Str} (h : isGlob sc x = true) : Gl X x := by
  unfold isGlob at h
  have h2 : sc.names.lookup x = some .globalImplicit := eq_of_beq (Bool.and_eq_true_iff.mp h).2
  show X.env.scope.names.lookup x = some .globalImplicit
  rw [c.scp]
  exact h2
theorem okName_of {x : Str} (h : okName x = true) : (x == ("__debug__" : Str)) = false ∧ (x == ("__classdict__" : Str)) = false ∧ x ≠ "__name__" := by
  unfold okName at h
  simp only [Bool.and_eq_true, Bool.not_eq_true'] at h
  exact ⟨h.1.1, h.1.2, by
    intro e
    rw [e] at h
    simp at h⟩
theorem slot_ok {x : Str} {i : Nat} (h : slotOf G sc x = some i) : okName x = true := by
  unfold slotOf at h
  split at h
  · assumption
  · cases h
theorem glob_ok {x : Str} (h : isGlob sc x = true) : okName x = true := (Bool.and_eq_true_iff.mp h).1
theorem pe_slot (c : Cn X C G Γ k sc) {x : Str} {i : Nat} {pos : Pos} (h : slotOf G sc x = some i) : PE X (.Name x pos) (tVar i) :=
  pe_var (c.slot h).1 (c.slot h).2 (okName_of (slot_ok h)).1 (okName_of (slot_ok h)).2.1
end
end R

set_option Elab.async false
set_option linter.all false
set_option maxRecDepth 100000
/-! R: each operation over values that stand in the heap. -/
namespace R
open PySem PySem.Spec PyProof.Rows L2

theorem OpR.alt {X : Cx} {f : Value → Value → Sem Value} {r r' : R2} (h : OpR X f r) (h' : OpR X f r') : OpR X f (fun x y H Q => r x y H Q ∨ r' x y H Q) := by
  intro pins s σ H x y v u Q I rx ry q
  rcases q with q | q
  · exact h pins s σ H x y v u Q I rx ry q
  · exact h' pins s σ H x y v u Q I rx ry q
theorem line_eq : sizeLine = 16777216 := sizeLine_eq
def oBO : BO → Operator
  | .add => .Add | .sub => .Sub | .mul => .Mult | .fdiv => .FloorDiv | .mod => .Mod | .pow => .Pow
theorem boOf_eq {o : Operator} {b : BO} (h : boOf o = some b) : o = oBO b := by
  cases o <;> cases h <;> rfl

section
variable {X : Cx}
def rAddStr : R2 := fun x y H Q => ∃ i j, x = .str i ∧ y = .str j ∧ i.length + j.length ≤ sizeLine ∧ Q (.str (i ++ j)) H
theorem op_fdivP : OpR X (binaryOp .FloorDiv) (rI (fun i j => j ≠ 0 ∧ DivOk i j) fun i j => .int (i.fdiv j)) := opI fun _ _ _ _ _ _ _ hc q => floordiv_int hc.1 q (.inl hc.2)
theorem op_mulP : OpR X (binaryOp .Mult) (rI MulOk fun i j => .int (i * j)) := opI fun _ _ _ _ _ _ _ hc q => mul_int q hc
def rBO (K : PySem.W.Frag) : BO → R2
  | .add => fun x y H Q => ((rI0 fun i j => .int (i + j)) x y H Q ∨ rAddStr x y H Q) ∨ (rCat x y H Q ∨ rCatA K x y H Q)
  | .sub => rI0 fun i j => .int (i - j)
  | .mul => fun x y H Q => rI MulOk (fun i j => .int (i * j)) x y H Q ∨ rRep x y H Q
  | .fdiv => rI (fun i j => j ≠ 0 ∧ DivOk i j) fun i j => .int (i.fdiv j)
  | .mod => rI (fun _ j => j ≠ 0) fun i j => .int (i.fmod j)
  | .pow => rI CPow fun i j => .int (i ^ j.toNat)
theorem op_BO : ∀ b : BO, OpR X (binaryOp (oBO b)) (rBO X.K b)
  | .add => OpR.alt (OpR.alt op_add op_add_str) (OpR.alt op_cat op_catA)
  | .sub => op_sub
  | .mul => OpR.alt op_mulP op_rep
  | .fdiv => op_fdivP
  | .mod => op_modN
  | .pow => op_pow
end

section
variable {C : RC} {F : Hp} {ow : Addr → Option Id} {p : PSt} {ts : List (Slot × V)} {σ : L2.St} {H : Hp} {v w : V} {Qh : VK} {Kq : Slot → Prop}
/-- what is wanted of an operation's result -/
def Post (C : RC) (F : Hp) (p : PSt) (ts : List (Slot × V)) (σ : L2.St) (K : Slot → Prop) (Qh : VK) : Prop :=
  ∀ r v F' ow' H', Same F F' → Rel C F' ow' p ((r, v) :: ts) σ H' → K r → Qh v H'
theorem Post.val (P : Post C F p ts σ Kq Qh) (R : Rel C F ow p ts σ H) {x : PV} (h : RV C F x v) (k : Kq (.val x)) : Qh v H := P _ _ _ _ _ (.refl F) (R.push h) k
theorem Post.int (P : Post C F p ts σ Kq Qh) (R : Rel C F ow p ts σ H) {i : Int} (k : Kq (.val (.int i))) : Qh (.int i) H := P.val R (x := .int i) rfl k
theorem Post.str (P : Post C F p ts σ Kq Qh) (R : Rel C F ow p ts σ H) {i : Str} (k : Kq (.val (.str i))) : Qh (.str i) H := P.val R (x := .str i) rfl k
theorem Post.bl (P : Post C F p ts σ Kq Qh) (R : Rel C F ow p ts σ H) {i : Bool} (k : Kq (.val (.bl i))) : Qh (.bl i) H := P.val R (x := .bl i) rfl k
theorem Post.tup (P : Post C F p ts σ Kq Qh) (R : Rel C F ow p ts σ H) {xs : List PV} {vs : List V} (h : RVs C F xs vs) (k : Kq (.val (.tup xs))) {a : Addr} (ha : H a = none) : Qh (.ref a) (upd H a (.tup vs)) := by
  obtain ⟨s1, R1⟩ := R.laid (o := .tup vs) ha
  exact P _ _ _ _ _ s1 (R1.push (x := .tup xs) ⟨a, vs, rfl, SqT.of upd_same, h.mono (.refl C) s1⟩) k
theorem Post.lst (P : Post C F p ts σ Kq Qh) (R : Rel C F ow p ts σ H) {xs : List PV} {vs : List V} (h : RVs C F xs vs) (k : Kq (.own xs)) {a : Addr} (ha : H a = none) : Qh (.ref a) (upd H a (.lst vs)) :=
  P _ _ _ _ _ (.refl F) (R.pushNew ha h) k
theorem Lk.int {i : Int} (h : Lk C F H (.int i) v) : v = .int i := h.rv (by intro xs; exact fun q => nomatch q)
theorem Lk.bl {i : Bool} (h : Lk C F H (.bl i) v) : v = .bl i := h.rv (by intro xs; exact fun q => nomatch q)
theorem Lk.str {i : Str} (h : Lk C F H (.str i) v) : v = .str i := h.rv (by intro xs; exact fun q => nomatch q)
theorem Lk.tupAt {xs : List PV} (h : Lk C F H (.tup xs) v) : ∃ a vs, v = .ref a ∧ SqT C.K F a vs ∧ RVs C F xs vs := h.rv (by intro xs; exact fun q => nomatch q)
theorem Lk.roAt {xs : List PV} (h : Lk C F H (.ro xs) v) : ∃ a vs, v = .ref a ∧ SqL C.K F a vs ∧ RVs C F xs vs := h.rv (by intro xs; exact fun q => nomatch q)

theorem bin_ok {b : BO} {x y : PV} (R : Rel C F ow p ts σ H) (lx : Lk C F H x v) (ly : Lk C F H y w) (h : binP b x y Kq) (P : Post C F p ts σ Kq Qh) : rBO C.K b v w H Qh := by
  have hz := line_eq
  unfold binP at h
  split at h
  · rw [lx.int, ly.int]
    exact .inl (.inl ⟨_, _, rfl, rfl, P.int R h⟩)
  · rw [lx.str, ly.str]
    exact .inl (.inr ⟨_, _, rfl, rfl, by rw [hz]; exact h.1, P.str R h.2⟩)
  · obtain ⟨a, vs, rfl, h1, h2⟩ := lx.lstAt R.fh
    obtain ⟨c, ws, rfl, g1, g2⟩ := ly.lstAt R.fh
    refine .inr (.inl ⟨_, _, _, _, rfl, rfl, h1, g1, by rw [hz, ← h2.length, ← g2.length]; exact h.1, fun q hq => P.lst R (h2.append g2) h.2 hq⟩)
  · obtain ⟨a, vs, rfl, h1, h2⟩ := lx.tupAt
    obtain ⟨c, ws, rfl, g1, g2⟩ := ly.tupAt
    refine .inr (.inr ⟨_, _, _, _, rfl, rfl, Same.tseq R.fh h1, Same.tseq R.fh g1, by rw [hz, ← h2.length, ← g2.length]; exact h.1, fun e => ?_, fun _ e => ?_, fun _ _ q hq => P.tup R (h2.append g2) h.2 hq⟩)
    · have e1 := h2.nil_iff.mpr e
      subst e1
      exact P.val R (x := .tup ([] ++ _)) (by rw [List.nil_append]; exact ⟨c, ws, rfl, g1, g2⟩) h.2
    · have e1 := g2.nil_iff.mpr e
      subst e1
      exact P.val R (x := .tup (_ ++ [])) (by rw [List.append_nil]; exact ⟨a, vs, rfl, h1, h2⟩) h.2
  · rw [lx.int, ly.int]
    exact ⟨_, _, rfl, rfl, P.int R h⟩
  · rw [lx.int, ly.int]
    exact .inl ⟨_, _, rfl, rfl, h.1, P.int R h.2⟩
  · obtain ⟨a, vs, rfl, h1, h2⟩ := lx.lstAt R.fh
    rw [ly.int]
    obtain ⟨h3, h4, h5⟩ := h
    exact .inr ⟨_, _, _, rfl, rfl, h1, by omega, by omega, by rw [hz, ← h2.length]; exact h3, fun q hq => P.lst R (h2.rep _) h5 hq⟩
  · rw [lx.int, ly.int]
    exact ⟨_, _, rfl, rfl, ⟨h.1, h.2.1⟩, P.int R h.2.2⟩
  · rw [lx.int, ly.int]
    exact ⟨_, _, rfl, rfl, h.1, P.int R h.2⟩
  · rw [lx.int, ly.int]
    exact ⟨_, _, rfl, rfl, ⟨h.1, h.2.1, h.2.2.1⟩, P.int R h.2.2.2⟩
  · exact h.elim

/-! ### comparisons -/
mutual
def toD : PV → PyData
  | .bl b => .bool b
  | .int i => .int i
  | .str x => .str x
  | .tup xs => .tuple (toDs xs)
  | .lst xs => .list (toDs xs)
  | _ => .none
def toDs : List PV → List PyData
  | [] => []
  | x :: xs => toD x :: toDs xs
end
mutual
theorem eqv_toD : ∀ (x y : PV), isData x = true → isData y = true → PyData.eqv (toD x) (toD y) = pyEq x y
  | .non, y, _, hy => by cases y <;> simp_all [toD, pyEq, PyData.eqv, isData]
  | .bl b, y, _, hy => by cases y <;> simp_all [toD, pyEq, PyData.eqv, isData]
  | .int b, y, _, hy => by cases y <;> simp_all [toD, pyEq, PyData.eqv, isData]
  | .str b, y, _, hy => by cases y <;> simp_all [toD, pyEq, PyData.eqv, isData]
  | .tup xs, y, hx, hy => by
    cases y with
    | tup ys => simpa [toD, pyEq, PyData.eqv] using eqv_toDs xs ys (by simpa [isData] using hx) (by simpa [isData] using hy)
    | _ => simp_all [toD, pyEq, PyData.eqv, isData]
  | .lst xs, y, hx, hy => by
    cases y with
    | lst ys => simpa [toD, pyEq, PyData.eqv] using eqv_toDs xs ys (by simpa [isData] using hx) (by simpa [isData] using hy)
    | _ => simp_all [toD, pyEq, PyData.eqv, isData]
  | .ty _, _, hx, _ => by simp [isData] at hx
  | .ro _, _, hx, _ => by simp [isData] at hx
  | .fn _, _, hx, _ => by simp [isData] at hx
  | .cell, _, hx, _ => by simp [isData] at hx
theorem eqv_toDs : ∀ (xs ys : List PV), areData xs = true → areData ys = true → PyData.eqvAll (toDs xs) (toDs ys) = pyEqs xs ys
  | [], ys, _, _ => by cases ys <;> simp [toDs, PyData.eqvAll, pyEqs]
  | x :: xs, ys, hx, hy => by
    cases ys with
    | nil => simp [toDs, PyData.eqvAll, pyEqs]
    | cons y ys =>
      simp only [areData, Bool.and_eq_true] at hx hy
      simp only [toDs, PyData.eqvAll, pyEqs, eqv_toD x y hx.1 hy.1, eqv_toDs xs ys hx.2 hy.2]
end
mutual
theorem toD_lay : ∀ (x : PV), isData x = true → (toD x).canLay0 = true
  | .non, _ => by simp [toD, PyData.canLay0]
  | .bl _, _ => by simp [toD, PyData.canLay0]
  | .int _, _ => by simp [toD, PyData.canLay0]
  | .str _, h => by simpa [toD, PyData.canLay0, isData] using h
  | .tup xs, h => by simpa [toD, PyData.canLay0] using toDs_lay xs (by simpa [isData] using h)
  | .lst xs, h => by simpa [toD, PyData.canLay0] using toDs_lay xs (by simpa [isData] using h)
  | .ty _, h => by simp [isData] at h
  | .ro _, h => by simp [isData] at h
  | .fn _, h => by simp [isData] at h
  | .cell, h => by simp [isData] at h
theorem toDs_lay : ∀ (xs : List PV), areData xs = true → PyData.canLayAll0 (toDs xs) = true
  | [], _ => by simp [toDs, PyData.canLayAll0]
  | x :: xs, h => by
    simp only [areData, Bool.and_eq_true] at h
    simp [toDs, PyData.canLayAll0, toD_lay x h.1, toDs_lay xs h.2]
end
mutual
theorem toD_depth : ∀ (x : PV), (toD x).depth ≤ deep x + 1
  | .non => by simp [toD, PyData.depth]
  | .bl _ => by simp [toD, PyData.depth]
  | .int _ => by simp [toD, PyData.depth]
  | .str _ => by simp [toD, PyData.depth]
  | .tup xs => by have := toDs_depth xs; simp [toD, PyData.depth, deep]; omega
  | .lst xs => by have := toDs_depth xs; simp [toD, PyData.depth, deep]; omega
  | .ty _ => by simp [toD, PyData.depth]
  | .ro _ => by simp [toD, PyData.depth]
  | .fn _ => by simp [toD, PyData.depth]
  | .cell => by simp [toD, PyData.depth]
theorem toDs_depth : ∀ (xs : List PV), PyData.depthAll (toDs xs) ≤ deeps xs + 1
  | [] => by simp [toDs, PyData.depthAll]
  | x :: xs => by have := toD_depth x; have := toDs_depth xs; simp [toDs, PyData.depthAll, deeps]; omega
end
theorem shaped_of {x : PV} (h : dataOk x) : SeqAt.shaped (toD x) = true := by
  have := toD_depth x
  have := h.2
  exact Bool.and_eq_true_iff.mpr ⟨toD_lay x h.1, decide_eq_true (by omega)⟩
mutual
theorem dp_of (K : PySem.W.Frag) (hK : C.K = K) (hs : Same F H) : ∀ (x : PV) (v : V), isData x = true → RV C F x v → Dp K H v (toD x)
  | .non, v, _, h => by rw [show v = .non from h]; exact .non
  | .bl b, v, _, h => by rw [show v = .bl b from h]; exact .bl b
  | .int b, v, _, h => by rw [show v = .int b from h]; exact .int b
  | .str b, v, _, h => by rw [show v = .str b from h]; exact .str b
  | .tup xs, v, hd, h => by
    obtain ⟨a, vs, rfl, h1, h2⟩ := h
    exact .tup (by rw [← hK]; exact Same.tseq hs h1) (dps_of K hK hs xs vs (by simpa [isData] using hd) h2)
  | .lst xs, v, hd, h => by
    obtain ⟨a, vs, rfl, h1, h2⟩ := h
    exact .lst (SqL.of (hs _ _ h1)) (dps_of K hK hs xs vs (by simpa [isData] using hd) h2)
  | .ty _, _, hd, _ => by simp [isData] at hd
  | .ro _, _, hd, _ => by simp [isData] at hd
  | .fn _, _, hd, _ => by simp [isData] at hd
  | .cell, _, hd, _ => by simp [isData] at hd
theorem dps_of (K : PySem.W.Frag) (hK : C.K = K) (hs : Same F H) : ∀ (xs : List PV) (vs : List V), areData xs = true → RVs C F xs vs → DpAll K H vs (toDs xs)
  | [], vs, _, h => by rw [show vs = [] from h]; exact .nil
  | x :: xs, vs, hd, h => by
    obtain ⟨v, r, rfl, h1, h2⟩ := h
    simp only [areData, Bool.and_eq_true] at hd
    exact .cons (dp_of K hK hs x v hd.1 h1) (dps_of K hK hs xs r hd.2 h2)
end
theorem Lk.dp {x : PV} (hs : Same F H) (h : Lk C F H x v) (hd : isData x = true) : Dp C.K H v (toD x) := by
  cases h with
  | val h => exact dp_of C.K rfl hs x v hd h
  | lst h1 h2 => exact .lst (SqL.of h1) (dps_of C.K rfl hs _ _ (by simpa [isData] using hd) h2)
end

def oCO : CO → CmpOp
  | .eq => .Eq | .ne => .NotEq | .lt => .Lt | .le => .LtE | .gt => .Gt | .ge => .GtE | .isN => .Is | .notN => .IsNot | .inn => .In | .notin => .NotIn
theorem coOf_eq (o : CmpOp) : o = oCO (coOf o) := by cases o <;> rfl

section
variable {X : Cx}
theorem room_mem {A : Around} {d : PyData} {ds : List PyData} (hd : SeqAt.shaped d = true) (hu : A.units + 66 < cLine) : A.units + 1 + min (PyData.depthAll ds) d.depth < cLine := by
  have h1 := SeqAt.depth_of_shaped hd
  have h2 : min (PyData.depthAll ds) d.depth ≤ d.depth := Nat.min_le_right _ _
  omega
def rMem (K : PySem.W.Frag) (neg : Bool) : R2 := fun x y H Q => ∃ d ds, Dp K H x d ∧ (Dp K H y (.list ds) ∨ Dp K H y (.tuple ds)) ∧ SeqAt.shaped d = true ∧ PyData.canLayAll0 ds = true ∧
  Q (.bl (if neg then !(ds.any fun z => PyData.eqv z d) else (ds.any fun z => PyData.eqv z d))) H
theorem op_mem (hu : X.A.units + 66 < cLine) : OpR X (compareOp .In) (rMem X.K false) := by
  intro pins s σ H x y v u Q I rx ry ⟨d, ds, hd, he, sd, se, q⟩
  obtain ⟨as, r1⟩ := Dp.reads I d x v hd rx
  rcases he with he | he
  · obtain ⟨bs, r2⟩ := Dp.reads I (.list ds) y u he ry
    exact SeqAt.in_list_reads r2 r1 se (SeqAt.canLay_of_shaped sd) (room_mem sd hu) ⟨.bl _, H, I, rfl, q⟩
  · obtain ⟨bs, r2⟩ := Dp.reads I (.tuple ds) y u he ry
    exact SeqAt.in_tuple_reads r2 r1 se (SeqAt.canLay_of_shaped sd) (room_mem sd hu) ⟨.bl _, H, I, rfl, q⟩
theorem op_nmem (hu : X.A.units + 66 < cLine) : OpR X (compareOp .NotIn) (rMem X.K true) := by
  intro pins s σ H x y v u Q I rx ry ⟨d, ds, hd, he, sd, se, q⟩
  obtain ⟨as, r1⟩ := Dp.reads I d x v hd rx
  rcases he with he | he
  · obtain ⟨bs, r2⟩ := Dp.reads I (.list ds) y u he ry
    exact SeqAt.notIn_list_reads r2 r1 se (SeqAt.canLay_of_shaped sd) (room_mem sd hu) ⟨.bl _, H, I, rfl, q⟩
  · obtain ⟨bs, r2⟩ := Dp.reads I (.tuple ds) y u he ry
    exact SeqAt.notIn_tuple_reads r2 r1 se (SeqAt.canLay_of_shaped sd) (room_mem sd hu) ⟨.bl _, H, I, rfl, q⟩
theorem op_eqI : OpR X (compareOp .Eq) (rI0 fun i j => .bl (decide (i = j))) := opB0 fun _ _ _ _ _ _ _ q => eq_int (by rw [Bool.beq_eq_decide_eq]; exact q)
theorem op_neI : OpR X (compareOp .NotEq) (rI0 fun i j => .bl (!decide (i = j))) := opB0 fun _ _ _ _ _ _ _ q => ne_int (by rw [bne, Bool.beq_eq_decide_eq]; exact q)
def rCO (K : PySem.W.Frag) : CO → R2
  | .eq => fun x y H Q => (rI0 fun i j => .bl (decide (i = j))) x y H Q ∨ rEqD K x y H Q
  | .ne => fun x y H Q => (rI0 fun i j => .bl (!decide (i = j))) x y H Q ∨ rNeD K x y H Q
  | .lt => rI0 fun i j => .bl (decide (i < j))
  | .le => rI0 fun i j => .bl (decide (i ≤ j))
  | .gt => rI0 fun i j => .bl (decide (j < i))
  | .ge => rI0 fun i j => .bl (decide (j ≤ i))
  | .isN => fun x y H Q => y = .non ∧ Q (.bl (decide (x = .non))) H
  | .notN => fun x y H Q => y = .non ∧ Q (.bl (!decide (x = .non))) H
  | .inn => rMem K false
  | .notin => rMem K true
theorem op_CO (hu : X.A.units + 66 < cLine) : ∀ c : CO, OpR X (compareOp (oCO c)) (rCO X.K c)
  | .eq => OpR.alt op_eqI (op_eqD (by omega))
  | .ne => OpR.alt op_neI (op_neD (by omega))
  | .lt => op_lt
  | .le => op_le
  | .gt => op_gt
  | .ge => op_ge
  | .isN => op_isN
  | .notN => op_notN
  | .inn => op_mem hu
  | .notin => op_nmem hu
end
section
variable {C : RC} {F : Hp} {ow : Addr → Option Id} {p : PSt} {ts : List (Slot × V)} {σ : L2.St} {H : Hp} {v w : V} {Qh : VK}
theorem RV.non_iff {x : PV} (h : RV C F x v) : decide (v = V.non) = decide (x = PV.non) := by
  cases x with
  | non => rw [show v = .non from h]; simp
  | bl b => rw [show v = .bl b from h]; simp
  | int b => rw [show v = .int b from h]; simp
  | str b => rw [show v = .str b from h]; simp
  | ty b => rw [show v = .ty b from h]; simp
  | tup xs => obtain ⟨a, vs, rfl, _⟩ := h; simp
  | lst xs => obtain ⟨a, vs, rfl, _⟩ := h; simp
  | ro xs => obtain ⟨a, vs, rfl, _⟩ := h; simp
  | fn k => obtain ⟨a, rfl, _⟩ := h; simp
  | cell => obtain ⟨a, rfl, _⟩ := h; simp
theorem Lk.non_iff {x : PV} (h : Lk C F H x v) : decide (v = V.non) = decide (x = PV.non) := by
  cases h with
  | val h => exact h.non_iff
  | lst _ _ => simp
theorem dataOk_tup {ys : List PV} (h : dataOk (.tup ys)) : areData ys = true := by simpa [isData] using h.1
theorem dataOk_lst {ys : List PV} (h : dataOk (.lst ys)) : areData ys = true := by simpa [isData] using h.1
theorem any_toDs {x : PV} (hx : isData x = true) : ∀ {ys : List PV}, areData ys = true → ((toDs ys).any fun z => PyData.eqv z (toD x)) = ys.any fun y => pyEq y x
  | [], _ => by simp [toDs]
  | y :: ys, h => by
    simp only [areData, Bool.and_eq_true] at h
    simp [toDs, eqv_toD y x h.1 hx, any_toDs hx h.2]
theorem cmp_ok {c : CO} {x y : PV} {Kb : Bool → Prop} (hs : Same F H) (lx : Lk C F H x v) (ly : Lk C F H y w) (h : cmpP c x y Kb) (P : ∀ b, Kb b → Qh (.bl b) H) : rCO C.K c v w H Qh := by
  unfold cmpP at h
  split at h
  · rw [lx.int, ly.int]; exact .inl ⟨_, _, rfl, rfl, P _ h⟩
  · rw [lx.int, ly.int]; exact .inl ⟨_, _, rfl, rfl, P _ h⟩
  · obtain ⟨h1, h2, h3⟩ := h
    exact .inr ⟨_, _, lx.dp hs h1.1, ly.dp hs h2.1, shaped_of h1, shaped_of h2, by rw [eqv_toD _ _ h1.1 h2.1]; exact P _ h3⟩
  · obtain ⟨h1, h2, h3⟩ := h
    exact .inr ⟨_, _, lx.dp hs h1.1, ly.dp hs h2.1, shaped_of h1, shaped_of h2, by rw [eqv_toD _ _ h1.1 h2.1]; exact P _ h3⟩
  · rw [lx.int, ly.int]; exact ⟨_, _, rfl, rfl, P _ h⟩
  · rw [lx.int, ly.int]; exact ⟨_, _, rfl, rfl, P _ h⟩
  · rw [lx.int, ly.int]; exact ⟨_, _, rfl, rfl, P _ h⟩
  · rw [lx.int, ly.int]; exact ⟨_, _, rfl, rfl, P _ h⟩
  · exact ⟨ly.rv (by intro xs; exact fun q => nomatch q), by rw [lx.non_iff]; exact P _ h⟩
  · exact ⟨ly.rv (by intro xs; exact fun q => nomatch q), by rw [lx.non_iff]; exact P _ h⟩
  · obtain ⟨h1, h2, h3⟩ := h
    exact ⟨_, _, lx.dp hs h1.1, .inr (ly.dp hs h2.1), shaped_of h1, toDs_lay _ (dataOk_tup h2), by rw [if_neg (by decide), any_toDs h1.1 (dataOk_tup h2)]; exact P _ h3⟩
  · obtain ⟨h1, h2, h3⟩ := h
    exact ⟨_, _, lx.dp hs h1.1, .inl (ly.dp hs h2.1), shaped_of h1, toDs_lay _ (dataOk_lst h2), by rw [if_neg (by decide), any_toDs h1.1 (dataOk_lst h2)]; exact P _ h3⟩
  · obtain ⟨h1, h2, h3⟩ := h
    exact ⟨_, _, lx.dp hs h1.1, .inr (ly.dp hs h2.1), shaped_of h1, toDs_lay _ (dataOk_tup h2), by rw [if_pos rfl, any_toDs h1.1 (dataOk_tup h2)]; exact P _ h3⟩
  · obtain ⟨h1, h2, h3⟩ := h
    exact ⟨_, _, lx.dp hs h1.1, .inl (ly.dp hs h2.1), shaped_of h1, toDs_lay _ (dataOk_lst h2), by rw [if_pos rfl, any_toDs h1.1 (dataOk_lst h2)]; exact P _ h3⟩
  · exact h.elim

/-! ### truth, subscripts, slices -/
theorem tru_val {x : PV} {Kb : Bool → Prop} (hs : Same F H) (lx : Lk C F H x v) (h : truP x Kb) : ∃ b, TruV C.K v H b ∧ Kb b := by
  unfold truP at h
  split at h
  rotate_left
  · exact h.elim
  rename_i k e
  refine ⟨k, ?_, h⟩
  cases x with
  | non =>
    rw [show v = .non from lx.rv (by intro xs; exact fun q => nomatch q)]
    exact (Option.some.inj e).symm
  | bl b =>
    rw [lx.bl]
    exact (Option.some.inj e).symm
  | int b =>
    rw [lx.int]
    exact (Option.some.inj e).symm
  | str b => simp [tru] at e
  | ty b => simp [tru] at e
  | tup xs =>
    obtain ⟨a, vs, rfl, h1, h2⟩ := lx.tupAt
    refine .inr (.inl ⟨vs, Same.tseq hs h1, ?_⟩)
    have := h2.length
    simp only [tru, Option.some.injEq] at e
    rw [← e]
    cases xs <;> cases vs <;> simp_all
  | lst xs =>
    obtain ⟨a, vs, rfl, h1, h2⟩ := lx.lstAt hs
    refine .inl ⟨vs, SqL.of h1, ?_⟩
    have := h2.length
    simp only [tru, Option.some.injEq] at e
    rw [← e]
    cases xs <;> cases vs <;> simp_all
  | ro xs => simp [tru] at e
  | fn k => simp [tru] at e
  | cell => simp [tru] at e
theorem atI_rv {xs : List PV} {vs : List V} {i : Int} {x : PV} (h : RVs C F xs vs) (e : atI xs i = some x) : ∃ v, atI vs i = some v ∧ RV C F x v := by
  unfold atI at e ⊢
  rw [← h.length]
  cases q : ixN xs.length i with
  | none => rw [q] at e; cases e
  | some j =>
    rw [q] at e
    exact h.get e
theorem sub_ok {x y : PV} {Kq : PV → Prop} (hs : Same F H) (lx : Lk C F H x v) (ly : Lk C F H y w) (h : subP x y Kq) (P : ∀ z u, RV C F z u → Kq z → Qh u H) : rIx C.K v w H Qh := by
  unfold subP at h
  split at h
  · obtain ⟨z, e, h⟩ := h
    obtain ⟨a, vs, rfl, h1, h2⟩ := lx.lstAt hs
    obtain ⟨u, e2, h3⟩ := atI_rv h2 e
    rw [ly.int]
    exact .inl ⟨_, _, _, _, rfl, rfl, SqL.of h1, e2, P _ _ h3 h⟩
  · obtain ⟨z, e, h⟩ := h
    obtain ⟨a, vs, rfl, h1, h2⟩ := lx.tupAt
    obtain ⟨u, e2, h3⟩ := atI_rv h2 e
    rw [ly.int]
    exact .inr (.inl ⟨_, _, _, _, rfl, rfl, Same.tseq hs h1, e2, P _ _ h3 h⟩)
  · obtain ⟨z, e, h⟩ := h
    obtain ⟨a, vs, rfl, h1, h2⟩ := lx.roAt
    obtain ⟨u, e2, h3⟩ := atI_rv h2 e
    rw [ly.int]
    exact .inl ⟨_, _, _, _, rfl, rfl, Same.seq hs h1, e2, P _ _ h3 h⟩
  · exact h.elim
def rSlc (K : PySem.W.Frag) : V → Option Int → Option Int → Hp → VK → Prop := fun x lo hi H Q => rSlL K x lo hi H Q ∨ rSlA K x lo hi H Q
theorem sl_any {X : Cx} : SlR X (rSlc X.K) := SlR.or sl_list sl_tupA
theorem slc_ok {x : PV} {lo hi : Option Int} {Kq : Slot → Prop} (R : Rel C F ow p ts σ H) (lx : Lk C F H x v) (h : slcP x lo hi Kq) (P : Post C F p ts σ Kq Qh) : rSlc C.K v lo hi H Qh := by
  unfold slcP at h
  split at h
  · obtain ⟨a, vs, rfl, h1, h2⟩ := lx.lstAt R.fh
    exact .inl ⟨_, _, rfl, SqL.of h1, fun q hq => P.lst R (h2.cut _ _) h hq⟩
  · obtain ⟨a, vs, rfl, h1, h2⟩ := lx.roAt
    exact .inl ⟨_, _, rfl, Same.seq R.fh h1, fun q hq => P.lst R (h2.cut _ _) h hq⟩
  · obtain ⟨a, vs, rfl, h1, h2⟩ := lx.tupAt
    refine .inr ⟨_, _, rfl, Same.tseq R.fh h1, fun e => ?_, fun _ q hq => P.tup R (h2.cut _ _) h hq⟩
    rename_i xs
    have ec : cutP xs lo hi = xs := by
      unfold cutP
      rw [h2.length, e.1, e.2, List.drop_zero, Nat.sub_zero, ← h2.length, List.take_length]
    exact P.val R (x := .tup (cutP xs lo hi)) (by rw [ec]; exact ⟨a, vs, rfl, h1, h2⟩) h
  · exact h.elim
end
end R

set_option Elab.async false
set_option linter.all false
set_option maxRecDepth 100000
/-! R: the built-ins. -/
namespace R
open PySem PySem.Spec PyProof.Rows L2

section
variable {prog : Program} {w : World} {A : Around} {E : Value → Shared → Prop} {s : Shared}
/-- max of a tuple of ints -/
theorem max_tup {t : Addr} {its : List Value} {ns : List Int} {Q : Value → Shared → Prop} (hh : A.handled = none) (ht : IsTup s.heap t its.toArray) (hi : IntsAre its ns) (hne : 0 < ns.length)
    (h : ∀ h' tk M t', (∀ b o, s.heap.get? b = some o → h'.get? b = some o) → M ∈ ns → (∀ a, a ∈ ns → a ≤ M) → Q (.int M t') { s with heap := h', toks := tk }) : wpAny (model prog w) A (call (.builtin "max") [.ref t]) Q E s := by
  obtain ⟨xs, e⟩ := hi.allInts.items
  have hn : numsOf (intItems xs).toList = ns := by rw [← e]; exact hi.numsOf
  rw [nums_intItems] at hn
  subst hn
  rw [e] at ht
  have hsz : 0 < xs.size := by simpa using hne
  have hlt : t < s.heap.objs.size := ht.lt
  have htt : s.heap.IsTuple t (intItems xs) := ht
  refine call_max_walk (wpAny_pyIter_tuple htt ?_)
  refine ⟨s.heap.objs.size, [s.heap.objs.size, t], [s.heap.objs.size], (intItems xs).size, _, _, _, rfl, Walks.tuple (A := A.in1) hh _ t (Nat.ne_of_lt hlt) (intItems xs), ⟨⟨_, Heap.get?_push_size _ rfl, rfl, rfl⟩, htt.push _⟩, fun b hb => ?_, by simpa [intItems] using hsz,
    CmpOf.ints_gt (numAt xs) (fun _ _ => intItems_at), fun v h' tk hv hk => ?_⟩
  · show b < (s.heap.push _).objs.size
    rw [Heap.size_push]
    rcases List.mem_cons.mp hb with z | hb
    · rw [z]; exact Nat.lt_succ_self _
    · rw [List.mem_singleton.mp hb]; exact Nat.lt_succ_of_lt hlt
  · obtain ⟨t', rfl⟩ := intItems_at hv
    obtain ⟨h1, h2⟩ := argBest_gt (numAt xs) (xs.size - 1)
    have esz : (intItems xs).size = xs.size := by simp [intItems]
    rw [esz]
    refine h h' tk _ t' (fun b o eb => hk b o (fun hm => ?_) (Heap.get?_push_of_some _ eb)) ?_ fun a ha => ?_
    · rw [List.mem_singleton.mp hm] at eb
      exact absurd (Heap.lt_size eb) (Nat.lt_irrefl _)
    · rw [numAt_eq]; exact PySem.getD_mem (by rw [List.length_map, Array.length_toList]; omega)
    · obtain ⟨j, hj, rfl⟩ := mem_getD ha
      rw [List.length_map, Array.length_toList] at hj
      rw [← numAt_eq]; exact h2 j (by omega)
/-- min of a tuple of ints -/
theorem min_tup {t : Addr} {its : List Value} {ns : List Int} {Q : Value → Shared → Prop} (hh : A.handled = none) (ht : IsTup s.heap t its.toArray) (hi : IntsAre its ns) (hne : 0 < ns.length)
    (h : ∀ h' tk M t', (∀ b o, s.heap.get? b = some o → h'.get? b = some o) → M ∈ ns → (∀ a, a ∈ ns → M ≤ a) → Q (.int M t') { s with heap := h', toks := tk }) : wpAny (model prog w) A (call (.builtin "min") [.ref t]) Q E s := by
  obtain ⟨xs, e⟩ := hi.allInts.items
  have hn : numsOf (intItems xs).toList = ns := by rw [← e]; exact hi.numsOf
  rw [nums_intItems] at hn
  subst hn
  rw [e] at ht
  have hsz : 0 < xs.size := by simpa using hne
  have hlt : t < s.heap.objs.size := ht.lt
  have htt : s.heap.IsTuple t (intItems xs) := ht
  refine call_min_walk (wpAny_pyIter_tuple htt ?_)
  refine ⟨s.heap.objs.size, [s.heap.objs.size, t], [s.heap.objs.size], (intItems xs).size, _, _, _, rfl, Walks.tuple (A := A.in1) hh _ t (Nat.ne_of_lt hlt) (intItems xs), ⟨⟨_, Heap.get?_push_size _ rfl, rfl, rfl⟩, htt.push _⟩, fun b hb => ?_, by simpa [intItems] using hsz,
    CmpOf.ints_lt (numAt xs) (fun _ _ => intItems_at), fun v h' tk hv hk => ?_⟩
  · show b < (s.heap.push _).objs.size
    rw [Heap.size_push]
    rcases List.mem_cons.mp hb with z | hb
    · rw [z]; exact Nat.lt_succ_self _
    · rw [List.mem_singleton.mp hb]; exact Nat.lt_succ_of_lt hlt
  · obtain ⟨t', rfl⟩ := intItems_at hv
    obtain ⟨h1, h2⟩ := argBest_lt (numAt xs) (xs.size - 1)
    have esz : (intItems xs).size = xs.size := by simp [intItems]
    rw [esz]
    refine h h' tk _ t' (fun b o eb => hk b o (fun hm => ?_) (Heap.get?_push_of_some _ eb)) ?_ fun a ha => ?_
    · rw [List.mem_singleton.mp hm] at eb
      exact absurd (Heap.lt_size eb) (Nat.lt_irrefl _)
    · rw [numAt_eq]; exact PySem.getD_mem (by rw [List.length_map, Array.length_toList]; omega)
    · obtain ⟨j, hj, rfl⟩ := mem_getD ha
      rw [List.length_map, Array.length_toList] at hj
      rw [← numAt_eq]; exact h2 j (by omega)
/-- sum of a tuple of ints -/
theorem sum_tup {t : Addr} {its : List Value} {ns : List Int} {Q : Value → Shared → Prop} (hh : A.handled = none) (ht : IsTup s.heap t its.toArray) (hi : IntsAre its ns)
    (h : ∀ h' tk t', (∀ b o, s.heap.get? b = some o → h'.get? b = some o) → Q (.int ns.sum t') { s with heap := h', toks := tk }) : wpAny (model prog w) A (call (.builtin "sum") [.ref t]) Q E s := by
  obtain ⟨xs, e⟩ := hi.allInts.items
  have hn : numsOf (intItems xs).toList = ns := by rw [← e]; exact hi.numsOf
  rw [nums_intItems] at hn
  rw [e] at ht
  have htt : s.heap.IsTuple t (intItems xs) := ht
  refine PySem.W.ktm_sumG hh htt fun h' tk t' hk => ?_
  have q := h h' tk t' hk
  rw [preSum_eq, List.take_of_length_le (by simp), hn]
  exact q
end

section
variable {X : Cx}
def rMaxT (K : PySem.W.Frag) : List V → Hp → VK → Prop := fun vs H Q => ∃ (a : Addr) (ns : List Int), vs = [V.ref a] ∧ SqT K H a (ns.map V.int) ∧ 0 < ns.length ∧ ∀ m, m ∈ ns → (∀ y, y ∈ ns → y ≤ m) → Q (.int m) H
theorem cr_maxT (hc : X.calm = true) : CallR X (.builtin "max") (rMaxT X.K) := by
  intro pins s σ H vs us Q I r ⟨a, ns, e, hs, hne, q⟩
  subst e
  obtain ⟨its, rv, hl, _⟩ := I.tuple hs
  rw [Vals.ref1 r]
  exact max_tup (I.ok.hd hc) hl rv.ints hne fun h' tk m t' hk h1 h2 => ⟨.int m, H, I.kept hk, ⟨_, rfl⟩, q m h1 h2⟩

def rMinT (K : PySem.W.Frag) : List V → Hp → VK → Prop := fun vs H Q => ∃ (a : Addr) (ns : List Int), vs = [V.ref a] ∧ SqT K H a (ns.map V.int) ∧ 0 < ns.length ∧ ∀ m, m ∈ ns → (∀ y, y ∈ ns → m ≤ y) → Q (.int m) H
theorem cr_minT (hc : X.calm = true) : CallR X (.builtin "min") (rMinT X.K) := by
  intro pins s σ H vs us Q I r ⟨a, ns, e, hs, hne, q⟩
  subst e
  obtain ⟨its, rv, hl, _⟩ := I.tuple hs
  rw [Vals.ref1 r]
  exact min_tup (I.ok.hd hc) hl rv.ints hne fun h' tk m t' hk h1 h2 => ⟨.int m, H, I.kept hk, ⟨_, rfl⟩, q m h1 h2⟩
def rSumT (K : PySem.W.Frag) : List V → Hp → VK → Prop := fun vs H Q => ∃ (a : Addr) (ns : List Int), vs = [V.ref a] ∧ SqT K H a (ns.map V.int) ∧ Q (.int ns.sum) H
theorem cr_sumT (hc : X.calm = true) : CallR X (.builtin "sum") (rSumT X.K) := by
  intro pins s σ H vs us Q I r ⟨a, ns, e, hs, q⟩
  subst e
  obtain ⟨its, rv, hl, _⟩ := I.tuple hs
  rw [Vals.ref1 r]
  exact sum_tup (I.ok.hd hc) hl rv.ints fun h' tk t' hk => ⟨.int _, H, I.kept hk, ⟨_, rfl⟩, q⟩

open Classical in
/-- sorted(xs), xs a list of pairs of ints, by both -/
def rSortedQ (K : PySem.W.Frag) : List V → Hp → VK → Prop := fun vs H Q => ∃ (a : Addr) (L : List (Addr × Int × Int)), vs = [V.ref a] ∧ SqL K H a (L.map fun e => V.ref e.1) ∧ (∀ e ∈ L, SqT K H e.1 [.int e.2.1, .int e.2.2]) ∧
  ∀ (L' : List (Addr × Int × Int)) (p : Addr), L'.Perm L → L'.Pairwise (fun x y => lexLe x.2 y.2) → H p = none → Q (.ref p) (upd H p (.lst (L'.map fun e => V.ref e.1)))
open Classical in
noncomputable def pairOf (L : List (Addr × Int × Int)) (x : V) : Int × Int := match L.find? (fun e => decide (V.ref e.1 = x)) with
  | some e => e.2
  | none => (0, 0)
theorem cr_sortedQ : CallR X (.builtin "sorted") (rSortedQ X.K) := by
  intro pins s σ H vs us Q I r ⟨a, L, e0, hs, hx, q⟩
  subst e0
  have one : ∀ e ∈ L, pairOf L (.ref e.1) = e.2 := fun e he => by
    unfold pairOf
    split
    · rename_i e' hf
      have h1 := List.find?_some hf
      have h2 := List.mem_of_find?_eq_some hf
      have h3 : V.ref e'.1 = V.ref e.1 := of_decide_eq_true h1
      have h4 : e'.1 = e.1 := by
        injection h3
      have g1 := hx e' h2
      rw [h4] at g1
      have g2 := I.tuple_inj g1 (hx e he)
      simp only [List.cons.injEq, V.int.injEq, and_true] at g2
      exact Prod.ext g2.1 g2.2
    · rename_i hf
      exact absurd (decide_eq_true rfl) (List.find?_eq_none.mp hf e he)
  obtain ⟨its, rv, hl, hz⟩ := I.list hs
  obtain ⟨u, rfl, ru⟩ := vals1 r
  obtain rfl : u = Value.ref a := ru
  obtain ⟨e1, e2⟩ := refs_back rv fun x m => by
    obtain ⟨e, _, rfl⟩ := List.mem_map.mp m
    exact ⟨e.1, rfl⟩
  refine SrtO.sorted_pairsO (k := fun u => pairOf L (backV u)) hl.isList (by rw [← rv.length]; exact hz) (fun v hv => ?_) fun h' d out h1 h2 kp hd hn => ?_
  · obtain ⟨t, rfl⟩ := e2 v hv
    have hm : V.ref t ∈ L.map fun e => V.ref e.1 := by rw [e1]; exact List.mem_map.mpr ⟨_, hv, rfl⟩
    obtain ⟨e, he, et⟩ := List.mem_map.mp hm
    have et2 : e.1 = t := by cases et; rfl
    subst et2
    obtain ⟨its2, r2, ht, _⟩ := I.tuple (hx e he)
    obtain ⟨o, ho, hc, n, hd⟩ := ht
    obtain ⟨u1, u2, rfl, ri, rj⟩ := vals2 r2
    obtain ⟨t1, rfl⟩ := ri
    obtain ⟨t2, rfl⟩ := rj
    have hk : pairOf L (backV (.ref e.1)) = e.2 := one e he
    exact ⟨e.1, o, t1, t2, n, rfl, ho, hc, by rw [hk]; exact hd⟩
  · have h3 : ∀ u ∈ out, ∃ a, u = Value.ref a := fun u hu => e2 u (h2.perm.mem_iff.mp hu)
    obtain ⟨n, hn⟩ := hn
    have hb : SrtO.Stb (ltP (pairOf L)) (out.map backV) (L.map fun e => V.ref e.1) := by
      rw [e1]
      exact SrtO.Stb.map (ltP_swo (pairOf L)) backV h2
    have hs2 : SrtO.Srtd (ltP (pairOf L)) (out.map backV) := SrtO.srtd_map h1
    have hpm := hb.perm
    let g : V → Addr × Int × Int := fun x => ((match x with | .ref t => t | _ => 0), pairOf L x)
    have gL : (L.map fun e => V.ref e.1).map g = L := by
      rw [List.map_map]
      conv => rhs; rw [← List.map_id L]
      refine List.map_congr_left fun e he => ?_
      show (e.1, pairOf L (V.ref e.1)) = e
      rw [one e he]
    have refl : ∀ x ∈ out.map backV, V.ref (g x).1 = x := fun x hx2 => by
      obtain ⟨e, _, rfl⟩ := List.mem_map.mp (hpm.mem_iff.mp hx2)
      rfl
    have back : ((out.map backV).map g).map (fun e => V.ref e.1) = out.map backV := by
      rw [List.map_map]
      conv => rhs; rw [← List.map_id (out.map backV)]
      exact List.map_congr_left fun x hx2 => refl x hx2
    have perm2 : ((out.map backV).map g).Perm L := by
      have := hpm.map g
      rw [gL] at this
      exact this
    have pw : ((out.map backV).map g).Pairwise fun x y => lexLe x.2 y.2 := by
      rw [List.pairwise_map]
      refine List.Pairwise.imp (fun {x y} hle => ?_) hs2
      have := SrtO.lexB_no.mp hle
      show lexLe (pairOf L x) (pairOf L y)
      unfold lexLe
      omega
    refine ⟨.ref d, upd H d (.lst (out.map backV)), I.laid (t' := s.toks) kp hd ⟨?_, out, n, vals_back h3, hn⟩, rfl, ?_⟩
    · rw [hb.len]
      exact hz
    · have := q _ d perm2 pw (I.hok.fresh hd)
      rw [back] at this
      exact this

def fB1 : B1 → Value
  | .int => .type "int" | .list => .type "list" | .tuple => .type "tuple"
  | .len => .builtin "len" | .abs => .builtin "abs" | .sum => .builtin "sum" | .max => .builtin "max" | .min => .builtin "min"
  | .sorted => .builtin "sorted" | .all => .builtin "all" | .any => .builtin "any" | .set => .type "set" | .str => .type "str"
def rB1 (K : PySem.W.Frag) : B1 → List V → Hp → VK → Prop
  | .len => fun xs H Q => (∃ p ys, xs = [.ref p] ∧ (SqL K H p ys ∨ SqT K H p ys) ∧ Q (.int ys.length) H) ∨ ∃ z, xs = [.str z] ∧ z.length ≤ sizeLine ∧ Q (.int z.length) H
  | .abs => fun xs H Q => ∃ i, xs = [.int i] ∧ Q (.int (if i < 0 then -i else i)) H
  | .int => fun xs H Q => (∃ i, xs = [.int i] ∧ Q (.int i) H) ∨ ∃ k, xs = [.bl k] ∧ Q (.int (if k then 1 else 0)) H
  | .sum => fun xs H Q => rSum K xs H Q ∨ rSumT K xs H Q
  | .max => fun xs H Q => rMax K xs H Q ∨ rMaxT K xs H Q
  | .min => fun xs H Q => rMin K xs H Q ∨ rMinT K xs H Q
  | .all => rAll K
  | .any => rAny K
  | .list => fun xs H Q => ∃ p ys, xs = [.ref p] ∧ (SqL K H p ys ∨ SqT K H p ys) ∧ ∀ l, H l = none → Q (.ref l) (upd H l (.lst ys))
  | .tuple => fun xs H Q => ∃ p ys, xs = [.ref p] ∧ ((SqL K H p ys ∧ ∀ l, H l = none → Q (.ref l) (upd H l (.tup ys))) ∨ (SqT K H p ys ∧ Q (.ref p) H))
  | .sorted => fun xs H Q => rSortedI K xs H Q ∨ rSortedQ K xs H Q
  | .set => fun _ _ _ => False
  | .str => fun _ _ _ => False
theorem cr_B1 (hc : X.calm = true) : ∀ b : B1, CallR X (fB1 b) (rB1 X.K b)
  | .len => CallR.or call_len_seq call_len_str
  | .abs => call_abs
  | .int => call_int1
  | .sum => CallR.or (cr_sum hc) (cr_sumT hc)
  | .max => CallR.or (cr_max hc) (cr_maxT hc)
  | .min => CallR.or (cr_min hc) (cr_minT hc)
  | .all => cr_all hc
  | .any => cr_any hc
  | .list => call_list_of
  | .tuple => call_tuple_of
  | .sorted => CallR.or cr_sortedI cr_sortedQ
  | .set => fun _ _ _ _ _ _ _ _ _ h => h.elim
  | .str => fun _ _ _ _ _ _ _ _ _ h => h.elim
end
section
variable {C : RC} {F : Hp} {ow : Addr → Option Id} {p : PSt} {ts : List (Slot × V)} {σ : L2.St} {H : Hp} {v w : V} {Qh : VK} {Kq : Slot → Prop}
theorem RVs.pairs : ∀ {ps : List (Int × Int)} {vs : List V}, RVs C F (ps.map prV) vs → ∃ L : List (Addr × Int × Int), ps = L.map (·.2) ∧ vs = L.map (fun e => V.ref e.1) ∧ ∀ e ∈ L, SqT C.K F e.1 [.int e.2.1, .int e.2.2]
  | [], vs, h => ⟨[], rfl, h, fun e he => nomatch he⟩
  | p :: ps, _, h => by
    obtain ⟨v, r, rfl, h1, h2⟩ := h
    obtain ⟨L, rfl, rfl, hL⟩ := RVs.pairs h2
    obtain ⟨a, ws, rfl, g1, g2⟩ := h1
    have e : ws = [.int p.1, .int p.2] := RVs.ints (ns := [p.1, p.2]) g2
    subst e
    refine ⟨(a, p) :: L, rfl, rfl, fun e he => ?_⟩
    rcases List.mem_cons.mp he with rfl | he
    · exact g1
    · exact hL e he
theorem RVs.ofPairs : ∀ (L : List (Addr × Int × Int)), (∀ e ∈ L, SqT C.K F e.1 [.int e.2.1, .int e.2.2]) → RVs C F ((L.map (·.2)).map prV) (L.map fun e => V.ref e.1)
  | [], _ => rfl
  | e :: L, h => ⟨_, _, rfl, ⟨e.1, _, rfl, h e List.mem_cons_self, RVs.ofInts [e.2.1, e.2.2]⟩, RVs.ofPairs L fun x hx => h x (List.mem_cons_of_mem _ hx)⟩
theorem blt1_ok {b : B1} {x : PV} (R : Rel C F ow p ts σ H) (lx : Lk C F H x v) (h : blt1P b x Kq) (P : Post C F p ts σ Kq Qh) : rB1 C.K b [v] H Qh := by
  have hz := line_eq
  unfold blt1P at h
  split at h
  · obtain ⟨a, vs, rfl, h1, h2⟩ := lx.lstAt R.fh
    exact .inl ⟨_, _, rfl, .inl (SqL.of h1), by rw [← h2.length]; exact P.int R h⟩
  · obtain ⟨a, vs, rfl, h1, h2⟩ := lx.tupAt
    exact .inl ⟨_, _, rfl, .inr (Same.tseq R.fh h1), by rw [← h2.length]; exact P.int R h⟩
  · obtain ⟨a, vs, rfl, h1, h2⟩ := lx.roAt
    exact .inl ⟨_, _, rfl, .inl (Same.seq R.fh h1), by rw [← h2.length]; exact P.int R h⟩
  · rw [lx.str]
    exact .inr ⟨_, rfl, by rw [hz]; exact h.1, P.int R h.2⟩
  · rw [lx.int]
    exact ⟨_, rfl, P.int R h⟩
  · rw [lx.int]
    exact .inl ⟨_, rfl, P.int R h⟩
  · rw [lx.bl]
    exact .inr ⟨_, rfl, P.int R h⟩
  · obtain ⟨ns, rfl, h⟩ := h
    obtain ⟨a, vs, rfl, h1, h2⟩ := lx.lstAt R.fh
    rw [h2.ints] at h1
    exact .inl ⟨_, ns, rfl, SqL.of h1, P.int R h⟩
  · obtain ⟨ns, rfl, h⟩ := h
    obtain ⟨a, vs, rfl, h1, h2⟩ := lx.tupAt
    rw [h2.ints] at h1
    exact .inr ⟨_, ns, rfl, Same.tseq R.fh h1, P.int R h⟩
  · obtain ⟨ns, rfl, hn, h⟩ := h
    obtain ⟨a, vs, rfl, h1, h2⟩ := lx.tupAt
    rw [h2.ints] at h1
    exact .inr ⟨_, ns, rfl, Same.tseq R.fh h1, List.length_pos_iff.mpr hn, fun m m1 m2 => P.int R (h m m1 m2)⟩
  · obtain ⟨ns, rfl, hn, h⟩ := h
    obtain ⟨a, vs, rfl, h1, h2⟩ := lx.tupAt
    rw [h2.ints] at h1
    exact .inr ⟨_, ns, rfl, Same.tseq R.fh h1, List.length_pos_iff.mpr hn, fun m m1 m2 => P.int R (h m m1 m2)⟩
  · obtain ⟨ns, rfl, hn, h⟩ := h
    obtain ⟨a, vs, rfl, h1, h2⟩ := lx.lstAt R.fh
    rw [h2.ints] at h1
    exact .inl ⟨_, ns, rfl, SqL.of h1, List.length_pos_iff.mpr hn, fun m m1 m2 => P.int R (h m m1 m2)⟩
  · obtain ⟨ns, rfl, hn, h⟩ := h
    obtain ⟨a, vs, rfl, h1, h2⟩ := lx.lstAt R.fh
    rw [h2.ints] at h1
    exact .inl ⟨_, ns, rfl, SqL.of h1, List.length_pos_iff.mpr hn, fun m m1 m2 => P.int R (h m m1 m2)⟩
  · obtain ⟨ns, rfl, h⟩ := h
    obtain ⟨a, vs, rfl, h1, h2⟩ := lx.lstAt R.fh
    rw [h2.bls] at h1
    exact ⟨_, ns, rfl, SqL.of h1, P.bl R h⟩
  · obtain ⟨ns, rfl, h⟩ := h
    obtain ⟨a, vs, rfl, h1, h2⟩ := lx.lstAt R.fh
    rw [h2.bls] at h1
    exact ⟨_, ns, rfl, SqL.of h1, P.bl R h⟩
  · obtain ⟨a, vs, rfl, h1, h2⟩ := lx.lstAt R.fh
    exact ⟨_, _, rfl, .inl (SqL.of h1), fun l hl => P.lst R h2 h hl⟩
  · obtain ⟨a, vs, rfl, h1, h2⟩ := lx.tupAt
    exact ⟨_, _, rfl, .inr (Same.tseq R.fh h1), fun l hl => P.lst R h2 h hl⟩
  · obtain ⟨a, vs, rfl, h1, h2⟩ := lx.roAt
    exact ⟨_, _, rfl, .inl (Same.seq R.fh h1), fun l hl => P.lst R h2 h hl⟩
  · obtain ⟨a, vs, rfl, h1, h2⟩ := lx.lstAt R.fh
    exact ⟨_, _, rfl, .inl ⟨SqL.of h1, fun l hl => P.tup R h2 h hl⟩⟩
  · obtain ⟨a, vs, rfl, h1, h2⟩ := lx.tupAt
    exact ⟨_, _, rfl, .inr ⟨Same.tseq R.fh h1, P.val R (x := .tup _) ⟨a, vs, rfl, h1, h2⟩ h⟩⟩
  · rcases h with ⟨ns, rfl, h⟩ | ⟨ps, rfl, h⟩
    · obtain ⟨a, vs, rfl, h1, h2⟩ := lx.lstAt R.fh
      rw [h2.ints] at h1
      exact .inl ⟨_, ns, rfl, SqL.of h1, fun ns' q e1 e2 hq => P.lst R (RVs.ofInts ns') (h ns' e1 e2) hq⟩
    · obtain ⟨a, vs, rfl, h1, h2⟩ := lx.lstAt R.fh
      obtain ⟨L, rfl, rfl, hL⟩ := h2.pairs
      refine .inr ⟨_, L, rfl, SqL.of h1, fun e he => Same.tseq R.fh (hL e he), fun L' q e1 e2 hq => ?_⟩
      have h3 : RVs C F ((L'.map (·.2)).map prV) (L'.map fun e => V.ref e.1) := RVs.ofPairs L' fun e he => hL e (e1.mem_iff.mp he)
      exact P.lst R h3 (h _ (e1.map _) (List.pairwise_map.mpr e2)) hq
  · exact h.elim

/-! ### isinstance -/
theorem kit_pair : ∀ t ∈ ["NoneType", "bool", "int", "str", "tuple", "list"], ∀ n ∈ knownTy, kitB t n = some (decide (t = n) || (decide (t = "bool") && decide (n = "int"))) := by decide +kernel
theorem tyX_of {x : PV} {t : String} (hs : Same F H) (lx : Lk C F H x v) (h : tyOf x = some t) : TyX C.K H v (.type t) ∧ t ∈ ["NoneType", "bool", "int", "str", "tuple", "list"] := by
  cases x with
  | non =>
    rw [show v = .non from lx.rv (by intro xs; exact fun q => nomatch q)]
    obtain rfl : "NoneType" = t := Option.some.inj h
    exact ⟨.base .non, by simp⟩
  | bl b =>
    rw [lx.bl]
    obtain rfl : "bool" = t := Option.some.inj h
    exact ⟨.base (.bl b), by simp⟩
  | int b =>
    rw [lx.int]
    obtain rfl : "int" = t := Option.some.inj h
    exact ⟨.base (.int b), by simp⟩
  | str b =>
    rw [lx.str]
    obtain rfl : "str" = t := Option.some.inj h
    exact ⟨.base (.str b), by simp⟩
  | tup xs =>
    obtain rfl : "tuple" = t := Option.some.inj h
    obtain ⟨a, vs, rfl, h1, h2⟩ := lx.tupAt
    refine ⟨?_, by simp⟩
    rcases Same.tseq hs h1 with (q | ⟨o, q⟩) | ⟨o, its, n, hk, hc, _⟩
    · exact .base (.tup q)
    · exact .fTuple q
    · exact .kTuple hk hc
  | lst xs =>
    obtain rfl : "list" = t := Option.some.inj h
    obtain ⟨a, vs, rfl, h1, h2⟩ := lx.lstAt hs
    exact ⟨.base (.lst h1), by simp⟩
  | ty _ => cases h
  | ro _ => cases h
  | fn _ => cases h
  | cell => cases h
theorem isi_ok {x : PV} {ns : List String} {Kb : Bool → Prop} (hs : Same F H) (lx : Lk C F H x v) (h : isiK x ns Kb) : ∃ t b, tyOf x = some t ∧ TyX C.K H v (.type t) ∧ Kb b ∧ (∀ n, ns = [n] → PySem.W.kitOne C.K (.type t) (.type n) = some b) ∧ PySem.W.kitAny C.K (.type t) (ns.map Value.type) = some b := by
  unfold isiK at h
  split at h
  rotate_left
  · exact h.elim
  rename_i b e
  unfold isiP at e
  split at e
  rotate_left
  · cases e
  rename_i hk
  cases q : tyOf x with
  | none => rw [q] at e; cases e
  | some t =>
    rw [q] at e
    obtain ⟨h1, h2⟩ := tyX_of hs lx q
    have e' : (ns.any fun n => decide (t = n) || (decide (t = "bool") && decide (n = "int"))) = b := Option.some.inj e
    have known : ∀ n ∈ ns, n ∈ knownTy := fun n hn => by
      have := List.all_eq_true.mp hk n hn
      exact List.contains_iff_mem.mp this
    refine ⟨t, b, rfl, h1, h, fun n hn => ?_, ?_⟩
    · subst hn
      rw [kit_ty (kit_pair t h2 n (known n (by simp)))]
      simpa using e'
    · clear hk e h
      subst e'
      induction ns with
      | nil => exact kitAny_nil
      | cons n ns ih =>
        refine kitAny_cons (kit_ty (kit_pair t h2 n (known n (by simp)))) (fun hb => ?_) fun hb => ?_
        · rw [List.any_cons, hb, Bool.false_or]
          exact ih fun m hm => known m (List.mem_cons_of_mem _ hm)
        · rw [List.any_cons, hb, Bool.true_or]
theorem paired_cls : ∀ ns : List String, Paired ClsV (ns.map V.ty) (ns.map Value.type)
  | [] => .nil
  | n :: ns => .cons (.ty n) (paired_cls ns)
end
end R

set_option Elab.async false
set_option linter.all false
set_option maxRecDepth 100000
/-! R: calls. -/
namespace R
open PySem PySem.Spec PyProof.Rows L2
section
variable {X : Cx} {C : RC} {F F' : Hp} {ow ow1 : Addr → Option Id} {p : PSt} {ts ts1 : List (Slot × V)} {σ σ1 : L2.St} {H H' : Hp} {r : Slot} {v : V} {d : Nat} {sl : List Slot}
def RC.inner (C : RC) (H F : Hp) : RC := ⟨C.K, C.mg, C.fa, C.cell, H, F, fun _ => false⟩
theorem RC.like_inner : (C.inner H F).Like C := ⟨rfl, rfl, rfl⟩
def owIn (H : Hp) (ow : Addr → Option Id) : Addr → Option Id := fun a => match H a with
  | none => none
  | some _ => ow a
theorem owIn_some {a : Addr} (h : H a ≠ none) : owIn H ow a = ow a := by
  unfold owIn
  cases e : H a with
  | none => exact absurd e h
  | some o => rfl
theorem owIn_none {a : Addr} (h : H a = none) : owIn H ow a = none := by
  unfold owIn
  rw [h]
/-- behind a call: the caller's own relation -/
theorem Rel.outer {M : Nat → Bool} (R : Rel C F ow p ts σ H) (R1 : Rel { C.inner H F with M := M } F' ow1 ⟨sl, d⟩ ts1 σ1 H') : Same F F' ∧ Rel C F' (owIn H ow) ⟨p.sl, d⟩ ts σ H' := by
  have sF : Same F F' := R1.bf
  have stays : ∀ a vs, (ow a ≠ none ∨ F a = some (.lst vs)) → H a = some (.lst vs) → H' a = some (.lst vs) := fun a vs h e => by
    refine R1.keep a _ (fun hc => ?_) e
    obtain ⟨g1, g2⟩ := R.cfr a hc
    rcases h with h | h
    · cases q : ow a with
      | none => exact h q
      | some i => exact g2 (R.oww a i q).2.1
    · rw [g1] at h
      cases h
  have same : ∀ a i, ow a = some i → owIn H ow a = some i := fun a i e => by
    rw [owIn_some (R.oww a i e).2.2]
    exact e
  refine ⟨sF, ⟨R1.fh, R.bf.trans sF, fun a ha => (R1.new a (R.hold ha)).trans (R.new a ha), fun a o hc e => R1.keep a o hc (R.keep a o hc e), fun a i e => ?_, R1.cok, fun a e => ?_, R.len, fun i => (R.sl i).mono sF stays same, R.tm.mono sF stays same, R.nob⟩⟩
  · cases q : H a with
    | none => rw [owIn_none q] at e; cases e
    | some o =>
      have hn : H a ≠ none := by rw [q]; exact fun z => nomatch z
      rw [owIn_some hn] at e
      obtain ⟨g1, g2, g3⟩ := R.oww a i e
      exact ⟨(R1.new a hn).trans g1, g2, R1.hold hn⟩
  · obtain ⟨g1, g2⟩ := R.cfr a e
    exact ⟨(R1.new a (R.hold g2)).trans g1, g2⟩
theorem Rel.after (R : Rel C F ow p ts σ H) (h : Ret (C.inner H F) r d v H') : ∃ F' ow', Same F F' ∧ Rel C F' ow' ⟨p.sl, d⟩ ((r, v) :: ts) σ H' := by
  obtain ⟨hr, M, F', ow1, sl, σ1, R1⟩ := h
  obtain ⟨sF, R2⟩ := R.outer R1
  rcases hr with ⟨x, rfl⟩ | ⟨xs, rfl⟩
  · obtain ⟨u, e, h1⟩ := R1.top
    cases e
    exact ⟨F', _, sF, R2.push (RV.mono (C := { C.inner H F with M := M }) (C' := C) ⟨rfl, rfl, rfl⟩ (.refl _) h1)⟩
  · obtain ⟨a, vs, e, h1, h2, h3, _⟩ := R1.top
    cases e
    obtain ⟨g1, g2, g3⟩ := R1.oww a _ h2
    have g2' : H a = none := g2
    have h0 : C.H0 a = none := by
      cases q : C.H0 a with
      | none => rfl
      | some o => exact absurd g2' (R.hold (by rw [q]; exact fun z => nomatch z))
    exact ⟨F', _, sF, R2.pushOwn h1 g1 h0 (owIn_none g2') (RVs.mono (C := { C.inner H F with M := M }) (C' := C) ⟨rfl, rfl, rfl⟩ (.refl _) h3)⟩
theorem Rel.afterOut (R : Rel C F ow p ts σ H) (h : Out (C.inner H F) d H') : ∃ F' ow', Same F F' ∧ Rel C F' ow' ⟨p.sl, d⟩ ts σ H' := by
  obtain ⟨M, F', ow1, sl, σ1, R1⟩ := h
  obtain ⟨sF, R2⟩ := R.outer R1
  exact ⟨F', _, sF, R2⟩
theorem Rel.noTs : ∀ {ts : List (Slot × V)}, Rel C F ow p ts σ H → Rel C F ow p [] σ H := fun {_} R => ⟨R.fh, R.bf, R.new, R.keep, R.oww, R.cok, R.cfr, R.len, R.sl, trivial, R.nob⟩

/-- a def's state at its entry -/
def slots0 (N : List Str) (args : List PV) : List Slot := args.map .val ++ List.replicate (N.length - args.length) .un
theorem Rel.entry {K : PySem.W.Frag} {mg : Str → Option Value} {fa : Nat → Option Addr} {cell : Option Addr} {M : Nat → Bool} {args : List PV} {vs : List V} {N : List Str} (hN : vs.length ≤ N.length)
    (h : RVs ⟨K, mg, fa, cell, H, F, M⟩ F args vs) (hs : Same F H) (hc : CellOk cell H d) (hf : ∀ a, cell = some a → F a = none) : Rel ⟨K, mg, fa, cell, H, F, M⟩ F (fun _ => none) ⟨slots0 N args, d⟩ [] (L2.start N vs) H := by
  have hl := h.length
  refine ⟨hs, .refl F, fun _ _ => rfl, fun _ _ _ e => e, fun a i e => (nomatch e), hc, fun a e => ⟨hf a e, ?_⟩, ?_, fun i => ?_, trivial, fun i j xs => ?_⟩
  · obtain ⟨x, y, z, e1, _⟩ := hc a e
    show H a ≠ none
    rw [e1]
    exact fun z => nomatch z
  · unfold slots0 L2.start
    simp [hl]
  · show Ent _ F _ _ H _ ((slots0 N args).getD i .un) _
    unfold slots0 L2.start
    rw [List.getD_eq_getElem?_getD]
    by_cases hi : i < args.length
    · rw [List.getElem?_append_left (by simpa using hi), List.getElem?_append_left (by simpa [← hl] using hi), List.getElem?_map, List.getElem?_map]
      obtain ⟨w, e1, e2⟩ := h.get (List.getElem?_eq_getElem hi)
      rw [List.getElem?_eq_getElem hi, e1]
      exact ⟨w, rfl, e2⟩
    · rw [List.getElem?_append_right (by simpa using hi), List.getElem?_replicate]
      split <;> trivial
  · show (slots0 N args).getD i .un ≠ _
    unfold slots0
    rw [List.getD_eq_getElem?_getD]
    by_cases hi : i < args.length
    · rw [List.getElem?_append_left (by simpa using hi), List.getElem?_map, List.getElem?_eq_getElem hi]
      exact fun z => nomatch z
    · rw [List.getElem?_append_right (by simpa using hi), List.getElem?_replicate]
      split <;> exact fun z => nomatch z

theorem PassHX {E : EX} (h : HX X C E) (σ : L2.St) : PassesAt (L2.CX X.prog X.w) X σ (WE (RW C E) σ) := by
  rcases h with h | tk
  · intro pins H s e s' I c
    obtain ⟨_, _, H1, _, _, _, _, _, _, _, _, _, z⟩ := c
    obtain ⟨x, F1, ow1, p1, _, _, _, q⟩ := z
    exact (h _ _ q).elim
  · exact passAt tk σ

/-- the callee's promise, from what the caller has -/
theorem sp_of {E : EX} {S : PSpec} {n : Nat} {xs : List PV} {vs : List V} {J : Slot → Nat → Prop} {Qh : VK} (R : Rel C F ow p ts σ H) (hl : vs.length = n) (hv : RVs C F xs vs) (h : S xs p.d J E)
    (post : ∀ r v F' ow' H' d', Same F F' → Rel C F' ow' ⟨p.sl, d'⟩ ((r, v) :: ts) σ H' → J r d' → Qh v H') : spOf C.K C.mg C.fa n S vs H Qh (WE (RW C E) σ) := by
  refine ⟨hl, C.cell, F, xs, p.d, J, E, hv.mono (C' := C.inner H F) (RC.like_inner.symm) (.refl F), R.fh, R.cok, fun a e => (R.cfr a e).1, h, fun r d' v H' hr j => ?_, fun x d' H' ho e => ?_⟩
  · obtain ⟨F', ow', s1, R1⟩ := R.after (C := C) hr
    exact post r v F' ow' H' d' s1 R1 j
  · obtain ⟨F', ow', s1, R1⟩ := R.afterOut (C := C) ho
    exact ⟨x, F', ow', _, rfl, rfl, R1.noTs, e⟩
end
end R

set_option Elab.async false
set_option linter.all false
set_option maxRecDepth 100000
/-! R: what is walked. -/
namespace R
open PySem PySem.Spec PyProof.Rows L2 RZ
section
variable {X : Cx} {tg : Expr}
/-- a list or a tuple, whichever comes -/
def iSeq (K : PySem.W.Frag) (te : TE) : TI := fun σ H R => te σ H fun x H1 => ∃ a, x = .ref a ∧ ((∃ xs, SqL K H1 a xs ∧ R (Itl K a) H1) ∨ ∃ xs, SqT K H1 a xs ∧ R (Itt K a) H1)
theorem pi_seq {e : Expr} {te : TE} (he : PE X e te) : PI X tg e (iSeq X.K te) := by
  refine ⟨fun pins st σ H R I0 hq => thn (he.run pins st σ H _ I0 hq) fun u s2 ⟨y, H2, I2, r2, a, ey, q2⟩ => ?_⟩
  subst ey
  cases r2
  have low : FpOk X pins H2 s2.heap.objs.size := I2.fpOk (Nat.le_refl _) (I2.hok.fresh (Nat.le_refl _))
  have fpk : ∀ b ∈ [s2.heap.objs.size], FpOk X pins H2 b := fun b hb => by rw [List.mem_singleton.mp hb]; exact low
  rcases q2 with ⟨xs, hl, q2⟩ | ⟨xs, hl, q2⟩
  · obtain ⟨its, rv, pl, _⟩ := I2.list hl
    exact wpAny_pyIter_list pl.isList ⟨_, [s2.heap.objs.size], _, _, H2, rfl, I2.kept (t' := s2.toks) fun b o eb => Heap.get?_push_of_some _ eb, turn_list a _, ⟨_, Heap.get?_push_size _ rfl, rfl, rfl⟩, fpk, q2⟩
  · obtain ⟨its, rv, pl, _⟩ := I2.tuple hl
    have tp : s2.heap.IsTuple a its.toArray := pl
    exact wpAny_pyIter_tuple tp ⟨_, [s2.heap.objs.size], _, _, H2, rfl, I2.kept (t' := s2.toks) fun b o eb => Heap.get?_push_of_some _ eb, turn_tuple a _, ⟨_, Heap.get?_push_size _ rfl, rfl, rfl⟩, fpk, q2⟩
end
section
variable {C : RC} {F : Hp}
theorem yok_same {x : PV} {H : Hp} {v : V} (h : RV C F x v) : YOk C F x H v H := fun F1 _ _ _ _ s R => ⟨F1, .refl F1, R, h.mono (.refl C) s⟩
theorem yok_pair {x y : PV} {H : Hp} {u w : V} {T : Addr} (hT : H T = none) (h1 : RV C F x u) (h2 : RV C F y w) : YOk C F (.tup [x, y]) H (.ref T) (upd H T (.tup [u, w])) := fun F1 ow p ts σ s R => by
  obtain ⟨s1, R1⟩ := R.laid (o := .tup [u, w]) hT
  refine ⟨_, s1, R1, T, [u, w], rfl, SqT.of upd_same, u, [w], rfl, h1.mono (.refl C) (s.trans s1), w, [], rfl, h2.mono (.refl C) (s.trans s1), rfl⟩
theorem wok_list {a : Addr} {xs : List PV} {vs : List V} (h : SqL C.K F a vs) (hv : RVs C F xs vs) : WOk C F xs (Itl C.K a) := by
  refine ⟨_, _, by rw [hv.length]; exact walk_list, fun F1 H s s' => Same.seq (s.trans s') h, fun i H v H' hi y => ?_⟩
  obtain ⟨e, hy⟩ := y
  subst e
  obtain ⟨x, e1, e2⟩ := hv.get' hy
  exact ⟨x, e1, yok_same e2⟩
theorem wok_tup {a : Addr} {xs : List PV} {vs : List V} (h : SqT C.K F a vs) (hv : RVs C F xs vs) : WOk C F xs (Itt C.K a) := by
  refine ⟨_, _, by rw [hv.length]; exact walk_tup, fun F1 H s s' => Same.tseq (s.trans s') h, fun i H v H' hi y => ?_⟩
  obtain ⟨e, hy⟩ := y
  subst e
  obtain ⟨x, e1, e2⟩ := hv.get' hy
  exact ⟨x, e1, yok_same e2⟩
theorem rngL_length (lo hi : Int) : (rngL lo hi).length = (hi - lo).toNat := by unfold rngL; rw [List.length_map, List.length_range]
theorem wok_rng {lo hi : Int} : WOk C F (rngL lo hi) (Itr lo (hi - lo).toNat) := by
  refine ⟨_, _, by rw [rngL_length]; exact walk_range, fun _ _ _ _ => trivial, fun i H v H' hl y => ?_⟩
  obtain ⟨e, hy⟩ := y
  subst e
  rw [rngL_length] at hl
  refine ⟨.int (lo + (i : Nat)), ?_, yok_same hy⟩
  unfold rngL
  rw [List.getElem?_map, List.getElem?_range hl]
  rfl
theorem enumL_get {xs : List PV} {i : Nat} {x : PV} (h : xs[i]? = some x) : (enumL xs)[i]? = some (.tup [.int i, x]) := by
  unfold enumL
  rw [List.getElem?_map, List.getElem?_zipIdx, h]
  simp
theorem enumL_length (xs : List PV) : (enumL xs).length = xs.length := by unfold enumL; rw [List.length_map, List.length_zipIdx]
theorem wok_enum {a : Addr} {xs : List PV} {vs : List V} (h : SqL C.K F a vs) (hv : RVs C F xs vs) : WOk C F (enumL xs) (Ite C.K a) := by
  refine ⟨_, _, by rw [enumL_length, hv.length]; exact walk_enum, fun F1 H s s' => Same.seq (s.trans s') h, fun i H v H' hi y => ?_⟩
  obtain ⟨T, u, w, rfl, hT, rfl, e1, e2⟩ := y
  obtain ⟨x, g1, g2⟩ := hv.get' e2
  cases e1
  exact ⟨_, enumL_get g1, yok_pair hT rfl g2⟩
theorem zipL_get {xs ys : List PV} {i : Nat} {x y : PV} (h : xs[i]? = some x) (k : ys[i]? = some y) : (zipL xs ys)[i]? = some (.tup [x, y]) := by
  unfold zipL
  rw [List.getElem?_map, List.getElem?_zip_eq_some (z := (x, y)) |>.mpr ⟨h, k⟩]
  rfl
theorem zipL_length (xs ys : List PV) : (zipL xs ys).length = min xs.length ys.length := by unfold zipL; rw [List.length_map, List.length_zip]
theorem wok_zip {a b : Addr} {xs ys : List PV} {vs ws : List V} (h : SqL C.K F a vs) (hv : RVs C F xs vs) (k : SqL C.K F b ws) (kv : RVs C F ys ws) : WOk C F (zipL xs ys) (Itz C.K a b) := by
  refine ⟨_, _, walk_zip (xs := vs) (ys := ws) (by rw [zipL_length, hv.length, kv.length]), fun F1 H s s' => ⟨Same.seq (s.trans s') h, Same.seq (s.trans s') k⟩, fun i H v H' hi y => ?_⟩
  obtain ⟨T, u, w, rfl, hT, rfl, e1, e2⟩ := y
  obtain ⟨x, g1, g2⟩ := hv.get' e1
  obtain ⟨y, g3, g4⟩ := kv.get' e2
  exact ⟨_, zipL_get g1 g3, yok_pair hT g2 g4⟩
theorem walk_zipT {K : PySem.W.Frag} {a b : Addr} {xs ys : List V} {n : Nat} (hn : n = min xs.length ys.length) : Walk (ItzT K a b) n (fun H => SqT K H a xs ∧ SqT K H b ys) (YPair (fun i => xs[i]?) (fun i => ys[i]?)) := by
  subst hn
  refine ⟨fun i H hi ⟨q1, q2⟩ => ?_, fun H ⟨q1, q2⟩ => ⟨xs, ys, q1, q2, by omega⟩, fun i H v H' _ ⟨q1, q2⟩ y => ?_⟩
  · have l1 : i < xs.length := by omega
    have l2 : i < ys.length := by omega
    exact ⟨xs, ys, _, _, q1, q2, List.getElem?_eq_getElem l1, List.getElem?_eq_getElem l2⟩
  · obtain ⟨T, u, w, e, hT, eH, k1, k2⟩ := y
    exact ⟨T, u, w, e, hT, eH, k1 _ q1, k2 _ q2⟩
theorem wok_zipT {a b : Addr} {xs ys : List PV} {vs ws : List V} (h : SqT C.K F a vs) (hv : RVs C F xs vs) (k : SqT C.K F b ws) (kv : RVs C F ys ws) : WOk C F (zipL xs ys) (ItzT C.K a b) := by
  refine ⟨_, _, walk_zipT (xs := vs) (ys := ws) (by rw [zipL_length, hv.length, kv.length]), fun F1 H s s' => ⟨Same.tseq (s.trans s') h, Same.tseq (s.trans s') k⟩, fun i H v H' hi y => ?_⟩
  obtain ⟨T, u, w, rfl, hT, rfl, e1, e2⟩ := y
  obtain ⟨x, g1, g2⟩ := hv.get' e1
  obtain ⟨y, g3, g4⟩ := kv.get' e2
  exact ⟨_, zipL_get g1 g3, yok_pair hT g2 g4⟩
end

/-! ### targets -/
/-- what stands outside of some slots is as it was -/
def Off (S : List Nat) (σ σ' : L2.St) : Prop := σ'.length = σ.length ∧ ∀ j, j ∉ S → σ'[j]? = σ[j]?
theorem Off.refl {S : List Nat} {σ : L2.St} : Off S σ σ := ⟨rfl, fun _ _ => rfl⟩
theorem Off.trans {S S' : List Nat} {σ σ1 σ2 : L2.St} (a : Off S σ σ1) (b : Off S' σ1 σ2) : Off (S ++ S') σ σ2 := ⟨b.1.trans a.1, fun j hj => (b.2 j fun h => hj (List.mem_append_right _ h)).trans (a.2 j fun h => hj (List.mem_append_left _ h))⟩
theorem Off.set {i : Nat} {σ : L2.St} {o : Option V} : Off [i] σ (σ.set i o) := ⟨List.length_set, fun j hj => List.getElem?_set_ne fun e => hj (by simp [e])⟩
def LG (C : RC) (S : List Nat) (T : PV → PSt → (PSt → Prop) → Prop) : TG := fun v σ H Qh => ∃ F ow p ts x K, Rel C F ow p ts σ H ∧ (∀ t ∈ ts, ∀ i xs, t.1 = .bor i xs → i ∉ S) ∧ RV C F x v ∧ T x p K ∧
  ∀ p' σ', Off S σ σ' → Rel C F ow p' ts σ' H → K p' → Qh σ' H
def LGs (C : RC) (S : List Nat) (T : List PV → PSt → (PSt → Prop) → Prop) : TGs := fun vs σ H Qh => ∃ F ow p ts xs K, Rel C F ow p ts σ H ∧ (∀ t ∈ ts, ∀ i xs, t.1 = .bor i xs → i ∉ S) ∧ RVs C F xs vs ∧ T xs p K ∧
  ∀ p' σ', Off S σ σ' → Rel C F ow p' ts σ' H → K p' → Qh σ' H
theorem PG.imp {X : Cx} {e : Expr} {t t' : TG} (h : PG X e t) (k : ∀ v σ H Q, t' v σ H Q → t v σ H Q) : PG X e t' := ⟨fun pins s σ H v u Q I r q => h.run pins s σ H v u Q I r (k v σ H Q q)⟩
theorem PGs.imp {X : Cx} {e : List Expr} {t t' : TGs} (h : PGs X e t) (k : ∀ v σ H Q, t' v σ H Q → t v σ H Q) : PGs X e t' := ⟨fun pins s σ H v u Q I r q => h.run pins s σ H v u Q I r (k v σ H Q q)⟩
theorem PG.alt {X : Cx} {e : Expr} {t t' : TG} (h : PG X e t) (h' : PG X e t') : PG X e (fun v σ H Q => t v σ H Q ∨ t' v σ H Q) := ⟨fun pins s σ H v u Q I r q => by
  rcases q with q | q
  · exact h.run pins s σ H v u Q I r q
  · exact h'.run pins s σ H v u Q I r q⟩
section
variable {X : Cx} {C : RC} {G : CG} {Γ : Nat → PSpec} {k : Nat} {sc : Scope} {F : Hp} {ow : Addr → Option Id} {p : PSt} {ts : List (Slot × V)} {σ : L2.St} {H : Hp} {v : V}
theorem Ent.slotMono {id : Id} {s : Slot} {o : Option V} {σ' : L2.St} (h : Ent C F ow σ H id s o) (hb : ∀ j xs, s = .bor j xs → σ'[j]? = σ[j]?) : Ent C F ow σ' H id s o := by
  cases s with
  | un => trivial
  | val y => exact h
  | own ys => exact h
  | bor n ys =>
    obtain ⟨a, vs, e, h1, h2, h3, h4, h5⟩ := h
    exact ⟨a, vs, e, h1, h2, h3, by rw [hb n ys rfl]; exact h4, h5⟩
theorem Tms.slotMono {σ' : L2.St} : ∀ {ts : List (Slot × V)}, Tms C F ow σ H ts → (∀ t ∈ ts, ∀ j xs, t.1 = .bor j xs → σ'[j]? = σ[j]?) → Tms C F ow σ' H ts
  | [], _, _ => trivial
  | t :: ts, h, hb => ⟨h.1.slotMono (hb t List.mem_cons_self), Tms.slotMono h.2 fun u hu => hb u (List.mem_cons_of_mem _ hu)⟩
/-- a name takes a frozen value -/
theorem Rel.store (R : Rel C F ow p ts σ H) {x : PV} {i : Nat} (h : RV C F x v) (hi : i < σ.length) (hb : ∀ t ∈ ts, ∀ j xs, t.1 = .bor j xs → j ≠ i) : Rel C F ow (p.set i (.val x)) ts (σ.set i (some v)) H := by
  have hp : i < p.sl.length := by rw [R.len]; exact hi
  refine ⟨R.fh, R.bf, R.new, R.keep, R.oww, R.cok, R.cfr, ?_, fun j => ?_, R.tm.slotMono fun t ht j xs e => List.getElem?_set_ne (Ne.symm (hb t ht j xs e)), nob_set R.nob hp (by intro j ys; exact fun q => nomatch q)⟩
  · show (p.sl.set i _).length = _
    rw [List.length_set, List.length_set, R.len]
  · rw [get_set hp, List.getElem?_set]
    by_cases q : i = j
    · subst q
      rw [if_pos rfl, if_pos rfl, if_pos hi]
      exact ⟨v, rfl, h⟩
    · rw [if_neg q, if_neg q]
      exact (R.sl j).slotMono fun n xs e => absurd e (R.nob j n xs)
mutual
theorem bindT_ex : ∀ (t : TgI) (x : PV) (p : PSt) (K : PSt → Prop), bindT t x p K → ∃ p', K p'
  | .nm _, _, _, _, h => ⟨_, h⟩
  | .ow _, _, _, _, h => ⟨_, h⟩
  | .tup ts, x, p, K, h => by
    cases x with
    | tup xs => exact bindTs_ex ts xs p K h
    | lst xs => exact bindTs_ex ts xs p K h
    | _ => exact False.elim h
theorem bindTs_ex : ∀ (ts : List TgI) (xs : List PV) (p : PSt) (K : PSt → Prop), bindT.bindTs ts xs p K → ∃ p', K p'
  | [], [], _, _, h => ⟨_, h⟩
  | [], _ :: _, _, _, h => h.elim
  | _ :: _, [], _, _, h => h.elim
  | t :: ts, x :: xs, p, K, h => by
    obtain ⟨p1, h1⟩ := bindT_ex t x p _ h
    exact bindTs_ex ts xs p1 K h1
end
theorem bindTs_len : ∀ (ts : List TgI) (xs : List PV) (p : PSt) (K : PSt → Prop), bindT.bindTs ts xs p K → xs.length = ts.length
  | [], [], _, _, h => rfl
  | [], _ :: _, _, _, h => h.elim
  | _ :: _, [], _, _, h => h.elim
  | t :: ts, x :: xs, p, K, h => by
    obtain ⟨p1, h1⟩ := bindT_ex t x p _ h
    rw [List.length_cons, List.length_cons, bindTs_len ts xs p1 K h1]
theorem tgt_ok {st : Scope} (c : Cn X C G Γ k sc) (hl : ∀ x, st.names.lookup x = some .local → sc.names.lookup x = some .local) (hc : ∀ x, st.names.lookup x = some .cell → sc.names.lookup x = some .cell ∧ X.fn x = true) : ∀ (n : Nat),
    (∀ (b : Bool) (e : Expr) (t : TgI), cTgt G st b n e = some t → isStar e = false ∧ PG X e (LG C (tgSlots t) (bindT t))) ∧
    (∀ (b : Bool) (es : List Expr) (ts : List TgI), cTgts G st b n es = some ts → (∀ e ∈ es, isStar e = false) ∧ es.length = ts.length ∧ PGs X es (LGs C (tgsSlots ts) (bindT.bindTs ts)))
  | 0 => ⟨fun b e t h => by simp [cTgt] at h, fun b es ts h => by simp [cTgts] at h⟩
  | n + 1 => by
    obtain ⟨ih1, ih2⟩ := tgt_ok c hl hc n
    have name : ∀ (x : Str) (pos : Pos) (i : Nat), G.N.findIdx? (· == x) = some i → (st.names.lookup x = some .local ∨ st.names.lookup x = some .cell) → PG X (.Name x pos) (gName i) := fun x pos i hi hx => by
      have h1 : X.N[i]? = some x := by rw [c.N]; exact findIdx_get hi
      refine pg_name (by rw [c.N]; exact c.nd) h1 (by show _ ∨ _; rw [c.scp]; exact hx.imp (hl x) fun h => (hc x h).1) ?_
      rcases hx with h | h
      · exact .inr (by rw [c.scp]; exact hl x h)
      · exact .inl (hc x h).2
    refine ⟨fun b e t h => ?_, fun b es ts h => ?_⟩
    · unfold cTgt at h
      cases e with
      | Name x pos =>
        refine ⟨rfl, ?_⟩
        have key : ∃ i, G.N.findIdx? (· == x) = some i ∧ (st.names.lookup x = some .local ∨ st.names.lookup x = some .cell) ∧ (t = .nm i ∨ t = .ow i) := by
          dsimp only at h
          split at h
          · rename_i hl
            obtain ⟨i, h1, h2⟩ := Option.map_eq_some_iff.mp h
            exact ⟨i, h1, .inl hl, by split at h2 <;> simp [← h2]⟩
          · rename_i hl
            obtain ⟨i, h1, h2⟩ := Option.map_eq_some_iff.mp h
            exact ⟨i, h1, .inr hl, by split at h2 <;> simp [← h2]⟩
          · cases h
        obtain ⟨i, h1, h2, h3⟩ := key
        refine PG.imp (name x pos i h1 h2) fun v σ H Q q => ?_
        obtain ⟨F, ow, p, ts, y, K, R, hb, hr, ht, post⟩ := q
        have hS : tgSlots t = [i] := by rcases h3 with rfl | rfl <;> rfl
        rw [hS] at hb post
        have hk : K (p.set i (.val y)) := by rcases h3 with rfl | rfl <;> exact ht
        have hi : ∀ {σ : L2.St}, Rel C F ow p ts σ H → i < σ.length ∨ ¬ i < σ.length := fun _ => Nat.lt_or_ge _ _ |>.imp id (fun z => Nat.not_lt.mpr z)
        rcases hi R with hi | hi
        · exact post _ _ Off.set (R.store hr hi fun t ht j xs e z => hb t ht j xs e (by simp [z])) hk
        · have e1 : σ.set i (some v) = σ := List.set_eq_of_length_le (Nat.not_lt.mp hi)
          have e2 : p.set i (.val y) = p := by
            unfold PSt.set
            rw [List.set_eq_of_length_le (by rw [R.len]; exact Nat.not_lt.mp hi)]
          show Q (σ.set i (some v)) H
          rw [e1]
          rw [e2] at hk
          exact post _ _ Off.refl R hk
      | Tuple es kk pos =>
        refine ⟨rfl, ?_⟩
        dsimp only at h
        obtain ⟨ts, h1, h2⟩ := Option.map_eq_some_iff.mp h
        subst h2
        obtain ⟨g1, g3, g2⟩ := ih2 b es ts h1
        have e1 : ∀ es : List Expr, (∀ e ∈ es, isStar e = false) → (assignEach es X.env).length = es.length ∧ (assignEach es X.env).findIdx? (·.1) = none := fun es => by
          induction es with
          | nil => exact fun _ => ⟨rfl, rfl⟩
          | cons e es ih =>
            intro hs
            obtain ⟨i1, i2⟩ := ih fun x hx => hs x (List.mem_cons_of_mem _ hx)
            have he := hs e List.mem_cons_self
            have ea : assignEach (e :: es) X.env = (false, assign e X.env) :: assignEach es X.env := by
              cases e <;> first | rfl | cases he
            rw [ea]
            exact ⟨by rw [List.length_cons, List.length_cons, i1], by rw [List.findIdx?_cons, i2]; rfl⟩
        obtain ⟨e2, e3⟩ := e1 es g1
        refine PG.imp (PG.alt (pg_tup c.calm g2 e2 e3) (pg_lst c.calm g2 e2 e3)) fun v σ H Q q => ?_
        obtain ⟨F, ow, p, us, y, K, R, hb, hr, ht, post⟩ := q
        cases y with
        | tup xs =>
          obtain ⟨a, vs, rfl, h3, h4⟩ := hr
          refine .inl ⟨a, vs, rfl, by rw [c.K]; exact Same.tseq R.fh h3, ?_, F, ow, p, us, xs, K, R, hb, h4, ht, post⟩
          rw [← h4.length, g3]
          exact bindTs_len ts xs p K ht
        | lst xs =>
          obtain ⟨a, vs, rfl, h3, h4⟩ := hr
          refine .inr ⟨a, vs, rfl, SqL.of (R.fh _ _ h3), ?_, F, ow, p, us, xs, K, R, hb, h4, ht, post⟩
          rw [← h4.length, g3]
          exact bindTs_len ts xs p K ht
        | _ => exact ht.elim
      | _ => cases h
    · cases es with
      | nil =>
        simp only [cTgts] at h
        cases h
        refine ⟨fun e he => (nomatch he), rfl, PGs.imp pgs_nil fun v σ H Q q => ?_⟩
        obtain ⟨F, ow, p, us, xs, K, R, hb, hr, ht, post⟩ := q
        cases xs with
        | nil => exact ⟨hr, post _ _ Off.refl R ht⟩
        | cons x xs => exact ht.elim
      | cons e es =>
        simp only [cTgts] at h
        split at h
        rotate_left
        · cases h
        rename_i t ts h1 h2
        cases h
        obtain ⟨a1, a2⟩ := ih1 b e t h1
        obtain ⟨b1, b3, b2⟩ := ih2 b es ts h2
        refine ⟨fun x hx => ?_, ?_, ?_⟩
        · rcases List.mem_cons.mp hx with rfl | hx
          · exact a1
          · exact b1 x hx
        · rw [List.length_cons, List.length_cons, b3]
        · have ea : (assignEach (e :: es) X.env).map (·.2) = assign e X.env :: (assignEach es X.env).map (·.2) := by
            cases e <;> first | rfl | cases a1
          refine PGs.imp (pgs_cons a2 b2 ea) fun v σ H Q q => ?_
          obtain ⟨F, ow, p, us, xs, K, R, hb, hr, ht, post⟩ := q
          cases xs with
          | nil => exact ht.elim
          | cons x xs =>
            obtain ⟨w, r, rfl, r1, r2⟩ := hr
            refine ⟨w, r, rfl, F, ow, p, us, x, _, R, fun t ht i ys e z => hb t ht i ys e (List.mem_append_left _ z), r1, ht, fun p1 σ1 o1 R1 k1 => ?_⟩
            exact ⟨F, ow, p1, us, xs, _, R1, fun t ht i ys e z => hb t ht i ys e (List.mem_append_right _ z), r2, k1, fun p2 σ2 o2 R2 k2 => post _ _ (o1.trans o2) R2 k2⟩
end
end R

set_option Elab.async false
set_option linter.all false
set_option maxRecDepth 100000
/-! R: comprehensions. -/
namespace R
open PySem PySem.Spec PyProof.Rows L2 RZ
section
variable {X : Cx} {C : RC} {F F1 : Hp} {ow ow1 : Addr → Option Id} {p p1 : PSt} {ts ts1 : List (Slot × V)} {σ σ2 : L2.St} {H H1 : Hp} {v : V} {sl sl0 : List Slot} {d : Nat}
theorem wipeP_len : ∀ (vs : List Nat), (wipeP sl vs).length = sl.length
  | [] => rfl
  | v :: vs => by unfold wipeP; rw [List.length_set, wipeP_len vs]
theorem backP_len : ∀ (vs : List Nat), (backP sl0 sl vs).length = sl.length
  | [] => rfl
  | v :: vs => by unfold backP; rw [List.length_set, backP_len vs]
theorem wipeP_get (i : Nat) : ∀ (vs : List Nat), (wipeP sl vs).getD i .un = if i ∈ vs then .un else sl.getD i .un
  | [] => by simp [wipeP]
  | v :: vs => by
    unfold wipeP
    by_cases hv : v < (wipeP sl vs).length
    · rw [getD_set hv, wipeP_get i vs]
      by_cases e : v = i
      · simp [e]
      · have e' : ¬ i = v := fun z => e z.symm
        simp [e, e']
    · rw [List.set_eq_of_length_le (Nat.not_lt.mp hv), wipeP_get i vs]
      by_cases e : i = v
      · have : sl.getD i .un = .un := by
          rw [List.getD_eq_getElem?_getD, List.getElem?_eq_none (by rw [wipeP_len] at hv; omega)]
          rfl
        rw [this, ite_self, ite_self]
      · simp [e]
theorem backP_get (i : Nat) (hl : sl0.length = sl.length) : ∀ (vs : List Nat), (backP sl0 sl vs).getD i .un = if i ∈ vs then sl0.getD i .un else sl.getD i .un
  | [] => by simp [backP]
  | v :: vs => by
    unfold backP
    by_cases hv : v < (backP sl0 sl vs).length
    · rw [getD_set hv, backP_get i hl vs]
      by_cases e : v = i
      · simp [e]
      · have e' : ¬ i = v := fun z => e z.symm
        simp [e, e']
    · rw [List.set_eq_of_length_le (Nat.not_lt.mp hv), backP_get i hl vs]
      by_cases e : i = v
      · have h1 : sl.getD i .un = .un := by
          rw [List.getD_eq_getElem?_getD, List.getElem?_eq_none (by rw [backP_len] at hv; omega)]
          rfl
        have h2 : sl0.getD i .un = .un := by
          rw [List.getD_eq_getElem?_getD, List.getElem?_eq_none (by rw [backP_len] at hv; omega)]
          rfl
        rw [h1, h2, ite_self, ite_self]
      · simp [e]
theorem wipe_get (i : Nat) : ∀ (vs : List Nat), i ∉ vs → (wipe σ vs)[i]? = σ[i]?
  | [], _ => rfl
  | v :: vs, h => by
    unfold wipe
    rw [List.getElem?_set_ne (fun e => h (by simp [e])), wipe_get i vs fun z => h (List.mem_cons_of_mem _ z)]
/-- the own names' slots of a comprehension own no list -/
def Apart (C : RC) (vs : List Nat) : Prop := ∀ i ∈ vs, C.M i = false
theorem Rel.bors (R : Rel C F ow p ts σ H) : ∀ t ∈ ts, ∀ i xs, t.1 = .bor i xs → C.M i = true := by
  have key : ∀ {ts : List (Slot × V)}, Tms C F ow σ H ts → ∀ t ∈ ts, ∀ i xs, t.1 = .bor i xs → C.M i = true := fun {ts} => by
    induction ts with
    | nil => exact fun _ t ht => nomatch ht
    | cons u us ih =>
      intro h t ht i xs e
      rcases List.mem_cons.mp ht with rfl | ht
      · have h1 := h.1
        rw [e] at h1
        obtain ⟨_, _, _, _, _, _, _, h6⟩ := h1
        exact h6
      · exact ih h.2 t ht i xs e
  exact key R.tm
/-- into the block: the own names are forgotten -/
theorem Rel.wiped {vs : List Nat} (R : Rel C F ow ⟨backP sl0 sl vs, d⟩ ts σ H) (hl : sl0.length = sl.length) (ha : Apart C vs) : Rel C F ow ⟨wipeP sl vs, d⟩ ts (wipe σ vs) H := by
  refine ⟨R.fh, R.bf, R.new, R.keep, R.oww, R.cok, R.cfr, ?_, fun i => ?_, R.tm.slotMono fun t ht i xs e => wipe_get i vs fun z => ?_, fun i j xs => ?_⟩
  · have := R.len
    show (wipeP sl vs).length = _
    rw [wipeP_len, wipe_length, ← this]
    exact (backP_len vs).symm
  · show Ent C F ow _ H _ ((wipeP sl vs).getD i .un) _
    rw [wipeP_get]
    by_cases hi : i ∈ vs
    · rw [if_pos hi]
      trivial
    · rw [if_neg hi, wipe_get i vs hi]
      have := R.sl i
      have e : (⟨backP sl0 sl vs, d⟩ : PSt).get i = sl.getD i .un := by
        show (backP sl0 sl vs).getD i .un = _
        rw [backP_get i hl, if_neg hi]
      rw [e] at this
      exact this.slotMono fun j xs e2 => absurd (e.trans e2) (R.nob i j xs)
  · have := R.bors t ht i xs e
    rw [ha i z] at this
    cases this
  · show (wipeP sl vs).getD i .un ≠ _
    rw [wipeP_get]
    by_cases hi : i ∈ vs
    · rw [if_pos hi]
      exact fun z => nomatch z
    · rw [if_neg hi]
      have e : (⟨backP sl0 sl vs, d⟩ : PSt).get i = sl.getD i .un := by
        show (backP sl0 sl vs).getD i .un = _
        rw [backP_get i hl, if_neg hi]
      rw [← e]
      exact R.nob i j xs
/-- out of the block: they are as they were -/
theorem Rel.back {vs : List Nat} (R1 : Rel C F1 ow1 p1 ts1 σ H1) (s : Same F1 F) (R : Rel C F ow ⟨sl, d⟩ ts σ2 H) (ho : wipe σ2 vs = wipe σ vs) (ha : Apart C vs) : Rel C F ow ⟨backP p1.sl sl vs, d⟩ ts σ H := by
  have hσ : ∀ i, i ∉ vs → σ2[i]? = σ[i]? := fun i hi => by rw [← wipe_get (σ := σ2) i vs hi, ho, wipe_get i vs hi]
  have hlen : σ2.length = σ.length := by rw [← wipe_length σ2 vs, ho, wipe_length]
  have hl : p1.sl.length = sl.length := by
    have a := R1.len
    have b : sl.length = σ2.length := R.len
    omega
  refine ⟨R.fh, R.bf, R.new, R.keep, R.oww, R.cok, R.cfr, ?_, fun i => ?_, R.tm.slotMono fun t ht i xs e => (hσ i fun z => ?_).symm, fun i j xs => ?_⟩
  · show (backP p1.sl sl vs).length = _
    rw [backP_len]
    have b : sl.length = σ2.length := R.len
    omega
  · show Ent C F ow _ H _ ((backP p1.sl sl vs).getD i .un) _
    rw [backP_get i hl]
    by_cases hi : i ∈ vs
    · rw [if_pos hi]
      have := R1.sl i
      revert this
      show Ent C F1 ow1 σ H1 _ (p1.sl.getD i .un) _ → _
      have nb := R1.nob i
      revert nb
      show (∀ j xs, p1.sl.getD i .un ≠ _) → _
      generalize p1.sl.getD i .un = s0
      intro nb this
      cases s0 with
      | un => trivial
      | val y =>
        obtain ⟨x, e, h1⟩ := this
        exact ⟨x, e, h1.mono (.refl C) s⟩
      | own ys =>
        obtain ⟨_, _, _, _, _, _, h6⟩ := this
        have := h6 i rfl
        rw [ha i hi] at this
        cases this
      | bor n ys => exact absurd rfl (nb n ys)
    · rw [if_neg hi, ← hσ i hi]
      exact (R.sl i).slotMono fun j xs e2 => absurd e2 (R.nob i j xs)
  · have := R.bors t ht i xs e
    rw [ha i z] at this
    cases this
  · show (backP p1.sl sl vs).getD i .un ≠ _
    rw [backP_get i hl]
    by_cases hi : i ∈ vs
    · rw [if_pos hi]
      exact R1.nob i j xs
    · rw [if_neg hi]
      exact R.nob i j xs
theorem wipe_off {S vs : List Nat} (h : Off S (wipe σ vs) σ2) (hs : ∀ i ∈ S, i ∈ vs) : wipe σ2 vs = wipe σ vs := by
  have get : ∀ (σ : L2.St) (i : Nat), (wipe σ vs)[i]? = if i ∈ vs then (if i < σ.length then some none else none) else σ[i]? := fun σ i => by
    by_cases hi : i ∈ vs
    · rw [if_pos hi]
      have key : ∀ (vs : List Nat), i ∈ vs → (wipe σ vs)[i]? = if i < σ.length then some none else none := fun vs => by
        induction vs with
        | nil => exact fun h => nomatch h
        | cons v vs ih =>
          intro h
          unfold wipe
          by_cases e : v = i
          · subst e
            rw [List.getElem?_set]
            rw [if_pos rfl, wipe_length]
          · rw [List.getElem?_set_ne e]
            exact ih ((List.mem_cons.mp h).resolve_left fun z => e z.symm)
      exact key vs hi
    · rw [if_neg hi, wipe_get i vs hi]
  apply List.ext_getElem?
  intro i
  have hl : σ2.length = σ.length := by rw [h.1, wipe_length]
  rw [get, get]
  by_cases hi : i ∈ vs
  · rw [if_pos hi, if_pos hi, hl]
  · rw [if_neg hi, if_neg hi, h.2 i fun z => hi (hs i z), wipe_get i vs hi]

/-- a temp on top grows -/
theorem Rel.grow (R : Rel C F ow p ((.own xs, .ref a) :: ts) σ H) {x : PV} {ws : List V} (hv : RV C F x v) (hH : H a = some (.lst ws)) : Rel C F ow p ((.own (xs ++ [x]), .ref a) :: ts) σ (upd H a (.lst (ws ++ [v]))) := by
  obtain ⟨b, vs, e, h1, h2, h3, h4⟩ := R.top
  cases e
  rw [hH] at h1
  cases h1
  obtain ⟨g1, g2, g3⟩ := R.oww a _ h2
  have hn : ∀ b i, ow b = some i → i ≠ .inr ts.length → b ≠ a := fun b i e hi z => by
    subst z
    rw [h2] at e
    exact hi (Option.some.inj e).symm
  have hc : ∀ b, C.cell = some b → b ≠ a := fun b e z => by
    subst z
    exact (R.cfr _ e).2 g2
  have up : ∀ b o, b ≠ a → H b = some o → upd H a (.lst (ws ++ [v])) b = some o := fun b o hb e => by rw [upd_ne hb]; exact e
  have ent : ∀ id s o, id ≠ .inr ts.length → Ent C F ow σ H id s o → Ent C F ow σ (upd H a (.lst (ws ++ [v]))) id s o := fun id s o hid h => by
    cases s with
    | un => trivial
    | val y => exact h
    | own ys =>
      obtain ⟨b, vs, e, k1, k2, k3⟩ := h
      exact ⟨b, vs, e, up b _ (hn b id k2 hid) k1, k2, k3⟩
    | bor n ys =>
      obtain ⟨b, vs, e, k1, k2, k3⟩ := h
      refine ⟨b, vs, e, up b _ (fun z => ?_) k1, k2, k3⟩
      subst z
      rcases k2 with k2 | k2
      · rw [h2] at k2
        cases k2
      · rw [g1] at k2
        cases k2
  have tms : ∀ {us : List (Slot × V)}, us.length ≤ ts.length → Tms C F ow σ H us → Tms C F ow σ (upd H a (.lst (ws ++ [v]))) us := fun {us} => by
    induction us with
    | nil => exact fun _ _ => trivial
    | cons u us ih =>
      intro hl h
      rw [List.length_cons] at hl
      exact ⟨ent _ _ _ (fun z => by have := Sum.inr.inj z; omega) h.1, ih (by omega) h.2⟩
  refine ⟨fun b o e => ?_, R.bf, R.new, fun b o hb e => ?_, fun b i e => ?_, fun b e => ?_, R.cfr, R.len, fun i => ent _ _ _ (fun z => nomatch z) (R.sl i), ⟨⟨a, _, rfl, upd_same, h2, h3.append (.one hv), fun i e => (nomatch e)⟩, tms (Nat.le_refl _) R.tm.2⟩, R.nob⟩
  · exact up b o (fun z => by subst z; rw [g1] at e; cases e) (R.fh b o e)
  · exact up b o (fun z => by subst z; rw [g2] at e; cases e) (R.keep b o hb e)
  · obtain ⟨k1, k2, k3⟩ := R.oww b i e
    refine ⟨k1, k2, ?_⟩
    by_cases z : b = a
    · rw [z, upd_same]; exact fun q => nomatch q
    · rw [upd_ne z]; exact k3
  · obtain ⟨x, y, z, k1, k2⟩ := R.cok b e
    exact ⟨x, y, z, up b _ (hc b e) k1, k2⟩

/-- THE COMPREHENSION over the heap -/
theorem comp_ok {Γ : Nat → PSpec} {elt : IE} {tg : TgI} {it : II} {cnd : IT} {vs : List Nat} (ha : Apart C vs) (hS : ∀ i ∈ tgSlots tg, i ∈ vs) (hX : EX → Prop) {Q : VK} (h : LE hX C (evE Γ (.comp elt tg it cnd vs)) σ H Q) :
    tLc (LI NX C (evIt Γ it)) (LG C (tgSlots tg) (bindT tg)) (LT NX C (evT Γ cnd)) (LE NX C (evE Γ elt)) vs σ H Q := by
  obtain ⟨F, ow, p, ts, K, E, R, hx, h, post⟩ := h
  have hz := line_eq
  have never : NX (fun _ _ => False) := fun _ _ z => z
  refine ⟨F, ow, p, ts, _, _, R, never, (by unfold evE at h; exact h), fun items p1 F1 ow1 H1 J s1 R1 hw wok D hD => ?_⟩
  obtain ⟨Gh, Y, walk, gh, yld⟩ := wok
  let Kw : List PV → PSt → Prop := fun acc p2 => K (.own acc) p2
  let W := walkC p1.sl vs (bindT tg) (fun q J => evT Γ cnd q J (fun _ _ => False)) (fun q J => evE Γ elt q (fun r q1 => esc r q1 J) (fun _ _ => False))
  let Pv : Nat → Hp → Prop := fun i H2 => ∃ F2 ow2 d sl acc, Same F1 F2 ∧ p1.sl.length = sl.length ∧ Rel C F2 ow2 ⟨backP p1.sl sl vs, d⟩ ((.own acc, .ref D) :: ts) σ H2 ∧ W (items.drop i) acc d sl Kw
  refine lc_it walk Pv ?_ (fun i H2 _ ⟨F2, ow2, d, sl, acc, s2, _, R2, _⟩ => gh F2 H2 s2 R2.fh) (fun i x H2 H3 hi ⟨F2, ow2, d, sl, acc, s2, hl, R2, w⟩ y => ?_) (fun H2 ⟨F2, ow2, d, sl, acc, s2, hl, R2, w⟩ => ?_)
  · refine ⟨F1, owset ow1 D (some (.inr ts.length)), p1.d, p1.sl, [], .refl F1, rfl, ?_, hw⟩
    have e : (⟨backP p1.sl p1.sl vs, p1.d⟩ : PSt) = p1 := by
      have e1 : backP p1.sl p1.sl vs = p1.sl := by
        apply List.ext_getElem?
        intro i
        have := backP_get (sl0 := p1.sl) (sl := p1.sl) i rfl vs
        rw [ite_self, List.getD_eq_getElem?_getD, List.getD_eq_getElem?_getD] at this
        by_cases q : i < p1.sl.length
        · rw [List.getElem?_eq_getElem q, List.getElem?_eq_getElem (by rw [backP_len]; exact q)] at this ⊢
          exact congrArg some this
        · rw [List.getElem?_eq_none (Nat.not_lt.mp q), List.getElem?_eq_none (by rw [backP_len]; exact Nat.not_lt.mp q)]
      rw [e1]
    rw [e]
    exact R1.pushNew hD rfl
  · obtain ⟨x0, hx0, yok⟩ := yld i H2 x H3 hi y
    have e : items.drop i = x0 :: items.drop (i + 1) := by
      obtain ⟨hlt, e1⟩ := List.getElem?_eq_some_iff.mp hx0
      rw [List.drop_eq_getElem_cons hlt, e1]
    rw [e] at w
    obtain ⟨F3, s3, R3, hv⟩ := yok F2 ow2 _ _ _ s2 R2
    have R3w := R3.wiped hl ha
    refine ⟨F3, ow2, _, _, x0, _, R3w, fun t ht j ys e1 z => ?_, hv, w, fun p4 σ4 o4 R4 k4 => ⟨wipe_off o4 hS, F3, ow2, p4, _, _, _, R4, never, k4, fun b p5 F5 ow5 H5 s5 R5 k5 => ?_⟩⟩
    · have := R3w.bors t ht j ys e1
      rw [ha j (hS j z)] at this
      cases this
    · have lenOf : ∀ {F ow q ts' H}, Rel C F ow q ts' σ4 H → p1.sl.length = q.sl.length := fun R => by
        have h1 := R.len
        have h2 := R1.len
        have h3 := o4.1
        rw [wipe_length] at h3
        omega
      cases b with
      | true =>
        refine iteT ?_
        rw [cnd_t] at k5
        refine ⟨F5, ow5, p5, _, _, _, R5, never, k5, fun r p6 u F6 ow6 H6 s6 R6 k6 => ?_⟩
        obtain ⟨z, p7, F7, ow7, s7, R7, hv7, hlen, k7⟩ := R6.esc k6
        obtain ⟨a, ws, ea, hH6, h2, h3, _⟩ := R7.top
        cases ea
        refine ⟨ws, hH6, by rw [hz, ← h3.length]; exact hlen, F7, ow7, p7.d, p7.sl, _, (s2.trans (s3.trans (s5.trans (s6.trans s7)))), lenOf R7, ?_, k7⟩
        exact (R1.back (s2.trans (s3.trans (s5.trans (s6.trans s7)))) R7 (wipe_off o4 hS) ha).grow hv7 hH6
      | false =>
        refine iteF ?_
        rw [cnd_f] at k5
        exact ⟨F5, ow5, p5.d, p5.sl, acc, s2.trans (s3.trans s5), lenOf R5, R1.back (s2.trans (s3.trans s5)) R5 (wipe_off o4 hS) ha, k5⟩
  · have e : items.drop items.length = [] := List.drop_length
    rw [e] at w
    exact post _ _ _ F2 ow2 H2 (s1.trans s2) R2 w
end
end R

set_option Elab.async false
set_option linter.all false
set_option maxRecDepth 100000
/-! R: expressions, all of them. -/
namespace R
open PySem PySem.Spec PyProof.Rows L2 RZ
section
variable {X : Cx} {C : RC} {G : CG} {Γ : Nat → PSpec} {k : Nat} {sc : Scope} {F : Hp} {ow : Addr → Option Id} {p : PSt} {ts : List (Slot × V)} {σ : L2.St} {H : Hp} {E : EX} {hX : EX → Prop}
theorem one_ok {a : IE} {J : PV → PSt → Prop} {Z : V → Hp → Prop} (R : Rel C F ow p ts σ H) (hx : hX E) (h : evE Γ a p (fun r p1 => peek r fun x => J x p1) E)
    (z : ∀ v x p1 F1 ow1 H1, Same F F1 → Rel C F1 ow1 p1 ts σ H1 → Lk C F1 H1 x v → J x p1 → Z v H1) : LE hX C (evE Γ a) σ H Z :=
  ⟨F, ow, p, ts, _, E, R, hx, h, fun r p1 v F1 ow1 H1 s1 R1 k1 => by
    obtain ⟨x, lx, jx⟩ := R1.top.look k1
    exact z v x p1 F1 ow1 H1 s1 R1.pop lx jx⟩
theorem two_ok {a b : IE} {J : PV → PV → PSt → Prop} {Z : V → V → Hp → Prop} (R : Rel C F ow p ts σ H) (hx : hX E) (h : evE Γ a p (fun r p1 => evE Γ b p1 (fun r2 p2 => peek r fun x => peek r2 fun y => J x y p2) E) E)
    (z : ∀ v w x y p2 F2 ow2 H2, Same F F2 → Rel C F2 ow2 p2 ts σ H2 → Lk C F2 H2 x v → Lk C F2 H2 y w → J x y p2 → Z v w H2) : LE hX C (evE Γ a) σ H fun v H1 => LE hX C (evE Γ b) σ H1 fun w H2 => Z v w H2 :=
  ⟨F, ow, p, ts, _, E, R, hx, h, fun r p1 v F1 ow1 H1 s1 R1 k1 => ⟨F1, ow1, p1, _, _, E, R1, hx, k1, fun r2 p2 w F2 ow2 H2 s2 R2 k2 => by
    obtain ⟨x, lx, kx⟩ := R2.pop.top.look k2
    obtain ⟨y, ly, jy⟩ := R2.top.look kx
    exact z v w x y p2 F2 ow2 H2 (s1.trans s2) R2.pop.pop lx ly jy⟩⟩
theorem post_of {K : KE} {Qh : VK} {p1 : PSt} {F1 : Hp} (post : ∀ r p' v F' ow' H', Same F F' → Rel C F' ow' p' ((r, v) :: ts) σ H' → K r p' → Qh v H') (s1 : Same F F1) : Post C F1 p1 ts σ (fun r => K r p1) Qh :=
  fun r v F' ow' H' s R k => post r p1 v F' ow' H' (s1.trans s) R k
theorem Lk.intK {x : PV} {v : V} {Kq : Int → Prop} (h : Lk C F H x v) (k : intK x Kq) : ∃ i, v = .int i ∧ Kq i := by
  cases x <;> first | exact k.elim | exact ⟨_, h.int, k⟩
theorem star_eq {e : Expr} {es : List Expr} {env : Env} (h : isStar e = false) : starEach (e :: es) env = (false, eval e env) :: starEach es env := by
  cases e <;> first | rfl | cases h
theorem star_none : ∀ {es : List Expr} {env : Env}, (∀ e ∈ es, isStar e = false) → ∀ pos, (backTo pos (starEach es env)).any (·.1) = false
  | [], _, _, _ => rfl
  | e :: es, env, h, pos => by
    have := star_none (env := env) (fun x hx => h x (List.mem_cons_of_mem _ hx)) pos
    rw [star_eq (h e List.mem_cons_self)]
    have gen : ∀ (l : List (Bool × Sem Value)) (pos : Pos), (backTo pos l).any (·.1) = l.any (·.1) := fun l pos => by
      induction l with
      | nil => rfl
      | cons y l ih => simp_all [backTo]
    rw [gen] at this ⊢
    rw [List.any_cons, this]
    rfl
theorem Cn.hu (c : Cn X C G Γ k sc) : X.A.units + 66 < cLine := by have := c.room.un; omega
theorem Callee.blk {s : Shared} {H0 : Hp} {scope : Scope} {ce : Env} {fp : List Addr} {f : Addr} {S : PSpec} (h : Callee X C k f S) : Callee (X.blk s H0 scope ce fp) C k f S := ⟨h.ex⟩
theorem Cn.blk (c : Cn X C G Γ k sc) {s : Shared} {H0 : Hp} {sc2 : Scope} {Cc : Addr} {cl : List (Str × Addr)} {fp : List Addr} : Cn (X.blk s H0 sc2 (compEnvC sc2 cl Cc X.env) fp) C G Γ k (relS sc2 sc) where
  K := c.K
  mg := c.mg
  N := c.N
  nd := c.nd
  scp := by
    rw [← c.scp]
    rfl
  calm := c.calm
  room := c.room
  glob := fun x g h => by
    have := c.glob x g h
    cases g with
    | fn n => obtain ⟨f, h1, h3, h2⟩ := this; exact ⟨f, h1, h3, h2.blk⟩
    | cst v => exact this
    | exc e => exact this
  blt := c.blt
  M := c.M
  held := fun h n f e => (c.held h n f e).blk

structure Snd (G : CG) (Γ : Nat → PSpec) (k : Nat) (n : Nat) : Prop where
  e : ∀ {X C sc}, Cn X C G Γ k sc → ∀ e i, cE G n sc e = some i → PE X e (LE (HX X C) C (evE Γ i))
  es : ∀ {X C sc}, Cn X C G Γ k sc → ∀ e i, cEs G n sc e = some i → (∀ x ∈ e, isStar x = false) ∧ e.length = i.length ∧ PA X e (LEs i.length (HX X C) C (evEs Γ i))
  o : ∀ {X C sc}, Cn X C G Γ k sc → ∀ e i, cO G n sc e = some i → PO X e (LO (HX X C) C (evO Γ i))
  t : ∀ {X C sc}, Cn X C G Γ k sc → ∀ e i, cT G n sc e = some i → PT X e (LT (HX X C) C (evT Γ i)) ∧ ∀ op vs pos, e = .BoolOp op vs pos → PW X e (LT (HX X C) C (evT Γ i))
  f : ∀ {X C sc}, Cn X C G Γ k sc → ∀ e i, cIf G n sc e = some i → PTs X e (LT (HX X C) C (evT Γ i))
  i : ∀ {X C sc}, Cn X C G Γ k sc → ∀ tg e i, cI G n sc e = some i → (i.pairs = true → isTupE tg = true) → PI X tg e (LI (HX X C) C (evIt Γ i))
theorem snd_zero : Snd G Γ k 0 := by
  constructor <;> intro X C sc c <;> intros <;> rename_i h <;> first | (simp [cE] at h; done) | (simp [cEs] at h; done) | (simp [cO] at h; done) | (simp [cT] at h; done) | (simp [cIf] at h; done) | skip
  simp_all [cI]
end
end R

set_option Elab.async false
set_option linter.all false
set_option maxRecDepth 100000
/-! R: expressions, the step. -/
namespace R
open PySem PySem.Spec PyProof.Rows L2 RZ
section
variable {X : Cx} {C : RC} {G : CG} {Γ : Nat → PSpec} {k : Nat} {sc : Scope} {F : Hp} {ow : Addr → Option Id} {p : PSt} {ts : List (Slot × V)} {σ : L2.St} {H : Hp} {E : EX} {hX : EX → Prop} {Q : VK}
theorem LE.cst {v : PV} {u : V} (hv : ∀ F, RV C F v u) (h : LE hX C (evE Γ (.cst v)) σ H Q) : Q u H := by
  obtain ⟨F, ow, p, ts, K, E, R, hx, h, post⟩ := h
  exact post _ _ _ _ _ _ (.refl F) (R.push (hv F)) h
theorem LE.var {i : Nat} (h : LE hX C (evE Γ (.var i)) σ H Q) : tVar i σ H Q := by
  obtain ⟨F, ow, p, ts, K, E, R, hx, h, post⟩ := h
  unfold evE at h
  have hs := R.sl i
  split at h
  · rename_i x e
    rw [e] at hs
    obtain ⟨v, e1, h1⟩ := hs
    refine ⟨v, ?_, post _ _ _ _ _ _ (.refl F) (R.push h1) h⟩
    revert e1
    cases σ[i]? with
    | none => exact fun z => nomatch z
    | some o => exact fun z => congrArg some z
  · rename_i xs e
    rw [e] at hs
    obtain ⟨a, vs, e1, h1, h2, h3, h4⟩ := hs
    have e2 : σ[i]? = some (some (.ref a)) := by
      revert e1
      cases σ[i]? with
      | none => exact fun z => nomatch z
      | some o => exact fun z => congrArg some z
    refine ⟨.ref a, e2, post (.bor i xs) p _ F ow H (.refl F) ⟨R.fh, R.bf, R.new, R.keep, R.oww, R.cok, R.cfr, R.len, R.sl, ⟨⟨a, vs, rfl, h1, .inl h2, h3, e2, h4 i rfl⟩, R.tm⟩, R.nob⟩ h⟩
  · exact h.elim
theorem LE.bin {b : BO} {a c : IE} (h : LE hX C (evE Γ (.bin b a c)) σ H Q) : tOp (rBO C.K b) (LE hX C (evE Γ a)) (LE hX C (evE Γ c)) σ H Q := by
  obtain ⟨F, ow, p, ts, K, E, R, hx, h, post⟩ := h
  unfold evE at h
  exact two_ok R hx h fun v w x y p2 F2 ow2 H2 s2 R2 lx ly j => bin_ok R2 lx ly j (post_of post s2)
theorem LE.neg {a : IE} (h : LE hX C (evE Γ (.neg a)) σ H Q) : tUn (rU fun i => .int (-i)) (LE hX C (evE Γ a)) σ H Q := by
  obtain ⟨F, ow, p, ts, K, E, R, hx, h, post⟩ := h
  unfold evE at h
  refine one_ok R hx h fun v x p1 F1 ow1 H1 s1 R1 lx j => ?_
  unfold negP at j
  split at j
  · exact ⟨_, lx.int, (post_of post s1).int R1 j⟩
  · exact j.elim
theorem LE.cmp {c : CO} {a b : IE} (h : LE hX C (evE Γ (.cmp c a b)) σ H Q) : tOp (rCO C.K c) (LE hX C (evE Γ a)) (LE hX C (evE Γ b)) σ H Q := by
  obtain ⟨F, ow, p, ts, K, E, R, hx, h, post⟩ := h
  unfold evE at h
  exact two_ok R hx h fun v w x y p2 F2 ow2 H2 s2 R2 lx ly j => cmp_ok R2.fh lx ly j fun t kt => (post_of post s2).bl R2 kt
theorem LE.chain {c c2 : CO} {a b d : IE} (h : LE hX C (evE Γ (.chain c c2 a b d)) σ H Q) : tChain (rCO C.K c) (rCO C.K c2) (LE hX C (evE Γ a)) (LE hX C (evE Γ b)) (LE hX C (evE Γ d)) σ H Q := by
  obtain ⟨F, ow, p, ts, K, E, R, hx, h, post⟩ := h
  unfold evE at h
  refine ⟨F, ow, p, ts, _, E, R, hx, h, fun r p1 v F1 ow1 H1 s1 R1 k1 => ⟨F1, ow1, p1, _, _, E, R1, hx, k1, fun r2 p2 w F2 ow2 H2 s2 R2 k2 => ?_⟩⟩
  obtain ⟨n1, k2⟩ := peek_pv k2
  obtain ⟨n2, k2⟩ := peek_pv k2
  refine cmp_ok R2.fh (R2.pop.top.look2 n1) (R2.top.look2 n2) k2 fun t kt => ⟨t, rfl, ?_⟩
  cases t with
  | false =>
    refine iteF ?_
    rw [cnd_f] at kt
    exact Post.bl (post_of post (s1.trans s2)) R2.pop.pop kt
  | true =>
    refine iteT ?_
    rw [cnd_t] at kt
    refine ⟨F2, ow2, p2, _, _, E, R2, hx, kt, fun r3 p3 u F3 ow3 H3 s3 R3 k3 => ?_⟩
    obtain ⟨z, lz, kz⟩ := R3.top.look k3
    exact cmp_ok R3.fh (R3.pop.top.look2 n2) lz kz fun t kt => Post.bl (post_of post (s1.trans (s2.trans s3))) R3.pop.pop.pop kt
theorem LE.and {a b : IE} (h : LE hX C (evE Γ (.and a b)) σ H Q) : tAndT C.K (LE hX C (evE Γ a)) (LE hX C (evE Γ b)) σ H Q := by
  obtain ⟨F, ow, p, ts, K, E, R, hx, h, post⟩ := h
  unfold evE at h
  refine ⟨F, ow, p, ts, _, E, R, hx, h, fun r p1 v F1 ow1 H1 s1 R1 k1 => ?_⟩
  obtain ⟨n1, k1⟩ := peek_pv k1
  obtain ⟨t, h1, h2⟩ := tru_val R1.fh (R1.top.look2 n1) k1
  refine ⟨t, h1, ?_⟩
  cases t with
  | true =>
    refine iteT ?_
    rw [cnd_t] at h2
    exact ⟨F1, ow1, p1, ts, K, E, R1.pop, hx, h2, fun r p' v F' ow' H' s R k => post _ _ _ _ _ _ (s1.trans s) R k⟩
  | false =>
    refine iteF ?_
    rw [cnd_f] at h2
    exact post _ _ _ _ _ _ s1 R1 h2
theorem LE.or {a b : IE} (h : LE hX C (evE Γ (.or a b)) σ H Q) : tOrT C.K (LE hX C (evE Γ a)) (LE hX C (evE Γ b)) σ H Q := by
  obtain ⟨F, ow, p, ts, K, E, R, hx, h, post⟩ := h
  unfold evE at h
  refine ⟨F, ow, p, ts, _, E, R, hx, h, fun r p1 v F1 ow1 H1 s1 R1 k1 => ?_⟩
  obtain ⟨n1, k1⟩ := peek_pv k1
  obtain ⟨t, h1, h2⟩ := tru_val R1.fh (R1.top.look2 n1) k1
  refine ⟨t, h1, ?_⟩
  cases t with
  | true =>
    refine iteT ?_
    rw [cnd_t] at h2
    exact post _ _ _ _ _ _ s1 R1 h2
  | false =>
    refine iteF ?_
    rw [cnd_f] at h2
    exact ⟨F1, ow1, p1, ts, K, E, R1.pop, hx, h2, fun r p' v F' ow' H' s R k => post _ _ _ _ _ _ (s1.trans s) R k⟩
theorem LE.not {a : IE} (h : LE hX C (evE Γ (.not a)) σ H Q) : tNotT C.K (LE hX C (evE Γ a)) σ H Q := by
  obtain ⟨F, ow, p, ts, K, E, R, hx, h, post⟩ := h
  unfold evE at h
  refine ⟨F, ow, p, ts, _, E, R, hx, h, fun r p1 v F1 ow1 H1 s1 R1 k1 => ?_⟩
  obtain ⟨n1, k1⟩ := peek_pv k1
  obtain ⟨t, h1, h2⟩ := tru_val R1.fh (R1.top.look2 n1) k1
  exact ⟨t, h1, (post_of post s1).bl R1.pop h2⟩
theorem LE.ifx {t : IT} {a b : IE} (h : LE hX C (evE Γ (.ifx t a b)) σ H Q) : tIf (LT hX C (evT Γ t)) (LE hX C (evE Γ a)) (LE hX C (evE Γ b)) σ H Q := by
  obtain ⟨F, ow, p, ts, K, E, R, hx, h, post⟩ := h
  unfold evE at h
  refine ⟨F, ow, p, ts, _, E, R, hx, h, fun b p1 F1 ow1 H1 s1 R1 k1 => ?_⟩
  cases b with
  | true =>
    refine iteT ?_
    rw [cnd_t] at k1
    exact ⟨F1, ow1, p1, ts, K, E, R1, hx, k1, fun r p' v F' ow' H' s R k => post _ _ _ _ _ _ (s1.trans s) R k⟩
  | false =>
    refine iteF ?_
    rw [cnd_f] at k1
    exact ⟨F1, ow1, p1, ts, K, E, R1, hx, k1, fun r p' v F' ow' H' s R k => post _ _ _ _ _ _ (s1.trans s) R k⟩
theorem LE.tup {es : List IE} (hl : es.length ≤ 1000) (h : LE hX C (evE Γ (.tup es)) σ H Q) : tTup (LEs es.length hX C (evEs Γ es)) σ H Q := by
  obtain ⟨F, ow, p, ts, K, E, R, hx, h, post⟩ := h
  unfold evE at h
  have hz := line_eq
  refine ⟨F, ow, p, ts, _, E, R, hx, h, fun xs p1 vs F1 ow1 H1 hl2 s1 R1 hv k1 => ⟨by rw [← hv.length]; omega, fun q hq => (post_of post s1).tup R1 hv k1 hq⟩⟩
theorem LE.lst {es : List IE} (hl : es.length ≤ 1000) (h : LE hX C (evE Γ (.lst es)) σ H Q) : tLst (LEs es.length hX C (evEs Γ es)) σ H Q := by
  obtain ⟨F, ow, p, ts, K, E, R, hx, h, post⟩ := h
  unfold evE at h
  have hz := line_eq
  refine ⟨F, ow, p, ts, _, E, R, hx, h, fun xs p1 vs F1 ow1 H1 hl2 s1 R1 hv k1 => ⟨by rw [← hv.length]; omega, fun q hq => (post_of post s1).lst R1 hv k1 hq⟩⟩
theorem LE.sub {a b : IE} (h : LE hX C (evE Γ (.sub a b)) σ H Q) : tOp (rIx C.K) (LE hX C (evE Γ a)) (LE hX C (evE Γ b)) σ H Q := by
  obtain ⟨F, ow, p, ts, K, E, R, hx, h, post⟩ := h
  unfold evE at h
  exact two_ok R hx h fun v w x y p2 F2 ow2 H2 s2 R2 lx ly j => sub_ok R2.fh lx ly j fun z u hz kz => (post_of post s2).val R2 hz kz
theorem LE.slc {a : IE} {lo hi : Option IE} (h : LE hX C (evE Γ (.slc a lo hi)) σ H Q) : tSl (rSlc C.K) (LE hX C (evE Γ a)) (LO hX C (evO Γ lo)) (LO hX C (evO Γ hi)) σ H Q := by
  obtain ⟨F, ow, p, ts, K, E, R, hx, h, post⟩ := h
  unfold evE at h
  refine ⟨F, ow, p, ts, _, E, R, hx, h, fun r p1 v F1 ow1 H1 s1 R1 k1 => ⟨F1, ow1, p1, _, _, E, R1, hx, k1, fun l p2 F2 ow2 H2 s2 R2 k2 => ⟨F2, ow2, p2, _, _, E, R2, hx, k2, fun u p3 F3 ow3 H3 s3 R3 k3 => ?_⟩⟩⟩
  obtain ⟨n1, k3⟩ := peek_pv k3
  exact slc_ok R3.pop (R3.top.look2 n1) k3 (post_of post (s1.trans (s2.trans s3)))
theorem LE.rev {a : IE} (h : LE hX C (evE Γ (.rev a)) σ H Q) : tRevL C.K (LE hX C (evE Γ a)) σ H Q := by
  obtain ⟨F, ow, p, ts, K, E, R, hx, h, post⟩ := h
  unfold evE at h
  refine one_ok R hx h fun v x p1 F1 ow1 H1 s1 R1 lx j => ?_
  unfold revP at j
  split at j
  · obtain ⟨a, vs, rfl, h1, h2⟩ := lx.lstAt R1.fh
    exact ⟨_, _, rfl, SqL.of h1, fun q hq => (post_of post s1).lst R1 h2.reverse j hq⟩
  · exact j.elim
theorem LE.blt1 {b : B1} {a : IE} (h : LE hX C (evE Γ (.blt1 b a)) σ H Q) : LE hX C (evE Γ a) σ H fun v H1 => rB1 C.K b [v] H1 Q := by
  obtain ⟨F, ow, p, ts, K, E, R, hx, h, post⟩ := h
  unfold evE at h
  exact one_ok R hx h fun v x p1 F1 ow1 H1 s1 R1 lx j => blt1_ok R1 lx j (post_of post s1)
def rB2 : B2 → List V → Hp → VK → Prop
  | .max => fun xs H Q => ∃ i j, xs = [.int i, .int j] ∧ Q (.int (if j > i then j else i)) H
  | .min => fun xs H Q => ∃ i j, xs = [.int i, .int j] ∧ Q (.int (if j < i then j else i)) H
theorem LE.blt2 {b : B2} {a c : IE} (h : LE hX C (evE Γ (.blt2 b a c)) σ H Q) : LE hX C (evE Γ a) σ H fun v H1 => LE hX C (evE Γ c) σ H1 fun w H2 => rB2 b [v, w] H2 Q := by
  obtain ⟨F, ow, p, ts, K, E, R, hx, h, post⟩ := h
  unfold evE at h
  refine two_ok R hx h fun v w x y p2 F2 ow2 H2 s2 R2 lx ly j => ?_
  unfold blt2P at j
  split at j
  · exact ⟨_, _, by rw [lx.int, ly.int], (post_of post s2).int R2 j⟩
  · exact ⟨_, _, by rw [lx.int, ly.int], (post_of post s2).int R2 j⟩
  · exact j.elim
theorem LE.isi {a : IE} {ns : List String} (h : LE hX C (evE Γ (.isi a ns)) σ H Q) : LE hX C (evE Γ a) σ H fun v H1 => ∃ t b, TyX C.K H1 v (.type t) ∧ (∀ n, ns = [n] → PySem.W.kitOne C.K (.type t) (.type n) = some b) ∧ PySem.W.kitAny C.K (.type t) (ns.map Value.type) = some b ∧
    Q (.bl b) H1 ∧ ∀ q vs, H1 q = none → TyX C.K (upd H1 q (.tup vs)) v (.type t) ∧ Q (.bl b) (upd H1 q (.tup vs)) := by
  obtain ⟨F, ow, p, ts, K, E, R, hx, h, post⟩ := h
  unfold evE at h
  refine ⟨F, ow, p, ts, _, E, R, hx, h, fun r p1 v F1 ow1 H1 s1 R1 k1 => ?_⟩
  obtain ⟨n1, k1⟩ := peek_pv k1
  obtain ⟨t, b, h0, h1, h2, h3, h4⟩ := isi_ok R1.fh (R1.top.look2 n1) k1
  refine ⟨t, b, h1, h3, h4, (post_of post s1).bl R1.pop h2, fun q vs hq => ?_⟩
  have R2 := R1.laid0 (o := .tup vs) hq
  obtain ⟨t2, b2, g0, g1, g2, g3, g4⟩ := isi_ok R2.fh (R2.top.look2 n1) k1
  refine ⟨?_, (post_of post s1).bl R2.pop h2⟩
  have e : t2 = t := Option.some.inj (g0.symm.trans h0)
  rw [← e]
  exact g1
theorem LE.index {a b : IE} (h : LE hX C (evE Γ (.index a b)) σ H Q) : LE hX C (evE Γ a) σ H fun v H1 => (∃ l xs, v = .ref l ∧ H1 l = some (.lst xs)) ∧ LE hX C (evE Γ b) σ H1 fun w H2 => rIndexD C.K v [w] H2 Q := by
  obtain ⟨F, ow, p, ts, K, E, R, hx, h, post⟩ := h
  unfold evE at h
  refine ⟨F, ow, p, ts, _, E, R, hx, h, fun r p1 v F1 ow1 H1 s1 R1 k1 => ?_⟩
  obtain ⟨x0, lx0, k1⟩ := R1.top.look k1
  cases x0 with
  | lst xs0 => ?_
  | _ => exact k1.elim
  obtain ⟨l0, vs0, ev0, g0, _⟩ := lx0.lstAt R1.fh
  refine ⟨⟨l0, vs0, ev0, g0⟩, F1, ow1, p1, _, _, E, R1, hx, k1, fun r2 p2 w F2 ow2 H2 s2' R2' k2 => ?_⟩
  obtain ⟨x, lx, kx⟩ := R2'.pop.top.look k2
  obtain ⟨y, ly, j⟩ := R2'.top.look kx
  have R2 := R2'.pop.pop
  have s2 := s1.trans s2'
  cases x with
  | lst xs => ?_
  | _ => exact j.elim
  obtain ⟨h1, h2, m, z, h3, h4, h5, h6⟩ := j
  obtain ⟨a, vs, ea, g1, g2⟩ := lx.lstAt R2.fh
  have dx := lx.dp R2.fh h2.1
  subst ea
  have getD : ∀ (xs : List PV) (i : Nat), (toDs xs)[i]? = (xs[i]?).map toD := fun xs => by
    induction xs with
    | nil => intro i; simp [toDs]
    | cons x xs ih =>
      intro i
      cases i with
      | zero => simp [toDs]
      | succ i => simpa [toDs] using ih i
  have ad := dataOk_lst h2
  have each : ∀ (xs : List PV), areData xs = true → ∀ (i : Nat) z, xs[i]? = some z → isData z = true := fun xs => by
    induction xs with
    | nil => intro _ i z e; simp at e
    | cons x xs ih =>
      intro hd i z e
      simp only [areData, Bool.and_eq_true] at hd
      cases i with
      | zero => simp at e; rw [← e]; exact hd.1
      | succ i => exact ih hd.2 i z (by simpa using e)
  refine ⟨a, w, toD y, toDs xs, m, toD z, rfl, rfl, dx, ly.dp R2.fh h1.1, shaped_of h2, shaped_of h1, by rw [getD, h3]; rfl, by rw [eqv_toD z y (each xs ad m z h3) h1.1]; exact h4, fun n z' hn e => ?_, (post_of post s2).int R2 h6⟩
  rw [getD] at e
  obtain ⟨q, e1, rfl⟩ := Option.map_eq_some_iff.mp e
  rw [eqv_toD q y (each xs ad n q e1) h1.1]
  exact h5 n q hn e1
end
end R

set_option Elab.async false
set_option linter.all false
set_option maxRecDepth 100000
/-! R: expressions, the cases. -/
namespace R
open PySem PySem.Spec PyProof.Rows L2 RZ
section
variable {X : Cx} {C : RC} {G : CG} {Γ : Nat → PSpec} {k : Nat} {sc : Scope} {n : Nat}
theorem pe_const (c : Cn X C G Γ k sc) {x : Str} {v : PV} {pos : Pos} (h : isGlob sc x = true) (hg : gOf G x = some (.cst v)) : ∃ u, PE X (.Name x pos) (tC u) ∧ ∀ F, RV C F v u := by
  obtain ⟨u, w, h1, h2, h3⟩ := c.glob x _ hg
  exact ⟨w, pe_glob (isGlob_gl c h) h1 h2 (okName_of (glob_ok h)).1, h3⟩
theorem args_ok (S : Snd G Γ k n) (c : Cn X C G Γ k sc) {e : Expr} {es : List Expr} {is : List IE} (h : cEs G n sc (e :: es) = some is) : ∃ t, PA X (e :: es) (LEs is.length (HX X C) C (evEs Γ is)) ∧ isStar e = false ∧ (∀ x ∈ es, isStar x = false) ∧ (e :: es).length = is.length ∧ t = () := by
  obtain ⟨h1, h2, h3⟩ := S.es c _ _ h
  exact ⟨(), h3, h1 e List.mem_cons_self, fun x hx => h1 x (List.mem_cons_of_mem _ hx), h2, rfl⟩
/-- f(e, ..): a def of the text -/
theorem call_ok (S : Snd G Γ k n) (c : Cn X C G Γ k sc) {x : Str} {m : Nat} {p pos : Pos} {e : Expr} {es : List Expr} {is : List IE} (hg : isGlob sc x = true) (hx : gOf G x = some (.fn m)) (h : cEs G n sc (e :: es) = some is) :
    PE X (.Call (.Name x p) (e :: es) [] pos) (LE (HX X C) C (evE Γ (.call m is))) := by
  obtain ⟨_, ha, s1, s2, _, _⟩ := args_ok S c h
  obtain ⟨f, hm, _, ⟨fd, ps, hl, hk, hb, F⟩⟩ := c.glob x _ hx
  refine ⟨fun pins s σ H Q I q => ?_⟩
  obtain ⟨F1, ow, p1, ts, K, E, R, he, q, post⟩ := q
  unfold evE at q
  refine (pe_callSD (E := fun σ => WE (RW C E) σ) F c.room (isGlob_gl c hg) hm hk hb .nil (fun σ => PassHX he σ) ha (okName_of (glob_ok hg)).1 (star_eq s1) (star_none s2 pos)).run pins s σ H Q I ?_
  refine ⟨F1, ow, p1, ts, _, E, R, he, q, fun xs p2 vs F2 ow2 H2 hn s2 R2 hv k2 => ?_⟩
  show spOf C.K C.mg C.fa ps.length (Γ m) (vs ++ []) H2 Q (WE (RW C E) σ)
  rw [List.append_nil]
  refine sp_of R2 (by rw [← hv.length, hl _ _ _ _ k2]) hv k2 fun r v F' ow' H' d' s' R' k' => post _ _ _ _ _ _ (s2.trans s') R' k'
/-- g(e, ..), g a name that holds a def -/
theorem callv_ok (S : Snd G Γ k n) (c : Cn X C G Γ k sc) (hh : G.hv = true) {x : Str} {i : Nat} {p pos : Pos} {e : Expr} {es : List Expr} {is : List IE} (hs : slotOf G sc x = some i) (h : cEs G n sc (e :: es) = some is) :
    PE X (.Call (.Name x p) (e :: es) [] pos) (LE (HX X C) C (evE Γ (.callv i is))) := by
  obtain ⟨_, ha, s1, s2, _, _⟩ := args_ok S c h
  refine ⟨fun pins s σ H Q I q => ?_⟩
  obtain ⟨F1, ow, p1, ts, K, E, R, he, q, post⟩ := q
  unfold evE at q
  split at q
  rotate_left
  · exact q.elim
  rename_i m em
  have hsl := R.sl i
  rw [em] at hsl
  obtain ⟨v, e1, a, e2, e3⟩ := hsl
  subst e2
  have e4 : σ[i]? = some (some (.ref a)) := by
    revert e1
    cases σ[i]? with
    | none => exact fun z => nomatch z
    | some o => exact fun z => congrArg some z
  obtain ⟨⟨fd, ps, hl, hk, hb, F⟩⟩ := c.held hh m a e3
  obtain ⟨hN, hV⟩ := c.slot hs
  obtain ⟨o1, o2, o3⟩ := okName_of (slot_ok hs)
  refine wpAny_Call_Name_kw (thn ((pe_var (pos := p) hN hV o1 o2).run pins s σ H (fun v H1 => v = .ref a ∧ H1 = H) I ⟨_, e4, rfl, rfl⟩) fun u sA hu => ?_)
  obtain ⟨v, H1, I1, r1, ev, eH⟩ := hu
  subst ev eH
  cases r1
  refine PySem.W.callWith_K (h₀ := X.base) I1.ok.mod.kin hk (thn (ha.run pos pins sA σ H1 (fun vs H2 => spOf C.K C.mg C.fa ps.length (Γ m) vs H2 Q (WE (RW C E) σ)) I1 ⟨F1, ow, p1, ts, _, E, R, he, q, fun xs p2 vs F2 ow2 H2 hn s2 R2 hv k2 => ?_⟩) fun us sB hw => ?_) (star_eq s1) (star_none s2 pos)
  · exact sp_of R2 (by rw [← hv.length, hl _ _ _ _ k2]) hv k2 fun r v F' ow' H' d' s' R' k' => post _ _ _ _ _ _ (s2.trans s') R' k'
  · obtain ⟨vs, H2, I2, r2, q2⟩ := hw
    refine ⟨I2.kIn, ?_⟩
    exact run_fnSD (E := fun σ => WE (RW C E) σ) F c.room hb .nil (PassHX he σ) I2 r2 (by rw [List.append_nil]; exact q2)
theorem b1_boot {x : Str} {b : B1} (h : b1Of x = some b) : x ∈ bltNames ∧ ∃ id, (fB1 b = .builtin id ∧ bootBuiltins x = some (.builtin id)) ∨ (fB1 b = .type id ∧ bootBuiltins x = some (.type id)) := by
  unfold b1Of at h
  repeat (first
    | (split at h; (rename_i q; subst q; cases h; exact ⟨by decide +kernel, _, by first | exact .inl ⟨rfl, by decide +kernel⟩ | exact .inr ⟨rfl, by decide +kernel⟩⟩))
    | cases h)
/-- a built-in function of one argument -/
theorem blt1_pe (c : Cn X C G Γ k sc) {x : Str} {b : B1} {p pos : Pos} {e : Expr} {i : IE} (hg : isGlob sc x = true) (hx : gOf G x = none) (hb : b1Of x = some b) (hs : isStar e = false) (he : PE X e (LE (HX X C) C (evE Γ i))) :
    PE X (.Call (.Name x p) [e] [] pos) (LE (HX X C) C (evE Γ (.blt1 b i))) := by
  obtain ⟨o1, o2, o3⟩ := okName_of (glob_ok hg)
  have gl := isGlob_gl c hg
  have ha := pa_cons he pa_nil (star_eq hs)
  have nm : x ∈ bltNames → X.mg x = none := fun h => c.blt x h hx
  have hpl := star_none (es := ([] : List Expr)) (env := X.env) (fun x h => nomatch h) pos
  have fin : ∀ σ H Q, LE (HX X C) C (evE Γ (.blt1 b i)) σ H Q → tCB (rB1 X.K b) (tCons (LE (HX X C) C (evE Γ i)) tNil) σ H Q := fun σ H Q q => by
    rw [c.K]
    exact LE.blt1 q
  obtain ⟨h1, id, h2⟩ := b1_boot hb
  rcases h2 with ⟨e1, e2⟩ | ⟨e1, e2⟩
  · exact PE.imp (pe_callB (by rw [← e1]; exact cr_B1 c.calm b) gl (nm h1) e2 ha o3 o1 (star_eq hs) hpl) fin
  · exact PE.imp (pe_callTy (by rw [← e1]; exact cr_B1 c.calm b) gl (nm h1) e2 ha o3 o1 (star_eq hs) hpl) fin
theorem blt2_pe (c : Cn X C G Γ k sc) {x : Str} {b : B2} {p pos : Pos} {e e2 : Expr} {i j : IE} (hg : isGlob sc x = true) (hx : gOf G x = none) (hb : (x = "max" ∧ b = .max) ∨ (x = "min" ∧ b = .min)) (hs : isStar e = false) (hs2 : isStar e2 = false)
    (he : PE X e (LE (HX X C) C (evE Γ i))) (he2 : PE X e2 (LE (HX X C) C (evE Γ j))) : PE X (.Call (.Name x p) [e, e2] [] pos) (LE (HX X C) C (evE Γ (.blt2 b i j))) := by
  obtain ⟨o1, o2, o3⟩ := okName_of (glob_ok hg)
  have gl := isGlob_gl c hg
  have ha := pa_cons he (pa_cons he2 pa_nil (star_eq hs2)) (star_eq hs)
  have hpl := star_none (es := [e2]) (env := X.env) (fun x h => by rw [List.mem_singleton.mp h]; exact hs2) pos
  rcases hb with ⟨rfl, rfl⟩ | ⟨rfl, rfl⟩
  · exact PE.imp (pe_callB (call_max2 c.calm) gl (c.blt _ (by decide +kernel) hx) (by decide +kernel) ha o3 o1 (star_eq hs) hpl) fun σ H Q q => LE.blt2 q
  · exact PE.imp (pe_callB (call_min2 c.calm) gl (c.blt _ (by decide +kernel) hx) (by decide +kernel) ha o3 o1 (star_eq hs) hpl) fun σ H Q q => LE.blt2 q
theorem tyName_boot {x : Str} {t : String} (h : tyName x = some t) : x ∈ bltNames ∧ bootBuiltins x = some (.type t) := by
  unfold tyName at h
  repeat (first
    | (split at h; (rename_i q; subst q; cases h; exact ⟨by decide +kernel, by decide +kernel⟩))
    | cases h)
theorem pe_ty (c : Cn X C G Γ k sc) {x : Str} {t : String} {pos : Pos} (hg : isGlob sc x = true) (hx : gOf G x = none) (h : tyName x = some t) : PE X (.Name x pos) (tC (.ty t)) := by
  obtain ⟨h1, h2⟩ := tyName_boot h
  obtain ⟨o1, o2, o3⟩ := okName_of (glob_ok hg)
  exact pe_bltn (isGlob_gl c hg) (c.blt x h1 hx) h2 rfl o3 o1
/-- the types of a written tuple -/
def tTys : List String → TA
  | [] => tNil
  | t :: ts => tCons (tC (.ty t)) (tTys ts)
theorem tTys_eq (ns : List String) (σ : L2.St) (H : Hp) (Q : List V → Hp → Prop) : tTys ns σ H Q ↔ Q (ns.map V.ty) H := by
  induction ns generalizing Q with
  | nil => exact Iff.rfl
  | cons n ns ih =>
    show tTys ns σ H (fun xs H2 => Q (.ty n :: xs) H2) ↔ _
    rw [ih]
    rfl
theorem pa_tys (c : Cn X C G Γ k sc) : ∀ (es : List Expr) (ns : List String), tyNames sc G es = some ns → (∀ e ∈ es, isStar e = false) ∧ PA X es (tTys ns)
  | [], ns, h => by
    simp only [tyNames] at h
    cases h
    exact ⟨fun e he => (nomatch he), pa_nil⟩
  | e :: es, ns, h => by
    cases e with
    | Name x p =>
      simp only [tyNames] at h
      split at h
      rotate_left
      · cases h
      rename_i hc
      rw [Bool.and_eq_true] at hc
      split at h
      rotate_left
      · cases h
      rename_i t ts h1 h2
      cases h
      obtain ⟨g1, g2⟩ := pa_tys c es ts h2
      refine ⟨fun y hy => ?_, pa_cons (pe_ty c hc.1 (Option.isNone_iff_eq_none.mp hc.2) h1) g2 rfl⟩
      rcases List.mem_cons.mp hy with rfl | hy
      · rfl
      · exact g1 y hy
    | _ => simp [tyNames] at h
theorem isi_pe (c : Cn X C G Γ k sc) {p pos : Pos} {e c2 : Expr} {i : IE} {ns : List String} (hg : isGlob sc "isinstance" = true) (hx : gOf G "isinstance" = none) (hs : isStar e = false) (he : PE X e (LE (HX X C) C (evE Γ i)))
    (h2 : (∃ es kk pp, c2 = .Tuple es kk pp ∧ ns.length ≤ 10 ∧ tyNames sc G es = some ns) ∨ (∃ t pp, c2 = .Name t pp ∧ tyNames sc G [.Name t pp] = some ns)) : PE X (.Call (.Name "isinstance" p) [e, c2] [] pos) (LE (HX X C) C (evE Γ (.isi i ns))) := by
  obtain ⟨o1, o2, o3⟩ := okName_of (glob_ok hg)
  have gl := isGlob_gl c hg
  have hm := c.blt _ (by decide +kernel) hx
  have hz := line_eq
  rcases h2 with ⟨es, kk, pp, rfl, hn, h2⟩ | ⟨t, pp, rfl, h2⟩
  · obtain ⟨g1, g2⟩ := pa_tys c es ns h2
    have ht : PE X (.Tuple es kk pp) (tTup (tTys ns)) := pe_tup g2
    refine PE.imp (pe_callB call_isiT gl hm (by decide +kernel) (pa_cons he (pa_cons ht pa_nil (star_eq rfl)) (star_eq hs)) o3 o1 (star_eq hs) (star_none (fun x h => by rw [List.mem_singleton.mp h]; rfl) pos)) fun σ H Q q => ?_
    obtain ⟨F, ow, p, ts, K, E, R, hx, q, post⟩ := LE.isi q
    refine ⟨F, ow, p, ts, K, E, R, hx, q, fun r p1 v F1 ow1 H1 s1 R1 k1 => ?_⟩
    obtain ⟨t, b, h1, h3, h4, h5, h6⟩ := post r p1 v F1 ow1 H1 s1 R1 k1
    refine (tTys_eq ns σ H1 _).mpr ⟨by rw [List.length_map]; omega, fun q hq => ?_⟩
    obtain ⟨g3, g4⟩ := h6 q (ns.map V.ty) hq
    rw [← c.K] at g3 h4
    exact ⟨v, q, ns.map V.ty, .type t, ns.map Value.type, b, rfl, upd_same, paired_cls ns, g3, h4, g4⟩
  · obtain ⟨g1, g2⟩ := pa_tys c _ ns h2
    simp only [tyNames] at h2
    split at h2
    rotate_left
    · cases h2
    split at h2
    rotate_left
    · cases h2
    rename_i hc _ _ w ws e1 e2
    cases e2
    cases h2
    rw [Bool.and_eq_true] at hc
    have ht := pe_ty c (pos := pp) hc.1 (Option.isNone_iff_eq_none.mp hc.2) e1
    refine PE.imp (pe_callB call_isi gl hm (by decide +kernel) (pa_cons he (pa_cons ht pa_nil (star_eq rfl)) (star_eq hs)) o3 o1 (star_eq hs) (star_none (fun x h => by rw [List.mem_singleton.mp h]; rfl) pos)) fun σ H Q q => ?_
    obtain ⟨F, ow, p, ts, K, E, R, hx, q, post⟩ := LE.isi q
    refine ⟨F, ow, p, ts, K, E, R, hx, q, fun r p1 v F1 ow1 H1 s1 R1 k1 => ?_⟩
    obtain ⟨t, b, h1, h3, h4, h5, h6⟩ := post r p1 v F1 ow1 H1 s1 R1 k1
    have h3 := h3 w rfl
    rw [← c.K] at h1 h3
    exact ⟨v, .ty w, .type t, .type w, b, rfl, .ty w, h1, h3, h5⟩
end
end R

set_option Elab.async false
set_option linter.all false
set_option maxRecDepth 100000
/-! R: expressions, the induction. -/
namespace R
open PySem PySem.Spec PyProof.Rows L2 RZ
section
variable {X : Cx} {C : RC} {G : CG} {Γ : Nat → PSpec} {k : Nat} {sc : Scope} {n : Nat}
theorem rg_eq (a b : Int) (F : Hp) : RVs C F (rngL a b) (rgV a b) := by
  unfold rngL rgV
  induction List.range (b - a).toNat with
  | nil => exact rfl
  | cons x xs ih => exact ⟨_, _, rfl, rfl, ih⟩
theorem lrng1_pe (c : Cn X C G Γ k sc) {p p2 pos pos2 : Pos} {e : Expr} {i : IE} (hg : isGlob sc "list" = true) (hx : gOf G "list" = none) (hg2 : isGlob sc "range" = true) (hx2 : gOf G "range" = none) (hs : isStar e = false) (he : PE X e (LE (HX X C) C (evE Γ i))) :
    PE X (.Call (.Name "list" p) [.Call (.Name "range" p2) [e] [] pos2] [] pos) (LE (HX X C) C (evE Γ (.lrng1 i))) := by
  refine PE.imp (pe_listRg c.calm (isGlob_gl c hg) (c.blt _ (by decide +kernel) hx) (prg_1 (isGlob_gl c hg2) (c.blt _ (by decide +kernel) hx2) he (star_eq hs))) fun σ H Q q => ?_
  obtain ⟨F, ow, p, ts, K, E, R, hx, q, post⟩ := q
  unfold evE at q
  refine one_ok R hx q fun v x p1 F1 ow1 H1 s1 R1 lx j => ?_
  obtain ⟨m, rfl, j1, j2, j3⟩ := lx.intK j
  exact ⟨m, rfl, ⟨by omega, by omega, by omega, by omega, by omega⟩, fun q hq => (post_of post s1).lst R1 (rg_eq 0 m F1) j3 hq⟩
theorem lrng2_pe (c : Cn X C G Γ k sc) {p p2 pos pos2 : Pos} {e e2 : Expr} {i i2 : IE} (hg : isGlob sc "list" = true) (hx : gOf G "list" = none) (hg2 : isGlob sc "range" = true) (hx2 : gOf G "range" = none) (hs : isStar e = false) (hs2 : isStar e2 = false)
    (he : PE X e (LE (HX X C) C (evE Γ i))) (he2 : PE X e2 (LE (HX X C) C (evE Γ i2))) : PE X (.Call (.Name "list" p) [.Call (.Name "range" p2) [e, e2] [] pos2] [] pos) (LE (HX X C) C (evE Γ (.lrng2 i i2))) := by
  refine PE.imp (pe_listRg c.calm (isGlob_gl c hg) (c.blt _ (by decide +kernel) hx) (prg_2 (isGlob_gl c hg2) (c.blt _ (by decide +kernel) hx2) he he2 (star_eq hs) (star_eq hs2) (star_none (fun x h => by rw [List.mem_singleton.mp h]; exact hs2) pos2))) fun σ H Q q => ?_
  obtain ⟨F, ow, p, ts, K, E, R, hx, q, post⟩ := q
  unfold evE at q
  refine two_ok R hx q fun v w x y p2 F2 ow2 H2 s2 R2 lx ly j => ?_
  obtain ⟨a, rfl, j⟩ := lx.intK j
  obtain ⟨b, rfl, j1, j2, j3, j4⟩ := ly.intK j
  exact ⟨a, b, rfl, rfl, ⟨by omega, by omega, by omega, by omega, by omega⟩, fun q hq => (post_of post s2).lst R2 (rg_eq a b F2) j4 hq⟩
theorem relS_local {sc2 : Scope} {x : Str} (h : sc2.names.lookup x = some .local) : (relS sc2 sc).names.lookup x = some .local := lookup_relS_keep (sc := sc) (by decide) h
theorem relS_cell {sc2 : Scope} {x : Str} (h : sc2.names.lookup x = some .cell) : (relS sc2 sc).names.lookup x = some .cell := lookup_relS_keep (sc := sc) (by decide) h
theorem fold_set {it : Expr} {env : Env} (h : isSet it = false) : ∀ x, foldedSetIterable it env x = pure x := by
  intro x
  cases it <;> first | rfl | cases h
theorem LE.never {e : Expr} {T : TP} (h : PE X e (LE (HX X C) C T)) : PE X e (LE NX C T) := PE.imp h fun σ H Q ⟨F, ow, p, ts, K, E, R, hx, q, post⟩ => ⟨F, ow, p, ts, K, E, R, .inl hx, q, post⟩
theorem LT.nevers {e : List Expr} {T : PSt → (Bool → PSt → Prop) → EX → Prop} (h : PTs X e (LT (HX X C) C T)) : PTs X e (LT NX C T) := ⟨fun pins s σ H Q I ⟨F, ow, p, ts, K, E, R, hx, q, post⟩ => h.run pins s σ H Q I ⟨F, ow, p, ts, K, E, R, .inl hx, q, post⟩⟩
theorem LI.never {tg e : Expr} {T : PSt → (List PV → PSt → Prop) → EX → Prop} (h : PI X tg e (LI (HX X C) C T)) : PI X tg e (LI NX C T) := PI.imp h fun σ H Q ⟨F, ow, p, ts, K, E, R, hx, q, post⟩ => ⟨F, ow, p, ts, K, E, R, .inl hx, q, post⟩
structure CompC (G : CG) (n : Nat) (sc sc2 : Scope) (elt tg it : Expr) (ifs : List Expr) (t : TgI) (i : II) (cd : IT) (x : IE) : Prop where
  htg : cTgt G sc2 false n tg = some t
  hit : cI G n sc it = some i
  hcd : cIf G n (relS sc2 sc) ifs = some cd
  hel : cE G n (relS sc2 sc) elt = some x
  blk : blkC G.N sc sc2 (ownOf G sc2) = true
  pr : (!i.pairs || isTupE tg) = true
  st : (!isSet it) = true
  ap : ((ownOf G sc2).all fun y => !G.mu.contains y.1) = true
  sl : ((tgSlots t).all fun i => ((ownOf G sc2).map (·.2)).contains i) = true
theorem ownOf_mem {sc2 : Scope} {y : Str × Nat} (h : y ∈ ownOf G sc2) : G.N[y.2]? = some y.1 := by
  unfold ownOf at h
  obtain ⟨a, _, h2⟩ := List.mem_filterMap.mp h
  split at h2
  · obtain ⟨i, h3, h4⟩ := Option.map_eq_some_iff.mp h2
    rw [← h4]
    exact findIdx_get h3
  · obtain ⟨i, h3, h4⟩ := Option.map_eq_some_iff.mp h2
    rw [← h4]
    exact findIdx_get h3
  · cases h2
section
variable {sc2 : Scope} {elt tg it : Expr} {ifs : List Expr} {t : TgI} {i : II} {cd : IT} {x : IE}
theorem CompC.apart (c : Cn X C G Γ k sc) (h : CompC G n sc sc2 elt tg it ifs t i cd x) : Apart C ((ownOf G sc2).map (·.2)) := fun j hj => by
  obtain ⟨y, hy, rfl⟩ := List.mem_map.mp hj
  have h1 := List.all_eq_true.mp h.ap y hy
  have h2 := ownOf_mem hy
  rw [c.M]
  unfold muOf
  rw [h2]
  simpa using h1
theorem CompC.slots (h : CompC G n sc sc2 elt tg it ifs t i cd x) : ∀ j ∈ tgSlots t, j ∈ (ownOf G sc2).map (·.2) := fun j hj => by
  have h1 := List.all_eq_true.mp h.sl j hj
  exact List.contains_iff_mem.mp h1
theorem CompC.parts (S : Snd G Γ k n) (c : Cn X C G Γ k sc) (h : CompC G n sc sc2 elt tg it ifs t i cd x) :
    PI X tg it (LI NX C (evIt Γ i)) ∧ BlkOk X.N X.env.scope sc2 (ownOf G sc2) ∧
    (∀ (s : Shared) (H : Hp) (Cc : Addr) (cl : List (Str × Addr)) (fp : List Addr), PG (X.blk s H sc2 (compEnvC sc2 cl Cc X.env) fp) tg (LG C (tgSlots t) (bindT t))) ∧
    (∀ (s : Shared) (H : Hp) (Cc : Addr) (cl : List (Str × Addr)) (fp : List Addr), PTs (X.blk s H sc2 (compEnvC sc2 cl Cc X.env) fp) ifs (LT NX C (evT Γ cd))) ∧
    (∀ (s : Shared) (H : Hp) (Cc : Addr) (cl : List (Str × Addr)) (fp : List Addr), PE (X.blk s H sc2 (compEnvC sc2 cl Cc X.env) fp) elt (LE NX C (evE Γ x))) := by
  refine ⟨LI.never (S.i c tg it i h.hit fun e => ?_), ?_, fun s H Cc cl fp => ?_, fun s H Cc cl fp => ?_, fun s H Cc cl fp => ?_⟩
  · have := h.pr
    rw [e] at this
    simpa using this
  · rw [c.N, c.scp]
    exact blkOk_by h.blk
  · have cb := c.blk (s := s) (H0 := H) (sc2 := sc2) (Cc := Cc) (cl := cl) (fp := fp)
    exact ((tgt_ok cb (fun y hy => relS_local hy) (fun y hy => ⟨relS_cell hy, by show (sc2.names.lookup y == some .cell) = true; rw [hy]; rfl⟩) n).1 false tg t h.htg).2
  · exact LT.nevers (S.f (c.blk (s := s) (H0 := H) (sc2 := sc2) (Cc := Cc) (cl := cl) (fp := fp)) ifs cd h.hcd)
  · exact LE.never (S.e (c.blk (s := s) (H0 := H) (sc2 := sc2) (Cc := Cc) (cl := cl) (fp := fp)) elt x h.hel)
theorem comp_pe (S : Snd G Γ k n) (c : Cn X C G Γ k sc) {pos : Pos} (h : CompC G n sc sc2 elt tg it ifs t i cd x) : PE X (.ListComp elt [⟨tg, it, ifs, 0⟩] sc2 pos) (LE (HX X C) C (evE Γ (.comp x t i cd ((ownOf G sc2).map (·.2))))) := by
  obtain ⟨p1, p2, p3, p4, p5⟩ := h.parts S c
  have hs : isSet it = false := by simpa using h.st
  exact PE.imp (pe_lc c.calm (by rw [c.N]; exact c.nd) p1 p2 p3 p4 p5 (fold_set hs)) fun σ H Q q => comp_ok (h.apart c) h.slots _ q
end
theorem plainIx_of {e : Expr} (h : isSlice e = false) : PlainIx e := by
  intro o i
  cases e <;> first | rfl | cases h
theorem b1_list {x : Str} (h : b1Of x = some .list) : x = "list" := by
  unfold b1Of at h
  repeat (first
    | (split at h; (rename_i q; first | exact q | cases h))
    | cases h)
theorem index_pe (c : Cn X C G Γ k sc) {x : Str} {j : Nat} {p apos cpos : Pos} {e : Expr} {y : IE} (hx : slotOf G sc x = some j) (hs : isStar e = false) (hl : (apos.endLine == cpos.line) = true) (he : PE X e (LE (HX X C) C (evE Γ y))) :
    PE X (.Call (.Attribute (.Name x p) "index" apos) [e] [] cpos) (LE (HX X C) C (evE Γ (.index (.var j) y))) := by
  have pv : PE X (.Name x p) (LE (HX X C) C (evE Γ (.var j))) := PE.imp (pe_slot c hx) fun σ H Q q => LE.var q
  refine PE.imp (pe_bm (T := "list") PySem.F.plainAttrs_list PySem.F.slot_list_index F.type_list_index (mt_indexD (by have := c.room.un; omega)) pv (pa_cons he pa_nil (star_eq hs)) rfl ?_ hl (star_eq hs) rfl) fun σ H Q q => ?_
  · rw [star_eq hs]
    rfl
  · obtain ⟨F, ow, p, ts, K, E, R, hx, q, post⟩ := LE.index q
    refine ⟨F, ow, p, ts, K, E, R, hx, q, fun r p1 v F1 ow1 H1 s1 R1 k1 => ?_⟩
    obtain ⟨⟨l, xs, rfl, g1⟩, q2⟩ := post r p1 v F1 ow1 H1 s1 R1 k1
    rw [← c.K] at q2
    exact ⟨.inl ⟨rfl, xs, SqL.of g1⟩, q2⟩
theorem snd_e (S : Snd G Γ k n) (c : Cn X C G Γ k sc) (e : Expr) (i : IE) (h : cE G (n + 1) sc e = some i) : PE X e (LE (HX X C) C (evE Γ i)) := by
  unfold cE at h
  split at h
  · cases h
    exact PE.imp pe_int fun σ H Q q => LE.cst (v := .int _) (fun F => rfl) q
  · cases h
    exact PE.imp pe_bl fun σ H Q q => LE.cst (v := .bl _) (fun F => rfl) q
  · cases h
    exact PE.imp pe_non fun σ H Q q => LE.cst (v := .non) (fun F => rfl) q
  · cases h
    exact PE.imp pe_str fun σ H Q q => LE.cst (v := .str _) (fun F => rfl) q
  · -- a name
    split at h
    · rename_i j hj
      cases h
      exact PE.imp (pe_slot c hj) fun σ H Q q => LE.var q
    · split at h
      rotate_left
      · cases h
      rename_i hg
      split at h
      · rename_i v hv
        cases h
        obtain ⟨u, h1, h2⟩ := pe_const c hg hv
        exact PE.imp h1 fun σ H Q q => LE.cst h2 q
      · rename_i m hm
        cases h
        obtain ⟨f, h1, h2, _⟩ := c.glob _ _ hm
        exact PE.imp (pe_glob (v := .ref f) (isGlob_gl c hg) h1 rfl (okName_of (glob_ok hg)).1) fun σ H Q q => LE.cst (v := .fn m) (fun F => ⟨f, rfl, h2⟩) q
      · cases h
  · split at h
    rotate_left
    · cases h
    rename_i o x y h1 h2 h3
    cases h
    rw [boOf_eq h1]
    exact PE.imp (pe_op (op_BO o) (S.e c _ _ h2) (S.e c _ _ h3)) fun σ H Q q => by rw [c.K]; exact LE.bin q
  · obtain ⟨x, h1, rfl⟩ := Option.map_eq_some_iff.mp h
    exact PE.imp (pe_un un_neg (S.e c _ _ h1)) fun σ H Q q => LE.neg q
  · obtain ⟨x, h1, rfl⟩ := Option.map_eq_some_iff.mp h
    exact PE.imp (pe_notT (S.e c _ _ h1)) fun σ H Q q => by rw [c.K]; exact LE.not q
  · split at h
    rotate_left
    · cases h
    rename_i hc
    split at h
    rotate_left
    · cases h
    rename_i op b pos _ _ x y h2 h3
    cases h
    have hm : behindInMarks op b = false := by
      cases op <;> cases b <;> first | rfl | (simp [cmpOk] at hc; done) | (simp [cmpOk, isNone] at hc; done)
    have e1 := coOf_eq op
    refine PE.imp (pe_cmpR (by rw [e1]; exact op_CO c.hu (coOf op)) (S.e c _ _ h2) (S.e c _ _ h3) hm) fun σ H Q q => by rw [c.K]; exact LE.cmp q
  · split at h
    rotate_left
    · cases h
    rename_i hc
    split at h
    rotate_left
    · cases h
    rename_i op op2 b d pos _ _ _ x y z h2 h3 h4
    cases h
    simp only [Bool.and_eq_true, Bool.not_eq_true'] at hc
    have m1 : ∀ (o : CmpOp) (e : Expr), isSet e = false → behindInMarks o e = false := fun o e he => by
      cases e <;> first | rfl | cases he
    have hm : lastMarks [op, op2] [b, d] = false := by
      show lastMarks [op2] [d] = false
      exact m1 op2 d hc.1.1.2
    have e1 := coOf_eq op
    have e2 := coOf_eq op2
    refine PE.imp (pe_chain (by rw [e1]; exact op_CO c.hu (coOf op)) (by rw [e2]; exact op_CO c.hu (coOf op2)) (S.e c _ _ h2) (S.e c _ _ h3) (S.e c _ _ h4) hm) fun σ H Q q => by rw [c.K]; exact LE.chain q
  · exact PE.imp (pe_one (S.e c _ _ h)) fun σ H Q q => q
  · exact PE.imp (pe_one (S.e c _ _ h)) fun σ H Q q => q
  · split at h
    rotate_left
    · cases h
    rename_i x y h2 h3
    cases h
    exact PE.imp (pe_andT (S.e c _ _ h2) (S.e c _ _ h3)) fun σ H Q q => by rw [c.K]; exact LE.and q
  · split at h
    rotate_left
    · cases h
    rename_i x y h2 h3
    cases h
    exact PE.imp (pe_orT (S.e c _ _ h2) (S.e c _ _ h3)) fun σ H Q q => by rw [c.K]; exact LE.or q
  · split at h
    rotate_left
    · cases h
    rename_i x y z h1 h2 h3
    cases h
    exact PE.imp (pe_ifExp (S.t c _ _ h1).1 (S.e c _ _ h2) (S.e c _ _ h3)) fun σ H Q q => LE.ifx q
  · -- (a, ..)
    split at h
    · rename_i xs h1
      split at h
      · rename_i hl
        cases h
        obtain ⟨g1, g2, g3⟩ := S.es c _ _ h1
        exact PE.imp (pe_tup g3) fun σ H Q q => LE.tup (by rw [← g2]; exact hl) q
      · cases h
    · cases h
  · split at h
    · rename_i xs h1
      split at h
      · rename_i hl
        cases h
        obtain ⟨g1, g2, g3⟩ := S.es c _ _ h1
        exact PE.imp (pe_lst g3) fun σ H Q q => LE.lst (by rw [← g2]; exact hl) q
      · cases h
    · cases h
  · split at h
    rotate_left
    · cases h
    rename_i x l u h1 h2 h3
    cases h
    exact PE.imp (pe_slice sl_any (S.e c _ _ h1) (S.o c _ _ h2) (S.o c _ _ h3)) fun σ H Q q => by rw [c.K]; exact LE.slc q
  · split at h
    rotate_left
    · cases h
    rename_i hm
    obtain ⟨x, h1, rfl⟩ := Option.map_eq_some_iff.mp h
    unfold minusOne at hm
    split at hm
    · exact PE.imp (pe_revL (S.e c _ _ h1)) fun σ H Q q => by rw [c.K]; exact LE.rev q
    · cases hm
  · split at h
    · cases h
    rename_i hs
    split at h
    rotate_left
    · cases h
    rename_i x y h1 h2
    cases h
    exact PE.imp (pe_ix ix_seq (S.e c _ _ h1) (S.e c _ _ h2) (plainIx_of (by simpa using hs))) fun σ H Q q => by rw [c.K]; exact LE.sub q
  · -- calls
    split at h
    · rename_i j hj
      split at h
      · cases h
      · split at h
        rotate_left
        · cases h
        rename_i hh
        obtain ⟨xs, h1, rfl⟩ := Option.map_eq_some_iff.mp h
        exact callv_ok S c hh hj h1
    · split at h
      rotate_left
      · cases h
      rename_i hg
      split at h
      · rename_i m hm
        split at h
        · cases h
        · obtain ⟨xs, h1, rfl⟩ := Option.map_eq_some_iff.mp h
          exact call_ok S c hg hm h1
      · cases h
      · rename_i hx
        split at h
        · -- one argument
          split at h
          · rename_i hb
            have hf := b1_list hb
            subst hf
            split at h
            · rename_i hr
              simp only [Bool.and_eq_true, decide_eq_true_eq] at hr
              obtain ⟨⟨hr1, hr2⟩, hr3⟩ := hr
              subst hr3
              have hr2 := Option.isNone_iff_eq_none.mp hr2
              split at h
              · split at h
                · cases h
                rename_i hs
                obtain ⟨x, h1, rfl⟩ := Option.map_eq_some_iff.mp h
                exact lrng1_pe c hg hx hr1 hr2 (by simpa using hs) (S.e c _ _ h1)
              · split at h
                rotate_left
                · cases h
                rename_i x y h1 h2
                split at h
                · cases h
                rename_i hs
                cases h
                simp only [Bool.or_eq_true, not_or, Bool.not_eq_true] at hs
                exact lrng2_pe c hg hx hr1 hr2 hs.1 hs.2 (S.e c _ _ h1) (S.e c _ _ h2)
              · cases h
            · obtain ⟨x, h1, rfl⟩ := Option.map_eq_some_iff.mp h
              exact blt1_pe c hg hx hb rfl (S.e c _ _ h1)
          · rename_i hb _
            split at h
            · cases h
            rename_i hs
            obtain ⟨x, h1, rfl⟩ := Option.map_eq_some_iff.mp h
            exact blt1_pe c hg hx hb (by simpa using hs) (S.e c _ _ h1)
          · cases h
        · -- two
          split at h
          · rename_i hf
            subst hf
            split at h
            · split at h
              rotate_left
              · cases h
              rename_i x ns h1 h2
              split at h
              · cases h
              rename_i hs
              cases h
              simp only [Bool.or_eq_true, not_or, Bool.not_eq_true, decide_eq_false_iff_not, Nat.not_lt] at hs
              exact isi_pe c hg hx hs.1 (S.e c _ _ h1) (.inl ⟨_, _, _, rfl, hs.2, h2⟩)
            · split at h
              rotate_left
              · cases h
              rename_i x ns h1 h2
              split at h
              · cases h
              rename_i hs
              cases h
              exact isi_pe c hg hx (by simpa using hs) (S.e c _ _ h1) (.inr ⟨_, _, rfl, h2⟩)
            · cases h
          · split at h
            rotate_left
            · cases h
            rename_i x y h1 h2
            split at h
            · cases h
            rename_i hs
            simp only [Bool.or_eq_true, not_or, Bool.not_eq_true] at hs
            split at h
            · rename_i hf
              cases h
              exact blt2_pe c hg hx (.inl ⟨hf, rfl⟩) hs.1 hs.2 (S.e c _ _ h1) (S.e c _ _ h2)
            · split at h
              rotate_left
              · cases h
              rename_i hf
              cases h
              exact blt2_pe c hg hx (.inr ⟨hf, rfl⟩) hs.1 hs.2 (S.e c _ _ h1) (S.e c _ _ h2)
        · cases h
  · -- l.index(x)
    split at h
    rotate_left
    · cases h
    rename_i i' y h1 h2
    split at h
    rotate_left
    · cases h
    rename_i hm
    subst hm
    split at h
    · cases h
    rename_i hc
    cases h
    simp only [Bool.or_eq_true, not_or, Bool.not_eq_true, bne_eq_false_iff_eq] at hc
    exact index_pe c h1 hc.1 (beq_iff_eq.mpr hc.2) (S.e c _ _ h2)
  · -- comprehensions
    split at h
    rotate_left
    · cases h
    rename_i t i' cd x h1 h2 h3 h4
    split at h
    rotate_left
    · cases h
    rename_i hc
    cases h
    simp only [Bool.and_eq_true] at hc
    exact comp_pe S c ⟨h1, h2, h3, h4, hc.1.1.1.1, hc.1.1.1.2, hc.1.1.2, hc.1.2, hc.2⟩
  · cases h
end
end R

set_option Elab.async false
set_option linter.all false
set_option maxRecDepth 100000
/-! R: lists of expressions, tests, what is walked; the induction's end. -/
namespace R
open PySem PySem.Spec PyProof.Rows L2 RZ
section
variable {X : Cx} {C : RC} {G : CG} {Γ : Nat → PSpec} {k : Nat} {sc : Scope} {n : Nat} {σ : L2.St} {H : Hp} {hX : EX → Prop}
theorem snd_es (S : Snd G Γ k n) (c : Cn X C G Γ k sc) (e : List Expr) (i : List IE) (h : cEs G (n + 1) sc e = some i) : (∀ x ∈ e, isStar x = false) ∧ e.length = i.length ∧ PA X e (LEs i.length (HX X C) C (evEs Γ i)) := by
  cases e with
  | nil =>
    simp only [cEs] at h
    cases h
    refine ⟨fun x hx => (nomatch hx), rfl, PA.imp pa_nil fun σ H Q q => ?_⟩
    obtain ⟨F, ow, p, ts, K, E, R, hx, q, post⟩ := q
    unfold evEs at q
    exact post [] p [] F ow H rfl (.refl F) R rfl q
  | cons e es =>
    simp only [cEs] at h
    split at h
    · cases h
    rename_i hs
    split at h
    rotate_left
    · cases h
    rename_i x xs h1 h2
    cases h
    obtain ⟨g1, g2, g3⟩ := S.es c _ _ h2
    have hs : isStar e = false := by simpa using hs
    refine ⟨fun y hy => ?_, by rw [List.length_cons, List.length_cons, g2], PA.imp (pa_cons (S.e c _ _ h1) g3 (star_eq hs)) fun σ H Q q => ?_⟩
    · rcases List.mem_cons.mp hy with rfl | hy
      · exact hs
      · exact g1 y hy
    · obtain ⟨F, ow, p, ts, K, E, R, hx, q, post⟩ := q
      unfold evEs at q
      refine ⟨F, ow, p, ts, _, E, R, hx, q, fun r p1 v F1 ow1 H1 s1 R1 k1 => ?_⟩
      obtain ⟨z, p2, F2, ow2, s2, R2, hv, k2⟩ := R1.esc k1
      have hp : Rel C F2 ow2 p2 ((.val z, v) :: ts) σ H1 := R2.push hv
      refine ⟨F2, ow2, p2, _, _, E, hp, hx, k2, fun ys p3 vs F3 ow3 H3 hn s3 R3 hvs k3 => ?_⟩
      obtain ⟨v', e', hv3⟩ := R3.top
      cases e'
      exact post (z :: ys) p3 (v :: vs) _ _ _ (by rw [List.length_cons, List.length_cons, hn]) (s1.trans (s2.trans s3)) R3.pop ⟨v, vs, rfl, hv3, hvs⟩ k3
theorem snd_o (S : Snd G Γ k n) (c : Cn X C G Γ k sc) (e : Option Expr) (i : Option IE) (h : cO G (n + 1) sc e = some i) : PO X e (LO (HX X C) C (evO Γ i)) := by
  cases e with
  | none =>
    simp only [cO] at h
    cases h
    refine PO.imp po_none fun σ H Q q => ?_
    obtain ⟨F, ow, p, ts, K, E, R, hx, q, post⟩ := q
    unfold evO at q
    exact post none p F ow H (.refl F) R q
  | some e =>
    simp only [cO] at h
    obtain ⟨x, h1, rfl⟩ := Option.map_eq_some_iff.mp h
    refine PO.imp (po_some (S.e c _ _ h1)) fun σ H Q q => ?_
    obtain ⟨F, ow, p, ts, K, E, R, hx, q, post⟩ := q
    unfold evO at q
    refine one_ok R hx q fun v x p1 F1 ow1 H1 s1 R1 lx j => ?_
    obtain ⟨m, rfl, j⟩ := lx.intK j
    exact ⟨m, rfl, post _ _ _ _ _ s1 R1 j⟩
theorem LT.val {e : IE} {Q : Bool → Hp → Prop} (h : LT hX C (evT Γ (.val e)) σ H Q) : LE hX C (evE Γ e) σ H fun v H1 => ∃ b, TruV C.K v H1 b ∧ Q b H1 := by
  obtain ⟨F, ow, p, ts, K, E, R, hx, q, post⟩ := h
  unfold evT at q
  refine one_ok R hx q fun v x p1 F1 ow1 H1 s1 R1 lx j => ?_
  obtain ⟨b, h1, h2⟩ := tru_val R1.fh lx j
  exact ⟨b, h1, post _ _ _ _ _ s1 R1 h2⟩
theorem LT.and {a b : IT} {Q : Bool → Hp → Prop} (h : LT hX C (evT Γ (.and a b)) σ H Q) : tAnd (LT hX C (evT Γ a)) (LT hX C (evT Γ b)) σ H Q := by
  obtain ⟨F, ow, p, ts, K, E, R, hx, q, post⟩ := h
  unfold evT at q
  refine ⟨F, ow, p, ts, _, E, R, hx, q, fun t p1 F1 ow1 H1 s1 R1 k1 => ?_⟩
  cases t with
  | true =>
    refine iteT ?_
    rw [cnd_t] at k1
    exact ⟨F1, ow1, p1, ts, K, E, R1, hx, k1, fun b p' F' ow' H' s R k => post _ _ _ _ _ (s1.trans s) R k⟩
  | false =>
    refine iteF ?_
    rw [cnd_f] at k1
    exact post _ _ _ _ _ s1 R1 k1
theorem LT.or {a b : IT} {Q : Bool → Hp → Prop} (h : LT hX C (evT Γ (.or a b)) σ H Q) : tOr (LT hX C (evT Γ a)) (LT hX C (evT Γ b)) σ H Q := by
  obtain ⟨F, ow, p, ts, K, E, R, hx, q, post⟩ := h
  unfold evT at q
  refine ⟨F, ow, p, ts, _, E, R, hx, q, fun t p1 F1 ow1 H1 s1 R1 k1 => ?_⟩
  cases t with
  | true =>
    refine iteT ?_
    rw [cnd_t] at k1
    exact post _ _ _ _ _ s1 R1 k1
  | false =>
    refine iteF ?_
    rw [cnd_f] at k1
    exact ⟨F1, ow1, p1, ts, K, E, R1, hx, k1, fun b p' F' ow' H' s R k => post _ _ _ _ _ (s1.trans s) R k⟩
theorem LT.not {a : IT} {Q : Bool → Hp → Prop} (h : LT hX C (evT Γ (.not a)) σ H Q) : tNot (LT hX C (evT Γ a)) σ H Q := by
  obtain ⟨F, ow, p, ts, K, E, R, hx, q, post⟩ := h
  unfold evT at q
  exact ⟨F, ow, p, ts, _, E, R, hx, q, fun t p1 F1 ow1 H1 s1 R1 k1 => post _ _ _ _ _ s1 R1 k1⟩
theorem LT.cmp {c : CO} {a b : IE} {Q : Bool → Hp → Prop} (h : LT hX C (evT Γ (.val (.cmp c a b))) σ H Q) : tTest (tOp (rCO C.K c) (LE hX C (evE Γ a)) (LE hX C (evE Γ b))) σ H Q := by
  obtain ⟨F, ow, p, ts, K, E, R, hx, q, post⟩ := h
  unfold evT evE at q
  exact two_ok R hx q fun v w x y p2 F2 ow2 H2 s2 R2 lx ly j => cmp_ok (Qh := fun x H' => ∃ k, x = .bl k ∧ Q k H') R2.fh lx ly j fun t kt => ⟨t, rfl, post _ _ _ _ _ s2 R2 kt⟩
theorem LT.chain {c c2 : CO} {a b d : IE} {Q : Bool → Hp → Prop} (h : LT hX C (evT Γ (.val (.chain c c2 a b d))) σ H Q) : tTest (tChain (rCO C.K c) (rCO C.K c2) (LE hX C (evE Γ a)) (LE hX C (evE Γ b)) (LE hX C (evE Γ d))) σ H Q := by
  obtain ⟨F, ow, p, ts, K, E, R, hx, q, post⟩ := h
  unfold evT evE at q
  refine ⟨F, ow, p, ts, _, E, R, hx, q, fun r p1 v F1 ow1 H1 s1 R1 k1 => ⟨F1, ow1, p1, _, _, E, R1, hx, k1, fun r2 p2 w F2 ow2 H2 s2 R2 k2 => ?_⟩⟩
  obtain ⟨n1, k2⟩ := peek_pv k2
  obtain ⟨n2, k2⟩ := peek_pv k2
  refine cmp_ok R2.fh (R2.pop.top.look2 n1) (R2.top.look2 n2) k2 fun t kt => ⟨t, rfl, ?_⟩
  cases t with
  | false =>
    refine iteF ?_
    rw [cnd_f] at kt
    exact ⟨false, rfl, post _ _ _ _ _ (s1.trans s2) R2.pop.pop kt⟩
  | true =>
    refine iteT ?_
    rw [cnd_t] at kt
    refine ⟨F2, ow2, p2, _, _, E, R2, hx, kt, fun r3 p3 u F3 ow3 H3 s3 R3 k3 => ?_⟩
    obtain ⟨z, lz, kz⟩ := R3.top.look k3
    exact cmp_ok (Qh := fun x H' => ∃ k, x = .bl k ∧ Q k H') R3.fh (R3.pop.top.look2 n2) lz kz fun t kt => ⟨t, rfl, post _ _ _ _ _ (s1.trans (s2.trans s3)) R3.pop.pop.pop kt⟩
theorem snd_t (SS : ∀ m, m ≤ n → Snd G Γ k m) (c : Cn X C G Γ k sc) (e : Expr) (i : IT) (h : cT G (n + 1) sc e = some i) : PT X e (LT (HX X C) C (evT Γ i)) ∧ ∀ op vs pos, e = .BoolOp op vs pos → PW X e (LT (HX X C) C (evT Γ i)) := by
  have viaW : PW X e (LT (HX X C) C (evT Γ i)) → PT X e (LT (HX X C) C (evT Γ i)) ∧ ∀ op vs pos, e = .BoolOp op vs pos → PW X e (LT (HX X C) C (evT Γ i)) := fun w => ⟨w.pt, fun _ _ _ _ => w⟩
  have S := SS n (Nat.le_refl n)
  unfold cT at h
  split at h
  · exact viaW (pw_and1 (S.t c _ _ h).1)
  · exact viaW (pw_or1 (S.t c _ _ h).1)
  · split at h
    rotate_left
    · cases h
    rename_i x y h1 h2
    cases h
    exact viaW (PW.imp (pw_and (S.t c _ _ h1).1 ((S.t c _ _ h2).2 _ _ _ rfl)) fun σ H Q q => LT.and q)
  · split at h
    rotate_left
    · cases h
    rename_i x y h1 h2
    cases h
    exact viaW (PW.imp (pw_or (S.t c _ _ h1).1 ((S.t c _ _ h2).2 _ _ _ rfl)) fun σ H Q q => LT.or q)
  · obtain ⟨x, h1, rfl⟩ := Option.map_eq_some_iff.mp h
    exact ⟨PT.imp (pt_not (S.t c _ _ h1).1) fun σ H Q q => LT.not q, fun op vs pos z => (nomatch z)⟩
  · cases h
  · rename_i e0 m1 m2 m3 m4 m5 m6
    obtain ⟨x, h1, rfl⟩ := Option.map_eq_some_iff.mp h
    have nb : ∀ op vs pos, e = .BoolOp op vs pos → False := fun op vs pos z => by
      subst z
      cases n with
      | zero => simp [cE] at h1
      | succ n =>
        cases vs with
        | nil => cases op <;> simp [cE] at h1
        | cons a vs =>
          cases vs with
          | nil => cases op <;> first | exact m1 _ _ rfl | exact m2 _ _ rfl
          | cons b vs => cases op <;> first | exact m3 _ _ _ _ rfl | exact m4 _ _ _ _ rfl
    refine ⟨?_, fun op vs pos z => (nb op vs pos z).elim⟩
    have plain : (∀ whole, isTrue e X.env whole = (do let v ← whole; standAt e.pos; holding [v] (truthy v))) → PT X e (LT (HX X C) C (evT Γ (.val x))) := fun he =>
      PT.imp (pt_truth (S.e c _ _ h1) he) fun σ H Q q => by rw [c.K]; exact LT.val q
    cases e with
    | BoolOp op vs pos => exact (nb _ _ _ rfl).elim
    | UnaryOp op a pos =>
      cases op with
      | Not => exact (m5 _ _ rfl).elim
      | _ => exact plain fun _ => rfl
    | IfExp a b d pos => exact (m6 _ _ _ _ rfl).elim
    | Compare a ops bs pos =>
      cases n with
      | zero => simp [cE] at h1
      | succ m =>
        have S2 := SS m (Nat.le_succ m)
        unfold cE at h1
        split at h1 <;> first | (rename_i z; cases z; done) | skip
        · rename_i heq
          cases heq
          split at h1
          rotate_left
          · cases h1
          rename_i hc
          split at h1
          rotate_left
          · cases h1
          rename_i op b _ _ y z h2 h3
          cases h1
          have hm : behindInMarks op b = false := by
            cases op <;> cases b <;> first | rfl | (simp [cmpOk] at hc; done) | (simp [cmpOk, isNone] at hc; done)
          have e1 := coOf_eq op
          exact PT.imp (pt_cmpR (by rw [e1]; exact op_CO c.hu (coOf op)) (S2.e c _ _ h2) (S2.e c _ _ h3) hm) fun σ H Q q => by rw [c.K]; exact LT.cmp q
        · rename_i heq
          cases heq
          split at h1
          rotate_left
          · cases h1
          rename_i hc
          split at h1
          rotate_left
          · cases h1
          rename_i op op2 b d _ _ _ y z u h2 h3 h4
          cases h1
          simp only [Bool.and_eq_true, Bool.not_eq_true'] at hc
          have mk : ∀ (o : CmpOp) (e : Expr), isSet e = false → behindInMarks o e = false := fun o e he => by
            cases e <;> first | rfl | cases he
          have hm : lastMarks [op, op2] [b, d] = false := by
            show lastMarks [op2] [d] = false
            exact mk op2 d hc.1.1.2
          have e1 := coOf_eq op
          have e2 := coOf_eq op2
          exact PT.imp (pt_chain (by rw [e1]; exact op_CO c.hu (coOf op)) (by rw [e2]; exact op_CO c.hu (coOf op2)) (S2.e c _ _ h2) (S2.e c _ _ h3) (S2.e c _ _ h4) hm) fun σ H Q q => by rw [c.K]; exact LT.chain q
        · cases h1
    | _ => exact plain fun _ => rfl
theorem snd_f (S : Snd G Γ k n) (c : Cn X C G Γ k sc) (e : List Expr) (i : IT) (h : cIf G (n + 1) sc e = some i) : PTs X e (LT (HX X C) C (evT Γ i)) := by
  cases e with
  | nil =>
    simp only [cIf] at h
    cases h
    refine ⟨fun pins s σ H Q I q => pts_nil.run pins s σ H Q I ?_⟩
    obtain ⟨F, ow, p, ts, K, E, R, hx, q, post⟩ := q
    unfold evT at q
    exact post true p F ow H (.refl F) R q
  | cons e es =>
    cases es with
    | nil =>
      simp only [cIf] at h
      exact pts_one (S.t c _ _ h).1
    | cons e' es => simp [cIf] at h
theorem seq_pi (c : Cn X C G Γ k sc) {tg e : Expr} {x : IE} (he : PE X e (LE (HX X C) C (evE Γ x))) : PI X tg e (LI (HX X C) C (evIt Γ (.seq x))) := by
  refine PI.imp (pi_seq he) fun σ H Q q => ?_
  obtain ⟨F, ow, p, ts, K, E, R, hx, q, post⟩ := q
  unfold evIt at q
  refine ⟨F, ow, p, ts, _, E, R, hx, q, fun r p1 v F1 ow1 H1 s1 R1 k1 => ?_⟩
  obtain ⟨z, p2, F2, ow2, s2, R2, hv, k2⟩ := R1.esc k1
  cases z with
  | tup xs =>
    obtain ⟨a, vs, rfl, h1, h2⟩ := hv
    exact ⟨a, rfl, .inr ⟨vs, by rw [c.K]; exact Same.tseq R2.fh h1, by rw [c.K]; exact post xs p2 F2 ow2 H1 _ (s1.trans s2) R2 k2 (wok_tup h1 h2)⟩⟩
  | lst xs =>
    obtain ⟨a, vs, rfl, h1, h2⟩ := hv
    exact ⟨a, rfl, .inl ⟨vs, SqL.of (R2.fh _ _ h1), by rw [c.K]; exact post xs p2 F2 ow2 H1 _ (s1.trans s2) R2 k2 (wok_list (SqL.of h1) h2)⟩⟩
  | ro xs =>
    obtain ⟨a, vs, rfl, h1, h2⟩ := hv
    exact ⟨a, rfl, .inl ⟨vs, by rw [c.K]; exact Same.seq R2.fh h1, by rw [c.K]; exact post xs p2 F2 ow2 H1 _ (s1.trans s2) R2 k2 (wok_list h1 h2)⟩⟩
  | _ => exact k2.elim
theorem snd_i (S : Snd G Γ k n) (c : Cn X C G Γ k sc) (tg e : Expr) (i : II) (h : cI G (n + 1) sc e = some i) (hp : i.pairs = true → isTupE tg = true) : PI X tg e (LI (HX X C) C (evIt Γ i)) := by
  unfold cI at h
  split at h
  rotate_left
  · obtain ⟨x, h1, rfl⟩ := Option.map_eq_some_iff.mp h
    exact seq_pi c (S.e c _ _ h1)
  split at h
  · rename_i hc
    simp only [Bool.and_eq_true, decide_eq_true_eq] at hc
    obtain ⟨⟨hg, hx⟩, hf⟩ := hc
    subst hf
    have hx := Option.isNone_iff_eq_none.mp hx
    have hm := c.blt "range" (by decide +kernel) hx
    split at h
    · split at h
      · cases h
      rename_i hs
      have hs : isStar _ = false := Bool.eq_false_iff.mpr hs
      obtain ⟨x, h1, rfl⟩ := Option.map_eq_some_iff.mp h
      refine PI.imp (pi_range1 (isGlob_gl c hg) hm (pa_cons (S.e c _ _ h1) pa_nil (star_eq hs)) (star_eq hs)) fun σ H Q q => ?_
      obtain ⟨F, ow, p, ts, K, E, R, hx, q, post⟩ := q
      unfold evIt at q
      refine one_ok R hx q fun v x p1 F1 ow1 H1 s1 R1 lx j => ?_
      obtain ⟨m, rfl, j1, j2⟩ := lx.intK j
      exact ⟨m, rfl, by omega, by omega, by have := post _ _ _ _ _ (Itr 0 (m - 0).toNat) s1 R1 j2 wok_rng; rwa [Int.sub_zero] at this⟩
    · split at h
      rotate_left
      · cases h
      rename_i x y h1 h2
      split at h
      · cases h
      rename_i hs
      cases h
      simp only [Bool.or_eq_true, not_or, Bool.not_eq_true] at hs
      refine PI.imp (pi_range2 (isGlob_gl c hg) hm (pa_cons (S.e c _ _ h1) (pa_cons (S.e c _ _ h2) pa_nil (star_eq hs.2)) (star_eq hs.1)) (by rw [star_eq hs.1, star_eq hs.2]; rfl) (star_eq hs.2)) fun σ H Q q => ?_
      obtain ⟨F, ow, p, ts, K, E, R, hx, q, post⟩ := q
      unfold evIt at q
      refine two_ok R hx q fun v w x y p2 F2 ow2 H2 s2 R2 lx ly j => ?_
      obtain ⟨a, rfl, j⟩ := lx.intK j
      obtain ⟨b, rfl, j1, j2, j3⟩ := ly.intK j
      exact ⟨a, b, rfl, ⟨by omega, by omega, by omega, by omega⟩, post _ _ _ _ _ _ s2 R2 j3 wok_rng⟩
    · cases h
  split at h
  · rename_i hc
    simp only [Bool.and_eq_true, decide_eq_true_eq] at hc
    obtain ⟨⟨hg, hx⟩, hf⟩ := hc
    subst hf
    have hx := Option.isNone_iff_eq_none.mp hx
    have hm := c.blt "enumerate" (by decide +kernel) hx
    split at h
    rotate_left
    · cases h
    split at h
    · cases h
    rename_i hs
    have hs : isStar _ = false := Bool.eq_false_iff.mpr hs
    obtain ⟨x, h1, rfl⟩ := Option.map_eq_some_iff.mp h
    have ht := hp rfl
    cases tg with
    | Tuple elts kk tpos => ?_
    | _ => cases ht
    refine PI.imp (pi_enum (isGlob_gl c hg) hm (pa_cons (S.e c _ _ h1) pa_nil (star_eq hs)) (star_eq hs)) fun σ H Q q => ?_
    obtain ⟨F, ow, p, ts, K, E, R, hx, q, post⟩ := q
    unfold evIt at q
    refine ⟨F, ow, p, ts, _, E, R, hx, q, fun r p1 v F1 ow1 H1 s1 R1 k1 => ?_⟩
    obtain ⟨z, p2, F2, ow2, s2, R2, hv, k2⟩ := R1.esc k1
    cases z with
    | lst xs =>
      obtain ⟨a, vs, rfl, h1, h2⟩ := hv
      exact ⟨a, vs, rfl, SqL.of (R2.fh _ _ h1), by rw [c.K]; exact post _ p2 F2 ow2 H1 _ (s1.trans s2) R2 k2 (wok_enum (SqL.of h1) h2)⟩
    | ro xs =>
      obtain ⟨a, vs, rfl, h1, h2⟩ := hv
      exact ⟨a, vs, rfl, by rw [c.K]; exact Same.seq R2.fh h1, by rw [c.K]; exact post _ p2 F2 ow2 H1 _ (s1.trans s2) R2 k2 (wok_enum h1 h2)⟩
    | _ => exact k2.elim
  split at h
  · rename_i hc
    simp only [Bool.and_eq_true, decide_eq_true_eq] at hc
    obtain ⟨⟨hg, hx⟩, hf⟩ := hc
    subst hf
    have hx := Option.isNone_iff_eq_none.mp hx
    have hm := c.blt "zip" (by decide +kernel) hx
    split at h
    rotate_left
    · cases h
    split at h
    rotate_left
    · cases h
    rename_i x y h1 h2
    split at h
    · cases h
    rename_i hs
    cases h
    simp only [Bool.or_eq_true, not_or, Bool.not_eq_true] at hs
    have ht := hp rfl
    cases tg with
    | Tuple elts kk tpos => ?_
    | _ => cases ht
    refine PI.imp (pi_zipA (isGlob_gl c hg) hm (pa_cons (S.e c _ _ h1) (pa_cons (S.e c _ _ h2) pa_nil (star_eq hs.2)) (star_eq hs.1)) (star_eq hs.1) (star_none (fun x h => by rw [List.mem_singleton.mp h]; exact hs.2) _)) fun σ H Q q => ?_
    obtain ⟨F, ow, p, ts, K, E, R, hx, q, post⟩ := q
    unfold evIt at q
    refine ⟨F, ow, p, ts, _, E, R, hx, q, fun r p1 v F1 ow1 H1 s1 R1 k1 => ?_⟩
    obtain ⟨z, p2, F2, ow2, s2, R2, hv, k2⟩ := R1.esc k1
    have R2' : Rel C F2 ow2 p2 ((.val z, v) :: ts) σ H1 := R2.push hv
    refine ⟨F2, ow2, p2, _, _, E, R2', hx, k2, fun r3 p3 w F3 ow3 H3 s3 R3 k3 => ?_⟩
    obtain ⟨y, p4, F4, ow4, s4, R4, hw, k4⟩ := R3.esc k3
    obtain ⟨v', e', hv4⟩ := R4.top
    cases e'
    have s := s1.trans (s2.trans (s3.trans s4))
    have R5 := R4.pop
    unfold zipK at k4
    split at k4
    · obtain ⟨a, vs, rfl, h1, h2⟩ := hv4
      obtain ⟨b, ws, rfl, g1, g2⟩ := hw
      exact ⟨a, b, vs, ws, rfl, .inl ⟨SqL.of (R5.fh _ _ h1), SqL.of (R5.fh _ _ g1), by rw [c.K]; exact post _ p4 F4 ow4 H3 _ s R5 k4 (wok_zip (SqL.of h1) h2 (SqL.of g1) g2)⟩⟩
    · obtain ⟨a, vs, rfl, h1, h2⟩ := hv4
      obtain ⟨b, ws, rfl, g1, g2⟩ := hw
      exact ⟨a, b, vs, ws, rfl, .inr ⟨by rw [c.K]; exact Same.tseq R5.fh h1, by rw [c.K]; exact Same.tseq R5.fh g1, by rw [c.K]; exact post _ p4 F4 ow4 H3 _ s R5 k4 (wok_zipT h1 h2 g1 g2)⟩⟩
    · exact k4.elim
  · obtain ⟨x, h1, rfl⟩ := Option.map_eq_some_iff.mp h
    exact seq_pi c (S.e c _ _ h1)
/-- THE EXPRESSIONS -/
theorem snd_all (G : CG) (Γ : Nat → PSpec) (k : Nat) : ∀ n, Snd G Γ k n := fun n => by
  induction n using Nat.strongRecOn with
  | ind n ih =>
    cases n with
    | zero => exact snd_zero
    | succ n =>
      have S := ih n (Nat.lt_succ_self n)
      exact ⟨fun c e i h => snd_e S c e i h, fun c e i h => snd_es S c e i h, fun c e i h => snd_o S c e i h, fun c e i h => snd_t (fun m hm => ih m (Nat.lt_succ_of_le hm)) c e i h, fun c e i h => snd_f S c e i h, fun c tg e i h hp => snd_i S c tg e i h hp⟩
end
end R

set_option Elab.async false
set_option linter.all false
set_option maxRecDepth 100000
/-! R: statements, the small ones. -/
namespace R
open PySem PySem.Spec PyProof.Rows L2 RZ

def LS (X : Cx) (C : RC) (T : PEnds → PSt → Prop) : TS := fun D σ H => ∃ F ow p PD, Rel C F ow p [] σ H ∧ HX X C PD.ex ∧ T PD p ∧
  (∀ F' ow' p' σ' H', Same F F' → Rel C F' ow' p' [] σ' H' → PD.nx p' → D.nx σ' H') ∧
  (∀ F' ow' p' σ' H', Same F F' → Rel C F' ow' p' [] σ' H' → PD.bk p' → D.bk σ' H') ∧
  (∀ F' ow' p' σ' H', Same F F' → Rel C F' ow' p' [] σ' H' → PD.ct p' → D.ct σ' H') ∧
  (∀ r F' ow' p' σ' v H', ((∃ x, r = .val x) ∨ ∃ xs, r = .own xs) → Same F F' → Rel C F' ow' p' [(r, v)] σ' H' → PD.rt r p' → D.rt v H')

structure CnS (X : Cx) (C : RC) (G : CG) (Γ : Nat → PSpec) (k : Nat) (sc : Scope) : Prop extends Cn X C G Γ k sc where
  kind : X.env.blockKind = .function
  fnall : ∀ x, X.fn x = true
  pown : PassesOwn (model X.prog X.w) X.A X.env X.xe
  stk : X.stack = X.env :: X.outer
  frm : X.env.frame = some X.env.locals

section
variable {X : Cx} {C : RC} {G : CG} {Γ : Nat → PSpec} {k n : Nat} {sc : Scope} {F : Hp} {ow : Addr → Option Id} {p : PSt} {ts pre : List (Slot × V)} {σ : L2.St} {H : Hp} {E : EX} {v : V} {r : Slot} {xs : List PV} {i j : Nat}

theorem Tms.mid : ∀ {pre : List (Slot × V)}, Tms C F ow σ H (pre ++ (r, v) :: ts) → Ent C F ow σ H (.inr ts.length) r (some v)
  | [], h => h.1
  | _ :: pre, h => Tms.mid (pre := pre) h.2
theorem Tms.swap {ow' : Addr → Option Id} {σ' : L2.St} : ∀ {pre : List (Slot × V)}, Tms C F ow σ H (pre ++ (r, v) :: ts) → (∀ m s o, m ≠ ts.length → (∀ j ys, s ≠ .bor j ys) → Ent C F ow σ H (.inr m) s o → Ent C F ow' σ' H (.inr m) s o) →
    (∀ t ∈ pre ++ ts, ∀ j ys, t.1 ≠ .bor j ys) → Tms C F ow' σ' H (pre ++ (.un, v) :: ts)
  | [], h, f, nb => ⟨trivial, by
    have : ∀ (us : List (Slot × V)), us.length ≤ ts.length → (∀ t ∈ us, ∀ j ys, t.1 ≠ .bor j ys) → Tms C F ow σ H us → Tms C F ow' σ' H us := fun us => by
      induction us with
      | nil => exact fun _ _ _ => trivial
      | cons u us ih =>
        intro hl hb h
        rw [List.length_cons] at hl
        exact ⟨f _ _ _ (by omega) (hb u List.mem_cons_self) h.1, ih (by omega) (fun t ht => hb t (List.mem_cons_of_mem _ ht)) h.2⟩
    exact this ts (Nat.le_refl _) nb h.2⟩
  | t :: pre, h, f, nb => by
    have e1 : (pre ++ (r, v) :: ts).length = pre.length + (ts.length + 1) := by simp
    have e2 : (pre ++ (Slot.un, v) :: ts).length = pre.length + (ts.length + 1) := by simp
    have h1 := h.1
    have e3 : (pre.append ((r, v) :: ts)).length = pre.length + (ts.length + 1) := e1
    rw [e3] at h1
    refine ⟨?_, Tms.swap (pre := pre) h.2 f fun u hu => nb u (List.mem_cons_of_mem _ hu)⟩
    have e4 : (pre.append ((Slot.un, v) :: ts)).length = pre.length + (ts.length + 1) := e2
    rw [e4]
    exact f _ _ _ (by omega) (nb t List.mem_cons_self) h1
/-- a name takes a list that a result owns -/
theorem Rel.putOwn (R : Rel C F ow p (pre ++ (.own xs, v) :: ts) σ H) (hM : C.M i = true) (nb : ∀ t ∈ pre ++ ts, ∀ j ys, t.1 ≠ .bor j ys) :
    ∃ ow', Rel C F ow' (p.set i (.own xs)) (pre ++ (.un, v) :: ts) (σ.set i (some v)) H := by
  obtain ⟨a, vs, e, h1, h2, h3, _⟩ := R.tm.mid
  have key : ∀ {id : Id} {s : Slot} {o : Option V} {σ' : L2.St}, id ≠ .inr ts.length → (∀ j ys, s ≠ .bor j ys) → Ent C F ow σ H id s o → Ent C F (owset ow a (some (.inl i))) σ' H id s o := fun {id s o σ'} hid hb h => by
    cases s with
    | un => trivial
    | val y => exact h
    | own ys =>
      obtain ⟨b, ws, e1, g1, g2, g3, g4⟩ := h
      refine ⟨b, ws, e1, g1, ?_, g3, g4⟩
      rw [owset_ne fun z => by subst z; rw [h2] at g2; exact hid (Option.some.inj g2).symm]
      exact g2
    | bor n ys => exact absurd rfl (hb n ys)
  by_cases hi : i < σ.length
  · have hp : i < p.sl.length := by rw [R.len]; exact hi
    refine ⟨owset ow a (some (.inl i)), R.fh, R.bf, R.new, R.keep, fun b m e1 => ?_, R.cok, R.cfr, ?_, fun j => ?_, R.tm.swap (fun m s o hm hb h => key (fun z => hm (Sum.inr.inj z)) hb h) nb, nob_set R.nob hp (by intro j ys; exact fun q => nomatch q)⟩
    · by_cases q : b = a
      · subst q
        exact ⟨(R.oww b _ h2).1, (R.oww b _ h2).2.1, (R.oww b _ h2).2.2⟩
      · rw [owset_ne q] at e1
        exact R.oww b m e1
    · show (p.sl.set i _).length = _
      rw [List.length_set, List.length_set, R.len]
    · rw [get_set hp, List.getElem?_set]
      by_cases q : i = j
      · subst q
        rw [if_pos rfl, if_pos rfl, if_pos hi]
        cases e
        exact ⟨a, vs, rfl, h1, owset_same, h3, fun m z => by cases z; exact hM⟩
      · rw [if_neg q, if_neg q]
        exact key (fun z => nomatch z) (fun n ys => R.nob j n ys) (R.sl j)
  · have e1 : σ.set i (some v) = σ := List.set_eq_of_length_le (Nat.not_lt.mp hi)
    have e2 : p.set i (.own xs) = p := by
      unfold PSt.set
      rw [List.set_eq_of_length_le (by rw [R.len]; exact Nat.not_lt.mp hi)]
    rw [e1, e2]
    refine ⟨owset ow a (some (.inl i)), R.fh, R.bf, R.new, R.keep, fun b m e1 => ?_, R.cok, R.cfr, R.len, fun j => key (fun z => nomatch z) (fun n ys => R.nob j n ys) (R.sl j), R.tm.swap (fun m s o hm hb h => key (fun z => hm (Sum.inr.inj z)) hb h) nb, R.nob⟩
    by_cases q : b = a
    · subst q
      exact ⟨(R.oww b _ h2).1, (R.oww b _ h2).2.1, (R.oww b _ h2).2.2⟩
    · rw [owset_ne q] at e1
      exact R.oww b m e1
theorem Rel.storeAny (R : Rel C F ow p ts σ H) {x : PV} (h : RV C F x v) (hb : ∀ t ∈ ts, ∀ j xs, t.1 = .bor j xs → j ≠ i) : Rel C F ow (p.set i (.val x)) ts (σ.set i (some v)) H := by
  by_cases hi : i < σ.length
  · exact R.store h hi hb
  · have e1 : σ.set i (some v) = σ := List.set_eq_of_length_le (Nat.not_lt.mp hi)
    have e2 : p.set i (.val x) = p := by
      unfold PSt.set
      rw [List.set_eq_of_length_le (by rw [R.len]; exact Nat.not_lt.mp hi)]
    rw [e1, e2]
    exact R
/-- a name takes a result -/
theorem Rel.take {t : TgI} {K : PSt → Prop} (R : Rel C F ow p [(r, v)] σ H) (ht : t = .nm i ∨ (t = .ow i ∧ C.M i = true)) (h : takeT t r p K) : ∃ F' ow' p', Same F F' ∧ Rel C F' ow' p' [] (σ.set i (some v)) H ∧ K p' := by
  have viaEsc : _root_.R.esc r p (fun z p1 => K (p1.set i (.val z))) → ∃ F' ow' p', Same F F' ∧ Rel C F' ow' p' [] (σ.set i (some v)) H ∧ K p' := fun h => by
    obtain ⟨x, p1, F1, ow1, s1, R1, hv, k1⟩ := R.esc h
    exact ⟨F1, ow1, _, s1, R1.storeAny hv (fun t ht => (nomatch ht)), k1⟩
  rcases ht with rfl | ⟨rfl, hM⟩
  · exact viaEsc h
  · cases r with
    | own xs =>
      obtain ⟨ow', R'⟩ := R.putOwn (pre := []) (i := i) hM (fun t ht => (nomatch ht))
      exact ⟨F, ow', _, .refl F, R'.pop, h⟩
    | un => exact viaEsc h
    | val y => exact viaEsc h
    | bor m ys => exact viaEsc h
/-- an owned list is written -/
theorem Rel.write (R : Rel C F ow p [] σ H) (hp : p.get i = .own xs) : ∃ a vs, σ[i]? = some (some (.ref a)) ∧ H a = some (.lst vs) ∧ RVs C F xs vs ∧
    ∀ xs' vs', RVs C F xs' vs' → Rel C F ow (p.set i (.own xs')) [] σ (upd H a (.lst vs')) := by
  have h := R.sl i
  rw [hp] at h
  obtain ⟨a, vs, e, h1, h2, h3, h4⟩ := h
  have hi : i < p.sl.length := PSt.get_lt (by rw [hp]; exact fun z => nomatch z)
  have es : σ[i]? = some (some (.ref a)) := by
    cases q : σ[i]? with
    | none => rw [q] at e; cases e
    | some o => rw [q] at e; exact congrArg some e
  obtain ⟨g1, g2, g3⟩ := R.oww a _ h2
  refine ⟨a, vs, es, h1, h3, fun xs' vs' hv => ⟨fun b u e1 => ?_, R.bf, R.new, fun b o hc e1 => ?_, fun b m e1 => ?_, fun b e1 => ?_, R.cfr, ?_, fun j => ?_, trivial, nob_set R.nob hi (by intro j ys; exact fun q => nomatch q)⟩⟩
  · have q : b ≠ a := fun z => by subst z; rw [g1] at e1; cases e1
    rw [upd_ne q]
    exact R.fh _ _ e1
  · have q : b ≠ a := fun z => by subst z; rw [g2] at e1; cases e1
    rw [upd_ne q]
    exact R.keep b o hc e1
  · obtain ⟨k1, k2, k3⟩ := R.oww b m e1
    refine ⟨k1, k2, ?_⟩
    by_cases q : b = a
    · subst q
      rw [upd_same]
      exact fun z => nomatch z
    · rw [upd_ne q]
      exact k3
  · have q : b ≠ a := fun z => by subst z; exact (R.cfr b e1).2 g2
    obtain ⟨x, y, z, k1, k2⟩ := R.cok b e1
    exact ⟨x, y, z, by rw [upd_ne q]; exact k1, k2⟩
  · show (p.sl.set i _).length = _
    rw [List.length_set, R.len]
  · rw [get_set hi]
    by_cases q : i = j
    · subst q
      rw [if_pos rfl, es]
      exact ⟨a, vs', rfl, upd_same, h2, hv, h4⟩
    · rw [if_neg q]
      have hj := R.sl j
      have hb := R.nob j
      revert hj hb
      cases p.get j with
      | un => exact fun _ _ => trivial
      | val y => exact fun h _ => h
      | own ys =>
        intro h _
        obtain ⟨b, ws, e1, k1, k2, k3, k4⟩ := h
        have q2 : b ≠ a := fun z => by subst z; rw [h2] at k2; cases k2; exact q rfl
        exact ⟨b, ws, e1, by rw [upd_ne q2]; exact k1, k2, k3, k4⟩
      | bor m ys => exact fun _ hb => absurd rfl (hb m ys)
theorem ownK_get {K : List PV → Prop} {s : Slot} (h : ownK s K) : ∃ xs, s = .own xs ∧ K xs := by
  cases s <;> first | exact h.elim | exact ⟨_, rfl, h⟩
theorem Rel.var (R : Rel C F ow p [] σ H) (hp : p.get i = .own xs) : ∃ a vs, σ[i]? = some (some (.ref a)) ∧ H a = some (.lst vs) ∧ RVs C F xs vs := by
  obtain ⟨a, vs, h1, h2, h3, _⟩ := R.write hp
  exact ⟨a, vs, h1, h2, h3⟩
end
end R

set_option Elab.async false
set_option linter.all false
set_option maxRecDepth 100000
/-! R: statements, their readings. -/
namespace R
open PySem PySem.Spec PyProof.Rows L2 RZ
section
variable {X : Cx} {C : RC} {G : CG} {Γ : Nat → PSpec} {k n : Nat} {sc : Scope} {F : Hp} {ow : Addr → Option Id} {p : PSt} {ts pre : List (Slot × V)} {σ : L2.St} {H : Hp} {E : EX} {v : V} {r : Slot} {xs : List PV} {i j : Nat} {D : Ends}

theorem LS.asg {t : TgI} {e : IE} (ht : t = .nm i ∨ (t = .ow i ∧ C.M i = true)) (h : LS X C (evS Γ (.asg t e)) D σ H) : tAsg (LE (HX X C) C (evE Γ e)) (gName i) D σ H := by
  obtain ⟨F, ow, p, PD, R, hx, q, nx, _⟩ := h
  unfold evS at q
  refine ⟨F, ow, p, [], _, _, R, hx, q, fun r p1 v F1 ow1 H1 s1 R1 k1 => ?_⟩
  obtain ⟨F2, ow2, p2, s2, R2, k2⟩ := R1.take ht k1
  exact nx _ _ _ _ _ (s1.trans s2) R2 k2
theorem LS.asgT {ts : List TgI} {e : IE} (h : LS X C (evS Γ (.asg (.tup ts) e)) D σ H) : tAsg (LE (HX X C) C (evE Γ e)) (LG C (tgSlots (.tup ts)) (bindT (.tup ts))) D σ H := by
  obtain ⟨F, ow, p, PD, R, hx, q, nx, _⟩ := h
  unfold evS at q
  refine ⟨F, ow, p, [], _, _, R, hx, q, fun r p1 v F1 ow1 H1 s1 R1 k1 => ?_⟩
  obtain ⟨x, p2, F2, ow2, s2, R2, hv, k2⟩ := R1.esc (show esc r p1 _ from k1)
  exact ⟨F2, ow2, p2, [], x, _, R2, fun t ht => (nomatch ht), hv, k2, fun p' σ' o R' k' => nx _ _ _ _ _ (s1.trans s2) R' k'⟩
theorem LS.aug {op : BO} {f : Int → Int → Int} {e : IE} (hf : ∀ x y K, augP op x y K → ∃ a b, x = .int a ∧ y = .int b ∧ K (.int (f a b))) (h : LS X C (evS Γ (.aug i op e)) D σ H) : tAug i (LE (HX X C) C (evE Γ e)) (ipI f) D σ H := by
  obtain ⟨F, ow, p, PD, R, hx, q, nx, _⟩ := h
  unfold evS evE at q
  cases e1 : p.get i with
  | un => rw [e1] at q; exact q.elim
  | bor m ys => rw [e1] at q; exact q.elim
  | own ys =>
    rw [e1] at q
    have hs := R.sl i
    rw [e1] at hs
    obtain ⟨a, vs, g1, _⟩ := hs
    refine ⟨.ref a, ?_, F, ow, p, [], _, _, R, hx, q, fun r p1 v F1 ow1 H1 s1 R1 k1 => ?_⟩
    · cases q1 : σ[i]? with
      | none => rw [q1] at g1; cases g1
      | some o => rw [q1] at g1; exact congrArg some g1
    · obtain ⟨y, ly, jy⟩ := R1.top.look (show peek r _ from k1)
      obtain ⟨a, b, z, _⟩ := hf _ _ _ jy
      cases z
  | val x =>
    rw [e1] at q
    have hs := R.sl i
    rw [e1] at hs
    obtain ⟨w, g1, g2⟩ := hs
    refine ⟨w, ?_, F, ow, p, [], _, _, R, hx, q, fun r p1 v F1 ow1 H1 s1 R1 k1 => ?_⟩
    · cases q1 : σ[i]? with
      | none => rw [q1] at g1; cases g1
      | some o => rw [q1] at g1; exact congrArg some g1
    · obtain ⟨y, ly, jy⟩ := R1.top.look (show peek r _ from k1)
      obtain ⟨a, b, rfl, rfl, jy2⟩ := hf _ _ _ jy
      exact ⟨a, b, g2, ly.int, nx _ _ _ _ _ s1 (R1.pop.storeAny (x := .int (f a b)) rfl fun t ht => (nomatch ht)) jy2⟩
theorem LS.app {e : IE} (h : LS X C (evS Γ (.app i e)) D σ H) : tDrop (tBM C.K "list" rAppend (tVar i) (tCons (LE (HX X C) C (evE Γ e)) tNil)) D σ H := by
  obtain ⟨F, ow, p, PD, R, hx, q, nx, _⟩ := h
  unfold evS at q
  obtain ⟨ys, e1, q⟩ := ownK_get q
  obtain ⟨a, vs, g1, g2, g3⟩ := R.var e1
  refine ⟨.ref a, g1, .inl ⟨rfl, vs, SqL.of g2⟩, F, ow, p, [], _, _, R, hx, q, fun r p1 v F1 ow1 H1 s1 R1 k1 => ?_⟩
  obtain ⟨x, p2, F2, ow2, s2, R2, hv, k2⟩ := R1.esc (show esc r p1 _ from k1)
  obtain ⟨xs, e2, hl, k2⟩ := ownK_get k2
  obtain ⟨b, ws, f1, f2, f3, f4⟩ := R2.write e2
  rw [g1] at f1
  cases f1
  have hz := line_eq
  exact ⟨a, ws, v, rfl, rfl, f2, by rw [← f3.length]; omega, nx _ _ _ _ _ (s1.trans s2) (f4 _ _ (f3.append (.one hv))) k2⟩
theorem LS.ext {e : IE} (h : LS X C (evS Γ (.ext i e)) D σ H) : tDrop (tBM C.K "list" rExtend (tVar i) (tCons (LE (HX X C) C (evE Γ e)) tNil)) D σ H := by
  obtain ⟨F, ow, p, PD, R, hx, q, nx, _⟩ := h
  unfold evS at q
  obtain ⟨ys, e1, q⟩ := ownK_get q
  obtain ⟨a, vs, g1, g2, g3⟩ := R.var e1
  refine ⟨.ref a, g1, .inl ⟨rfl, vs, SqL.of g2⟩, F, ow, p, [], _, _, R, hx, q, fun r p1 v F1 ow1 H1 s1 R1 k1 => ?_⟩
  obtain ⟨x, lx, k2⟩ := R1.top.look (show peek r _ from k1)
  obtain ⟨xs, e2, k2⟩ := ownK_get k2
  cases x with
  | lst zs =>
    obtain ⟨hl, k2⟩ := (show _ ∧ _ from k2)
    obtain ⟨b, ws, f1, f2, f3, f4⟩ := R1.pop.write e2
    rw [g1] at f1
    cases f1
    have hz := line_eq
    obtain ⟨c, us, rfl, u2, u3⟩ := lx.lstAt R1.fh
    exact ⟨a, c, ws, us, rfl, rfl, f2, u2, by rw [← f3.length, ← u3.length]; omega, nx _ _ _ _ _ s1 (f4 _ _ (f3.append u3)) k2⟩
  | _ => exact False.elim k2
theorem LS.appPop {e : IE} (h : LS X C (evS Γ (.appPop i j e)) D σ H) :
    tDrop (tBM C.K "list" rAppend (tVar i) (tCons (tBM C.K "list" rPopAt (tVar j) (tCons (LE (HX X C) C (evE Γ e)) tNil)) tNil)) D σ H := by
  obtain ⟨F, ow, p, PD, R, hx, q, nx, _⟩ := h
  unfold evS at q
  obtain ⟨ys, e1, q⟩ := ownK_get q
  obtain ⟨zs, e2, q⟩ := ownK_get q
  obtain ⟨a, vs, g1, g2, g3⟩ := R.var e1
  obtain ⟨b, ws, h1, h2, h3⟩ := R.var e2
  refine ⟨.ref a, g1, .inl ⟨rfl, vs, SqL.of g2⟩, .ref b, h1, .inl ⟨rfl, ws, SqL.of h2⟩, F, ow, p, [], _, _, R, hx, q, fun r p1 v F1 ow1 H1 s1 R1 k1 => ?_⟩
  obtain ⟨x, lx, k2⟩ := R1.top.look (show peek r _ from k1)
  cases x with
  | int m =>
    have k2 : ownK (p1.get i) _ := k2
    obtain ⟨xs, e3, k2⟩ := ownK_get k2
    obtain ⟨ys, e4, k2⟩ := ownK_get k2
    obtain ⟨hij, hl, hm0, hm1, w, hw, k2⟩ := k2
    have R2 := R1.pop
    obtain ⟨a', vs', f1, f2, f3, f4⟩ := R2.write e4
    rw [h1] at f1
    cases f1
    have R3 := f4 _ _ (f3.eraseIdx m.toNat)
    have e5 : (p1.set j (.own (ys.eraseIdx m.toNat))).get i = .own xs := by
      rw [get_set (PSt.get_lt (by rw [e4]; exact fun z => nomatch z)), if_neg (Ne.symm hij)]
      exact e3
    obtain ⟨a', vs2, u1, u2, u3, u4⟩ := R3.write e5
    rw [g1] at u1
    cases u1
    obtain ⟨wv, hwv, rw'⟩ := f3.get hw
    have hz := line_eq
    have hlt : m.toNat < vs'.length := (List.getElem?_eq_some_iff.mp hwv).1
    refine ⟨b, vs', m, m.toNat, wv, rfl, by rw [lx.int], f2, by omega, by omega, ?_, hwv, a, vs2, wv, rfl, rfl, u2, by rw [← u3.length]; omega, nx _ _ _ _ _ s1 (u4 _ _ (u3.append (.one rw'))) k2⟩
    exact seqIndex_of hm0 (by omega)
  | _ => exact False.elim k2
theorem LS.sti {ix e : IE} (h : LS X C (evS Γ (.sti i ix e)) D σ H) : tAsg (LE (HX X C) C (evE Γ e)) (gSub (tVar i) (LE (HX X C) C (evE Γ ix)) rSetL) D σ H := by
  obtain ⟨F, ow, p, PD, R, hx, q, nx, _⟩ := h
  unfold evS at q
  refine ⟨F, ow, p, [], _, _, R, hx, q, fun r p1 v F1 ow1 H1 s1 R1 k1 => ?_⟩
  obtain ⟨x, p2, F2, ow2, s2, R2, hv, k2⟩ := R1.esc (show esc r p1 _ from k1)
  obtain ⟨ys, e1, k2⟩ := ownK_get k2
  obtain ⟨a, vs, g1, g2, g3⟩ := R2.var e1
  refine ⟨.ref a, g1, F2, ow2, p2, [(.val x, v)], _, _, R2.push hv, hx, k2, fun r2 p3 w F3 ow3 H3 s3 R3 k3 => ?_⟩
  obtain ⟨y, ly, k4⟩ := R3.top.look (show peek r2 _ from k3)
  obtain ⟨m, rfl, k5⟩ := ly.intK k4
  obtain ⟨xs, e2, j, hj, k6⟩ := ownK_get k5
  have R4 := R3.pop
  obtain ⟨u, eu, hv2⟩ := R4.top
  cases eu
  obtain ⟨b, ws, f1, f2, f3, f4⟩ := R4.pop.write e2
  rw [g1] at f1
  cases f1
  exact ⟨a, ws, m, j, rfl, rfl, f2, by rw [← f3.length]; exact hj, nx _ _ _ _ _ (s1.trans (s2.trans s3)) (f4 _ _ (f3.set j hv2)) k6⟩
theorem LS.cond {t : IT} {a b : List IS} (h : LS X C (evS Γ (.cond t a b)) D σ H) : tIfS (LT (HX X C) C (evT Γ t)) (LS X C (evSs Γ a)) (LS X C (evSs Γ b)) D σ H := by
  obtain ⟨F, ow, p, PD, R, hx, q, nx, bk, ct, rt⟩ := h
  unfold evS at q
  refine ⟨F, ow, p, [], _, _, R, hx, q, fun b p1 F1 ow1 H1 s1 R1 k1 => ?_⟩
  cases b with
  | true =>
    rw [if_pos rfl]
    rw [cnd_t] at k1
    exact ⟨F1, ow1, p1, PD, R1, hx, k1, fun _ _ _ _ _ s => nx _ _ _ _ _ (s1.trans s), fun _ _ _ _ _ s => bk _ _ _ _ _ (s1.trans s), fun _ _ _ _ _ s => ct _ _ _ _ _ (s1.trans s), fun _ _ _ _ _ _ _ h s => rt _ _ _ _ _ _ _ h (s1.trans s)⟩
  | false =>
    rw [if_neg Bool.false_ne_true]
    rw [cnd_f] at k1
    exact ⟨F1, ow1, p1, PD, R1, hx, k1, fun _ _ _ _ _ s => nx _ _ _ _ _ (s1.trans s), fun _ _ _ _ _ s => bk _ _ _ _ _ (s1.trans s), fun _ _ _ _ _ s => ct _ _ _ _ _ (s1.trans s), fun _ _ _ _ _ _ _ h s => rt _ _ _ _ _ _ _ h (s1.trans s)⟩
theorem LS.forr {t : TgI} {it : II} {b : List IS} (h : LS X C (evS Γ (.forr t it b)) D σ H) : tFor (LI (HX X C) C (evIt Γ it)) (LG C (tgSlots t) (bindT t)) (LS X C (evSs Γ b)) D σ H := by
  obtain ⟨F, ow, p, PD, R, hx, q, nx, bk, ct, rt⟩ := h
  unfold evS at q
  refine ⟨F, ow, p, [], _, _, R, hx, q, fun items p1 F1 ow1 H1 J s1 R1 k1 w => ?_⟩
  obtain ⟨Gh, Y, wk, hg, hy⟩ := w
  refine for_it wk (fun i σ H => ∃ F2 ow2 p2, Same F1 F2 ∧ Rel C F2 ow2 p2 [] σ H ∧ forP (bindT t) (fun D' p' => evSs Γ b D' p') PD (items.drop i) p2) ⟨F1, ow1, p1, .refl F1, R1, k1⟩
    (fun i σ H _ ⟨F2, ow2, p2, s2, R2, _⟩ => hg _ _ s2 R2.fh) (fun i x σ H H' hi ⟨F2, ow2, p2, s2, R2, k2⟩ y => ?_) (fun σ H ⟨F2, ow2, p2, s2, R2, k2⟩ => ?_)
  · obtain ⟨z, e1, yk⟩ := hy i H x H' hi y
    obtain ⟨F3, s3, R3, hv⟩ := yk F2 ow2 p2 [] σ s2 R2
    have ed : items.drop i = z :: items.drop (i + 1) := by
      rw [List.drop_eq_getElem_cons hi]
      congr 1
      rw [List.getElem?_eq_getElem hi] at e1
      exact Option.some.inj e1
    rw [ed] at k2
    refine ⟨F3, ow2, p2, [], z, _, R3, fun t ht => (nomatch ht), hv, k2, fun p3 σ3 o R4 k3 => ?_⟩
    exact ⟨F3, ow2, p3, ⟨forP (bindT t) (fun D' p' => evSs Γ b D' p') PD (items.drop (i + 1)), PD.rt, PD.nx, forP (bindT t) (fun D' p' => evSs Γ b D' p') PD (items.drop (i + 1)), PD.ex⟩, R4, hx, k3, fun F5 ow5 p5 σ5 H5 s5 R5 k5 => ⟨F5, ow5, p5, s2.trans (s3.trans s5), R5, k5⟩, fun F5 ow5 p5 σ5 H5 s5 R5 k5 => nx _ _ _ _ _ (s1.trans (s2.trans (s3.trans s5))) R5 k5,
      fun F5 ow5 p5 σ5 H5 s5 R5 k5 => ⟨F5, ow5, p5, s2.trans (s3.trans s5), R5, k5⟩, fun _ _ _ _ _ _ _ h s => rt _ _ _ _ _ _ _ h (s1.trans (s2.trans (s3.trans s)))⟩
  · rw [List.drop_length] at k2
    exact nx _ _ _ _ _ (s1.trans s2) R2 k2
theorem LS.whil {t : IT} {b : List IS} (h : LS X C (evS Γ (.whil t b)) D σ H) : tWhile (LT (HX X C) C (evT Γ t)) (LS X C (evSs Γ b)) D σ H := by
  obtain ⟨F, ow, p, PD, R, hx, q, nx, bk, ct, rt⟩ := h
  unfold evS at q
  obtain ⟨n0, q⟩ := q
  refine ⟨fun m σ H => ∃ F1 ow1 p1, Same F F1 ∧ Rel C F1 ow1 p1 [] σ H ∧ whilP (fun q J => evT Γ t q J PD.ex) (fun D' p' => evSs Γ b D' p') PD m p1, ⟨n0, F, ow, p, .refl F, R, q⟩, fun m σ H ⟨F1, ow1, p1, s1, R1, k1⟩ => ?_⟩
  cases m with
  | zero =>
    refine ⟨F1, ow1, p1, [], _, _, R1, hx, k1, fun b p2 F2 ow2 H2 s2 R2 k2 => ?_⟩
    obtain ⟨rfl, k2⟩ := k2
    rw [if_neg Bool.false_ne_true]
    exact nx _ _ _ _ _ (s1.trans s2) R2 k2
  | succ m =>
    refine ⟨F1, ow1, p1, [], _, _, R1, hx, k1, fun b p2 F2 ow2 H2 s2 R2 k2 => ?_⟩
    cases b with
    | false =>
      rw [if_neg Bool.false_ne_true]
      rw [cnd_f] at k2
      exact nx _ _ _ _ _ (s1.trans s2) R2 k2
    | true =>
      rw [if_pos rfl]
      rw [cnd_t] at k2
      refine ⟨_, fun σ' H' z => ⟨m, by omega, z⟩, F2, ow2, p2, ⟨whilP (fun q J => evT Γ t q J PD.ex) (fun D' p' => evSs Γ b D' p') PD m, PD.rt, PD.nx, whilP (fun q J => evT Γ t q J PD.ex) (fun D' p' => evSs Γ b D' p') PD m, PD.ex⟩, R2, hx, k2, fun F5 ow5 p5 σ5 H5 s5 R5 k5 => ⟨F5, ow5, p5, s1.trans (s2.trans s5), R5, k5⟩, fun F5 ow5 p5 σ5 H5 s5 R5 k5 => nx _ _ _ _ _ (s1.trans (s2.trans s5)) R5 k5,
        fun F5 ow5 p5 σ5 H5 s5 R5 k5 => ⟨F5, ow5, p5, s1.trans (s2.trans s5), R5, k5⟩, fun _ _ _ _ _ _ _ h s => rt _ _ _ _ _ _ _ h (s1.trans (s2.trans s))⟩
theorem LS.ret {e : IE} (h : LS X C (evS Γ (.ret e)) D σ H) : tRet (LE (HX X C) C (evE Γ e)) D σ H := by
  obtain ⟨F, ow, p, PD, R, hx, q, nx, bk, ct, rt⟩ := h
  unfold evS at q
  refine ⟨F, ow, p, [], _, _, R, hx, q, fun r p1 v F1 ow1 H1 s1 R1 k1 => ?_⟩
  obtain ⟨x, p2, F2, ow2, s2, R2, hv, k2⟩ := R1.esc (show esc r p1 _ from k1)
  exact rt _ _ _ _ _ _ _ (.inl ⟨x, rfl⟩) (s1.trans s2) (R2.push hv) k2
theorem LS.retO {e : IE} (h : LS X C (evS Γ (.retO e)) D σ H) : tRet (LE (HX X C) C (evE Γ e)) D σ H := by
  obtain ⟨F, ow, p, PD, R, hx, q, nx, bk, ct, rt⟩ := h
  unfold evS at q
  refine ⟨F, ow, p, [], _, _, R, hx, q, fun r p1 v F1 ow1 H1 s1 R1 k1 => ?_⟩
  obtain ⟨xs, rfl, k2⟩ := ownK_get k1
  exact rt _ _ _ _ _ _ _ (.inr ⟨xs, rfl⟩) s1 R1 k2
theorem LS.retN (h : LS X C (evS Γ .retN) D σ H) : tRetN D σ H := by
  obtain ⟨F, ow, p, PD, R, hx, q, nx, bk, ct, rt⟩ := h
  unfold evS at q
  exact rt _ _ _ _ _ _ _ (.inl ⟨.non, rfl⟩) (.refl F) (R.push rfl) q
theorem LS.brk (h : LS X C (evS Γ .brk) D σ H) : tBreak D σ H := by
  obtain ⟨F, ow, p, PD, R, hx, q, nx, bk, ct, rt⟩ := h
  unfold evS at q
  exact bk _ _ _ _ _ (.refl F) R q
theorem LS.cnt (h : LS X C (evS Γ .cnt) D σ H) : tCont D σ H := by
  obtain ⟨F, ow, p, PD, R, hx, q, nx, bk, ct, rt⟩ := h
  unfold evS at q
  exact ct _ _ _ _ _ (.refl F) R q
theorem LS.pass (h : LS X C (evS Γ .pass) D σ H) : tNext D σ H := by
  obtain ⟨F, ow, p, PD, R, hx, q, nx, bk, ct, rt⟩ := h
  unfold evS at q
  exact nx _ _ _ _ _ (.refl F) R q
theorem LS.nil (h : LS X C (evSs Γ []) D σ H) : tNext D σ H := by
  obtain ⟨F, ow, p, PD, R, hx, q, nx, bk, ct, rt⟩ := h
  unfold evSs at q
  exact nx _ _ _ _ _ (.refl F) R q
theorem LS.cons {s : IS} {ss : List IS} (h : LS X C (evSs Γ (s :: ss)) D σ H) : tSeq (LS X C (evS Γ s)) (LS X C (evSs Γ ss)) D σ H := by
  obtain ⟨F, ow, p, PD, R, hx, q, nx, bk, ct, rt⟩ := h
  unfold evSs at q
  exact ⟨F, ow, p, ⟨fun q => evSs Γ ss PD q, PD.rt, PD.bk, PD.ct, PD.ex⟩, R, hx, q, fun F1 ow1 p1 σ1 H1 s1 R1 k1 => ⟨F1, ow1, p1, PD, R1, hx, k1, fun _ _ _ _ _ s => nx _ _ _ _ _ (s1.trans s), fun _ _ _ _ _ s => bk _ _ _ _ _ (s1.trans s), fun _ _ _ _ _ s => ct _ _ _ _ _ (s1.trans s), fun _ _ _ _ _ _ _ h s => rt _ _ _ _ _ _ _ h (s1.trans s)⟩, bk, ct, rt⟩
end
end R

set_option Elab.async false
set_option linter.all false
set_option maxRecDepth 100000
/-! R: several names at once. -/
namespace R
open PySem PySem.Spec PyProof.Rows L2 RZ
def mkT (rs : List Slot) (vs : List V) : List (Slot × V) := (rs.zip vs).reverse
/-- no result that looks at a name's list -/
def NoB (ts : List (Slot × V)) : Prop := ∀ t ∈ ts, ∀ j ys, t.1 ≠ .bor j ys
def LRs (n : Nat) (hX : EX → Prop) (C : RC) (T : PSt → (List Slot → PSt → Prop) → EX → Prop) : TA := fun σ H Qh => ∃ F ow p ts K E, Rel C F ow p ts σ H ∧ NoB ts ∧ hX E ∧ T p K E ∧
  ∀ rs p' vs F' ow' H', rs.length = n → vs.length = n → Same F F' → Rel C F' ow' p' (mkT rs vs ++ ts) σ H' → NoB (mkT rs vs) → K rs p' → Qh vs H'
def LGR (C : RC) (T : List Slot → PSt → (PSt → Prop) → Prop) : TGs := fun vs σ H Qh => ∃ F ow p rs done K, Rel C F ow p (mkT rs vs ++ done) σ H ∧ NoB (mkT rs vs ++ done) ∧ rs.length = vs.length ∧ T rs p K ∧
  ∀ ow' p' σ' ts', Rel C F ow' p' ts' σ' H → K p' → Qh σ' H
section
variable {X : Cx} {C : RC} {G : CG} {Γ : Nat → PSpec} {k n : Nat} {sc : Scope} {F : Hp} {ow : Addr → Option Id} {p : PSt} {ts pre : List (Slot × V)} {σ : L2.St} {H : Hp} {E : EX} {v : V} {r : Slot} {xs : List PV} {i j : Nat} {D : Ends}
theorem NoB.app (h : NoB ts) (h2 : NoB pre) : NoB (ts ++ pre) := fun t ht => (List.mem_append.mp ht).elim (h t) (h2 t)
/-- a result is kept for a name -/
theorem Rel.keepT {t : TgI} {K : Slot → PSt → Prop} (R : Rel C F ow p ((r, v) :: ts) σ H) (h : keepT t r p K) : ∃ F' ow' p' s, Same F F' ∧ Rel C F' ow' p' ((s, v) :: ts) σ H ∧ (∀ j ys, s ≠ .bor j ys) ∧ K s p' := by
  have via : _root_.R.esc r p (fun z p1 => K (.val z) p1) → ∃ F' ow' p' s, Same F F' ∧ Rel C F' ow' p' ((s, v) :: ts) σ H ∧ (∀ j ys, s ≠ .bor j ys) ∧ K s p' := fun h => by
    obtain ⟨x, p1, F1, ow1, s1, R1, hv, k1⟩ := R.esc h
    exact ⟨F1, ow1, p1, .val x, s1, R1.push hv, fun _ _ z => (nomatch z), k1⟩
  cases t with
  | ow i =>
    cases r with
    | own xs => exact ⟨F, ow, p, .own xs, .refl F, R, fun _ _ z => (nomatch z), h⟩
    | _ => exact via h
  | nm i => exact via h
  | tup us => exact via h
theorem evRs_len : ∀ (ts : List TgI) (es : List IE) (p : PSt) (K : List Slot → PSt → Prop) (E : EX), evRs Γ ts es p K E → ts.length = es.length → True := fun _ _ _ _ _ _ _ => trivial
theorem rs_ok (c : Cn X C G Γ k sc) : ∀ (m : Nat) (es : List Expr) (is : List IE) (ts : List TgI), cEs G m sc es = some is → ts.length = is.length → PA X es (LRs is.length (HX X C) C (evRs Γ ts is))
  | 0, _, _, _, h, _ => by simp [cEs] at h
  | m + 1, [], is, ts, h, hl => by
    simp only [cEs] at h
    cases h
    refine PA.imp pa_nil fun σ H Q q => ?_
    obtain ⟨F, ow, p, us, K, E, R, nb, hx, q, post⟩ := q
    cases ts with
    | cons t ts => simp at hl
    | nil =>
      unfold evRs at q
      exact post [] p [] F ow H rfl rfl (.refl F) R (fun t ht => (nomatch ht)) q
  | m + 1, e :: es, is, ts, h, hl => by
    simp only [cEs] at h
    split at h
    · cases h
    rename_i hs
    split at h
    rotate_left
    · cases h
    rename_i x xs h1 h2
    cases h
    cases ts with
    | nil => simp at hl
    | cons t ts =>
      have hl2 : ts.length = xs.length := by simpa using hl
      have hs : isStar e = false := by simpa using hs
      refine PA.imp (pa_cons ((snd_all G Γ k m).e c _ _ h1) (rs_ok c m es xs ts h2 hl2) (star_eq hs)) fun σ H Q q => ?_
      obtain ⟨F, ow, p, us, K, E, R, nb, hx, q, post⟩ := q
      unfold evRs at q
      refine ⟨F, ow, p, us, _, E, R, hx, q, fun r p1 v F1 ow1 H1 s1 R1 k1 => ?_⟩
      obtain ⟨F2, ow2, p2, s, s2, R2, hb, k2⟩ := R1.keepT k1
      refine ⟨F2, ow2, p2, _, _, E, R2, fun t ht => ?_, hx, k2, fun rs p3 vs F3 ow3 H3 n1 n2 s3 R3 nb3 k3 => ?_⟩
      · rcases List.mem_cons.mp ht with rfl | ht
        · exact hb
        · exact nb t ht
      · refine post (s :: rs) p3 (v :: vs) F3 ow3 H3 (by simp [n1]) (by simp [n2]) (s1.trans (s2.trans s3)) ?_ ?_ k3
        · unfold mkT at R3 ⊢
          rw [List.zip_cons_cons, List.reverse_cons, List.append_assoc]
          exact R3
        · unfold mkT at nb3 ⊢
          rw [List.zip_cons_cons, List.reverse_cons]
          refine nb3.app fun t ht => ?_
          rw [List.mem_singleton.mp ht]
          exact hb
theorem mkT_cons {s : Slot} {rs : List Slot} {vs : List V} : mkT (s :: rs) (v :: vs) ++ ts = mkT rs vs ++ (s, v) :: ts := by
  unfold mkT
  rw [List.zip_cons_cons, List.reverse_cons, List.append_assoc]
  rfl
theorem Rel.dropTo : ∀ {pre : List (Slot × V)}, Rel C F ow p (pre ++ ts) σ H → Rel C F ow p ts σ H
  | [], R => R
  | _ :: pre, R => Rel.dropTo (pre := pre) R.pop
/-- in the names' order -/
theorem tgs_ok (c : CnS X C G Γ k sc) : ∀ (m : Nat) (es : List Expr) (ts : List TgI), cTgts G sc true m es = some ts → PGs X es (LGR C (takeTs ts))
  | 0, _, _, h => by simp [cTgts] at h
  | m + 1, [], ts, h => by
    simp only [cTgts] at h
    cases h
    refine PGs.imp pgs_nil fun vs σ H Q q => ?_
    obtain ⟨F, ow, p, rs, done, K, R, nb, hl, ht, post⟩ := q
    cases rs with
    | cons s rs => exact ht.elim
    | nil =>
      have : vs = [] := by cases vs with
        | nil => rfl
        | cons _ _ => simp at hl
      subst this
      exact ⟨rfl, post _ _ _ _ R ht⟩
  | m + 1, e :: es, ts, h => by
    simp only [cTgts] at h
    split at h
    rotate_left
    · cases h
    rename_i t ts' h1 h2
    cases h
    have hc : ∀ x, sc.names.lookup x = some .cell → sc.names.lookup x = some .cell ∧ X.fn x = true := fun x hx => ⟨hx, c.fnall x⟩
    obtain ⟨a1, a2⟩ := (tgt_ok c.toCn (fun _ h => h) hc m).1 true e t h1
    have ea : (assignEach (e :: es) X.env).map (·.2) = assign e X.env :: (assignEach es X.env).map (·.2) := by
      cases e <;> first | rfl | cases a1
    have hnm : (∃ x pos i, e = .Name x pos ∧ (t = .nm i ∨ t = .ow i ∧ C.M i = true) ∧ PG X e (gName i)) ∨ ∃ us, t = .tup us := by
      cases m with
      | zero => simp [cTgt] at h1
      | succ m =>
        unfold cTgt at h1
        cases e with
        | Name x pos =>
          left
          dsimp only at h1
          have key : ∀ i, G.N.findIdx? (· == x) = some i → Loc X.env.scope x → (if (true && G.mu.contains x) = true then TgI.ow i else TgI.nm i) = t → ∃ y pos' i, Expr.Name x pos = .Name y pos' ∧ (t = .nm i ∨ t = .ow i ∧ C.M i = true) ∧ PG X (Expr.Name x pos) (gName i) := fun i hi hx ht => by
            have hn : X.N[i]? = some x := by rw [c.N]; exact findIdx_get hi
            refine ⟨x, pos, i, rfl, ?_, pg_name (by rw [c.N]; exact c.nd) hn hx (.inl (c.fnall x))⟩
            split at ht
            · rename_i hm
              refine .inr ⟨ht.symm, ?_⟩
              rw [c.M]
              unfold muOf
              rw [findIdx_get hi]
              simpa using hm
            · exact .inl ht.symm
          split at h1
          · rename_i q
            obtain ⟨i, g1, g2⟩ := Option.map_eq_some_iff.mp h1
            exact key i g1 (by rw [c.scp]; exact .inl q) g2
          · rename_i q
            obtain ⟨i, g1, g2⟩ := Option.map_eq_some_iff.mp h1
            exact key i g1 (by rw [c.scp]; exact .inr q) g2
          · cases h1
        | Tuple us kk pos =>
          right
          dsimp only at h1
          obtain ⟨us', _, rfl⟩ := Option.map_eq_some_iff.mp h1
          exact ⟨us', rfl⟩
        | _ => cases h1
    have split3 : ∀ {vs : List V} {σ : L2.St} {H : Hp} {Q : L2.St → Hp → Prop}, LGR C (takeTs (t :: ts')) vs σ H Q → ∃ v vr, vs = v :: vr ∧ ∃ F ow p s rs done K, Rel C F ow p (mkT rs vr ++ (s, v) :: done) σ H ∧ NoB (mkT rs vr ++ (s, v) :: done) ∧ rs.length = vr.length ∧ takeR t s p (fun p1 => takeTs ts' rs p1 K) ∧
        (∀ ow' p' σ' ts', Rel C F ow' p' ts' σ' H → K p' → Q σ' H) := fun {vs σ H Q} q => by
      obtain ⟨F, ow, p, rs, done, K, R, nb, hl, ht, post⟩ := q
      cases rs with
      | nil => exact ht.elim
      | cons s rs =>
        cases vs with
        | nil => simp at hl
        | cons v vs =>
          rw [mkT_cons] at R nb
          exact ⟨v, vs, rfl, F, ow, p, s, rs, done, K, R, nb, by simpa using hl, ht, post⟩
    have ih := tgs_ok c m es ts' h2
    have nbU : ∀ {pre done : List (Slot × V)} {s : Slot} {v : V}, NoB (pre ++ (s, v) :: done) → NoB (pre ++ (.un, v) :: done) := fun {pre done s v} nb t ht => by
      rcases List.mem_append.mp ht with h | h
      · exact nb t (List.mem_append_left _ h)
      · rcases List.mem_cons.mp h with rfl | h
        · exact fun _ _ z => (nomatch z)
        · exact nb t (List.mem_append_right _ (List.mem_cons_of_mem _ h))
    rcases hnm with ⟨x, pos, i, rfl, ht, hg⟩ | ⟨us, rfl⟩
    · refine PGs.imp (pgs_cons hg ih ea) fun vs σ H Q q => ?_
      obtain ⟨v, vr, rfl, F, ow, p, s, rs, done, K, R, nb, hl, h, post⟩ := split3 q
      refine ⟨v, vr, rfl, ?_⟩
      show LGR C (takeTs ts') vr (σ.set i (some v)) H Q
      have viaVal : ∀ z, s = .val z → (bindT t z p fun p1 => takeTs ts' rs p1 K) → LGR C (takeTs ts') vr (σ.set i (some v)) H Q := fun z e1 h => by
        subst e1
        obtain ⟨u, e2, hv⟩ := R.tm.mid
        cases e2
        have hk : takeTs ts' rs (p.set i (.val z)) K := by rcases ht with rfl | ⟨rfl, _⟩ <;> exact h
        exact ⟨F, ow, _, rs, _, K, R.storeAny hv (fun t ht j xs e => absurd e (nb t ht j xs)), nb, hl, hk, post⟩
      cases s with
      | val z => exact viaVal z rfl (by rcases ht with rfl | ⟨rfl, _⟩ <;> exact h)
      | own xs =>
        rcases ht with rfl | ⟨rfl, hM⟩
        · exact h.elim
        · obtain ⟨ow', R'⟩ := R.putOwn (i := i) hM (fun t ht => nb t (by
            rcases List.mem_append.mp ht with h | h
            · exact List.mem_append_left _ h
            · exact List.mem_append_right _ (List.mem_cons_of_mem _ h)))
          exact ⟨F, ow', _, rs, _, K, R', nbU nb, hl, h, post⟩
      | un => rcases ht with rfl | ⟨rfl, _⟩ <;> exact h.elim
      | bor m ys => rcases ht with rfl | ⟨rfl, _⟩ <;> exact h.elim
    · refine PGs.imp (pgs_cons a2 ih ea) fun vs σ H Q q => ?_
      obtain ⟨v, vr, rfl, F, ow, p, s, rs, done, K, R, nb, hl, h, post⟩ := split3 q
      refine ⟨v, vr, rfl, ?_⟩
      cases s with
      | val z =>
        obtain ⟨u, e2, hv⟩ := R.tm.mid
        cases e2
        exact ⟨F, ow, p, _, z, _, R, fun t ht j xs e => absurd e (nb t ht j xs), hv, h, fun p' σ' o R' k' => ⟨F, ow, p', rs, _, K, R', nb, hl, k', post⟩⟩
      | _ => exact h.elim
/-- as a tuple, then the names -/
theorem LS.parT {tgs : List TgI} {is : List IE} (hn : is.length ≤ 1000) (hl : tgs.length = is.length) (h : LS X C (evS Γ (.par tgs is)) D σ H) : tAsg (tTup (LRs is.length (HX X C) C (evRs Γ tgs is))) (gTup C.K is.length (LGR C (takeTs tgs))) D σ H := by
  obtain ⟨F, ow, p, PD, R, hx, q, nx, _⟩ := h
  unfold evS at q
  have hz := line_eq
  refine ⟨F, ow, p, [], _, _, R, fun t ht => (nomatch ht), hx, q, fun rs p1 vs F1 ow1 H1 n1 n2 s1 R1 nb k1 => ⟨by omega, fun T hT => ⟨T, vs, rfl, SqT.of upd_same, n2, ?_⟩⟩⟩
  exact ⟨F1, ow1, p1, rs, [], _, R1.laid0 hT, nb.app (fun t ht => (nomatch ht)), by omega, k1, fun ow' p' σ' ts' R' k' => nx _ _ _ _ _ s1 R'.noTs k'⟩
/-- one name, in the names' order -/
def TgC (C : RC) (t : TgI) (i : Nat) : Prop := t = .nm i ∨ t = .ow i ∧ C.M i = true
theorem Rel.take1 {t : TgI} {s : Slot} {K : PSt → Prop} {pre done : List (Slot × V)} (R : Rel C F ow p (pre ++ (s, v) :: done) σ H) (nb : NoB (pre ++ (s, v) :: done)) (ht : TgC C t i) (h : takeR t s p K) :
    ∃ ow' s' p', Rel C F ow' p' (pre ++ (s', v) :: done) (σ.set i (some v)) H ∧ NoB (pre ++ (s', v) :: done) ∧ K p' := by
  have nbU : NoB (pre ++ (.un, v) :: done) := fun t ht => by
    rcases List.mem_append.mp ht with h | h
    · exact nb t (List.mem_append_left _ h)
    · rcases List.mem_cons.mp h with rfl | h
      · exact fun _ _ z => (nomatch z)
      · exact nb t (List.mem_append_right _ (List.mem_cons_of_mem _ h))
  have viaVal : ∀ z, s = .val z → (bindT t z p K) → ∃ ow' s' p', Rel C F ow' p' (pre ++ (s', v) :: done) (σ.set i (some v)) H ∧ NoB (pre ++ (s', v) :: done) ∧ K p' := fun z e1 h => by
    subst e1
    obtain ⟨u, e2, hv⟩ := R.tm.mid
    cases e2
    have hk : K (p.set i (.val z)) := by rcases ht with rfl | ⟨rfl, _⟩ <;> exact h
    exact ⟨ow, _, _, R.storeAny hv (fun t ht j xs e => absurd e (nb t ht j xs)), nb, hk⟩
  cases s with
  | val z => exact viaVal z rfl (by rcases ht with rfl | ⟨rfl, _⟩ <;> exact h)
  | own xs =>
    rcases ht with rfl | ⟨rfl, hM⟩
    · exact h.elim
    · obtain ⟨ow', R'⟩ := R.putOwn (i := i) hM (fun t ht => nb t (by
        rcases List.mem_append.mp ht with h | h
        · exact List.mem_append_left _ h
        · exact List.mem_append_right _ (List.mem_cons_of_mem _ h)))
      exact ⟨ow', .un, _, R', nbU, h⟩
  | un => rcases ht with rfl | ⟨rfl, _⟩ <;> exact h.elim
  | bor m ys => rcases ht with rfl | ⟨rfl, _⟩ <;> exact h.elim
theorem LS.par2 {t u : TgI} {is : List IE} (hn : is.length = 2) (ht : TgC C t i) (hu : TgC C u j) (h : LS X C (evS Γ (.par [t, u] is)) D σ H) : tPar i j (LRs is.length (HX X C) C (evRs Γ [t, u] is)) D σ H := by
  obtain ⟨F, ow, p, PD, R, hx, q, nx, _⟩ := h
  unfold evS at q
  refine ⟨F, ow, p, [], _, _, R, fun t ht => (nomatch ht), hx, q, fun rs p1 vs F1 ow1 H1 n1 n2 s1 R1 nb k1 => ?_⟩
  rw [hn] at n1 n2
  match rs, vs, n1, n2 with
  | [a, b], [v, w], _, _ =>
    have R1' : Rel C F1 ow1 p1 ([(b, w)] ++ (a, v) :: []) σ H1 := R1
    have nb' : NoB ([(b, w)] ++ (a, v) :: []) := nb
    obtain ⟨ow2, s', p2, R2, nb2, k2⟩ := R1'.take1 nb' ht k1
    have R2' : Rel C F1 ow2 p2 ([] ++ (b, w) :: [(s', v)]) _ H1 := R2
    have nb2' : NoB ([] ++ (b, w) :: [(s', v)]) := nb2
    obtain ⟨ow3, s3, p3, R3, nb3, k3⟩ := R2'.take1 nb2' hu k2
    exact ⟨v, w, rfl, nx _ _ _ _ _ s1 R3.noTs k3⟩
theorem LS.par3 {t u x : TgI} {l : Nat} {is : List IE} (hn : is.length = 3) (ht : TgC C t i) (hu : TgC C u j) (hx' : TgC C x l) (h : LS X C (evS Γ (.par [t, u, x] is)) D σ H) : tPar3 i j l (LRs is.length (HX X C) C (evRs Γ [t, u, x] is)) D σ H := by
  obtain ⟨F, ow, p, PD, R, hx, q, nx, _⟩ := h
  unfold evS at q
  refine ⟨F, ow, p, [], _, _, R, fun t ht => (nomatch ht), hx, q, fun rs p1 vs F1 ow1 H1 n1 n2 s1 R1 nb k1 => ?_⟩
  rw [hn] at n1 n2
  match rs, vs, n1, n2 with
  | [a, b, c], [v, w, y], _, _ =>
    have R1' : Rel C F1 ow1 p1 ([(c, y), (b, w)] ++ (a, v) :: []) σ H1 := R1
    have nb' : NoB ([(c, y), (b, w)] ++ (a, v) :: []) := nb
    obtain ⟨ow2, s', p2, R2, nb2, k2⟩ := R1'.take1 nb' ht k1
    have R2' : Rel C F1 ow2 p2 ([(c, y)] ++ (b, w) :: [(s', v)]) _ H1 := R2
    have nb2' : NoB ([(c, y)] ++ (b, w) :: [(s', v)]) := nb2
    obtain ⟨ow3, s3, p3, R3, nb3, k3⟩ := R2'.take1 nb2' hu k2
    have R3' : Rel C F1 ow3 p3 ([] ++ (c, y) :: [(s3, w), (s', v)]) _ H1 := R3
    have nb3' : NoB ([] ++ (c, y) :: [(s3, w), (s', v)]) := nb3
    obtain ⟨ow4, s4, p4, R4, nb4, k4⟩ := R3'.take1 nb3' hx' k3
    exact ⟨v, w, y, rfl, nx _ _ _ _ _ s1 R4.noTs k4⟩
end
end R

set_option Elab.async false
set_option linter.all false
set_option maxRecDepth 100000
/-! R: a try with several named clauses. -/
namespace R
open PySem PySem.Spec PyProof.Rows L2 RZ
abbrev Sui := Addr → Value → Option Addr → TS
/-- the ends of a clause: its name, at slot i, is gone behind it -/
def endsN (i : Nat) (W : Ends) : Ends := { nx := fun σ H => W.nx (σ.set i none) H, rt := W.rt, bk := fun σ H => W.bk (σ.set i none) H, ct := fun σ H => W.ct (σ.set i none) H }
/-- what the clauses wish of an exception, one after the other -/
def wCl (K : PySem.W.Frag) (n i : Nat) (out : WX) (W : Ends) : List (Value × Sui) → WX
  | [] => out
  | p :: r => fun cls dd σ H => ∃ yes, PySem.W.exmOne K cls p.1 = some yes ∧ (yes = true → σ.length = n → ∀ x, H x = none → p.2 x cls dd (endsN i W) (σ.set i (some (.ref x))) H) ∧ (yes = false → wCl K n i out W r cls dd σ H)
/-- clauses that are all named by one name -/
inductive ClOk (X : Cx) (nm : Str) : List ExceptHandler → List (Value × Sui) → Prop
  | nil : ClOk X nm [] []
  | cons {y : Str} {p : Value × Sui} {b1 : Stmt} {bs : List Stmt} {py pc : Pos} {more : List ExceptHandler} {l : List (Value × Sui)} (named : Names X y p.1)
      (suite : ∀ (x : Addr) (ob : Obj) (cls : Value) (dd : Option Addr) (pn : List (Addr × Obj)), Zc cls dd ob → (∃ fs, ob.data = .fields fs) → PSs (X.suite x ((x, ob) :: pn)) (b1 :: bs) (p.2 x cls dd)) (rest : ClOk X nm more l) :
      ClOk X nm (.ExceptHandler (some (.Name y py)) (some nm) (b1 :: bs) pc :: more) (p :: l)
section
variable {X : Cx} {nm : Str} {i : Nat} {bd : List Stmt} {c0 : ExceptHandler} {cl : List ExceptHandler} {l : List (Value × Sui)} {pos : Pos} {tb : WX → TS} {out : WX}
theorem ps_tryCl (hst : X.stack = X.env :: X.outer) (hfr : X.env.frame = some X.env.locals) (hN : X.N.Nodup) (hi : X.N[i]? = some nm) (hk : X.env.kindOf nm = some .local) (tk : Takes X out)
    (hb : ∀ (W : WX) (pn : List (Addr × Obj)) (xe : Value → Shared → Prop), Takes (X.tr pn xe) W → PassesOwn (model X.prog X.w) X.A X.env xe → PSs (X.tr pn xe) bd (tb W))
    (hc : ClOk X nm (c0 :: cl) l) : PS X (.Try bd (c0 :: cl) [] [] pos) (fun W σ H => tb (wCl X.K X.N.length i out W l) W σ H) := by
  refine ⟨fun pins s σ H W I hyp => ?_⟩
  have okX := I.ok
  have frs0 : X.A.frames = some (X.env :: X.outer) := by rw [okX.frames, hst]
  have locN : Loc X.env.scope nm := .inl hk
  refine wpAny_Try_except (wpAny_mono ((hb (wCl X.K X.N.length i out W l) (X.pn ++ pins) (fun e t1 => wpAny (model X.prog X.w) X.A (noteFrame e X.env) (fun _ t2 => wpAny (model X.prog X.w) X.A (setFlight e none) (fun _ t3 =>
    wpAny (model X.prog X.w) X.A (handleBy e X.env (c0 :: cl)) (SP X pins W) X.xe t3) X.xe t2) X.xe t1) (fun u t xx => ?_) PassesOwn.looking).run [] s σ H W (I.toTry _) hyp) (fun f t hsp => ?_) fun _ _ he => he)
  rotate_left
  · cases f with
    | next => obtain ⟨σ2, H2, I2, q⟩ := hsp; exact wpAny_execs_nil ⟨σ2, H2, I2.ofTry okX, q⟩
    | brk => obtain ⟨σ2, H2, I2, q⟩ := hsp; exact ⟨σ2, H2, I2.ofTry okX, q⟩
    | cont => obtain ⟨σ2, H2, I2, q⟩ := hsp; exact ⟨σ2, H2, I2.ofTry okX, q⟩
    | ret u => obtain ⟨v, σ2, H2, I2, r, q⟩ := hsp; exact ⟨v, σ2, H2, I2.ofTry okX, r, q⟩
  obtain ⟨x, B, s0, pins2, σ2, H2, cls, dd, rfl, I2, nb, up, sky, free, hos, bare, wish⟩ := xx
  have I3 : Inv X pins σ2 H2 s0 := I2.ofTry okX
  have sky2 : Sky B (X.env :: X.outer) x (Zc cls dd) X.env.locals t.heap := by rw [← hst]; exact sky
  show wpAny (model X.prog X.w) X.A (noteFrame (.ref x) X.env) _ _ _
  refine Sky.land Zc.steady frs0 hfr sky2 fun h3 fl3 up3 => ?_
  have I4 : Inv X pins σ2 H2 { t with heap := h3 } := I3.landed nb fl3.1 (up.trans up3) hos bare
  obtain ⟨ob, fs, hob, hz, hd⟩ := fl3.there
  have nIn : x ∉ frs (X.env :: X.outer) := fun hm => by
    obtain ⟨_, ob2, e2, hnf⟩ := (fl3.2.2.1).mem hm
    rw [hob] at e2
    cases e2
    exact hnf _ hd
  have nL : x ≠ X.env.locals := fun z => nIn (List.mem_filterMap.mpr ⟨X.env, List.mem_cons_self, by rw [hfr, z]⟩)
  have nF : x ∉ X.fs := fun hm => by
    obtain ⟨en, hen, q⟩ := List.mem_filterMap.mp hm
    exact nIn (List.mem_filterMap.mpr ⟨en, List.mem_cons_of_mem _ hen, q⟩)
  have IS := I4.suite hob hd free nL nF
  have walk : ∀ {ch : List ExceptHandler} {lh : List (Value × Sui)}, ClOk X nm ch lh → wCl X.K X.N.length i out W lh cls dd σ2 H2 → wpAny (model X.prog X.w) X.A (handleBy (.ref x) X.env ch) (SP X pins W) X.xe { t with heap := h3 } := by
    intro ch lh hch
    induction hch with
    | nil =>
      intro wh
      refine wpAny_handleBy_nil ?_
      obtain ⟨_, _, _, ob1, fs1, T1, oT1, tt, g1, g2, g3, g4, _⟩ := id fl3
      unfold PySem.passOn
      refine wpAny_bind (wpAny_field g1 g3 g4 ?_)
      rw [if_neg (show ¬ ((Value.ref T1 == Value.none) = true) by simp)]
      have up1 : wpAny (model X.prog X.w) X.A (setFlight (.ref x) X.env.frame) (fun _ t4 => wpAny (model X.prog X.w) X.A (throw (.ref x) : Sem Flow) (SP X pins W) X.xe t4) X.xe { t with heap := h3 } := by
        rw [hfr]
        refine HandSPX.setFlight_upZ fl3 fun h4 hh up4 => wpAny_throw (tk _ _ ⟨x, B, s0, pins, σ2, H2, cls, dd, rfl, I3, nb, (up.trans up3).trans up4, .inr (.inr (by rw [hst]; exact hh)), free, hos, bare, wh⟩)
      first
        | exact wpAny_bind (wpAny_pure (wpAny_bind up1))
        | exact wpAny_bind up1
    | @cons y p b1 bs py pc more l2 named suite rest ih =>
      intro wh
      obtain ⟨yes, hy, h1, h0⟩ := wh
      refine wpAny_handleBy_cons (codeAny_handlers_test ?_) (fun z => nomatch z)
      have lt : PySem.W.Looks (model X.prog X.w) h3 (typeOf (.ref x)) cls := fun _ _ _ _ kk q => wpAny_typeOf_ref (kk _ _ hob) (by rw [hz.1]; exact q)
      have lm := PySem.W.exm_one (M := model X.prog X.w) I4.kIn lt hy
      have tst : ∀ {Q : Value → Shared → Prop} {E : Value → Shared → Prop}, Q p.1 { t with heap := h3 } → wpAny (model X.prog X.w) (X.A.mark (some (.ref x))) (eval (.Name y py) X.env) Q E { t with heap := h3 } := fun {Q E} q => by
        obtain ⟨ng, nd, nm1 | ⟨nm2, nv, nn⟩⟩ := named
        · exact ld_glob (X := X.suite x ((x, ob) :: (X.pn ++ pins))) IS ng nm1 q nd
        · exact ld_blt (X := X.suite x ((x, ob) :: (X.pn ++ pins))) IS ng nm2 nv q nn nd
      refine tst (lm.here ?_)
      cases yes with
      | false => exact ih (h0 rfl)
      | true =>
        refine codeAny_handlers_suite_as (HandSPX.lands_againZ fl3 fun h5 fl5 up5 => ?_)
        have I5 : Inv X pins σ2 H2 { t with heap := h5 } := I3.landed nb fl5.1 ((up.trans up3).trans up5) hos bare
        obtain ⟨ob5, fs5, hob5, hz5, hd5⟩ := fl5.there
        have IS5 := I5.suite hob5 hd5 free nL nF
        refine store_ok (X := X.suite x ((x, ob5) :: (X.pn ++ pins))) (v := .ref x) IS5 hN hi locN rfl (fun t6 IS6 => ?_) (.inr hk)
        refine wpAny_mono ((suite x ob5 cls dd (X.pn ++ pins) hz5 ⟨_, hd5⟩).run [] t6 _ H2 _ IS6 (h1 rfl I3.len x free)) (fun f t7 hsp => ?_) (fun _ _ z => z.elim)
        have bye : ∀ {σ7 : L2.St} {H7 : Hp} {Q : Shared → Prop}, Inv (X.suite x ((x, ob5) :: (X.pn ++ pins))) [] σ7 H7 t7 → (∀ t8, Inv X pins (σ7.set i none) H7 t8 → Q t8) →
            wpAny (model X.prog X.w) X.A (do bindName X.env nm .none; unbindBehindTheSuite X.env nm pc) (fun _ t8 => Q t8) X.xe t7 := fun {σ7 H7 Q} J hq => gone_ok (J.unsuite okX) hN hi hk hq
        cases f with
        | next => obtain ⟨σ7, H7, J, q⟩ := hsp; exact bye J fun t8 J8 => ⟨_, _, J8, q⟩
        | brk => obtain ⟨σ7, H7, J, q⟩ := hsp; exact bye J fun t8 J8 => ⟨_, _, J8, q⟩
        | cont => obtain ⟨σ7, H7, J, q⟩ := hsp; exact bye J fun t8 J8 => ⟨_, _, J8, q⟩
        | ret u => obtain ⟨v7, σ7, H7, J, r, q⟩ := hsp; exact bye J fun t8 J8 => ⟨_, _, _, J8, r, q⟩
  exact walk hc wish
end
end R

set_option Elab.async false
set_option linter.all false
set_option maxRecDepth 100000
/-! R: statements, all of them. -/
namespace R
open PySem PySem.Spec PyProof.Rows L2 RZ
section
variable {X : Cx} {C : RC} {G : CG} {Γ : Nat → PSpec} {k n : Nat} {sc : Scope}
theorem swS_ok (hk : X.env.blockKind = .function) (hs : X.env.scope = sc) {ts vs : List Expr} {kt k2 : Nat} {pt p2 : Pos} {o : Option (List Str)} (h : swS sc ts vs = some o) : swappedStores [.Tuple ts kt pt] (.Tuple vs k2 p2) X.env = pure o := by
  unfold swS at h
  unfold swappedStores
  have hko : ∀ x, X.env.kindOf x = sc.names.lookup x := fun x => by unfold Env.kindOf; rw [hs]
  have hst : (vs.any fun | .Starred .. => true | _ => false) = vs.any isStar := by
    congr 1
  simp only [hk, hko, bne_self_eq_false, Bool.or_false]
  dsimp only at h ⊢
  split at h
  · cases h
    rename_i q
    rw [if_pos q]
  rename_i q
  rw [if_neg q]
  split at h
  · cases h
  rename_i q2
  refine (if_neg (show ¬ _ from hst ▸ q2)).trans ?_
  split at h
  · cases h
    rename_i q3
    exact if_pos q3
  rename_i q3
  refine (if_neg q3).trans ?_
  split at h
  · cases h
    rename_i q4
    exact if_pos q4
  rename_i q4
  refine (if_neg q4).trans ?_
  split at h
  · cases h
  rename_i q5
  cases h
  exact if_neg q5
theorem pmk0 {C : Addr} {bmB : List Value} {B newId initId : String} {x : Str} {p pos : Pos} (F : ExcBaseFacts B newId initId bmB) (q : PySem.W.excIn X.K C bmB newId = true) (gC : X.mg x = some (.ref C))
    (kC : PySem.W.keepIn X.K (.ref C) = true) (r : Raises X (.ref C)) (hg : Gl X x) (hdb : (x == ("__debug__" : Str)) = false) : PMk X (.Call (.Name x p) [] [] pos) (fun σ H Q => Q (.ref C) none H) := by
  intro pins s σ H Q I h
  refine wpAny_Call_Name_kw (ld_glob I hg gC ?_ hdb)
  refine PySem.W.callWith_K0 I.kIn kC ?_
  show wpAny _ _ (call (.ref C) []) _ _ _
  obtain ⟨bm, N, nm, qn, bs, hdct, sn, sub, ab, col, dd, k0, k1, k2, k3, k5, mN, hC, hN, hni, T⟩ := exc_obj I.kIn q
  refine wpAny_call_exc_subT F T hC hN hni (fun h' e hm => ?_) (by show 0 ≤ sizeLine; omega)
  exact mk_of I hm r h (I.hok.gone hm.new)
theorem raise_ps (c : CnS X C G Γ k sc) {x : Str} {e : XN} {p pos pos' : Pos} (hg : isGlob sc x = true) (he : gOf G x = some (.exc e)) : PS X (.Raise (some (.Call (.Name x p) [] [] pos)) none pos') (LS X C (evS Γ (.raise e))) := by
  obtain ⟨ex, a, bmB, B, newId, initId, h1, h2, h3, h4, h5, _⟩ := c.glob _ _ he
  refine ⟨fun pins s σ H D I h => ?_⟩
  obtain ⟨F, ow, p, PD, R, hx, q, _⟩ := h
  unfold evS at q
  rcases hx with hx | tk
  · exact (hx _ _ q).elim
  · refine (ps_raise c.calm tk (pmk0 h2 h3 h1 h4 h5 (isGlob_gl c.toCn hg) (okName_of (glob_ok hg)).1)).run pins s σ H D I ?_
    refine ⟨e, F, ow, p, ?_, rfl, R, q⟩
    unfold excV
    rw [← c.mg, ← ex, h1]
    rfl
end
end R

set_option Elab.async false
set_option linter.all false
set_option maxRecDepth 100000
/-! R: statements, all of them. -/
namespace R
open PySem PySem.Spec PyProof.Rows L2 RZ
section
variable {X : Cx} {C : RC} {G : CG} {Γ : Nat → PSpec} {k n : Nat} {sc : Scope}
theorem loc_of (c : CnS X C G Γ k sc) {x : Str} {i : Nat} (h : locOf G sc x = some i) : X.N[i]? = some x ∧ Loc X.env.scope x := by
  unfold locOf at h
  split at h
  · rename_i e
    exact ⟨by rw [c.N]; exact findIdx_get h, by rw [c.scp]; exact .inl e⟩
  · rename_i e
    exact ⟨by rw [c.N]; exact findIdx_get h, by rw [c.scp]; exact .inr e⟩
  · cases h
theorem Loc.vis {sc : Scope} {x : Str} (h : Loc sc x) : Vis sc x := h.elim .inl fun h => .inr (.inl h)
/-- a name's target -/
theorem name_tgt (c : CnS X C G Γ k sc) {b : Bool} {m : Nat} {x : Str} {pos : Pos} {t : TgI} (h : cTgt G sc b m (.Name x pos) = some t) : ∃ i, TgC C t i ∧ X.N[i]? = some x ∧ Loc X.env.scope x := by
  cases m with
  | zero => simp [cTgt] at h
  | succ m =>
    unfold cTgt at h
    dsimp only at h
    have key : ∀ i, G.N.findIdx? (· == x) = some i → Loc X.env.scope x → (if (b && G.mu.contains x) = true then TgI.ow i else TgI.nm i) = t → ∃ i, TgC C t i ∧ X.N[i]? = some x ∧ Loc X.env.scope x := fun i hi hx ht => by
      have hn : X.N[i]? = some x := by rw [c.N]; exact findIdx_get hi
      refine ⟨i, ?_, hn, hx⟩
      split at ht
      · rename_i hm
        refine .inr ⟨ht.symm, ?_⟩
        rw [c.M]
        unfold muOf
        rw [findIdx_get hi]
        exact (Bool.and_eq_true_iff.mp hm).2
      · exact .inl ht.symm
    split at h
    · rename_i q
      obtain ⟨i, g1, g2⟩ := Option.map_eq_some_iff.mp h
      exact key i g1 (by rw [c.scp]; exact .inl q) g2
    · rename_i q
      obtain ⟨i, g1, g2⟩ := Option.map_eq_some_iff.mp h
      exact key i g1 (by rw [c.scp]; exact .inr q) g2
    · cases h
theorem tup_tgt {b : Bool} {m : Nat} {ts : List Expr} {kk : Nat} {pos : Pos} {t : TgI} (h : cTgt G sc b m (.Tuple ts kk pos) = some t) : ∃ us, t = .tup us := by
  cases m with
  | zero => simp [cTgt] at h
  | succ m =>
    unfold cTgt at h
    dsimp only at h
    obtain ⟨us, _, rfl⟩ := Option.map_eq_some_iff.mp h
    exact ⟨us, rfl⟩
theorem comp_parts {e elt : Expr} {gs : List Comprehension} {sc2 : Scope} {q : Pos} {i : IE} {m : Nat} (he : e = .ListComp elt gs sc2 q) (h : cE G (m + 1) sc e = some i) :
    ∃ tg it ifs t ii cd x, gs = [⟨tg, it, ifs, 0⟩] ∧ CompC G m sc sc2 elt tg it ifs t ii cd x ∧ i = .comp x t ii cd ((ownOf G sc2).map (·.2)) := by
  unfold cE at h
  split at h
  all_goals first
    | (cases h; done)
    | (cases he; done)
    | skip
  cases he
  split at h
  rotate_left
  · cases h
  rename_i t i' cd x h1 h2 h3 h4
  split at h
  rotate_left
  · cases h
  rename_i hc
  cases h
  simp only [Bool.and_eq_true] at hc
  exact ⟨_, _, _, t, i', cd, x, rfl, ⟨h1, h2, h3, h4, hc.1.1.1.1, hc.1.1.1.2, hc.1.1.2, hc.1.2, hc.2⟩, rfl⟩
/-- whether the machine stores within -/
theorem swaps_name (hk : X.env.blockKind = .function) (hs : X.env.scope = sc) {x : Str} {p : Pos} {e : Expr} {l m : Nat} {i : IE} (hc : cE G m sc e = some i) : swapsWith e (some (.Name x p)) l X.env = pure false ∨
    ∃ elt gs s2 q, e = .ListComp elt gs s2 q ∧ sc.names.lookup x = some .local ∧ swapsWith e (some (.Name x p)) l X.env = pure true := by
  have hko : ∀ x, X.env.kindOf x = sc.names.lookup x := fun x => by unfold Env.kindOf; rw [hs]
  cases e with
  | ListComp elt gs s2 q =>
    unfold swapsWith
    dsimp only
    rw [hk, hko]
    cases q1 : (sc.names.lookup x == some .local) with
    | false => left; simp
    | true =>
      have q2 : sc.names.lookup x = some .local := eq_of_beq q1
      generalize hb : (ScopeKind.function == ScopeKind.function && true && p.line == (Expr.ListComp elt gs s2 q).pos.line && !(s2.names.any fun (n, k) => n == x && (k == .local || k == .cell))) = bb
      cases bb with
      | false => left; rfl
      | true => right; exact ⟨elt, gs, s2, q, rfl, q2, rfl⟩
  | SetComp elt gs s2 q => cases m <;> simp [cE] at hc
  | DictComp k v gs s2 q => cases m <;> simp [cE] at hc
  | _ => exact .inl rfl
theorem swaps_other {e : Expr} {tg : Expr} {l : Nat} (ht : ∀ x p, tg ≠ .Name x p) : swapsWith e (some tg) l X.env = pure false := by
  cases e <;> first
    | rfl
    | (cases tg <;> first | rfl | exact absurd rfl (ht _ _))
theorem asg_name (c : CnS X C G Γ k sc) {b : Bool} {m m' : Nat} {x : Str} {pos pos' : Pos} {e : Expr} {t : TgI} {i : IE} (h1 : cTgt G sc b m (.Name x pos) = some t) (h2 : cE G m' sc e = some i) : PS X (.Assign [.Name x pos] e pos') (LS X C (evS Γ (.asg t i))) := by
  obtain ⟨j, ht, hj, hx⟩ := name_tgt c h1
  have hN : X.N.Nodup := by rw [c.N]; exact c.nd
  rcases swaps_name (X := X) c.kind c.scp (x := x) (p := pos) (l := pos'.line) h2 with hs | ⟨elt, gs, s2, q, rfl, hl, hs⟩
  · exact PS.imp (ps_set hN hj hx ((snd_all G Γ k m').e c.toCn _ _ h2) hs (.inl (c.fnall x))) fun D σ H q => LS.asg ht q
  · cases m' with
    | zero => simp [cE] at h2
    | succ m' =>
      obtain ⟨tg, it, ifs, t', ii, cd, x', rfl, hC, rfl⟩ := comp_parts rfl h2
      obtain ⟨p1, p2, p3, p4, p5⟩ := hC.parts (snd_all G Γ k m') c.toCn
      have hst : isSet it = false := by simpa using hC.st
      refine PS.imp (ps_setLc c.calm hN hj (by rw [c.scp]; exact hl) hs p1 p2 p3 p4 p5 (fold_set hst)) fun D σ H q => ?_
      have q2 := LS.asg ht q
      exact comp_ok (hC.apart c.toCn) hC.slots _ q2
theorem asg_tup (c : CnS X C G Γ k sc) {m m' : Nat} {ts : List Expr} {kk : Nat} {pos pos' : Pos} {e : Expr} {t : TgI} {i : IE} (h1 : cTgt G sc true m (.Tuple ts kk pos) = some t) (h2 : cE G m' sc e = some i) (hne : ∀ es k p, e ≠ .Tuple es k p) : PS X (.Assign [.Tuple ts kk pos] e pos') (LS X C (evS Γ (.asg t i))) := by
  obtain ⟨us, rfl⟩ := tup_tgt h1
  have hc : ∀ x, sc.names.lookup x = some .cell → sc.names.lookup x = some .cell ∧ X.fn x = true := fun x hx => ⟨hx, c.fnall x⟩
  obtain ⟨a1, a2⟩ := (tgt_ok c.toCn (fun _ h => h) hc m).1 true _ _ h1
  refine PS.imp (ps_asg ((snd_all G Γ k m').e c.toCn _ _ h2) a2 (show swapsWith e (some (.Tuple ts kk pos)) pos'.line X.env = pure false from swaps_other fun x p z => (nomatch z)) ?_ rfl) fun D σ H q => LS.asgT q
  cases e <;> first
    | rfl
    | exact absurd rfl (hne _ _ _)
theorem cEs_len : ∀ (m : Nat) (es : List Expr) (is : List IE), cEs G m sc es = some is → es.length = is.length ∧ es.any isStar = false
  | 0, _, _, h => by simp [cEs] at h
  | m + 1, [], is, h => by
    simp only [cEs] at h
    cases h
    exact ⟨rfl, rfl⟩
  | m + 1, e :: es, is, h => by
    simp only [cEs] at h
    split at h
    · cases h
    rename_i hs
    split at h
    rotate_left
    · cases h
    rename_i x xs h1 h2
    cases h
    obtain ⟨g1, g2⟩ := cEs_len m es xs h2
    exact ⟨by rw [List.length_cons, List.length_cons, g1], by rw [List.any_cons, g2]; simpa using hs⟩
theorem cTgts_len : ∀ (m : Nat) (es : List Expr) (is : List TgI), cTgts G sc true m es = some is → es.length = is.length ∧ ∀ e ∈ es, isStar e = false
  | 0, _, _, h => by simp [cTgts] at h
  | m + 1, [], is, h => by
    simp only [cTgts] at h
    cases h
    exact ⟨rfl, fun e he => (nomatch he)⟩
  | m + 1, e :: es, is, h => by
    simp only [cTgts] at h
    split at h
    rotate_left
    · cases h
    rename_i x xs h1 h2
    cases h
    obtain ⟨g1, g2⟩ := cTgts_len m es xs h2
    refine ⟨by rw [List.length_cons, List.length_cons, g1], fun y hy => ?_⟩
    rcases List.mem_cons.mp hy with rfl | hy
    · cases m with
      | zero => simp [cTgt] at h1
      | succ m =>
        unfold cTgt at h1
        cases y <;> first | rfl | cases h1
    · exact g2 y hy
def nmAt (sc : Scope) (line : Nat) (t : Expr) : Option Str := match t with
  | .Name id pos => if sc.names.lookup id == some .local && pos.line == line then some id else none
  | _ => none
theorem nmAt_some {line : Nat} {t : Expr} {x : Str} (h : nmAt sc line t = some x) : ∃ p, t = .Name x p ∧ sc.names.lookup x = some .local := by
  unfold nmAt at h
  split at h
  · split at h
    · rename_i q
      cases h
      exact ⟨_, rfl, eq_of_beq (Bool.and_eq_true_iff.mp q).1⟩
    · cases h
  · cases h
theorem sw_names {ts vs : List Expr} {ns : List Str} (h : swS sc ts vs = some (some ns)) : ∃ line, ns = ts.filterMap (nmAt sc line) ∧ ns.length = ts.length ∧ ns.eraseDups.length = ns.length ∧ (ts.length = 2 ∨ ts.length = 3) := by
  unfold swS at h
  dsimp only at h
  split at h
  · cases h
  rename_i q1
  split at h
  · cases h
  split at h
  · cases h
  rename_i q3
  split at h
  · cases h
  split at h
  · cases h
  cases h
  refine ⟨(Option.map (fun x => x.pos.line) ts.head?).getD 0, rfl, ?_⟩
  simp only [Bool.or_eq_true, not_or, bne_iff_ne, ne_eq, Decidable.not_not] at q3
  simp only [Bool.or_eq_true, not_or, bne_iff_ne, ne_eq, Decidable.not_not, Bool.not_eq_true', Bool.not_eq_false, beq_iff_eq, Bool.or_eq_false_iff] at q1
  exact ⟨q3.1, q3.2, by
    have := q1.1
    by_cases z : ts.length = 2
    · exact .inl z
    · right; simpa [z] using this⟩
theorem dups2 {x y : Str} (h : [x, y].eraseDups.length = 2) : x ≠ y := fun e => by
  subst e
  simp [List.eraseDups_cons] at h
theorem dups3 {x y z : Str} (h : [x, y, z].eraseDups.length = 3) : x ≠ y ∧ x ≠ z ∧ y ≠ z := by
  refine ⟨fun e => ?_, fun e => ?_, fun e => ?_⟩
  · subst e
    rw [List.eraseDups_cons] at h
    by_cases hz : z = x
    · subst hz
      simp [List.eraseDups_cons] at h
    · simp [List.eraseDups_cons, hz] at h
  · subst e
    rw [List.eraseDups_cons] at h
    simp only [List.filter_cons, List.filter_nil, bne_self_eq_false, Bool.false_eq_true, if_false] at h
    split at h <;> simp [List.eraseDups_cons] at h
  · subst e
    rw [List.eraseDups_cons] at h
    simp only [List.filter_cons, List.filter_nil] at h
    split at h <;> simp [List.eraseDups_cons] at h
theorem idx_ne {N : List Str} {i j : Nat} {x y : Str} (hi : N[i]? = some x) (hj : N[j]? = some y) (h : x ≠ y) : i ≠ j := fun e => by
  subst e
  rw [hi] at hj
  exact h (Option.some.inj hj)
theorem par_ps (c : CnS X C G Γ k sc) {m m' : Nat} {ts es : List Expr} {k1 k2 : Nat} {p1 p2 pos : Pos} {xs : List TgI} {ys : List IE} (hl : ts.length = es.length) (hz : es.length ≤ 1000) (hsw : (swS sc ts es).isSome = true) (h1 : cTgts G sc true m ts = some xs) (h2 : cEs G m' sc es = some ys) :
    PS X (.Assign [.Tuple ts k1 p1] (.Tuple es k2 p2) pos) (LS X C (evS Γ (.par xs ys))) := by
  obtain ⟨l1, st⟩ := cEs_len m' es ys h2
  obtain ⟨l2, tst⟩ := cTgts_len m ts xs h1
  obtain ⟨o, hsw⟩ := Option.isSome_iff_exists.mp hsw
  have hw := swS_ok (X := X) c.kind c.scp (kt := k1) (k2 := k2) (pt := p1) (p2 := p2) hsw
  have hN : X.N.Nodup := by rw [c.N]; exact c.nd
  have pa := rs_ok c.toCn m' es ys xs h2 (by omega)
  have plain : o = none → PS X (.Assign [.Tuple ts k1 p1] (.Tuple es k2 p2) pos) (LS X C (evS Γ (.par xs ys))) := fun e => by
    subst e
    have e1 : ∀ es : List Expr, (∀ e ∈ es, isStar e = false) → (assignEach es X.env).length = es.length ∧ (assignEach es X.env).findIdx? (·.1) = none := fun es => by
      induction es with
      | nil => exact fun _ => ⟨rfl, rfl⟩
      | cons e es ih =>
        intro hs
        obtain ⟨i1, i2⟩ := ih fun x hx => hs x (List.mem_cons_of_mem _ hx)
        have he := hs e List.mem_cons_self
        have ea : assignEach (e :: es) X.env = (false, assign e X.env) :: assignEach es X.env := by
          cases e <;> first | rfl | cases he
        rw [ea]
        exact ⟨by rw [List.length_cons, List.length_cons, i1], by rw [List.findIdx?_cons, i2]; rfl⟩
    obtain ⟨e2, e3⟩ := e1 ts tst
    refine PS.imp (ps_asg (pe_tup pa) (pg_tup c.calm (tgs_ok c m ts xs h1) e2 e3) rfl hw) fun D σ H q => ?_
    rw [hl, l1, c.K]
    exact LS.parT (by omega) (by omega) q
  cases o with
  | none => exact plain rfl
  | some ns =>
    obtain ⟨line, e1, e2, e3, e4⟩ := sw_names hsw
    have each : ∀ {t : Expr} {x : Str} {u : TgI} {mm : Nat}, nmAt sc line t = some x → cTgt G sc true mm t = some u → ∃ p i, t = .Name x p ∧ sc.names.lookup x = some .local ∧ TgC C u i ∧ X.N[i]? = some x := fun {t x u mm} hx hu => by
      obtain ⟨p, rfl, hlx⟩ := nmAt_some hx
      obtain ⟨i, a1, a2, a3⟩ := name_tgt c hu
      exact ⟨p, i, rfl, hlx, a1, a2⟩
    have cons1 : ∀ {t : Expr} {r : List Expr} {mm : Nat} {zs : List TgI}, cTgts G sc true mm (t :: r) = some zs → ∃ m2 u us, zs = u :: us ∧ cTgt G sc true m2 t = some u ∧ cTgts G sc true m2 r = some us := fun {t r mm zs} h => by
      cases mm with
      | zero => simp [cTgts] at h
      | succ mm =>
        simp only [cTgts] at h
        split at h
        rotate_left
        · cases h
        rename_i a b g1 g2
        cases h
        exact ⟨mm, a, b, rfl, g1, g2⟩
    have nilT : ∀ {mm : Nat} {zs : List TgI}, cTgts G sc true mm [] = some zs → zs = [] := fun {mm zs} h => by
      cases mm with
      | zero => simp [cTgts] at h
      | succ mm => simp only [cTgts] at h; cases h; rfl
    have fm : ∀ (r : List Expr), (r.filterMap (nmAt sc line)).length ≤ r.length := fun r => List.length_filterMap_le _ _
    have step : ∀ {t : Expr} {r : List Expr}, ((t :: r).filterMap (nmAt sc line)).length = (t :: r).length → ∃ x, nmAt sc line t = some x ∧ (r.filterMap (nmAt sc line)).length = r.length := fun {t r} h => by
      rw [List.filterMap_cons] at h
      have := fm r
      cases q : nmAt sc line t with
      | none => rw [q] at h; simp only [List.length_cons] at h; omega
      | some x => rw [q] at h; simp only [List.length_cons] at h; exact ⟨x, rfl, by omega⟩
    rw [e1] at e2
    rcases e4 with e4 | e4
    · match ts, es, e4, hl with
      | [t1, t2], [a, b], _, _ =>
        obtain ⟨x, x1, r1⟩ := step e2
        obtain ⟨y, y1, _⟩ := step r1
        obtain ⟨m2, u, us, rfl, c1, c2⟩ := cons1 h1
        obtain ⟨m3, w, ws, rfl, c3, c4⟩ := cons1 c2
        cases nilT c4
        obtain ⟨px, i, rfl, lx, tx, ix⟩ := each x1 c1
        obtain ⟨py, j, rfl, ly, ty, jy⟩ := each y1 c3
        have en : ns = [x, y] := by rw [e1, List.filterMap_cons, x1, List.filterMap_cons, y1]; rfl
        subst en
        have hxy : x ≠ y := dups2 e3
        refine PS.imp (ps_par c.calm hN ix jy (idx_ne ix jy hxy) (by rw [c.scp]; exact lx) (by rw [c.scp]; exact ly) pa hw rfl) fun D σ H q => ?_
        exact LS.par2 (by simpa using l1.symm) tx ty q
    · match ts, es, e4, hl with
      | [t1, t2, t3], [a, b, d], _, _ =>
        obtain ⟨x, x1, r1⟩ := step e2
        obtain ⟨y, y1, r2⟩ := step r1
        obtain ⟨z, z1, _⟩ := step r2
        obtain ⟨m2, u, us, rfl, c1, c2⟩ := cons1 h1
        obtain ⟨m3, w, ws, rfl, c3, c4⟩ := cons1 c2
        obtain ⟨m4, g, gs, rfl, c5, c6⟩ := cons1 c4
        cases nilT c6
        obtain ⟨px, i, rfl, lx, tx, ix⟩ := each x1 c1
        obtain ⟨py, j, rfl, ly, ty, jy⟩ := each y1 c3
        obtain ⟨pz, l, rfl, lz, tz, lzz⟩ := each z1 c5
        have en : ns = [x, y, z] := by rw [e1, List.filterMap_cons, x1, List.filterMap_cons, y1, List.filterMap_cons, z1]; rfl
        subst en
        obtain ⟨h12, h13, h23⟩ := dups3 e3
        refine PS.imp (ps_par3 c.calm hN ix jy lzz (idx_ne ix jy h12) (idx_ne ix lzz h13) (idx_ne jy lzz h23) (by rw [c.scp]; exact lx) (by rw [c.scp]; exact ly) (by rw [c.scp]; exact lz) pa hw rfl) fun D σ H q => ?_
        exact LS.par3 (by simpa using l1.symm) tx ty tz q
end
end R

set_option Elab.async false
set_option linter.all false
set_option maxRecDepth 100000
/-! R: a refusal is heard, noted. -/
namespace R
open PySem PySem.Spec PyProof.Rows L2 RZ
section
variable {X : Cx} {C : RC} {G : CG} {Γ : Nat → PSpec} {k n : Nat} {sc : Scope} {F : Hp} {ow : Addr → Option Id} {p : PSt} {ts : List (Slot × V)} {σ : L2.St} {H : Hp}
theorem Ent.like {C C' : RC} (l : C.Like C') (hM : C.M = C'.M) {id : Id} {s : Slot} {o : Option V} (h : Ent C F ow σ H id s o) : Ent C' F ow σ H id s o := by
  cases s with
  | un => trivial
  | val v =>
    obtain ⟨x, e, h1⟩ := h
    exact ⟨x, e, h1.mono l (.refl F)⟩
  | own xs =>
    obtain ⟨a, vs, e, h1, h2, h3, h4⟩ := h
    exact ⟨a, vs, e, h1, h2, h3.mono l (.refl F), by rw [← hM]; exact h4⟩
  | bor i xs =>
    obtain ⟨a, vs, e, h1, h2, h3, h4, h5⟩ := h
    exact ⟨a, vs, e, h1, h2, h3.mono l (.refl F), h4, by rw [← hM]; exact h5⟩
theorem Tms.like {C C' : RC} (l : C.Like C') (hM : C.M = C'.M) : ∀ {ts : List (Slot × V)}, Tms C F ow σ H ts → Tms C' F ow σ H ts
  | [], _ => trivial
  | _ :: _, h => ⟨h.1.like l hM, Tms.like l hM h.2⟩
abbrev RC.at (C : RC) (F : Hp) : RC := { C with B := F }
/-- what is frozen now is the new ground -/
theorem Rel.rebase (R : Rel C F ow p ts σ H) : Rel (C.at F) F ow p ts σ H :=
  ⟨R.fh, .refl F, fun _ _ => rfl, R.keep, R.oww, R.cok, R.cfr, R.len, fun i => Ent.like (C := C) (C' := C.at F) ⟨rfl, rfl, rfl⟩ rfl (R.sl i), Tms.like (C := C) (C' := C.at F) ⟨rfl, rfl, rfl⟩ rfl R.tm, R.nob⟩
theorem Rel.unbase {F0 : Hp} {ow0 : Addr → Option Id} {p0 : PSt} {ts0 : List (Slot × V)} {σ0 : L2.St} {H0 : Hp} (R0 : Rel C F0 ow0 p0 ts0 σ0 H0) (R : Rel (C.at F0) F ow p ts σ H) : Same F0 F ∧ Rel C F ow p ts σ H :=
  ⟨R.bf, R.fh, R0.bf.trans R.bf, fun a ha => (R.new a ha).trans (R0.new a ha), R.keep, R.oww, R.cok, R.cfr, R.len, fun i => Ent.like (C := C.at F0) (C' := C) ⟨rfl, rfl, rfl⟩ rfl (R.sl i), Tms.like (C := C.at F0) (C' := C) ⟨rfl, rfl, rfl⟩ rfl R.tm, R.nob⟩
/-- the slots are forgotten -/
theorem Rel.blank (R : Rel C F ow p [] σ H) {σ' : L2.St} {m : Nat} (hl : σ'.length = m) : Rel C F ow ⟨List.replicate m .un, p.d⟩ [] σ' H := by
  have g : ∀ i, (PSt.mk (List.replicate m Slot.un) p.d).get i = .un := fun i => by
    unfold PSt.get
    rw [List.getD_eq_getElem?_getD, List.getElem?_replicate]
    split <;> rfl
  refine ⟨R.fh, R.bf, R.new, R.keep, R.oww, R.cok, R.cfr, by rw [List.length_replicate]; exact hl.symm, fun i => ?_, trivial, fun i j xs => ?_⟩
  · rw [g i]; trivial
  · rw [g i]; exact fun z => nomatch z
theorem hrd_mem {x : XN} {A : Str → Prop} : ∀ {hs : List (XN × Str)}, hrd hs x A → ∃ s, (x, s) ∈ hs
  | [], h => h.elim
  | p :: r, h => by
    unfold hrd at h
    by_cases e : x = p.1
    · exact ⟨p.2, by rw [e]; exact List.mem_cons_self⟩
    · rw [decide_eq_false e, cnd_f] at h
      obtain ⟨s, hs⟩ := hrd_mem h
      exact ⟨s, List.mem_cons_of_mem _ hs⟩
/-- the suite of a clause: a list of a text and of what isinstance says -/
def tNote (K : PySem.W.Frag) (ie j : Nat) (s : Str) : Sui := fun x cls dd W σ H => ∃ D0, cls = .ref D0 ∧ dd = none ∧ ExcC K D0 ∧
  tAsg (tLst (tCons (tC (.str s)) (tCons (tCB (rIsE K D0 x) (tCons (tVar ie) (tCons (tC (.ty "ValueError")) tNil))) tNil))) (gName j) W σ H
theorem note_ok (c : CnS X C G Γ k sc) {x : Addr} {ob : Obj} {cls : Value} {dd : Option Addr} {pn : List (Addr × Obj)} {nm y f v : Str} {ie j : Nat} {s : Str} {p1 p2 p3 p4 p5 p6 p7 p8 : Pos}
    (hie : X.N[ie]? = some nm) (hnm : sc.names.lookup nm = some .local) (okn : okName nm = true) (hj : X.N[j]? = some y) (hy : Loc X.env.scope y)
    (gf : isGlob sc f = true) (ef : f = "isinstance") (nf : gOf G f = none) (gv : isGlob sc v = true) (ev : v = "ValueError") (nv : gOf G v = none)
    (hz : Zc cls dd ob) (hd : ∃ fs, ob.data = .fields fs) {kk : Nat} :
    PSs (X.suite x ((x, ob) :: pn)) [.Assign [.Name y p1] (.List [.Constant (.str s) kk p2, .Call (.Name f p3) [.Name nm p4, .Name v p5] [] p6] p7) p8] (tNote X.K ie j s x cls dd) := by
  have hN : X.N.Nodup := by rw [c.N]; exact c.nd
  obtain ⟨o1, o2, _⟩ := okName_of okn
  obtain ⟨b1, b2, b3⟩ := okName_of (glob_ok gf)
  obtain ⟨v1, v2, v3⟩ := okName_of (glob_ok gv)
  have glf : Gl (X.suite x ((x, ob) :: pn)) f := isGlob_gl c.toCn gf
  have glv : Gl (X.suite x ((x, ob) :: pn)) v := isGlob_gl c.toCn gv
  have mf : (X.suite x ((x, ob) :: pn)).mg f = none := c.blt f (by rw [ef]; decide +kernel) nf
  have mv : (X.suite x ((x, ob) :: pn)).mg v = none := c.blt v (by rw [ev]; decide +kernel) nv
  refine ⟨fun pins s0 σ H W I h => ?_⟩
  obtain ⟨D0, rfl, rfl, hE, h⟩ := h
  have pn1 : PE (X.suite x ((x, ob) :: pn)) (.Name nm p4) (tVar ie) := pe_var hie (.inl (by show X.env.scope.names.lookup nm = _; rw [c.scp]; exact hnm)) o1 o2
  have pv1 : PE (X.suite x ((x, ob) :: pn)) (.Name v p5) (tC (.ty "ValueError")) := pe_bltn glv mv (by rw [ev]; decide +kernel) rfl v3 v1
  have pc : PE (X.suite x ((x, ob) :: pn)) (.Call (.Name f p3) [.Name nm p4, .Name v p5] [] p6) (tCB (rIsE X.K D0 x) (tCons (tVar ie) (tCons (tC (.ty "ValueError")) tNil))) :=
    pe_callB (call_isE hE hz hd) glf mf (by rw [ef]; decide +kernel) (pa_cons pn1 (pa_cons pv1 pa_nil rfl) rfl) b3 b1 rfl rfl
  have pl : PE (X.suite x ((x, ob) :: pn)) (.List [.Constant (.str s) kk p2, .Call (.Name f p3) [.Name nm p4, .Name v p5] [] p6] p7) (tLst (tCons (tC (.str s)) (tCons (tCB (rIsE X.K D0 x) (tCons (tVar ie) (tCons (tC (.ty "ValueError")) tNil))) tNil))) :=
    pe_lst (pa_cons pe_str (pa_cons pc pa_nil rfl) rfl)
  exact (pss_one (ps_set (X := X.suite x ((x, ob) :: pn)) hN hj hy pl rfl (.inl (c.fnall y)))).run pins s0 σ H W I h
/-- an own error of the table that may be heard -/
def Told (X : Cx) (C : RC) (e : XN) : Prop := Hd e ∧ ∃ a, C.mg (excName e) = some (.ref a) ∧ ExMore X.K X.mg a e
theorem cl_ok (c : CnS X C G Γ k sc) {nm y : Str} {ie j : Nat} (hie : X.N[ie]? = some nm) (hnm : sc.names.lookup nm = some .local) (hj : X.N[j]? = some y) (hy : Loc X.env.scope y) : ∀ (hds : List ExceptHandler) (hs : List (XN × Str)), clO G sc nm y hds = some hs →
    ClOk X nm hds (hs.map fun e => (excV C.mg e.1, tNote X.K ie j e.2)) ∧ ∀ e ∈ hs, Told X C e.1
  | [], hs, h => by
    simp only [clO] at h
    cases h
    exact ⟨.nil, fun e he => nomatch he⟩
  | hd :: r, hs, h => by
    unfold clO at h
    split at h
    · rename_i q1; cases q1
    · rename_i w2 cn pc nm2 y2 py s kk ps f pf nm3 pn3 v pv pcall plst pasg pcl rr eq1
      cases eq1
      split at h
      rotate_left
      · cases h
      rename_i hc
      obtain ⟨rfl, rfl, rfl, hf, hv, okn, gc, gf, gv, nf, nv⟩ := hc
      have step : ∀ (e : XN) (hs2 : List (XN × Str)), Hd e → (gOf G cn).bind excOf = some e → clO G sc nm3 y2 r = some hs2 → some ((e, s) :: hs2) = some hs → ClOk X nm3 (.ExceptHandler (some (.Name cn pc)) (some nm3) [.Assign [.Name y2 py] (.List [.Constant (.str s) kk ps, .Call (.Name f pf) [.Name nm3 pn3, .Name v pv] [] pcall] plst) pasg] pcl :: r) (hs.map fun e => (excV C.mg e.1, tNote X.K ie j e.2)) ∧ ∀ e ∈ hs, Told X C e.1 := by
        intro e hs2 hHd h1 h2 h3
        cases h3
        obtain ⟨i1, i2⟩ := cl_ok c hie hnm hj hy r hs2 h2
        obtain ⟨g, g1, g2⟩ := Option.bind_eq_some_iff.mp h1
        cases g with
        | fn m => cases g2
        | cst m => cases g2
        | exc e' =>
          cases g2
          obtain ⟨ex, a, bmB, B, newId, initId, m1, m2, m3, m4, m5, m6⟩ := c.glob _ _ g1
          subst ex
          have hmg : C.mg (excName e) = some (.ref a) := by rw [← c.mg]; exact m1
          have hv1 : excV C.mg e = .ref a := by unfold excV; rw [hmg]; rfl
          refine ⟨.cons ⟨isGlob_gl c.toCn gc, (okName_of (glob_ok gc)).1, .inl (m1.trans (congrArg some hv1.symm))⟩ (fun x ob cls dd pn hz hfd => ?_) i1, fun z hz => ?_⟩
          · exact note_ok c hie hnm okn hj hy gf hf (Option.isNone_iff_eq_none.mp nf) gv hv (Option.isNone_iff_eq_none.mp nv) hz hfd
          · rcases List.mem_cons.mp hz with rfl | hz
            · exact ⟨hHd, a, hmg, m6 hHd⟩
            · exact i2 z hz
      split at h
      · rename_i h1 h2; exact step _ _ (.inl rfl) h1 h2 h
      · rename_i h1 h2; exact step _ _ (.inr (.inl rfl)) h1 h2 h
      · rename_i h1 h2; exact step _ _ (.inr (.inr rfl)) h1 h2 h
      · cases h
    · cases h
theorem CnS.tr (c : CnS X C G Γ k sc) {pn : List (Addr × Obj)} {xe : Value → Shared → Prop} {F0 : Hp} (po : PassesOwn (model X.prog X.w) X.A X.env xe) : CnS (X.tr pn xe) (C.at F0) G Γ k sc where
  K := c.K
  mg := c.mg
  N := c.N
  nd := c.nd
  scp := c.scp
  calm := c.calm
  room := c.room
  glob := fun x g h => by
    have := c.glob x g h
    cases g with
    | fn n => obtain ⟨f, h1, h3, h2⟩ := this; exact ⟨f, h1, h3, ⟨h2.ex⟩⟩
    | cst v => obtain ⟨u, w, h1, h2, h3⟩ := this; exact ⟨u, w, h1, h2, fun F => RV.mono (C := C) (C' := C.at F0) ⟨rfl, rfl, rfl⟩ (.refl F) (h3 F)⟩
    | exc e => exact this
  blt := c.blt
  M := c.M
  held := fun h n f e => ⟨(c.held h n f e).ex⟩
  kind := c.kind
  fnall := c.fnall
  pown := po
  stk := c.stk
  frm := c.frm
/-- what the try's body wishes of its ends -/
def tbH (X : Cx) (C : RC) (Γ : Nat → PSpec) (i : Nat) (z : IE) (W : WX) : TS := fun D σ H => ∃ F0 ow p PD, Rel C F0 ow p [] σ H ∧ (∀ cls dd σ H, RW (C.at F0) PD.ex cls dd σ H → W cls dd σ H) ∧ evS Γ (.asg (.nm i) z) PD p ∧
  ∀ F' ow' p' σ' H', Rel (C.at F0) F' ow' p' [] σ' H' → PD.nx p' → D.nx σ' H'
theorem note_end {σ : L2.St} {ie j m : Nat} (hne : ie ≠ j) {a : V} (hl : σ.length = m) {F0 : Hp} {ow0 : Addr → Option Id} {p0 : PSt} {σ0 : L2.St} {Hz : Hp} (R0 : Rel C F0 ow0 p0 [] σ0 Hz) (R : Rel (C.at F0) F ow p [] σ H) {q : Addr} (hq : H q = none) {s : Str} :
    ∃ F', Same F0 F' ∧ Rel C F' ow ⟨(List.replicate m Slot.un).set j (.val (.lst [.str s, .bl true])), p.d⟩ [] (((σ.set ie (some a)).set j (some (.ref q))).set ie none) (upd H q (.lst [.str s, .bl true])) := by
  obtain ⟨s1, R1⟩ := R0.unbase R
  have R2 : Rel C F ow ⟨List.replicate m .un, p.d⟩ [] ((σ.set ie (some a)).set ie none) H := R1.blank (by rw [List.length_set, List.length_set]; exact hl)
  obtain ⟨s2, R3⟩ := R2.laid (o := .lst [.str s, .bl true]) hq
  have hv : RV C (upd F q (.lst [.str s, .bl true])) (.lst [.str s, .bl true]) (.ref q) := ⟨q, [.str s, .bl true], rfl, upd_same, _, _, rfl, rfl, _, _, rfl, rfl, rfl⟩
  have R4 := R3.storeAny (i := j) hv (fun t ht => nomatch ht)
  refine ⟨_, s1.trans s2, ?_⟩
  have e : ((σ.set ie (some a)).set ie none).set j (some (V.ref q)) = ((σ.set ie (some a)).set j (some (.ref q))).set ie none := List.set_comm _ _ hne
  rw [← e]
  exact R4
theorem no_takes {X : Cx} : Takes X (fun _ _ _ _ => False) := fun u s' xx => by
  obtain ⟨_, _, _, _, _, _, _, _, _, _, _, _, _, _, _, _, w⟩ := xx
  exact w.elim
theorem heard_ps (c : CnS X C G Γ k sc) {t y nm : Str} {e : Expr} {z : IE} {i j m : Nat} {c0 : ExceptHandler} {cl : List ExceptHandler} {hs : List (XN × Str)} {pt pa pos : Pos} (h1 : locOf G sc t = some i) (h2 : cE G m sc e = some z) (h3 : locOf G sc y = some j) (h4 : clO G sc nm y (c0 :: cl) = some hs)
    (hnm : sc.names.lookup nm = some .local) (hix : (G.N.findIdx? (· == nm)).isSome = true) (hne : nm ≠ y) : PS X (.Try [.Assign [.Name t pt] e pa] (c0 :: cl) [] [] pos) (LS X C (evS Γ (.heard i z j hs))) := by
  obtain ⟨ie, hie⟩ := Option.isSome_iff_exists.mp hix
  have nie : X.N[ie]? = some nm := by rw [c.N]; exact findIdx_get hie
  obtain ⟨nj, lj⟩ := loc_of c h3
  have hN : X.N.Nodup := by rw [c.N]; exact c.nd
  have hij : ie ≠ j := idx_ne nie nj hne
  obtain ⟨hcl, htold⟩ := cl_ok c nie hnm nj lj _ _ h4
  have htg : cTgt G sc false 1 (.Name t pt) = some (.nm i) := by
    unfold cTgt
    unfold locOf at h1
    dsimp only
    split at h1
    · rw [h1]; rfl
    · rw [h1]; rfl
    · cases h1
  have hb : ∀ (W : WX) (pn : List (Addr × Obj)) (xe : Value → Shared → Prop), Takes (X.tr pn xe) W → PassesOwn (model X.prog X.w) X.A X.env xe → PSs (X.tr pn xe) [.Assign [.Name t pt] e pa] (tbH X C Γ i z W) := fun W pn xe tk po => by
    refine ⟨fun pins s σ H D I h => ?_⟩
    obtain ⟨F0, ow, p, PD, R, hw, q, nx⟩ := h
    have c' : CnS (X.tr pn xe) (C.at F0) G Γ k sc := c.tr po
    refine (pss_one (asg_name c' htg h2)).run pins s σ H D I ⟨F0, ow, p, ⟨PD.nx, fun _ _ => False, fun _ => False, fun _ => False, PD.ex⟩, R.rebase, .inr (tk.imp hw), ?_, fun F' ow' p' σ' H' _ R' k' => nx F' ow' p' σ' H' R' k', fun _ _ _ _ _ _ _ z => z.elim, fun _ _ _ _ _ _ _ z => z.elim, fun _ _ _ _ _ _ _ _ _ _ z => z.elim⟩
    unfold evS at q ⊢
    exact q
  have PT := ps_tryCl (X := X) (pos := pos) (out := fun _ _ _ _ => False) c.stk c.frm hN nie (by show X.env.scope.names.lookup nm = _; rw [c.scp]; exact hnm) no_takes hb hcl
  refine ⟨fun pins s σ H D I h => ?_⟩
  obtain ⟨F0, ow0, p0, PD, R0, hx, q, nx, _⟩ := h
  unfold evS at q
  have hlen : p0.sl.length = X.N.length := R0.len.trans I.len
  refine PT.run pins s σ H D I ⟨F0, ow0, p0, ⟨PD.nx, fun _ _ => False, fun _ => False, fun _ => False, fun x d => hrd hs x fun s => PD.nx ⟨(List.replicate p0.sl.length Slot.un).set j (.val (.lst [.str s, .bl true])), d⟩⟩, R0, fun cls dd σ2 H2 w => ?_, by unfold evS; exact q, fun F' ow' p' σ' H' R' k' => ?_⟩
  · obtain ⟨x, F, ow, p, rfl, rfl, R, hr⟩ := w
    have hr : hrd hs x fun s => PD.nx ⟨(List.replicate p0.sl.length Slot.un).set j (.val (.lst [.str s, .bl true])), p.d⟩ := hr
    obtain ⟨sx, hsx⟩ := hrd_mem hr
    obtain ⟨hHd, ax, hax, hmore⟩ := htold _ hsx
    have ex : excV C.mg x = .ref ax := by unfold excV; rw [hax]; rfl
    show wCl X.K X.N.length ie _ D _ (excV C.mg x) none σ2 H2
    rw [ex]
    have go : ∀ hs2 : List (XN × Str), (∀ e ∈ hs2, Told X C e.1) → (hrd hs2 x fun s => PD.nx ⟨(List.replicate p0.sl.length Slot.un).set j (.val (.lst [.str s, .bl true])), p.d⟩) → wCl X.K X.N.length ie (fun _ _ _ _ => False) D (hs2.map fun e => (excV C.mg e.1, tNote X.K ie j e.2)) (.ref ax) none σ2 H2 := fun hs2 => by
      induction hs2 with
      | nil => exact fun _ h => h.elim
      | cons e2 hs2 ih =>
        intro ht hh
        obtain ⟨hHd2, a2, ha2, _⟩ := ht _ List.mem_cons_self
        have e2v : excV C.mg e2.1 = .ref a2 := by unfold excV; rw [ha2]; rfl
        unfold hrd at hh
        rw [List.map_cons]
        refine ⟨decide (x = e2.1), ?_, fun hy hl q hq => ?_, fun hy => ?_⟩
        · show PySem.W.exmOne X.K (.ref ax) (excV C.mg e2.1) = _
          rw [e2v]
          exact hmore.sub _ _ hHd2 (by rw [c.mg]; exact ha2)
        · rw [hy, cnd_t] at hh
          refine ⟨ax, rfl, rfl, hmore.is, .ref q, ?_, .ty "ValueError", .type "ValueError", true, rfl, fun u hu => hu, hmore.ve, ?_, fun b hb => ?_⟩
          · rw [List.getElem?_set_self (by rw [hl]; exact (List.getElem?_eq_some_iff.mp nie).1)]
          · show [V.str e2.2, V.bl true].length ≤ sizeLine
            rw [line_eq]
            show 2 ≤ 16777216
            decide
          · have hm : σ2.length = p0.sl.length := hl.trans hlen.symm
            obtain ⟨F', sF, R'⟩ := note_end (a := .ref q) hij hm R0 R hb (s := e2.2)
            exact nx _ _ _ _ _ sF R' hh
        · rw [hy, cnd_f] at hh
          exact ih (fun e he => ht e (List.mem_cons_of_mem _ he)) hh
    exact go hs htold hr
  · obtain ⟨s1, R1⟩ := R0.unbase R'
    exact nx _ _ _ _ _ s1 R1 k'
theorem LS.exs {e : IE} {D : Ends} (h : LS X C (evS Γ (.ex e)) D σ H) : tDrop (LE (HX X C) C (evE Γ e)) D σ H := by
  obtain ⟨F, ow, p, PD, R, hx, q, nx, _⟩ := h
  unfold evS at q
  exact ⟨F, ow, p, [], _, _, R, hx, q, fun r p1 v F1 ow1 H1 s1 R1 k1 => nx _ _ _ _ _ s1 R1.pop k1⟩
theorem ex_ps (c : CnS X C G Γ k sc) {e : Expr} {z : IE} {m : Nat} {pos : Pos} (hn : isComp e = false) (h : cE G m sc e = some z) : PS X (.Expr e pos) (LS X C (evS Γ (.ex z))) := by
  refine PS.imp (ps_expr ((snd_all G Γ k m).e c.toCn _ _ h) ?_) fun D σ H q => LS.exs q
  cases e <;> first
    | rfl
    | (cases m <;> simp [cE] at h; done)
    | cases hn
end
end R

set_option Elab.async false
set_option linter.all false
set_option maxRecDepth 100000
/-! R: statements, all of them. -/
namespace R
open PySem PySem.Spec PyProof.Rows L2 RZ
section
variable {X : Cx} {C : RC} {G : CG} {Γ : Nat → PSpec} {k n : Nat} {sc : Scope}
theorem MtM.toR {id : String} {r : V → List V → Hp → VK → Prop} (h : MtM X id r) : MtR X id r := h
theorem meth_app (c : CnS X C G Γ k sc) {x : Str} {i : Nat} {p apos cpos pos : Pos} {e : Expr} {z : IE} (hx : locOf G sc x = some i) (ok : okName x = true) (hl : (apos.endLine == cpos.line) = true) (hs : isStar e = false) (he : PE X e (LE (HX X C) C (evE Γ z))) :
    PS X (.Expr (.Call (.Attribute (.Name x p) "append" apos) [e] [] cpos) pos) (LS X C (evS Γ (.app i z))) := by
  obtain ⟨h1, h2⟩ := loc_of c hx
  refine PS.imp (ps_expr (pe_bm (T := "list") PySem.F.plainAttrs_list F.slot_list_append PySem.F.type_list_append mt_append (pe_var h1 (Loc.vis h2) (okName_of ok).1 (okName_of ok).2.1) (pa_cons he pa_nil (star_eq hs)) rfl ?_ hl (star_eq hs) rfl) rfl) fun D σ H q => ?_
  · rw [star_eq hs]
    rfl
  · rw [c.K]
    exact LS.app q
theorem meth_ext (c : CnS X C G Γ k sc) {x : Str} {i : Nat} {p apos cpos pos : Pos} {e : Expr} {z : IE} (hx : locOf G sc x = some i) (ok : okName x = true) (hl : (apos.endLine == cpos.line) = true) (hs : isStar e = false) (he : PE X e (LE (HX X C) C (evE Γ z))) :
    PS X (.Expr (.Call (.Attribute (.Name x p) "extend" apos) [e] [] cpos) pos) (LS X C (evS Γ (.ext i z))) := by
  obtain ⟨h1, h2⟩ := loc_of c hx
  refine PS.imp (ps_expr (pe_bm (T := "list") PySem.F.plainAttrs_list F.slot_list_extend PySem.F.type_list_extend mt_extend (pe_var h1 (Loc.vis h2) (okName_of ok).1 (okName_of ok).2.1) (pa_cons he pa_nil (star_eq hs)) rfl ?_ hl (star_eq hs) rfl) rfl) fun D σ H q => ?_
  · rw [star_eq hs]
    rfl
  · rw [c.K]
    exact LS.ext q
theorem meth_appPop (c : CnS X C G Γ k sc) {x y : Str} {i j : Nat} {p apos cpos pos p2 apos2 cpos2 : Pos} {e : Expr} {z : IE} (hx : locOf G sc x = some i) (ok : okName x = true) (hl : (apos.endLine == cpos.line) = true)
    (hy : locOf G sc y = some j) (ok2 : okName y = true) (hl2 : (apos2.endLine == cpos2.line) = true) (hs : isStar e = false) (he : PE X e (LE (HX X C) C (evE Γ z))) :
    PS X (.Expr (.Call (.Attribute (.Name x p) "append" apos) [.Call (.Attribute (.Name y p2) "pop" apos2) [e] [] cpos2] [] cpos) pos) (LS X C (evS Γ (.appPop i j z))) := by
  obtain ⟨h1, h2⟩ := loc_of c hx
  obtain ⟨g1, g2⟩ := loc_of c hy
  have inner : PE X (.Call (.Attribute (.Name y p2) "pop" apos2) [e] [] cpos2) (tBM X.K "list" rPopAt (tVar j) (tCons (LE (HX X C) C (evE Γ z)) tNil)) := by
    refine pe_bm (T := "list") PySem.F.plainAttrs_list F.slot_list_pop PySem.F.type_list_pop mt_popAt (pe_var g1 (Loc.vis g2) (okName_of ok2).1 (okName_of ok2).2.1) (pa_cons he pa_nil (star_eq hs)) rfl ?_ hl2 (star_eq hs) rfl
    rw [star_eq hs]
    rfl
  refine PS.imp (ps_expr (pe_bm (T := "list") PySem.F.plainAttrs_list F.slot_list_append PySem.F.type_list_append mt_append (pe_var h1 (Loc.vis h2) (okName_of ok).1 (okName_of ok).2.1) (pa_cons inner pa_nil rfl) rfl rfl hl rfl rfl) rfl) fun D σ H q => ?_
  rw [c.K]
  exact LS.appPop q
theorem sub_set (c : CnS X C G Γ k sc) {x : Str} {i : Nat} {p p2 pos : Pos} {ix e : Expr} {y z : IE} (hx : locOf G sc x = some i) (ok : okName x = true) (hsl : isSlice ix = false) (hix : PE X ix (LE (HX X C) C (evE Γ y))) (he : PE X e (LE (HX X C) C (evE Γ z))) :
    PS X (.Assign [.Subscript (.Name x p) ix p2] e pos) (LS X C (evS Γ (.sti i y z))) := by
  obtain ⟨h1, h2⟩ := loc_of c hx
  refine PS.imp (ps_asg he (pg_sub (pe_var h1 (Loc.vis h2) (okName_of ok).1 (okName_of ok).2.1) hix set_list ?_) (show swapsWith e (some (.Subscript (.Name x p) ix p2)) pos.line X.env = pure false from swaps_other fun x p z => (nomatch z)) ?_ rfl) fun D σ H q => LS.sti q
  · intro v
    cases ix <;> first | rfl | cases hsl
  · cases e <;> rfl
theorem aug_ps (c : CnS X C G Γ k sc) {x : Str} {i : Nat} {p pos : Pos} {op : Operator} {o : BO} {e : Expr} {z : IE} (hx : locOf G sc x = some i) (ho : boOf op = some o) (h2 : o = .add ∨ o = .sub) (he : PE X e (LE (HX X C) C (evE Γ z))) :
    PS X (.AugAssign (.Name x p) op e pos) (LS X C (evS Γ (.aug i o z))) := by
  obtain ⟨h1, hx2⟩ := loc_of c hx
  have hN : X.N.Nodup := by rw [c.N]; exact c.nd
  rcases h2 with rfl | rfl
  · have : op = .Add := by cases op <;> first | rfl | cases ho
    subst this
    refine PS.imp (ps_aug hN h1 hx2 he ip_add (.inl (c.fnall x))) fun D σ H q => LS.aug (f := fun i j => i + j) (fun x y K h => ?_) q
    cases x <;> cases y <;> first | exact h.elim | exact ⟨_, _, rfl, rfl, h⟩
  · have : op = .Sub := by cases op <;> first | rfl | cases ho
    subst this
    refine PS.imp (ps_aug hN h1 hx2 he ip_sub (.inl (c.fnall x))) fun D σ H q => LS.aug (f := fun i j => i - j) (fun x y K h => ?_) q
    cases x <;> cases y <;> first | exact h.elim | exact ⟨_, _, rfl, rfl, h⟩
theorem snd_st (G : CG) (Γ : Nat → PSpec) (k : Nat) : ∀ n, (∀ {X C sc}, CnS X C G Γ k sc → ∀ st i, cS G n sc st = some i → PS X st (LS X C (evS Γ i))) ∧
    (∀ {X C sc}, CnS X C G Γ k sc → ∀ st i, cSs G n sc st = some i → PSs X st (LS X C (evSs Γ i)))
  | 0 => ⟨fun c st i h => by simp [cS] at h, fun c st i h => by simp [cSs] at h⟩
  | n + 1 => by
    obtain ⟨ih1, ih2⟩ := snd_st G Γ k n
    have S := snd_all G Γ k n
    refine ⟨fun {X C sc} c st i h => ?_, fun {X C sc} c sts i h => ?_⟩
    · unfold cS at h
      split at h
      · -- one target
        split at h
        · split at h
          rotate_left
          · cases h
          rename_i hc
          split at h
          rotate_left
          · cases h
          rename_i xs ys h1 h2
          cases h
          simp only [Bool.and_eq_true, decide_eq_true_eq] at hc
          exact par_ps c hc.1.1 hc.1.2 hc.2 h1 h2
        · split at h
          rotate_left
          · cases h
          rename_i i' y z h1 h2 h3
          split at h
          · cases h
          rename_i hc
          cases h
          simp only [Bool.or_eq_true, not_or, Bool.not_eq_true, Bool.not_eq_false'] at hc
          exact sub_set c h1 hc.2 hc.1 (S.e c.toCn _ _ h2) (S.e c.toCn _ _ h3)
        · split at h
          rotate_left
          · cases h
          rename_i tg e pos tg2 e2 hsub hne oT oI t x h1 h2
          cases h
          have hm : ∀ m, (∃ x p, tg = .Name x p) ∨ (∃ ts k p, tg = .Tuple ts k p) ∨ cTgt G sc true m tg = none := fun m => by
            cases m with
            | zero => right; right; simp [cTgt]
            | succ m => cases tg <;> first | exact .inl ⟨_, _, rfl⟩ | exact .inr (.inl ⟨_, _, _, rfl⟩) | (right; right; simp [cTgt])
          rcases hm n with ⟨y, p, rfl⟩ | ⟨ts, kk, p, rfl⟩ | hm
          · exact asg_name c h1 h2
          · exact asg_tup c h1 h2 fun es k p z => hne _ _ _ _ _ _ rfl z
          · rw [hm] at h1; cases h1
      · split at h
        rotate_left
        · cases h
        rename_i i' o y h1 h2 h3
        split at h
        rotate_left
        · cases h
        rename_i hc
        cases h
        exact aug_ps c h1 h2 (by simpa using hc) (S.e c.toCn _ _ h3)
      · split at h
        rotate_left
        · cases h
        rename_i i' h1
        split at h
        · cases h
        rename_i hc
        simp only [Bool.or_eq_true, not_or, Bool.not_eq_true, Bool.not_eq_false', bne_eq_false_iff_eq] at hc
        obtain ⟨⟨hs, ok⟩, hl⟩ := hc
        have hl := beq_iff_eq.mpr hl
        split at h
        · rename_i hm
          subst hm
          split at h
          · split at h
            rotate_left
            · cases h
            rename_i hm2
            subst hm2
            split at h
            rotate_left
            · cases h
            rename_i j z g1 g2
            split at h
            · cases h
            rename_i hc2
            cases h
            simp only [Bool.or_eq_true, not_or, Bool.not_eq_true, Bool.not_eq_false', bne_eq_false_iff_eq] at hc2
            exact meth_appPop c h1 ok hl g1 hc2.1.2 (beq_iff_eq.mpr hc2.2) hc2.1.1.1 (S.e c.toCn _ _ g2)
          · obtain ⟨z, g1, rfl⟩ := Option.map_eq_some_iff.mp h
            exact meth_app c h1 ok hl hs (S.e c.toCn _ _ g1)
        · split at h
          rotate_left
          · cases h
          rename_i hm
          subst hm
          obtain ⟨z, g1, rfl⟩ := Option.map_eq_some_iff.mp h
          exact meth_ext c h1 ok hl hs (S.e c.toCn _ _ g1)
      · split at h
        · cases h
        rename_i hn
        obtain ⟨z, h1, rfl⟩ := Option.map_eq_some_iff.mp h
        exact ex_ps c (Bool.eq_false_iff.mpr hn) h1
      · split at h
        rotate_left
        · cases h
        rename_i i' z nm y h1 h2 h3
        split at h
        rotate_left
        · cases h
        rename_i j hs g1 g2
        split at h
        rotate_left
        · cases h
        rename_i hc
        cases h
        simp only [Bool.and_eq_true, Bool.not_eq_true', beq_eq_false_iff_ne] at hc
        exact heard_ps c h1 h2 g1 g2 (eq_of_beq hc.1.1) hc.1.2 hc.2
      · split at h
        rotate_left
        · cases h
        rename_i x y z h1 h2 h3
        cases h
        exact PS.imp (ps_if (S.t c.toCn _ _ h1).1 (ih2 c _ _ h2) (ih2 c _ _ h3)) fun D σ H q => LS.cond q
      · split at h
        rotate_left
        · cases h
        rename_i t i' y h1 h2 h3
        split at h
        rotate_left
        · cases h
        rename_i hc
        cases h
        simp only [Bool.and_eq_true, Bool.not_eq_true', Bool.or_eq_true] at hc
        have hc' : ∀ x, sc.names.lookup x = some .cell → sc.names.lookup x = some .cell ∧ X.fn x = true := fun x hx => ⟨hx, c.fnall x⟩
        refine PS.imp (ps_for c.pown c.calm (S.i c.toCn _ _ _ h2 fun e => ?_) ((tgt_ok c.toCn (fun _ h => h) hc' n).1 true _ _ h1).2 (ih2 c _ _ h3) (fold_set hc.2)) fun D σ H q => LS.forr q
        simpa [e] using hc.1
      · split at h
        rotate_left
        · cases h
        rename_i x y h1 h2
        cases h
        exact PS.imp (ps_while c.pown (S.t c.toCn _ _ h1).1 (ih2 c _ _ h2)) fun D σ H q => LS.whil q
      · obtain ⟨x, h1, rfl⟩ := Option.map_eq_some_iff.mp h
        split
        · exact PS.imp (ps_ret (S.e c.toCn _ _ h1)) fun D σ H q => LS.retO q
        · exact PS.imp (ps_ret (S.e c.toCn _ _ h1)) fun D σ H q => LS.ret q
      · cases h
        exact PS.imp ps_retN fun D σ H q => LS.retN q
      · split at h
        rotate_left
        · cases h
        rename_i hg
        obtain ⟨x, h1, rfl⟩ := Option.map_eq_some_iff.mp h
        obtain ⟨g, h2, h3⟩ := Option.bind_eq_some_iff.mp h1
        cases g with
        | exc e => cases h3; exact raise_ps c hg h2
        | _ => cases h3
      · cases h
        exact PS.imp ps_break fun D σ H q => LS.brk q
      · cases h
        exact PS.imp ps_continue fun D σ H q => LS.cnt q
      · cases h
        exact PS.imp ps_pass fun D σ H q => LS.pass q
      · cases h
    · cases sts with
      | nil =>
        simp only [cSs] at h
        cases h
        exact PSs.imp pss_nil fun D σ H q => LS.nil q
      | cons s ss =>
        simp only [cSs] at h
        split at h
        rotate_left
        · cases h
        rename_i x xs h1 h2
        cases h
        exact PSs.imp (pss_cons (ih1 c _ _ h1) (ih2 c _ _ h2)) fun D σ H q => LS.cons q
end
end R

set_option Elab.async false
set_option linter.all false
set_option maxRecDepth 100000
/-! R: a def from its body. -/
namespace R
open PySem PySem.Spec PyProof.Rows L2 RZ
section
variable {P : Program} {w : World} {K : PySem.W.Frag} {mg : Str → Option Value} {base : Heap} {fa : Nat → Option Addr}
theorem Ret.like {C C' : RC} (h : ∀ M, ({ C with M := M } : RC) = { C' with M := M }) {r : Slot} {d : Nat} {v : V} {H : Hp} (q : Ret C r d v H) : Ret C' r d v H := by
  obtain ⟨hr, M, F, ow, sl, σ, R⟩ := q
  rw [h M] at R
  exact ⟨hr, M, F, ow, sl, σ, R⟩
/-- what holds of the module, for every def -/
structure Env (P : Program) (w : World) (K : PySem.W.Frag) (mg : Str → Option Value) (base : Heap) (fa : Nat → Option Addr) (Γ : Nat → PSpec) (k : Nat) (g : List (Str × GK)) (bl : List Str) : Prop where
  fn : ∀ x n, g.lookup x = some (.fn n) → ∃ f, mg x = some (.ref f) ∧ fa n = some f
  cal : ∀ n f, fa n = some f → ∃ fd ps, (∀ args d J E, Γ n args d J E → args.length = ps.length) ∧ PySem.W.keepIn K (.ref f) = true ∧ Binds K fd ps [] ∧ FnOk P w K mg base (L2.CX P w) k f fd ps (spOf K mg fa ps.length (Γ n))
  cst : ∀ x v, g.lookup x = some (.cst v) → ∃ u y, mg x = some u ∧ RelV y u ∧ ∀ (C : RC) F, C.K = K → C.fa = fa → RV C F v y
  exc : ∀ x e, g.lookup x = some (.exc e) → x = excName e ∧ ∃ (a : Addr) (bmB : List Value) (B newId initId : String), mg x = some (.ref a) ∧ ExcBaseFacts B newId initId bmB ∧ PySem.W.excIn K a bmB newId = true ∧ PySem.W.keepIn K (.ref a) = true ∧
    PySem.W.subIn K (.ref a) (.type "BaseException") = some true ∧ PySem.W.typeIn K (.ref a) = some (.type "type") ∧ (Hd e → ExMore K mg a e)
  blt : ∀ x ∈ bl, g.lookup x = none → mg x = none
/-- the def's promise, from its body's meaning -/
theorem fn_ok {Γ : Nat → PSpec} {k : Nat} {g : List (Str × GK)} (En : Env P w K mg base fa Γ k g bltNames) {x qual : Str} {st : Stmt} {f : Addr} {fd : FuncData} {N mu ps : List Str} {hv : Bool} {n : Nat} {is : List IS} (Fn : Fun K x qual st f fd) (S : FnScope N ps (defScope st))
    (hc : cSs ⟨g, N, mu, hv⟩ n (defScope st) (defBody st) = some is) {Sp : PSpec}
    (hS : ∀ args d J E, Sp args d J E → args.length = ps.length ∧ evSs Γ is ⟨fun q => J (.val .non) q.d, fun r q => J r q.d, fun _ => False, fun _ => False, E⟩ ⟨slots0 N args, d⟩) :
    FnOk P w K mg base (L2.CX P w) (k + 1) f fd ps (spOf K mg fa ps.length Sp) := by
  refine Fn.okX S (fun vs H Q E h => h.1) fun cdv A outer s H vs Q XE hr hsp => ?_
  obtain ⟨hl, cell, F, args, d, J, E, hv', hF, hcell, hcf, hs, hQ, hE⟩ := hsp
  obtain ⟨hal, hs⟩ := hS args d J E hs
  have hNl : vs.length ≤ N.length := by
    rw [hl]
    have h1 := congrArg List.length S.pre
    rw [List.length_take] at h1
    omega
  let G : CG := ⟨g, N, mu, hv⟩
  let C : RC := ⟨K, mg, fa, cell, H, F, muOf G⟩
  have c : CnS (cxOf (L2.CX P w) P w K mg base N qual (defScope st) f cdv A outer s H XE) C G Γ k (defScope st) := {
    K := rfl
    mg := rfl
    N := rfl
    nd := S.nd
    scp := rfl
    calm := rfl
    room := hr
    glob := fun y gk hy => by
      cases gk with
      | fn m =>
        obtain ⟨f', h1, h2⟩ := En.fn y m hy
        exact ⟨f', h1, h2, ⟨En.cal m f' h2⟩⟩
      | cst v =>
        obtain ⟨u, z, h1, h2, h3⟩ := En.cst y v hy
        exact ⟨u, z, h1, h2, fun F => h3 C F rfl rfl⟩
      | exc e =>
        obtain ⟨h0, a, bmB, B, newId, initId, h1, h2, h3, h4, h5, h6, h7⟩ := En.exc y e hy
        exact ⟨h0, a, bmB, B, newId, initId, h1, h2, h3, h4, raises_own h5 h6, h7⟩
    blt := fun y hy h => En.blt y hy h
    M := rfl
    held := fun _ m f' h => ⟨En.cal m f' h⟩
    kind := by
      show (envOfC qual (defScope st) s.heap.objs.size f cdv).blockKind = .function
      unfold PySem.Env.blockKind
      rw [show (envOfC qual (defScope st) s.heap.objs.size f cdv).scope.kind = .function from S.kind]
      rfl
    fnall := fun _ => rfl
    pown := passes_of rfl
    stk := rfl
    frm := rfl }
  refine ⟨LS _ C (evSs Γ is), (snd_st G Γ k n).2 c _ _ hc, F, _, _, _, Rel.entry (K := K) (mg := mg) (fa := fa) (M := muOf G) hNl (RVs.mono (C := ⟨K, mg, fa, cell, H, F, fun _ => false⟩) (C' := ⟨K, mg, fa, cell, H, F, muOf G⟩) ⟨rfl, rfl, rfl⟩ (.refl F) hv') hF hcell hcf, ?_, hs, ?_, ?_, ?_, ?_⟩
  · right
    have tk := takes_of (X := cxOf (L2.CX P w) P w K mg base N qual (defScope st) f cdv A outer s H XE) (E := XE) rfl rfl rfl rfl
    refine tk.imp fun cls dd σ H' q => ?_
    obtain ⟨e, F', ow', p', rfl, rfl, R', q⟩ := q
    exact hE e p'.d H' ⟨muOf G, F', ow', p'.sl, σ, R'⟩ q
  · exact fun F' ow' p' σ' H' s' R' q => hQ _ _ _ _ ⟨.inl ⟨.non, rfl⟩, muOf G, F', ow', p'.sl, σ', R'.push rfl⟩ q
  · exact fun F' ow' p' σ' H' s' R' q => q.elim
  · exact fun F' ow' p' σ' H' s' R' q => q.elim
  · exact fun r F' ow' p' σ' v H' hr s' R' q => hQ r p'.d v H' ⟨hr, muOf G, F', ow', p'.sl, σ', R'⟩ q
end
end R

set_option Elab.async false
set_option linter.all false
set_option maxRecDepth 100000
/-! R: all defs of a text at once, by the depth of the calls. -/
namespace R
open PySem PySem.Spec PyProof.Rows L2 RZ

inductive FD where
  | body (N : List Str) (np : Nat) (is : List IS)
  | spec (S : PSpec)
def bodyS (Γ : Nat → PSpec) (N : List Str) (np : Nat) (is : List IS) : PSpec := fun args d J E => args.length = np ∧ evSs Γ is ⟨fun q => J (.val .non) q.d, fun r q => J r q.d, fun _ => False, fun _ => False, E⟩ ⟨slots0 N args, d⟩
/-- what the defs of a table do, calls at most m deep -/
def semA (T : Nat → Option FD) : Nat → Nat → PSpec
  | 0, n, args, d, J, E => match T n with
    | some (.spec S) => S args d J E
    | _ => False
  | m + 1, n, args, d, J, E => match T n with
    | some (.spec S) => S args d J E
    | some (.body N np is) => bodyS (semA T m) N np is args d J E
    | none => False

@[irreducible] def sem (T : Nat → Option FD) (m n : Nat) : PSpec := semA T m n
theorem sem_eq (T : Nat → Option FD) (m : Nat) : sem T m = semA T m := by
  funext n args d J E
  unfold sem
  rfl
theorem sem_body {T : Nat → Option FD} {m n np : Nat} {N : List Str} {is : List IS} {args : List PV} {d : Nat} {J : Slot → Nat → Prop} {E : EX} (h : T n = some (.body N np is)) (k : bodyS (sem T m) N np is args d J E) : sem T (m + 1) n args d J E := by
  rw [sem_eq] at k ⊢
  unfold semA
  rw [h]
  exact k
theorem sem_spec {T : Nat → Option FD} {m n : Nat} {S : PSpec} {args : List PV} {d : Nat} {J : Slot → Nat → Prop} {E : EX} (h : T n = some (.spec S)) (k : S args d J E) : sem T m n args d J E := by
  rw [sem_eq]
  cases m <;> (unfold semA; rw [h]; exact k)
section
variable {P : Program} {w : World} {K : PySem.W.Frag} {mg : Str → Option Value} {base : Heap} {fa : Nat → Option Addr}
/-- a def of the table -/
def DefOk (P : Program) (w : World) (K : PySem.W.Frag) (mg : Str → Option Value) (base : Heap) (fa : Nat → Option Addr) (T : Nat → Option FD) (k0 : Nat) (g : List (Str × GK)) (n : Nat) (f : Addr) : Prop :=
  ∃ fd ps, PySem.W.keepIn K (.ref f) = true ∧ Binds K fd ps [] ∧
    ((∃ x st N mu hv is fuel, T n = some (.body N ps.length is) ∧ Fun K x x st f fd ∧ FnScope N ps (defScope st) ∧ cSs ⟨g, N, mu, hv⟩ fuel (defScope st) (defBody st) = some is) ∨
     (∃ S : PSpec, T n = some (.spec S) ∧ (∀ args d J E, S args d J E → args.length = ps.length) ∧ FnOk P w K mg base (L2.CX P w) k0 f fd ps (spOf K mg fa ps.length S)))
structure Facts (P : Program) (w : World) (K : PySem.W.Frag) (mg : Str → Option Value) (base : Heap) (fa : Nat → Option Addr) (T : Nat → Option FD) (k0 : Nat) (g : List (Str × GK)) (bl : List Str) : Prop where
  fn : ∀ x n, g.lookup x = some (.fn n) → ∃ f, mg x = some (.ref f) ∧ fa n = some f
  all : ∀ n f, fa n = some f → DefOk P w K mg base fa T k0 g n f
  cst : ∀ x v, g.lookup x = some (.cst v) → ∃ u y, mg x = some u ∧ RelV y u ∧ ∀ (C : RC) F, C.K = K → C.fa = fa → RV C F v y
  exc : ∀ x e, g.lookup x = some (.exc e) → x = excName e ∧ ∃ (a : Addr) (bmB : List Value) (B newId initId : String), mg x = some (.ref a) ∧ ExcBaseFacts B newId initId bmB ∧ PySem.W.excIn K a bmB newId = true ∧ PySem.W.keepIn K (.ref a) = true ∧
    PySem.W.subIn K (.ref a) (.type "BaseException") = some true ∧ PySem.W.typeIn K (.ref a) = some (.type "type") ∧ (Hd e → ExMore K mg a e)
  blt : ∀ x ∈ bl, g.lookup x = none → mg x = none
theorem never_fn {k : Nat} {f : Addr} {fd : FuncData} {ps : List Str} {S : PSpec} (h : ∀ args d J E, ¬ S args d J E) : FnOk P w K mg base (L2.CX P w) k f fd ps (spOf K mg fa ps.length S) :=
  ⟨fun vs H Q E q => q.1, fun A outer s H args us vs Q E hr he hb hv hsp => by
    obtain ⟨_, _, _, _, _, _, _, _, _, _, _, q, _⟩ := hsp
    exact (h _ _ _ _ q).elim⟩
theorem sem_fn {T : Nat → Option FD} {k0 : Nat} {g : List (Str × GK)} (Fc : Facts P w K mg base fa T k0 g bltNames) : ∀ m n f, fa n = some f →
    ∃ fd ps, (∀ args d J E, semA T m n args d J E → args.length = ps.length) ∧ PySem.W.keepIn K (.ref f) = true ∧ Binds K fd ps [] ∧ FnOk P w K mg base (L2.CX P w) (k0 + m) f fd ps (spOf K mg fa ps.length (semA T m n))
  | 0, n, f, hf => by
    obtain ⟨fd, ps, h1, h2, h3⟩ := Fc.all n f hf
    refine ⟨fd, ps, fun args d J E h => ?_, h1, h2, ?_⟩
    · unfold semA at h
      rcases h3 with ⟨x, st, N, mu, hv, is, fuel, e, _⟩ | ⟨S, e, ha, _⟩
      · rw [e] at h; exact h.elim
      · rw [e] at h; exact ha _ _ _ _ h
    · rcases h3 with ⟨x, st, N, mu, hv, is, fuel, e, _⟩ | ⟨S, e, ha, hF⟩
      · refine never_fn fun args d J E h => ?_
        unfold semA at h
        rw [e] at h
        exact h
      · have : semA T 0 n = S := by
          funext args d J E
          unfold semA
          rw [e]
        rw [this]
        exact hF
  | m + 1, n, f, hf => by
    obtain ⟨fd, ps, h1, h2, h3⟩ := Fc.all n f hf
    have En : Env P w K mg base fa (semA T m) (k0 + m) g bltNames := ⟨Fc.fn, fun n f h => sem_fn Fc m n f h, Fc.cst, Fc.exc, Fc.blt⟩
    refine ⟨fd, ps, fun args d J E h => ?_, h1, h2, ?_⟩
    · unfold semA at h
      rcases h3 with ⟨x, st, N, mu, hv, is, fuel, e, _⟩ | ⟨S, e, ha, _⟩
      · rw [e] at h; exact h.1
      · rw [e] at h; exact ha _ _ _ _ h
    · rcases h3 with ⟨x, st, N, mu, hv, is, fuel, e, hFn, hSc, hc⟩ | ⟨S, e, ha, hF⟩
      · refine fn_ok En hFn hSc hc fun args d J E h => ?_
        unfold semA at h
        rw [e] at h
        exact h
      · have : semA T (m + 1) n = S := by
          funext args d J E
          unfold semA
          rw [e]
        rw [this]
        exact hF.mono (by omega)
theorem sem_env {T : Nat → Option FD} {k0 : Nat} {g : List (Str × GK)} (Fc : Facts P w K mg base fa T k0 g bltNames) (m : Nat) : Env P w K mg base fa (sem T m) (k0 + m) g bltNames := by
  rw [sem_eq]
  exact ⟨Fc.fn, fun n f h => sem_fn Fc m n f h, Fc.cst, Fc.exc, Fc.blt⟩
end
end R

set_option Elab.async false
set_option linter.all false
set_option maxRecDepth 100000
set_option exponentiation.threshold 3000
/-! R: one draw. -/
namespace R
open PySem PySem.Spec PyProof.Rows L2 RZ
/-- a draw below n: any number from 0 on below n; one draw less is left -/
def TakeS : PSpec := fun args d J E => ∃ (n : Int) (d' : Nat), args = [.cell, .int n] ∧ 0 < n ∧ n < 2 ^ 400 ∧ d = d' + 1 ∧ ∀ r : Int, 0 ≤ r → r < n → J (.val (.int r)) d'
def aAdd : R2 := rI0 fun i j => .int (i + j)
def aMul : R2 := rI MulOk fun i j => .int (i * j)
def aFd : R2 := rI (fun i j => j ≠ 0 ∧ DivOk i j) fun i j => .int (i.fdiv j)
def aMod : R2 := rI (fun _ j => j ≠ 0) fun i j => .int (i.fmod j)
def aInt : List V → Hp → VK → Prop := fun xs H Q => (∃ i, xs = [.int i] ∧ Q (.int i) H) ∨ ∃ k, xs = [.bl k] ∧ Q (.int (if k then 1 else 0)) H
def tIx (K : PySem.W.Frag) (j : Int) : TE := tOp (rIxL K) (tVar 0) (tC (.int j))
def tI1 (t : TE) : TE := tCB aInt (tCons t tNil)
def tTake (K : PySem.W.Frag) : TS :=
  tSeq (tIfS (tTest (tOp (rI0 fun i j => .bl (decide (j < i))) (tIx K 0) (tC (.int 0))))
    (tSeq (tAsg (tOp aMod (tI1 (tIx K 0)) (tVar 1)) (gName 2)) (tSeq (tAsg (tOp aFd (tIx K 0) (tVar 1)) (gSub (tVar 0) (tC (.int 0)) rSetL)) (tRet (tVar 2)))) tNext)
  (tSeq (tAsg (tOp aAdd (tIx K 2) (tC (.int 1))) (gSub (tVar 0) (tC (.int 2)) rSetL))
  (tSeq (tAsg (tOp aMod (tI1 (tOp aMul (tOp aAdd (tIx K 1) (tOp aMul (tC (.int 48271)) (tIx K 2))) (tOp aAdd (tC (.int 39373)) (tIx K 2)))) (tC (.int 2147483647))) (gName 3))
  (tSeq (tAsg (tOp aAdd (tOp aMod (tI1 (tVar 3)) (tC (.int 40009))) (tC (.int 7))) (gName 4))
  (tSeq (tAsg (tOp aMod (tI1 (tOp aMul (tOp aAdd (tOp aAdd (tVar 3) (tIx K 2)) (tOp aFd (tIx K 1) (tC (.int 1000003)))) (tVar 4))) (tC (.int 2147483629))) (gName 5))
  (tRet (tOp aMod (tI1 (tOp aFd (tOp aMod (tI1 (tOp aAdd (tOp aMul (tVar 5) (tC (.int 48271))) (tVar 3))) (tC (.int 2147483587))) (tC (.int 64)))) (tVar 1)))))))
section
open Evl
variable {K : PySem.W.Frag} {σ : L2.St} {H : Hp} {a : Addr} {x y z n : Int} {te ta tb : TE}
theorem bits64 {i : Int} (h : -(2 ^ 63) ≤ i) (h2 : i ≤ 2 ^ 63) : Builtin.Int.intBits i ≤ 64 := by
  unfold Builtin.Int.intBits
  split
  · omega
  · rename_i q
    have : i.natAbs.log2 < 64 := (Nat.log2_lt (by
      intro e
      apply q
      first | exact Int.natAbs_eq_zero.mp e | simp [Int.natAbs_eq_zero.mp e])).mpr (by omega)
    omega
theorem mulL {i j : Int} (h : -(2 ^ 63) ≤ i) (h2 : i ≤ 2 ^ 63) : MulOk i j := IntMulOk.of_left (bits64 h h2)
theorem mulR {i j : Int} (h : -(2 ^ 63) ≤ j) (h2 : j ≤ 2 ^ 63) : MulOk i j := IntMulOk.of_right (bits64 h h2)
theorem divS {i j : Int} (h0 : 0 < j) (h : j < 2 ^ 400) : DivOk i j := PyProof.noPylong_of_log2 (by
  have h1 : j.natAbs < 2 ^ 400 := by
    have : ((j.natAbs : Nat) : Int) < ((2 ^ 400 : Nat) : Int) := by
      rw [Int.natAbs_of_nonneg (Int.le_of_lt h0)]
      exact_mod_cast h
    exact_mod_cast this
  have : j.natAbs.log2 < 400 := (Nat.log2_lt (by omega)).mpr h1
  omega)
theorem fmod_rng {i j : Int} (h : 0 < j) : 0 ≤ i.fmod j ∧ i.fmod j < j := ⟨Int.fmod_nonneg_of_pos i h, Int.fmod_lt_of_pos i h⟩
theorem eAdd {i j : Int} (ha : Ev ta σ H (.int i)) (hb : Ev tb σ H (.int j)) : Ev (tOp aAdd ta tb) σ H (.int (i + j)) := ev_op ha hb rv_I0
theorem eMul {i j : Int} (ha : Ev ta σ H (.int i)) (hb : Ev tb σ H (.int j)) (h : MulOk i j) : Ev (tOp aMul ta tb) σ H (.int (i * j)) := ev_op ha hb (rv_I (g := fun i j => .int (i * j)) h)
theorem eFd {i j : Int} (ha : Ev ta σ H (.int i)) (hb : Ev tb σ H (.int j)) (h0 : 0 < j) (h : j < 2 ^ 400) : Ev (tOp aFd ta tb) σ H (.int (i.fdiv j)) := ev_op ha hb (rv_I (g := fun i j => .int (i.fdiv j)) ⟨by omega, divS h0 h⟩)
theorem eMod {i j : Int} (ha : Ev ta σ H (.int i)) (hb : Ev tb σ H (.int j)) (h : 0 < j) : Ev (tOp aMod ta tb) σ H (.int (i.fmod j)) := ev_op ha hb (rv_I (C := fun _ j => j ≠ 0) (g := fun i j => .int (i.fmod j)) (by omega))
theorem eI1 {i : Int} (ha : Ev ta σ H (.int i)) : Ev (tI1 ta) σ H (.int i) := fun H1 e Q q => ha H1 e _ fun H2 e2 => .inl ⟨i, rfl, q H2 e2⟩
theorem eIx {i : Int} {xs : List V} {v : V} (h0 : σ[0]? = some (some (.ref a))) (hl : H a = some (.lst xs)) (h : atI xs i = some v) : Ev (tIx K i) σ H v := ev_op (ev_var h0) ev_c (rv_ixL (sq_of hl) h)
theorem take_reads {Q : VK} (hx : 0 ≤ x) (hy : -(2 ^ 63) ≤ y) (hy2 : y ≤ 2 ^ 63) (hz : 0 ≤ z) (hz2 : z < 2 ^ 60) (hn : 0 < n) (hn2 : n < 2 ^ 400) (hl : H a = some (.lst [.int x, .int y, .int z]))
    (hQ : ∀ (r x' z' : Int) H', 0 ≤ r → r < n → 0 ≤ x' → 0 ≤ z' → z' ≤ z + 1 → H' a = some (.lst [.int x', .int y, .int z']) → (∀ b, b ≠ a → H b ≠ none → H' b = H b) → Q (.int r) H') :
    tTake K { nx := fun _ H' => Q .non H', rt := Q } [some (.ref a), some (.int n), none, none, none, none] H := by
  have keep : ∀ {H1 H2 H3 : Hp} {u : HO}, Ex H H1 → Ex (upd H1 a u) H3 → H3 a = some u ∧ ∀ b, b ≠ a → H b ≠ none → H3 b = H b := fun {H1 H2 H3 u} e1 e3 => ⟨e3 a u upd_same, fun b hb hn => by
    cases q : H b with
    | none => exact absurd q hn
    | some o => exact e3 b o (by rw [upd_ne hb]; exact e1 b o q)⟩
  unfold tTake
  refine q_when (b := decide (0 < x)) (et_test (ev_op (eIx (v := .int x) rfl hl rfl) ev_c rv_I0)) (fun hb H1 e1 => ?_) (fun hb H1 e1 => ?_)
  · have h1 := e1 a _ hl
    obtain ⟨m1, m2⟩ := fmod_rng (i := x) hn
    refine q_asg (eMod (eI1 (eIx (v := .int x) rfl h1 rfl)) (ev_var rfl) hn) fun H2 e2 => ?_
    have h2 := e2 a _ h1
    refine q_setL (j := 0) h2 (eFd (eIx (v := .int x) rfl h2 rfl) (ev_var rfl) hn hn2) (ev_var rfl) ev_c (by simp) fun H3 e3 => ?_
    refine s_ret (ev_var rfl) fun H4 e4 => ?_
    obtain ⟨k1, k2⟩ := keep (H2 := H2) ((e1.trans e2).trans e3) e4
    exact hQ _ _ z H4 m1 m2 (Int.fdiv_nonneg hx (Int.le_of_lt hn)) hz (by omega) k1 k2
  · have h1 := e1 a _ hl
    refine q_setL (j := 2) h1 (eAdd (eIx (v := .int z) rfl h1 rfl) ev_c) (ev_var rfl) ev_c (by simp) fun H2 e2 => ?_
    generalize hH : upd H2 a (.lst ([V.int x, .int y, .int z].set 2 (.int (z + 1)))) = H3
    have h3 : H3 a = some (.lst [.int x, .int y, .int (z + 1)]) := by rw [← hH, upd_same]; rfl
    refine q_asg (eMod (eI1 (eMul (eAdd (eIx (v := .int y) rfl h3 rfl) (eMul ev_c (eIx (v := .int (z + 1)) rfl h3 rfl) (mulL (by decide) (by decide)))) (eAdd ev_c (eIx (v := .int (z + 1)) rfl h3 rfl)) (mulR (by omega) (by omega)))) ev_c (by decide)) fun H4 e4 => ?_
    have h4 := e4 a _ h3
    generalize ho : ((y + 48271 * (z + 1)) * (39373 + (z + 1))).fmod 2147483647 = o
    refine q_asg (eAdd (eMod (eI1 (ev_var (v := .int o) rfl)) ev_c (by decide)) ev_c) fun H5 e5 => ?_
    have h5 := e5 a _ h4
    obtain ⟨w1, w2⟩ := fmod_rng (i := o) (j := 40009) (by decide)
    generalize hw : o.fmod 40009 + 7 = w
    refine q_asg (eMod (eI1 (eMul (eAdd (eAdd (ev_var (v := .int o) rfl) (eIx (v := .int (z + 1)) rfl h5 rfl)) (eFd (eIx (v := .int y) rfl h5 rfl) ev_c (by decide) (by decide))) (ev_var (v := .int w) rfl) (mulR (by omega) (by omega)))) ev_c (by decide)) fun H6 e6 => ?_
    generalize ht : ((o + (z + 1) + y.fdiv 1000003) * w).fmod 2147483629 = t
    refine s_ret (eMod (eI1 (eFd (eMod (eI1 (eAdd (eMul (ev_var (v := .int t) rfl) ev_c (mulR (by decide) (by decide))) (ev_var (v := .int o) rfl))) ev_c (by decide)) ev_c (by decide) (by decide))) (ev_var (v := .int n) rfl) hn) fun H7 e7 => ?_
    obtain ⟨m1, m2⟩ := fmod_rng (i := (((t * 48271 + o).fmod 2147483587).fdiv 64)) hn
    have e37 : Ex H3 H7 := ((e4.trans e5).trans e6).trans e7
    rw [← hH] at e37
    obtain ⟨k1, k2⟩ := keep (H2 := H2) (e1.trans e2) e37
    exact hQ _ x (z + 1) H7 m1 m2 hx (by omega) (by omega) k1 k2
end
section
variable {P : Program} {w : World} {K : PySem.W.Frag} {mg : Str → Option Value} {base : Heap} {fa : Nat → Option Addr}
/-- the def keeps its promise -/
theorem take_fn {k : Nat} {x qual : Str} {st : Stmt} {f : Addr} {fd : FuncData} (Fn : Fun K x qual st f fd) (S : FnScope ["tin", "below_so", "drawn_so", "once_so", "wide_so", "twice_so"] ["tin", "below_so"] (defScope st))
    (hb : ∀ (X : Cx), X.K = K → X.mg = mg → X.N = (["tin", "below_so", "drawn_so", "once_so", "wide_so", "twice_so"] : List Str) → X.env.scope = defScope st → X.calm = true → (∀ y, X.fn y = true) → PSs X (defBody st) (tTake K)) :
    FnOk P w K mg base (L2.CX P w) (k + 1) f fd ["tin", "below_so"] (spOf K mg fa 2 TakeS) := by
  refine Fn.okX S (fun vs H Q E h => h.1) fun cdv A outer s H vs Q XE hr hsp => ⟨_, hb _ rfl rfl rfl rfl rfl (fun _ => rfl), ?_⟩
  obtain ⟨hl, cell, F, args, d, J, E, hv, hF, hcell, hcf, ⟨n, d', rfl, hn, hn2, rfl, hJ⟩, hQ, hE⟩ := hsp
  obtain ⟨v0, r0, rfl, ⟨a, rfl, hca⟩, v1, r1, rfl, hv1, hr1⟩ := hv
  cases (show r1 = [] from hr1)
  cases (show v1 = .int n from hv1)
  cases (show cell = some a from hca)
  obtain ⟨cx, cy, cz, h1, h2, h3, h4, h5, h6⟩ := hcell a rfl
  refine take_reads h2 h3 h4 h5 (by omega) hn hn2 h1 fun r x' z' H' q1 q2 q3 q4 q5 q6 q7 => hQ (.val (.int r)) d' (.int r) H' ⟨.inl ⟨_, rfl⟩, fun _ => false, F, fun _ => none, [], [], ?_⟩ (hJ r q1 q2)
  have hfa : F a = none := hcf a rfl
  have keepF : Same F H' := fun b o e => by
    have hb : b ≠ a := fun z => by subst z; rw [hfa] at e; cases e
    rw [q7 b hb (by rw [hF b o e]; exact fun z => nomatch z)]
    exact hF b o e
  exact ⟨keepF, .refl F, fun _ _ => rfl, fun b o hc e => by
      have hb : b ≠ a := fun z => hc (by rw [z])
      rw [q7 b hb (by rw [show H b = some o from e]; exact fun z => nomatch z)]
      exact e, fun b i e => (nomatch e), fun b e => by
      cases e
      exact ⟨x', cy, z', q6, q3, h3, h4, q4, by show z' + (d' : Int) ≤ 2 ^ 60; omega⟩, fun b e => by
      cases e
      exact ⟨hfa, by show H a ≠ none; rw [h1]; exact fun z => nomatch z⟩, rfl, fun i => trivial, ⟨⟨.int r, rfl, rfl⟩, trivial⟩, fun i j xs => fun z => nomatch z⟩
end
end R

set_option Elab.async false
set_option linter.all false
set_option maxRecDepth 100000
/-! R: the law's own def. -/
namespace R
open PySem PySem.Spec PyProof.Rows L2 RZ
mutual
/-- no draws' cell within -/
def noCell : PV → Bool
  | .cell => false
  | .tup xs => noCells xs
  | .lst xs => noCells xs
  | .ro xs => noCells xs
  | _ => true
def noCells : List PV → Bool
  | [] => true
  | x :: xs => noCell x && noCells xs
end
mutual
theorem RV.uncell {C C' : RC} {F : Hp} (hK : C.K = C'.K) (hf : C.fa = C'.fa) : ∀ {x : PV} {v : V}, noCell x = true → RV C F x v → RV C' F x v
  | .non, _, _, h => h
  | .bl _, _, _, h => h
  | .int _, _, _, h => h
  | .str _, _, _, h => h
  | .ty _, _, _, h => h
  | .tup xs, _, n, h => by
    obtain ⟨a, vs, e, h1, h2⟩ := h
    exact ⟨a, vs, e, by rw [← hK]; exact h1, RVs.uncell hK hf n h2⟩
  | .lst xs, _, n, h => by
    obtain ⟨a, vs, e, h1, h2⟩ := h
    exact ⟨a, vs, e, h1, RVs.uncell hK hf n h2⟩
  | .ro xs, _, n, h => by
    obtain ⟨a, vs, e, h1, h2⟩ := h
    exact ⟨a, vs, e, by rw [← hK]; exact h1, RVs.uncell hK hf n h2⟩
  | .fn _, _, _, h => by
    obtain ⟨a, e, h1⟩ := h
    exact ⟨a, e, by rw [← hf]; exact h1⟩
  | .cell, _, n, _ => nomatch n
theorem RVs.uncell {C C' : RC} {F : Hp} (hK : C.K = C'.K) (hf : C.fa = C'.fa) : ∀ {xs : List PV} {vs : List V}, noCells xs = true → RVs C F xs vs → RVs C' F xs vs
  | [], _, _, h => h
  | x :: xs, _, n, h => by
    obtain ⟨v, r, e, h1, h2⟩ := h
    obtain ⟨n1, n2⟩ := Bool.and_eq_true_iff.mp n
    exact ⟨v, r, e, RV.uncell hK hf n1 h1, RVs.uncell hK hf n2 h2⟩
end
theorem noCells_ints : ∀ (ns : List Int), noCells (ns.map PV.int) = true
  | [] => rfl
  | n :: ns => by
    show (true && noCells (ns.map PV.int)) = true
    rw [noCells_ints ns]
    rfl
def spLaw (K : PySem.W.Frag) : Sp := fun vs H Q _ => ∃ (a : Addr) (ns : List Int), vs = [.ref a] ∧ SqL K H a (ns.map V.int) ∧ ns.length ≤ 63 ∧ ∀ H', Q (.bl true) H'
section
variable {P : Program} {w : World} {K : PySem.W.Frag} {mg : Str → Option Value} {base : Heap} {fa : Nat → Option Addr} {Γ : Nat → PSpec}
theorem call_cell {kr i : Nat} {q : PSt} {J : KE} {E : EX} (h : q.get i = .val .cell) (hr : Γ kr [.cell] q.d (fun r d => J r ⟨q.sl, d⟩) E) : evE Γ (.call kr [.var i]) q J E := by
  unfold evE evEs evE
  rw [h]
  unfold evEs
  exact hr
theorem walk_right {kr D : Nat} {a b c : Slot} {old : List Slot} {K : List PV → PSt → Prop} (hr : ∀ d J E, D ≤ d → (∀ d', d ≤ d' + D → J (.val (.bl true)) d') → Γ kr [.cell] d J E) :
    ∀ (items : List PV) (acc : List Bool) (d : Nat) (e f : Slot), acc.length + items.length ≤ 1000 → (∀ x ∈ acc, x = true) → items.length * D ≤ d →
      (∀ (acc' : List Bool) p, (∀ x ∈ acc', x = true) → (∃ e' f', p.sl = backP old [a, b, c, .val .cell, e', f'] [4, 5]) → K (acc'.map PV.bl) p) →
      walkC old [4, 5] (bindT (.nm 5)) (fun q J => evT Γ .yes q J (fun _ _ => False)) (fun q J => evE Γ (.call kr [.var 3]) q (fun r q1 => esc r q1 J) (fun _ _ => False)) items (acc.map PV.bl) d [a, b, c, .val .cell, e, f] K
  | [], acc, d, e, f, hl, ha, hd, k => by
    unfold walkC
    exact k acc _ ha ⟨e, f, rfl⟩
  | x :: items, acc, d, e, f, hl, ha, hd, k => by
    unfold walkC bindT evT
    rw [List.length_cons] at hd hl
    rw [cnd_t]
    have hD : D ≤ d := by
      have : (items.length + 1) * D = items.length * D + D := by rw [Nat.add_mul, Nat.one_mul]
      omega
    refine call_cell (by rfl) (hr d _ _ hD fun d' hd' => ?_)
    refine ⟨by rw [List.length_map]; omega, ?_⟩
    have := walk_right hr items (acc ++ [true]) d' .un (.val x) (by simp; omega) (fun y hy => by
      rcases List.mem_append.mp hy with h | h
      · exact ha y h
      · exact List.mem_singleton.mp h) (by
      have : (items.length + 1) * D = items.length * D + D := by rw [Nat.add_mul, Nat.one_mul]
      omega) k
    rw [List.map_append] at this
    exact this
/-- another relation over the same heap: values only -/
theorem Rel.keepVals {C : RC} {F : Hp} {ow : Addr → Option Id} {p p' : PSt} {ts : List (Slot × V)} {σ : L2.St} {H : Hp} (R : Rel C F ow p ts σ H) (hl : p'.sl.length = p.sl.length) (hd : p'.d ≤ p.d) (h : ∀ i, p'.get i = .un ∨ ∃ v, p.get i = .val v ∧ p'.get i = .val v) :
    Rel C F (fun _ => none) p' [] σ H := by
  refine ⟨R.fh, R.bf, R.new, R.keep, fun a i e => (nomatch e), R.cok.mono hd, R.cfr, hl.trans R.len, fun i => ?_, trivial, fun i j xs e => ?_⟩
  · rcases h i with h | ⟨v, h1, h2⟩
    · rw [h]; trivial
    · have := R.sl i
      rw [h1] at this
      rw [h2]
      exact this
  · rcases h i with h | ⟨v, h1, h2⟩
    · rw [h] at e; cases e
    · rw [h2] at e; cases e
/-- the cell is given over -/
theorem Rel.enter {C : RC} {F : Hp} {ow : Addr → Option Id} {b c : Slot} {x y : Int} {ts : List (Slot × V)} {σ : L2.St} {H : Hp} {d : Nat} {a e f : Slot} (R : Rel C F ow ⟨[a, b, c, .own [.int x, .int y, .int 0], e, f], d⟩ ts σ H)
    (hC : C.cell = none) (hb : ∃ v, b = .val v ∧ noCell v = true) (hx : 0 ≤ x) (hy : -(2 ^ 63) ≤ y) (hy2 : y ≤ 2 ^ 63) : ∃ q, Rel ⟨C.K, C.mg, C.fa, some q, H, F, C.M⟩ F (fun _ => none) ⟨[.un, b, .un, .val .cell, .un, .un], 2 ^ 60⟩ [] σ H ∧ C.H0 q = none := by
  have h3 := R.sl 3
  obtain ⟨q, vs, e1, h1, h2, h4, _⟩ := (show Ent C F ow σ H (.inl 3) (.own [.int x, .int y, .int 0]) (σ[3]?.join) from h3)
  have hvs : vs = [.int x, .int y, .int 0] := RVs.ints (ns := [x, y, 0]) h4
  subst hvs
  obtain ⟨g1, g2, g3⟩ := R.oww q _ h2
  refine ⟨q, ⟨R.fh, .refl F, fun _ _ => rfl, fun _ _ _ z => z, fun _ _ z => (nomatch z), fun u eu => ?_, fun u eu => ?_, ?_, fun i => ?_, trivial, fun i j xs z => ?_⟩, g2⟩
  · cases eu
    exact ⟨x, y, 0, h1, hx, hy, hy2, by decide, by show (0 : Int) + ((2 ^ 60 : Nat) : Int) ≤ 2 ^ 60; decide⟩
  · cases eu
    exact ⟨g1, by show H q ≠ none; rw [h1]; exact fun z => nomatch z⟩
  · exact R.len
  · match i with
    | 0 => trivial
    | 1 =>
      obtain ⟨v, rfl, hv⟩ := hb
      obtain ⟨w, e2, hw⟩ := (show Ent C F ow σ H (.inl 1) (.val v) (σ[1]?.join) from R.sl 1)
      exact ⟨w, e2, RV.uncell (C := C) (C' := ⟨C.K, C.mg, C.fa, some q, H, F, C.M⟩) rfl rfl hv hw⟩
    | 2 => trivial
    | 3 => exact ⟨.ref q, e1, q, rfl, rfl⟩
    | 4 => trivial
    | 5 => trivial
    | i + 6 => trivial
  · match i with
    | 0 => cases z
    | 1 => obtain ⟨v, rfl, hv⟩ := hb; cases z
    | 2 => cases z
    | 3 => cases z
    | 4 => cases z
    | 5 => cases z
    | i + 6 => cases z
/-- .. and taken back -/
theorem Rel.leave {C : RC} {F F2 : Hp} {ow ow2 : Addr → Option Id} {p p2 : PSt} {ts : List (Slot × V)} {σ σ2 : L2.St} {H H2 : Hp} {q : Addr} (R : Rel C F ow p ts σ H) (hC : C.cell = none) (hq : C.H0 q = none) (R2 : Rel ⟨C.K, C.mg, C.fa, some q, H, F, C.M⟩ F2 ow2 p2 [] σ2 H2)
    {v : PV} (hv : noCell v = true) (h1 : p2.get 1 = .val v) (hl : p2.sl.length = 6) : Same F F2 ∧ Rel C F2 (fun _ => none) ⟨[.un, .val v, .un, .un, .un, .un], 0⟩ [] σ2 H2 := by
  refine ⟨R2.bf, R2.fh, R.bf.trans R2.bf, fun a ha => (R2.new a (R.hold ha)).trans (R.new a ha), fun a o hc e => ?_, fun _ _ z => (nomatch z), fun a e => ?_, fun a e => ?_, ?_, fun i => ?_, trivial, fun i j xs z => ?_⟩
  · refine R2.keep a o (fun z => ?_) (R.keep a o hc e)
    have z : some q = some a := z
    cases z
    rw [hq] at e
    cases e
  · rw [hC] at e; cases e
  · rw [hC] at e; cases e
  · exact hl.symm.trans R2.len
  · match i with
    | 0 => trivial
    | 1 =>
      have := R2.sl 1
      rw [h1] at this
      obtain ⟨w, e2, hw⟩ := this
      exact ⟨w, e2, RV.uncell (C := ⟨C.K, C.mg, C.fa, some q, H, F, C.M⟩) (C' := C) rfl rfl hv hw⟩
    | 2 => trivial
    | 3 => trivial
    | 4 => trivial
    | 5 => trivial
    | i + 6 => trivial
  · match i with
    | 0 => cases z
    | 1 => cases z
    | 2 => cases z
    | 3 => cases z
    | 4 => cases z
    | 5 => cases z
    | i + 6 => cases z
/-- what the law's parts do -/
structure LawParts (Γ : Nat → PSpec) (kc kb kr : Nat) (mo L : Int) (D : Nat) : Prop where
  cells : ∀ (ns : List Int) d J E, ns.length ≤ 63 → (∀ cs : List Int, cs.length ≤ 63 → J (.val (.lst (cs.map .int))) d) → Γ kc [.ro (ns.map .int), .int mo] d J E
  box : ∀ (cs : List Int) (i : Nat) d J E, i < cs.length → cs.length ≤ 63 → (∀ x y : Int, 0 ≤ x → -(2 ^ 63) ≤ y → y ≤ 2 ^ 63 → J (.own [.int x, .int y, .int 0]) d) → Γ kb [.lst (cs.map .int), .int i] d J E
  right : ∀ d J E, D ≤ d → (∀ d', d ≤ d' + D → J (.val (.bl true)) d') → Γ kr [.cell] d J E
  few : 0 ≤ L ∧ L ≤ 900 ∧ L.toNat * D ≤ 2 ^ 60
def lawN : List Str := ["script", "cells_so", "n", "tin", ".0", "lap"]
theorem law_fn {k : Nat} {g : List (Str × GK)} (En : Env P w K mg base fa Γ k g bltNames) {x qual : Str} {st s0 b1 b2 s2 : Stmt} {tg it : Expr} {pos : Pos} {f : Addr} {fd : FuncData} {kc kb kr D n : Nat} {mo L : Int} (Fn : Fun K x qual st f fd) (S : FnScope lawN ["script"] (defScope st))
    (hbody : defBody st = [s0, .For tg it [b1, b2] [] pos, s2])
    (h0 : cS ⟨g, lawN, ["tin"], false⟩ n (defScope st) s0 = some (.asg (.nm 1) (.call kc [.var 0, .cst (.int mo)])))
    (hi : cI ⟨g, lawN, ["tin"], false⟩ n (defScope st) it = some (.rng1 (.blt1 .len (.var 1)))) (ht : cTgt ⟨g, lawN, ["tin"], false⟩ (defScope st) true n tg = some (.nm 2)) (hset : isSet it = false)
    (h1 : cS ⟨g, lawN, ["tin"], false⟩ n (defScope st) b1 = some (.asg (.ow 3) (.call kb [.var 1, .var 2])))
    (h2 : cS ⟨g, lawN, ["tin"], false⟩ n (defScope st) b2 = some (.cond (.not (.val (.blt1 .all (.comp (.call kr [.var 3]) (.nm 5) (.rng1 (.cst (.int L))) .yes [4, 5])))) [.ret (.cst (.bl false))] []))
    (h3 : cS ⟨g, lawN, ["tin"], false⟩ n (defScope st) s2 = some (.ret (.cst (.bl true))))
    (Pt : LawParts Γ kc kb kr mo L D) : FnOk P w K mg base (L2.CX P w) (k + 1) f fd ["script"] (spLaw K) := by
  refine Fn.okX S (fun vs H Q E h => ?_) fun cdv A outer s H vs Q XE hr hsp => ?_
  · obtain ⟨a, ns, rfl, _⟩ := h
    rfl
  obtain ⟨a, ns, rfl, hS, hl63, hQ⟩ := hsp
  let G : CG := ⟨g, lawN, ["tin"], false⟩
  let X := cxOf (L2.CX P w) P w K mg base lawN qual (defScope st) f cdv A outer s H XE
  have cn : ∀ C : RC, C.K = K → C.mg = mg → C.fa = fa → C.M = muOf G → CnS X C G Γ k (defScope st) := fun C hK hmg hfa hM => {
    K := hK.symm
    mg := hmg.symm
    N := rfl
    nd := S.nd
    scp := rfl
    calm := rfl
    room := hr
    glob := fun y gk hy => by
      cases gk with
      | fn m =>
        obtain ⟨f', h1, h2⟩ := En.fn y m hy
        refine ⟨f', h1, by rw [hfa]; exact h2, ⟨?_⟩⟩
        rw [hK, hmg, hfa]
        exact En.cal m f' h2
      | cst v =>
        obtain ⟨u, z, h1, h2, h3⟩ := En.cst y v hy
        exact ⟨u, z, h1, h2, fun F => h3 C F hK hfa⟩
      | exc e =>
        obtain ⟨h0, a, bmB, B, newId, initId, h1, h2, h3, h4, h5, h6, h7⟩ := En.exc y e hy
        exact ⟨h0, a, bmB, B, newId, initId, h1, h2, h3, h4, raises_own h5 h6, h7⟩
    blt := fun y hy h => En.blt y hy h
    M := hM
    held := fun z => (nomatch z)
    kind := by
      unfold PySem.Env.blockKind
      rw [show X.env.scope.kind = .function from S.kind]
      rfl
    fnall := fun _ => rfl
    pown := passes_of rfl
    stk := rfl
    frm := rfl }
  let C : RC := ⟨K, mg, fa, none, H, H, muOf G⟩
  have c0 : CnS X C G Γ k (defScope st) := cn C rfl rfl rfl rfl
  have S1 := snd_st G Γ k n
  have hc' : ∀ x, (defScope st).names.lookup x = some .cell → (defScope st).names.lookup x = some .cell ∧ X.fn x = true := fun x hx => ⟨hx, c0.fnall x⟩
  have pB2 : PS X b2 (fun D σ H => ∃ C', (C'.K = K ∧ C'.mg = mg ∧ C'.fa = fa ∧ C'.M = muOf G) ∧ LS X C' (evS Γ (.cond (.not (.val (.blt1 .all (.comp (.call kr [.var 3]) (.nm 5) (.rng1 (.cst (.int L))) .yes [4, 5])))) [.ret (.cst (.bl false))] [])) D σ H) :=
    ⟨fun pins s σ H D I ⟨C', ⟨k1, k2, k3, k4⟩, h⟩ => ((S1.1 (cn C' k1 k2 k3 k4) _ _ h2).run pins s σ H D I h)⟩
  refine ⟨_, by
    rw [hbody]
    exact pss_cons (S1.1 c0 _ _ h0) (pss_cons (ps_for c0.pown c0.calm ((snd_all G Γ k n).i c0.toCn tg it _ hi (fun e => nomatch e)) ((tgt_ok c0.toCn (fun _ h => h) hc' n).1 true _ _ ht).2 (pss_cons (S1.1 c0 _ _ h1) (pss_one pB2)) (fold_set hset)) (pss_one (S1.1 c0 _ _ h3))), ?_⟩
  have E0 : HX X C (fun _ _ => False) := .inl fun _ _ z => z
  have hsc : RVs ⟨K, mg, fa, none, H, H, muOf G⟩ H [.ro (ns.map .int)] [.ref a] := ⟨_, [], rfl, ⟨a, ns.map V.int, rfl, hS, RVs.ofInts ns⟩, rfl⟩
  have R0 := Rel.entry (K := K) (mg := mg) (fa := fa) (cell := none) (M := muOf G) (d := 0) (N := lawN) (Nat.le_trans (Nat.le_refl 1) (by decide : 1 ≤ lawN.length)) hsc (.refl H) (fun _ e => nomatch e) (fun _ e => nomatch e)
  -- the cells
  refine ⟨H, _, _, ⟨fun p => ∃ cs : List Int, cs.length ≤ 63 ∧ p = ⟨[.val (.ro (ns.map .int)), .val (.lst (cs.map .int)), .un, .un, .un, .un], 0⟩, fun _ _ => False, fun _ => False, fun _ => False, fun _ _ => False⟩, R0, E0, ?_, ?_, fun _ _ _ _ _ _ _ z => z.elim, fun _ _ _ _ _ _ _ z => z.elim, fun _ _ _ _ _ _ _ _ _ _ z => z.elim⟩
  · unfold evS evE
    simp only [evEs, evE]
    exact Pt.cells ns _ _ _ hl63 fun cs hcs => ⟨cs, hcs, rfl⟩
  rintro F1 ow1 p1 σ1 H1 s1 R1 ⟨cs, hcs, rfl⟩
  have ncs : noCell (.lst (cs.map .int)) = true := noCells_ints cs
  -- the loop
  refine ⟨F1, ow1, _, [], fun items p => items = rngL 0 cs.length ∧ p = ⟨[.val (.ro (ns.map .int)), .val (.lst (cs.map .int)), .un, .un, .un, .un], 0⟩, fun _ _ => False, R1, E0, ?_, fun items p2 F2 ow2 H2 J s2 R2 k2 wk => ?_⟩
  · unfold evIt
    simp only [evE, PSt.get, List.getD_cons_succ, List.getD_cons_zero, peek, blt1P, List.length_map, intK]
    exact ⟨by omega, by simp⟩
  obtain ⟨rfl, rfl⟩ := k2
  obtain ⟨Gh, Y, wk, hg, hy⟩ := wk
  let p0 : PSt := ⟨[.un, .val (.lst (cs.map .int)), .un, .un, .un, .un], 0⟩
  have R2' : Rel C F2 (fun _ => none) p0 [] σ1 H2 := R2.keepVals rfl (Nat.le_refl _) fun i => match i with
    | 0 => .inl rfl
    | 1 => .inr ⟨_, rfl, rfl⟩
    | 2 => .inl rfl
    | 3 => .inl rfl
    | 4 => .inl rfl
    | 5 => .inl rfl
    | i + 6 => .inl rfl
  refine for_it wk (fun i σ H => ∃ F3, Same F2 F3 ∧ Rel C F3 (fun _ => none) p0 [] σ H) ⟨F2, .refl F2, R2'⟩ (fun i σ H _ ⟨F3, s3, R3⟩ => hg _ _ s3 R3.fh) (fun i x σ H3 H4 hi ⟨F3, s3, R3⟩ y => ?_) (fun σ H3 ⟨F3, s3, R3⟩ => ?_)
  · obtain ⟨z, e1, yk⟩ := hy i H3 x H4 hi y
    obtain ⟨F4, s4, R4, hv⟩ := yk F3 _ p0 [] σ s3 R3
    rw [rngL_length] at hi
    have hi' : i < cs.length := by omega
    have ez : z = .int i := by
      unfold rngL at e1
      rw [List.getElem?_map, List.getElem?_range hi] at e1
      simpa using e1.symm
    subst ez
    refine ⟨F4, _, p0, [], .int i, fun p => p = ⟨[.un, .val (.lst (cs.map .int)), .val (.int i), .un, .un, .un], 0⟩, R4, fun t ht => (nomatch ht), hv, rfl, fun p5 σ5 o5 R5 e5 => ?_⟩
    subst e5
    refine ⟨F4, _, _, ⟨fun p => ∃ x y : Int, 0 ≤ x ∧ -(2 ^ 63) ≤ y ∧ y ≤ 2 ^ 63 ∧ p = ⟨[.un, .val (.lst (cs.map .int)), .val (.int i), .own [.int x, .int y, .int 0], .un, .un], 0⟩, fun _ _ => False, fun _ => False, fun _ => False, fun _ _ => False⟩, R5, E0, ?_, ?_, fun _ _ _ _ _ _ _ z => z.elim, fun _ _ _ _ _ _ _ z => z.elim, fun _ _ _ _ _ _ _ _ _ _ z => z.elim⟩
    · unfold evS evE
      simp only [evEs, evE, PSt.get, List.getD_cons_succ, List.getD_cons_zero, esc]
      exact Pt.box cs i _ _ _ hi' hcs fun x y hx hy hy2 => ⟨x, y, hx, hy, hy2, rfl⟩
    rintro F6 ow6 p6 σ6 H6 s6 R6 ⟨x, y, hx, hy, hy2, rfl⟩
    obtain ⟨q, R7, hq⟩ := R6.enter rfl ⟨_, rfl, ncs⟩ hx hy hy2
    refine ⟨⟨K, mg, fa, some q, H6, F6, muOf G⟩, ⟨rfl, rfl, rfl, rfl⟩, F6, _, _, ⟨fun p => ∃ e f d, p = ⟨[.un, .val (.lst (cs.map .int)), .un, .val .cell, e, f], d⟩, fun _ _ => False, fun _ => False, fun _ => False, fun _ _ => False⟩, R7, .inl fun _ _ z => z, ?_, ?_, fun _ _ _ _ _ _ _ z => z.elim, fun _ _ _ _ _ _ _ z => z.elim, fun _ _ _ _ _ _ _ _ _ _ z => z.elim⟩
    · unfold evS evT evT evE evE evIt
      simp only [evE, peek, intK, blt1P]
      obtain ⟨l1, l2, l3⟩ := Pt.few
      refine ⟨by omega, ?_⟩
      refine walk_right (acc := []) Pt.right (rngL 0 L) (2 ^ 60) .un .un (by rw [rngL_length]; simp; omega) (fun _ h => nomatch h) (by rw [rngL_length]; simpa using l3) fun acc p ha hp => ?_
      refine ⟨acc, rfl, ?_⟩
      obtain ⟨e, f, hp⟩ := hp
      have hall : acc.all id = true := List.all_eq_true.mpr fun x hx => ha x hx
      simp only [truP, tru, hall, Bool.not_true, Bool.false_eq_true, if_false, evSs]
      exact ⟨_, _, p.d, by cases p; cases hp; rfl⟩
    rintro F8 ow8 p8 σ8 H8 s8 R8 ⟨e, f, d, rfl⟩
    obtain ⟨s9, R9⟩ := R6.leave rfl hq R8 ncs rfl rfl
    exact ⟨F8, s3.trans (s4.trans (s6.trans s9)), R9⟩
  · refine ⟨F3, _, p0, ⟨fun _ => False, fun r p => r = .val (.bl true), fun _ => False, fun _ => False, fun _ _ => False⟩, R3, E0, ?_, fun _ _ _ _ _ _ _ z => z.elim, fun _ _ _ _ _ _ _ z => z.elim, fun _ _ _ _ _ _ _ z => z.elim, fun r F5 ow5 p5 σ5 v H5 _ _ R5 e5 => ?_⟩
    · unfold evS evE
      rfl
    · subst e5
      obtain ⟨w', e6, hw⟩ := R5.top
      cases e6
      cases (show v = .bl true from hw)
      exact hQ H5
end
end R

set_option Elab.async false
set_option linter.all false
set_option maxRecDepth 100000
/-! R: all facts together. -/
namespace R
open PySem PySem.Spec PyProof.Rows L2 RZ
def AllP {α : Type} (P : α → Prop) : List α → Prop
  | [] => True
  | x :: xs => P x ∧ AllP P xs
theorem AllP.mem {α : Type} {P : α → Prop} : ∀ {l : List α}, AllP P l → ∀ x ∈ l, P x
  | [], _, x, h => nomatch h
  | y :: l, h, x, hx => by
    rcases List.mem_cons.mp hx with rfl | hx
    · exact h.1
    · exact AllP.mem h.2 x hx
theorem lookup_mem {α β : Type} [BEq α] [LawfulBEq α] : ∀ {l : List (α × β)} {x : α} {y : β}, l.lookup x = some y → (x, y) ∈ l
  | [], _, _, h => nomatch h
  | (a, b) :: l, x, y, h => by
    rw [List.lookup_cons] at h
    split at h
    · rename_i q
      cases h
      rw [eq_of_beq q]
      exact List.mem_cons_self
    · exact List.mem_cons_of_mem _ (lookup_mem h)
/-- the module's names: defs, values, own error classes -/
def gAll (ds : List (Str × Nat)) (cs : List (Str × PV)) (es : List (Str × XN)) : List (Str × GK) := ds.map (fun p => (p.1, GK.fn p.2)) ++ (cs.map (fun p => (p.1, GK.cst p.2)) ++ es.map fun p => (p.1, GK.exc p.2))
theorem gAll_mem {ds : List (Str × Nat)} {cs : List (Str × PV)} {es : List (Str × XN)} {x : Str} {k : GK} (h : (gAll ds cs es).lookup x = some k) :
    (∃ n, k = .fn n ∧ (x, n) ∈ ds) ∨ (∃ v, k = .cst v ∧ (x, v) ∈ cs) ∨ ∃ e, k = .exc e ∧ (x, e) ∈ es := by
  have h := lookup_mem h
  unfold gAll at h
  rcases List.mem_append.mp h with h | h
  · obtain ⟨p, hp, e⟩ := List.mem_map.mp h
    cases e
    exact .inl ⟨_, rfl, hp⟩
  · rcases List.mem_append.mp h with h | h
    · obtain ⟨p, hp, e⟩ := List.mem_map.mp h
      cases e
      exact .inr (.inl ⟨_, rfl, hp⟩)
    · obtain ⟨p, hp, e⟩ := List.mem_map.mp h
      cases e
      exact .inr (.inr ⟨_, rfl, hp⟩)
section
variable {P : Program} {w : World} {K : PySem.W.Frag} {mg : Str → Option Value} {base : Heap}
def CstOk (K : PySem.W.Frag) (mg : Str → Option Value) (fa : Nat → Option Addr) (p : Str × PV) : Prop := ∃ u y, mg p.1 = some u ∧ RelV y u ∧ ∀ (C : RC) F, C.K = K → C.fa = fa → RV C F p.2 y
def ExcOk (K : PySem.W.Frag) (mg : Str → Option Value) (p : Str × XN) : Prop := p.1 = excName p.2 ∧ ∃ (a : Addr) (bmB : List Value) (B newId initId : String), mg p.1 = some (.ref a) ∧ ExcBaseFacts B newId initId bmB ∧ PySem.W.excIn K a bmB newId = true ∧ PySem.W.keepIn K (.ref a) = true ∧
    PySem.W.subIn K (.ref a) (.type "BaseException") = some true ∧ PySem.W.typeIn K (.ref a) = some (.type "type") ∧ (Hd p.2 → ExMore K mg a p.2)
theorem facts {T : Nat → Option FD} {k0 : Nat} {ds : List (Str × Nat)} {cs : List (Str × PV)} {es : List (Str × XN)} (fl : List (Nat × Addr))
    (hd : AllP (fun p => ∃ f, mg p.1 = some (.ref f) ∧ fl.lookup p.2 = some f) ds) (ha : AllP (fun p => DefOk P w K mg base (fun n => fl.lookup n) T k0 (gAll ds cs es) p.1 p.2) fl)
    (hc : AllP (CstOk K mg fun n => fl.lookup n) cs) (he : AllP (ExcOk K mg) es) (hb : AllP (fun x => mg x = none) bltNames) : Facts P w K mg base (fun n => fl.lookup n) T k0 (gAll ds cs es) bltNames where
  fn := fun x n h => by
    rcases gAll_mem h with ⟨m, e, hm⟩ | ⟨v, e, _⟩ | ⟨v, e, _⟩
    · cases e
      exact hd.mem _ hm
    · cases e
    · cases e
  all := fun n f h => ha.mem _ (lookup_mem h)
  cst := fun x v h => by
    rcases gAll_mem h with ⟨m, e, hm⟩ | ⟨u, e, hm⟩ | ⟨u, e, _⟩
    · cases e
    · cases e
      exact hc.mem _ hm
    · cases e
  exc := fun x v h => by
    rcases gAll_mem h with ⟨m, e, hm⟩ | ⟨u, e, hm⟩ | ⟨u, e, hm⟩
    · cases e
    · cases e
    · cases e
      exact he.mem _ hm
  blt := fun x hx _ => hb.mem x hx
/-- what the written part says of a def -/
structure DH (K : PySem.W.Frag) (mg : Str → Option Value) (x : Str) (st : Stmt) (f : Addr) : Prop where
  fn : ∃ fd, Fun K x x st f fd
  mgf : mg x = some (.ref f)
theorem dh_mk {h : Heap} (X : K.In h) (G : h.Ns mainGlobals mg) {x : Str} {st : Stmt} {f : Addr} {oc : Value} {od an : Option Addr} {osl : Array (Option Value)} {kV doc pm cdv ct : Value} (a : PySem.W.nsIn K mainGlobals x = some (some (.ref f)))
    (l : K.lookup f = some ⟨oc, od, .func (PySem.W.fnOf x x (defArgs st) (defBody st) (defScope st) .none kV doc pm an cdv ct), osl⟩) (c : PySem.W.codeIn K cdv x = true) (k : PySem.W.keepIn K (.ref f) = true) : DH K mg x st f :=
  ⟨⟨_, fun_mk l c k⟩, PySem.W.mg_of X G a⟩
/-- a def of the table by its body -/
theorem def_body {T : Nat → Option FD} {k0 n fuel : Nat} {g : List (Str × GK)} {fa : Nat → Option Addr} {x : Str} {st : Stmt} {f : Addr} {N ps mu : List Str} {is : List IS} (d : DH K mg x st f)
    (hb : ∀ (kV doc pm : Value) (an : Option Addr) (cdv ct : Value) (us : List Value), us.length = ps.length → bindArgs (PySem.W.fnOf x x (defArgs st) (defBody st) (defScope st) .none kV doc pm an cdv ct) ⟨us, []⟩ = pure (ps.zip us))
    (hT : T n = some (.body N ps.length is)) (S : FnScope N ps (defScope st)) (hc : cSs ⟨g, N, mu, true⟩ fuel (defScope st) (defBody st) = some is) : DefOk P w K mg base fa T k0 g n f := by
  obtain ⟨fd, F⟩ := d.fn
  exact ⟨fd, ps, F.kp, F.binds hb, .inl ⟨x, st, N, mu, true, is, fuel, hT, F, S, hc⟩⟩
theorem def_take {T : Nat → Option FD} {k0 n : Nat} {g : List (Str × GK)} {fa : Nat → Option Addr} {x : Str} {st : Stmt} {f : Addr} (d : DH K mg x st f)
    (hb : ∀ (kV doc pm : Value) (an : Option Addr) (cdv ct : Value) (us : List Value), us.length = (["tin", "below_so"] : List Str).length → bindArgs (PySem.W.fnOf x x (defArgs st) (defBody st) (defScope st) .none kV doc pm an cdv ct) ⟨us, []⟩ = pure ((["tin", "below_so"] : List Str).zip us))
    (hT : T n = some (.spec TakeS)) (S : FnScope ["tin", "below_so", "drawn_so", "once_so", "wide_so", "twice_so"] ["tin", "below_so"] (defScope st))
    (hp : ∀ (X : Cx), X.K = K → X.mg = mg → X.N = (["tin", "below_so", "drawn_so", "once_so", "wide_so", "twice_so"] : List Str) → X.env.scope = defScope st → X.calm = true → (∀ y, X.fn y = true) → PSs X (defBody st) (tTake K)) : DefOk P w K mg base fa T (k0 + 1) g n f := by
  obtain ⟨fd, F⟩ := d.fn
  refine ⟨fd, ["tin", "below_so"], F.kp, F.binds hb, .inr ⟨TakeS, hT, fun args d J E h => ?_, ?_⟩⟩
  · obtain ⟨n, d', rfl, _⟩ := h
    rfl
  · exact take_fn F S hp
theorem cst_int {h : Heap} (X : K.In h) (G : h.Ns mainGlobals mg) {fa : Nat → Option Addr} {x : Str} {i : Int} {t : Tok} (a : PySem.W.nsIn K mainGlobals x = some (some (.int i t))) : CstOk K mg fa (x, .int i) :=
  ⟨.int i t, .int i, PySem.W.mg_of X G a, ⟨t, rfl⟩, fun _ _ _ _ => rfl⟩
theorem RVs.ofStrs {C : RC} {F : Hp} : ∀ (ns : List Str), RVs C F (ns.map PV.str) (ns.map V.str)
  | [] => rfl
  | n :: ns => ⟨_, _, rfl, rfl, RVs.ofStrs ns⟩
/-- a written tuple of texts -/
theorem cst_strs {h : Heap} (X : K.In h) (G : h.Ns mainGlobals mg) {fa : Nat → Option Addr} {x : Str} {a : Addr} {od : Option Addr} {its : Array Value} {n : Nat} {sl : Array (Option Value)} (ss : List Str) (q : PySem.W.nsIn K mainGlobals x = some (some (.ref a)))
    (l : K.lookup a = some ⟨.type "tuple", od, .seq its n, sl⟩) (hs : its.size ≤ sizeLine) (hv : Vals (ss.map V.str) its.toList) : CstOk K mg fa (x, .tup (ss.map PV.str)) :=
  ⟨.ref a, .ref a, PySem.W.mg_of X G q, rfl, fun C F hK _ => ⟨a, ss.map V.str, rfl, .inr ⟨_, its, n, by rw [hK]; exact l, rfl, rfl, hs, hv⟩, RVs.ofStrs ss⟩⟩
theorem exc_ve {h : Heap} (X : K.In h) (G : h.Ns mainGlobals mg) {x : Str} {e : XN} {a : Addr} (hx : x = excName e) (aC : PySem.W.nsIn K mainGlobals x = some (some (.ref a)))
    (q : PySem.W.excIn K a [.type "ValueError", .type "Exception", .type "BaseException", .type "object"] "ValueError.__new__" = true) (k : PySem.W.keepIn K (.ref a) = true) (s : PySem.W.subIn K (.ref a) (.type "BaseException") = some true) (t : PySem.W.typeIn K (.ref a) = some (.type "type")) (m : Hd e → ExMore K mg a e) : ExcOk K mg (x, e) :=
  ⟨hx, a, _, "ValueError", "ValueError.__new__", "ValueError.__init__", PySem.W.mg_of X G aC, PySem.F.excBase_ValueError, q, k, s, t, m⟩
theorem ve_of {a : Addr} (h : PySem.W.subIn K (.ref a) (.type "ValueError") = some true) : PySem.W.kitOne K (.ref a) (.type "ValueError") = some true := by
  unfold PySem.W.kitOne
  split
  · rfl
  · show (if PySem.W.kitMeta "ValueError" = true then PySem.W.subIn K (.ref a) (.type "ValueError") else none) = _
    rw [if_pos (show PySem.W.kitMeta "ValueError" = true by decide +kernel)]
    exact h
/-- how one own error stands to another -/
def SubF (K : PySem.W.Frag) (mg : Str → Option Value) (a : Addr) (e e2 : XN) : Prop := ∀ b, mg (excName e2) = some (.ref b) → PySem.W.exmOne K (.ref a) (.ref b) = some (decide (e = e2))
theorem subF_none {a : Addr} {e e2 : XN} (h : mg (excName e2) = none) : SubF K mg a e e2 := fun b hb => by
  rw [h] at hb
  cases hb
theorem subF_some {h : Heap} (X : K.In h) (G : h.Ns mainGlobals mg) {a b : Addr} {e e2 : XN} (n : PySem.W.nsIn K mainGlobals (excName e2) = some (some (.ref b))) (s : PySem.W.subIn K (.ref b) (.type "BaseException") = some true) (d : PySem.W.hasDictIn K b = true) (t : PySem.W.typeIn K (.ref b) = some (.type "type"))
    (p : PySem.W.subIn K (.ref a) (.ref b) = some (decide (e = e2))) : SubF K mg a e e2 := fun c hc => by
  have := (PySem.W.mg_of X G n).symm.trans hc
  cases this
  exact PySem.W.exm_ref s d t p
theorem more_mk {a : Addr} {e : XN} (is : ExcC K a) (ve : PySem.W.kitOne K (.ref a) (.type "ValueError") = some true) (u : SubF K mg a e .unfit) (c : SubF K mg a e .cannot) (t : SubF K mg a e .toomany) : ExMore K mg a e :=
  ⟨is, ve, fun e2 b h hb => by
    rcases h with rfl | rfl | rfl
    · exact u b hb
    · exact c b hb
    · exact t b hb⟩
/-- the law's def, all told -/
theorem law_all {T : Nat → Option FD} {k0 m : Nat} {g : List (Str × GK)} {fa : Nat → Option Addr} (Fc : Facts P w K mg base fa T k0 g bltNames) {x : Str} {st s0 b1 b2 s2 : Stmt} {tg it : Expr} {pos : Pos} {f : Addr} {fd : FuncData} {kc kb kr D n : Nat} {mo L : Int} (Fn : Fun K x x st f fd) (S : FnScope lawN ["script"] (defScope st))
    (hbody : defBody st = [s0, .For tg it [b1, b2] [] pos, s2])
    (h0 : cS ⟨g, lawN, ["tin"], false⟩ n (defScope st) s0 = some (.asg (.nm 1) (.call kc [.var 0, .cst (.int mo)])))
    (hi : cI ⟨g, lawN, ["tin"], false⟩ n (defScope st) it = some (.rng1 (.blt1 .len (.var 1)))) (ht : cTgt ⟨g, lawN, ["tin"], false⟩ (defScope st) true n tg = some (.nm 2)) (hset : isSet it = false)
    (h1 : cS ⟨g, lawN, ["tin"], false⟩ n (defScope st) b1 = some (.asg (.ow 3) (.call kb [.var 1, .var 2])))
    (h2 : cS ⟨g, lawN, ["tin"], false⟩ n (defScope st) b2 = some (.cond (.not (.val (.blt1 .all (.comp (.call kr [.var 3]) (.nm 5) (.rng1 (.cst (.int L))) .yes [4, 5])))) [.ret (.cst (.bl false))] []))
    (h3 : cS ⟨g, lawN, ["tin"], false⟩ n (defScope st) s2 = some (.ret (.cst (.bl true))))
    (Pt : LawParts (sem T m) kc kb kr mo L D) : FnOk P w K mg base (L2.CX P w) (k0 + m + 1) f fd ["script"] (spLaw K) :=
  law_fn (sem_env Fc m) Fn S hbody h0 hi ht hset h1 h2 h3 Pt
end
end R
namespace R
open PySem PySem.Spec PyProof.Rows L2 RZ
section
variable {P : Program} {w : World} {K : PySem.W.Frag} {mg : Str → Option Value} {base : Heap}
theorem bind1 {x y : Str} {st : Stmt} {f : Addr} {fd : FuncData} (F : Fun K x x st f fd)
    (h : ∀ (kV doc pm : Value) (an : Option Addr) (cdv ct : Value) (us : List Value), us.length = 1 → bindArgs (PySem.W.fnOf x x (defArgs st) (defBody st) (defScope st) .none kV doc pm an cdv ct) ⟨us, []⟩ = pure (([y] : List Str).zip us)) (s : Shared) (u : Value) : BindsTo s fd ⟨[u], []⟩ [(y, u)] := by
  obtain ⟨oc, od, kV, doc, pm, an, cdv, ct, osl, rfl, lk, hcd⟩ := F.ex
  exact .of_eq (h kV doc pm an cdv ct [u] rfl)
/-- a def that nobody of the table calls -/
theorem def_none {T : Nat → Option FD} {k0 n : Nat} {g : List (Str × GK)} {fa : Nat → Option Addr} {x : Str} {st : Stmt} {f : Addr} {ps : List Str} (d : DH K mg x st f)
    (hb : ∀ (kV doc pm : Value) (an : Option Addr) (cdv ct : Value) (us : List Value), us.length = ps.length → bindArgs (PySem.W.fnOf x x (defArgs st) (defBody st) (defScope st) .none kV doc pm an cdv ct) ⟨us, []⟩ = pure (ps.zip us))
    (hT : T n = some (.spec fun _ _ _ _ => False)) : DefOk P w K mg base fa T k0 g n f := by
  obtain ⟨fd, F⟩ := d.fn
  exact ⟨fd, ps, F.kp, F.binds hb, .inr ⟨_, hT, fun _ _ _ _ h => h.elim, never_fn fun _ _ _ _ h => h⟩⟩
theorem cx_never {H : Hp} {s : Shared} {e : Value} {s' : Shared} {outer : List PySem.Env} (h : L2.CX P w outer H s (fun _ _ _ => False) e s') : False := by
  obtain ⟨_, _, _, _, _, _, _, _, _, _, _, _, z⟩ := h
  exact z
end
end R

set_option Elab.async false
set_option linter.all false
set_option maxRecDepth 100000
set_option exponentiation.threshold 3000
/-! R: rules to reckon with. -/
namespace R
open PySem L2
section
variable {K : PV → Prop} {Ks : Slot → Prop} {Kb : Bool → Prop} {Kp : PSt → Prop} {Kv : PV → PSt → Prop} {KS : Slot → PSt → Prop} {Ki : Int → Prop} {Kl : List PV → Prop} {v w : PV} {xs ys : List PV} {i j : Nat} {p : PSt} {r : Slot} {a b c d : Int} {x y : Str} {E : EX} {Γ : Nat → PSpec}
theorem x_pv : peek (.val v) K = K v := rfl
theorem x_po : peek (.own xs) K = K (.lst xs) := rfl
theorem x_pb : peek (.bor i xs) K = K (.lst xs) := rfl
theorem x_ev : esc (.val v) p Kv = Kv v p := rfl
theorem x_eo : esc (.own xs) p Kv = Kv (.lst xs) p := rfl
theorem x_eb : esc (.bor i xs) p Kv = Kv (.lst xs) (p.set i (.val (.lst xs))) := rfl
theorem x_ok : ownK (.own xs) Kl = Kl xs := rfl
theorem x_lk : lstK (.lst xs) Kl = Kl xs := rfl
theorem x_ik : intK (.int a) Ki = Ki a := rfl
theorem x_il : itemsK (.lst xs) Kl = Kl xs := rfl
theorem x_it : itemsK (.tup xs) Kl = Kl xs := rfl
theorem x_ir : itemsK (.ro xs) Kl = Kl xs := rfl
theorem x_nl : enumK (.lst xs) Kl = Kl (enumL xs) := rfl
theorem x_nr : enumK (.ro xs) Kl = Kl (enumL xs) := rfl
theorem x_zl : zipK (.lst xs) (.lst ys) Kl = Kl (zipL xs ys) := rfl
theorem x_zt : zipK (.tup xs) (.tup ys) Kl = Kl (zipL xs ys) := rfl
theorem x_k1 : keepT (.nm i) r p KS = esc r p fun v p1 => KS (.val v) p1 := by cases r <;> rfl
theorem x_k2 : keepT (.ow i) (.own xs) p KS = KS (.own xs) p := rfl
theorem x_k3 : keepT (.ow i) (.val v) p KS = KS (.val v) p := rfl
theorem x_k4 : keepT (.ow i) (.bor j xs) p KS = KS (.val (.lst xs)) (p.set j (.val (.lst xs))) := rfl
theorem x_k5 {ts : List TgI} : keepT (.tup ts) r p KS = esc r p fun v p1 => KS (.val v) p1 := by cases r <;> rfl
theorem x_r1 : takeR (.ow i) (.own xs) p Kp = Kp (p.set i (.own xs)) := rfl
theorem x_r2 : takeR (.nm i) (.val v) p Kp = Kp (p.set i (.val v)) := rfl
theorem x_r3 : takeR (.ow i) (.val v) p Kp = Kp (p.set i (.val v)) := rfl
theorem x_r4 {ts : List TgI} : takeR (.tup ts) (.val v) p Kp = bindT (.tup ts) v p Kp := rfl
theorem x_t1 : takeT (.ow i) (.own xs) p Kp = Kp (p.set i (.own xs)) := rfl
theorem x_t2 : takeT (.nm i) r p Kp = esc r p fun v p1 => Kp (p1.set i (.val v)) := by cases r <;> rfl
theorem x_t3 : takeT (.ow i) (.val v) p Kp = Kp (p.set i (.val v)) := rfl
theorem x_t4 : takeT (.ow i) (.bor j xs) p Kp = Kp ((p.set j (.val (.lst xs))).set i (.val (.lst xs))) := rfl
theorem x_t5 {ts : List TgI} : takeT (.tup ts) r p Kp = esc r p fun v p1 => bindT (.tup ts) v p1 Kp := by cases r <;> rfl
theorem x_b1 : bindT (.nm i) v p Kp = Kp (p.set i (.val v)) := rfl
theorem x_b2 : bindT (.ow i) v p Kp = Kp (p.set i (.val v)) := rfl
theorem x_b3 {ts : List TgI} : bindT (.tup ts) (.tup xs) p Kp = bindT.bindTs ts xs p Kp := rfl
theorem x_b4 {ts : List TgI} : bindT (.tup ts) (.lst xs) p Kp = bindT.bindTs ts xs p Kp := rfl
theorem x_b5 : bindT.bindTs [] [] p Kp = Kp p := rfl
theorem x_b6 {t : TgI} {ts : List TgI} : bindT.bindTs (t :: ts) (v :: xs) p Kp = bindT t v p fun p1 => bindT.bindTs ts xs p1 Kp := rfl
theorem x_l1 : takeTs [] [] p Kp = Kp p := rfl
theorem x_l2 {t : TgI} {ts : List TgI} {rs : List Slot} : takeTs (t :: ts) (r :: rs) p Kp = takeR t r p fun p1 => takeTs ts rs p1 Kp := rfl
theorem x_l3 {Kr : List Slot → PSt → Prop} : evRs Γ [] [] p Kr E = Kr [] p := rfl
theorem x_l4 {t : TgI} {ts : List TgI} {e : IE} {es : List IE} {Kr : List Slot → PSt → Prop} : evRs Γ (t :: ts) (e :: es) p Kr E = evE Γ e p (fun r p1 => keepT t r p1 fun s p2 => evRs Γ ts es p2 (fun rs p3 => Kr (s :: rs) p3) E) E := rfl
theorem x_g1 : augP .add (.int a) (.int b) K = K (.int (a + b)) := rfl
theorem x_g2 : augP .sub (.int a) (.int b) K = K (.int (a - b)) := rfl
theorem x_a1 : binP .add (.int a) (.int b) Ks = Ks (.val (.int (a + b))) := rfl
theorem x_a2 : binP .add (.lst xs) (.lst ys) Ks = (xs.length + ys.length ≤ 16777216 ∧ Ks (.own (xs ++ ys))) := rfl
theorem x_a3 : binP .add (.tup xs) (.tup ys) Ks = (xs.length + ys.length ≤ 16777216 ∧ Ks (.val (.tup (xs ++ ys)))) := rfl
theorem x_a4 : binP .sub (.int a) (.int b) Ks = Ks (.val (.int (a - b))) := rfl
theorem x_a5 : binP .mul (.int a) (.int b) Ks = (MulOk a b ∧ Ks (.val (.int (a * b)))) := rfl
theorem x_a6 : binP .mul (.lst xs) (.int b) Ks = (xs.length * b.toNat ≤ 16777216 ∧ b.natAbs < 2 ^ 62 ∧ Ks (.own (List.replicate b.toNat xs).flatten)) := rfl
theorem x_a7 : binP .fdiv (.int a) (.int b) Ks = (b ≠ 0 ∧ DivOk a b ∧ Ks (.val (.int (a.fdiv b)))) := rfl
theorem x_a8 : binP .mod (.int a) (.int b) Ks = (b ≠ 0 ∧ Ks (.val (.int (a.fmod b)))) := rfl
theorem x_a9 : binP .pow (.int a) (.int b) Ks = (0 ≤ b ∧ b ≤ 1000000 ∧ a.natAbs < 2 ^ 64 ∧ Ks (.val (.int (a ^ b.toNat)))) := rfl
theorem x_c1 : cmpP .eq (.int a) (.int b) Kb = Kb (decide (a = b)) := rfl
theorem x_c2 : cmpP .ne (.int a) (.int b) Kb = Kb (!decide (a = b)) := rfl
theorem x_c3 : cmpP .lt (.int a) (.int b) Kb = Kb (decide (a < b)) := rfl
theorem x_c4 : cmpP .le (.int a) (.int b) Kb = Kb (decide (a ≤ b)) := rfl
theorem x_c5 : cmpP .gt (.int a) (.int b) Kb = Kb (decide (b < a)) := rfl
theorem x_c6 : cmpP .ge (.int a) (.int b) Kb = Kb (decide (b ≤ a)) := rfl
theorem x_c7 : cmpP .isN v .non Kb = Kb (decide (v = .non)) := by cases v <;> rfl
theorem x_c8 : cmpP .notN v .non Kb = Kb (!decide (v = .non)) := by cases v <;> rfl
theorem x_c9 : cmpP .eq (.lst xs) w Kb = (dataOk (.lst xs) ∧ dataOk w ∧ Kb (pyEq (.lst xs) w)) := rfl
theorem x_d1 : cmpP .ne (.lst xs) w Kb = (dataOk (.lst xs) ∧ dataOk w ∧ Kb (!pyEq (.lst xs) w)) := rfl
theorem x_d2 : cmpP .eq (.tup xs) w Kb = (dataOk (.tup xs) ∧ dataOk w ∧ Kb (pyEq (.tup xs) w)) := rfl
theorem x_d3 : cmpP .ne (.tup xs) w Kb = (dataOk (.tup xs) ∧ dataOk w ∧ Kb (!pyEq (.tup xs) w)) := rfl
theorem x_d4 : cmpP .eq (.str x) w Kb = (dataOk (.str x) ∧ dataOk w ∧ Kb (pyEq (.str x) w)) := rfl
theorem x_d5 : cmpP .ne (.str x) w Kb = (dataOk (.str x) ∧ dataOk w ∧ Kb (!pyEq (.str x) w)) := rfl
theorem x_d6 {k : Bool} : cmpP .eq (.bl k) w Kb = (dataOk (.bl k) ∧ dataOk w ∧ Kb (pyEq (.bl k) w)) := rfl
theorem x_d7 {k : Bool} : cmpP .ne (.bl k) w Kb = (dataOk (.bl k) ∧ dataOk w ∧ Kb (!pyEq (.bl k) w)) := rfl
theorem x_d8 : cmpP .inn v (.tup ys) Kb = (dataOk v ∧ dataOk (.tup ys) ∧ Kb (ys.any fun y => pyEq y v)) := by cases v <;> rfl
theorem x_d9 : cmpP .inn v (.lst ys) Kb = (dataOk v ∧ dataOk (.lst ys) ∧ Kb (ys.any fun y => pyEq y v)) := by cases v <;> rfl
theorem x_e1 : cmpP .notin v (.tup ys) Kb = (dataOk v ∧ dataOk (.tup ys) ∧ Kb (!ys.any fun y => pyEq y v)) := by cases v <;> rfl
theorem x_e2 : cmpP .notin v (.lst ys) Kb = (dataOk v ∧ dataOk (.lst ys) ∧ Kb (!ys.any fun y => pyEq y v)) := by cases v <;> rfl
theorem at_nat {α : Type} {l : List α} {j : Nat} {v : α} (h : l[j]? = some v) : atI l (j : Int) = some v := by
  have hj : j < l.length := (List.getElem?_eq_some_iff.mp h).1
  unfold atI
  rw [show ixN l.length (j : Int) = some j by unfold ixN; rw [if_pos (by omega), if_pos (by omega)]; simp]
  exact h
theorem at_neg {α : Type} {l : List α} {j : Nat} {v : α} (h : l[l.length - (j + 1)]? = some v) (hj : j < l.length) : atI l (-((j : Int) + 1)) = some v := by
  unfold atI
  rw [show ixN l.length (-((j : Int) + 1)) = some (l.length - (j + 1)) by unfold ixN; rw [if_neg (by omega), if_pos (by omega)]; congr 1; omega]
  exact h
theorem s_tup {l : List PV} (h : atI l a = some v) : subP (.tup l) (.int a) K = K v := propext ⟨fun ⟨u, e, q⟩ => by rw [h] at e; cases e; exact q, fun q => ⟨v, h, q⟩⟩
theorem s_lst {l : List PV} (h : atI l a = some v) : subP (.lst l) (.int a) K = K v := propext ⟨fun ⟨u, e, q⟩ => by rw [h] at e; cases e; exact q, fun q => ⟨v, h, q⟩⟩
theorem x_s0 {l : List PV} : subP (.tup (v :: l)) (.int 0) K = K v := s_tup (at_nat (j := 0) rfl)
theorem x_s1 {l : List PV} : subP (.tup (v :: w :: l)) (.int 1) K = K w := s_tup (at_nat (j := 1) rfl)
theorem x_s2 {l : List PV} {u : PV} : subP (.tup (v :: w :: u :: l)) (.int 2) K = K u := s_tup (at_nat (j := 2) rfl)
theorem x_s3 {l : List PV} {u t : PV} : subP (.tup (v :: w :: u :: t :: l)) (.int 3) K = K t := s_tup (at_nat (j := 3) rfl)
theorem x_s4 {l : List PV} : subP (.lst (v :: l)) (.int 0) K = K v := s_lst (at_nat (j := 0) rfl)
theorem x_s5 {l : List PV} : subP (.lst (v :: w :: l)) (.int 1) K = K w := s_lst (at_nat (j := 1) rfl)
theorem x_s6 {l : List PV} {u : PV} : subP (.lst (v :: w :: u :: l)) (.int 2) K = K u := s_lst (at_nat (j := 2) rfl)
theorem x_s7 {l : List PV} {u t : PV} : subP (.lst (v :: w :: u :: t :: l)) (.int 3) K = K t := s_lst (at_nat (j := 3) rfl)
theorem x_s8 : subP (.lst xs) (.int a) K = ∃ v, atI xs a = some v ∧ K v := rfl
theorem x_s9 : subP (.tup xs) (.int a) K = ∃ v, atI xs a = some v ∧ K v := rfl
theorem x_s10 : subP (.ro xs) (.int a) K = ∃ v, atI xs a = some v ∧ K v := rfl
theorem x_n1 : negP (.int a) Ks = Ks (.val (.int (-a))) := rfl
theorem x_n2 : revP (.lst xs) Ks = Ks (.own xs.reverse) := rfl
theorem x_n3 {lo hi : Option Int} : slcP (.lst xs) lo hi Ks = Ks (.own (cutP xs lo hi)) := rfl
theorem x_n4 {lo hi : Option Int} : slcP (.ro xs) lo hi Ks = Ks (.own (cutP xs lo hi)) := rfl
theorem x_n5 {lo hi : Option Int} : slcP (.tup xs) lo hi Ks = Ks (.val (.tup (cutP xs lo hi))) := rfl
theorem x_f1 : blt1P .len (.lst xs) Ks = Ks (.val (.int xs.length)) := rfl
theorem x_f2 : blt1P .len (.tup xs) Ks = Ks (.val (.int xs.length)) := rfl
theorem x_f3 : blt1P .len (.ro xs) Ks = Ks (.val (.int xs.length)) := rfl
theorem x_f4 : blt1P .abs (.int a) Ks = Ks (.val (.int (if a < 0 then -a else a))) := rfl
theorem x_f5 : blt1P .int (.int a) Ks = Ks (.val (.int a)) := rfl
theorem x_f6 {k : Bool} : blt1P .int (.bl k) Ks = Ks (.val (.int (if k then 1 else 0))) := rfl
theorem x_f7 : blt1P .list (.lst xs) Ks = Ks (.own xs) := rfl
theorem x_f8 : blt1P .list (.tup xs) Ks = Ks (.own xs) := rfl
theorem x_f9 : blt1P .list (.ro xs) Ks = Ks (.own xs) := rfl
theorem x_h1 : blt1P .tuple (.lst xs) Ks = Ks (.val (.tup xs)) := rfl
theorem x_h2 : blt1P .tuple (.tup xs) Ks = Ks (.val (.tup xs)) := rfl
theorem x_h3 : blt2P .max (.int a) (.int b) Ks = Ks (.val (.int (if b > a then b else a))) := rfl
theorem x_h4 : blt2P .min (.int a) (.int b) Ks = Ks (.val (.int (if b < a then b else a))) := rfl
theorem x_u1 {k : Bool} : truP (.bl k) Kb = Kb k := rfl
theorem x_u2 : truP (.int a) Kb = Kb (a != 0) := rfl
theorem x_u3 : truP .non Kb = Kb false := rfl
theorem x_u4 : truP (.lst xs) Kb = Kb (!xs.isEmpty) := rfl
theorem x_u5 : truP (.tup xs) Kb = Kb (!xs.isEmpty) := rfl
theorem x_w1 {d : Nat} {sl : List Slot} : (PSt.mk sl d).get i = sl.getD i .un := rfl
theorem x_w2 {d : Nat} {sl : List Slot} {s : Slot} : (PSt.mk sl d).set i s = ⟨sl.set i s, d⟩ := rfl
theorem x_i1 (ts : List String) : isiK (.int a) ts Kb = (match isiP (.int 0) ts with | some k => Kb k | none => False) := by unfold isiK; rfl
theorem x_i2 (ts : List String) {k : Bool} : isiK (.bl k) ts Kb = (match isiP (.bl false) ts with | some k => Kb k | none => False) := by unfold isiK; rfl
theorem x_i3 (ts : List String) : isiK (.str x) ts Kb = (match isiP (.str ⟨#[]⟩) ts with | some k => Kb k | none => False) := by unfold isiK; rfl
theorem x_i4 (ts : List String) : isiK (.tup xs) ts Kb = (match isiP (.tup []) ts with | some k => Kb k | none => False) := by unfold isiK; rfl
theorem x_i5 (ts : List String) : isiK (.lst xs) ts Kb = (match isiP (.lst []) ts with | some k => Kb k | none => False) := by unfold isiK; rfl
theorem x_i6 (ts : List String) : isiK .non ts Kb = (match isiP .non ts with | some k => Kb k | none => False) := by unfold isiK; rfl
theorem j_i1 : isiP (.int 0) ["int"] = some true := by decide +kernel
theorem j_i2 : isiP (.int 0) ["bool"] = some false := by decide +kernel
theorem j_i3 : isiP (.int 0) ["tuple"] = some false := by decide +kernel
theorem j_i4 : isiP (.int 0) ["list"] = some false := by decide +kernel
theorem j_i5 : isiP (.int 0) ["str"] = some false := by decide +kernel
theorem j_i6 : isiP (.int 0) ["list", "tuple"] = some false := by decide +kernel
theorem j_i7 : isiP (.int 0) ["bool", "str"] = some false := by decide +kernel
theorem j_b1 : isiP (.bl false) ["int"] = some true := by decide +kernel
theorem j_b2 : isiP (.bl false) ["bool"] = some true := by decide +kernel
theorem j_b3 : isiP (.bl false) ["tuple"] = some false := by decide +kernel
theorem j_b4 : isiP (.bl false) ["list"] = some false := by decide +kernel
theorem j_b5 : isiP (.bl false) ["str"] = some false := by decide +kernel
theorem j_b6 : isiP (.bl false) ["list", "tuple"] = some false := by decide +kernel
theorem j_b7 : isiP (.bl false) ["bool", "str"] = some true := by decide +kernel
theorem j_s1 : isiP (.str ⟨#[]⟩) ["int"] = some false := by decide +kernel
theorem j_s2 : isiP (.str ⟨#[]⟩) ["bool"] = some false := by decide +kernel
theorem j_s3 : isiP (.str ⟨#[]⟩) ["tuple"] = some false := by decide +kernel
theorem j_s4 : isiP (.str ⟨#[]⟩) ["list"] = some false := by decide +kernel
theorem j_s5 : isiP (.str ⟨#[]⟩) ["str"] = some true := by decide +kernel
theorem j_s6 : isiP (.str ⟨#[]⟩) ["list", "tuple"] = some false := by decide +kernel
theorem j_s7 : isiP (.str ⟨#[]⟩) ["bool", "str"] = some true := by decide +kernel
theorem j_t1 : isiP (.tup []) ["int"] = some false := by decide +kernel
theorem j_t2 : isiP (.tup []) ["bool"] = some false := by decide +kernel
theorem j_t3 : isiP (.tup []) ["tuple"] = some true := by decide +kernel
theorem j_t4 : isiP (.tup []) ["list"] = some false := by decide +kernel
theorem j_t5 : isiP (.tup []) ["str"] = some false := by decide +kernel
theorem j_t6 : isiP (.tup []) ["list", "tuple"] = some true := by decide +kernel
theorem j_t7 : isiP (.tup []) ["bool", "str"] = some false := by decide +kernel
theorem j_l1 : isiP (.lst []) ["int"] = some false := by decide +kernel
theorem j_l2 : isiP (.lst []) ["bool"] = some false := by decide +kernel
theorem j_l3 : isiP (.lst []) ["tuple"] = some false := by decide +kernel
theorem j_l4 : isiP (.lst []) ["list"] = some true := by decide +kernel
theorem j_l5 : isiP (.lst []) ["str"] = some false := by decide +kernel
theorem j_l6 : isiP (.lst []) ["list", "tuple"] = some true := by decide +kernel
theorem j_l7 : isiP (.lst []) ["bool", "str"] = some false := by decide +kernel
theorem j_n6 : isiP .non ["list", "tuple"] = some false := by decide +kernel
theorem j_n7 : isiP .non ["bool", "str"] = some false := by decide +kernel
theorem j_n1 : isiP .non ["int"] = some false := by decide +kernel
theorem j_n2 : isiP .non ["bool"] = some false := by decide +kernel
theorem j_n3 : isiP .non ["str"] = some false := by decide +kernel
theorem j_n4 : isiP .non ["tuple"] = some false := by decide +kernel
theorem j_n5 : isiP .non ["list"] = some false := by decide +kernel
end

theorem k_i1 {a : Int} {Kb : Bool → Prop} (h : Kb true) : isiK (.int a) ["int"] Kb := by rw [x_i1, j_i1]; exact h
theorem k_i2 {a : Int} {Kb : Bool → Prop} (h : Kb false) : isiK (.int a) ["bool"] Kb := by rw [x_i1, j_i2]; exact h
theorem k_i3 {a : Int} {Kb : Bool → Prop} (h : Kb false) : isiK (.int a) ["tuple"] Kb := by rw [x_i1, j_i3]; exact h
theorem k_i4 {a : Int} {Kb : Bool → Prop} (h : Kb false) : isiK (.int a) ["list"] Kb := by rw [x_i1, j_i4]; exact h
theorem k_i5 {a : Int} {Kb : Bool → Prop} (h : Kb false) : isiK (.int a) ["str"] Kb := by rw [x_i1, j_i5]; exact h
theorem k_i6 {a : Int} {Kb : Bool → Prop} (h : Kb false) : isiK (.int a) ["list", "tuple"] Kb := by rw [x_i1, j_i6]; exact h
theorem k_i7 {a : Int} {Kb : Bool → Prop} (h : Kb false) : isiK (.int a) ["bool", "str"] Kb := by rw [x_i1, j_i7]; exact h
theorem k_b1 {k : Bool} {Kb : Bool → Prop} (h : Kb true) : isiK (.bl k) ["int"] Kb := by rw [x_i2, j_b1]; exact h
theorem k_b2 {k : Bool} {Kb : Bool → Prop} (h : Kb true) : isiK (.bl k) ["bool"] Kb := by rw [x_i2, j_b2]; exact h
theorem k_b3 {k : Bool} {Kb : Bool → Prop} (h : Kb false) : isiK (.bl k) ["tuple"] Kb := by rw [x_i2, j_b3]; exact h
theorem k_b4 {k : Bool} {Kb : Bool → Prop} (h : Kb false) : isiK (.bl k) ["list"] Kb := by rw [x_i2, j_b4]; exact h
theorem k_b5 {k : Bool} {Kb : Bool → Prop} (h : Kb false) : isiK (.bl k) ["str"] Kb := by rw [x_i2, j_b5]; exact h
theorem k_b6 {k : Bool} {Kb : Bool → Prop} (h : Kb false) : isiK (.bl k) ["list", "tuple"] Kb := by rw [x_i2, j_b6]; exact h
theorem k_b7 {k : Bool} {Kb : Bool → Prop} (h : Kb true) : isiK (.bl k) ["bool", "str"] Kb := by rw [x_i2, j_b7]; exact h
theorem k_s1 {x : Str} {Kb : Bool → Prop} (h : Kb false) : isiK (.str x) ["int"] Kb := by rw [x_i3, j_s1]; exact h
theorem k_s2 {x : Str} {Kb : Bool → Prop} (h : Kb false) : isiK (.str x) ["bool"] Kb := by rw [x_i3, j_s2]; exact h
theorem k_s3 {x : Str} {Kb : Bool → Prop} (h : Kb false) : isiK (.str x) ["tuple"] Kb := by rw [x_i3, j_s3]; exact h
theorem k_s4 {x : Str} {Kb : Bool → Prop} (h : Kb false) : isiK (.str x) ["list"] Kb := by rw [x_i3, j_s4]; exact h
theorem k_s5 {x : Str} {Kb : Bool → Prop} (h : Kb true) : isiK (.str x) ["str"] Kb := by rw [x_i3, j_s5]; exact h
theorem k_s6 {x : Str} {Kb : Bool → Prop} (h : Kb false) : isiK (.str x) ["list", "tuple"] Kb := by rw [x_i3, j_s6]; exact h
theorem k_s7 {x : Str} {Kb : Bool → Prop} (h : Kb true) : isiK (.str x) ["bool", "str"] Kb := by rw [x_i3, j_s7]; exact h
theorem k_t1 {xs : List PV} {Kb : Bool → Prop} (h : Kb false) : isiK (.tup xs) ["int"] Kb := by rw [x_i4, j_t1]; exact h
theorem k_t2 {xs : List PV} {Kb : Bool → Prop} (h : Kb false) : isiK (.tup xs) ["bool"] Kb := by rw [x_i4, j_t2]; exact h
theorem k_t3 {xs : List PV} {Kb : Bool → Prop} (h : Kb true) : isiK (.tup xs) ["tuple"] Kb := by rw [x_i4, j_t3]; exact h
theorem k_t4 {xs : List PV} {Kb : Bool → Prop} (h : Kb false) : isiK (.tup xs) ["list"] Kb := by rw [x_i4, j_t4]; exact h
theorem k_t5 {xs : List PV} {Kb : Bool → Prop} (h : Kb false) : isiK (.tup xs) ["str"] Kb := by rw [x_i4, j_t5]; exact h
theorem k_t6 {xs : List PV} {Kb : Bool → Prop} (h : Kb true) : isiK (.tup xs) ["list", "tuple"] Kb := by rw [x_i4, j_t6]; exact h
theorem k_t7 {xs : List PV} {Kb : Bool → Prop} (h : Kb false) : isiK (.tup xs) ["bool", "str"] Kb := by rw [x_i4, j_t7]; exact h
theorem k_l1 {xs : List PV} {Kb : Bool → Prop} (h : Kb false) : isiK (.lst xs) ["int"] Kb := by rw [x_i5, j_l1]; exact h
theorem k_l2 {xs : List PV} {Kb : Bool → Prop} (h : Kb false) : isiK (.lst xs) ["bool"] Kb := by rw [x_i5, j_l2]; exact h
theorem k_l3 {xs : List PV} {Kb : Bool → Prop} (h : Kb false) : isiK (.lst xs) ["tuple"] Kb := by rw [x_i5, j_l3]; exact h
theorem k_l4 {xs : List PV} {Kb : Bool → Prop} (h : Kb true) : isiK (.lst xs) ["list"] Kb := by rw [x_i5, j_l4]; exact h
theorem k_l5 {xs : List PV} {Kb : Bool → Prop} (h : Kb false) : isiK (.lst xs) ["str"] Kb := by rw [x_i5, j_l5]; exact h
theorem k_l6 {xs : List PV} {Kb : Bool → Prop} (h : Kb true) : isiK (.lst xs) ["list", "tuple"] Kb := by rw [x_i5, j_l6]; exact h
theorem k_l7 {xs : List PV} {Kb : Bool → Prop} (h : Kb false) : isiK (.lst xs) ["bool", "str"] Kb := by rw [x_i5, j_l7]; exact h
theorem k_n6 {Kb : Bool → Prop} (h : Kb false) : isiK .non ["list", "tuple"] Kb := by rw [x_i6, j_n6]; exact h
theorem k_n7 {Kb : Bool → Prop} (h : Kb false) : isiK .non ["bool", "str"] Kb := by rw [x_i6, j_n7]; exact h
theorem k_n1 {Kb : Bool → Prop} (h : Kb false) : isiK .non ["int"] Kb := by rw [x_i6, j_n1]; exact h
theorem k_n2 {Kb : Bool → Prop} (h : Kb false) : isiK .non ["bool"] Kb := by rw [x_i6, j_n2]; exact h
theorem k_n3 {Kb : Bool → Prop} (h : Kb false) : isiK .non ["str"] Kb := by rw [x_i6, j_n3]; exact h
theorem k_n4 {Kb : Bool → Prop} (h : Kb false) : isiK .non ["tuple"] Kb := by rw [x_i6, j_n4]; exact h
theorem k_n5 {Kb : Bool → Prop} (h : Kb false) : isiK .non ["list"] Kb := by rw [x_i6, j_n5]; exact h
/-! ### sizes -/
def Sm (k : Nat) (i : Int) : Prop := i.natAbs < 2 ^ k
section
variable {a b c : Nat} {i j : Int}
theorem Sm.mono (h : Sm a i) (l : a ≤ b) : Sm b i := Nat.lt_of_lt_of_le h (Nat.pow_le_pow_right (by decide) l)
theorem Sm.mul (h : Sm a i) (k : Sm b j) (l : a + b ≤ c := by decide) : Sm c (i * j) := by
  refine Sm.mono (a := a + b) ?_ l
  unfold Sm at *
  rw [Int.natAbs_mul, Nat.pow_add]
  exact Nat.mul_lt_mul'' h k
theorem Sm.add (h : Sm a i) (k : Sm b j) (l : max a b + 1 ≤ c := by decide) : Sm c (i + j) := by
  refine Sm.mono (a := max a b + 1) ?_ l
  have h1 := h.mono (Nat.le_max_left a b)
  have h2 := k.mono (Nat.le_max_right a b)
  unfold Sm at *
  have h3 := Int.natAbs_add_le i j
  rw [Nat.pow_succ]
  omega
theorem Sm.neg (h : Sm a i) : Sm a (-i) := by
  unfold Sm at *
  rw [Int.natAbs_neg]
  exact h
theorem Sm.sub (h : Sm a i) (k : Sm b j) (l : max a b + 1 ≤ c := by decide) : Sm c (i - j) := by
  rw [Int.sub_eq_add_neg]
  exact h.add k.neg l
theorem Sm.of (h1 : -(2 ^ a) < i) (h2 : i < 2 ^ a) : Sm a i := by
  unfold Sm
  have : ((2 ^ a : Nat) : Int) = (2 : Int) ^ a := by simp
  omega
theorem Sm.le (h : Sm a i) (h0 : 0 ≤ j) (h2 : j ≤ i) : Sm a j := by
  unfold Sm at *
  omega
theorem Sm.ok (h : Sm a i) (k : Sm b j) (l : a ≤ 1000000 := by decide) (m : b ≤ 1000000 := by decide) : MulOk i j := by
  have bits : ∀ {i : Int} {a : Nat}, Sm a i → a ≤ 1000000 → Builtin.Int.intBits i ≤ 2 ^ 20 := fun {i a} h l => by
    unfold Builtin.Int.intBits
    have e : (2 : Nat) ^ 20 = 1048576 := by decide
    split
    · omega
    · rename_i q
      have hne : i.natAbs ≠ 0 := fun z => q (by first | exact Int.natAbs_eq_zero.mp z | simp [Int.natAbs_eq_zero.mp z])
      have : i.natAbs.log2 < 1000000 := (Nat.log2_lt hne).mpr (Nat.lt_of_lt_of_le h (Nat.pow_le_pow_right (by decide) l))
      omega
  exact IntMulOk.of_bits (bits h l) (bits k m)
end

/-! ### comprehensions whose parts are plain -/
theorem walk_pure {old : List Slot} {own : List Nat} {bind : PV → PSt → (PSt → Prop) → Prop} {cond : PSt → (Bool → PSt → Prop) → Prop} {elt : PSt → (PV → PSt → Prop) → Prop} {K : List PV → PSt → Prop} (c : PV → Bool) (f : PV → PV) (W : List Slot) (B : PV → List Slot) : ∀ (items : List PV),
    (∀ x ∈ items, (∀ d K, K ⟨B x, d⟩ → bind x ⟨W, d⟩ K) ∧ wipeP (B x) own = W ∧ backP old (B x) own = old ∧ (∀ d J, J (c x) ⟨B x, d⟩ → cond ⟨B x, d⟩ J) ∧ (c x = true → ∀ d J, J (f x) ⟨B x, d⟩ → elt ⟨B x, d⟩ J)) →
    ∀ (acc : List PV) (d : Nat) (sl : List Slot), wipeP sl own = W → backP old sl own = old → acc.length + items.length ≤ 16777216 → K (acc ++ (items.filter c).map f) ⟨old, d⟩ → walkC old own bind cond elt items acc d sl K
  | [], _, acc, d, sl, h1, h2, hl, k => by
    unfold walkC
    rw [h2]
    simpa using k
  | x :: items, hc, acc, d, sl, h1, h2, hl, k => by
    unfold walkC
    rw [h1]
    rw [List.length_cons] at hl
    obtain ⟨g1, g2, g3, g4, g5⟩ := hc x List.mem_cons_self
    refine g1 d _ (g4 d _ ?_)
    cases q : c x with
    | true =>
      rw [cnd_t]
      refine g5 q d _ ⟨by omega, ?_⟩
      refine walk_pure c f W B items (fun y hy => hc y (List.mem_cons_of_mem _ hy)) _ _ _ g2 g3 (by simp; omega) ?_
      rw [List.filter_cons, q] at k
      simpa using k
    | false =>
      rw [cnd_f]
      refine walk_pure c f W B items (fun y hy => hc y (List.mem_cons_of_mem _ hy)) _ _ _ g2 g3 (by omega) ?_
      rw [List.filter_cons, q] at k
      simpa using k
section
variable {Γ : Nat → PSpec} {D : PEnds} {p : PSt} {t : TgI} {e f : IE} {i j : Nat}
theorem y_asg : evS Γ (.asg t e) D p = evE Γ e p (fun r p1 => takeT t r p1 D.nx) D.ex := by rw [evS]
theorem y_par {ts : List TgI} {es : List IE} : evS Γ (.par ts es) D p = evRs Γ ts es p (fun rs p1 => takeTs ts rs p1 D.nx) D.ex := by rw [evS]
theorem y_aug {o : BO} : evS Γ (.aug i o e) D p = evE Γ (.var i) p (fun r p1 => evE Γ e p1 (fun r2 p2 => peek r fun x => peek r2 fun y => augP o x y fun z => D.nx (p2.set i (.val z))) D.ex) D.ex := by rw [evS]
theorem y_app : evS Γ (.app i e) D p = ownK (p.get i) fun _ => evE Γ e p (fun r p1 => esc r p1 fun v p2 => ownK (p2.get i) fun xs => xs.length < 16777216 ∧ D.nx (p2.set i (.own (xs ++ [v])))) D.ex := by rw [evS]
theorem y_pop : evS Γ (.appPop i j e) D p = ownK (p.get i) fun _ => ownK (p.get j) fun _ => evE Γ e p (fun r p1 => peek r fun x => intK x fun k => ownK (p1.get i) fun xs => ownK (p1.get j) fun ys =>
      i ≠ j ∧ xs.length < 16777216 ∧ 0 ≤ k ∧ k < 2 ^ 62 ∧ ∃ v, ys[k.toNat]? = some v ∧ D.nx ((p1.set j (.own (ys.eraseIdx k.toNat))).set i (.own (xs ++ [v])))) D.ex := by rw [evS]
theorem y_ext : evS Γ (.ext i e) D p = ownK (p.get i) fun _ => evE Γ e p (fun r p1 => peek r fun x => ownK (p1.get i) fun xs => lstK x fun ys => xs.length + ys.length ≤ 16777216 ∧ D.nx (p1.set i (.own (xs ++ ys)))) D.ex := by rw [evS]
theorem y_sti : evS Γ (.sti i f e) D p = evE Γ e p (fun r p1 => esc r p1 fun v p2 => ownK (p2.get i) fun _ => evE Γ f p2 (fun r2 p3 => peek r2 fun y => intK y fun k => ownK (p3.get i) fun xs => ∃ j, ixN xs.length k = some j ∧ D.nx (p3.set i (.own (xs.set j v)))) D.ex) D.ex := by rw [evS]
theorem y_cond {c : IT} {a b : List IS} : evS Γ (.cond c a b) D p = evT Γ c p (fun k p1 => cnd k (evSs Γ a D p1) (evSs Γ b D p1)) D.ex := by rw [evS]
theorem y_forr {c : II} {b : List IS} : evS Γ (.forr t c b) D p = evIt Γ c p (fun items p1 => forP (bindT t) (fun D' p' => evSs Γ b D' p') D items p1) D.ex := by rw [evS]
theorem y_ret : evS Γ (.ret e) D p = evE Γ e p (fun r p1 => esc r p1 fun v p2 => D.rt (.val v) p2) D.ex := by rw [evS]
theorem y_retO : evS Γ (.retO e) D p = evE Γ e p (fun r p1 => ownK r fun xs => D.rt (.own xs) p1) D.ex := by rw [evS]
theorem y_retN : evS Γ .retN D p = D.rt (.val .non) p := by rw [evS]
theorem y_rai {x : XN} : evS Γ (.raise x) D p = D.ex x p.d := by rw [evS]
theorem y_brk : evS Γ .brk D p = D.bk p := by rw [evS]
theorem y_cnt : evS Γ .cnt D p = D.ct p := by rw [evS]
theorem y_pas : evS Γ .pass D p = D.nx p := by rw [evS]
/-- while, by a measure -/
theorem whil_ind {c : IT} {b : List IS} {Ex : EX} (I : PSt → Prop) (μ : PSt → Nat) (step : ∀ q, I q → ∀ W : PSt → Prop, (∀ q', I q' → μ q' < μ q → W q') → evT Γ c q (fun k q1 => cnd k (evSs Γ b ⟨W, D.rt, D.nx, W, D.ex⟩ q1) (D.nx q1)) Ex) (hp : I p) : ∃ n, whilP (fun q J => evT Γ c q J Ex) (fun D' p' => evSs Γ b D' p') D n p := by
  have all : ∀ n q, I q → μ q < n → whilP (fun q J => evT Γ c q J Ex) (fun D' p' => evSs Γ b D' p') D n q := fun n => by
    induction n with
    | zero => exact fun q _ h => absurd h (Nat.not_lt_zero _)
    | succ n ih =>
      intro q hq hl
      exact step q hq _ fun q' h1 h2 => ih q' h1 (by omega)
  exact ⟨μ p + 1, all _ p hp (Nat.lt_succ_self _)⟩
/-- for, by the turn -/
theorem forP_ind {b : List IS} (items : List PV) (I : Nat → PSt → Prop) (step : ∀ i x, items[i]? = some x → ∀ q, I i q → ∀ W : PSt → Prop, (∀ q', I (i + 1) q' → W q') → bindT t x q fun p1 => evSs Γ b ⟨W, D.rt, D.nx, W, D.ex⟩ p1) (done : ∀ q, I items.length q → D.nx q) (h : I 0 p) :
    forP (bindT t) (fun D' p' => evSs Γ b D' p') D items p := by
  have all : ∀ n q, n ≤ items.length → I n q → forP (bindT t) (fun D' p' => evSs Γ b D' p') D (items.drop n) q := fun n => by
    generalize hk : items.length - n = k
    induction k generalizing n with
    | zero =>
      intro q hn hq
      have e : n = items.length := by omega
      subst e
      rw [List.drop_length]
      exact done q hq
    | succ k ih =>
      intro q hn hq
      have hlt : n < items.length := by omega
      rw [List.drop_eq_getElem_cons hlt]
      exact step n _ (List.getElem?_eq_getElem hlt) q hq _ fun q' h => ih (n + 1) (by omega) q' (by omega) h
  exact all 0 p (Nat.zero_le _) h
end
/-! ### comprehensions over one name -/
section
theorem zwip_len : ∀ (own : List Nat) (sl : List Slot), (wipeP sl own).length = sl.length
  | [], _ => rfl
  | i :: is, sl => by
    show ((wipeP sl is).set i .un).length = _
    rw [List.length_set, zwip_len is sl]
theorem zwip_get (sl : List Slot) (j : Nat) : ∀ own : List Nat, (wipeP sl own)[j]? = if j ∈ own ∧ j < sl.length then some .un else sl[j]?
  | [] => by rw [if_neg (fun h => nomatch h.1)]; rfl
  | i :: is => by
    show ((wipeP sl is).set i .un)[j]? = _
    rw [List.getElem?_set, zwip_get sl j is, zwip_len]
    by_cases h : i = j
    · subst h
      rw [if_pos rfl]
      by_cases hl : i < sl.length
      · rw [if_pos hl, if_pos ⟨List.mem_cons_self, hl⟩]
      · rw [if_neg hl, if_neg (fun z => hl z.2), List.getElem?_eq_none (by omega)]
    · rw [if_neg h]
      by_cases h2 : j ∈ is ∧ j < sl.length
      · rw [if_pos h2, if_pos ⟨List.mem_cons_of_mem _ h2.1, h2.2⟩]
      · rw [if_neg h2, if_neg]
        rintro ⟨h3, h4⟩
        rcases List.mem_cons.mp h3 with h3 | h3
        · exact h h3.symm
        · exact h2 ⟨h3, h4⟩
theorem zbak_len (old : List Slot) : ∀ (own : List Nat) (now : List Slot), (backP old now own).length = now.length
  | [], _ => rfl
  | i :: is, now => by
    show ((backP old now is).set i _).length = _
    rw [List.length_set, zbak_len old is now]
theorem zbak_get (old now : List Slot) (j : Nat) : ∀ own : List Nat, (backP old now own)[j]? = if j ∈ own ∧ j < now.length then some (old.getD j .un) else now[j]?
  | [] => by rw [if_neg (fun h => nomatch h.1)]; rfl
  | i :: is => by
    show ((backP old now is).set i (old.getD i .un))[j]? = _
    rw [List.getElem?_set, zbak_get old now j is, zbak_len]
    by_cases h : i = j
    · subst h
      rw [if_pos rfl]
      by_cases hl : i < now.length
      · rw [if_pos hl, if_pos ⟨List.mem_cons_self, hl⟩]
      · rw [if_neg hl, if_neg (fun z => hl z.2), List.getElem?_eq_none (by omega)]
    · rw [if_neg h]
      by_cases h2 : j ∈ is ∧ j < now.length
      · rw [if_pos h2, if_pos ⟨List.mem_cons_of_mem _ h2.1, h2.2⟩]
      · rw [if_neg h2, if_neg]
        rintro ⟨h3, h4⟩
        rcases List.mem_cons.mp h3 with h3 | h3
        · exact h h3.symm
        · exact h2 ⟨h3, h4⟩
/-- slots that differ from others only in a comprehension's own names -/
def Near (old now : List Slot) (own : List Nat) : Prop := now.length = old.length ∧ ∀ j, j ∉ own → now[j]? = old[j]?
theorem Near.wipe {old now : List Slot} {own : List Nat} (h : Near old now own) : wipeP now own = wipeP old own := by
  refine List.ext_getElem? fun j => ?_
  rw [zwip_get, zwip_get, h.1]
  by_cases hj : j ∈ own
  · by_cases hl : j < old.length
    · rw [if_pos ⟨hj, hl⟩, if_pos ⟨hj, hl⟩]
    · rw [if_neg fun z => hl z.2, if_neg fun z => hl z.2, List.getElem?_eq_none (by rw [h.1]; omega), List.getElem?_eq_none (by omega)]
  · rw [if_neg fun z => hj z.1, if_neg fun z => hj z.1, h.2 j hj]
theorem Near.back {old now : List Slot} {own : List Nat} (h : Near old now own) : backP old now own = old := by
  refine List.ext_getElem? fun j => ?_
  rw [zbak_get, h.1]
  by_cases hj : j ∈ own
  · by_cases hl : j < old.length
    · rw [if_pos ⟨hj, hl⟩, List.getD_eq_getElem?_getD, List.getElem?_eq_getElem hl]
      rfl
    · rw [if_neg fun z => hl z.2, List.getElem?_eq_none (by rw [h.1]; omega), List.getElem?_eq_none (by omega)]
  · rw [if_neg fun z => hj z.1, h.2 j hj]
theorem Near.refl (old : List Slot) (own : List Nat) : Near old old own := ⟨rfl, fun _ _ => rfl⟩
theorem Near.wiped {old now : List Slot} {own : List Nat} (h : Near old now own) : Near old (wipeP now own) own := ⟨by rw [zwip_len]; exact h.1, fun j hj => by
  rw [zwip_get, if_neg fun z => hj z.1]
  exact h.2 j hj⟩
theorem Near.set {old now : List Slot} {own : List Nat} {i : Nat} {s : Slot} (h : Near old now own) (hi : i ∈ own) : Near old (now.set i s) own := ⟨by rw [List.length_set]; exact h.1, fun j hj => by
  rw [List.getElem?_set_ne (fun z => by subst z; exact hj hi)]
  exact h.2 j hj⟩
variable {Γ : Nat → PSpec} {old : List Slot} {own : List Nat} {e : IE} {t : IT} {K : List PV → PSt → Prop} {d : Nat} {i j : Nat} {items : List PV}
/-- [e for i in items] -/
theorem comp_nm (f : PV → PV) (hi : i ∈ own) (hl : items.length ≤ 16777216) (h : ∀ x ∈ items, ∀ d J, J (f x) ⟨(wipeP old own).set i (.val x), d⟩ → evE Γ e ⟨(wipeP old own).set i (.val x), d⟩ (fun r q1 => esc r q1 J) (fun _ _ => False)) (k : K (items.map f) ⟨old, d⟩) :
    walkC old own (bindT (.nm i)) (fun q J => evT Γ .yes q J (fun _ _ => False)) (fun q J => evE Γ e q (fun r q1 => esc r q1 J) (fun _ _ => False)) items [] d old K := by
  refine walk_pure (fun _ => true) f (wipeP old own) (fun x => (wipeP old own).set i (.val x)) items (fun x hx => ⟨fun d K h => h, ?_, ?_, fun d J hJ => ?_, fun _ => h x hx⟩) [] d old rfl (Near.refl old own).back (by simpa using hl) ?_
  · have := ((Near.refl old own).wiped.set (s := .val x) hi).wipe
    exact this
  · exact ((Near.refl old own).wiped.set hi).back
  · unfold evT
    exact hJ
  · rw [List.filter_eq_self.mpr fun _ _ => rfl]
    exact k
/-- [e for i in items if t] -/
theorem comp_if (c : PV → Bool) (f : PV → PV) (hi : i ∈ own) (hl : items.length ≤ 16777216) (ht : ∀ x ∈ items, ∀ d J, J (c x) ⟨(wipeP old own).set i (.val x), d⟩ → evT Γ t ⟨(wipeP old own).set i (.val x), d⟩ J (fun _ _ => False))
    (h : ∀ x ∈ items, c x = true → ∀ d J, J (f x) ⟨(wipeP old own).set i (.val x), d⟩ → evE Γ e ⟨(wipeP old own).set i (.val x), d⟩ (fun r q1 => esc r q1 J) (fun _ _ => False)) (k : K ((items.filter c).map f) ⟨old, d⟩) :
    walkC old own (bindT (.nm i)) (fun q J => evT Γ t q J (fun _ _ => False)) (fun q J => evE Γ e q (fun r q1 => esc r q1 J) (fun _ _ => False)) items [] d old K := by
  refine walk_pure c f (wipeP old own) (fun x => (wipeP old own).set i (.val x)) items (fun x hx => ⟨fun d K h => h, ?_, ?_, fun d J hJ => ht x hx d J hJ, fun hc => h x hx hc⟩) [] d old rfl (Near.refl old own).back (by simpa using hl) ?_
  · exact ((Near.refl old own).wiped.set hi).wipe
  · exact ((Near.refl old own).wiped.set hi).back
  · exact k
/-- [e for (i, j) in items], the items pairs -/
theorem comp_nm2 (g h2 : PV → PV) (f : PV → PV) (hi : i ∈ own) (hj : j ∈ own) (hl : items.length ≤ 16777216) (hp : ∀ x ∈ items, x = .tup [g x, h2 x])
    (h : ∀ x ∈ items, ∀ d J, J (f x) ⟨((wipeP old own).set i (.val (g x))).set j (.val (h2 x)), d⟩ → evE Γ e ⟨((wipeP old own).set i (.val (g x))).set j (.val (h2 x)), d⟩ (fun r q1 => esc r q1 J) (fun _ _ => False)) (k : K (items.map f) ⟨old, d⟩) :
    walkC old own (bindT (.tup [.nm i, .nm j])) (fun q J => evT Γ .yes q J (fun _ _ => False)) (fun q J => evE Γ e q (fun r q1 => esc r q1 J) (fun _ _ => False)) items [] d old K := by
  refine walk_pure (fun _ => true) f (wipeP old own) (fun x => ((wipeP old own).set i (.val (g x))).set j (.val (h2 x))) items (fun x hx => ⟨fun d K h => ?_, ?_, ?_, fun d J hJ => ?_, fun _ => h x hx⟩) [] d old rfl (Near.refl old own).back (by simpa using hl) ?_
  · have q := hp x hx
    show bindT (.tup [.nm i, .nm j]) x _ K
    generalize g x = gx at *
    generalize h2 x = hx2 at *
    subst q
    exact h
  · exact (((Near.refl old own).wiped.set hi).set hj).wipe
  · exact (((Near.refl old own).wiped.set hi).set hj).back
  · unfold evT
    exact hJ
  · rw [List.filter_eq_self.mpr fun _ _ => rfl]
    exact k
/-- a comprehension that draws: by the turn -/
theorem comp_ind (I : Nat → List PV → Nat → Prop) (hi : i ∈ own) (hl : items.length ≤ 16777216) (h : ∀ n x, items[n]? = some x → ∀ acc d, acc.length ≤ n → I n acc d → ∀ J : PV → PSt → Prop, (∀ v d', I (n + 1) (acc ++ [v]) d' → J v ⟨(wipeP old own).set i (.val x), d'⟩) → evE Γ e ⟨(wipeP old own).set i (.val x), d⟩ (fun r q1 => esc r q1 J) (fun _ _ => False))
    (h0 : I 0 [] d) (k : ∀ acc d', I items.length acc d' → K acc ⟨old, d'⟩) :
    walkC old own (bindT (.nm i)) (fun q J => evT Γ .yes q J (fun _ _ => False)) (fun q J => evE Γ e q (fun r q1 => esc r q1 J) (fun _ _ => False)) items [] d old K := by
  have all : ∀ n acc d sl, n ≤ items.length → acc.length ≤ n → Near old sl own → I n acc d → walkC old own (bindT (.nm i)) (fun q J => evT Γ .yes q J (fun _ _ => False)) (fun q J => evE Γ e q (fun r q1 => esc r q1 J) (fun _ _ => False)) (items.drop n) acc d sl K := fun n => by
    generalize hk : items.length - n = r
    induction r generalizing n with
    | zero =>
      intro acc d sl hn ha hs hI
      have e : n = items.length := by omega
      subst e
      rw [List.drop_length]
      unfold walkC
      rw [hs.back]
      exact k acc d hI
    | succ r ih =>
      intro acc d sl hn ha hs hI
      have hlt : n < items.length := by omega
      rw [List.drop_eq_getElem_cons hlt]
      unfold walkC
      rw [hs.wipe]
      unfold bindT evT
      refine h n _ (List.getElem?_eq_getElem hlt) acc d ha hI _ fun v d' hI' => ⟨by omega, ?_⟩
      exact ih (n + 1) (by omega) _ d' _ (by omega) (by simp; omega) ((Near.refl old own).wiped.set hi) hI'
  have := all 0 [] d old (Nat.zero_le _) (Nat.le_refl _) (Near.refl old own) h0
  exact this
end
end R

namespace LW
open PySem PySem.Spec PyProof.Rows L2 R
def top (i : Nat) : Stmt := PySem.Challenge.pw_termsdivide_k25_main_neighbours_by_one_e.main.body.getD i (.Pass ⟨0, 0, 0, 0⟩)
def ds : List (Str × Nat) := [(("is_number" : Str), 0), (("is_within" : Str), 1), (("is_long" : Str), 2), (("are_numbers" : Str), 3), (("tupled" : Str), 4), (("sure_within" : Str), 5), (("is_rule_in" : Str), 6), (("sure_rule" : Str), 7), (("is_unit_in" : Str), 136), (("form_in" : Str), 137), (("next_pair" : Str), 138), (("pair_ahead" : Str), 139), (("place_of_pair" : Str), 140), (("led_on" : Str), 141), (("sure_unit" : Str), 142), (("sure_sized" : Str), 143), (("is_unit" : Str), 144), (("form_of" : Str), 145), (("neighbours_place" : Str), 146), (("neighbours_to" : Str), 147), (("step_on" : Str), 148), (("step_back" : Str), 149), (("_law_box" : Str), 150), (("_law_take" : Str), 25), (("_law_cells" : Str), 26), (("_law_of" : Str), 27), (("_law_same" : Str), 28), (("_law_terms" : Str), 30), (("_law_calls" : Str), 31), (("_law_heard" : Str), 32), (("_law_power" : Str), 44), (("_law_form" : Str), 151), (("_law_unit" : Str), 152), (("_law_right" : Str), 153), (("law" : Str), 38)]
def cs : List (Str × PV) := [(("MOST_RULE" : Str), PV.int (1000)), (("MOST_PAIR" : Str), PV.int (10000000000000000000000000000000000000000000000000000000000000000000000000000000000000000000000000000))]
def es : List (Str × XN) := [(("CanNot" : Str), XN.cannot), (("TooMany" : Str), XN.toomany), (("Unfit" : Str), XN.unfit)]
abbrev g : List (Str × GK) := gAll ds cs es
abbrev s_is_number : Stmt := top 5
abbrev s_is_within : Stmt := top 6
abbrev s_is_long : Stmt := top 7
abbrev s_are_numbers : Stmt := top 8
abbrev s_tupled : Stmt := top 9
abbrev s_sure_within : Stmt := top 10
abbrev s_is_rule_in : Stmt := top 13
abbrev s_sure_rule : Stmt := top 14
abbrev s_is_unit_in : Stmt := top 17
abbrev s_form_in : Stmt := top 18
abbrev s_next_pair : Stmt := top 19
abbrev s_pair_ahead : Stmt := top 20
abbrev s_place_of_pair : Stmt := top 21
abbrev s_led_on : Stmt := top 22
abbrev s_sure_unit : Stmt := top 23
abbrev s_sure_sized : Stmt := top 24
abbrev s_is_unit : Stmt := top 25
abbrev s_form_of : Stmt := top 26
abbrev s_neighbours_place : Stmt := top 27
abbrev s_neighbours_to : Stmt := top 28
abbrev s_step_on : Stmt := top 29
abbrev s_step_back : Stmt := top 30
abbrev s__law_box : Stmt := top 32
abbrev s__law_take : Stmt := top 33
abbrev s__law_cells : Stmt := top 34
abbrev s__law_of : Stmt := top 35
abbrev s__law_same : Stmt := top 36
abbrev s__law_terms : Stmt := top 37
abbrev s__law_calls : Stmt := top 38
abbrev s__law_heard : Stmt := top 39
abbrev s__law_power : Stmt := top 40
abbrev s__law_form : Stmt := top 41
abbrev s__law_unit : Stmt := top 42
abbrev s__law_right : Stmt := top 43
abbrev s_law : Stmt := top 44
def N_is_number : List Str := ["thing"]
def i_is_number : List IS := [(.ret (.and (.isi (.var 0) ["int"]) (.not (.isi (.var 0) ["bool"]))))]
def N_is_within : List Str := ["thing", "least", "most"]
def i_is_within : List IS := [(.ret (.and (.call 0 [(.var 0)]) (.chain .le .le (.var 1) (.var 0) (.var 2))))]
def N_is_long : List Str := ["thing", "length"]
def i_is_long : List IS := [(.ret (.and (.isi (.var 0) ["tuple"]) (.cmp .eq (.blt1 .len (.var 0)) (.var 1))))]
def N_are_numbers : List Str := ["thing", ".0", "own"]
def i_are_numbers : List IS := [(.ret (.and (.isi (.var 0) ["tuple"]) (.blt1 .all (.comp (.call 0 [(.var 2)]) (.nm 2) (.seq (.var 0)) .yes [1, 2]))))]
def N_tupled : List Str := ["value", ".0", "own"]
def i_tupled : List IS := [(.ret (.ifx (.val (.isi (.var 0) ["list", "tuple"])) (.blt1 .tuple (.comp (.call 4 [(.var 2)]) (.nm 2) (.seq (.var 0)) .yes [1, 2])) (.var 0)))]
def N_sure_within : List Str := ["thing", "least", "most"]
def i_sure_within : List IS := [(.cond (.not (.val (.call 1 [(.var 0), (.var 1), (.var 2)]))) [(.raise .unfit)] []), (.ret (.var 0))]
def N_is_rule_in : List Str := ["thing", ".0", "own"]
def i_is_rule_in : List IS := [(.ret (.and (.call 2 [(.var 0), (.cst (.int 2))]) (.and (.call 3 [(.var 0)]) (.and (.blt1 .all (.comp (.cmp .le (.blt1 .abs (.var 2)) (.cst (.int 1000))) (.nm 2) (.seq (.var 0)) .yes [1, 2])) (.cmp .ne (.sub (.var 0) (.cst (.int 1))) (.cst (.int 0)))))))]
def N_sure_rule : List Str := ["value", "own"]
def i_sure_rule : List IS := [(.asg (.nm 1) (.call 4 [(.var 0)])), (.cond (.not (.val (.call 6 [(.var 1)]))) [(.raise .unfit)] []), (.ret (.var 1))]
def N_is_unit_in : List Str := ["rule"]
def i_is_unit_in : List IS := [(.ret (.or (.and (.cmp .eq (.sub (.var 0) (.cst (.int 1))) (.neg (.cst (.int 1)))) (.cmp .ge (.sub (.var 0) (.cst (.int 0))) (.cst (.int 1)))) (.and (.cmp .eq (.sub (.var 0) (.cst (.int 1))) (.cst (.int 1))) (.cmp .ge (.sub (.var 0) (.cst (.int 0))) (.cst (.int 3))))))]
def N_form_in : List Str := ["rule", "one", "other"]
def i_form_in : List IS := [(.ret (.bin .add (.bin .sub (.bin .mul (.var 1) (.var 1)) (.bin .mul (.bin .mul (.sub (.var 0) (.cst (.int 0))) (.var 1)) (.var 2))) (.bin .mul (.bin .mul (.sub (.var 0) (.cst (.int 1))) (.var 2)) (.var 2))))]
def N_next_pair : List Str := ["rule", "one", "other"]
def i_next_pair : List IS := [(.ret (.tup [(.bin .sub (.bin .mul (.sub (.var 0) (.cst (.int 0))) (.var 1)) (.bin .mul (.sub (.var 0) (.cst (.int 1))) (.var 2))), (.var 1)]))]
def N_pair_ahead : List Str := ["rule", "one", "other"]
def i_pair_ahead : List IS := [(.ret (.tup [(.var 2), (.bin .mul (.sub (.var 0) (.cst (.int 1))) (.bin .sub (.bin .mul (.sub (.var 0) (.cst (.int 0))) (.var 2)) (.var 1)))]))]
def N_place_of_pair : List Str := ["rule", "one", "other", "near", "far", "place"]
def i_place_of_pair : List IS := [(.cond (.or (.val (.cmp .lt (.var 1) (.var 2))) (.or (.val (.cmp .lt (.var 2) (.cst (.int 0)))) (.or (.val (.cmp .ne (.blt1 .abs (.call 137 [(.var 0), (.var 1), (.var 2)])) (.cst (.int 1)))) (.val (.chain .eq .eq (.call 137 [(.var 0), (.var 1), (.var 2)]) (.neg (.cst (.int 1))) (.neg (.sub (.var 0) (.cst (.int 1))))))))) [(.ret (.cst .non))] []), (.par [(.nm 3), (.nm 4), (.nm 5)] [(.cst (.int 1)), (.cst (.int 0)), (.cst (.int 0))]), (.whil (.val (.cmp .lt (.var 3) (.var 1))) [(.asg (.tup [(.nm 3), (.nm 4)]) (.call 138 [(.var 0), (.var 3), (.var 4)])), (.aug 5 .add (.cst (.int 1)))]), (.cond (.val (.cmp .ne (.tup [(.var 3), (.var 4)]) (.tup [(.var 1), (.var 2)]))) [(.asg (.tup [(.nm 3), (.nm 4)]) (.call 138 [(.var 0), (.var 3), (.var 4)])), (.aug 5 .add (.cst (.int 1)))] []), (.ret (.var 5))]
def N_led_on : List Str := ["rule", "pair", "most", "found", "here"]
def i_led_on : List IS := [(.par [(.ow 3), (.nm 4)] [(.lst []), (.var 1)]), (.whil (.val (.cmp .le (.blt1 .max (.var 4)) (.var 2))) [(.app 3 (.var 4)), (.asg (.nm 4) (.call 138 [(.var 0), (.sub (.var 4) (.cst (.int 0))), (.sub (.var 4) (.cst (.int 1)))]))]), (.ret (.var 3))]
def N_sure_unit : List Str := ["rule"]
def i_sure_unit : List IS := [(.cond (.not (.val (.call 136 [(.var 0)]))) [(.raise .cannot)] []), (.ret (.var 0))]
def N_sure_sized : List Str := ["number"]
def i_sure_sized : List IS := [(.cond (.or (.not (.val (.call 0 [(.var 0)]))) (.val (.cmp .gt (.blt1 .abs (.var 0)) (.cst (.int 10000000000000000000000000000000000000000000000000000000000000000000000000000000000000000000000000000))))) [(.raise .unfit)] []), (.ret (.var 0))]
def N_is_unit : List Str := ["rule"]
def i_is_unit : List IS := [(.ret (.call 136 [(.call 7 [(.var 0)])]))]
def N_form_of : List Str := ["rule", "one", "other", "own", "near"]
def i_form_of : List IS := [(.asg (.nm 3) (.call 7 [(.var 0)])), (.asg (.nm 4) (.call 143 [(.var 1)])), (.ret (.call 137 [(.var 3), (.var 4), (.call 143 [(.var 2)])]))]
def N_neighbours_place : List Str := ["rule", "one", "other", "own", "near", "far"]
def i_neighbours_place : List IS := [(.asg (.nm 3) (.call 7 [(.var 0)])), (.asg (.nm 4) (.call 143 [(.var 1)])), (.asg (.nm 5) (.call 143 [(.var 2)])), (.ret (.call 140 [(.call 142 [(.var 3)]), (.var 4), (.var 5)]))]
def N_neighbours_to : List Str := ["rule", "most", "own", "top"]
def i_neighbours_to : List IS := [(.asg (.nm 2) (.call 7 [(.var 0)])), (.asg (.nm 3) (.call 5 [(.var 1), (.cst (.int 0)), (.cst (.int 10000000000000000000000000000000000000000000000000000000000000000000000000000000000000000000000000000))])), (.ret (.call 141 [(.call 142 [(.var 2)]), (.tup [(.cst (.int 1)), (.cst (.int 0))]), (.var 3)]))]
def N_step_on : List Str := ["rule", "one", "other", "own", "near"]
def i_step_on : List IS := [(.asg (.nm 3) (.call 7 [(.var 0)])), (.asg (.nm 4) (.call 143 [(.var 1)])), (.ret (.call 138 [(.var 3), (.var 4), (.call 143 [(.var 2)])]))]
def N_step_back : List Str := ["rule", "one", "other", "own", "near", "far"]
def i_step_back : List IS := [(.asg (.nm 3) (.call 7 [(.var 0)])), (.asg (.nm 4) (.call 143 [(.var 1)])), (.asg (.nm 5) (.call 143 [(.var 2)])), (.cond (.val (.cmp .ne (.blt1 .abs (.sub (.var 3) (.cst (.int 1)))) (.cst (.int 1)))) [(.raise .cannot)] []), (.ret (.call 139 [(.var 3), (.var 4), (.var 5)]))]
def N__law_box : List Str := ["script", "k", "bit_so"]
def i__law_box : List IS := [(.asg (.nm 2) (.ifx (.val (.cmp .lt (.var 1) (.blt1 .len (.var 0)))) (.sub (.var 0) (.var 1)) (.cst (.int 0)))), (.retO (.lst [(.bin .mul (.blt1 .abs (.var 2)) (.blt1 .int (.cmp .ge (.blt1 .abs (.var 2)) (.bin .pow (.cst (.int 10)) (.cst (.int 18)))))), (.bin .add (.bin .add (.bin .mod (.blt1 .int (.var 2)) (.cst (.int 2305843009213693951))) (.bin .mul (.cst (.int 39373)) (.var 1))) (.cst (.int 26292025))), (.cst (.int 0))]))]
def N__law_cells : List Str := ["script", "most_so", "cells_so", "k", "bit_so", "at_so"]
def i__law_cells : List IS := [(.asg (.ow 2) (.or (.blt1 .list (.slc (.var 0) none (some (.var 1)))) (.lst [(.cst (.int 0))]))), (.forr (.tup [(.nm 3), (.nm 4)]) (.enum (.slc (.var 0) (some (.var 1)) (some (.cst (.int 63))))) [(.asg (.nm 5) (.bin .mod (.blt1 .int (.var 3)) (.var 1))), (.sti 2 (.var 5) (.bin .add (.sub (.var 2) (.var 5)) (.bin .mul (.var 4) (.bin .add (.var 3) (.cst (.int 2))))))]), (.ret (.var 2))]
def N__law_of : List Str := ["tin", "goods_so"]
def i__law_of : List IS := [(.ret (.sub (.var 1) (.call 25 [(.var 0), (.blt1 .len (.var 1))])))]
def N__law_same : List Str := ["got", "due", ".0", "mine", "its"]
def i__law_same : List IS := [(.cond (.val (.isi (.var 1) ["list", "tuple"])) [(.cond (.or (.val (.cmp .ne (.isi (.var 0) ["list"]) (.isi (.var 1) ["list"]))) (.val (.cmp .ne (.isi (.var 0) ["tuple"]) (.isi (.var 1) ["tuple"])))) [(.ret (.cst (.bl false)))] []), (.ret (.and (.cmp .eq (.blt1 .len (.var 0)) (.blt1 .len (.var 1))) (.blt1 .all (.comp (.call 28 [(.var 3), (.var 4)]) (.tup [(.nm 3), (.nm 4)]) (.zip (.var 0) (.var 1)) .yes [2, 3, 4]))))] []), (.cond (.val (.cmp .isN (.var 1) (.cst .non))) [(.ret (.cmp .isN (.var 0) (.cst .non)))] []), (.cond (.val (.isi (.var 1) ["bool", "str"])) [(.ret (.and (.cmp .eq (.isi (.var 0) ["bool"]) (.isi (.var 1) ["bool"])) (.and (.cmp .eq (.isi (.var 0) ["str"]) (.isi (.var 1) ["str"])) (.cmp .eq (.var 0) (.var 1)))))] []), (.ret (.and (.isi (.var 0) ["int"]) (.and (.not (.isi (.var 0) ["bool"])) (.cmp .eq (.var 0) (.var 1)))))]
def N__law_terms : List Str := ["rule_so", "kind_so", "many_so", "found", "lap"]
def i__law_terms : List IS := [(.asg (.ow 3) (.ifx (.val (.cmp .eq (.var 1) (.cst (.str "u")))) (.lst [(.cst (.int 0)), (.cst (.int 1))]) (.lst [(.cst (.int 2)), (.sub (.var 0) (.cst (.int 0)))]))), (.forr (.nm 4) (.rng1 (.var 2)) [(.app 3 (.bin .sub (.bin .mul (.sub (.var 0) (.cst (.int 0))) (.sub (.var 3) (.neg (.cst (.int 1))))) (.bin .mul (.sub (.var 0) (.cst (.int 1))) (.sub (.var 3) (.neg (.cst (.int 2)))))))]), (.ret (.slc (.var 3) none (some (.var 2))))]
def N__law_calls : List Str := ["door", "goods_so"]
def i__law_calls : List IS := [(.cond (.val (.cmp .eq (.blt1 .len (.var 1)) (.cst (.int 1)))) [(.ret (.callv 0 [(.sub (.var 1) (.cst (.int 0)))]))] []), (.cond (.val (.cmp .eq (.blt1 .len (.var 1)) (.cst (.int 2)))) [(.ret (.callv 0 [(.sub (.var 1) (.cst (.int 0))), (.sub (.var 1) (.cst (.int 1)))]))] []), (.cond (.val (.cmp .eq (.blt1 .len (.var 1)) (.cst (.int 3)))) [(.ret (.callv 0 [(.sub (.var 1) (.cst (.int 0))), (.sub (.var 1) (.cst (.int 1))), (.sub (.var 1) (.cst (.int 2)))]))] []), (.ret (.callv 0 [(.sub (.var 1) (.cst (.int 0))), (.sub (.var 1) (.cst (.int 1))), (.sub (.var 1) (.cst (.int 2))), (.sub (.var 1) (.cst (.int 3)))]))]
def N__law_heard : List Str := ["door", "goods_so", "caught", "told_so", "error"]
def i__law_heard : List IS := [(.par [(.nm 2), (.nm 3)] [(.cst .non), (.cst .non)]), (.heard 3 (.call 31 [(.var 0), (.var 1)]) 2 [(.unfit, "unfit"), (.cannot, "cannot"), (.toomany, "many")]), (.ret (.ifx (.val (.cmp .isN (.var 2) (.cst .non))) (.lst [(.cst (.str "told")), (.var 3)]) (.var 2)))]
def N__law_power : List Str := ["base_so", "often_so", "found", "lap"]
def i__law_power : List IS := [(.asg (.nm 2) (.cst (.int 1))), (.forr (.nm 3) (.rng1 (.var 1)) [(.asg (.nm 2) (.bin .mul (.var 2) (.var 0)))]), (.ret (.var 2))]
def N__law_form : List Str := ["rule_so", "a", "b"]
def i__law_form : List IS := [(.ret (.bin .add (.bin .sub (.bin .mul (.var 1) (.var 1)) (.bin .mul (.bin .mul (.sub (.var 0) (.cst (.int 0))) (.var 1)) (.var 2))) (.bin .mul (.bin .mul (.sub (.var 0) (.cst (.int 1))) (.var 2)) (.var 2))))]
def N__law_unit : List Str := ["tin", "most_so"]
def i__law_unit : List IS := [(.ret (.ifx (.val (.cmp .gt (.call 25 [(.var 0), (.cst (.int 3))]) (.cst (.int 0)))) (.tup [(.bin .add (.cst (.int 1)) (.call 25 [(.var 0), (.var 1)])), (.neg (.cst (.int 1)))]) (.tup [(.bin .add (.cst (.int 3)) (.call 25 [(.var 0), (.var 1)])), (.cst (.int 1))])))]
def N__law_right : List Str := ["tin", "rule_so", "row_so", "goods_so", "top_so", "found", "a", "b", "k", "own_so", "fits_so", "lap", "x", "y", "due", "there_so", "most_so", "bares_so", "told_so", ".0", "own"]
def i__law_right : List IS := [(.asg (.nm 1) (.call 152 [(.var 0), (.call 27 [(.var 0), (.lst [(.cst (.int 3)), (.cst (.int 9)), (.cst (.int 990))])])])), (.asg (.nm 2) (.call 30 [(.var 1), (.cst (.str "u")), (.cst (.int 520))])), (.asg (.nm 3) (.ifx (.val (.cmp .eq (.sub (.var 1) (.cst (.int 1))) (.neg (.cst (.int 1))))) (.tup [(.cst (.int 1)), (.neg (.cst (.int 1)))]) (.tup [(.cst (.int 1))]))), (.par [(.nm 4), (.ow 5)] [(.bin .add (.cst (.int 8)) (.call 25 [(.var 0), (.cst (.int 30))])), (.lst [])]), (.forr (.nm 6) (.rng1 (.var 4)) [(.forr (.nm 7) (.rng1 (.bin .add (.var 6) (.cst (.int 1)))) [(.cond (.val (.cmp .inn (.call 151 [(.var 1), (.var 6), (.var 7)]) (.var 3))) [(.app 5 (.tup [(.var 6), (.var 7)]))] [])])]), (.asg (.nm 9) (.comp (.tup [(.sub (.var 2) (.bin .add (.var 8) (.cst (.int 1)))), (.sub (.var 2) (.var 8))]) (.nm 8) (.rng1 (.cst (.int 500))) .yes [19, 8])), (.cond (.val (.cmp .ne (.var 5) (.blt1 .sorted (.comp (.var 20) (.nm 20) (.seq (.var 9)) (.val (.cmp .lt (.sub (.var 20) (.cst (.int 0))) (.var 4))) [19, 20])))) [(.ret (.cst (.bl false)))] []), (.cond (.or (.not (.val (.call 28 [(.comp (.call 146 [(.var 1), (.sub (.var 20) (.cst (.int 0))), (.sub (.var 20) (.cst (.int 1)))]) (.nm 20) (.seq (.var 5)) .yes [19, 20]), (.comp (.index (.var 9) (.var 20)) (.nm 20) (.seq (.var 5)) .yes [19, 20])]))) (.not (.val (.call 28 [(.call 147 [(.var 1), (.bin .sub (.var 4) (.cst (.int 1)))]), (.comp (.var 20) (.nm 20) (.seq (.var 9)) (.val (.cmp .lt (.sub (.var 20) (.cst (.int 0))) (.var 4))) [19, 20])])))) [(.ret (.cst (.bl false)))] []), (.asg (.nm 10) (.comp (.var 8) (.nm 8) (.rng1 (.cst (.int 500))) (.val (.cmp .le (.sub (.sub (.var 9) (.var 8)) (.cst (.int 0))) (.bin .mul (.bin .pow (.cst (.int 10)) (.cst (.int 50))) (.bin .pow (.cst (.int 10)) (.cst (.int 50)))))) [19, 8])), (.asg (.nm 8) (.call 27 [(.var 0), (.var 10)])), (.asg (.tup [(.nm 6), (.nm 7)]) (.sub (.var 9) (.var 8))), (.cond (.not (.val (.call 28 [(.lst [(.call 144 [(.blt1 .list (.var 1))]), (.call 146 [(.var 1), (.var 6), (.var 7)]), (.call 145 [(.var 1), (.var 6), (.var 7)]), (.call 148 [(.var 1), (.var 7), (.ifx (.val (.cmp .gt (.var 8) (.cst (.int 0)))) (.sub (.var 2) (.bin .sub (.var 8) (.cst (.int 1)))) (.cst (.int 0)))])]), (.lst [(.cst (.bl true)), (.var 8), (.call 44 [(.sub (.var 1) (.cst (.int 1))), (.var 8)]), (.tup [(.bin .sub (.bin .mul (.sub (.var 1) (.cst (.int 0))) (.var 7)) (.bin .mul (.sub (.var 1) (.cst (.int 1))) (.ifx (.val (.cmp .gt (.var 8) (.cst (.int 0)))) (.sub (.var 2) (.bin .sub (.var 8) (.cst (.int 1)))) (.cst (.int 0))))), (.var 7)])])]))) [(.ret (.cst (.bl false)))] []), (.forr (.nm 11) (.rng1 (.cst (.int 4))) [(.par [(.nm 12), (.nm 13)] [(.bin .sub (.bin .add (.var 6) (.call 25 [(.var 0), (.cst (.int 5))])) (.cst (.int 2))), (.bin .sub (.bin .add (.var 7) (.call 25 [(.var 0), (.cst (.int 5))])) (.cst (.int 2)))]), (.cond (.val (.cmp .le (.blt1 .abs (.var 12)) (.bin .mul (.bin .pow (.cst (.int 10)) (.cst (.int 50))) (.bin .pow (.cst (.int 10)) (.cst (.int 50)))))) [(.asg (.nm 14) (.ifx (.val (.cmp .inn (.tup [(.var 12), (.var 13)]) (.slc (.var 9) none (some (.blt1 .len (.var 10)))))) (.index (.var 9) (.tup [(.var 12), (.var 13)])) (.cst .non))), (.cond (.not (.val (.call 28 [(.lst [(.call 146 [(.var 1), (.var 12), (.var 13)]), (.call 145 [(.var 1), (.var 12), (.var 13)])]), (.lst [(.var 14), (.call 151 [(.var 1), (.var 12), (.var 13)])])]))) [(.ret (.cst (.bl false)))] []), (.asg (.nm 15) (.call 148 [(.var 1), (.var 12), (.var 13)])), (.cond (.and (.val (.cmp .le (.blt1 .max (.comp (.blt1 .abs (.var 20)) (.nm 20) (.seq (.var 15)) .yes [19, 20])) (.bin .mul (.bin .pow (.cst (.int 10)) (.cst (.int 50))) (.bin .pow (.cst (.int 10)) (.cst (.int 50)))))) (.not (.val (.call 28 [(.lst [(.var 15), (.call 149 [(.var 1), (.sub (.var 15) (.cst (.int 0))), (.sub (.var 15) (.cst (.int 1)))]), (.call 145 [(.var 1), (.sub (.var 15) (.cst (.int 0))), (.sub (.var 15) (.cst (.int 1)))])]), (.lst [(.tup [(.bin .sub (.bin .mul (.sub (.var 1) (.cst (.int 0))) (.var 12)) (.bin .mul (.sub (.var 1) (.cst (.int 1))) (.var 13))), (.var 12)]), (.tup [(.var 12), (.var 13)]), (.bin .mul (.sub (.var 1) (.cst (.int 1))) (.call 151 [(.var 1), (.var 12), (.var 13)]))])])))) [(.ret (.cst (.bl false)))] [])] [])]), (.asg (.nm 16) (.call 25 [(.var 0), (.bin .mul (.bin .pow (.cst (.int 10)) (.cst (.int 50))) (.bin .pow (.cst (.int 10)) (.cst (.int 50))))])), (.cond (.not (.val (.call 28 [(.call 147 [(.var 1), (.var 16)]), (.comp (.var 20) (.nm 20) (.seq (.var 9)) (.val (.cmp .le (.sub (.var 20) (.cst (.int 0))) (.var 16))) [19, 20])]))) [(.ret (.cst (.bl false)))] []), (.asg (.nm 17) (.lst [(.tup [(.cst (.int 0)), (.neg (.cst (.int 1)))]), (.tup [(.neg (.cst (.int 1))), (.neg (.cst (.int 1)))]), (.tup [(.cst (.int 2)), (.cst (.int 1))]), (.tup [(.cst (.int 1)), (.cst (.int 1))]), (.tup [(.cst (.int 0)), (.cst (.int 1))]), (.tup [(.cst (.int 3)), (.cst (.int 2))]), (.tup [(.cst (.int 1)), (.neg (.cst (.int 2)))]), (.tup [(.neg (.cst (.int 3))), (.cst (.int 1))])])), (.asg (.nm 18) (.bin .add (.bin .add (.bin .add (.comp (.call 144 [(.var 20)]) (.nm 20) (.seq (.var 17)) .yes [19, 20]) (.comp (.call 32 [(.cst (.fn 146)), (.tup [(.var 20), (.cst (.int 1)), (.cst (.int 0))])]) (.nm 20) (.seq (.var 17)) .yes [19, 20])) (.comp (.call 32 [(.cst (.fn 147)), (.tup [(.var 20), (.cst (.int 9))])]) (.nm 20) (.seq (.var 17)) .yes [19, 20])) (.lst [(.call 32 [(.cst (.fn 149)), (.tup [(.tup [(.cst (.int 3)), (.cst (.int 2))]), (.cst (.int 1)), (.cst (.int 1))])]), (.call 32 [(.cst (.fn 145)), (.tup [(.var 1), (.bin .add (.bin .mul (.bin .pow (.cst (.int 10)) (.cst (.int 50))) (.bin .pow (.cst (.int 10)) (.cst (.int 50)))) (.cst (.int 1))), (.cst (.int 0))])]), (.call 32 [(.cst (.fn 146)), (.tup [(.var 1), (.cst (.int 1)), (.cst (.bl true))])]), (.call 32 [(.cst (.fn 147)), (.tup [(.tup [(.cst (.int 3)), (.cst (.int 2))]), (.neg (.cst (.int 1)))])])]))), (.ret (.call 28 [(.var 18), (.bin .add (.bin .add (.bin .mul (.lst [(.cst (.bl false))]) (.cst (.int 8))) (.bin .mul (.lst [(.lst [(.cst (.str "cannot")), (.cst (.bl true))])]) (.cst (.int 16)))) (.lst [(.lst [(.cst (.str "cannot")), (.cst (.bl true))]), (.lst [(.cst (.str "unfit")), (.cst (.bl true))]), (.lst [(.cst (.str "unfit")), (.cst (.bl true))]), (.lst [(.cst (.str "unfit")), (.cst (.bl true))])]))]))]
def T : Nat → Option FD
  | 0 => some (.body N_is_number 1 i_is_number)
  | 1 => some (.body N_is_within 3 i_is_within)
  | 2 => some (.body N_is_long 2 i_is_long)
  | 3 => some (.body N_are_numbers 1 i_are_numbers)
  | 4 => some (.body N_tupled 1 i_tupled)
  | 5 => some (.body N_sure_within 3 i_sure_within)
  | 6 => some (.body N_is_rule_in 1 i_is_rule_in)
  | 7 => some (.body N_sure_rule 1 i_sure_rule)
  | 136 => some (.body N_is_unit_in 1 i_is_unit_in)
  | 137 => some (.body N_form_in 3 i_form_in)
  | 138 => some (.body N_next_pair 3 i_next_pair)
  | 139 => some (.body N_pair_ahead 3 i_pair_ahead)
  | 140 => some (.body N_place_of_pair 3 i_place_of_pair)
  | 141 => some (.body N_led_on 3 i_led_on)
  | 142 => some (.body N_sure_unit 1 i_sure_unit)
  | 143 => some (.body N_sure_sized 1 i_sure_sized)
  | 144 => some (.body N_is_unit 1 i_is_unit)
  | 145 => some (.body N_form_of 3 i_form_of)
  | 146 => some (.body N_neighbours_place 3 i_neighbours_place)
  | 147 => some (.body N_neighbours_to 2 i_neighbours_to)
  | 148 => some (.body N_step_on 3 i_step_on)
  | 149 => some (.body N_step_back 3 i_step_back)
  | 150 => some (.body N__law_box 2 i__law_box)
  | 25 => some (.spec TakeS)
  | 26 => some (.body N__law_cells 2 i__law_cells)
  | 27 => some (.body N__law_of 2 i__law_of)
  | 28 => some (.body N__law_same 2 i__law_same)
  | 30 => some (.body N__law_terms 3 i__law_terms)
  | 31 => some (.body N__law_calls 2 i__law_calls)
  | 32 => some (.body N__law_heard 2 i__law_heard)
  | 44 => some (.body N__law_power 2 i__law_power)
  | 151 => some (.body N__law_form 3 i__law_form)
  | 152 => some (.body N__law_unit 2 i__law_unit)
  | 153 => some (.body N__law_right 1 i__law_right)
  | 38 => some (.spec fun _ _ _ _ => False)
  | _ => none
theorem c_is_number : cSs ⟨g, N_is_number, [], true⟩ 200 (defScope s_is_number) (defBody s_is_number) = some i_is_number := by kernel_rfl
theorem c_is_within : cSs ⟨g, N_is_within, [], true⟩ 200 (defScope s_is_within) (defBody s_is_within) = some i_is_within := by kernel_rfl
theorem c_is_long : cSs ⟨g, N_is_long, [], true⟩ 200 (defScope s_is_long) (defBody s_is_long) = some i_is_long := by kernel_rfl
theorem c_are_numbers : cSs ⟨g, N_are_numbers, [], true⟩ 200 (defScope s_are_numbers) (defBody s_are_numbers) = some i_are_numbers := by kernel_rfl
theorem c_tupled : cSs ⟨g, N_tupled, [], true⟩ 200 (defScope s_tupled) (defBody s_tupled) = some i_tupled := by kernel_rfl
theorem c_sure_within : cSs ⟨g, N_sure_within, [], true⟩ 200 (defScope s_sure_within) (defBody s_sure_within) = some i_sure_within := by kernel_rfl
theorem c_is_rule_in : cSs ⟨g, N_is_rule_in, [], true⟩ 200 (defScope s_is_rule_in) (defBody s_is_rule_in) = some i_is_rule_in := by kernel_rfl
theorem c_sure_rule : cSs ⟨g, N_sure_rule, [], true⟩ 200 (defScope s_sure_rule) (defBody s_sure_rule) = some i_sure_rule := by kernel_rfl
theorem c_is_unit_in : cSs ⟨g, N_is_unit_in, [], true⟩ 200 (defScope s_is_unit_in) (defBody s_is_unit_in) = some i_is_unit_in := by kernel_rfl
theorem c_form_in : cSs ⟨g, N_form_in, [], true⟩ 200 (defScope s_form_in) (defBody s_form_in) = some i_form_in := by kernel_rfl
theorem c_next_pair : cSs ⟨g, N_next_pair, [], true⟩ 200 (defScope s_next_pair) (defBody s_next_pair) = some i_next_pair := by kernel_rfl
theorem c_pair_ahead : cSs ⟨g, N_pair_ahead, [], true⟩ 200 (defScope s_pair_ahead) (defBody s_pair_ahead) = some i_pair_ahead := by kernel_rfl
theorem c_place_of_pair : cSs ⟨g, N_place_of_pair, [], true⟩ 200 (defScope s_place_of_pair) (defBody s_place_of_pair) = some i_place_of_pair := by kernel_rfl
theorem c_led_on : cSs ⟨g, N_led_on, ["found"], true⟩ 200 (defScope s_led_on) (defBody s_led_on) = some i_led_on := by kernel_rfl
theorem c_sure_unit : cSs ⟨g, N_sure_unit, [], true⟩ 200 (defScope s_sure_unit) (defBody s_sure_unit) = some i_sure_unit := by kernel_rfl
theorem c_sure_sized : cSs ⟨g, N_sure_sized, [], true⟩ 200 (defScope s_sure_sized) (defBody s_sure_sized) = some i_sure_sized := by kernel_rfl
theorem c_is_unit : cSs ⟨g, N_is_unit, [], true⟩ 200 (defScope s_is_unit) (defBody s_is_unit) = some i_is_unit := by kernel_rfl
theorem c_form_of : cSs ⟨g, N_form_of, [], true⟩ 200 (defScope s_form_of) (defBody s_form_of) = some i_form_of := by kernel_rfl
theorem c_neighbours_place : cSs ⟨g, N_neighbours_place, [], true⟩ 200 (defScope s_neighbours_place) (defBody s_neighbours_place) = some i_neighbours_place := by kernel_rfl
theorem c_neighbours_to : cSs ⟨g, N_neighbours_to, [], true⟩ 200 (defScope s_neighbours_to) (defBody s_neighbours_to) = some i_neighbours_to := by kernel_rfl
theorem c_step_on : cSs ⟨g, N_step_on, [], true⟩ 200 (defScope s_step_on) (defBody s_step_on) = some i_step_on := by kernel_rfl
theorem c_step_back : cSs ⟨g, N_step_back, [], true⟩ 200 (defScope s_step_back) (defBody s_step_back) = some i_step_back := by kernel_rfl
theorem c__law_box : cSs ⟨g, N__law_box, [], true⟩ 200 (defScope s__law_box) (defBody s__law_box) = some i__law_box := by kernel_rfl
theorem c__law_cells : cSs ⟨g, N__law_cells, ["cells_so"], true⟩ 200 (defScope s__law_cells) (defBody s__law_cells) = some i__law_cells := by kernel_rfl
theorem c__law_of : cSs ⟨g, N__law_of, [], true⟩ 200 (defScope s__law_of) (defBody s__law_of) = some i__law_of := by kernel_rfl
theorem c__law_same : cSs ⟨g, N__law_same, [], true⟩ 200 (defScope s__law_same) (defBody s__law_same) = some i__law_same := by kernel_rfl
theorem c__law_terms : cSs ⟨g, N__law_terms, ["found"], true⟩ 200 (defScope s__law_terms) (defBody s__law_terms) = some i__law_terms := by kernel_rfl
theorem c__law_calls : cSs ⟨g, N__law_calls, [], true⟩ 200 (defScope s__law_calls) (defBody s__law_calls) = some i__law_calls := by kernel_rfl
theorem c__law_heard : cSs ⟨g, N__law_heard, [], true⟩ 200 (defScope s__law_heard) (defBody s__law_heard) = some i__law_heard := by kernel_rfl
theorem c__law_power : cSs ⟨g, N__law_power, [], true⟩ 200 (defScope s__law_power) (defBody s__law_power) = some i__law_power := by kernel_rfl
theorem c__law_form : cSs ⟨g, N__law_form, [], true⟩ 200 (defScope s__law_form) (defBody s__law_form) = some i__law_form := by kernel_rfl
theorem c__law_unit : cSs ⟨g, N__law_unit, [], true⟩ 200 (defScope s__law_unit) (defBody s__law_unit) = some i__law_unit := by kernel_rfl
theorem c__law_right : cSs ⟨g, N__law_right, ["found"], true⟩ 200 (defScope s__law_right) (defBody s__law_right) = some i__law_right := by kernel_rfl
theorem S_is_number : FnScope N_is_number ["thing"] (defScope s_is_number) := ⟨by kernel_rfl, by kernel_rfl, by kernel_rfl, by decide +kernel, by kernel_rfl, by decide +kernel, by decide +kernel⟩
theorem S_is_within : FnScope N_is_within ["thing", "least", "most"] (defScope s_is_within) := ⟨by kernel_rfl, by kernel_rfl, by kernel_rfl, by decide +kernel, by kernel_rfl, by decide +kernel, by decide +kernel⟩
theorem S_is_long : FnScope N_is_long ["thing", "length"] (defScope s_is_long) := ⟨by kernel_rfl, by kernel_rfl, by kernel_rfl, by decide +kernel, by kernel_rfl, by decide +kernel, by decide +kernel⟩
theorem S_are_numbers : FnScope N_are_numbers ["thing"] (defScope s_are_numbers) := ⟨by kernel_rfl, by kernel_rfl, by kernel_rfl, by decide +kernel, by kernel_rfl, by decide +kernel, by decide +kernel⟩
theorem S_tupled : FnScope N_tupled ["value"] (defScope s_tupled) := ⟨by kernel_rfl, by kernel_rfl, by kernel_rfl, by decide +kernel, by kernel_rfl, by decide +kernel, by decide +kernel⟩
theorem S_sure_within : FnScope N_sure_within ["thing", "least", "most"] (defScope s_sure_within) := ⟨by kernel_rfl, by kernel_rfl, by kernel_rfl, by decide +kernel, by kernel_rfl, by decide +kernel, by decide +kernel⟩
theorem S_is_rule_in : FnScope N_is_rule_in ["thing"] (defScope s_is_rule_in) := ⟨by kernel_rfl, by kernel_rfl, by kernel_rfl, by decide +kernel, by kernel_rfl, by decide +kernel, by decide +kernel⟩
theorem S_sure_rule : FnScope N_sure_rule ["value"] (defScope s_sure_rule) := ⟨by kernel_rfl, by kernel_rfl, by kernel_rfl, by decide +kernel, by kernel_rfl, by decide +kernel, by decide +kernel⟩
theorem S_is_unit_in : FnScope N_is_unit_in ["rule"] (defScope s_is_unit_in) := ⟨by kernel_rfl, by kernel_rfl, by kernel_rfl, by decide +kernel, by kernel_rfl, by decide +kernel, by decide +kernel⟩
theorem S_form_in : FnScope N_form_in ["rule", "one", "other"] (defScope s_form_in) := ⟨by kernel_rfl, by kernel_rfl, by kernel_rfl, by decide +kernel, by kernel_rfl, by decide +kernel, by decide +kernel⟩
theorem S_next_pair : FnScope N_next_pair ["rule", "one", "other"] (defScope s_next_pair) := ⟨by kernel_rfl, by kernel_rfl, by kernel_rfl, by decide +kernel, by kernel_rfl, by decide +kernel, by decide +kernel⟩
theorem S_pair_ahead : FnScope N_pair_ahead ["rule", "one", "other"] (defScope s_pair_ahead) := ⟨by kernel_rfl, by kernel_rfl, by kernel_rfl, by decide +kernel, by kernel_rfl, by decide +kernel, by decide +kernel⟩
theorem S_place_of_pair : FnScope N_place_of_pair ["rule", "one", "other"] (defScope s_place_of_pair) := ⟨by kernel_rfl, by kernel_rfl, by kernel_rfl, by decide +kernel, by kernel_rfl, by decide +kernel, by decide +kernel⟩
theorem S_led_on : FnScope N_led_on ["rule", "pair", "most"] (defScope s_led_on) := ⟨by kernel_rfl, by kernel_rfl, by kernel_rfl, by decide +kernel, by kernel_rfl, by decide +kernel, by decide +kernel⟩
theorem S_sure_unit : FnScope N_sure_unit ["rule"] (defScope s_sure_unit) := ⟨by kernel_rfl, by kernel_rfl, by kernel_rfl, by decide +kernel, by kernel_rfl, by decide +kernel, by decide +kernel⟩
theorem S_sure_sized : FnScope N_sure_sized ["number"] (defScope s_sure_sized) := ⟨by kernel_rfl, by kernel_rfl, by kernel_rfl, by decide +kernel, by kernel_rfl, by decide +kernel, by decide +kernel⟩
theorem S_is_unit : FnScope N_is_unit ["rule"] (defScope s_is_unit) := ⟨by kernel_rfl, by kernel_rfl, by kernel_rfl, by decide +kernel, by kernel_rfl, by decide +kernel, by decide +kernel⟩
theorem S_form_of : FnScope N_form_of ["rule", "one", "other"] (defScope s_form_of) := ⟨by kernel_rfl, by kernel_rfl, by kernel_rfl, by decide +kernel, by kernel_rfl, by decide +kernel, by decide +kernel⟩
theorem S_neighbours_place : FnScope N_neighbours_place ["rule", "one", "other"] (defScope s_neighbours_place) := ⟨by kernel_rfl, by kernel_rfl, by kernel_rfl, by decide +kernel, by kernel_rfl, by decide +kernel, by decide +kernel⟩
theorem S_neighbours_to : FnScope N_neighbours_to ["rule", "most"] (defScope s_neighbours_to) := ⟨by kernel_rfl, by kernel_rfl, by kernel_rfl, by decide +kernel, by kernel_rfl, by decide +kernel, by decide +kernel⟩
theorem S_step_on : FnScope N_step_on ["rule", "one", "other"] (defScope s_step_on) := ⟨by kernel_rfl, by kernel_rfl, by kernel_rfl, by decide +kernel, by kernel_rfl, by decide +kernel, by decide +kernel⟩
theorem S_step_back : FnScope N_step_back ["rule", "one", "other"] (defScope s_step_back) := ⟨by kernel_rfl, by kernel_rfl, by kernel_rfl, by decide +kernel, by kernel_rfl, by decide +kernel, by decide +kernel⟩
theorem S__law_box : FnScope N__law_box ["script", "k"] (defScope s__law_box) := ⟨by kernel_rfl, by kernel_rfl, by kernel_rfl, by decide +kernel, by kernel_rfl, by decide +kernel, by decide +kernel⟩
theorem S__law_take : FnScope ["tin", "below_so", "drawn_so", "once_so", "wide_so", "twice_so"] ["tin", "below_so"] (defScope s__law_take) := ⟨by kernel_rfl, by kernel_rfl, by kernel_rfl, by decide +kernel, by kernel_rfl, by decide +kernel, by decide +kernel⟩
theorem S__law_cells : FnScope N__law_cells ["script", "most_so"] (defScope s__law_cells) := ⟨by kernel_rfl, by kernel_rfl, by kernel_rfl, by decide +kernel, by kernel_rfl, by decide +kernel, by decide +kernel⟩
theorem S__law_of : FnScope N__law_of ["tin", "goods_so"] (defScope s__law_of) := ⟨by kernel_rfl, by kernel_rfl, by kernel_rfl, by decide +kernel, by kernel_rfl, by decide +kernel, by decide +kernel⟩
theorem S__law_same : FnScope N__law_same ["got", "due"] (defScope s__law_same) := ⟨by kernel_rfl, by kernel_rfl, by kernel_rfl, by decide +kernel, by kernel_rfl, by decide +kernel, by decide +kernel⟩
theorem S__law_terms : FnScope N__law_terms ["rule_so", "kind_so", "many_so"] (defScope s__law_terms) := ⟨by kernel_rfl, by kernel_rfl, by kernel_rfl, by decide +kernel, by kernel_rfl, by decide +kernel, by decide +kernel⟩
theorem S__law_calls : FnScope N__law_calls ["door", "goods_so"] (defScope s__law_calls) := ⟨by kernel_rfl, by kernel_rfl, by kernel_rfl, by decide +kernel, by kernel_rfl, by decide +kernel, by decide +kernel⟩
theorem S__law_heard : FnScope N__law_heard ["door", "goods_so"] (defScope s__law_heard) := ⟨by kernel_rfl, by kernel_rfl, by kernel_rfl, by decide +kernel, by kernel_rfl, by decide +kernel, by decide +kernel⟩
theorem S__law_power : FnScope N__law_power ["base_so", "often_so"] (defScope s__law_power) := ⟨by kernel_rfl, by kernel_rfl, by kernel_rfl, by decide +kernel, by kernel_rfl, by decide +kernel, by decide +kernel⟩
theorem S__law_form : FnScope N__law_form ["rule_so", "a", "b"] (defScope s__law_form) := ⟨by kernel_rfl, by kernel_rfl, by kernel_rfl, by decide +kernel, by kernel_rfl, by decide +kernel, by decide +kernel⟩
theorem S__law_unit : FnScope N__law_unit ["tin", "most_so"] (defScope s__law_unit) := ⟨by kernel_rfl, by kernel_rfl, by kernel_rfl, by decide +kernel, by kernel_rfl, by decide +kernel, by decide +kernel⟩
theorem S__law_right : FnScope N__law_right ["tin"] (defScope s__law_right) := ⟨by kernel_rfl, by kernel_rfl, by kernel_rfl, by decide +kernel, by kernel_rfl, by decide +kernel, by decide +kernel⟩
theorem S_law : FnScope lawN ["script"] (defScope s_law) := ⟨by kernel_rfl, by kernel_rfl, by kernel_rfl, by decide +kernel, by kernel_rfl, by decide +kernel, by decide +kernel⟩
theorem take_ps {K : PySem.W.Frag} {mg : Str → Option Value} (hm : mg "int" = none) (X : Cx) (hK : X.K = K) (hmg : X.mg = mg) (hN : X.N = (["tin", "below_so", "drawn_so", "once_so", "wide_so", "twice_so"] : List Str)) (hsc : X.env.scope = defScope s__law_take) (hc : X.calm = true) (hf : ∀ y, X.fn y = true) :
    PSs X (defBody s__law_take) (tTake K) := by
  subst hK
  subst hmg
  have nd : X.N.Nodup := by rw [hN]; decide +kernel
  have nm : ∀ (i : Nat) (x : Str), (["tin", "below_so", "drawn_so", "once_so", "wide_so", "twice_so"] : List Str)[i]? = some x → X.N[i]? = some x := fun i x h => by rw [hN]; exact h
  have lc : ∀ (x : Str), x ∈ (["tin", "below_so", "drawn_so", "once_so", "wide_so", "twice_so"] : List Str) → L2.Loc X.env.scope x := fun x hx => .inl (by
    rw [hsc]
    revert x
    decide +kernel)
  have v : ∀ (i : Nat) (x : Str) (pos : Pos), (["tin", "below_so", "drawn_so", "once_so", "wide_so", "twice_so"] : List Str)[i]? = some x → (x == ("__debug__" : Str)) = false → (x == ("__classdict__" : Str)) = false → PE X (.Name x pos) (tVar i) := fun i x pos h h1 h2 =>
    pe_var (nm i x h) (Loc.vis (lc x (List.mem_of_getElem? h))) h1 h2
  have gl : Gl X "int" := by show X.env.scope.names.lookup _ = _; rw [hsc]; decide +kernel
  have ix : ∀ (j : Int) (p q pos : Pos) (u : Nat), PE X (.Subscript (.Name "tin" p) (.Constant (.int j) u q) pos) (tIx X.K j) := fun j p q pos u => pe_ix ix_list (v 0 "tin" p rfl (by decide +kernel) (by decide +kernel)) pe_int (fun _ _ => rfl)
  have i1 : ∀ {e : Expr} {te : TE} {p pos : Pos}, PE X e te → isStar e = false → PE X (.Call (.Name "int" p) [e] [] pos) (tI1 te) := fun {e te p pos} he hs => pe_callTy call_int1 gl hm (by decide +kernel) (pa_cons he pa_nil (star_eq hs)) (by decide +kernel) (by decide +kernel) (star_eq hs) (star_none (es := []) (env := X.env) (fun x h => nomatch h) pos)
  have va := v 1 "below_so"
  have st : ∀ {i : Nat} {x : Str} {p pos : Pos} {e : Expr} {te : TE}, (["tin", "below_so", "drawn_so", "once_so", "wide_so", "twice_so"] : List Str)[i]? = some x → PE X e te → swapsWith e (some (.Name x p)) pos.line X.env = pure false → PS X (.Assign [.Name x p] e pos) (tAsg te (gName i)) := fun {i x p pos e te} h he hs => ps_set nd (nm i x h) (lc x (List.mem_of_getElem? h)) he hs (.inl (hf x))
  have sb : ∀ {j : Int} {p q p2 pos : Pos} {u : Nat} {e : Expr} {te : TE}, PE X e te → swapsWithSole [.Subscript (.Name "tin" p) (.Constant (.int j) u q) p2] e pos.line X.env = pure false → swappedStores [.Subscript (.Name "tin" p) (.Constant (.int j) u q) p2] e X.env = pure none → PS X (.Assign [.Subscript (.Name "tin" p) (.Constant (.int j) u q) p2] e pos) (tAsg te (gSub (tVar 0) (tC (.int j)) rSetL)) := fun {j p q p2 pos u e te} he h1 h2 =>
    ps_asg he (pg_sub (v 0 "tin" p rfl (by decide +kernel) (by decide +kernel)) pe_int set_list) h1 h2
  have vb : ∀ p, PE X (.Name "below_so" p) (tVar 1) := fun p => v 1 "below_so" p rfl (by decide +kernel) (by decide +kernel)
  have vo : ∀ p, PE X (.Name "once_so" p) (tVar 3) := fun p => v 3 "once_so" p rfl (by decide +kernel) (by decide +kernel)
  have vw : ∀ p, PE X (.Name "wide_so" p) (tVar 4) := fun p => v 4 "wide_so" p rfl (by decide +kernel) (by decide +kernel)
  have vt : ∀ p, PE X (.Name "twice_so" p) (tVar 5) := fun p => v 5 "twice_so" p rfl (by decide +kernel) (by decide +kernel)
  exact pss_cons (ps_if (pt_cmpR op_gt (ix 0 _ _ _ _) pe_int (nomark _)) (pss_cons (st (i := 2) rfl (pe_op op_modN (i1 (ix 0 _ _ _ _) rfl) (vb _)) rfl) (pss_cons (sb (pe_op op_fdivP (ix 0 _ _ _ _) (vb _)) rfl rfl) (pss_one (ps_ret (v 2 "drawn_so" _ rfl (by decide +kernel) (by decide +kernel)))))) pss_nil)
    (pss_cons (sb (pe_op op_add (ix 2 _ _ _ _) pe_int) rfl rfl)
    (pss_cons (st (i := 3) rfl (pe_op op_modN (i1 (pe_op op_mulP (pe_op op_add (ix 1 _ _ _ _) (pe_op op_mulP pe_int (ix 2 _ _ _ _))) (pe_op op_add pe_int (ix 2 _ _ _ _))) rfl) pe_int) rfl)
    (pss_cons (st (i := 4) rfl (pe_op op_add (pe_op op_modN (i1 (vo _) rfl) pe_int) pe_int) rfl)
    (pss_cons (st (i := 5) rfl (pe_op op_modN (i1 (pe_op op_mulP (pe_op op_add (pe_op op_add (vo _) (ix 2 _ _ _ _)) (pe_op op_fdivP (ix 1 _ _ _ _) pe_int)) (vw _)) rfl) pe_int) rfl)
    (pss_one (ps_ret (pe_op op_modN (i1 (pe_op op_fdivP (pe_op op_modN (i1 (pe_op op_add (pe_op op_mulP (vt _) pe_int) (vo _)) rfl) pe_int) pe_int) rfl) (vb _))))))))
theorem u_is_number {m : Nat} {a0 : PV} {d : Nat} {J : Slot → Nat → Prop} {E : EX} (h : evSs (sem T m) i_is_number ⟨fun q => J (.val .non) q.d, fun r q => J r q.d, fun _ => False, fun _ => False, E⟩ ⟨[.val a0], d⟩) : sem T (m + 1) 0 [a0] d J E := sem_body rfl ⟨rfl, h⟩
theorem u_is_within {m : Nat} {a0 a1 a2 : PV} {d : Nat} {J : Slot → Nat → Prop} {E : EX} (h : evSs (sem T m) i_is_within ⟨fun q => J (.val .non) q.d, fun r q => J r q.d, fun _ => False, fun _ => False, E⟩ ⟨[.val a0, .val a1, .val a2], d⟩) : sem T (m + 1) 1 [a0, a1, a2] d J E := sem_body rfl ⟨rfl, h⟩
theorem u_is_long {m : Nat} {a0 a1 : PV} {d : Nat} {J : Slot → Nat → Prop} {E : EX} (h : evSs (sem T m) i_is_long ⟨fun q => J (.val .non) q.d, fun r q => J r q.d, fun _ => False, fun _ => False, E⟩ ⟨[.val a0, .val a1], d⟩) : sem T (m + 1) 2 [a0, a1] d J E := sem_body rfl ⟨rfl, h⟩
theorem u_are_numbers {m : Nat} {a0 : PV} {d : Nat} {J : Slot → Nat → Prop} {E : EX} (h : evSs (sem T m) i_are_numbers ⟨fun q => J (.val .non) q.d, fun r q => J r q.d, fun _ => False, fun _ => False, E⟩ ⟨[.val a0, .un, .un], d⟩) : sem T (m + 1) 3 [a0] d J E := sem_body rfl ⟨rfl, h⟩
theorem u_tupled {m : Nat} {a0 : PV} {d : Nat} {J : Slot → Nat → Prop} {E : EX} (h : evSs (sem T m) i_tupled ⟨fun q => J (.val .non) q.d, fun r q => J r q.d, fun _ => False, fun _ => False, E⟩ ⟨[.val a0, .un, .un], d⟩) : sem T (m + 1) 4 [a0] d J E := sem_body rfl ⟨rfl, h⟩
theorem u_sure_within {m : Nat} {a0 a1 a2 : PV} {d : Nat} {J : Slot → Nat → Prop} {E : EX} (h : evSs (sem T m) i_sure_within ⟨fun q => J (.val .non) q.d, fun r q => J r q.d, fun _ => False, fun _ => False, E⟩ ⟨[.val a0, .val a1, .val a2], d⟩) : sem T (m + 1) 5 [a0, a1, a2] d J E := sem_body rfl ⟨rfl, h⟩
theorem u_is_rule_in {m : Nat} {a0 : PV} {d : Nat} {J : Slot → Nat → Prop} {E : EX} (h : evSs (sem T m) i_is_rule_in ⟨fun q => J (.val .non) q.d, fun r q => J r q.d, fun _ => False, fun _ => False, E⟩ ⟨[.val a0, .un, .un], d⟩) : sem T (m + 1) 6 [a0] d J E := sem_body rfl ⟨rfl, h⟩
theorem u_sure_rule {m : Nat} {a0 : PV} {d : Nat} {J : Slot → Nat → Prop} {E : EX} (h : evSs (sem T m) i_sure_rule ⟨fun q => J (.val .non) q.d, fun r q => J r q.d, fun _ => False, fun _ => False, E⟩ ⟨[.val a0, .un], d⟩) : sem T (m + 1) 7 [a0] d J E := sem_body rfl ⟨rfl, h⟩
theorem u_is_unit_in {m : Nat} {a0 : PV} {d : Nat} {J : Slot → Nat → Prop} {E : EX} (h : evSs (sem T m) i_is_unit_in ⟨fun q => J (.val .non) q.d, fun r q => J r q.d, fun _ => False, fun _ => False, E⟩ ⟨[.val a0], d⟩) : sem T (m + 1) 136 [a0] d J E := sem_body rfl ⟨rfl, h⟩
theorem u_form_in {m : Nat} {a0 a1 a2 : PV} {d : Nat} {J : Slot → Nat → Prop} {E : EX} (h : evSs (sem T m) i_form_in ⟨fun q => J (.val .non) q.d, fun r q => J r q.d, fun _ => False, fun _ => False, E⟩ ⟨[.val a0, .val a1, .val a2], d⟩) : sem T (m + 1) 137 [a0, a1, a2] d J E := sem_body rfl ⟨rfl, h⟩
theorem u_next_pair {m : Nat} {a0 a1 a2 : PV} {d : Nat} {J : Slot → Nat → Prop} {E : EX} (h : evSs (sem T m) i_next_pair ⟨fun q => J (.val .non) q.d, fun r q => J r q.d, fun _ => False, fun _ => False, E⟩ ⟨[.val a0, .val a1, .val a2], d⟩) : sem T (m + 1) 138 [a0, a1, a2] d J E := sem_body rfl ⟨rfl, h⟩
theorem u_pair_ahead {m : Nat} {a0 a1 a2 : PV} {d : Nat} {J : Slot → Nat → Prop} {E : EX} (h : evSs (sem T m) i_pair_ahead ⟨fun q => J (.val .non) q.d, fun r q => J r q.d, fun _ => False, fun _ => False, E⟩ ⟨[.val a0, .val a1, .val a2], d⟩) : sem T (m + 1) 139 [a0, a1, a2] d J E := sem_body rfl ⟨rfl, h⟩
theorem u_place_of_pair {m : Nat} {a0 a1 a2 : PV} {d : Nat} {J : Slot → Nat → Prop} {E : EX} (h : evSs (sem T m) i_place_of_pair ⟨fun q => J (.val .non) q.d, fun r q => J r q.d, fun _ => False, fun _ => False, E⟩ ⟨[.val a0, .val a1, .val a2, .un, .un, .un], d⟩) : sem T (m + 1) 140 [a0, a1, a2] d J E := sem_body rfl ⟨rfl, h⟩
theorem u_led_on {m : Nat} {a0 a1 a2 : PV} {d : Nat} {J : Slot → Nat → Prop} {E : EX} (h : evSs (sem T m) i_led_on ⟨fun q => J (.val .non) q.d, fun r q => J r q.d, fun _ => False, fun _ => False, E⟩ ⟨[.val a0, .val a1, .val a2, .un, .un], d⟩) : sem T (m + 1) 141 [a0, a1, a2] d J E := sem_body rfl ⟨rfl, h⟩
theorem u_sure_unit {m : Nat} {a0 : PV} {d : Nat} {J : Slot → Nat → Prop} {E : EX} (h : evSs (sem T m) i_sure_unit ⟨fun q => J (.val .non) q.d, fun r q => J r q.d, fun _ => False, fun _ => False, E⟩ ⟨[.val a0], d⟩) : sem T (m + 1) 142 [a0] d J E := sem_body rfl ⟨rfl, h⟩
theorem u_sure_sized {m : Nat} {a0 : PV} {d : Nat} {J : Slot → Nat → Prop} {E : EX} (h : evSs (sem T m) i_sure_sized ⟨fun q => J (.val .non) q.d, fun r q => J r q.d, fun _ => False, fun _ => False, E⟩ ⟨[.val a0], d⟩) : sem T (m + 1) 143 [a0] d J E := sem_body rfl ⟨rfl, h⟩
theorem u_is_unit {m : Nat} {a0 : PV} {d : Nat} {J : Slot → Nat → Prop} {E : EX} (h : evSs (sem T m) i_is_unit ⟨fun q => J (.val .non) q.d, fun r q => J r q.d, fun _ => False, fun _ => False, E⟩ ⟨[.val a0], d⟩) : sem T (m + 1) 144 [a0] d J E := sem_body rfl ⟨rfl, h⟩
theorem u_form_of {m : Nat} {a0 a1 a2 : PV} {d : Nat} {J : Slot → Nat → Prop} {E : EX} (h : evSs (sem T m) i_form_of ⟨fun q => J (.val .non) q.d, fun r q => J r q.d, fun _ => False, fun _ => False, E⟩ ⟨[.val a0, .val a1, .val a2, .un, .un], d⟩) : sem T (m + 1) 145 [a0, a1, a2] d J E := sem_body rfl ⟨rfl, h⟩
theorem u_neighbours_place {m : Nat} {a0 a1 a2 : PV} {d : Nat} {J : Slot → Nat → Prop} {E : EX} (h : evSs (sem T m) i_neighbours_place ⟨fun q => J (.val .non) q.d, fun r q => J r q.d, fun _ => False, fun _ => False, E⟩ ⟨[.val a0, .val a1, .val a2, .un, .un, .un], d⟩) : sem T (m + 1) 146 [a0, a1, a2] d J E := sem_body rfl ⟨rfl, h⟩
theorem u_neighbours_to {m : Nat} {a0 a1 : PV} {d : Nat} {J : Slot → Nat → Prop} {E : EX} (h : evSs (sem T m) i_neighbours_to ⟨fun q => J (.val .non) q.d, fun r q => J r q.d, fun _ => False, fun _ => False, E⟩ ⟨[.val a0, .val a1, .un, .un], d⟩) : sem T (m + 1) 147 [a0, a1] d J E := sem_body rfl ⟨rfl, h⟩
theorem u_step_on {m : Nat} {a0 a1 a2 : PV} {d : Nat} {J : Slot → Nat → Prop} {E : EX} (h : evSs (sem T m) i_step_on ⟨fun q => J (.val .non) q.d, fun r q => J r q.d, fun _ => False, fun _ => False, E⟩ ⟨[.val a0, .val a1, .val a2, .un, .un], d⟩) : sem T (m + 1) 148 [a0, a1, a2] d J E := sem_body rfl ⟨rfl, h⟩
theorem u_step_back {m : Nat} {a0 a1 a2 : PV} {d : Nat} {J : Slot → Nat → Prop} {E : EX} (h : evSs (sem T m) i_step_back ⟨fun q => J (.val .non) q.d, fun r q => J r q.d, fun _ => False, fun _ => False, E⟩ ⟨[.val a0, .val a1, .val a2, .un, .un, .un], d⟩) : sem T (m + 1) 149 [a0, a1, a2] d J E := sem_body rfl ⟨rfl, h⟩
theorem u__law_box {m : Nat} {a0 a1 : PV} {d : Nat} {J : Slot → Nat → Prop} {E : EX} (h : evSs (sem T m) i__law_box ⟨fun q => J (.val .non) q.d, fun r q => J r q.d, fun _ => False, fun _ => False, E⟩ ⟨[.val a0, .val a1, .un], d⟩) : sem T (m + 1) 150 [a0, a1] d J E := sem_body rfl ⟨rfl, h⟩
theorem u__law_take {m : Nat} {n : Int} {d : Nat} {J : Slot → Nat → Prop} {E : EX} (h0 : 0 < n) (h1 : n < 2 ^ 400) (h : ∀ r : Int, 0 ≤ r → r < n → J (.val (.int r)) d) : sem T m 25 [.cell, .int n] (d + 1) J E := by
  have e : TakeS [.cell, .int n] (d + 1) J E := ⟨n, d, rfl, h0, h1, rfl, h⟩
  exact sem_spec rfl e
theorem u__law_cells {m : Nat} {a0 a1 : PV} {d : Nat} {J : Slot → Nat → Prop} {E : EX} (h : evSs (sem T m) i__law_cells ⟨fun q => J (.val .non) q.d, fun r q => J r q.d, fun _ => False, fun _ => False, E⟩ ⟨[.val a0, .val a1, .un, .un, .un, .un], d⟩) : sem T (m + 1) 26 [a0, a1] d J E := sem_body rfl ⟨rfl, h⟩
theorem u__law_of {m : Nat} {a0 a1 : PV} {d : Nat} {J : Slot → Nat → Prop} {E : EX} (h : evSs (sem T m) i__law_of ⟨fun q => J (.val .non) q.d, fun r q => J r q.d, fun _ => False, fun _ => False, E⟩ ⟨[.val a0, .val a1], d⟩) : sem T (m + 1) 27 [a0, a1] d J E := sem_body rfl ⟨rfl, h⟩
theorem u__law_same {m : Nat} {a0 a1 : PV} {d : Nat} {J : Slot → Nat → Prop} {E : EX} (h : evSs (sem T m) i__law_same ⟨fun q => J (.val .non) q.d, fun r q => J r q.d, fun _ => False, fun _ => False, E⟩ ⟨[.val a0, .val a1, .un, .un, .un], d⟩) : sem T (m + 1) 28 [a0, a1] d J E := sem_body rfl ⟨rfl, h⟩
theorem u__law_terms {m : Nat} {a0 a1 a2 : PV} {d : Nat} {J : Slot → Nat → Prop} {E : EX} (h : evSs (sem T m) i__law_terms ⟨fun q => J (.val .non) q.d, fun r q => J r q.d, fun _ => False, fun _ => False, E⟩ ⟨[.val a0, .val a1, .val a2, .un, .un], d⟩) : sem T (m + 1) 30 [a0, a1, a2] d J E := sem_body rfl ⟨rfl, h⟩
theorem u__law_calls {m : Nat} {a0 a1 : PV} {d : Nat} {J : Slot → Nat → Prop} {E : EX} (h : evSs (sem T m) i__law_calls ⟨fun q => J (.val .non) q.d, fun r q => J r q.d, fun _ => False, fun _ => False, E⟩ ⟨[.val a0, .val a1], d⟩) : sem T (m + 1) 31 [a0, a1] d J E := sem_body rfl ⟨rfl, h⟩
theorem u__law_heard {m : Nat} {a0 a1 : PV} {d : Nat} {J : Slot → Nat → Prop} {E : EX} (h : evSs (sem T m) i__law_heard ⟨fun q => J (.val .non) q.d, fun r q => J r q.d, fun _ => False, fun _ => False, E⟩ ⟨[.val a0, .val a1, .un, .un, .un], d⟩) : sem T (m + 1) 32 [a0, a1] d J E := sem_body rfl ⟨rfl, h⟩
theorem u__law_power {m : Nat} {a0 a1 : PV} {d : Nat} {J : Slot → Nat → Prop} {E : EX} (h : evSs (sem T m) i__law_power ⟨fun q => J (.val .non) q.d, fun r q => J r q.d, fun _ => False, fun _ => False, E⟩ ⟨[.val a0, .val a1, .un, .un], d⟩) : sem T (m + 1) 44 [a0, a1] d J E := sem_body rfl ⟨rfl, h⟩
theorem u__law_form {m : Nat} {a0 a1 a2 : PV} {d : Nat} {J : Slot → Nat → Prop} {E : EX} (h : evSs (sem T m) i__law_form ⟨fun q => J (.val .non) q.d, fun r q => J r q.d, fun _ => False, fun _ => False, E⟩ ⟨[.val a0, .val a1, .val a2], d⟩) : sem T (m + 1) 151 [a0, a1, a2] d J E := sem_body rfl ⟨rfl, h⟩
theorem u__law_unit {m : Nat} {a0 a1 : PV} {d : Nat} {J : Slot → Nat → Prop} {E : EX} (h : evSs (sem T m) i__law_unit ⟨fun q => J (.val .non) q.d, fun r q => J r q.d, fun _ => False, fun _ => False, E⟩ ⟨[.val a0, .val a1], d⟩) : sem T (m + 1) 152 [a0, a1] d J E := sem_body rfl ⟨rfl, h⟩
theorem u__law_right {m : Nat} {a0 : PV} {d : Nat} {J : Slot → Nat → Prop} {E : EX} (h : evSs (sem T m) i__law_right ⟨fun q => J (.val .non) q.d, fun r q => J r q.d, fun _ => False, fun _ => False, E⟩ ⟨[.val a0, .un, .un, .un, .un, .un, .un, .un, .un, .un, .un, .un, .un, .un, .un, .un, .un, .un, .un, .un, .un], d⟩) : sem T (m + 1) 153 [a0] d J E := sem_body rfl ⟨rfl, h⟩
theorem dok_scal {x : PV} (h : isData x = true) (h2 : deep x = 0) : dataOk x := ⟨h, by omega⟩

theorem p_num {m : Nat} {i : Int} {d : Nat} {J : Slot → Nat → Prop} {E : EX} (h : J (.val (.bl true)) d) : sem T (m + 1) 0 [.int i] d J E := by
  refine u_is_number ?_
  (repeat ((conv => whnf); first | refine k_i1 ?_ | refine k_i2 ?_ | refine k_i3 ?_ | refine k_i4 ?_ | refine k_i5 ?_ | refine k_i6 ?_ | refine k_i7 ?_ | refine k_b1 ?_ | refine k_b2 ?_ | refine k_b3 ?_ | refine k_b4 ?_ | refine k_b5 ?_ | refine k_b6 ?_ | refine k_b7 ?_ | refine k_s1 ?_ | refine k_s2 ?_ | refine k_s3 ?_ | refine k_s4 ?_ | refine k_s5 ?_ | refine k_s6 ?_ | refine k_s7 ?_ | refine k_t1 ?_ | refine k_t2 ?_ | refine k_t3 ?_ | refine k_t4 ?_ | refine k_t5 ?_ | refine k_t6 ?_ | refine k_t7 ?_ | refine k_l1 ?_ | refine k_l2 ?_ | refine k_l3 ?_ | refine k_l4 ?_ | refine k_l5 ?_ | refine k_l6 ?_ | refine k_l7 ?_ | refine k_n6 ?_ | refine k_n7 ?_ | refine k_n1 ?_ | refine k_n2 ?_ | refine k_n3 ?_ | refine k_n4 ?_ | refine k_n5 ?_ | refine ⟨dok_scal rfl rfl, dok_scal rfl rfl, ?_⟩ | refine ⟨_, rfl, ?_⟩)); (conv => whnf); (try dsimp only [PSt.set, List.set_cons_zero, List.set_cons_succ, wipeP, backP, List.getD_cons_zero, List.getD_cons_succ])
  exact h

theorem p_within {m : Nat} {i a b : Int} {d : Nat} {J : Slot → Nat → Prop} {E : EX} (h : J (.val (.bl (decide (a ≤ i ∧ i ≤ b)))) d) : sem T (m + 2) 1 [.int i, .int a, .int b] d J E := by
  refine u_is_within ?_
  (repeat ((conv => whnf); first | refine k_i1 ?_ | refine k_i2 ?_ | refine k_i3 ?_ | refine k_i4 ?_ | refine k_i5 ?_ | refine k_i6 ?_ | refine k_i7 ?_ | refine k_b1 ?_ | refine k_b2 ?_ | refine k_b3 ?_ | refine k_b4 ?_ | refine k_b5 ?_ | refine k_b6 ?_ | refine k_b7 ?_ | refine k_s1 ?_ | refine k_s2 ?_ | refine k_s3 ?_ | refine k_s4 ?_ | refine k_s5 ?_ | refine k_s6 ?_ | refine k_s7 ?_ | refine k_t1 ?_ | refine k_t2 ?_ | refine k_t3 ?_ | refine k_t4 ?_ | refine k_t5 ?_ | refine k_t6 ?_ | refine k_t7 ?_ | refine k_l1 ?_ | refine k_l2 ?_ | refine k_l3 ?_ | refine k_l4 ?_ | refine k_l5 ?_ | refine k_l6 ?_ | refine k_l7 ?_ | refine k_n6 ?_ | refine k_n7 ?_ | refine k_n1 ?_ | refine k_n2 ?_ | refine k_n3 ?_ | refine k_n4 ?_ | refine k_n5 ?_ | refine ⟨dok_scal rfl rfl, dok_scal rfl rfl, ?_⟩ | refine ⟨_, rfl, ?_⟩)); (conv => whnf); (try dsimp only [PSt.set, List.set_cons_zero, List.set_cons_succ, wipeP, backP, List.getD_cons_zero, List.getD_cons_succ])
  refine p_num ?_
  (repeat ((conv => whnf); first | refine k_i1 ?_ | refine k_i2 ?_ | refine k_i3 ?_ | refine k_i4 ?_ | refine k_i5 ?_ | refine k_i6 ?_ | refine k_i7 ?_ | refine k_b1 ?_ | refine k_b2 ?_ | refine k_b3 ?_ | refine k_b4 ?_ | refine k_b5 ?_ | refine k_b6 ?_ | refine k_b7 ?_ | refine k_s1 ?_ | refine k_s2 ?_ | refine k_s3 ?_ | refine k_s4 ?_ | refine k_s5 ?_ | refine k_s6 ?_ | refine k_s7 ?_ | refine k_t1 ?_ | refine k_t2 ?_ | refine k_t3 ?_ | refine k_t4 ?_ | refine k_t5 ?_ | refine k_t6 ?_ | refine k_t7 ?_ | refine k_l1 ?_ | refine k_l2 ?_ | refine k_l3 ?_ | refine k_l4 ?_ | refine k_l5 ?_ | refine k_l6 ?_ | refine k_l7 ?_ | refine k_n6 ?_ | refine k_n7 ?_ | refine k_n1 ?_ | refine k_n2 ?_ | refine k_n3 ?_ | refine k_n4 ?_ | refine k_n5 ?_ | refine ⟨dok_scal rfl rfl, dok_scal rfl rfl, ?_⟩ | refine ⟨_, rfl, ?_⟩)); (conv => whnf); (try dsimp only [PSt.set, List.set_cons_zero, List.set_cons_succ, wipeP, backP, List.getD_cons_zero, List.getD_cons_succ])
  refine cnd_of (fun q => ?_) fun q => ?_
  · (repeat ((conv => whnf); first | refine k_i1 ?_ | refine k_i2 ?_ | refine k_i3 ?_ | refine k_i4 ?_ | refine k_i5 ?_ | refine k_i6 ?_ | refine k_i7 ?_ | refine k_b1 ?_ | refine k_b2 ?_ | refine k_b3 ?_ | refine k_b4 ?_ | refine k_b5 ?_ | refine k_b6 ?_ | refine k_b7 ?_ | refine k_s1 ?_ | refine k_s2 ?_ | refine k_s3 ?_ | refine k_s4 ?_ | refine k_s5 ?_ | refine k_s6 ?_ | refine k_s7 ?_ | refine k_t1 ?_ | refine k_t2 ?_ | refine k_t3 ?_ | refine k_t4 ?_ | refine k_t5 ?_ | refine k_t6 ?_ | refine k_t7 ?_ | refine k_l1 ?_ | refine k_l2 ?_ | refine k_l3 ?_ | refine k_l4 ?_ | refine k_l5 ?_ | refine k_l6 ?_ | refine k_l7 ?_ | refine k_n6 ?_ | refine k_n7 ?_ | refine k_n1 ?_ | refine k_n2 ?_ | refine k_n3 ?_ | refine k_n4 ?_ | refine k_n5 ?_ | refine ⟨dok_scal rfl rfl, dok_scal rfl rfl, ?_⟩ | refine ⟨_, rfl, ?_⟩)); (conv => whnf); (try dsimp only [PSt.set, List.set_cons_zero, List.set_cons_succ, wipeP, backP, List.getD_cons_zero, List.getD_cons_succ])
    have q : a ≤ i := of_decide_eq_true q
    simp only [q, true_and] at h
    exact h
  · have q : ¬ a ≤ i := of_decide_eq_false q
    (repeat ((conv => whnf); first | refine k_i1 ?_ | refine k_i2 ?_ | refine k_i3 ?_ | refine k_i4 ?_ | refine k_i5 ?_ | refine k_i6 ?_ | refine k_i7 ?_ | refine k_b1 ?_ | refine k_b2 ?_ | refine k_b3 ?_ | refine k_b4 ?_ | refine k_b5 ?_ | refine k_b6 ?_ | refine k_b7 ?_ | refine k_s1 ?_ | refine k_s2 ?_ | refine k_s3 ?_ | refine k_s4 ?_ | refine k_s5 ?_ | refine k_s6 ?_ | refine k_s7 ?_ | refine k_t1 ?_ | refine k_t2 ?_ | refine k_t3 ?_ | refine k_t4 ?_ | refine k_t5 ?_ | refine k_t6 ?_ | refine k_t7 ?_ | refine k_l1 ?_ | refine k_l2 ?_ | refine k_l3 ?_ | refine k_l4 ?_ | refine k_l5 ?_ | refine k_l6 ?_ | refine k_l7 ?_ | refine k_n6 ?_ | refine k_n7 ?_ | refine k_n1 ?_ | refine k_n2 ?_ | refine k_n3 ?_ | refine k_n4 ?_ | refine k_n5 ?_ | refine ⟨dok_scal rfl rfl, dok_scal rfl rfl, ?_⟩ | refine ⟨_, rfl, ?_⟩)); (conv => whnf); (try dsimp only [PSt.set, List.set_cons_zero, List.set_cons_succ, wipeP, backP, List.getD_cons_zero, List.getD_cons_succ])
    simp only [q, false_and, decide_false] at h
    exact h

theorem p_sure_within {m : Nat} {i a b : Int} {d : Nat} {J : Slot → Nat → Prop} {E : EX} (h1 : a ≤ i) (h2 : i ≤ b) (h : J (.val (.int i)) d) : sem T (m + 3) 5 [.int i, .int a, .int b] d J E := by
  refine u_sure_within ?_
  (repeat ((conv => whnf); first | refine k_i1 ?_ | refine k_i2 ?_ | refine k_i3 ?_ | refine k_i4 ?_ | refine k_i5 ?_ | refine k_i6 ?_ | refine k_i7 ?_ | refine k_b1 ?_ | refine k_b2 ?_ | refine k_b3 ?_ | refine k_b4 ?_ | refine k_b5 ?_ | refine k_b6 ?_ | refine k_b7 ?_ | refine k_s1 ?_ | refine k_s2 ?_ | refine k_s3 ?_ | refine k_s4 ?_ | refine k_s5 ?_ | refine k_s6 ?_ | refine k_s7 ?_ | refine k_t1 ?_ | refine k_t2 ?_ | refine k_t3 ?_ | refine k_t4 ?_ | refine k_t5 ?_ | refine k_t6 ?_ | refine k_t7 ?_ | refine k_l1 ?_ | refine k_l2 ?_ | refine k_l3 ?_ | refine k_l4 ?_ | refine k_l5 ?_ | refine k_l6 ?_ | refine k_l7 ?_ | refine k_n6 ?_ | refine k_n7 ?_ | refine k_n1 ?_ | refine k_n2 ?_ | refine k_n3 ?_ | refine k_n4 ?_ | refine k_n5 ?_ | refine ⟨dok_scal rfl rfl, dok_scal rfl rfl, ?_⟩ | refine ⟨_, rfl, ?_⟩)); (conv => whnf); (try dsimp only [PSt.set, List.set_cons_zero, List.set_cons_succ, wipeP, backP, List.getD_cons_zero, List.getD_cons_succ])
  refine p_within ?_
  simp only [h1, h2, and_self, decide_true]
  (repeat ((conv => whnf); first | refine k_i1 ?_ | refine k_i2 ?_ | refine k_i3 ?_ | refine k_i4 ?_ | refine k_i5 ?_ | refine k_i6 ?_ | refine k_i7 ?_ | refine k_b1 ?_ | refine k_b2 ?_ | refine k_b3 ?_ | refine k_b4 ?_ | refine k_b5 ?_ | refine k_b6 ?_ | refine k_b7 ?_ | refine k_s1 ?_ | refine k_s2 ?_ | refine k_s3 ?_ | refine k_s4 ?_ | refine k_s5 ?_ | refine k_s6 ?_ | refine k_s7 ?_ | refine k_t1 ?_ | refine k_t2 ?_ | refine k_t3 ?_ | refine k_t4 ?_ | refine k_t5 ?_ | refine k_t6 ?_ | refine k_t7 ?_ | refine k_l1 ?_ | refine k_l2 ?_ | refine k_l3 ?_ | refine k_l4 ?_ | refine k_l5 ?_ | refine k_l6 ?_ | refine k_l7 ?_ | refine k_n6 ?_ | refine k_n7 ?_ | refine k_n1 ?_ | refine k_n2 ?_ | refine k_n3 ?_ | refine k_n4 ?_ | refine k_n5 ?_ | refine ⟨dok_scal rfl rfl, dok_scal rfl rfl, ?_⟩ | refine ⟨_, rfl, ?_⟩)); (conv => whnf); (try dsimp only [PSt.set, List.set_cons_zero, List.set_cons_succ, wipeP, backP, List.getD_cons_zero, List.getD_cons_succ])
  exact h

theorem p_tupled_int {m : Nat} {i : Int} {d : Nat} {J : Slot → Nat → Prop} {E : EX} (h : J (.val (.int i)) d) : sem T (m + 1) 4 [.int i] d J E := by
  refine u_tupled ?_
  (repeat ((conv => whnf); first | refine k_i1 ?_ | refine k_i2 ?_ | refine k_i3 ?_ | refine k_i4 ?_ | refine k_i5 ?_ | refine k_i6 ?_ | refine k_i7 ?_ | refine k_b1 ?_ | refine k_b2 ?_ | refine k_b3 ?_ | refine k_b4 ?_ | refine k_b5 ?_ | refine k_b6 ?_ | refine k_b7 ?_ | refine k_s1 ?_ | refine k_s2 ?_ | refine k_s3 ?_ | refine k_s4 ?_ | refine k_s5 ?_ | refine k_s6 ?_ | refine k_s7 ?_ | refine k_t1 ?_ | refine k_t2 ?_ | refine k_t3 ?_ | refine k_t4 ?_ | refine k_t5 ?_ | refine k_t6 ?_ | refine k_t7 ?_ | refine k_l1 ?_ | refine k_l2 ?_ | refine k_l3 ?_ | refine k_l4 ?_ | refine k_l5 ?_ | refine k_l6 ?_ | refine k_l7 ?_ | refine k_n6 ?_ | refine k_n7 ?_ | refine k_n1 ?_ | refine k_n2 ?_ | refine k_n3 ?_ | refine k_n4 ?_ | refine k_n5 ?_ | refine ⟨dok_scal rfl rfl, dok_scal rfl rfl, ?_⟩ | refine ⟨_, rfl, ?_⟩)); (conv => whnf); (try dsimp only [PSt.set, List.set_cons_zero, List.set_cons_succ, wipeP, backP, List.getD_cons_zero, List.getD_cons_succ])
  exact h

theorem p_tupled2 {m : Nat} {p q : Int} {d : Nat} {J : Slot → Nat → Prop} {E : EX} (h : J (.val (.tup [.int p, .int q])) d) : sem T (m + 2) 4 [.tup [.int p, .int q]] d J E := by
  refine u_tupled ?_
  (repeat ((conv => whnf); first | refine k_i1 ?_ | refine k_i2 ?_ | refine k_i3 ?_ | refine k_i4 ?_ | refine k_i5 ?_ | refine k_i6 ?_ | refine k_i7 ?_ | refine k_b1 ?_ | refine k_b2 ?_ | refine k_b3 ?_ | refine k_b4 ?_ | refine k_b5 ?_ | refine k_b6 ?_ | refine k_b7 ?_ | refine k_s1 ?_ | refine k_s2 ?_ | refine k_s3 ?_ | refine k_s4 ?_ | refine k_s5 ?_ | refine k_s6 ?_ | refine k_s7 ?_ | refine k_t1 ?_ | refine k_t2 ?_ | refine k_t3 ?_ | refine k_t4 ?_ | refine k_t5 ?_ | refine k_t6 ?_ | refine k_t7 ?_ | refine k_l1 ?_ | refine k_l2 ?_ | refine k_l3 ?_ | refine k_l4 ?_ | refine k_l5 ?_ | refine k_l6 ?_ | refine k_l7 ?_ | refine k_n6 ?_ | refine k_n7 ?_ | refine k_n1 ?_ | refine k_n2 ?_ | refine k_n3 ?_ | refine k_n4 ?_ | refine k_n5 ?_ | refine ⟨dok_scal rfl rfl, dok_scal rfl rfl, ?_⟩ | refine ⟨_, rfl, ?_⟩)); (conv => whnf); (try dsimp only [PSt.set, List.set_cons_zero, List.set_cons_succ, wipeP, backP, List.getD_cons_zero, List.getD_cons_succ])
  refine p_tupled_int ?_
  (conv => whnf); (try dsimp only [PSt.set, List.set_cons_zero, List.set_cons_succ, wipeP, backP, List.getD_cons_zero, List.getD_cons_succ])
  refine ⟨by simp, ?_⟩
  (repeat ((conv => whnf); first | refine k_i1 ?_ | refine k_i2 ?_ | refine k_i3 ?_ | refine k_i4 ?_ | refine k_i5 ?_ | refine k_i6 ?_ | refine k_i7 ?_ | refine k_b1 ?_ | refine k_b2 ?_ | refine k_b3 ?_ | refine k_b4 ?_ | refine k_b5 ?_ | refine k_b6 ?_ | refine k_b7 ?_ | refine k_s1 ?_ | refine k_s2 ?_ | refine k_s3 ?_ | refine k_s4 ?_ | refine k_s5 ?_ | refine k_s6 ?_ | refine k_s7 ?_ | refine k_t1 ?_ | refine k_t2 ?_ | refine k_t3 ?_ | refine k_t4 ?_ | refine k_t5 ?_ | refine k_t6 ?_ | refine k_t7 ?_ | refine k_l1 ?_ | refine k_l2 ?_ | refine k_l3 ?_ | refine k_l4 ?_ | refine k_l5 ?_ | refine k_l6 ?_ | refine k_l7 ?_ | refine k_n6 ?_ | refine k_n7 ?_ | refine k_n1 ?_ | refine k_n2 ?_ | refine k_n3 ?_ | refine k_n4 ?_ | refine k_n5 ?_ | refine ⟨dok_scal rfl rfl, dok_scal rfl rfl, ?_⟩ | refine ⟨_, rfl, ?_⟩)); (conv => whnf); (try dsimp only [PSt.set, List.set_cons_zero, List.set_cons_succ, wipeP, backP, List.getD_cons_zero, List.getD_cons_succ])
  refine p_tupled_int ?_
  (conv => whnf); (try dsimp only [PSt.set, List.set_cons_zero, List.set_cons_succ, wipeP, backP, List.getD_cons_zero, List.getD_cons_succ])
  refine ⟨by simp, ?_⟩
  (repeat ((conv => whnf); first | refine k_i1 ?_ | refine k_i2 ?_ | refine k_i3 ?_ | refine k_i4 ?_ | refine k_i5 ?_ | refine k_i6 ?_ | refine k_i7 ?_ | refine k_b1 ?_ | refine k_b2 ?_ | refine k_b3 ?_ | refine k_b4 ?_ | refine k_b5 ?_ | refine k_b6 ?_ | refine k_b7 ?_ | refine k_s1 ?_ | refine k_s2 ?_ | refine k_s3 ?_ | refine k_s4 ?_ | refine k_s5 ?_ | refine k_s6 ?_ | refine k_s7 ?_ | refine k_t1 ?_ | refine k_t2 ?_ | refine k_t3 ?_ | refine k_t4 ?_ | refine k_t5 ?_ | refine k_t6 ?_ | refine k_t7 ?_ | refine k_l1 ?_ | refine k_l2 ?_ | refine k_l3 ?_ | refine k_l4 ?_ | refine k_l5 ?_ | refine k_l6 ?_ | refine k_l7 ?_ | refine k_n6 ?_ | refine k_n7 ?_ | refine k_n1 ?_ | refine k_n2 ?_ | refine k_n3 ?_ | refine k_n4 ?_ | refine k_n5 ?_ | refine ⟨dok_scal rfl rfl, dok_scal rfl rfl, ?_⟩ | refine ⟨_, rfl, ?_⟩)); (conv => whnf); (try dsimp only [PSt.set, List.set_cons_zero, List.set_cons_succ, wipeP, backP, List.getD_cons_zero, List.getD_cons_succ])
  exact h

theorem p_nums2 {m : Nat} {p q : Int} {d : Nat} {J : Slot → Nat → Prop} {E : EX} (h : J (.val (.bl true)) d) : sem T (m + 2) 3 [.tup [.int p, .int q]] d J E := by
  refine u_are_numbers ?_
  (repeat ((conv => whnf); first | refine k_i1 ?_ | refine k_i2 ?_ | refine k_i3 ?_ | refine k_i4 ?_ | refine k_i5 ?_ | refine k_i6 ?_ | refine k_i7 ?_ | refine k_b1 ?_ | refine k_b2 ?_ | refine k_b3 ?_ | refine k_b4 ?_ | refine k_b5 ?_ | refine k_b6 ?_ | refine k_b7 ?_ | refine k_s1 ?_ | refine k_s2 ?_ | refine k_s3 ?_ | refine k_s4 ?_ | refine k_s5 ?_ | refine k_s6 ?_ | refine k_s7 ?_ | refine k_t1 ?_ | refine k_t2 ?_ | refine k_t3 ?_ | refine k_t4 ?_ | refine k_t5 ?_ | refine k_t6 ?_ | refine k_t7 ?_ | refine k_l1 ?_ | refine k_l2 ?_ | refine k_l3 ?_ | refine k_l4 ?_ | refine k_l5 ?_ | refine k_l6 ?_ | refine k_l7 ?_ | refine k_n6 ?_ | refine k_n7 ?_ | refine k_n1 ?_ | refine k_n2 ?_ | refine k_n3 ?_ | refine k_n4 ?_ | refine k_n5 ?_ | refine ⟨dok_scal rfl rfl, dok_scal rfl rfl, ?_⟩ | refine ⟨_, rfl, ?_⟩)); (conv => whnf); (try dsimp only [PSt.set, List.set_cons_zero, List.set_cons_succ, wipeP, backP, List.getD_cons_zero, List.getD_cons_succ])
  refine p_num ?_
  (conv => whnf); (try dsimp only [PSt.set, List.set_cons_zero, List.set_cons_succ, wipeP, backP, List.getD_cons_zero, List.getD_cons_succ])
  refine ⟨by simp, ?_⟩
  (repeat ((conv => whnf); first | refine k_i1 ?_ | refine k_i2 ?_ | refine k_i3 ?_ | refine k_i4 ?_ | refine k_i5 ?_ | refine k_i6 ?_ | refine k_i7 ?_ | refine k_b1 ?_ | refine k_b2 ?_ | refine k_b3 ?_ | refine k_b4 ?_ | refine k_b5 ?_ | refine k_b6 ?_ | refine k_b7 ?_ | refine k_s1 ?_ | refine k_s2 ?_ | refine k_s3 ?_ | refine k_s4 ?_ | refine k_s5 ?_ | refine k_s6 ?_ | refine k_s7 ?_ | refine k_t1 ?_ | refine k_t2 ?_ | refine k_t3 ?_ | refine k_t4 ?_ | refine k_t5 ?_ | refine k_t6 ?_ | refine k_t7 ?_ | refine k_l1 ?_ | refine k_l2 ?_ | refine k_l3 ?_ | refine k_l4 ?_ | refine k_l5 ?_ | refine k_l6 ?_ | refine k_l7 ?_ | refine k_n6 ?_ | refine k_n7 ?_ | refine k_n1 ?_ | refine k_n2 ?_ | refine k_n3 ?_ | refine k_n4 ?_ | refine k_n5 ?_ | refine ⟨dok_scal rfl rfl, dok_scal rfl rfl, ?_⟩ | refine ⟨_, rfl, ?_⟩)); (conv => whnf); (try dsimp only [PSt.set, List.set_cons_zero, List.set_cons_succ, wipeP, backP, List.getD_cons_zero, List.getD_cons_succ])
  refine p_num ?_
  (conv => whnf); (try dsimp only [PSt.set, List.set_cons_zero, List.set_cons_succ, wipeP, backP, List.getD_cons_zero, List.getD_cons_succ])
  refine ⟨by simp, ?_⟩
  (conv => whnf); (try dsimp only [PSt.set, List.set_cons_zero, List.set_cons_succ, wipeP, backP, List.getD_cons_zero, List.getD_cons_succ])
  refine ⟨[true, true], rfl, ?_⟩
  exact h

theorem p_long2 {m : Nat} {p q : PV} {d : Nat} {J : Slot → Nat → Prop} {E : EX} (h : J (.val (.bl true)) d) : sem T (m + 1) 2 [.tup [p, q], .int 2] d J E := by
  refine u_is_long ?_
  (repeat ((conv => whnf); first | refine k_i1 ?_ | refine k_i2 ?_ | refine k_i3 ?_ | refine k_i4 ?_ | refine k_i5 ?_ | refine k_i6 ?_ | refine k_i7 ?_ | refine k_b1 ?_ | refine k_b2 ?_ | refine k_b3 ?_ | refine k_b4 ?_ | refine k_b5 ?_ | refine k_b6 ?_ | refine k_b7 ?_ | refine k_s1 ?_ | refine k_s2 ?_ | refine k_s3 ?_ | refine k_s4 ?_ | refine k_s5 ?_ | refine k_s6 ?_ | refine k_s7 ?_ | refine k_t1 ?_ | refine k_t2 ?_ | refine k_t3 ?_ | refine k_t4 ?_ | refine k_t5 ?_ | refine k_t6 ?_ | refine k_t7 ?_ | refine k_l1 ?_ | refine k_l2 ?_ | refine k_l3 ?_ | refine k_l4 ?_ | refine k_l5 ?_ | refine k_l6 ?_ | refine k_l7 ?_ | refine k_n6 ?_ | refine k_n7 ?_ | refine k_n1 ?_ | refine k_n2 ?_ | refine k_n3 ?_ | refine k_n4 ?_ | refine k_n5 ?_ | refine ⟨dok_scal rfl rfl, dok_scal rfl rfl, ?_⟩ | refine ⟨_, rfl, ?_⟩)); (conv => whnf); (try dsimp only [PSt.set, List.set_cons_zero, List.set_cons_succ, wipeP, backP, List.getD_cons_zero, List.getD_cons_succ])
  exact h

theorem p_rule_in {m : Nat} {p q : Int} {d : Nat} {J : Slot → Nat → Prop} {E : EX} (hp : -1000 ≤ p ∧ p ≤ 1000) (hq : -1000 ≤ q ∧ q ≤ 1000) (h0 : q ≠ 0) (h : J (.val (.bl true)) d) : sem T (m + 3) 6 [.tup [.int p, .int q]] d J E := by
  refine u_is_rule_in ?_
  (repeat ((conv => whnf); first | refine k_i1 ?_ | refine k_i2 ?_ | refine k_i3 ?_ | refine k_i4 ?_ | refine k_i5 ?_ | refine k_i6 ?_ | refine k_i7 ?_ | refine k_b1 ?_ | refine k_b2 ?_ | refine k_b3 ?_ | refine k_b4 ?_ | refine k_b5 ?_ | refine k_b6 ?_ | refine k_b7 ?_ | refine k_s1 ?_ | refine k_s2 ?_ | refine k_s3 ?_ | refine k_s4 ?_ | refine k_s5 ?_ | refine k_s6 ?_ | refine k_s7 ?_ | refine k_t1 ?_ | refine k_t2 ?_ | refine k_t3 ?_ | refine k_t4 ?_ | refine k_t5 ?_ | refine k_t6 ?_ | refine k_t7 ?_ | refine k_l1 ?_ | refine k_l2 ?_ | refine k_l3 ?_ | refine k_l4 ?_ | refine k_l5 ?_ | refine k_l6 ?_ | refine k_l7 ?_ | refine k_n6 ?_ | refine k_n7 ?_ | refine k_n1 ?_ | refine k_n2 ?_ | refine k_n3 ?_ | refine k_n4 ?_ | refine k_n5 ?_ | refine ⟨dok_scal rfl rfl, dok_scal rfl rfl, ?_⟩ | refine ⟨_, rfl, ?_⟩)); (conv => whnf); (try dsimp only [PSt.set, List.set_cons_zero, List.set_cons_succ, wipeP, backP, List.getD_cons_zero, List.getD_cons_succ])
  refine p_long2 ?_
  (repeat ((conv => whnf); first | refine k_i1 ?_ | refine k_i2 ?_ | refine k_i3 ?_ | refine k_i4 ?_ | refine k_i5 ?_ | refine k_i6 ?_ | refine k_i7 ?_ | refine k_b1 ?_ | refine k_b2 ?_ | refine k_b3 ?_ | refine k_b4 ?_ | refine k_b5 ?_ | refine k_b6 ?_ | refine k_b7 ?_ | refine k_s1 ?_ | refine k_s2 ?_ | refine k_s3 ?_ | refine k_s4 ?_ | refine k_s5 ?_ | refine k_s6 ?_ | refine k_s7 ?_ | refine k_t1 ?_ | refine k_t2 ?_ | refine k_t3 ?_ | refine k_t4 ?_ | refine k_t5 ?_ | refine k_t6 ?_ | refine k_t7 ?_ | refine k_l1 ?_ | refine k_l2 ?_ | refine k_l3 ?_ | refine k_l4 ?_ | refine k_l5 ?_ | refine k_l6 ?_ | refine k_l7 ?_ | refine k_n6 ?_ | refine k_n7 ?_ | refine k_n1 ?_ | refine k_n2 ?_ | refine k_n3 ?_ | refine k_n4 ?_ | refine k_n5 ?_ | refine ⟨dok_scal rfl rfl, dok_scal rfl rfl, ?_⟩ | refine ⟨_, rfl, ?_⟩)); (conv => whnf); (try dsimp only [PSt.set, List.set_cons_zero, List.set_cons_succ, wipeP, backP, List.getD_cons_zero, List.getD_cons_succ])
  refine p_nums2 ?_
  (conv => whnf); (try dsimp only [PSt.set, List.set_cons_zero, List.set_cons_succ, wipeP, backP, List.getD_cons_zero, List.getD_cons_succ])
  have e1 : decide ((if p < 0 then -p else p) ≤ 1000) = true := decide_eq_true (by split <;> omega)
  have e2 : decide ((if q < 0 then -q else q) ≤ 1000) = true := decide_eq_true (by split <;> omega)
  refine ⟨by simp, ?_⟩
  (conv => whnf); (try dsimp only [PSt.set, List.set_cons_zero, List.set_cons_succ, wipeP, backP, List.getD_cons_zero, List.getD_cons_succ])
  refine ⟨by simp, ?_⟩
  (conv => whnf); (try dsimp only [PSt.set, List.set_cons_zero, List.set_cons_succ, wipeP, backP, List.getD_cons_zero, List.getD_cons_succ])
  refine ⟨[true, true], ?_, ?_⟩
  · show [PV.bl (decide ((if p < 0 then -p else p) ≤ 1000)), PV.bl (decide ((if q < 0 then -q else q) ≤ 1000))] = _
    rw [e1, e2]
    rfl
  · (repeat ((conv => whnf); first | refine k_i1 ?_ | refine k_i2 ?_ | refine k_i3 ?_ | refine k_i4 ?_ | refine k_i5 ?_ | refine k_i6 ?_ | refine k_i7 ?_ | refine k_b1 ?_ | refine k_b2 ?_ | refine k_b3 ?_ | refine k_b4 ?_ | refine k_b5 ?_ | refine k_b6 ?_ | refine k_b7 ?_ | refine k_s1 ?_ | refine k_s2 ?_ | refine k_s3 ?_ | refine k_s4 ?_ | refine k_s5 ?_ | refine k_s6 ?_ | refine k_s7 ?_ | refine k_t1 ?_ | refine k_t2 ?_ | refine k_t3 ?_ | refine k_t4 ?_ | refine k_t5 ?_ | refine k_t6 ?_ | refine k_t7 ?_ | refine k_l1 ?_ | refine k_l2 ?_ | refine k_l3 ?_ | refine k_l4 ?_ | refine k_l5 ?_ | refine k_l6 ?_ | refine k_l7 ?_ | refine k_n6 ?_ | refine k_n7 ?_ | refine k_n1 ?_ | refine k_n2 ?_ | refine k_n3 ?_ | refine k_n4 ?_ | refine k_n5 ?_ | refine ⟨dok_scal rfl rfl, dok_scal rfl rfl, ?_⟩ | refine ⟨_, rfl, ?_⟩)); (conv => whnf); (try dsimp only [PSt.set, List.set_cons_zero, List.set_cons_succ, wipeP, backP, List.getD_cons_zero, List.getD_cons_succ])
    have e : (!decide (q = 0)) = true := by simpa using h0
    rw [e]
    exact h

theorem p_sure_rule {m : Nat} {p q : Int} {d : Nat} {J : Slot → Nat → Prop} {E : EX} (hp : -1000 ≤ p ∧ p ≤ 1000) (hq : -1000 ≤ q ∧ q ≤ 1000) (h0 : q ≠ 0) (h : J (.val (.tup [.int p, .int q])) d) : sem T (m + 4) 7 [.tup [.int p, .int q]] d J E := by
  refine u_sure_rule ?_
  (repeat ((conv => whnf); first | refine k_i1 ?_ | refine k_i2 ?_ | refine k_i3 ?_ | refine k_i4 ?_ | refine k_i5 ?_ | refine k_i6 ?_ | refine k_i7 ?_ | refine k_b1 ?_ | refine k_b2 ?_ | refine k_b3 ?_ | refine k_b4 ?_ | refine k_b5 ?_ | refine k_b6 ?_ | refine k_b7 ?_ | refine k_s1 ?_ | refine k_s2 ?_ | refine k_s3 ?_ | refine k_s4 ?_ | refine k_s5 ?_ | refine k_s6 ?_ | refine k_s7 ?_ | refine k_t1 ?_ | refine k_t2 ?_ | refine k_t3 ?_ | refine k_t4 ?_ | refine k_t5 ?_ | refine k_t6 ?_ | refine k_t7 ?_ | refine k_l1 ?_ | refine k_l2 ?_ | refine k_l3 ?_ | refine k_l4 ?_ | refine k_l5 ?_ | refine k_l6 ?_ | refine k_l7 ?_ | refine k_n6 ?_ | refine k_n7 ?_ | refine k_n1 ?_ | refine k_n2 ?_ | refine k_n3 ?_ | refine k_n4 ?_ | refine k_n5 ?_ | refine ⟨dok_scal rfl rfl, dok_scal rfl rfl, ?_⟩ | refine ⟨_, rfl, ?_⟩)); (conv => whnf); (try dsimp only [PSt.set, List.set_cons_zero, List.set_cons_succ, wipeP, backP, List.getD_cons_zero, List.getD_cons_succ])
  refine p_tupled2 ?_
  (repeat ((conv => whnf); first | refine k_i1 ?_ | refine k_i2 ?_ | refine k_i3 ?_ | refine k_i4 ?_ | refine k_i5 ?_ | refine k_i6 ?_ | refine k_i7 ?_ | refine k_b1 ?_ | refine k_b2 ?_ | refine k_b3 ?_ | refine k_b4 ?_ | refine k_b5 ?_ | refine k_b6 ?_ | refine k_b7 ?_ | refine k_s1 ?_ | refine k_s2 ?_ | refine k_s3 ?_ | refine k_s4 ?_ | refine k_s5 ?_ | refine k_s6 ?_ | refine k_s7 ?_ | refine k_t1 ?_ | refine k_t2 ?_ | refine k_t3 ?_ | refine k_t4 ?_ | refine k_t5 ?_ | refine k_t6 ?_ | refine k_t7 ?_ | refine k_l1 ?_ | refine k_l2 ?_ | refine k_l3 ?_ | refine k_l4 ?_ | refine k_l5 ?_ | refine k_l6 ?_ | refine k_l7 ?_ | refine k_n6 ?_ | refine k_n7 ?_ | refine k_n1 ?_ | refine k_n2 ?_ | refine k_n3 ?_ | refine k_n4 ?_ | refine k_n5 ?_ | refine ⟨dok_scal rfl rfl, dok_scal rfl rfl, ?_⟩ | refine ⟨_, rfl, ?_⟩)); (conv => whnf); (try dsimp only [PSt.set, List.set_cons_zero, List.set_cons_succ, wipeP, backP, List.getD_cons_zero, List.getD_cons_succ])
  refine p_rule_in hp hq h0 ?_
  (repeat ((conv => whnf); first | refine k_i1 ?_ | refine k_i2 ?_ | refine k_i3 ?_ | refine k_i4 ?_ | refine k_i5 ?_ | refine k_i6 ?_ | refine k_i7 ?_ | refine k_b1 ?_ | refine k_b2 ?_ | refine k_b3 ?_ | refine k_b4 ?_ | refine k_b5 ?_ | refine k_b6 ?_ | refine k_b7 ?_ | refine k_s1 ?_ | refine k_s2 ?_ | refine k_s3 ?_ | refine k_s4 ?_ | refine k_s5 ?_ | refine k_s6 ?_ | refine k_s7 ?_ | refine k_t1 ?_ | refine k_t2 ?_ | refine k_t3 ?_ | refine k_t4 ?_ | refine k_t5 ?_ | refine k_t6 ?_ | refine k_t7 ?_ | refine k_l1 ?_ | refine k_l2 ?_ | refine k_l3 ?_ | refine k_l4 ?_ | refine k_l5 ?_ | refine k_l6 ?_ | refine k_l7 ?_ | refine k_n6 ?_ | refine k_n7 ?_ | refine k_n1 ?_ | refine k_n2 ?_ | refine k_n3 ?_ | refine k_n4 ?_ | refine k_n5 ?_ | refine ⟨dok_scal rfl rfl, dok_scal rfl rfl, ?_⟩ | refine ⟨_, rfl, ?_⟩)); (conv => whnf); (try dsimp only [PSt.set, List.set_cons_zero, List.set_cons_succ, wipeP, backP, List.getD_cons_zero, List.getD_cons_succ])
  exact h

/-- one statement by itself -/
theorem cutS {Γ : Nat → PSpec} {s : IS} {ss : List IS} {D : PEnds} {p : PSt} (Q : PSt → Prop) (h1 : ∀ D' : PEnds, (∀ p', Q p' → D'.nx p') → evS Γ s D' p) (h2 : ∀ p', Q p' → evSs Γ ss D p') : evSs Γ (s :: ss) D p := h1 _ h2

def isI : PV → Bool
  | .int _ => true
  | _ => false
def inR (v : PV) (a b : Int) : Bool := match v with
  | .int i => decide (a ≤ i ∧ i ≤ b)
  | _ => false
theorem tenk {a : Int} {k : Nat} : 0 ≤ (k : Int) := by omega

theorem g_num {m : Nat} {v : PV} {d : Nat} {J : Slot → Nat → Prop} {E : EX} (hv : isData v = true) (h : J (.val (.bl (isI v))) d) : sem T (m + 1) 0 [v] d J E := by
  refine u_is_number ?_
  cases v with
  | int i => (repeat ((conv => whnf); first | refine k_i1 ?_ | refine k_i2 ?_ | refine k_i3 ?_ | refine k_i4 ?_ | refine k_i5 ?_ | refine k_i6 ?_ | refine k_i7 ?_ | refine k_b1 ?_ | refine k_b2 ?_ | refine k_b3 ?_ | refine k_b4 ?_ | refine k_b5 ?_ | refine k_b6 ?_ | refine k_b7 ?_ | refine k_s1 ?_ | refine k_s2 ?_ | refine k_s3 ?_ | refine k_s4 ?_ | refine k_s5 ?_ | refine k_s6 ?_ | refine k_s7 ?_ | refine k_t1 ?_ | refine k_t2 ?_ | refine k_t3 ?_ | refine k_t4 ?_ | refine k_t5 ?_ | refine k_t6 ?_ | refine k_t7 ?_ | refine k_l1 ?_ | refine k_l2 ?_ | refine k_l3 ?_ | refine k_l4 ?_ | refine k_l5 ?_ | refine k_l6 ?_ | refine k_l7 ?_ | refine k_n6 ?_ | refine k_n7 ?_ | refine k_n1 ?_ | refine k_n2 ?_ | refine k_n3 ?_ | refine k_n4 ?_ | refine k_n5 ?_ | refine ⟨dok_scal rfl rfl, dok_scal rfl rfl, ?_⟩ | refine ⟨_, rfl, ?_⟩)); (conv => whnf); (try dsimp only [PSt.set, List.set_cons_zero, List.set_cons_succ, wipeP, backP, List.getD_cons_zero, List.getD_cons_succ]); exact h
  | bl i => (repeat ((conv => whnf); first | refine k_i1 ?_ | refine k_i2 ?_ | refine k_i3 ?_ | refine k_i4 ?_ | refine k_i5 ?_ | refine k_i6 ?_ | refine k_i7 ?_ | refine k_b1 ?_ | refine k_b2 ?_ | refine k_b3 ?_ | refine k_b4 ?_ | refine k_b5 ?_ | refine k_b6 ?_ | refine k_b7 ?_ | refine k_s1 ?_ | refine k_s2 ?_ | refine k_s3 ?_ | refine k_s4 ?_ | refine k_s5 ?_ | refine k_s6 ?_ | refine k_s7 ?_ | refine k_t1 ?_ | refine k_t2 ?_ | refine k_t3 ?_ | refine k_t4 ?_ | refine k_t5 ?_ | refine k_t6 ?_ | refine k_t7 ?_ | refine k_l1 ?_ | refine k_l2 ?_ | refine k_l3 ?_ | refine k_l4 ?_ | refine k_l5 ?_ | refine k_l6 ?_ | refine k_l7 ?_ | refine k_n6 ?_ | refine k_n7 ?_ | refine k_n1 ?_ | refine k_n2 ?_ | refine k_n3 ?_ | refine k_n4 ?_ | refine k_n5 ?_ | refine ⟨dok_scal rfl rfl, dok_scal rfl rfl, ?_⟩ | refine ⟨_, rfl, ?_⟩)); (conv => whnf); (try dsimp only [PSt.set, List.set_cons_zero, List.set_cons_succ, wipeP, backP, List.getD_cons_zero, List.getD_cons_succ]); exact h
  | str i => (repeat ((conv => whnf); first | refine k_i1 ?_ | refine k_i2 ?_ | refine k_i3 ?_ | refine k_i4 ?_ | refine k_i5 ?_ | refine k_i6 ?_ | refine k_i7 ?_ | refine k_b1 ?_ | refine k_b2 ?_ | refine k_b3 ?_ | refine k_b4 ?_ | refine k_b5 ?_ | refine k_b6 ?_ | refine k_b7 ?_ | refine k_s1 ?_ | refine k_s2 ?_ | refine k_s3 ?_ | refine k_s4 ?_ | refine k_s5 ?_ | refine k_s6 ?_ | refine k_s7 ?_ | refine k_t1 ?_ | refine k_t2 ?_ | refine k_t3 ?_ | refine k_t4 ?_ | refine k_t5 ?_ | refine k_t6 ?_ | refine k_t7 ?_ | refine k_l1 ?_ | refine k_l2 ?_ | refine k_l3 ?_ | refine k_l4 ?_ | refine k_l5 ?_ | refine k_l6 ?_ | refine k_l7 ?_ | refine k_n6 ?_ | refine k_n7 ?_ | refine k_n1 ?_ | refine k_n2 ?_ | refine k_n3 ?_ | refine k_n4 ?_ | refine k_n5 ?_ | refine ⟨dok_scal rfl rfl, dok_scal rfl rfl, ?_⟩ | refine ⟨_, rfl, ?_⟩)); (conv => whnf); (try dsimp only [PSt.set, List.set_cons_zero, List.set_cons_succ, wipeP, backP, List.getD_cons_zero, List.getD_cons_succ]); exact h
  | non => (repeat ((conv => whnf); first | refine k_i1 ?_ | refine k_i2 ?_ | refine k_i3 ?_ | refine k_i4 ?_ | refine k_i5 ?_ | refine k_i6 ?_ | refine k_i7 ?_ | refine k_b1 ?_ | refine k_b2 ?_ | refine k_b3 ?_ | refine k_b4 ?_ | refine k_b5 ?_ | refine k_b6 ?_ | refine k_b7 ?_ | refine k_s1 ?_ | refine k_s2 ?_ | refine k_s3 ?_ | refine k_s4 ?_ | refine k_s5 ?_ | refine k_s6 ?_ | refine k_s7 ?_ | refine k_t1 ?_ | refine k_t2 ?_ | refine k_t3 ?_ | refine k_t4 ?_ | refine k_t5 ?_ | refine k_t6 ?_ | refine k_t7 ?_ | refine k_l1 ?_ | refine k_l2 ?_ | refine k_l3 ?_ | refine k_l4 ?_ | refine k_l5 ?_ | refine k_l6 ?_ | refine k_l7 ?_ | refine k_n6 ?_ | refine k_n7 ?_ | refine k_n1 ?_ | refine k_n2 ?_ | refine k_n3 ?_ | refine k_n4 ?_ | refine k_n5 ?_ | refine ⟨dok_scal rfl rfl, dok_scal rfl rfl, ?_⟩ | refine ⟨_, rfl, ?_⟩)); (conv => whnf); (try dsimp only [PSt.set, List.set_cons_zero, List.set_cons_succ, wipeP, backP, List.getD_cons_zero, List.getD_cons_succ]); exact h
  | tup i => (repeat ((conv => whnf); first | refine k_i1 ?_ | refine k_i2 ?_ | refine k_i3 ?_ | refine k_i4 ?_ | refine k_i5 ?_ | refine k_i6 ?_ | refine k_i7 ?_ | refine k_b1 ?_ | refine k_b2 ?_ | refine k_b3 ?_ | refine k_b4 ?_ | refine k_b5 ?_ | refine k_b6 ?_ | refine k_b7 ?_ | refine k_s1 ?_ | refine k_s2 ?_ | refine k_s3 ?_ | refine k_s4 ?_ | refine k_s5 ?_ | refine k_s6 ?_ | refine k_s7 ?_ | refine k_t1 ?_ | refine k_t2 ?_ | refine k_t3 ?_ | refine k_t4 ?_ | refine k_t5 ?_ | refine k_t6 ?_ | refine k_t7 ?_ | refine k_l1 ?_ | refine k_l2 ?_ | refine k_l3 ?_ | refine k_l4 ?_ | refine k_l5 ?_ | refine k_l6 ?_ | refine k_l7 ?_ | refine k_n6 ?_ | refine k_n7 ?_ | refine k_n1 ?_ | refine k_n2 ?_ | refine k_n3 ?_ | refine k_n4 ?_ | refine k_n5 ?_ | refine ⟨dok_scal rfl rfl, dok_scal rfl rfl, ?_⟩ | refine ⟨_, rfl, ?_⟩)); (conv => whnf); (try dsimp only [PSt.set, List.set_cons_zero, List.set_cons_succ, wipeP, backP, List.getD_cons_zero, List.getD_cons_succ]); exact h
  | lst i => (repeat ((conv => whnf); first | refine k_i1 ?_ | refine k_i2 ?_ | refine k_i3 ?_ | refine k_i4 ?_ | refine k_i5 ?_ | refine k_i6 ?_ | refine k_i7 ?_ | refine k_b1 ?_ | refine k_b2 ?_ | refine k_b3 ?_ | refine k_b4 ?_ | refine k_b5 ?_ | refine k_b6 ?_ | refine k_b7 ?_ | refine k_s1 ?_ | refine k_s2 ?_ | refine k_s3 ?_ | refine k_s4 ?_ | refine k_s5 ?_ | refine k_s6 ?_ | refine k_s7 ?_ | refine k_t1 ?_ | refine k_t2 ?_ | refine k_t3 ?_ | refine k_t4 ?_ | refine k_t5 ?_ | refine k_t6 ?_ | refine k_t7 ?_ | refine k_l1 ?_ | refine k_l2 ?_ | refine k_l3 ?_ | refine k_l4 ?_ | refine k_l5 ?_ | refine k_l6 ?_ | refine k_l7 ?_ | refine k_n6 ?_ | refine k_n7 ?_ | refine k_n1 ?_ | refine k_n2 ?_ | refine k_n3 ?_ | refine k_n4 ?_ | refine k_n5 ?_ | refine ⟨dok_scal rfl rfl, dok_scal rfl rfl, ?_⟩ | refine ⟨_, rfl, ?_⟩)); (conv => whnf); (try dsimp only [PSt.set, List.set_cons_zero, List.set_cons_succ, wipeP, backP, List.getD_cons_zero, List.getD_cons_succ]); exact h
  | ty i => cases hv
  | ro i => cases hv
  | fn i => cases hv
  | cell => cases hv

theorem g_within {m : Nat} {v : PV} {a b : Int} {d : Nat} {J : Slot → Nat → Prop} {E : EX} (hv : isData v = true) (h : J (.val (.bl (inR v a b))) d) : sem T (m + 2) 1 [v, .int a, .int b] d J E := by
  by_cases q : isI v = true
  · cases v with
    | int i => exact p_within h
    | _ => cases q
  · refine u_is_within ?_
    (repeat ((conv => whnf); first | refine k_i1 ?_ | refine k_i2 ?_ | refine k_i3 ?_ | refine k_i4 ?_ | refine k_i5 ?_ | refine k_i6 ?_ | refine k_i7 ?_ | refine k_b1 ?_ | refine k_b2 ?_ | refine k_b3 ?_ | refine k_b4 ?_ | refine k_b5 ?_ | refine k_b6 ?_ | refine k_b7 ?_ | refine k_s1 ?_ | refine k_s2 ?_ | refine k_s3 ?_ | refine k_s4 ?_ | refine k_s5 ?_ | refine k_s6 ?_ | refine k_s7 ?_ | refine k_t1 ?_ | refine k_t2 ?_ | refine k_t3 ?_ | refine k_t4 ?_ | refine k_t5 ?_ | refine k_t6 ?_ | refine k_t7 ?_ | refine k_l1 ?_ | refine k_l2 ?_ | refine k_l3 ?_ | refine k_l4 ?_ | refine k_l5 ?_ | refine k_l6 ?_ | refine k_l7 ?_ | refine k_n6 ?_ | refine k_n7 ?_ | refine k_n1 ?_ | refine k_n2 ?_ | refine k_n3 ?_ | refine k_n4 ?_ | refine k_n5 ?_ | refine ⟨dok_scal rfl rfl, dok_scal rfl rfl, ?_⟩ | refine ⟨_, rfl, ?_⟩)); (conv => whnf); (try dsimp only [PSt.set, List.set_cons_zero, List.set_cons_succ, wipeP, backP, List.getD_cons_zero, List.getD_cons_succ])
    refine g_num hv ?_
    rw [Bool.eq_false_iff.mpr q]
    (repeat ((conv => whnf); first | refine k_i1 ?_ | refine k_i2 ?_ | refine k_i3 ?_ | refine k_i4 ?_ | refine k_i5 ?_ | refine k_i6 ?_ | refine k_i7 ?_ | refine k_b1 ?_ | refine k_b2 ?_ | refine k_b3 ?_ | refine k_b4 ?_ | refine k_b5 ?_ | refine k_b6 ?_ | refine k_b7 ?_ | refine k_s1 ?_ | refine k_s2 ?_ | refine k_s3 ?_ | refine k_s4 ?_ | refine k_s5 ?_ | refine k_s6 ?_ | refine k_s7 ?_ | refine k_t1 ?_ | refine k_t2 ?_ | refine k_t3 ?_ | refine k_t4 ?_ | refine k_t5 ?_ | refine k_t6 ?_ | refine k_t7 ?_ | refine k_l1 ?_ | refine k_l2 ?_ | refine k_l3 ?_ | refine k_l4 ?_ | refine k_l5 ?_ | refine k_l6 ?_ | refine k_l7 ?_ | refine k_n6 ?_ | refine k_n7 ?_ | refine k_n1 ?_ | refine k_n2 ?_ | refine k_n3 ?_ | refine k_n4 ?_ | refine k_n5 ?_ | refine ⟨dok_scal rfl rfl, dok_scal rfl rfl, ?_⟩ | refine ⟨_, rfl, ?_⟩)); (conv => whnf); (try dsimp only [PSt.set, List.set_cons_zero, List.set_cons_succ, wipeP, backP, List.getD_cons_zero, List.getD_cons_succ])
    have e : inR v a b = false := by
      cases v with
      | int i => exact absurd rfl q
      | _ => rfl
    rw [e] at h
    exact h

theorem p_sure_bad {m : Nat} {v : PV} {a b : Int} {d : Nat} {J : Slot → Nat → Prop} {E : EX} (hv : isData v = true) (hb : inR v a b = false) (h : E .unfit d) : sem T (m + 3) 5 [v, .int a, .int b] d J E := by
  refine u_sure_within ?_
  (repeat ((conv => whnf); first | refine k_i1 ?_ | refine k_i2 ?_ | refine k_i3 ?_ | refine k_i4 ?_ | refine k_i5 ?_ | refine k_i6 ?_ | refine k_i7 ?_ | refine k_b1 ?_ | refine k_b2 ?_ | refine k_b3 ?_ | refine k_b4 ?_ | refine k_b5 ?_ | refine k_b6 ?_ | refine k_b7 ?_ | refine k_s1 ?_ | refine k_s2 ?_ | refine k_s3 ?_ | refine k_s4 ?_ | refine k_s5 ?_ | refine k_s6 ?_ | refine k_s7 ?_ | refine k_t1 ?_ | refine k_t2 ?_ | refine k_t3 ?_ | refine k_t4 ?_ | refine k_t5 ?_ | refine k_t6 ?_ | refine k_t7 ?_ | refine k_l1 ?_ | refine k_l2 ?_ | refine k_l3 ?_ | refine k_l4 ?_ | refine k_l5 ?_ | refine k_l6 ?_ | refine k_l7 ?_ | refine k_n6 ?_ | refine k_n7 ?_ | refine k_n1 ?_ | refine k_n2 ?_ | refine k_n3 ?_ | refine k_n4 ?_ | refine k_n5 ?_ | refine ⟨dok_scal rfl rfl, dok_scal rfl rfl, ?_⟩ | refine ⟨_, rfl, ?_⟩)); (conv => whnf); (try dsimp only [PSt.set, List.set_cons_zero, List.set_cons_succ, wipeP, backP, List.getD_cons_zero, List.getD_cons_succ])
  refine g_within hv ?_
  rw [hb]
  (repeat ((conv => whnf); first | refine k_i1 ?_ | refine k_i2 ?_ | refine k_i3 ?_ | refine k_i4 ?_ | refine k_i5 ?_ | refine k_i6 ?_ | refine k_i7 ?_ | refine k_b1 ?_ | refine k_b2 ?_ | refine k_b3 ?_ | refine k_b4 ?_ | refine k_b5 ?_ | refine k_b6 ?_ | refine k_b7 ?_ | refine k_s1 ?_ | refine k_s2 ?_ | refine k_s3 ?_ | refine k_s4 ?_ | refine k_s5 ?_ | refine k_s6 ?_ | refine k_s7 ?_ | refine k_t1 ?_ | refine k_t2 ?_ | refine k_t3 ?_ | refine k_t4 ?_ | refine k_t5 ?_ | refine k_t6 ?_ | refine k_t7 ?_ | refine k_l1 ?_ | refine k_l2 ?_ | refine k_l3 ?_ | refine k_l4 ?_ | refine k_l5 ?_ | refine k_l6 ?_ | refine k_l7 ?_ | refine k_n6 ?_ | refine k_n7 ?_ | refine k_n1 ?_ | refine k_n2 ?_ | refine k_n3 ?_ | refine k_n4 ?_ | refine k_n5 ?_ | refine ⟨dok_scal rfl rfl, dok_scal rfl rfl, ?_⟩ | refine ⟨_, rfl, ?_⟩)); (conv => whnf); (try dsimp only [PSt.set, List.set_cons_zero, List.set_cons_succ, wipeP, backP, List.getD_cons_zero, List.getD_cons_succ])
  exact h

theorem p_tupled_l2 {m : Nat} {p q : Int} {d : Nat} {J : Slot → Nat → Prop} {E : EX} (h : J (.val (.tup [.int p, .int q])) d) : sem T (m + 2) 4 [.lst [.int p, .int q]] d J E := by
  refine u_tupled ?_
  (repeat ((conv => whnf); first | refine k_i1 ?_ | refine k_i2 ?_ | refine k_i3 ?_ | refine k_i4 ?_ | refine k_i5 ?_ | refine k_i6 ?_ | refine k_i7 ?_ | refine k_b1 ?_ | refine k_b2 ?_ | refine k_b3 ?_ | refine k_b4 ?_ | refine k_b5 ?_ | refine k_b6 ?_ | refine k_b7 ?_ | refine k_s1 ?_ | refine k_s2 ?_ | refine k_s3 ?_ | refine k_s4 ?_ | refine k_s5 ?_ | refine k_s6 ?_ | refine k_s7 ?_ | refine k_t1 ?_ | refine k_t2 ?_ | refine k_t3 ?_ | refine k_t4 ?_ | refine k_t5 ?_ | refine k_t6 ?_ | refine k_t7 ?_ | refine k_l1 ?_ | refine k_l2 ?_ | refine k_l3 ?_ | refine k_l4 ?_ | refine k_l5 ?_ | refine k_l6 ?_ | refine k_l7 ?_ | refine k_n6 ?_ | refine k_n7 ?_ | refine k_n1 ?_ | refine k_n2 ?_ | refine k_n3 ?_ | refine k_n4 ?_ | refine k_n5 ?_ | refine ⟨dok_scal rfl rfl, dok_scal rfl rfl, ?_⟩ | refine ⟨_, rfl, ?_⟩)); (conv => whnf); (try dsimp only [PSt.set, List.set_cons_zero, List.set_cons_succ, wipeP, backP, List.getD_cons_zero, List.getD_cons_succ])
  refine p_tupled_int ?_
  (conv => whnf); (try dsimp only [PSt.set, List.set_cons_zero, List.set_cons_succ, wipeP, backP, List.getD_cons_zero, List.getD_cons_succ])
  refine ⟨by simp, ?_⟩
  (repeat ((conv => whnf); first | refine k_i1 ?_ | refine k_i2 ?_ | refine k_i3 ?_ | refine k_i4 ?_ | refine k_i5 ?_ | refine k_i6 ?_ | refine k_i7 ?_ | refine k_b1 ?_ | refine k_b2 ?_ | refine k_b3 ?_ | refine k_b4 ?_ | refine k_b5 ?_ | refine k_b6 ?_ | refine k_b7 ?_ | refine k_s1 ?_ | refine k_s2 ?_ | refine k_s3 ?_ | refine k_s4 ?_ | refine k_s5 ?_ | refine k_s6 ?_ | refine k_s7 ?_ | refine k_t1 ?_ | refine k_t2 ?_ | refine k_t3 ?_ | refine k_t4 ?_ | refine k_t5 ?_ | refine k_t6 ?_ | refine k_t7 ?_ | refine k_l1 ?_ | refine k_l2 ?_ | refine k_l3 ?_ | refine k_l4 ?_ | refine k_l5 ?_ | refine k_l6 ?_ | refine k_l7 ?_ | refine k_n6 ?_ | refine k_n7 ?_ | refine k_n1 ?_ | refine k_n2 ?_ | refine k_n3 ?_ | refine k_n4 ?_ | refine k_n5 ?_ | refine ⟨dok_scal rfl rfl, dok_scal rfl rfl, ?_⟩ | refine ⟨_, rfl, ?_⟩)); (conv => whnf); (try dsimp only [PSt.set, List.set_cons_zero, List.set_cons_succ, wipeP, backP, List.getD_cons_zero, List.getD_cons_succ])
  refine p_tupled_int ?_
  (conv => whnf); (try dsimp only [PSt.set, List.set_cons_zero, List.set_cons_succ, wipeP, backP, List.getD_cons_zero, List.getD_cons_succ])
  refine ⟨by simp, ?_⟩
  (repeat ((conv => whnf); first | refine k_i1 ?_ | refine k_i2 ?_ | refine k_i3 ?_ | refine k_i4 ?_ | refine k_i5 ?_ | refine k_i6 ?_ | refine k_i7 ?_ | refine k_b1 ?_ | refine k_b2 ?_ | refine k_b3 ?_ | refine k_b4 ?_ | refine k_b5 ?_ | refine k_b6 ?_ | refine k_b7 ?_ | refine k_s1 ?_ | refine k_s2 ?_ | refine k_s3 ?_ | refine k_s4 ?_ | refine k_s5 ?_ | refine k_s6 ?_ | refine k_s7 ?_ | refine k_t1 ?_ | refine k_t2 ?_ | refine k_t3 ?_ | refine k_t4 ?_ | refine k_t5 ?_ | refine k_t6 ?_ | refine k_t7 ?_ | refine k_l1 ?_ | refine k_l2 ?_ | refine k_l3 ?_ | refine k_l4 ?_ | refine k_l5 ?_ | refine k_l6 ?_ | refine k_l7 ?_ | refine k_n6 ?_ | refine k_n7 ?_ | refine k_n1 ?_ | refine k_n2 ?_ | refine k_n3 ?_ | refine k_n4 ?_ | refine k_n5 ?_ | refine ⟨dok_scal rfl rfl, dok_scal rfl rfl, ?_⟩ | refine ⟨_, rfl, ?_⟩)); (conv => whnf); (try dsimp only [PSt.set, List.set_cons_zero, List.set_cons_succ, wipeP, backP, List.getD_cons_zero, List.getD_cons_succ])
  exact h

theorem p_sure_rule_l {m : Nat} {p q : Int} {d : Nat} {J : Slot → Nat → Prop} {E : EX} (hp : -1000 ≤ p ∧ p ≤ 1000) (hq : -1000 ≤ q ∧ q ≤ 1000) (h0 : q ≠ 0) (h : J (.val (.tup [.int p, .int q])) d) : sem T (m + 4) 7 [.lst [.int p, .int q]] d J E := by
  refine u_sure_rule ?_
  (repeat ((conv => whnf); first | refine k_i1 ?_ | refine k_i2 ?_ | refine k_i3 ?_ | refine k_i4 ?_ | refine k_i5 ?_ | refine k_i6 ?_ | refine k_i7 ?_ | refine k_b1 ?_ | refine k_b2 ?_ | refine k_b3 ?_ | refine k_b4 ?_ | refine k_b5 ?_ | refine k_b6 ?_ | refine k_b7 ?_ | refine k_s1 ?_ | refine k_s2 ?_ | refine k_s3 ?_ | refine k_s4 ?_ | refine k_s5 ?_ | refine k_s6 ?_ | refine k_s7 ?_ | refine k_t1 ?_ | refine k_t2 ?_ | refine k_t3 ?_ | refine k_t4 ?_ | refine k_t5 ?_ | refine k_t6 ?_ | refine k_t7 ?_ | refine k_l1 ?_ | refine k_l2 ?_ | refine k_l3 ?_ | refine k_l4 ?_ | refine k_l5 ?_ | refine k_l6 ?_ | refine k_l7 ?_ | refine k_n6 ?_ | refine k_n7 ?_ | refine k_n1 ?_ | refine k_n2 ?_ | refine k_n3 ?_ | refine k_n4 ?_ | refine k_n5 ?_ | refine ⟨dok_scal rfl rfl, dok_scal rfl rfl, ?_⟩ | refine ⟨_, rfl, ?_⟩)); (conv => whnf); (try dsimp only [PSt.set, List.set_cons_zero, List.set_cons_succ, wipeP, backP, List.getD_cons_zero, List.getD_cons_succ])
  refine p_tupled_l2 ?_
  (repeat ((conv => whnf); first | refine k_i1 ?_ | refine k_i2 ?_ | refine k_i3 ?_ | refine k_i4 ?_ | refine k_i5 ?_ | refine k_i6 ?_ | refine k_i7 ?_ | refine k_b1 ?_ | refine k_b2 ?_ | refine k_b3 ?_ | refine k_b4 ?_ | refine k_b5 ?_ | refine k_b6 ?_ | refine k_b7 ?_ | refine k_s1 ?_ | refine k_s2 ?_ | refine k_s3 ?_ | refine k_s4 ?_ | refine k_s5 ?_ | refine k_s6 ?_ | refine k_s7 ?_ | refine k_t1 ?_ | refine k_t2 ?_ | refine k_t3 ?_ | refine k_t4 ?_ | refine k_t5 ?_ | refine k_t6 ?_ | refine k_t7 ?_ | refine k_l1 ?_ | refine k_l2 ?_ | refine k_l3 ?_ | refine k_l4 ?_ | refine k_l5 ?_ | refine k_l6 ?_ | refine k_l7 ?_ | refine k_n6 ?_ | refine k_n7 ?_ | refine k_n1 ?_ | refine k_n2 ?_ | refine k_n3 ?_ | refine k_n4 ?_ | refine k_n5 ?_ | refine ⟨dok_scal rfl rfl, dok_scal rfl rfl, ?_⟩ | refine ⟨_, rfl, ?_⟩)); (conv => whnf); (try dsimp only [PSt.set, List.set_cons_zero, List.set_cons_succ, wipeP, backP, List.getD_cons_zero, List.getD_cons_succ])
  refine p_rule_in hp hq h0 ?_
  (repeat ((conv => whnf); first | refine k_i1 ?_ | refine k_i2 ?_ | refine k_i3 ?_ | refine k_i4 ?_ | refine k_i5 ?_ | refine k_i6 ?_ | refine k_i7 ?_ | refine k_b1 ?_ | refine k_b2 ?_ | refine k_b3 ?_ | refine k_b4 ?_ | refine k_b5 ?_ | refine k_b6 ?_ | refine k_b7 ?_ | refine k_s1 ?_ | refine k_s2 ?_ | refine k_s3 ?_ | refine k_s4 ?_ | refine k_s5 ?_ | refine k_s6 ?_ | refine k_s7 ?_ | refine k_t1 ?_ | refine k_t2 ?_ | refine k_t3 ?_ | refine k_t4 ?_ | refine k_t5 ?_ | refine k_t6 ?_ | refine k_t7 ?_ | refine k_l1 ?_ | refine k_l2 ?_ | refine k_l3 ?_ | refine k_l4 ?_ | refine k_l5 ?_ | refine k_l6 ?_ | refine k_l7 ?_ | refine k_n6 ?_ | refine k_n7 ?_ | refine k_n1 ?_ | refine k_n2 ?_ | refine k_n3 ?_ | refine k_n4 ?_ | refine k_n5 ?_ | refine ⟨dok_scal rfl rfl, dok_scal rfl rfl, ?_⟩ | refine ⟨_, rfl, ?_⟩)); (conv => whnf); (try dsimp only [PSt.set, List.set_cons_zero, List.set_cons_succ, wipeP, backP, List.getD_cons_zero, List.getD_cons_succ])
  exact h

theorem pyEqs_ints : ∀ l : List Int, pyEqs (l.map PV.int) (l.map PV.int) = true
  | [] => rfl
  | x :: l => by
    show ((x == x) && pyEqs (l.map PV.int) (l.map PV.int)) = true
    rw [pyEqs_ints l]
    simp
theorem data_ints : ∀ l : List Int, areData (l.map PV.int) = true ∧ deeps (l.map PV.int) = 0
  | [] => ⟨rfl, rfl⟩
  | x :: l => by
    obtain ⟨h1, h2⟩ := data_ints l
    refine ⟨?_, ?_⟩
    · show (true && areData (l.map PV.int)) = true
      rw [h1]
      rfl
    · show max 0 (deeps (l.map PV.int)) = 0
      rw [h2]
      rfl
theorem dok_ints (l : List Int) : dataOk (.lst (l.map PV.int)) := by
  obtain ⟨h1, h2⟩ := data_ints l
  refine ⟨h1, ?_⟩
  show deeps (l.map PV.int) + 1 ≤ 60
  omega

theorem sq_lt {a b : Int} (ha : 0 ≤ a) (h : a < b) : a * a < b * b := by
  have h1 : a * a ≤ a * b := Int.mul_le_mul_of_nonneg_left (Int.le_of_lt h) ha
  have h2 : a * b < b * b := Int.mul_lt_mul_of_pos_right h (Int.lt_of_le_of_lt ha h)
  omega
theorem sq_le {a b : Int} (ha : 0 ≤ a) (h : a ≤ b) : a * a ≤ b * b := by
  rcases Int.lt_or_eq_of_le h with h | h
  · exact Int.le_of_lt (sq_lt ha h)
  · rw [h]; exact Int.le_refl _
theorem le_sq {a : Int} (h : 1 ≤ a) : a ≤ a * a := by
  have := Int.mul_le_mul_of_nonneg_left h (by omega : 0 ≤ a)
  omega
theorem sq_inj {a b n : Int} (ha : 0 ≤ a) (hb : 0 ≤ b) (h1 : a * a ≤ n) (h2 : n < (a + 1) * (a + 1)) (h3 : b * b ≤ n) (h4 : n < (b + 1) * (b + 1)) : a = b := by
  rcases Int.lt_trichotomy a b with h | h | h
  · have := sq_le (by omega : 0 ≤ a + 1) (by omega : a + 1 ≤ b)
    omega
  · exact h
  · have := sq_le (by omega : 0 ≤ b + 1) (by omega : b + 1 ≤ a)
    omega
theorem fdiv2 (x : Int) : 2 * x.fdiv 2 ≤ x ∧ x ≤ 2 * x.fdiv 2 + 1 := by
  rw [Int.fdiv_eq_ediv_of_nonneg x (by decide)]
  omega
theorem d2 {x : Int} : DivOk x 2 := divS (by decide) (by decide)

/-- the terms -/
def U (p q : Int) : Nat → Int
  | 0 => 0
  | 1 => 1
  | n + 2 => p * U p q (n + 1) - q * U p q n
def Vc (p q : Int) : Nat → Int
  | 0 => 2
  | 1 => p
  | n + 2 => p * Vc p q (n + 1) - q * Vc p q n
theorem U_ss (p q : Int) (n : Nat) : U p q (n + 2) = p * U p q (n + 1) - q * U p q n := by rw [U]
theorem Vc_ss (p q : Int) (n : Nat) : Vc p q (n + 2) = p * Vc p q (n + 1) - q * Vc p q n := by rw [Vc]
theorem U_add (p q : Int) (m : Nat) : ∀ n, U p q (m + n + 1) = U p q (m + 1) * U p q (n + 1) - q * U p q m * U p q n ∧ U p q (m + n + 2) = U p q (m + 1) * U p q (n + 2) - q * U p q m * U p q (n + 1)
  | 0 => by
    refine ⟨by simp [U], ?_⟩
    rw [show m + 0 + 2 = m + 2 from rfl, U_ss, U_ss]
    simp [U]
    grind
  | n + 1 => by
    obtain ⟨h1, h2⟩ := U_add p q m n
    refine ⟨h2, ?_⟩
    rw [show m + (n + 1) + 2 = (m + n + 1) + 2 from by omega, U_ss, show m + n + 1 + 1 = m + n + 2 from rfl, h1, h2, show n + 1 + 2 = (n + 1) + 2 from rfl, U_ss p q (n + 1), show n + 1 + 1 = n + 2 from rfl, U_ss p q n]
    grind
theorem U_addn (p q : Int) (m n : Nat) : U p q (m + n + 1) = U p q (m + 1) * U p q (n + 1) - q * U p q m * U p q n := (U_add p q m n).1
theorem sm10 {p : Int} (h1 : -1000 ≤ p) (h2 : p ≤ 1000) : Sm 10 p := by
  unfold Sm
  omega
theorem sm_rule {p : Int} (h : -1000 ≤ p ∧ p ≤ 1000) : Sm 10 p := sm10 h.1 h.2
theorem sm_lin {p q a b : Int} {k : Nat} (hp : Sm 10 p) (hq : Sm 10 q) (ha : Sm (k + 11) a) (hb : Sm k b) : Sm (k + 22) (p * a - q * b) :=
  (Sm.sub (c := k + 22) (hp.mul ha (c := k + 21) (by omega)) (hq.mul hb (c := k + 21) (by omega)) (by omega))
theorem U_sm {p q : Int} (hp : Sm 10 p) (hq : Sm 10 q) : ∀ n, Sm (11 * n) (U p q n) ∧ Sm (11 * n + 11) (U p q (n + 1))
  | 0 => by unfold Sm; simp [U]
  | n + 1 => by
    obtain ⟨h1, h2⟩ := U_sm hp hq n
    exact ⟨h2, by rw [U_ss]; exact sm_lin hp hq h2 h1⟩
theorem Vc_sm {p q : Int} (hp : Sm 10 p) (hq : Sm 10 q) : ∀ n, Sm (11 * n + 2) (Vc p q n) ∧ Sm (11 * n + 13) (Vc p q (n + 1))
  | 0 => by
    refine ⟨by unfold Sm; simp [Vc], ?_⟩
    show Sm 13 p
    exact hp.mono (by decide)
  | n + 1 => by
    obtain ⟨h1, h2⟩ := Vc_sm hp hq n
    exact ⟨h2, by rw [Vc_ss]; exact sm_lin (k := 11 * n + 2) hp hq h2 h1⟩
def rowU (p q : Int) (n : Nat) : List PV := (List.range n).map fun i => .int (U p q i)
def rowV (p q : Int) (n : Nat) : List PV := (List.range n).map fun i => .int (Vc p q i)
theorem rowU_len {p q : Int} {n : Nat} : (rowU p q n).length = n := by unfold rowU; simp
theorem rowV_len {p q : Int} {n : Nat} : (rowV p q n).length = n := by unfold rowV; simp
theorem rowU_get {p q : Int} {n i : Nat} (h : i < n) : (rowU p q n)[i]? = some (.int (U p q i)) := by
  unfold rowU
  rw [List.getElem?_map, List.getElem?_range h]
  rfl
theorem rowV_get {p q : Int} {n i : Nat} (h : i < n) : (rowV p q n)[i]? = some (.int (Vc p q i)) := by
  unfold rowV
  rw [List.getElem?_map, List.getElem?_range h]
  rfl
theorem rowU_at {p q : Int} {n i : Nat} (h : i < n) : atI (rowU p q n) (i : Int) = some (.int (U p q i)) := at_nat (rowU_get h)
theorem rowV_at {p q : Int} {n i : Nat} (h : i < n) : atI (rowV p q n) (i : Int) = some (.int (Vc p q i)) := at_nat (rowV_get h)
theorem rowU_last {p q : Int} {n : Nat} : atI (rowU p q (n + 1)) (-1) = some (.int (U p q n)) := at_neg (j := 0) (by rw [rowU_len]; exact rowU_get (by omega)) (by rw [rowU_len]; omega)
theorem rowV_last {p q : Int} {n : Nat} : atI (rowV p q (n + 1)) (-1) = some (.int (Vc p q n)) := at_neg (j := 0) (by rw [rowV_len]; exact rowV_get (by omega)) (by rw [rowV_len]; omega)
theorem rowU_last2 {p q : Int} {n : Nat} : atI (rowU p q (n + 2)) (-2) = some (.int (U p q n)) := at_neg (j := 1) (by rw [rowU_len]; exact rowU_get (by omega)) (by rw [rowU_len]; omega)
theorem rowV_last2 {p q : Int} {n : Nat} : atI (rowV p q (n + 2)) (-2) = some (.int (Vc p q n)) := at_neg (j := 1) (by rw [rowV_len]; exact rowV_get (by omega)) (by rw [rowV_len]; omega)
theorem rowU_app {p q : Int} {n : Nat} : rowU p q n ++ [.int (U p q n)] = rowU p q (n + 1) := by unfold rowU; rw [List.range_succ, List.map_append]; rfl
theorem rowV_app {p q : Int} {n : Nat} : rowV p q n ++ [.int (Vc p q n)] = rowV p q (n + 1) := by unfold rowV; rw [List.range_succ, List.map_append]; rfl
theorem cut_to0 {α : Type} (xs : List α) (k : Nat) : cutP xs none (some (k : Int)) = xs.take k := by
  unfold cutP
  rw [HT.sIx_none, HT.sIx_nat, List.drop_zero, Nat.sub_zero]
  rcases Nat.le_total k xs.length with h | h
  · rw [Nat.min_eq_left h]
  · rw [Nat.min_eq_right h, List.take_length, List.take_of_length_le h]
theorem rowU_cut {p q : Int} {n k : Nat} (h : k ≤ n) : cutP (rowU p q n) none (some (k : Int)) = rowU p q k := by
  rw [cut_to0]
  unfold rowU
  rw [← List.map_take, List.take_range, Nat.min_eq_left h]
theorem rowV_cut {p q : Int} {n k : Nat} (h : k ≤ n) : cutP (rowV p q n) none (some (k : Int)) = rowV p q k := by
  rw [cut_to0]
  unfold rowV
  rw [← List.map_take, List.take_range, Nat.min_eq_left h]
theorem row_dok {x : Str} (h : PyData.strOk x = true) : dataOk (.str x) := ⟨h, Nat.zero_le _⟩

theorem p_law_terms_u {m : Nat} {p q : Int} {k : Nat} {d : Nat} {J : Slot → Nat → Prop} {E : EX} (hp : Sm 10 p) (hq : Sm 10 q) (hk : k ≤ 20000) (h : J (.val (.lst (rowU p q k))) d) : sem T (m + 1) 30 [.tup [.int p, .int q], .str "u", .int k] d J E := by
  refine u__law_terms ?_
  (conv => whnf); (try dsimp only [PSt.set, List.set_cons_zero, List.set_cons_succ, wipeP, backP, List.getD_cons_zero, List.getD_cons_succ])
  refine ⟨row_dok (by decide +kernel), row_dok (by decide +kernel), ?_⟩
  rw [show pyEq (.str "u") (.str "u") = true by decide +kernel]
  (repeat ((conv => whnf); first | refine k_i1 ?_ | refine k_i2 ?_ | refine k_i3 ?_ | refine k_i4 ?_ | refine k_i5 ?_ | refine k_i6 ?_ | refine k_i7 ?_ | refine k_b1 ?_ | refine k_b2 ?_ | refine k_b3 ?_ | refine k_b4 ?_ | refine k_b5 ?_ | refine k_b6 ?_ | refine k_b7 ?_ | refine k_s1 ?_ | refine k_s2 ?_ | refine k_s3 ?_ | refine k_s4 ?_ | refine k_s5 ?_ | refine k_s6 ?_ | refine k_s7 ?_ | refine k_t1 ?_ | refine k_t2 ?_ | refine k_t3 ?_ | refine k_t4 ?_ | refine k_t5 ?_ | refine k_t6 ?_ | refine k_t7 ?_ | refine k_l1 ?_ | refine k_l2 ?_ | refine k_l3 ?_ | refine k_l4 ?_ | refine k_l5 ?_ | refine k_l6 ?_ | refine k_l7 ?_ | refine k_n6 ?_ | refine k_n7 ?_ | refine k_n1 ?_ | refine k_n2 ?_ | refine k_n3 ?_ | refine k_n4 ?_ | refine k_n5 ?_ | refine ⟨dok_scal rfl rfl, dok_scal rfl rfl, ?_⟩ | refine ⟨_, rfl, ?_⟩)); (conv => whnf); (try dsimp only [PSt.set, List.set_cons_zero, List.set_cons_succ, wipeP, backP, List.getD_cons_zero, List.getD_cons_succ])
  refine ⟨by omega, ?_⟩
  refine forP_ind _ (fun i s => ∃ a, s = ⟨[.val (.tup [.int p, .int q]), .val (.str "u"), .val (.int k), .own (rowU p q (i + 2)), a], d⟩) (fun i x hx s hs W hW => ?_) (fun s hs => ?_) ⟨.un, rfl⟩
  · obtain ⟨a, rfl⟩ := hs
    have hi : i < k := by
      have := (List.getElem?_eq_some_iff.mp hx).1
      rw [rngL_length] at this
      omega
    obtain ⟨s1, s2⟩ := U_sm hp hq i
    (repeat ((conv => whnf); first | refine k_i1 ?_ | refine k_i2 ?_ | refine k_i3 ?_ | refine k_i4 ?_ | refine k_i5 ?_ | refine k_i6 ?_ | refine k_i7 ?_ | refine k_b1 ?_ | refine k_b2 ?_ | refine k_b3 ?_ | refine k_b4 ?_ | refine k_b5 ?_ | refine k_b6 ?_ | refine k_b7 ?_ | refine k_s1 ?_ | refine k_s2 ?_ | refine k_s3 ?_ | refine k_s4 ?_ | refine k_s5 ?_ | refine k_s6 ?_ | refine k_s7 ?_ | refine k_t1 ?_ | refine k_t2 ?_ | refine k_t3 ?_ | refine k_t4 ?_ | refine k_t5 ?_ | refine k_t6 ?_ | refine k_t7 ?_ | refine k_l1 ?_ | refine k_l2 ?_ | refine k_l3 ?_ | refine k_l4 ?_ | refine k_l5 ?_ | refine k_l6 ?_ | refine k_l7 ?_ | refine k_n6 ?_ | refine k_n7 ?_ | refine k_n1 ?_ | refine k_n2 ?_ | refine k_n3 ?_ | refine k_n4 ?_ | refine k_n5 ?_ | refine ⟨dok_scal rfl rfl, dok_scal rfl rfl, ?_⟩ | refine ⟨_, rfl, ?_⟩)); (conv => whnf); (try dsimp only [PSt.set, List.set_cons_zero, List.set_cons_succ, wipeP, backP, List.getD_cons_zero, List.getD_cons_succ])
    refine ⟨_, rowU_last, ?_⟩
    (conv => whnf); (try dsimp only [PSt.set, List.set_cons_zero, List.set_cons_succ, wipeP, backP, List.getD_cons_zero, List.getD_cons_succ])
    refine ⟨hp.ok s2 (by decide) (by omega), ?_⟩
    (repeat ((conv => whnf); first | refine k_i1 ?_ | refine k_i2 ?_ | refine k_i3 ?_ | refine k_i4 ?_ | refine k_i5 ?_ | refine k_i6 ?_ | refine k_i7 ?_ | refine k_b1 ?_ | refine k_b2 ?_ | refine k_b3 ?_ | refine k_b4 ?_ | refine k_b5 ?_ | refine k_b6 ?_ | refine k_b7 ?_ | refine k_s1 ?_ | refine k_s2 ?_ | refine k_s3 ?_ | refine k_s4 ?_ | refine k_s5 ?_ | refine k_s6 ?_ | refine k_s7 ?_ | refine k_t1 ?_ | refine k_t2 ?_ | refine k_t3 ?_ | refine k_t4 ?_ | refine k_t5 ?_ | refine k_t6 ?_ | refine k_t7 ?_ | refine k_l1 ?_ | refine k_l2 ?_ | refine k_l3 ?_ | refine k_l4 ?_ | refine k_l5 ?_ | refine k_l6 ?_ | refine k_l7 ?_ | refine k_n6 ?_ | refine k_n7 ?_ | refine k_n1 ?_ | refine k_n2 ?_ | refine k_n3 ?_ | refine k_n4 ?_ | refine k_n5 ?_ | refine ⟨dok_scal rfl rfl, dok_scal rfl rfl, ?_⟩ | refine ⟨_, rfl, ?_⟩)); (conv => whnf); (try dsimp only [PSt.set, List.set_cons_zero, List.set_cons_succ, wipeP, backP, List.getD_cons_zero, List.getD_cons_succ])
    refine ⟨_, rowU_last2, ?_⟩
    (conv => whnf); (try dsimp only [PSt.set, List.set_cons_zero, List.set_cons_succ, wipeP, backP, List.getD_cons_zero, List.getD_cons_succ])
    refine ⟨hq.ok s1 (by decide) (by omega), ?_⟩
    (conv => whnf); (try dsimp only [PSt.set, List.set_cons_zero, List.set_cons_succ, wipeP, backP, List.getD_cons_zero, List.getD_cons_succ])
    refine ⟨by rw [rowU_len]; omega, ?_⟩
    rw [← U_ss, rowU_app]
    exact hW _ ⟨_, rfl⟩
  · obtain ⟨a, rfl⟩ := hs
    (repeat ((conv => whnf); first | refine k_i1 ?_ | refine k_i2 ?_ | refine k_i3 ?_ | refine k_i4 ?_ | refine k_i5 ?_ | refine k_i6 ?_ | refine k_i7 ?_ | refine k_b1 ?_ | refine k_b2 ?_ | refine k_b3 ?_ | refine k_b4 ?_ | refine k_b5 ?_ | refine k_b6 ?_ | refine k_b7 ?_ | refine k_s1 ?_ | refine k_s2 ?_ | refine k_s3 ?_ | refine k_s4 ?_ | refine k_s5 ?_ | refine k_s6 ?_ | refine k_s7 ?_ | refine k_t1 ?_ | refine k_t2 ?_ | refine k_t3 ?_ | refine k_t4 ?_ | refine k_t5 ?_ | refine k_t6 ?_ | refine k_t7 ?_ | refine k_l1 ?_ | refine k_l2 ?_ | refine k_l3 ?_ | refine k_l4 ?_ | refine k_l5 ?_ | refine k_l6 ?_ | refine k_l7 ?_ | refine k_n6 ?_ | refine k_n7 ?_ | refine k_n1 ?_ | refine k_n2 ?_ | refine k_n3 ?_ | refine k_n4 ?_ | refine k_n5 ?_ | refine ⟨dok_scal rfl rfl, dok_scal rfl rfl, ?_⟩ | refine ⟨_, rfl, ?_⟩)); (conv => whnf); (try dsimp only [PSt.set, List.set_cons_zero, List.set_cons_succ, wipeP, backP, List.getD_cons_zero, List.getD_cons_succ])
    rw [rngL_length, rowU_cut (by omega)]
    exact h

theorem divSm {k : Nat} {i j : Int} (h : Sm k j) (hk : k ≤ 9000 := by decide) : DivOk i j := PyProof.noPylong_of_log2 (by
  by_cases hj : j.natAbs = 0
  · rw [hj]; decide
  · have : j.natAbs.log2 < 9000 := (Nat.log2_lt hj).mpr (Nat.lt_of_lt_of_le h (Nat.pow_le_pow_right (by decide) hk))
    omega)
theorem fm {a m : Int} (h : 0 < m) : a.fmod m = a % m := Int.fmod_eq_emod_of_nonneg _ (Int.le_of_lt h)
theorem t_take {m : Nat} {n : Int} {d : Nat} {J : Slot → Nat → Prop} {E : EX} (hd : 1 ≤ d) (h0 : 0 < n) (h1 : n < 2 ^ 400) (h : ∀ r : Int, 0 ≤ r → r < n → J (.val (.int r)) (d - 1)) : sem T m 25 [.cell, .int n] d J E := by
  obtain ⟨d, rfl⟩ : ∃ e, d = e + 1 := ⟨d - 1, by omega⟩
  exact u__law_take h0 h1 h
theorem at_mem {α : Type} {l : List α} {i : Int} (h0 : 0 ≤ i) (h1 : i < l.length) : ∃ v, v ∈ l ∧ atI l i = some v := by
  obtain ⟨j, rfl⟩ : ∃ j : Nat, i = (j : Int) := ⟨i.toNat, by omega⟩
  have hj : j < l.length := by omega
  exact ⟨l[j], List.getElem_mem _, at_nat (List.getElem?_eq_getElem hj)⟩

theorem p_law_of {m : Nat} {xs : List PV} {d : Nat} {J : Slot → Nat → Prop} {E : EX} (hd : 1 ≤ d) (h0 : xs ≠ []) (h1 : xs.length ≤ 16777216) (h : ∀ x ∈ xs, J (.val x) (d - 1)) : sem T (m + 1) 27 [.cell, .lst xs] d J E := by
  refine u__law_of ?_
  (repeat ((conv => whnf); first | refine k_i1 ?_ | refine k_i2 ?_ | refine k_i3 ?_ | refine k_i4 ?_ | refine k_i5 ?_ | refine k_i6 ?_ | refine k_i7 ?_ | refine k_b1 ?_ | refine k_b2 ?_ | refine k_b3 ?_ | refine k_b4 ?_ | refine k_b5 ?_ | refine k_b6 ?_ | refine k_b7 ?_ | refine k_s1 ?_ | refine k_s2 ?_ | refine k_s3 ?_ | refine k_s4 ?_ | refine k_s5 ?_ | refine k_s6 ?_ | refine k_s7 ?_ | refine k_t1 ?_ | refine k_t2 ?_ | refine k_t3 ?_ | refine k_t4 ?_ | refine k_t5 ?_ | refine k_t6 ?_ | refine k_t7 ?_ | refine k_l1 ?_ | refine k_l2 ?_ | refine k_l3 ?_ | refine k_l4 ?_ | refine k_l5 ?_ | refine k_l6 ?_ | refine k_l7 ?_ | refine k_n6 ?_ | refine k_n7 ?_ | refine k_n1 ?_ | refine k_n2 ?_ | refine k_n3 ?_ | refine k_n4 ?_ | refine k_n5 ?_ | refine ⟨dok_scal rfl rfl, dok_scal rfl rfl, ?_⟩ | refine ⟨_, rfl, ?_⟩)); (conv => whnf); (try dsimp only [PSt.set, List.set_cons_zero, List.set_cons_succ, wipeP, backP, List.getD_cons_zero, List.getD_cons_succ])
  have hl : 0 < xs.length := List.length_pos_iff.mpr h0
  refine t_take hd (by omega) (Int.lt_of_le_of_lt (b := 16777216) (by omega) (by decide)) fun r r1 r2 => ?_
  (conv => whnf); (try dsimp only [PSt.set, List.set_cons_zero, List.set_cons_succ, wipeP, backP, List.getD_cons_zero, List.getD_cons_succ])
  obtain ⟨v, hv, e⟩ := at_mem (l := xs) r1 r2
  exact ⟨v, e, h v hv⟩

/-- alike modulo m -/
def Cg (m a b : Int) : Prop := m ∣ a - b
theorem Cg.rfl' {m a : Int} : Cg m a a := by unfold Cg; rw [Int.sub_self]; exact Int.dvd_zero m
theorem Cg.add {m a b c e : Int} (h : Cg m a b) (k : Cg m c e) : Cg m (a + c) (b + e) := by
  obtain ⟨x, hx⟩ := h
  obtain ⟨y, hy⟩ := k
  exact ⟨x + y, by grind⟩
theorem Cg.sub {m a b c e : Int} (h : Cg m a b) (k : Cg m c e) : Cg m (a - c) (b - e) := by
  obtain ⟨x, hx⟩ := h
  obtain ⟨y, hy⟩ := k
  exact ⟨x - y, by grind⟩
theorem Cg.mul {m a b c e : Int} (h : Cg m a b) (k : Cg m c e) : Cg m (a * c) (b * e) := by
  obtain ⟨x, hx⟩ := h
  obtain ⟨y, hy⟩ := k
  exact ⟨x * c + b * y, by grind⟩
theorem Cg.symm {m a b : Int} (h : Cg m a b) : Cg m b a := by
  obtain ⟨x, hx⟩ := h
  exact ⟨-x, by grind⟩
theorem Cg.trans {m a b c : Int} (h : Cg m a b) (k : Cg m b c) : Cg m a c := by
  obtain ⟨x, hx⟩ := h
  obtain ⟨y, hy⟩ := k
  exact ⟨x + y, by grind⟩
theorem Cg.emod {m a : Int} : Cg m (a % m) a := by
  refine ⟨-(a / m), ?_⟩
  have := Int.mul_ediv_add_emod a m
  grind
theorem Cg.eq {m a b : Int} (h : Cg m a b) : a % m = b % m := by
  obtain ⟨x, hx⟩ := h
  have e : a = b + m * x := by grind
  rw [e, Int.add_mul_emod_self_left]
theorem Cg.of_eq {m a b : Int} (h : a % m = b % m) : Cg m a b := Cg.emod.symm.trans (by rw [h]; exact Cg.emod)
theorem mm1 {a b m : Int} : (a % m) * (b % m) % m = a * b % m := (Cg.emod.mul Cg.emod).eq
theorem mm2 {a b c e m : Int} : ((a % m) * (b % m) + (c % m) * (e % m)) % m = (a * b + c * e) % m := ((Cg.emod.mul Cg.emod).add (Cg.emod.mul Cg.emod)).eq
theorem half_nat {n : Nat} : (n : Int).fdiv 2 = ((n / 2 : Nat) : Int) := by
  rw [Int.fdiv_eq_ediv_of_nonneg _ (by decide)]
  omega
theorem mod2_nat {n : Nat} : (n : Int).fmod 2 = ((n % 2 : Nat) : Int) := by
  rw [Int.fmod_eq_emod_of_nonneg _ (by decide)]
  omega
theorem pow_split (b : Int) (n : Nat) : b ^ n = (if n % 2 = 1 then b else 1) * (b * b) ^ (n / 2) := by
  have e : n = 2 * (n / 2) + n % 2 := by omega
  have e2 : (b * b) ^ (n / 2) = b ^ (2 * (n / 2)) := by rw [Int.pow_mul]; congr 1; grind
  rw [e2]
  rcases Nat.mod_two_eq_zero_or_one n with h | h
  · rw [if_neg (by omega), Int.one_mul]
    congr 1
    omega
  · rw [if_pos h]
    have : n = 2 * (n / 2) + 1 := by omega
    calc b ^ n = b ^ (2 * (n / 2) + 1) := by rw [← this]
      _ = b * b ^ (2 * (n / 2)) := by rw [Int.pow_succ, Int.mul_comm]
theorem sm_emod {k : Nat} {a m : Int} (h0 : 0 < m) (h : Sm k m) : Sm k (a % m) := h.le (Int.emod_nonneg _ (by omega)) (Int.le_of_lt (Int.emod_lt_of_pos _ h0))
theorem gcd_emod (a b : Nat) : Nat.gcd b (a % b) = Nat.gcd a b := by
  rw [Nat.gcd_comm b, Nat.gcd_comm a, Nat.gcd_rec b a]
theorem fmod_nat {a b : Nat} : (a : Int).fmod b = ((a % b : Nat) : Int) := by
  rw [Int.fmod_eq_emod_of_nonneg _ (by omega)]
  rfl
theorem abs_if (a : Int) : (if a < 0 then -a else a) = (a.natAbs : Int) := by split <;> omega

/-- the number that digits by two tell, the greatest first -/
def ofD : List Nat → Nat
  | l => l.foldl (fun a b => 2 * a + b) 0
theorem ofD_app (l : List Nat) (b : Nat) : ofD (l ++ [b]) = 2 * ofD l + b := by unfold ofD; rw [List.foldl_append]; rfl
def ofB : List Nat → Nat
  | [] => 0
  | b :: l => b + 2 * ofB l
theorem ofB_app (l : List Nat) (b : Nat) : ofB (l ++ [b]) = ofB l + b * 2 ^ l.length := by
  induction l with
  | nil => simp [ofB]
  | cons x l ih =>
    simp only [List.cons_append, ofB, ih, List.length_cons, Nat.pow_succ]
    generalize 2 ^ l.length = Q
    have : b * (Q * 2) = 2 * (b * Q) := by rw [Nat.mul_comm Q 2, Nat.mul_left_comm]
    rw [this]
    omega
theorem ofD_rev (l : List Nat) : ofD l.reverse = ofB l := by
  induction l with
  | nil => rfl
  | cons x l ih =>
    rw [List.reverse_cons, ofD_app, ih]
    show 2 * ofB l + x = x + 2 * ofB l
    omega
def intsN (l : List Nat) : List PV := l.map fun b => .int (b : Nat)
theorem intsN_get {l : List Nat} {i : Nat} {x : PV} (h : (intsN l)[i]? = some x) : ∃ b, l[i]? = some b ∧ x = .int (b : Nat) := by
  unfold intsN at h
  rw [List.getElem?_map] at h
  cases e : l[i]? with
  | none => rw [e] at h; cases h
  | some b => rw [e] at h; cases h; exact ⟨b, rfl, rfl⟩
theorem U_dbl (p q : Int) (j : Nat) : U p q (2 * j + 1) = U p q (j + 1) * U p q (j + 1) - q * U p q j * U p q j ∧ U p q (2 * j) = U p q j * (2 * U p q (j + 1) - p * U p q j) := by
  have h1 := U_addn p q j j
  refine ⟨by rw [show 2 * j + 1 = j + j + 1 by omega]; exact h1, ?_⟩
  cases j with
  | zero => simp [U]
  | succ j =>
    have h2 := U_addn p q (j + 1) j
    rw [show 2 * (j + 1) = j + 1 + j + 1 by omega, h2, U_ss]
    grind

def RuleArg (v : PV) (p q : Int) : Prop := v = .tup [.int p, .int q] ∨ v = .lst [.int p, .int q]
def OkRule (p q : Int) : Prop := (-1000 ≤ p ∧ p ≤ 1000) ∧ (-1000 ≤ q ∧ q ≤ 1000) ∧ q ≠ 0

theorem p_sure_rule_any {m : Nat} {v : PV} {p q : Int} {d : Nat} {J : Slot → Nat → Prop} {E : EX} (hv : RuleArg v p q) (ok : OkRule p q) (h : J (.val (.tup [.int p, .int q])) d) : sem T (m + 4) 7 [v] d J E := by
  obtain ⟨h1, h2, h3⟩ := ok
  rcases hv with rfl | rfl
  · exact p_sure_rule h1 h2 h3 h
  · exact p_sure_rule_l h1 h2 h3 h

theorem p_calls {m k : Nat} {xs : List PV} {d : Nat} {J : Slot → Nat → Prop} {E : EX} (h0 : 1 ≤ xs.length) (h4 : xs.length ≤ 4) (h : sem T m k xs d (fun r d' => esc r ⟨[.val (.fn k), .val (.tup xs)], d'⟩ fun v p => J (.val v) p.d) E) : sem T (m + 1) 31 [.fn k, .tup xs] d J E := by
  refine u__law_calls ?_
  match xs, h0, h4, h with
  | [a], _, _, h => (repeat ((conv => whnf); first | refine k_i1 ?_ | refine k_i2 ?_ | refine k_i3 ?_ | refine k_i4 ?_ | refine k_i5 ?_ | refine k_i6 ?_ | refine k_i7 ?_ | refine k_b1 ?_ | refine k_b2 ?_ | refine k_b3 ?_ | refine k_b4 ?_ | refine k_b5 ?_ | refine k_b6 ?_ | refine k_b7 ?_ | refine k_s1 ?_ | refine k_s2 ?_ | refine k_s3 ?_ | refine k_s4 ?_ | refine k_s5 ?_ | refine k_s6 ?_ | refine k_s7 ?_ | refine k_t1 ?_ | refine k_t2 ?_ | refine k_t3 ?_ | refine k_t4 ?_ | refine k_t5 ?_ | refine k_t6 ?_ | refine k_t7 ?_ | refine k_l1 ?_ | refine k_l2 ?_ | refine k_l3 ?_ | refine k_l4 ?_ | refine k_l5 ?_ | refine k_l6 ?_ | refine k_l7 ?_ | refine k_n6 ?_ | refine k_n7 ?_ | refine k_n1 ?_ | refine k_n2 ?_ | refine k_n3 ?_ | refine k_n4 ?_ | refine k_n5 ?_ | refine ⟨dok_scal rfl rfl, dok_scal rfl rfl, ?_⟩ | refine ⟨_, rfl, ?_⟩)); (conv => whnf); (try dsimp only [PSt.set, List.set_cons_zero, List.set_cons_succ, wipeP, backP, List.getD_cons_zero, List.getD_cons_succ]); exact h
  | [a, b], _, _, h => (repeat ((conv => whnf); first | refine k_i1 ?_ | refine k_i2 ?_ | refine k_i3 ?_ | refine k_i4 ?_ | refine k_i5 ?_ | refine k_i6 ?_ | refine k_i7 ?_ | refine k_b1 ?_ | refine k_b2 ?_ | refine k_b3 ?_ | refine k_b4 ?_ | refine k_b5 ?_ | refine k_b6 ?_ | refine k_b7 ?_ | refine k_s1 ?_ | refine k_s2 ?_ | refine k_s3 ?_ | refine k_s4 ?_ | refine k_s5 ?_ | refine k_s6 ?_ | refine k_s7 ?_ | refine k_t1 ?_ | refine k_t2 ?_ | refine k_t3 ?_ | refine k_t4 ?_ | refine k_t5 ?_ | refine k_t6 ?_ | refine k_t7 ?_ | refine k_l1 ?_ | refine k_l2 ?_ | refine k_l3 ?_ | refine k_l4 ?_ | refine k_l5 ?_ | refine k_l6 ?_ | refine k_l7 ?_ | refine k_n6 ?_ | refine k_n7 ?_ | refine k_n1 ?_ | refine k_n2 ?_ | refine k_n3 ?_ | refine k_n4 ?_ | refine k_n5 ?_ | refine ⟨dok_scal rfl rfl, dok_scal rfl rfl, ?_⟩ | refine ⟨_, rfl, ?_⟩)); (conv => whnf); (try dsimp only [PSt.set, List.set_cons_zero, List.set_cons_succ, wipeP, backP, List.getD_cons_zero, List.getD_cons_succ]); exact h
  | [a, b, c], _, _, h => (repeat ((conv => whnf); first | refine k_i1 ?_ | refine k_i2 ?_ | refine k_i3 ?_ | refine k_i4 ?_ | refine k_i5 ?_ | refine k_i6 ?_ | refine k_i7 ?_ | refine k_b1 ?_ | refine k_b2 ?_ | refine k_b3 ?_ | refine k_b4 ?_ | refine k_b5 ?_ | refine k_b6 ?_ | refine k_b7 ?_ | refine k_s1 ?_ | refine k_s2 ?_ | refine k_s3 ?_ | refine k_s4 ?_ | refine k_s5 ?_ | refine k_s6 ?_ | refine k_s7 ?_ | refine k_t1 ?_ | refine k_t2 ?_ | refine k_t3 ?_ | refine k_t4 ?_ | refine k_t5 ?_ | refine k_t6 ?_ | refine k_t7 ?_ | refine k_l1 ?_ | refine k_l2 ?_ | refine k_l3 ?_ | refine k_l4 ?_ | refine k_l5 ?_ | refine k_l6 ?_ | refine k_l7 ?_ | refine k_n6 ?_ | refine k_n7 ?_ | refine k_n1 ?_ | refine k_n2 ?_ | refine k_n3 ?_ | refine k_n4 ?_ | refine k_n5 ?_ | refine ⟨dok_scal rfl rfl, dok_scal rfl rfl, ?_⟩ | refine ⟨_, rfl, ?_⟩)); (conv => whnf); (try dsimp only [PSt.set, List.set_cons_zero, List.set_cons_succ, wipeP, backP, List.getD_cons_zero, List.getD_cons_succ]); exact h
  | [a, b, c, e], _, _, h => (repeat ((conv => whnf); first | refine k_i1 ?_ | refine k_i2 ?_ | refine k_i3 ?_ | refine k_i4 ?_ | refine k_i5 ?_ | refine k_i6 ?_ | refine k_i7 ?_ | refine k_b1 ?_ | refine k_b2 ?_ | refine k_b3 ?_ | refine k_b4 ?_ | refine k_b5 ?_ | refine k_b6 ?_ | refine k_b7 ?_ | refine k_s1 ?_ | refine k_s2 ?_ | refine k_s3 ?_ | refine k_s4 ?_ | refine k_s5 ?_ | refine k_s6 ?_ | refine k_s7 ?_ | refine k_t1 ?_ | refine k_t2 ?_ | refine k_t3 ?_ | refine k_t4 ?_ | refine k_t5 ?_ | refine k_t6 ?_ | refine k_t7 ?_ | refine k_l1 ?_ | refine k_l2 ?_ | refine k_l3 ?_ | refine k_l4 ?_ | refine k_l5 ?_ | refine k_l6 ?_ | refine k_l7 ?_ | refine k_n6 ?_ | refine k_n7 ?_ | refine k_n1 ?_ | refine k_n2 ?_ | refine k_n3 ?_ | refine k_n4 ?_ | refine k_n5 ?_ | refine ⟨dok_scal rfl rfl, dok_scal rfl rfl, ?_⟩ | refine ⟨_, rfl, ?_⟩)); (conv => whnf); (try dsimp only [PSt.set, List.set_cons_zero, List.set_cons_succ, wipeP, backP, List.getD_cons_zero, List.getD_cons_succ]); exact h

def heardOf : XN → Str
  | .unfit => "unfit"
  | .cannot => "cannot"
  | _ => "many"
theorem p_heard_x {m k : Nat} {xs : List PV} {x : XN} {d : Nat} {J : Slot → Nat → Prop} {E : EX} (hx : x = .unfit ∨ x = .cannot ∨ x = .toomany) (h0 : 1 ≤ xs.length) (h4 : xs.length ≤ 4) (h : ∀ (J : Slot → Nat → Prop) (E : EX), E x d → sem T m k xs d J E) (hJ : J (.val (.lst [.str (heardOf x), .bl true])) d) :
    sem T (m + 2) 32 [.fn k, .tup xs] d J E := by
  refine u__law_heard ?_
  (repeat ((conv => whnf); first | refine k_i1 ?_ | refine k_i2 ?_ | refine k_i3 ?_ | refine k_i4 ?_ | refine k_i5 ?_ | refine k_i6 ?_ | refine k_i7 ?_ | refine k_b1 ?_ | refine k_b2 ?_ | refine k_b3 ?_ | refine k_b4 ?_ | refine k_b5 ?_ | refine k_b6 ?_ | refine k_b7 ?_ | refine k_s1 ?_ | refine k_s2 ?_ | refine k_s3 ?_ | refine k_s4 ?_ | refine k_s5 ?_ | refine k_s6 ?_ | refine k_s7 ?_ | refine k_t1 ?_ | refine k_t2 ?_ | refine k_t3 ?_ | refine k_t4 ?_ | refine k_t5 ?_ | refine k_t6 ?_ | refine k_t7 ?_ | refine k_l1 ?_ | refine k_l2 ?_ | refine k_l3 ?_ | refine k_l4 ?_ | refine k_l5 ?_ | refine k_l6 ?_ | refine k_l7 ?_ | refine k_n6 ?_ | refine k_n7 ?_ | refine k_n1 ?_ | refine k_n2 ?_ | refine k_n3 ?_ | refine k_n4 ?_ | refine k_n5 ?_ | refine ⟨dok_scal rfl rfl, dok_scal rfl rfl, ?_⟩ | refine ⟨_, rfl, ?_⟩)); (conv => whnf); (try dsimp only [PSt.set, List.set_cons_zero, List.set_cons_succ, wipeP, backP, List.getD_cons_zero, List.getD_cons_succ])
  refine p_calls h0 h4 (h _ _ ?_)
  rcases hx with rfl | rfl | rfl
  · (repeat ((conv => whnf); first | refine k_i1 ?_ | refine k_i2 ?_ | refine k_i3 ?_ | refine k_i4 ?_ | refine k_i5 ?_ | refine k_i6 ?_ | refine k_i7 ?_ | refine k_b1 ?_ | refine k_b2 ?_ | refine k_b3 ?_ | refine k_b4 ?_ | refine k_b5 ?_ | refine k_b6 ?_ | refine k_b7 ?_ | refine k_s1 ?_ | refine k_s2 ?_ | refine k_s3 ?_ | refine k_s4 ?_ | refine k_s5 ?_ | refine k_s6 ?_ | refine k_s7 ?_ | refine k_t1 ?_ | refine k_t2 ?_ | refine k_t3 ?_ | refine k_t4 ?_ | refine k_t5 ?_ | refine k_t6 ?_ | refine k_t7 ?_ | refine k_l1 ?_ | refine k_l2 ?_ | refine k_l3 ?_ | refine k_l4 ?_ | refine k_l5 ?_ | refine k_l6 ?_ | refine k_l7 ?_ | refine k_n6 ?_ | refine k_n7 ?_ | refine k_n1 ?_ | refine k_n2 ?_ | refine k_n3 ?_ | refine k_n4 ?_ | refine k_n5 ?_ | refine ⟨dok_scal rfl rfl, dok_scal rfl rfl, ?_⟩ | refine ⟨_, rfl, ?_⟩)); (conv => whnf); (try dsimp only [PSt.set, List.set_cons_zero, List.set_cons_succ, wipeP, backP, List.getD_cons_zero, List.getD_cons_succ])
    exact hJ
  · (repeat ((conv => whnf); first | refine k_i1 ?_ | refine k_i2 ?_ | refine k_i3 ?_ | refine k_i4 ?_ | refine k_i5 ?_ | refine k_i6 ?_ | refine k_i7 ?_ | refine k_b1 ?_ | refine k_b2 ?_ | refine k_b3 ?_ | refine k_b4 ?_ | refine k_b5 ?_ | refine k_b6 ?_ | refine k_b7 ?_ | refine k_s1 ?_ | refine k_s2 ?_ | refine k_s3 ?_ | refine k_s4 ?_ | refine k_s5 ?_ | refine k_s6 ?_ | refine k_s7 ?_ | refine k_t1 ?_ | refine k_t2 ?_ | refine k_t3 ?_ | refine k_t4 ?_ | refine k_t5 ?_ | refine k_t6 ?_ | refine k_t7 ?_ | refine k_l1 ?_ | refine k_l2 ?_ | refine k_l3 ?_ | refine k_l4 ?_ | refine k_l5 ?_ | refine k_l6 ?_ | refine k_l7 ?_ | refine k_n6 ?_ | refine k_n7 ?_ | refine k_n1 ?_ | refine k_n2 ?_ | refine k_n3 ?_ | refine k_n4 ?_ | refine k_n5 ?_ | refine ⟨dok_scal rfl rfl, dok_scal rfl rfl, ?_⟩ | refine ⟨_, rfl, ?_⟩)); (conv => whnf); (try dsimp only [PSt.set, List.set_cons_zero, List.set_cons_succ, wipeP, backP, List.getD_cons_zero, List.getD_cons_succ])
    exact hJ
  · (repeat ((conv => whnf); first | refine k_i1 ?_ | refine k_i2 ?_ | refine k_i3 ?_ | refine k_i4 ?_ | refine k_i5 ?_ | refine k_i6 ?_ | refine k_i7 ?_ | refine k_b1 ?_ | refine k_b2 ?_ | refine k_b3 ?_ | refine k_b4 ?_ | refine k_b5 ?_ | refine k_b6 ?_ | refine k_b7 ?_ | refine k_s1 ?_ | refine k_s2 ?_ | refine k_s3 ?_ | refine k_s4 ?_ | refine k_s5 ?_ | refine k_s6 ?_ | refine k_s7 ?_ | refine k_t1 ?_ | refine k_t2 ?_ | refine k_t3 ?_ | refine k_t4 ?_ | refine k_t5 ?_ | refine k_t6 ?_ | refine k_t7 ?_ | refine k_l1 ?_ | refine k_l2 ?_ | refine k_l3 ?_ | refine k_l4 ?_ | refine k_l5 ?_ | refine k_l6 ?_ | refine k_l7 ?_ | refine k_n6 ?_ | refine k_n7 ?_ | refine k_n1 ?_ | refine k_n2 ?_ | refine k_n3 ?_ | refine k_n4 ?_ | refine k_n5 ?_ | refine ⟨dok_scal rfl rfl, dok_scal rfl rfl, ?_⟩ | refine ⟨_, rfl, ?_⟩)); (conv => whnf); (try dsimp only [PSt.set, List.set_cons_zero, List.set_cons_succ, wipeP, backP, List.getD_cons_zero, List.getD_cons_succ])
    exact hJ
theorem p_heard_t {m k : Nat} {xs : List PV} {d : Nat} {J : Slot → Nat → Prop} {E : EX} (h0 : 1 ≤ xs.length) (h4 : xs.length ≤ 4) (h : ∀ E : EX, sem T m k xs d (fun r d' => esc r ⟨[.val (.fn k), .val (.tup xs)], d'⟩ fun v p => J (.val (.lst [.str "told", v])) p.d) E) :
    sem T (m + 2) 32 [.fn k, .tup xs] d J E := by
  refine u__law_heard ?_
  (repeat ((conv => whnf); first | refine k_i1 ?_ | refine k_i2 ?_ | refine k_i3 ?_ | refine k_i4 ?_ | refine k_i5 ?_ | refine k_i6 ?_ | refine k_i7 ?_ | refine k_b1 ?_ | refine k_b2 ?_ | refine k_b3 ?_ | refine k_b4 ?_ | refine k_b5 ?_ | refine k_b6 ?_ | refine k_b7 ?_ | refine k_s1 ?_ | refine k_s2 ?_ | refine k_s3 ?_ | refine k_s4 ?_ | refine k_s5 ?_ | refine k_s6 ?_ | refine k_s7 ?_ | refine k_t1 ?_ | refine k_t2 ?_ | refine k_t3 ?_ | refine k_t4 ?_ | refine k_t5 ?_ | refine k_t6 ?_ | refine k_t7 ?_ | refine k_l1 ?_ | refine k_l2 ?_ | refine k_l3 ?_ | refine k_l4 ?_ | refine k_l5 ?_ | refine k_l6 ?_ | refine k_l7 ?_ | refine k_n6 ?_ | refine k_n7 ?_ | refine k_n1 ?_ | refine k_n2 ?_ | refine k_n3 ?_ | refine k_n4 ?_ | refine k_n5 ?_ | refine ⟨dok_scal rfl rfl, dok_scal rfl rfl, ?_⟩ | refine ⟨_, rfl, ?_⟩)); (conv => whnf); (try dsimp only [PSt.set, List.set_cons_zero, List.set_cons_succ, wipeP, backP, List.getD_cons_zero, List.getD_cons_succ])
  refine p_calls h0 h4 (h _)

theorem U_addz (p q : Int) (j k : Nat) : U p q (j + k) = U p q j * U p q (k + 1) + U p q (j + 1) * U p q k - p * U p q j * U p q k := by
  cases j with
  | zero => simp [U]
  | succ j =>
    have h := U_addn p q j k
    rw [show j + 1 + k = j + k + 1 by omega, h, U_ss]
    grind
def AT (p q M : Int) (k : Nat) : PV := .tup [.int (U p q (k + 1) % M), .int (-q * U p q k % M), .int (U p q k % M), .int ((U p q (k + 1) - p * U p q k) % M)]
theorem AT1 (p q : Int) (j k : Nat) : U p q (j + 1) * U p q (k + 1) + -q * U p q j * U p q k = U p q (j + k + 1) := by rw [U_addn p q j k]; grind
theorem AT2 (p q : Int) (j k : Nat) : U p q (j + 1) * (-q * U p q k) + -q * U p q j * (U p q (k + 1) - p * U p q k) = -q * U p q (j + k) := by rw [U_addz p q j k]; grind
theorem AT3 (p q : Int) (j k : Nat) : U p q j * U p q (k + 1) + (U p q (j + 1) - p * U p q j) * U p q k = U p q (j + k) := by rw [U_addz p q j k]; grind
theorem AT4 (p q : Int) (j k : Nat) : U p q j * (-q * U p q k) + (U p q (j + 1) - p * U p q j) * (U p q (k + 1) - p * U p q k) = U p q (j + k + 1) - p * U p q (j + k) := by rw [U_addz p q j k, U_addn p q j k]; grind

theorem sm_pow {k : Nat} {b : Int} (h : Sm k b) : ∀ n, Sm (k * n + 1) (b ^ n)
  | 0 => by unfold Sm; simp
  | n + 1 => by
    rw [Int.pow_succ]
    have := (sm_pow h n).mul h (Nat.le_refl _)
    exact this.mono (by rw [Nat.mul_succ]; omega)

theorem p_law_power {m k : Nat} {b : Int} {n : Nat} {d : Nat} {J : Slot → Nat → Prop} {E : EX} (hb : Sm k b) (hk : k * n ≤ 900000) (hk2 : k ≤ 900000) (hn : n ≤ 1000000) (h : J (.val (.int (b ^ n))) d) : sem T (m + 1) 44 [.int b, .int n] d J E := by
  refine u__law_power ?_
  (repeat ((conv => whnf); first | refine k_i1 ?_ | refine k_i2 ?_ | refine k_i3 ?_ | refine k_i4 ?_ | refine k_i5 ?_ | refine k_i6 ?_ | refine k_i7 ?_ | refine k_b1 ?_ | refine k_b2 ?_ | refine k_b3 ?_ | refine k_b4 ?_ | refine k_b5 ?_ | refine k_b6 ?_ | refine k_b7 ?_ | refine k_s1 ?_ | refine k_s2 ?_ | refine k_s3 ?_ | refine k_s4 ?_ | refine k_s5 ?_ | refine k_s6 ?_ | refine k_s7 ?_ | refine k_t1 ?_ | refine k_t2 ?_ | refine k_t3 ?_ | refine k_t4 ?_ | refine k_t5 ?_ | refine k_t6 ?_ | refine k_t7 ?_ | refine k_l1 ?_ | refine k_l2 ?_ | refine k_l3 ?_ | refine k_l4 ?_ | refine k_l5 ?_ | refine k_l6 ?_ | refine k_l7 ?_ | refine k_n6 ?_ | refine k_n7 ?_ | refine k_n1 ?_ | refine k_n2 ?_ | refine k_n3 ?_ | refine k_n4 ?_ | refine k_n5 ?_ | refine ⟨dok_scal rfl rfl, dok_scal rfl rfl, ?_⟩ | refine ⟨_, rfl, ?_⟩)); (conv => whnf); (try dsimp only [PSt.set, List.set_cons_zero, List.set_cons_succ, wipeP, backP, List.getD_cons_zero, List.getD_cons_succ])
  refine ⟨by omega, ?_⟩
  refine forP_ind _ (fun i s => ∃ a, s = ⟨[.val (.int b), .val (.int n), .val (.int (b ^ i)), a], d⟩) (fun i x hx s hs W hW => ?_) (fun s hs => ?_) ⟨.un, by rw [Int.pow_zero]⟩
  · obtain ⟨a, rfl⟩ := hs
    have hi : i < n := by
      have := (List.getElem?_eq_some_iff.mp hx).1
      rw [rngL_length] at this
      omega
    have : k * i ≤ k * n := Nat.mul_le_mul_left k (by omega)
    (repeat ((conv => whnf); first | refine k_i1 ?_ | refine k_i2 ?_ | refine k_i3 ?_ | refine k_i4 ?_ | refine k_i5 ?_ | refine k_i6 ?_ | refine k_i7 ?_ | refine k_b1 ?_ | refine k_b2 ?_ | refine k_b3 ?_ | refine k_b4 ?_ | refine k_b5 ?_ | refine k_b6 ?_ | refine k_b7 ?_ | refine k_s1 ?_ | refine k_s2 ?_ | refine k_s3 ?_ | refine k_s4 ?_ | refine k_s5 ?_ | refine k_s6 ?_ | refine k_s7 ?_ | refine k_t1 ?_ | refine k_t2 ?_ | refine k_t3 ?_ | refine k_t4 ?_ | refine k_t5 ?_ | refine k_t6 ?_ | refine k_t7 ?_ | refine k_l1 ?_ | refine k_l2 ?_ | refine k_l3 ?_ | refine k_l4 ?_ | refine k_l5 ?_ | refine k_l6 ?_ | refine k_l7 ?_ | refine k_n6 ?_ | refine k_n7 ?_ | refine k_n1 ?_ | refine k_n2 ?_ | refine k_n3 ?_ | refine k_n4 ?_ | refine k_n5 ?_ | refine ⟨dok_scal rfl rfl, dok_scal rfl rfl, ?_⟩ | refine ⟨_, rfl, ?_⟩)); (conv => whnf); (try dsimp only [PSt.set, List.set_cons_zero, List.set_cons_succ, wipeP, backP, List.getD_cons_zero, List.getD_cons_succ])
    refine ⟨(sm_pow hb i).ok hb (by omega) (by omega), ?_⟩
    rw [← Int.pow_succ]
    exact hW _ ⟨_, rfl⟩
  · obtain ⟨a, rfl⟩ := hs
    (repeat ((conv => whnf); first | refine k_i1 ?_ | refine k_i2 ?_ | refine k_i3 ?_ | refine k_i4 ?_ | refine k_i5 ?_ | refine k_i6 ?_ | refine k_i7 ?_ | refine k_b1 ?_ | refine k_b2 ?_ | refine k_b3 ?_ | refine k_b4 ?_ | refine k_b5 ?_ | refine k_b6 ?_ | refine k_b7 ?_ | refine k_s1 ?_ | refine k_s2 ?_ | refine k_s3 ?_ | refine k_s4 ?_ | refine k_s5 ?_ | refine k_s6 ?_ | refine k_s7 ?_ | refine k_t1 ?_ | refine k_t2 ?_ | refine k_t3 ?_ | refine k_t4 ?_ | refine k_t5 ?_ | refine k_t6 ?_ | refine k_t7 ?_ | refine k_l1 ?_ | refine k_l2 ?_ | refine k_l3 ?_ | refine k_l4 ?_ | refine k_l5 ?_ | refine k_l6 ?_ | refine k_l7 ?_ | refine k_n6 ?_ | refine k_n7 ?_ | refine k_n1 ?_ | refine k_n2 ?_ | refine k_n3 ?_ | refine k_n4 ?_ | refine k_n5 ?_ | refine ⟨dok_scal rfl rfl, dok_scal rfl rfl, ?_⟩ | refine ⟨_, rfl, ?_⟩)); (conv => whnf); (try dsimp only [PSt.set, List.set_cons_zero, List.set_cons_succ, wipeP, backP, List.getD_cons_zero, List.getD_cons_succ])
    rw [rngL_length]
    have : ((n : Int) - 0).toNat = n := by omega
    rw [this]
    exact h

/-- the ways to take k of n -/
def bin : Nat → Nat → Nat
  | _, 0 => 1
  | 0, _ + 1 => 0
  | n + 1, k + 1 => bin n k + bin n (k + 1)
theorem bin_0 (n : Nat) : bin n 0 = 1 := by cases n <;> rfl
theorem bin_ss (n k : Nat) : bin (n + 1) (k + 1) = bin n k + bin n (k + 1) := rfl
theorem bin_over : ∀ (n k : Nat), n < k → bin n k = 0
  | 0, 0, h => by omega
  | 0, k + 1, _ => rfl
  | n + 1, 0, h => by omega
  | n + 1, k + 1, h => by rw [bin_ss, bin_over n k (by omega), bin_over n (k + 1) (by omega)]
/-- one more of them -/
theorem bin_step : ∀ (n k : Nat), bin n (k + 1) * (k + 1) = bin n k * (n - k)
  | 0, k => by cases k <;> simp [bin]
  | n + 1, 0 => by
    have := bin_step n 0
    rw [bin_ss, bin_0, bin_0]
    rw [bin_0] at this
    omega
  | n + 1, k + 1 => by
    have h1 := bin_step n k
    have h2 := bin_step n (k + 1)
    rw [bin_ss, bin_ss n k]
    rw [Nat.add_mul, h2, show (k + 1 + 1) = (k + 1) + 1 from rfl, Nat.mul_add, h1, Nat.mul_one]
    rcases Nat.lt_or_ge k n with h | h
    · have e1 : n - k = n - (k + 1) + 1 := by omega
      have e2 : n + 1 - (k + 1) = n - (k + 1) + 1 := by omega
      rw [e1, e2]
      generalize n - (k + 1) = r
      generalize bin n k = x
      generalize bin n (k + 1) = y
      have a1 : y * (r + 1) = y * r + y := Nat.mul_succ y r
      have a2 : (x + y) * (r + 1) = x * (r + 1) + y * (r + 1) := Nat.add_mul _ _ _
      omega
    · rw [bin_over n (k + 1) (by omega), show n - k = 0 by omega, show n + 1 - (k + 1) = 0 by omega]
      simp
theorem bin_le : ∀ (n k : Nat), bin n k ≤ 2 ^ n
  | 0, 0 => by decide
  | 0, k + 1 => by simp [bin]
  | n + 1, 0 => by rw [bin_0]; exact Nat.one_le_two_pow
  | n + 1, k + 1 => by
    have h1 := bin_le n k
    have h2 := bin_le n (k + 1)
    rw [bin_ss, Nat.pow_succ]
    omega
theorem sm_bin {n k : Nat} : Sm (n + 1) ((bin n k : Nat) : Int) := by
  have := bin_le n k
  unfold Sm
  rw [Nat.pow_succ]
  have : 0 < 2 ^ n := Nat.two_pow_pos n
  omega
theorem bin_div {n i : Nat} (h : i ≤ n) : (((bin n i : Nat) : Int) * ((n : Int) - (i : Int))).fdiv ((i : Int) + 1) = ((bin n (i + 1) : Nat) : Int) := by
  have e := bin_step n i
  have e2 : ((bin n i : Nat) : Int) * ((n : Int) - (i : Int)) = ((i : Int) + 1) * ((bin n (i + 1) : Nat) : Int) := by
    have : ((n : Int) - (i : Int)) = ((n - i : Nat) : Int) := by omega
    rw [this, show ((i : Int) + 1) = ((i + 1 : Nat) : Int) by omega, ← Int.natCast_mul, ← Int.natCast_mul, ← e, Nat.mul_comm]
  rw [e2, Int.mul_fdiv_cancel_left _ (by omega)]

/-- without a common divisor -/
def Co (a b : Int) : Prop := ∃ x y : Int, a * x + b * y = 1
theorem Co.symm {a b : Int} (h : Co a b) : Co b a := by
  obtain ⟨x, y, h⟩ := h
  exact ⟨y, x, by rw [Int.add_comm]; exact h⟩
theorem Co.mul {a b c : Int} (h : Co a c) (k : Co b c) : Co (a * b) c := by
  obtain ⟨x, y, h⟩ := h
  obtain ⟨z, w, k⟩ := k
  exact ⟨x * z, a * x * w + y * b * z + y * c * w, by grind⟩
theorem Co.addm {a b : Int} (c : Int) (h : Co a b) : Co (a + b * c) b := by
  obtain ⟨x, y, h⟩ := h
  exact ⟨x, y - c * x, by grind⟩
theorem Co.pow {a b : Int} (h : Co a b) : ∀ n : Nat, Co (a ^ n) b
  | 0 => ⟨1, 0, by simp⟩
  | n + 1 => by
    rw [Int.pow_succ]
    exact (Co.pow h n).mul h
theorem Co.gauss {a b c : Int} (h : Co a b) (k : a ∣ b * c) : a ∣ c := by
  obtain ⟨x, y, h⟩ := h
  obtain ⟨z, k⟩ := k
  exact ⟨c * x + z * y, by
    have : c = c * (a * x + b * y) := by rw [h, Int.mul_one]
    grind⟩
theorem bez_nat : ∀ (n a b : Nat), a + b ≤ n → ∃ x y : Int, (a : Int) * x + (b : Int) * y = (Nat.gcd a b : Nat)
  | 0, a, b, h => ⟨1, 1, by
    have ha : a = 0 := by omega
    have hb : b = 0 := by omega
    subst ha hb
    rfl⟩
  | n + 1, a, b, h => by
    rcases Nat.eq_zero_or_pos a with ha | ha
    · subst ha
      exact ⟨0, 1, by simp⟩
    · rcases Nat.lt_or_ge b a with hb | hb
      · rcases Nat.eq_zero_or_pos b with hb0 | hb0
        · subst hb0
          exact ⟨1, 0, by simp⟩
        · obtain ⟨x, y, e⟩ := bez_nat n (a - b) b (by omega)
          refine ⟨x, y - x, ?_⟩
          have g : Nat.gcd (a - b) b = Nat.gcd a b := by
            have : a = (a - b) + b := by omega
            conv => rhs; rw [this]
            rw [Nat.gcd_add_self_left]
          rw [g] at e
          rw [← e, show ((a - b : Nat) : Int) = (a : Int) - b by omega]
          grind
      · obtain ⟨x, y, e⟩ := bez_nat n a (b - a) (by omega)
        refine ⟨x - y, y, ?_⟩
        have g : Nat.gcd a (b - a) = Nat.gcd a b := by
          have : b = (b - a) + a := by omega
          conv => rhs; rw [this]
          rw [Nat.gcd_add_self_right]
        rw [g] at e
        rw [← e, show ((b - a : Nat) : Int) = (b : Int) - a by omega]
        grind
theorem sg_abs (a : Int) : ∃ s : Int, (a.natAbs : Int) = a * s := by
  rcases Int.le_total 0 a with h | h
  · exact ⟨1, by omega⟩
  · exact ⟨-1, by omega⟩
theorem bez (a b : Int) : ∃ x y : Int, a * x + b * y = (Int.gcd a b : Nat) := by
  obtain ⟨x, y, e⟩ := bez_nat _ a.natAbs b.natAbs (Nat.le_refl _)
  obtain ⟨s, hs⟩ := sg_abs a
  obtain ⟨t, ht⟩ := sg_abs b
  refine ⟨s * x, t * y, ?_⟩
  rw [hs, ht] at e
  rw [← Int.mul_assoc, ← Int.mul_assoc]
  exact e
theorem Co.of_gcd {a b : Int} (h : Int.gcd a b = 1) : Co a b := by
  obtain ⟨x, y, e⟩ := bez a b
  rw [h] at e
  exact ⟨x, y, e⟩
theorem U_co_q {p q : Int} (h : Co p q) : ∀ n, Co (U p q (n + 1)) q
  | 0 => ⟨1, 0, by simp [U]⟩
  | n + 1 => by
    rw [U_ss]
    have := (h.mul (U_co_q h n)).addm (-(U p q n))
    rw [show p * U p q (n + 1) + q * -(U p q n) = p * U p q (n + 1) - q * U p q n by grind] at this
    exact this
theorem U_co {p q : Int} (h : Co p q) : ∀ n, Co (U p q (n + 1)) (U p q n)
  | 0 => ⟨1, 0, by simp [U]⟩
  | n + 1 => by
    rw [U_ss]
    have := ((U_co_q h n).symm.mul (U_co h n).symm).addm (-p)
    have h2 : Co (-(q * U p q n + U p q (n + 1) * -p)) (U p q (n + 1)) := by
      obtain ⟨x, y, e⟩ := this
      exact ⟨-x, y, by grind⟩
    rw [show -(q * U p q n + U p q (n + 1) * -p) = p * U p q (n + 1) - q * U p q n by grind] at h2
    exact h2
/-- terms of a multiple of a place, by the square of the term -/
theorem U_mul (p q : Int) (n : Nat) : ∀ k : Nat, ∃ s t : Int, U p q (n * (k + 1)) = ((k + 1 : Nat) : Int) * U p q n * U p q (n + 1) ^ k + U p q n * U p q n * s ∧ U p q (n * (k + 1) + 1) = U p q (n + 1) ^ (k + 1) + U p q n * t
  | 0 => ⟨0, 0, by simp, by simp [Int.pow_succ]⟩
  | k + 1 => by
    obtain ⟨s, t, h1, h2⟩ := U_mul p q n k
    have e1 := U_addz p q (n * (k + 1)) n
    have e2 := U_addn p q (n * (k + 1)) n
    have en : n * (k + 1 + 1) = n * (k + 1) + n := by rw [Nat.mul_succ n (k + 1)]
    rw [← en] at e1 e2
    rw [h1, h2] at e1 e2
    have ec : ((k + 1 + 1 : Nat) : Int) = ((k + 1 : Nat) : Int) + 1 := by omega
    generalize U p q n = u at *
    generalize U p q (n + 1) = w at *
    refine ⟨s * w + t - p * (((k + 1 : Nat) : Int) * w ^ k + u * s), t * w - q * (((k + 1 : Nat) : Int) * w ^ k + u * s) * u, ?_, ?_⟩
    · rw [e1, ec, Int.pow_succ w k]
      generalize ((k + 1 : Nat) : Int) = c
      generalize w ^ k = z
      grind
    · rw [e2, Int.pow_succ w (k + 1), Int.pow_succ w k]
      generalize ((k + 1 : Nat) : Int) = c
      generalize w ^ k = z
      grind
/-- whether the square divides -/
theorem sq_div {p q : Int} (h : Co p q) {n : Nat} (hz : U p q n ≠ 0) (k : Nat) : U p q n * U p q n ∣ U p q (n * k) ↔ U p q n ∣ (k : Int) := by
  cases k with
  | zero => simp [U]
  | succ k =>
    obtain ⟨s, t, h1, _⟩ := U_mul p q n k
    have hc := (U_co h n)
    rw [h1]
    generalize U p q n = u at *
    generalize U p q (n + 1) = w at *
    generalize ((k + 1 : Nat) : Int) = c
    have e : c * u * w ^ k + u * u * s = u * (c * w ^ k + u * s) := by grind
    rw [e]
    constructor
    · intro hd
      have h2 : u ∣ c * w ^ k + u * s := Int.dvd_of_mul_dvd_mul_left hz hd
      have h3 : u ∣ w ^ k * c := by
        obtain ⟨x, hx⟩ := h2
        exact ⟨x - s, by grind⟩
      exact (hc.pow k).symm.gauss h3
    · rintro ⟨x, rfl⟩
      exact ⟨x * w ^ k + s, by grind⟩
theorem sq_quot {p q : Int} {n : Nat} (hz : U p q n ≠ 0) {k : Nat} (hk : k ≠ 0) : ∃ X : Int, U p q (n * k) = U p q n * X ∧ X % ((U p q n).natAbs : Int) = (k : Int) * U p q (n + 1) ^ (k - 1) % ((U p q n).natAbs : Int) := by
  obtain ⟨k, rfl⟩ : ∃ j, k = j + 1 := ⟨k - 1, by omega⟩
  obtain ⟨s, t, h1, _⟩ := U_mul p q n k
  rw [Nat.add_sub_cancel]
  refine ⟨((k + 1 : Nat) : Int) * U p q (n + 1) ^ k + U p q n * s, by rw [h1]; grind, ?_⟩
  obtain ⟨z, hz2⟩ := sg_abs (U p q n)
  have : Cg ((U p q n).natAbs : Int) (((k + 1 : Nat) : Int) * U p q (n + 1) ^ k + U p q n * s) (((k + 1 : Nat) : Int) * U p q (n + 1) ^ k) := by
    refine Int.natAbs_dvd.mpr ⟨s, by grind⟩
  exact this.eq

/-- the terms to a place, added up -/
def Su (p q : Int) : Nat → Int
  | 0 => 0
  | n + 1 => Su p q n + U p q n
theorem Su_s (p q : Int) (n : Nat) : Su p q (n + 1) = Su p q n + U p q n := rfl
theorem Su_sum (p q : Int) : ∀ n, ((List.range n).map (U p q)).sum = Su p q n
  | 0 => rfl
  | n + 1 => by rw [List.range_succ, List.map_append, List.sum_append, Su_sum p q n, Su_s]; simp
/-- the sum from a place on -/
theorem Su_add (p q : Int) (n : Nat) : ∀ k, Su p q (n + k + 1) = Su p q (n + 1) + (U p q (n + 1) * Su p q (k + 1) - q * U p q n * Su p q k)
  | 0 => by simp [Su, U]
  | k + 1 => by
    have h := Su_add p q n k
    have e := U_addn p q n k
    rw [show n + (k + 1) + 1 = (n + k + 1) + 1 by omega, Su_s, h, e, Su_s p q (k + 1), Su_s p q k]
    grind
/-- .. twice as far -/
theorem Su_dbl (p q : Int) (n : Nat) : Su p q (2 * n + 1) = Su p q (n + 1) + (U p q (n + 1) * Su p q (n + 1) - q * U p q n * Su p q n) := by
  have := Su_add p q n n
  rw [show n + n + 1 = 2 * n + 1 by omega] at this
  exact this
/-- what the doubling carries: the sum to n, terms n, n + 1 -/
def ST (p q M : Int) (n : Nat) : PV := .tup [.int (Su p q (n + 1) % M), .int (U p q n % M), .int (U p q (n + 1) % M)]

theorem rng_mem {n : Nat} {x : PV} (h : x ∈ rngL 0 (n : Int)) : ∃ i : Nat, i < n ∧ x = .int (i : Int) := by
  unfold rngL at h
  obtain ⟨i, hi, rfl⟩ := List.mem_map.mp h
  have := List.mem_range.mp hi
  exact ⟨i, by omega, by simp⟩
theorem rng_get {n i : Nat} {x : PV} (h : (rngL 0 (n : Int))[i]? = some x) : i < n ∧ x = .int (i : Int) := by
  have hi := (List.getElem?_eq_some_iff.mp h).1
  rw [rngL_length] at hi
  have hi2 : i < n := by omega
  unfold rngL at h
  rw [List.getElem?_map, List.getElem?_range (by omega)] at h
  cases h
  exact ⟨hi2, by simp⟩
def fI (g : Nat → Int) (x : PV) : PV := match x with
  | .int i => .int (g i.toNat)
  | _ => .non
theorem rng_map (g : Nat → Int) (n : Nat) : (rngL 0 (n : Int)).map (fI g) = ((List.range n).map g).map PV.int := by
  unfold rngL
  rw [List.map_map, List.map_map, show ((n : Int) - 0).toNat = n by omega]
  refine List.map_congr_left fun i hi => ?_
  show fI g (.int (0 + (i : Int))) = .int (g i)
  rw [Int.zero_add]
  rfl
theorem rng_len {n : Nat} : (rngL 0 (n : Int)).length = n := by rw [rngL_length]; omega

/-- a rule of units -/
def Un (p q : Int) : Prop := (q = -1 ∧ 1 ≤ p ∧ p ≤ 1000) ∨ (q = 1 ∧ 3 ≤ p ∧ p ≤ 1000)
theorem Un.ok {p q : Int} (h : Un p q) : OkRule p q := by
  rcases h with ⟨rfl, h1, h2⟩ | ⟨rfl, h1, h2⟩ <;> exact ⟨by omega, by decide, by decide⟩
theorem un_mono {p q : Int} (h : Un p q) : ∀ k, 0 ≤ U p q k ∧ U p q k ≤ U p q (k + 1) ∧ 1 ≤ U p q (k + 1)
  | 0 => by simp [U]
  | k + 1 => by
    obtain ⟨h1, h2, h3⟩ := un_mono h k
    have e := U_ss p q k
    rcases h with ⟨rfl, a, _⟩ | ⟨rfl, a, _⟩
    · have := Int.mul_le_mul_of_nonneg_right a (by omega : 0 ≤ U p (-1) (k + 1))
      rw [show k + 1 + 1 = k + 2 from rfl]
      omega
    · have := Int.mul_le_mul_of_nonneg_right a (by omega : 0 ≤ U p 1 (k + 1))
      rw [show k + 1 + 1 = k + 2 from rfl]
      omega
theorem un_dbl {p q : Int} (h : Un p q) (k : Nat) : 2 * U p q (k + 1) ≤ U p q (k + 3) := by
  obtain ⟨h1, h2, h3⟩ := un_mono h (k + 1)
  have e := U_ss p q (k + 1)
  rw [show k + 1 + 2 = k + 3 from rfl] at e
  rw [show k + 1 + 1 = k + 2 from rfl] at *
  rcases h with ⟨rfl, a, _⟩ | ⟨rfl, a, _⟩
  · have := Int.mul_le_mul_of_nonneg_right a (by omega : 0 ≤ U p (-1) (k + 2))
    omega
  · have := Int.mul_le_mul_of_nonneg_right a (by omega : 0 ≤ U p 1 (k + 2))
    omega
theorem un_big {p q : Int} (h : Un p q) : ∀ j : Nat, 2 ^ j ≤ U p q (2 * j + 1)
  | 0 => by simp [U]
  | j + 1 => by
    have a := un_big h j
    have b := un_dbl h (2 * j)
    rw [show 2 * (j + 1) + 1 = 2 * j + 3 by omega, Int.pow_succ]
    omega
theorem un_le {p q : Int} (h : Un p q) (k : Nat) : ∀ l, U p q k ≤ U p q (k + l)
  | 0 => Int.le_refl _
  | l + 1 => Int.le_trans (un_le h k l) (un_mono h (k + l)).2.1
theorem un_le2 {p q : Int} (h : Un p q) {k l : Nat} (hl : k ≤ l) : U p q k ≤ U p q l := by
  have := un_le h k (l - k)
  rwa [show k + (l - k) = l by omega] at this
theorem un_few {p q t : Int} (h : Un p q) {j : Nat} (ht : t < 2 ^ j) {k : Nat} (hk : U p q (k + 1) ≤ t) : k < 2 * j := by
  rcases Nat.lt_or_ge k (2 * j) with h1 | h1
  · exact h1
  · have a := un_big h j
    have b := un_le2 h (show 2 * j + 1 ≤ k + 1 by omega)
    omega
theorem un_skip {p q : Int} (h : Un p q) (k : Nat) : U p q k < U p q (k + 2) := by
  obtain ⟨h1, h2, h3⟩ := un_mono h k
  have e := U_ss p q k
  rcases h with ⟨rfl, a, _⟩ | ⟨rfl, a, _⟩
  · have := Int.mul_le_mul_of_nonneg_right a (by omega : 0 ≤ U p (-1) (k + 1))
    omega
  · have := Int.mul_le_mul_of_nonneg_right a (by omega : 0 ≤ U p 1 (k + 1))
    omega
theorem un_strict {p q : Int} (h : Un p q) {k : Nat} (hk : 1 ≤ k) : U p q (k + 1) < U p q (k + 2) := by
  obtain ⟨j, rfl⟩ : ∃ j, k = j + 1 := ⟨k - 1, by omega⟩
  obtain ⟨h1, h2, h3⟩ := un_mono h (j + 1)
  obtain ⟨g1, g2, g3⟩ := un_mono h j
  have e := U_ss p q (j + 1)
  rcases h with ⟨rfl, a, _⟩ | ⟨rfl, a, _⟩
  · have := Int.mul_le_mul_of_nonneg_right a (by omega : 0 ≤ U p (-1) (j + 1 + 1))
    omega
  · have := Int.mul_le_mul_of_nonneg_right a (by omega : 0 ≤ U p 1 (j + 1 + 1))
    omega
/-- the form of two numbers -/
def Fm (p q a b : Int) : Int := a * a - p * a * b + q * b * b
theorem fm_step (p q a b : Int) : Fm p q (p * a - q * b) a = q * Fm p q a b := by unfold Fm; grind
theorem fm_U (p q : Int) : ∀ k, Fm p q (U p q (k + 1)) (U p q k) = q ^ k
  | 0 => by simp [Fm, U]
  | k + 1 => by
    have := fm_step p q (U p q (k + 1)) (U p q k)
    rw [← U_ss, fm_U p q k] at this
    rw [show k + 1 + 1 = k + 2 from rfl, this, Int.pow_succ, Int.mul_comm]
/-- neighbours are told by their form -/
theorem un_class {p q : Int} (h : Un p q) : ∀ (n : Nat) (a b e : Int), a.toNat + b.toNat ≤ n → 0 ≤ b → b ≤ a → Fm p q a b = e → (e = 1 ∨ (e = -1 ∧ q = -1)) → ∃ k, a = U p q (k + 1) ∧ b = U p q k
  | 0, a, b, e, hn, hb, hab, hf, he => by
    have ha : a = 0 := by omega
    have hb0 : b = 0 := by omega
    subst ha hb0
    simp [Fm] at hf
    omega
  | n + 1, a, b, e, hn, hb, hab, hf, he => by
    rcases Int.lt_or_le 0 b with hb1 | hb1
    · have ha : 0 < a := by omega
      have key : ∃ c, a = p * b - q * c ∧ 0 ≤ c ∧ c ≤ b ∧ c < a := by
        rcases h with ⟨rfl, h1, _⟩ | ⟨rfl, h1, _⟩
        · have e1 : a * (a - p * b) = b * b + e := by rw [← hf]; unfold Fm; grind
          have hbb : 1 ≤ b * b := by have := Int.mul_pos hb1 hb1; omega
          have pb := Int.mul_le_mul_of_nonneg_right h1 hb
          have c0 : 0 ≤ a - p * b := by
            rcases Int.lt_or_le (a - p * b) 0 with h2 | h2
            · have := Int.mul_le_mul_of_nonneg_left (by omega : a - p * b ≤ -1) (by omega : 0 ≤ a)
              omega
            · exact h2
          refine ⟨a - p * b, by omega, c0, ?_, by omega⟩
          rcases Int.lt_or_le b (a - p * b) with h2 | h2
          · have g1 := Int.mul_le_mul_of_nonneg_left (by omega : b + 1 ≤ a - p * b) (by omega : 0 ≤ a)
            have g2 := Int.mul_le_mul_of_nonneg_right hab (by omega : 0 ≤ b + 1)
            have g3 : b * (b + 1) = b * b + b := by rw [Int.mul_add, Int.mul_one]
            have hb2 : b = 1 := by omega
            subst hb2
            have g4 : a * 2 ≤ 2 := by omega
            omega
          · exact h2
        · have he1 : e = 1 := by omega
          have e1 : a * (p * b - a) = b * b - e := by rw [← hf]; unfold Fm; grind
          have hbb : 1 ≤ b * b := by have := Int.mul_pos hb1 hb1; omega
          have c0 : 0 ≤ p * b - a := by
            rcases Int.lt_or_le (p * b - a) 0 with h2 | h2
            · have := Int.mul_le_mul_of_nonneg_left (by omega : p * b - a ≤ -1) (by omega : 0 ≤ a)
              omega
            · exact h2
          have c1 : p * b - a < b := by
            rcases Int.lt_or_le (p * b - a) b with h2 | h2
            · exact h2
            · have g1 := Int.mul_le_mul_of_nonneg_left h2 (by omega : 0 ≤ a)
              have g2 := Int.mul_le_mul_of_nonneg_right hab hb
              omega
          exact ⟨p * b - a, by omega, c0, by omega, by omega⟩
      obtain ⟨c, hc, c0, cb, ca⟩ := key
      have hfc : Fm p q b c = q * e := by
        have := fm_step p q b c
        rw [← hc, hf] at this
        rcases h with ⟨rfl, _⟩ | ⟨rfl, _⟩ <;> omega
      obtain ⟨j, e1, e2⟩ := un_class h n b c (q * e) (by omega) c0 cb hfc (by
        rcases h with ⟨rfl, _⟩ | ⟨rfl, _⟩ <;> omega)
      refine ⟨j + 1, ?_, e1⟩
      rw [hc, e1, e2, show j + 1 + 1 = j + 2 from rfl, U_ss]
    · have hb0 : b = 0 := by omega
      subst hb0
      have haa : a * a = e := by rw [← hf]; unfold Fm; simp
      have ha1 : a = 1 := by
        rcases Int.lt_or_le 1 a with h2 | h2
        · have := Int.mul_le_mul_of_nonneg_left (by omega : 2 ≤ a) (by omega : 0 ≤ a)
          omega
        · rcases Int.lt_or_le 0 a with h3 | h3
          · omega
          · have : a = 0 := by omega
            subst this
            omega
      exact ⟨0, by rw [ha1]; simp [U], by simp [U]⟩
/-- .. by one place alone -/
theorem un_inj {p q : Int} (h : Un p q) {j k : Nat} (h1 : U p q (j + 1) = U p q (k + 1)) (h2 : U p q j = U p q k) : j = k := by
  have go : ∀ j k : Nat, j < k → U p q (j + 1) = U p q (k + 1) → U p q j = U p q k → False := fun j k hl h1 h2 => by
    have a := un_skip h j
    have b := un_le2 h (show j + 2 ≤ k + 1 by omega)
    have c := un_le2 h (show j + 1 ≤ k by omega)
    have d := un_mono h j
    omega
  rcases Nat.lt_trichotomy j k with hl | hl | hl
  · exact (go j k hl h1 h2).elim
  · exact hl
  · exact (go k j hl h1.symm h2.symm).elim
def pk (p q : Int) (k : Nat) : Int × Int := (U p q (k + 1), U p q k)
def rowK (p q : Int) (n : Nat) : List PV := (List.range n).map fun k => prV (pk p q k)
theorem rowK_len {p q : Int} {n : Nat} : (rowK p q n).length = n := by unfold rowK; simp
theorem rowK_get {p q : Int} {n i : Nat} (h : i < n) : (rowK p q n)[i]? = some (prV (pk p q i)) := by
  unfold rowK
  rw [List.getElem?_map, List.getElem?_range h]
  rfl
theorem rowK_app {p q : Int} {n : Nat} : rowK p q n ++ [prV (pk p q n)] = rowK p q (n + 1) := by unfold rowK; rw [List.range_succ, List.map_append]; rfl

theorem p_form_in {m k : Nat} {p q a b : Int} {d : Nat} {J : Slot → Nat → Prop} {E : EX} (sp : Sm 10 p) (sq : Sm 10 q) (sa : Sm k a) (sb : Sm k b) (hk : k ≤ 300000) (h : J (.val (.int (Fm p q a b))) d) : sem T (m + 1) 137 [.tup [.int p, .int q], .int a, .int b] d J E := by
  refine u_form_in ?_
  (repeat ((conv => whnf); first | refine k_i1 ?_ | refine k_i2 ?_ | refine k_i3 ?_ | refine k_i4 ?_ | refine k_i5 ?_ | refine k_i6 ?_ | refine k_i7 ?_ | refine k_b1 ?_ | refine k_b2 ?_ | refine k_b3 ?_ | refine k_b4 ?_ | refine k_b5 ?_ | refine k_b6 ?_ | refine k_b7 ?_ | refine k_s1 ?_ | refine k_s2 ?_ | refine k_s3 ?_ | refine k_s4 ?_ | refine k_s5 ?_ | refine k_s6 ?_ | refine k_s7 ?_ | refine k_t1 ?_ | refine k_t2 ?_ | refine k_t3 ?_ | refine k_t4 ?_ | refine k_t5 ?_ | refine k_t6 ?_ | refine k_t7 ?_ | refine k_l1 ?_ | refine k_l2 ?_ | refine k_l3 ?_ | refine k_l4 ?_ | refine k_l5 ?_ | refine k_l6 ?_ | refine k_l7 ?_ | refine k_n6 ?_ | refine k_n7 ?_ | refine k_n1 ?_ | refine k_n2 ?_ | refine k_n3 ?_ | refine k_n4 ?_ | refine k_n5 ?_ | refine ⟨dok_scal rfl rfl, dok_scal rfl rfl, ?_⟩ | refine ⟨_, rfl, ?_⟩)); (conv => whnf); (try dsimp only [PSt.set, List.set_cons_zero, List.set_cons_succ, wipeP, backP, List.getD_cons_zero, List.getD_cons_succ])
  refine ⟨sa.ok sa (by omega) (by omega), ?_⟩
  (repeat ((conv => whnf); first | refine k_i1 ?_ | refine k_i2 ?_ | refine k_i3 ?_ | refine k_i4 ?_ | refine k_i5 ?_ | refine k_i6 ?_ | refine k_i7 ?_ | refine k_b1 ?_ | refine k_b2 ?_ | refine k_b3 ?_ | refine k_b4 ?_ | refine k_b5 ?_ | refine k_b6 ?_ | refine k_b7 ?_ | refine k_s1 ?_ | refine k_s2 ?_ | refine k_s3 ?_ | refine k_s4 ?_ | refine k_s5 ?_ | refine k_s6 ?_ | refine k_s7 ?_ | refine k_t1 ?_ | refine k_t2 ?_ | refine k_t3 ?_ | refine k_t4 ?_ | refine k_t5 ?_ | refine k_t6 ?_ | refine k_t7 ?_ | refine k_l1 ?_ | refine k_l2 ?_ | refine k_l3 ?_ | refine k_l4 ?_ | refine k_l5 ?_ | refine k_l6 ?_ | refine k_l7 ?_ | refine k_n6 ?_ | refine k_n7 ?_ | refine k_n1 ?_ | refine k_n2 ?_ | refine k_n3 ?_ | refine k_n4 ?_ | refine k_n5 ?_ | refine ⟨dok_scal rfl rfl, dok_scal rfl rfl, ?_⟩ | refine ⟨_, rfl, ?_⟩)); (conv => whnf); (try dsimp only [PSt.set, List.set_cons_zero, List.set_cons_succ, wipeP, backP, List.getD_cons_zero, List.getD_cons_succ])
  refine ⟨sp.ok sa (by decide) (by omega), ?_⟩
  (repeat ((conv => whnf); first | refine k_i1 ?_ | refine k_i2 ?_ | refine k_i3 ?_ | refine k_i4 ?_ | refine k_i5 ?_ | refine k_i6 ?_ | refine k_i7 ?_ | refine k_b1 ?_ | refine k_b2 ?_ | refine k_b3 ?_ | refine k_b4 ?_ | refine k_b5 ?_ | refine k_b6 ?_ | refine k_b7 ?_ | refine k_s1 ?_ | refine k_s2 ?_ | refine k_s3 ?_ | refine k_s4 ?_ | refine k_s5 ?_ | refine k_s6 ?_ | refine k_s7 ?_ | refine k_t1 ?_ | refine k_t2 ?_ | refine k_t3 ?_ | refine k_t4 ?_ | refine k_t5 ?_ | refine k_t6 ?_ | refine k_t7 ?_ | refine k_l1 ?_ | refine k_l2 ?_ | refine k_l3 ?_ | refine k_l4 ?_ | refine k_l5 ?_ | refine k_l6 ?_ | refine k_l7 ?_ | refine k_n6 ?_ | refine k_n7 ?_ | refine k_n1 ?_ | refine k_n2 ?_ | refine k_n3 ?_ | refine k_n4 ?_ | refine k_n5 ?_ | refine ⟨dok_scal rfl rfl, dok_scal rfl rfl, ?_⟩ | refine ⟨_, rfl, ?_⟩)); (conv => whnf); (try dsimp only [PSt.set, List.set_cons_zero, List.set_cons_succ, wipeP, backP, List.getD_cons_zero, List.getD_cons_succ])
  refine ⟨(sp.mul sa (c := k + 10) (by omega)).ok sb (by omega) (by omega), ?_⟩
  (repeat ((conv => whnf); first | refine k_i1 ?_ | refine k_i2 ?_ | refine k_i3 ?_ | refine k_i4 ?_ | refine k_i5 ?_ | refine k_i6 ?_ | refine k_i7 ?_ | refine k_b1 ?_ | refine k_b2 ?_ | refine k_b3 ?_ | refine k_b4 ?_ | refine k_b5 ?_ | refine k_b6 ?_ | refine k_b7 ?_ | refine k_s1 ?_ | refine k_s2 ?_ | refine k_s3 ?_ | refine k_s4 ?_ | refine k_s5 ?_ | refine k_s6 ?_ | refine k_s7 ?_ | refine k_t1 ?_ | refine k_t2 ?_ | refine k_t3 ?_ | refine k_t4 ?_ | refine k_t5 ?_ | refine k_t6 ?_ | refine k_t7 ?_ | refine k_l1 ?_ | refine k_l2 ?_ | refine k_l3 ?_ | refine k_l4 ?_ | refine k_l5 ?_ | refine k_l6 ?_ | refine k_l7 ?_ | refine k_n6 ?_ | refine k_n7 ?_ | refine k_n1 ?_ | refine k_n2 ?_ | refine k_n3 ?_ | refine k_n4 ?_ | refine k_n5 ?_ | refine ⟨dok_scal rfl rfl, dok_scal rfl rfl, ?_⟩ | refine ⟨_, rfl, ?_⟩)); (conv => whnf); (try dsimp only [PSt.set, List.set_cons_zero, List.set_cons_succ, wipeP, backP, List.getD_cons_zero, List.getD_cons_succ])
  refine ⟨sq.ok sb (by decide) (by omega), ?_⟩
  (repeat ((conv => whnf); first | refine k_i1 ?_ | refine k_i2 ?_ | refine k_i3 ?_ | refine k_i4 ?_ | refine k_i5 ?_ | refine k_i6 ?_ | refine k_i7 ?_ | refine k_b1 ?_ | refine k_b2 ?_ | refine k_b3 ?_ | refine k_b4 ?_ | refine k_b5 ?_ | refine k_b6 ?_ | refine k_b7 ?_ | refine k_s1 ?_ | refine k_s2 ?_ | refine k_s3 ?_ | refine k_s4 ?_ | refine k_s5 ?_ | refine k_s6 ?_ | refine k_s7 ?_ | refine k_t1 ?_ | refine k_t2 ?_ | refine k_t3 ?_ | refine k_t4 ?_ | refine k_t5 ?_ | refine k_t6 ?_ | refine k_t7 ?_ | refine k_l1 ?_ | refine k_l2 ?_ | refine k_l3 ?_ | refine k_l4 ?_ | refine k_l5 ?_ | refine k_l6 ?_ | refine k_l7 ?_ | refine k_n6 ?_ | refine k_n7 ?_ | refine k_n1 ?_ | refine k_n2 ?_ | refine k_n3 ?_ | refine k_n4 ?_ | refine k_n5 ?_ | refine ⟨dok_scal rfl rfl, dok_scal rfl rfl, ?_⟩ | refine ⟨_, rfl, ?_⟩)); (conv => whnf); (try dsimp only [PSt.set, List.set_cons_zero, List.set_cons_succ, wipeP, backP, List.getD_cons_zero, List.getD_cons_succ])
  refine ⟨(sq.mul sb (c := k + 10) (by omega)).ok sb (by omega) (by omega), ?_⟩
  exact h

theorem p_law_form {m k : Nat} {p q a b : Int} {d : Nat} {J : Slot → Nat → Prop} {E : EX} (sp : Sm 10 p) (sq : Sm 10 q) (sa : Sm k a) (sb : Sm k b) (hk : k ≤ 300000) (h : J (.val (.int (Fm p q a b))) d) : sem T (m + 1) 151 [.tup [.int p, .int q], .int a, .int b] d J E := by
  refine u__law_form ?_
  (repeat ((conv => whnf); first | refine k_i1 ?_ | refine k_i2 ?_ | refine k_i3 ?_ | refine k_i4 ?_ | refine k_i5 ?_ | refine k_i6 ?_ | refine k_i7 ?_ | refine k_b1 ?_ | refine k_b2 ?_ | refine k_b3 ?_ | refine k_b4 ?_ | refine k_b5 ?_ | refine k_b6 ?_ | refine k_b7 ?_ | refine k_s1 ?_ | refine k_s2 ?_ | refine k_s3 ?_ | refine k_s4 ?_ | refine k_s5 ?_ | refine k_s6 ?_ | refine k_s7 ?_ | refine k_t1 ?_ | refine k_t2 ?_ | refine k_t3 ?_ | refine k_t4 ?_ | refine k_t5 ?_ | refine k_t6 ?_ | refine k_t7 ?_ | refine k_l1 ?_ | refine k_l2 ?_ | refine k_l3 ?_ | refine k_l4 ?_ | refine k_l5 ?_ | refine k_l6 ?_ | refine k_l7 ?_ | refine k_n6 ?_ | refine k_n7 ?_ | refine k_n1 ?_ | refine k_n2 ?_ | refine k_n3 ?_ | refine k_n4 ?_ | refine k_n5 ?_ | refine ⟨dok_scal rfl rfl, dok_scal rfl rfl, ?_⟩ | refine ⟨_, rfl, ?_⟩)); (conv => whnf); (try dsimp only [PSt.set, List.set_cons_zero, List.set_cons_succ, wipeP, backP, List.getD_cons_zero, List.getD_cons_succ])
  refine ⟨sa.ok sa (by omega) (by omega), ?_⟩
  (repeat ((conv => whnf); first | refine k_i1 ?_ | refine k_i2 ?_ | refine k_i3 ?_ | refine k_i4 ?_ | refine k_i5 ?_ | refine k_i6 ?_ | refine k_i7 ?_ | refine k_b1 ?_ | refine k_b2 ?_ | refine k_b3 ?_ | refine k_b4 ?_ | refine k_b5 ?_ | refine k_b6 ?_ | refine k_b7 ?_ | refine k_s1 ?_ | refine k_s2 ?_ | refine k_s3 ?_ | refine k_s4 ?_ | refine k_s5 ?_ | refine k_s6 ?_ | refine k_s7 ?_ | refine k_t1 ?_ | refine k_t2 ?_ | refine k_t3 ?_ | refine k_t4 ?_ | refine k_t5 ?_ | refine k_t6 ?_ | refine k_t7 ?_ | refine k_l1 ?_ | refine k_l2 ?_ | refine k_l3 ?_ | refine k_l4 ?_ | refine k_l5 ?_ | refine k_l6 ?_ | refine k_l7 ?_ | refine k_n6 ?_ | refine k_n7 ?_ | refine k_n1 ?_ | refine k_n2 ?_ | refine k_n3 ?_ | refine k_n4 ?_ | refine k_n5 ?_ | refine ⟨dok_scal rfl rfl, dok_scal rfl rfl, ?_⟩ | refine ⟨_, rfl, ?_⟩)); (conv => whnf); (try dsimp only [PSt.set, List.set_cons_zero, List.set_cons_succ, wipeP, backP, List.getD_cons_zero, List.getD_cons_succ])
  refine ⟨sp.ok sa (by decide) (by omega), ?_⟩
  (repeat ((conv => whnf); first | refine k_i1 ?_ | refine k_i2 ?_ | refine k_i3 ?_ | refine k_i4 ?_ | refine k_i5 ?_ | refine k_i6 ?_ | refine k_i7 ?_ | refine k_b1 ?_ | refine k_b2 ?_ | refine k_b3 ?_ | refine k_b4 ?_ | refine k_b5 ?_ | refine k_b6 ?_ | refine k_b7 ?_ | refine k_s1 ?_ | refine k_s2 ?_ | refine k_s3 ?_ | refine k_s4 ?_ | refine k_s5 ?_ | refine k_s6 ?_ | refine k_s7 ?_ | refine k_t1 ?_ | refine k_t2 ?_ | refine k_t3 ?_ | refine k_t4 ?_ | refine k_t5 ?_ | refine k_t6 ?_ | refine k_t7 ?_ | refine k_l1 ?_ | refine k_l2 ?_ | refine k_l3 ?_ | refine k_l4 ?_ | refine k_l5 ?_ | refine k_l6 ?_ | refine k_l7 ?_ | refine k_n6 ?_ | refine k_n7 ?_ | refine k_n1 ?_ | refine k_n2 ?_ | refine k_n3 ?_ | refine k_n4 ?_ | refine k_n5 ?_ | refine ⟨dok_scal rfl rfl, dok_scal rfl rfl, ?_⟩ | refine ⟨_, rfl, ?_⟩)); (conv => whnf); (try dsimp only [PSt.set, List.set_cons_zero, List.set_cons_succ, wipeP, backP, List.getD_cons_zero, List.getD_cons_succ])
  refine ⟨(sp.mul sa (c := k + 10) (by omega)).ok sb (by omega) (by omega), ?_⟩
  (repeat ((conv => whnf); first | refine k_i1 ?_ | refine k_i2 ?_ | refine k_i3 ?_ | refine k_i4 ?_ | refine k_i5 ?_ | refine k_i6 ?_ | refine k_i7 ?_ | refine k_b1 ?_ | refine k_b2 ?_ | refine k_b3 ?_ | refine k_b4 ?_ | refine k_b5 ?_ | refine k_b6 ?_ | refine k_b7 ?_ | refine k_s1 ?_ | refine k_s2 ?_ | refine k_s3 ?_ | refine k_s4 ?_ | refine k_s5 ?_ | refine k_s6 ?_ | refine k_s7 ?_ | refine k_t1 ?_ | refine k_t2 ?_ | refine k_t3 ?_ | refine k_t4 ?_ | refine k_t5 ?_ | refine k_t6 ?_ | refine k_t7 ?_ | refine k_l1 ?_ | refine k_l2 ?_ | refine k_l3 ?_ | refine k_l4 ?_ | refine k_l5 ?_ | refine k_l6 ?_ | refine k_l7 ?_ | refine k_n6 ?_ | refine k_n7 ?_ | refine k_n1 ?_ | refine k_n2 ?_ | refine k_n3 ?_ | refine k_n4 ?_ | refine k_n5 ?_ | refine ⟨dok_scal rfl rfl, dok_scal rfl rfl, ?_⟩ | refine ⟨_, rfl, ?_⟩)); (conv => whnf); (try dsimp only [PSt.set, List.set_cons_zero, List.set_cons_succ, wipeP, backP, List.getD_cons_zero, List.getD_cons_succ])
  refine ⟨sq.ok sb (by decide) (by omega), ?_⟩
  (repeat ((conv => whnf); first | refine k_i1 ?_ | refine k_i2 ?_ | refine k_i3 ?_ | refine k_i4 ?_ | refine k_i5 ?_ | refine k_i6 ?_ | refine k_i7 ?_ | refine k_b1 ?_ | refine k_b2 ?_ | refine k_b3 ?_ | refine k_b4 ?_ | refine k_b5 ?_ | refine k_b6 ?_ | refine k_b7 ?_ | refine k_s1 ?_ | refine k_s2 ?_ | refine k_s3 ?_ | refine k_s4 ?_ | refine k_s5 ?_ | refine k_s6 ?_ | refine k_s7 ?_ | refine k_t1 ?_ | refine k_t2 ?_ | refine k_t3 ?_ | refine k_t4 ?_ | refine k_t5 ?_ | refine k_t6 ?_ | refine k_t7 ?_ | refine k_l1 ?_ | refine k_l2 ?_ | refine k_l3 ?_ | refine k_l4 ?_ | refine k_l5 ?_ | refine k_l6 ?_ | refine k_l7 ?_ | refine k_n6 ?_ | refine k_n7 ?_ | refine k_n1 ?_ | refine k_n2 ?_ | refine k_n3 ?_ | refine k_n4 ?_ | refine k_n5 ?_ | refine ⟨dok_scal rfl rfl, dok_scal rfl rfl, ?_⟩ | refine ⟨_, rfl, ?_⟩)); (conv => whnf); (try dsimp only [PSt.set, List.set_cons_zero, List.set_cons_succ, wipeP, backP, List.getD_cons_zero, List.getD_cons_succ])
  refine ⟨(sq.mul sb (c := k + 10) (by omega)).ok sb (by omega) (by omega), ?_⟩
  exact h

theorem p_nextp {m k : Nat} {p q a b : Int} {d : Nat} {J : Slot → Nat → Prop} {E : EX} (sp : Sm 10 p) (sq : Sm 10 q) (sa : Sm k a) (sb : Sm k b) (hk : k ≤ 300000) (h : J (.val (.tup [.int (p * a - q * b), .int a])) d) : sem T (m + 1) 138 [.tup [.int p, .int q], .int a, .int b] d J E := by
  refine u_next_pair ?_
  (repeat ((conv => whnf); first | refine k_i1 ?_ | refine k_i2 ?_ | refine k_i3 ?_ | refine k_i4 ?_ | refine k_i5 ?_ | refine k_i6 ?_ | refine k_i7 ?_ | refine k_b1 ?_ | refine k_b2 ?_ | refine k_b3 ?_ | refine k_b4 ?_ | refine k_b5 ?_ | refine k_b6 ?_ | refine k_b7 ?_ | refine k_s1 ?_ | refine k_s2 ?_ | refine k_s3 ?_ | refine k_s4 ?_ | refine k_s5 ?_ | refine k_s6 ?_ | refine k_s7 ?_ | refine k_t1 ?_ | refine k_t2 ?_ | refine k_t3 ?_ | refine k_t4 ?_ | refine k_t5 ?_ | refine k_t6 ?_ | refine k_t7 ?_ | refine k_l1 ?_ | refine k_l2 ?_ | refine k_l3 ?_ | refine k_l4 ?_ | refine k_l5 ?_ | refine k_l6 ?_ | refine k_l7 ?_ | refine k_n6 ?_ | refine k_n7 ?_ | refine k_n1 ?_ | refine k_n2 ?_ | refine k_n3 ?_ | refine k_n4 ?_ | refine k_n5 ?_ | refine ⟨dok_scal rfl rfl, dok_scal rfl rfl, ?_⟩ | refine ⟨_, rfl, ?_⟩)); (conv => whnf); (try dsimp only [PSt.set, List.set_cons_zero, List.set_cons_succ, wipeP, backP, List.getD_cons_zero, List.getD_cons_succ])
  refine ⟨sp.ok sa (by decide) (by omega), ?_⟩
  (repeat ((conv => whnf); first | refine k_i1 ?_ | refine k_i2 ?_ | refine k_i3 ?_ | refine k_i4 ?_ | refine k_i5 ?_ | refine k_i6 ?_ | refine k_i7 ?_ | refine k_b1 ?_ | refine k_b2 ?_ | refine k_b3 ?_ | refine k_b4 ?_ | refine k_b5 ?_ | refine k_b6 ?_ | refine k_b7 ?_ | refine k_s1 ?_ | refine k_s2 ?_ | refine k_s3 ?_ | refine k_s4 ?_ | refine k_s5 ?_ | refine k_s6 ?_ | refine k_s7 ?_ | refine k_t1 ?_ | refine k_t2 ?_ | refine k_t3 ?_ | refine k_t4 ?_ | refine k_t5 ?_ | refine k_t6 ?_ | refine k_t7 ?_ | refine k_l1 ?_ | refine k_l2 ?_ | refine k_l3 ?_ | refine k_l4 ?_ | refine k_l5 ?_ | refine k_l6 ?_ | refine k_l7 ?_ | refine k_n6 ?_ | refine k_n7 ?_ | refine k_n1 ?_ | refine k_n2 ?_ | refine k_n3 ?_ | refine k_n4 ?_ | refine k_n5 ?_ | refine ⟨dok_scal rfl rfl, dok_scal rfl rfl, ?_⟩ | refine ⟨_, rfl, ?_⟩)); (conv => whnf); (try dsimp only [PSt.set, List.set_cons_zero, List.set_cons_succ, wipeP, backP, List.getD_cons_zero, List.getD_cons_succ])
  refine ⟨sq.ok sb (by decide) (by omega), ?_⟩
  exact h

theorem p_ahead {m k : Nat} {p q a b : Int} {d : Nat} {J : Slot → Nat → Prop} {E : EX} (sp : Sm 10 p) (sq : Sm 10 q) (sa : Sm k a) (sb : Sm k b) (hk : k ≤ 300000) (h : J (.val (.tup [.int b, .int (q * (p * b - a))])) d) : sem T (m + 1) 139 [.tup [.int p, .int q], .int a, .int b] d J E := by
  refine u_pair_ahead ?_
  (repeat ((conv => whnf); first | refine k_i1 ?_ | refine k_i2 ?_ | refine k_i3 ?_ | refine k_i4 ?_ | refine k_i5 ?_ | refine k_i6 ?_ | refine k_i7 ?_ | refine k_b1 ?_ | refine k_b2 ?_ | refine k_b3 ?_ | refine k_b4 ?_ | refine k_b5 ?_ | refine k_b6 ?_ | refine k_b7 ?_ | refine k_s1 ?_ | refine k_s2 ?_ | refine k_s3 ?_ | refine k_s4 ?_ | refine k_s5 ?_ | refine k_s6 ?_ | refine k_s7 ?_ | refine k_t1 ?_ | refine k_t2 ?_ | refine k_t3 ?_ | refine k_t4 ?_ | refine k_t5 ?_ | refine k_t6 ?_ | refine k_t7 ?_ | refine k_l1 ?_ | refine k_l2 ?_ | refine k_l3 ?_ | refine k_l4 ?_ | refine k_l5 ?_ | refine k_l6 ?_ | refine k_l7 ?_ | refine k_n6 ?_ | refine k_n7 ?_ | refine k_n1 ?_ | refine k_n2 ?_ | refine k_n3 ?_ | refine k_n4 ?_ | refine k_n5 ?_ | refine ⟨dok_scal rfl rfl, dok_scal rfl rfl, ?_⟩ | refine ⟨_, rfl, ?_⟩)); (conv => whnf); (try dsimp only [PSt.set, List.set_cons_zero, List.set_cons_succ, wipeP, backP, List.getD_cons_zero, List.getD_cons_succ])
  refine ⟨sp.ok sb (by decide) (by omega), ?_⟩
  (repeat ((conv => whnf); first | refine k_i1 ?_ | refine k_i2 ?_ | refine k_i3 ?_ | refine k_i4 ?_ | refine k_i5 ?_ | refine k_i6 ?_ | refine k_i7 ?_ | refine k_b1 ?_ | refine k_b2 ?_ | refine k_b3 ?_ | refine k_b4 ?_ | refine k_b5 ?_ | refine k_b6 ?_ | refine k_b7 ?_ | refine k_s1 ?_ | refine k_s2 ?_ | refine k_s3 ?_ | refine k_s4 ?_ | refine k_s5 ?_ | refine k_s6 ?_ | refine k_s7 ?_ | refine k_t1 ?_ | refine k_t2 ?_ | refine k_t3 ?_ | refine k_t4 ?_ | refine k_t5 ?_ | refine k_t6 ?_ | refine k_t7 ?_ | refine k_l1 ?_ | refine k_l2 ?_ | refine k_l3 ?_ | refine k_l4 ?_ | refine k_l5 ?_ | refine k_l6 ?_ | refine k_l7 ?_ | refine k_n6 ?_ | refine k_n7 ?_ | refine k_n1 ?_ | refine k_n2 ?_ | refine k_n3 ?_ | refine k_n4 ?_ | refine k_n5 ?_ | refine ⟨dok_scal rfl rfl, dok_scal rfl rfl, ?_⟩ | refine ⟨_, rfl, ?_⟩)); (conv => whnf); (try dsimp only [PSt.set, List.set_cons_zero, List.set_cons_succ, wipeP, backP, List.getD_cons_zero, List.getD_cons_succ])
  refine ⟨sq.ok (Sm.sub (c := k + 11) (sp.mul sb (c := k + 10) (by omega)) sa (by omega)) (by decide) (by omega), ?_⟩
  exact h

/-- which rules are ones of units -/
def isU (p q : Int) : Bool := decide ((q = -1 ∧ 1 ≤ p) ∨ (q = 1 ∧ 3 ≤ p))
theorem p_unit {m : Nat} {p q : Int} {d : Nat} {J : Slot → Nat → Prop} {E : EX} (h : J (.val (.bl (isU p q))) d) : sem T (m + 1) 136 [.tup [.int p, .int q]] d J E := by
  refine u_is_unit_in ?_
  (repeat ((conv => whnf); first | refine k_i1 ?_ | refine k_i2 ?_ | refine k_i3 ?_ | refine k_i4 ?_ | refine k_i5 ?_ | refine k_i6 ?_ | refine k_i7 ?_ | refine k_b1 ?_ | refine k_b2 ?_ | refine k_b3 ?_ | refine k_b4 ?_ | refine k_b5 ?_ | refine k_b6 ?_ | refine k_b7 ?_ | refine k_s1 ?_ | refine k_s2 ?_ | refine k_s3 ?_ | refine k_s4 ?_ | refine k_s5 ?_ | refine k_s6 ?_ | refine k_s7 ?_ | refine k_t1 ?_ | refine k_t2 ?_ | refine k_t3 ?_ | refine k_t4 ?_ | refine k_t5 ?_ | refine k_t6 ?_ | refine k_t7 ?_ | refine k_l1 ?_ | refine k_l2 ?_ | refine k_l3 ?_ | refine k_l4 ?_ | refine k_l5 ?_ | refine k_l6 ?_ | refine k_l7 ?_ | refine k_n6 ?_ | refine k_n7 ?_ | refine k_n1 ?_ | refine k_n2 ?_ | refine k_n3 ?_ | refine k_n4 ?_ | refine k_n5 ?_ | refine ⟨dok_scal rfl rfl, dok_scal rfl rfl, ?_⟩ | refine ⟨_, rfl, ?_⟩)); (conv => whnf); (try dsimp only [PSt.set, List.set_cons_zero, List.set_cons_succ, wipeP, backP, List.getD_cons_zero, List.getD_cons_succ])
  refine cnd_of (fun h1 => ?_) fun h1 => ?_
  · have h1 : q = -1 := of_decide_eq_true h1
    subst h1
    (repeat ((conv => whnf); first | refine k_i1 ?_ | refine k_i2 ?_ | refine k_i3 ?_ | refine k_i4 ?_ | refine k_i5 ?_ | refine k_i6 ?_ | refine k_i7 ?_ | refine k_b1 ?_ | refine k_b2 ?_ | refine k_b3 ?_ | refine k_b4 ?_ | refine k_b5 ?_ | refine k_b6 ?_ | refine k_b7 ?_ | refine k_s1 ?_ | refine k_s2 ?_ | refine k_s3 ?_ | refine k_s4 ?_ | refine k_s5 ?_ | refine k_s6 ?_ | refine k_s7 ?_ | refine k_t1 ?_ | refine k_t2 ?_ | refine k_t3 ?_ | refine k_t4 ?_ | refine k_t5 ?_ | refine k_t6 ?_ | refine k_t7 ?_ | refine k_l1 ?_ | refine k_l2 ?_ | refine k_l3 ?_ | refine k_l4 ?_ | refine k_l5 ?_ | refine k_l6 ?_ | refine k_l7 ?_ | refine k_n6 ?_ | refine k_n7 ?_ | refine k_n1 ?_ | refine k_n2 ?_ | refine k_n3 ?_ | refine k_n4 ?_ | refine k_n5 ?_ | refine ⟨dok_scal rfl rfl, dok_scal rfl rfl, ?_⟩ | refine ⟨_, rfl, ?_⟩)); (conv => whnf); (try dsimp only [PSt.set, List.set_cons_zero, List.set_cons_succ, wipeP, backP, List.getD_cons_zero, List.getD_cons_succ])
    refine cnd_of (fun h2 => ?_) fun h2 => ?_
    · have h2 : 1 ≤ p := of_decide_eq_true h2
      have e : isU p (-1) = true := by simp [isU, h2]
      rw [e] at h
      rw [decide_eq_true h2]
      exact h
    · have h2 : ¬ 1 ≤ p := of_decide_eq_false h2
      (repeat ((conv => whnf); first | refine k_i1 ?_ | refine k_i2 ?_ | refine k_i3 ?_ | refine k_i4 ?_ | refine k_i5 ?_ | refine k_i6 ?_ | refine k_i7 ?_ | refine k_b1 ?_ | refine k_b2 ?_ | refine k_b3 ?_ | refine k_b4 ?_ | refine k_b5 ?_ | refine k_b6 ?_ | refine k_b7 ?_ | refine k_s1 ?_ | refine k_s2 ?_ | refine k_s3 ?_ | refine k_s4 ?_ | refine k_s5 ?_ | refine k_s6 ?_ | refine k_s7 ?_ | refine k_t1 ?_ | refine k_t2 ?_ | refine k_t3 ?_ | refine k_t4 ?_ | refine k_t5 ?_ | refine k_t6 ?_ | refine k_t7 ?_ | refine k_l1 ?_ | refine k_l2 ?_ | refine k_l3 ?_ | refine k_l4 ?_ | refine k_l5 ?_ | refine k_l6 ?_ | refine k_l7 ?_ | refine k_n6 ?_ | refine k_n7 ?_ | refine k_n1 ?_ | refine k_n2 ?_ | refine k_n3 ?_ | refine k_n4 ?_ | refine k_n5 ?_ | refine ⟨dok_scal rfl rfl, dok_scal rfl rfl, ?_⟩ | refine ⟨_, rfl, ?_⟩)); (conv => whnf); (try dsimp only [PSt.set, List.set_cons_zero, List.set_cons_succ, wipeP, backP, List.getD_cons_zero, List.getD_cons_succ])
      have e : isU p (-1) = false := by simp [isU, h2]
      rw [e] at h
      exact h
  · have h1 : ¬ q = -1 := of_decide_eq_false h1
    (repeat ((conv => whnf); first | refine k_i1 ?_ | refine k_i2 ?_ | refine k_i3 ?_ | refine k_i4 ?_ | refine k_i5 ?_ | refine k_i6 ?_ | refine k_i7 ?_ | refine k_b1 ?_ | refine k_b2 ?_ | refine k_b3 ?_ | refine k_b4 ?_ | refine k_b5 ?_ | refine k_b6 ?_ | refine k_b7 ?_ | refine k_s1 ?_ | refine k_s2 ?_ | refine k_s3 ?_ | refine k_s4 ?_ | refine k_s5 ?_ | refine k_s6 ?_ | refine k_s7 ?_ | refine k_t1 ?_ | refine k_t2 ?_ | refine k_t3 ?_ | refine k_t4 ?_ | refine k_t5 ?_ | refine k_t6 ?_ | refine k_t7 ?_ | refine k_l1 ?_ | refine k_l2 ?_ | refine k_l3 ?_ | refine k_l4 ?_ | refine k_l5 ?_ | refine k_l6 ?_ | refine k_l7 ?_ | refine k_n6 ?_ | refine k_n7 ?_ | refine k_n1 ?_ | refine k_n2 ?_ | refine k_n3 ?_ | refine k_n4 ?_ | refine k_n5 ?_ | refine ⟨dok_scal rfl rfl, dok_scal rfl rfl, ?_⟩ | refine ⟨_, rfl, ?_⟩)); (conv => whnf); (try dsimp only [PSt.set, List.set_cons_zero, List.set_cons_succ, wipeP, backP, List.getD_cons_zero, List.getD_cons_succ])
    rw [decide_eq_false h1]
    (repeat ((conv => whnf); first | refine k_i1 ?_ | refine k_i2 ?_ | refine k_i3 ?_ | refine k_i4 ?_ | refine k_i5 ?_ | refine k_i6 ?_ | refine k_i7 ?_ | refine k_b1 ?_ | refine k_b2 ?_ | refine k_b3 ?_ | refine k_b4 ?_ | refine k_b5 ?_ | refine k_b6 ?_ | refine k_b7 ?_ | refine k_s1 ?_ | refine k_s2 ?_ | refine k_s3 ?_ | refine k_s4 ?_ | refine k_s5 ?_ | refine k_s6 ?_ | refine k_s7 ?_ | refine k_t1 ?_ | refine k_t2 ?_ | refine k_t3 ?_ | refine k_t4 ?_ | refine k_t5 ?_ | refine k_t6 ?_ | refine k_t7 ?_ | refine k_l1 ?_ | refine k_l2 ?_ | refine k_l3 ?_ | refine k_l4 ?_ | refine k_l5 ?_ | refine k_l6 ?_ | refine k_l7 ?_ | refine k_n6 ?_ | refine k_n7 ?_ | refine k_n1 ?_ | refine k_n2 ?_ | refine k_n3 ?_ | refine k_n4 ?_ | refine k_n5 ?_ | refine ⟨dok_scal rfl rfl, dok_scal rfl rfl, ?_⟩ | refine ⟨_, rfl, ?_⟩)); (conv => whnf); (try dsimp only [PSt.set, List.set_cons_zero, List.set_cons_succ, wipeP, backP, List.getD_cons_zero, List.getD_cons_succ])
    refine cnd_of (fun h2 => ?_) fun h2 => ?_
    · have h2 : q = 1 := of_decide_eq_true h2
      subst h2
      (repeat ((conv => whnf); first | refine k_i1 ?_ | refine k_i2 ?_ | refine k_i3 ?_ | refine k_i4 ?_ | refine k_i5 ?_ | refine k_i6 ?_ | refine k_i7 ?_ | refine k_b1 ?_ | refine k_b2 ?_ | refine k_b3 ?_ | refine k_b4 ?_ | refine k_b5 ?_ | refine k_b6 ?_ | refine k_b7 ?_ | refine k_s1 ?_ | refine k_s2 ?_ | refine k_s3 ?_ | refine k_s4 ?_ | refine k_s5 ?_ | refine k_s6 ?_ | refine k_s7 ?_ | refine k_t1 ?_ | refine k_t2 ?_ | refine k_t3 ?_ | refine k_t4 ?_ | refine k_t5 ?_ | refine k_t6 ?_ | refine k_t7 ?_ | refine k_l1 ?_ | refine k_l2 ?_ | refine k_l3 ?_ | refine k_l4 ?_ | refine k_l5 ?_ | refine k_l6 ?_ | refine k_l7 ?_ | refine k_n6 ?_ | refine k_n7 ?_ | refine k_n1 ?_ | refine k_n2 ?_ | refine k_n3 ?_ | refine k_n4 ?_ | refine k_n5 ?_ | refine ⟨dok_scal rfl rfl, dok_scal rfl rfl, ?_⟩ | refine ⟨_, rfl, ?_⟩)); (conv => whnf); (try dsimp only [PSt.set, List.set_cons_zero, List.set_cons_succ, wipeP, backP, List.getD_cons_zero, List.getD_cons_succ])
      have e : isU p 1 = decide (3 ≤ p) := by simp [isU]
      rw [e] at h
      exact h
    · have h2 : ¬ q = 1 := of_decide_eq_false h2
      have e : isU p q = false := by simp [isU, h1, h2]
      rw [e] at h
      rw [decide_eq_false h2]
      exact h

theorem p_sureU {m : Nat} {p q : Int} {d : Nat} {J : Slot → Nat → Prop} {E : EX} (h : isU p q = true → J (.val (.tup [.int p, .int q])) d) (h0 : isU p q = false → E .cannot d) : sem T (m + 2) 142 [.tup [.int p, .int q]] d J E := by
  refine u_sure_unit ?_
  (repeat ((conv => whnf); first | refine k_i1 ?_ | refine k_i2 ?_ | refine k_i3 ?_ | refine k_i4 ?_ | refine k_i5 ?_ | refine k_i6 ?_ | refine k_i7 ?_ | refine k_b1 ?_ | refine k_b2 ?_ | refine k_b3 ?_ | refine k_b4 ?_ | refine k_b5 ?_ | refine k_b6 ?_ | refine k_b7 ?_ | refine k_s1 ?_ | refine k_s2 ?_ | refine k_s3 ?_ | refine k_s4 ?_ | refine k_s5 ?_ | refine k_s6 ?_ | refine k_s7 ?_ | refine k_t1 ?_ | refine k_t2 ?_ | refine k_t3 ?_ | refine k_t4 ?_ | refine k_t5 ?_ | refine k_t6 ?_ | refine k_t7 ?_ | refine k_l1 ?_ | refine k_l2 ?_ | refine k_l3 ?_ | refine k_l4 ?_ | refine k_l5 ?_ | refine k_l6 ?_ | refine k_l7 ?_ | refine k_n6 ?_ | refine k_n7 ?_ | refine k_n1 ?_ | refine k_n2 ?_ | refine k_n3 ?_ | refine k_n4 ?_ | refine k_n5 ?_ | refine ⟨dok_scal rfl rfl, dok_scal rfl rfl, ?_⟩ | refine ⟨_, rfl, ?_⟩)); (conv => whnf); (try dsimp only [PSt.set, List.set_cons_zero, List.set_cons_succ, wipeP, backP, List.getD_cons_zero, List.getD_cons_succ])
  refine p_unit ?_
  cases e : isU p q with
  | true => (repeat ((conv => whnf); first | refine k_i1 ?_ | refine k_i2 ?_ | refine k_i3 ?_ | refine k_i4 ?_ | refine k_i5 ?_ | refine k_i6 ?_ | refine k_i7 ?_ | refine k_b1 ?_ | refine k_b2 ?_ | refine k_b3 ?_ | refine k_b4 ?_ | refine k_b5 ?_ | refine k_b6 ?_ | refine k_b7 ?_ | refine k_s1 ?_ | refine k_s2 ?_ | refine k_s3 ?_ | refine k_s4 ?_ | refine k_s5 ?_ | refine k_s6 ?_ | refine k_s7 ?_ | refine k_t1 ?_ | refine k_t2 ?_ | refine k_t3 ?_ | refine k_t4 ?_ | refine k_t5 ?_ | refine k_t6 ?_ | refine k_t7 ?_ | refine k_l1 ?_ | refine k_l2 ?_ | refine k_l3 ?_ | refine k_l4 ?_ | refine k_l5 ?_ | refine k_l6 ?_ | refine k_l7 ?_ | refine k_n6 ?_ | refine k_n7 ?_ | refine k_n1 ?_ | refine k_n2 ?_ | refine k_n3 ?_ | refine k_n4 ?_ | refine k_n5 ?_ | refine ⟨dok_scal rfl rfl, dok_scal rfl rfl, ?_⟩ | refine ⟨_, rfl, ?_⟩)); (conv => whnf); (try dsimp only [PSt.set, List.set_cons_zero, List.set_cons_succ, wipeP, backP, List.getD_cons_zero, List.getD_cons_succ]); exact h e
  | false => (repeat ((conv => whnf); first | refine k_i1 ?_ | refine k_i2 ?_ | refine k_i3 ?_ | refine k_i4 ?_ | refine k_i5 ?_ | refine k_i6 ?_ | refine k_i7 ?_ | refine k_b1 ?_ | refine k_b2 ?_ | refine k_b3 ?_ | refine k_b4 ?_ | refine k_b5 ?_ | refine k_b6 ?_ | refine k_b7 ?_ | refine k_s1 ?_ | refine k_s2 ?_ | refine k_s3 ?_ | refine k_s4 ?_ | refine k_s5 ?_ | refine k_s6 ?_ | refine k_s7 ?_ | refine k_t1 ?_ | refine k_t2 ?_ | refine k_t3 ?_ | refine k_t4 ?_ | refine k_t5 ?_ | refine k_t6 ?_ | refine k_t7 ?_ | refine k_l1 ?_ | refine k_l2 ?_ | refine k_l3 ?_ | refine k_l4 ?_ | refine k_l5 ?_ | refine k_l6 ?_ | refine k_l7 ?_ | refine k_n6 ?_ | refine k_n7 ?_ | refine k_n1 ?_ | refine k_n2 ?_ | refine k_n3 ?_ | refine k_n4 ?_ | refine k_n5 ?_ | refine ⟨dok_scal rfl rfl, dok_scal rfl rfl, ?_⟩ | refine ⟨_, rfl, ?_⟩)); (conv => whnf); (try dsimp only [PSt.set, List.set_cons_zero, List.set_cons_succ, wipeP, backP, List.getD_cons_zero, List.getD_cons_succ]); exact h0 e

theorem Un.is {p q : Int} (h : Un p q) : decide ((q = -1 ∧ 1 ≤ p) ∨ (q = 1 ∧ 3 ≤ p)) = true := by
  refine decide_eq_true ?_
  rcases h with ⟨h1, h2, _⟩ | ⟨h1, h2, _⟩
  · exact .inl ⟨h1, h2⟩
  · exact .inr ⟨h1, h2⟩
def Big : Int := 10000000000000000000000000000000000000000000000000000000000000000000000000000000000000000000000000000
theorem big_lt : Big < 2 ^ 340 := by decide +kernel
theorem sm_big {a : Int} (h1 : -Big ≤ a) (h2 : a ≤ Big) : Sm 340 a := by
  have e : (2 : Int) ^ 340 = 2239744742177804210557442280568444278121645497234649534899989100963791871180160945380877493271607115776 := by decide +kernel
  unfold Big at h1 h2
  exact Sm.of (by omega) (by omega)

theorem p_sized {m : Nat} {a : Int} {d : Nat} {J : Slot → Nat → Prop} {E : EX} (h1 : -Big ≤ a) (h2 : a ≤ Big) (h : J (.val (.int a)) d) : sem T (m + 2) 143 [.int a] d J E := by
  refine u_sure_sized ?_
  (repeat ((conv => whnf); first | refine k_i1 ?_ | refine k_i2 ?_ | refine k_i3 ?_ | refine k_i4 ?_ | refine k_i5 ?_ | refine k_i6 ?_ | refine k_i7 ?_ | refine k_b1 ?_ | refine k_b2 ?_ | refine k_b3 ?_ | refine k_b4 ?_ | refine k_b5 ?_ | refine k_b6 ?_ | refine k_b7 ?_ | refine k_s1 ?_ | refine k_s2 ?_ | refine k_s3 ?_ | refine k_s4 ?_ | refine k_s5 ?_ | refine k_s6 ?_ | refine k_s7 ?_ | refine k_t1 ?_ | refine k_t2 ?_ | refine k_t3 ?_ | refine k_t4 ?_ | refine k_t5 ?_ | refine k_t6 ?_ | refine k_t7 ?_ | refine k_l1 ?_ | refine k_l2 ?_ | refine k_l3 ?_ | refine k_l4 ?_ | refine k_l5 ?_ | refine k_l6 ?_ | refine k_l7 ?_ | refine k_n6 ?_ | refine k_n7 ?_ | refine k_n1 ?_ | refine k_n2 ?_ | refine k_n3 ?_ | refine k_n4 ?_ | refine k_n5 ?_ | refine ⟨dok_scal rfl rfl, dok_scal rfl rfl, ?_⟩ | refine ⟨_, rfl, ?_⟩)); (conv => whnf); (try dsimp only [PSt.set, List.set_cons_zero, List.set_cons_succ, wipeP, backP, List.getD_cons_zero, List.getD_cons_succ])
  refine p_num ?_
  (repeat ((conv => whnf); first | refine k_i1 ?_ | refine k_i2 ?_ | refine k_i3 ?_ | refine k_i4 ?_ | refine k_i5 ?_ | refine k_i6 ?_ | refine k_i7 ?_ | refine k_b1 ?_ | refine k_b2 ?_ | refine k_b3 ?_ | refine k_b4 ?_ | refine k_b5 ?_ | refine k_b6 ?_ | refine k_b7 ?_ | refine k_s1 ?_ | refine k_s2 ?_ | refine k_s3 ?_ | refine k_s4 ?_ | refine k_s5 ?_ | refine k_s6 ?_ | refine k_s7 ?_ | refine k_t1 ?_ | refine k_t2 ?_ | refine k_t3 ?_ | refine k_t4 ?_ | refine k_t5 ?_ | refine k_t6 ?_ | refine k_t7 ?_ | refine k_l1 ?_ | refine k_l2 ?_ | refine k_l3 ?_ | refine k_l4 ?_ | refine k_l5 ?_ | refine k_l6 ?_ | refine k_l7 ?_ | refine k_n6 ?_ | refine k_n7 ?_ | refine k_n1 ?_ | refine k_n2 ?_ | refine k_n3 ?_ | refine k_n4 ?_ | refine k_n5 ?_ | refine ⟨dok_scal rfl rfl, dok_scal rfl rfl, ?_⟩ | refine ⟨_, rfl, ?_⟩)); (conv => whnf); (try dsimp only [PSt.set, List.set_cons_zero, List.set_cons_succ, wipeP, backP, List.getD_cons_zero, List.getD_cons_succ])
  unfold Big at h1 h2
  rw [decide_eq_false (by split <;> omega)]
  (repeat ((conv => whnf); first | refine k_i1 ?_ | refine k_i2 ?_ | refine k_i3 ?_ | refine k_i4 ?_ | refine k_i5 ?_ | refine k_i6 ?_ | refine k_i7 ?_ | refine k_b1 ?_ | refine k_b2 ?_ | refine k_b3 ?_ | refine k_b4 ?_ | refine k_b5 ?_ | refine k_b6 ?_ | refine k_b7 ?_ | refine k_s1 ?_ | refine k_s2 ?_ | refine k_s3 ?_ | refine k_s4 ?_ | refine k_s5 ?_ | refine k_s6 ?_ | refine k_s7 ?_ | refine k_t1 ?_ | refine k_t2 ?_ | refine k_t3 ?_ | refine k_t4 ?_ | refine k_t5 ?_ | refine k_t6 ?_ | refine k_t7 ?_ | refine k_l1 ?_ | refine k_l2 ?_ | refine k_l3 ?_ | refine k_l4 ?_ | refine k_l5 ?_ | refine k_l6 ?_ | refine k_l7 ?_ | refine k_n6 ?_ | refine k_n7 ?_ | refine k_n1 ?_ | refine k_n2 ?_ | refine k_n3 ?_ | refine k_n4 ?_ | refine k_n5 ?_ | refine ⟨dok_scal rfl rfl, dok_scal rfl rfl, ?_⟩ | refine ⟨_, rfl, ?_⟩)); (conv => whnf); (try dsimp only [PSt.set, List.set_cons_zero, List.set_cons_succ, wipeP, backP, List.getD_cons_zero, List.getD_cons_succ])
  exact h
theorem p_sized_bad {m : Nat} {v : PV} {d : Nat} {J : Slot → Nat → Prop} {E : EX} (dv : isData v = true) (hb : isI v = false ∨ ∃ a, v = .int a ∧ Big < a) (h : E .unfit d) : sem T (m + 2) 143 [v] d J E := by
  refine u_sure_sized ?_
  (repeat ((conv => whnf); first | refine k_i1 ?_ | refine k_i2 ?_ | refine k_i3 ?_ | refine k_i4 ?_ | refine k_i5 ?_ | refine k_i6 ?_ | refine k_i7 ?_ | refine k_b1 ?_ | refine k_b2 ?_ | refine k_b3 ?_ | refine k_b4 ?_ | refine k_b5 ?_ | refine k_b6 ?_ | refine k_b7 ?_ | refine k_s1 ?_ | refine k_s2 ?_ | refine k_s3 ?_ | refine k_s4 ?_ | refine k_s5 ?_ | refine k_s6 ?_ | refine k_s7 ?_ | refine k_t1 ?_ | refine k_t2 ?_ | refine k_t3 ?_ | refine k_t4 ?_ | refine k_t5 ?_ | refine k_t6 ?_ | refine k_t7 ?_ | refine k_l1 ?_ | refine k_l2 ?_ | refine k_l3 ?_ | refine k_l4 ?_ | refine k_l5 ?_ | refine k_l6 ?_ | refine k_l7 ?_ | refine k_n6 ?_ | refine k_n7 ?_ | refine k_n1 ?_ | refine k_n2 ?_ | refine k_n3 ?_ | refine k_n4 ?_ | refine k_n5 ?_ | refine ⟨dok_scal rfl rfl, dok_scal rfl rfl, ?_⟩ | refine ⟨_, rfl, ?_⟩)); (conv => whnf); (try dsimp only [PSt.set, List.set_cons_zero, List.set_cons_succ, wipeP, backP, List.getD_cons_zero, List.getD_cons_succ])
  refine g_num dv ?_
  rcases hb with hb | ⟨a, rfl, ha⟩
  · rw [hb]
    (repeat ((conv => whnf); first | refine k_i1 ?_ | refine k_i2 ?_ | refine k_i3 ?_ | refine k_i4 ?_ | refine k_i5 ?_ | refine k_i6 ?_ | refine k_i7 ?_ | refine k_b1 ?_ | refine k_b2 ?_ | refine k_b3 ?_ | refine k_b4 ?_ | refine k_b5 ?_ | refine k_b6 ?_ | refine k_b7 ?_ | refine k_s1 ?_ | refine k_s2 ?_ | refine k_s3 ?_ | refine k_s4 ?_ | refine k_s5 ?_ | refine k_s6 ?_ | refine k_s7 ?_ | refine k_t1 ?_ | refine k_t2 ?_ | refine k_t3 ?_ | refine k_t4 ?_ | refine k_t5 ?_ | refine k_t6 ?_ | refine k_t7 ?_ | refine k_l1 ?_ | refine k_l2 ?_ | refine k_l3 ?_ | refine k_l4 ?_ | refine k_l5 ?_ | refine k_l6 ?_ | refine k_l7 ?_ | refine k_n6 ?_ | refine k_n7 ?_ | refine k_n1 ?_ | refine k_n2 ?_ | refine k_n3 ?_ | refine k_n4 ?_ | refine k_n5 ?_ | refine ⟨dok_scal rfl rfl, dok_scal rfl rfl, ?_⟩ | refine ⟨_, rfl, ?_⟩)); (conv => whnf); (try dsimp only [PSt.set, List.set_cons_zero, List.set_cons_succ, wipeP, backP, List.getD_cons_zero, List.getD_cons_succ])
    exact h
  · (repeat ((conv => whnf); first | refine k_i1 ?_ | refine k_i2 ?_ | refine k_i3 ?_ | refine k_i4 ?_ | refine k_i5 ?_ | refine k_i6 ?_ | refine k_i7 ?_ | refine k_b1 ?_ | refine k_b2 ?_ | refine k_b3 ?_ | refine k_b4 ?_ | refine k_b5 ?_ | refine k_b6 ?_ | refine k_b7 ?_ | refine k_s1 ?_ | refine k_s2 ?_ | refine k_s3 ?_ | refine k_s4 ?_ | refine k_s5 ?_ | refine k_s6 ?_ | refine k_s7 ?_ | refine k_t1 ?_ | refine k_t2 ?_ | refine k_t3 ?_ | refine k_t4 ?_ | refine k_t5 ?_ | refine k_t6 ?_ | refine k_t7 ?_ | refine k_l1 ?_ | refine k_l2 ?_ | refine k_l3 ?_ | refine k_l4 ?_ | refine k_l5 ?_ | refine k_l6 ?_ | refine k_l7 ?_ | refine k_n6 ?_ | refine k_n7 ?_ | refine k_n1 ?_ | refine k_n2 ?_ | refine k_n3 ?_ | refine k_n4 ?_ | refine k_n5 ?_ | refine ⟨dok_scal rfl rfl, dok_scal rfl rfl, ?_⟩ | refine ⟨_, rfl, ?_⟩)); (conv => whnf); (try dsimp only [PSt.set, List.set_cons_zero, List.set_cons_succ, wipeP, backP, List.getD_cons_zero, List.getD_cons_succ])
    unfold Big at ha
    rw [decide_eq_true (by rw [if_neg (by omega)]; exact ha)]
    exact h

theorem p_ledK {m : Nat} {p q t : Int} {d : Nat} {J : Slot → Nat → Prop} {E : EX} (hu : Un p q) (ht : t ≤ Big) (ht0 : 0 ≤ t) (h : ∀ L : Nat, L < 681 → (∀ k, k < L → U p q (k + 1) ≤ t) → t < U p q (L + 1) → J (.val (.lst (rowK p q L))) d) :
    sem T (m + 2) 141 [.tup [.int p, .int q], .tup [.int 1, .int 0], .int t] d J E := by
  have ok := hu.ok
  have sp := sm_rule ok.1
  have sq := sm_rule ok.2.1
  have bl := big_lt
  refine u_led_on ?_
  (repeat ((conv => whnf); first | refine k_i1 ?_ | refine k_i2 ?_ | refine k_i3 ?_ | refine k_i4 ?_ | refine k_i5 ?_ | refine k_i6 ?_ | refine k_i7 ?_ | refine k_b1 ?_ | refine k_b2 ?_ | refine k_b3 ?_ | refine k_b4 ?_ | refine k_b5 ?_ | refine k_b6 ?_ | refine k_b7 ?_ | refine k_s1 ?_ | refine k_s2 ?_ | refine k_s3 ?_ | refine k_s4 ?_ | refine k_s5 ?_ | refine k_s6 ?_ | refine k_s7 ?_ | refine k_t1 ?_ | refine k_t2 ?_ | refine k_t3 ?_ | refine k_t4 ?_ | refine k_t5 ?_ | refine k_t6 ?_ | refine k_t7 ?_ | refine k_l1 ?_ | refine k_l2 ?_ | refine k_l3 ?_ | refine k_l4 ?_ | refine k_l5 ?_ | refine k_l6 ?_ | refine k_l7 ?_ | refine k_n6 ?_ | refine k_n7 ?_ | refine k_n1 ?_ | refine k_n2 ?_ | refine k_n3 ?_ | refine k_n4 ?_ | refine k_n5 ?_ | refine ⟨dok_scal rfl rfl, dok_scal rfl rfl, ?_⟩ | refine ⟨_, rfl, ?_⟩)); (conv => whnf); (try dsimp only [PSt.set, List.set_cons_zero, List.set_cons_succ, wipeP, backP, List.getD_cons_zero, List.getD_cons_succ])
  refine whil_ind (fun s => ∃ L : Nat, s = ⟨[.val (.tup [.int p, .int q]), .val (.tup [.int 1, .int 0]), .val (.int t), .own (rowK p q L), .val (prV (pk p q L))], d⟩ ∧ ∀ k, k < L → U p q (k + 1) ≤ t) (fun s => match s.get 3 with | .own xs => 1000 - xs.length | _ => 0) ?_ ⟨0, by simp [rowK, pk, prV, U], fun k h => absurd h (Nat.not_lt_zero _)⟩
  rintro s ⟨L, rfl, hL⟩ W hW
  obtain ⟨n1, n2, n3⟩ := un_mono hu L
  have few : ∀ k, U p q (k + 1) ≤ t → k < 680 := fun k hk => un_few hu (j := 340) (Int.lt_of_le_of_lt ht bl) hk
  (repeat ((conv => whnf); first | refine k_i1 ?_ | refine k_i2 ?_ | refine k_i3 ?_ | refine k_i4 ?_ | refine k_i5 ?_ | refine k_i6 ?_ | refine k_i7 ?_ | refine k_b1 ?_ | refine k_b2 ?_ | refine k_b3 ?_ | refine k_b4 ?_ | refine k_b5 ?_ | refine k_b6 ?_ | refine k_b7 ?_ | refine k_s1 ?_ | refine k_s2 ?_ | refine k_s3 ?_ | refine k_s4 ?_ | refine k_s5 ?_ | refine k_s6 ?_ | refine k_s7 ?_ | refine k_t1 ?_ | refine k_t2 ?_ | refine k_t3 ?_ | refine k_t4 ?_ | refine k_t5 ?_ | refine k_t6 ?_ | refine k_t7 ?_ | refine k_l1 ?_ | refine k_l2 ?_ | refine k_l3 ?_ | refine k_l4 ?_ | refine k_l5 ?_ | refine k_l6 ?_ | refine k_l7 ?_ | refine k_n6 ?_ | refine k_n7 ?_ | refine k_n1 ?_ | refine k_n2 ?_ | refine k_n3 ?_ | refine k_n4 ?_ | refine k_n5 ?_ | refine ⟨dok_scal rfl rfl, dok_scal rfl rfl, ?_⟩ | refine ⟨_, rfl, ?_⟩)); (conv => whnf); (try dsimp only [PSt.set, List.set_cons_zero, List.set_cons_succ, wipeP, backP, List.getD_cons_zero, List.getD_cons_succ])
  refine ⟨[U p q (L + 1), U p q L], rfl, by simp, fun mx h1 h2 => ?_⟩
  have e : mx = U p q (L + 1) := by
    have a := h2 (U p q (L + 1)) (by simp)
    have b : mx = U p q (L + 1) ∨ mx = U p q L := by simpa using h1
    omega
  subst e
  (conv => whnf); (try dsimp only [PSt.set, List.set_cons_zero, List.set_cons_succ, wipeP, backP, List.getD_cons_zero, List.getD_cons_succ])
  refine cnd_of (fun hle => ?_) fun hgt => ?_
  · have hle : U p q (L + 1) ≤ t := of_decide_eq_true hle
    have hfew := few L hle
    have hB : -Big ≤ 0 := by decide
    (repeat ((conv => whnf); first | refine k_i1 ?_ | refine k_i2 ?_ | refine k_i3 ?_ | refine k_i4 ?_ | refine k_i5 ?_ | refine k_i6 ?_ | refine k_i7 ?_ | refine k_b1 ?_ | refine k_b2 ?_ | refine k_b3 ?_ | refine k_b4 ?_ | refine k_b5 ?_ | refine k_b6 ?_ | refine k_b7 ?_ | refine k_s1 ?_ | refine k_s2 ?_ | refine k_s3 ?_ | refine k_s4 ?_ | refine k_s5 ?_ | refine k_s6 ?_ | refine k_s7 ?_ | refine k_t1 ?_ | refine k_t2 ?_ | refine k_t3 ?_ | refine k_t4 ?_ | refine k_t5 ?_ | refine k_t6 ?_ | refine k_t7 ?_ | refine k_l1 ?_ | refine k_l2 ?_ | refine k_l3 ?_ | refine k_l4 ?_ | refine k_l5 ?_ | refine k_l6 ?_ | refine k_l7 ?_ | refine k_n6 ?_ | refine k_n7 ?_ | refine k_n1 ?_ | refine k_n2 ?_ | refine k_n3 ?_ | refine k_n4 ?_ | refine k_n5 ?_ | refine ⟨dok_scal rfl rfl, dok_scal rfl rfl, ?_⟩ | refine ⟨_, rfl, ?_⟩)); (conv => whnf); (try dsimp only [PSt.set, List.set_cons_zero, List.set_cons_succ, wipeP, backP, List.getD_cons_zero, List.getD_cons_succ])
    refine ⟨by rw [rowK_len]; omega, ?_⟩
    (repeat ((conv => whnf); first | refine k_i1 ?_ | refine k_i2 ?_ | refine k_i3 ?_ | refine k_i4 ?_ | refine k_i5 ?_ | refine k_i6 ?_ | refine k_i7 ?_ | refine k_b1 ?_ | refine k_b2 ?_ | refine k_b3 ?_ | refine k_b4 ?_ | refine k_b5 ?_ | refine k_b6 ?_ | refine k_b7 ?_ | refine k_s1 ?_ | refine k_s2 ?_ | refine k_s3 ?_ | refine k_s4 ?_ | refine k_s5 ?_ | refine k_s6 ?_ | refine k_s7 ?_ | refine k_t1 ?_ | refine k_t2 ?_ | refine k_t3 ?_ | refine k_t4 ?_ | refine k_t5 ?_ | refine k_t6 ?_ | refine k_t7 ?_ | refine k_l1 ?_ | refine k_l2 ?_ | refine k_l3 ?_ | refine k_l4 ?_ | refine k_l5 ?_ | refine k_l6 ?_ | refine k_l7 ?_ | refine k_n6 ?_ | refine k_n7 ?_ | refine k_n1 ?_ | refine k_n2 ?_ | refine k_n3 ?_ | refine k_n4 ?_ | refine k_n5 ?_ | refine ⟨dok_scal rfl rfl, dok_scal rfl rfl, ?_⟩ | refine ⟨_, rfl, ?_⟩)); (conv => whnf); (try dsimp only [PSt.set, List.set_cons_zero, List.set_cons_succ, wipeP, backP, List.getD_cons_zero, List.getD_cons_succ])
    refine p_nextp (k := 340) (a := U p q (L + 1)) (b := U p q L) sp sq (sm_big (by omega) (by omega)) (sm_big (by omega) (by omega)) (by decide) ?_
    (conv => whnf); (try dsimp only [PSt.set, List.set_cons_zero, List.set_cons_succ, wipeP, backP, List.getD_cons_zero, List.getD_cons_succ])
    refine hW _ ⟨L + 1, ?_, fun k hk => ?_⟩ ?_
    · rw [← U_ss]
      have ea : rowK p q L ++ [prV (pk p q L)] = rowK p q (L + 1) := rowK_app
      rw [ea]
      rfl
    · rcases Nat.lt_or_ge k L with h | h
      · exact hL k h
      · rw [show k = L by omega]; exact hle
    · show 1000 - (rowK p q L ++ [prV (pk p q L)]).length < 1000 - (rowK p q L).length
      rw [List.length_append, rowK_len]
      simp only [List.length_singleton]
      omega
  · have hgt : ¬ U p q (L + 1) ≤ t := of_decide_eq_false hgt
    (repeat ((conv => whnf); first | refine k_i1 ?_ | refine k_i2 ?_ | refine k_i3 ?_ | refine k_i4 ?_ | refine k_i5 ?_ | refine k_i6 ?_ | refine k_i7 ?_ | refine k_b1 ?_ | refine k_b2 ?_ | refine k_b3 ?_ | refine k_b4 ?_ | refine k_b5 ?_ | refine k_b6 ?_ | refine k_b7 ?_ | refine k_s1 ?_ | refine k_s2 ?_ | refine k_s3 ?_ | refine k_s4 ?_ | refine k_s5 ?_ | refine k_s6 ?_ | refine k_s7 ?_ | refine k_t1 ?_ | refine k_t2 ?_ | refine k_t3 ?_ | refine k_t4 ?_ | refine k_t5 ?_ | refine k_t6 ?_ | refine k_t7 ?_ | refine k_l1 ?_ | refine k_l2 ?_ | refine k_l3 ?_ | refine k_l4 ?_ | refine k_l5 ?_ | refine k_l6 ?_ | refine k_l7 ?_ | refine k_n6 ?_ | refine k_n7 ?_ | refine k_n1 ?_ | refine k_n2 ?_ | refine k_n3 ?_ | refine k_n4 ?_ | refine k_n5 ?_ | refine ⟨dok_scal rfl rfl, dok_scal rfl rfl, ?_⟩ | refine ⟨_, rfl, ?_⟩)); (conv => whnf); (try dsimp only [PSt.set, List.set_cons_zero, List.set_cons_succ, wipeP, backP, List.getD_cons_zero, List.getD_cons_succ])
    refine h L ?_ hL (by omega)
    rcases L with _ | L
    · omega
    · have := few L (hL L (by omega))
      omega

theorem p_neighK {m : Nat} {p q t : Int} {d : Nat} {J : Slot → Nat → Prop} {E : EX} (hu : Un p q) (ht0 : 0 ≤ t) (ht : t ≤ Big) (h : ∀ L : Nat, L < 681 → (∀ k, k < L → U p q (k + 1) ≤ t) → t < U p q (L + 1) → J (.val (.lst (rowK p q L))) d) :
    sem T (m + 5) 147 [.tup [.int p, .int q], .int t] d J E := by
  refine u_neighbours_to ?_
  (repeat ((conv => whnf); first | refine k_i1 ?_ | refine k_i2 ?_ | refine k_i3 ?_ | refine k_i4 ?_ | refine k_i5 ?_ | refine k_i6 ?_ | refine k_i7 ?_ | refine k_b1 ?_ | refine k_b2 ?_ | refine k_b3 ?_ | refine k_b4 ?_ | refine k_b5 ?_ | refine k_b6 ?_ | refine k_b7 ?_ | refine k_s1 ?_ | refine k_s2 ?_ | refine k_s3 ?_ | refine k_s4 ?_ | refine k_s5 ?_ | refine k_s6 ?_ | refine k_s7 ?_ | refine k_t1 ?_ | refine k_t2 ?_ | refine k_t3 ?_ | refine k_t4 ?_ | refine k_t5 ?_ | refine k_t6 ?_ | refine k_t7 ?_ | refine k_l1 ?_ | refine k_l2 ?_ | refine k_l3 ?_ | refine k_l4 ?_ | refine k_l5 ?_ | refine k_l6 ?_ | refine k_l7 ?_ | refine k_n6 ?_ | refine k_n7 ?_ | refine k_n1 ?_ | refine k_n2 ?_ | refine k_n3 ?_ | refine k_n4 ?_ | refine k_n5 ?_ | refine ⟨dok_scal rfl rfl, dok_scal rfl rfl, ?_⟩ | refine ⟨_, rfl, ?_⟩)); (conv => whnf); (try dsimp only [PSt.set, List.set_cons_zero, List.set_cons_succ, wipeP, backP, List.getD_cons_zero, List.getD_cons_succ])
  refine p_sure_rule_any (.inl rfl) hu.ok ?_
  (repeat ((conv => whnf); first | refine k_i1 ?_ | refine k_i2 ?_ | refine k_i3 ?_ | refine k_i4 ?_ | refine k_i5 ?_ | refine k_i6 ?_ | refine k_i7 ?_ | refine k_b1 ?_ | refine k_b2 ?_ | refine k_b3 ?_ | refine k_b4 ?_ | refine k_b5 ?_ | refine k_b6 ?_ | refine k_b7 ?_ | refine k_s1 ?_ | refine k_s2 ?_ | refine k_s3 ?_ | refine k_s4 ?_ | refine k_s5 ?_ | refine k_s6 ?_ | refine k_s7 ?_ | refine k_t1 ?_ | refine k_t2 ?_ | refine k_t3 ?_ | refine k_t4 ?_ | refine k_t5 ?_ | refine k_t6 ?_ | refine k_t7 ?_ | refine k_l1 ?_ | refine k_l2 ?_ | refine k_l3 ?_ | refine k_l4 ?_ | refine k_l5 ?_ | refine k_l6 ?_ | refine k_l7 ?_ | refine k_n6 ?_ | refine k_n7 ?_ | refine k_n1 ?_ | refine k_n2 ?_ | refine k_n3 ?_ | refine k_n4 ?_ | refine k_n5 ?_ | refine ⟨dok_scal rfl rfl, dok_scal rfl rfl, ?_⟩ | refine ⟨_, rfl, ?_⟩)); (conv => whnf); (try dsimp only [PSt.set, List.set_cons_zero, List.set_cons_succ, wipeP, backP, List.getD_cons_zero, List.getD_cons_succ])
  refine p_sure_within ht0 ht ?_
  (repeat ((conv => whnf); first | refine k_i1 ?_ | refine k_i2 ?_ | refine k_i3 ?_ | refine k_i4 ?_ | refine k_i5 ?_ | refine k_i6 ?_ | refine k_i7 ?_ | refine k_b1 ?_ | refine k_b2 ?_ | refine k_b3 ?_ | refine k_b4 ?_ | refine k_b5 ?_ | refine k_b6 ?_ | refine k_b7 ?_ | refine k_s1 ?_ | refine k_s2 ?_ | refine k_s3 ?_ | refine k_s4 ?_ | refine k_s5 ?_ | refine k_s6 ?_ | refine k_s7 ?_ | refine k_t1 ?_ | refine k_t2 ?_ | refine k_t3 ?_ | refine k_t4 ?_ | refine k_t5 ?_ | refine k_t6 ?_ | refine k_t7 ?_ | refine k_l1 ?_ | refine k_l2 ?_ | refine k_l3 ?_ | refine k_l4 ?_ | refine k_l5 ?_ | refine k_l6 ?_ | refine k_l7 ?_ | refine k_n6 ?_ | refine k_n7 ?_ | refine k_n1 ?_ | refine k_n2 ?_ | refine k_n3 ?_ | refine k_n4 ?_ | refine k_n5 ?_ | refine ⟨dok_scal rfl rfl, dok_scal rfl rfl, ?_⟩ | refine ⟨_, rfl, ?_⟩)); (conv => whnf); (try dsimp only [PSt.set, List.set_cons_zero, List.set_cons_succ, wipeP, backP, List.getD_cons_zero, List.getD_cons_succ])
  refine p_sureU (fun _ => ?_) (fun z => absurd hu.is (by unfold isU at z; rw [z]; decide))
  (repeat ((conv => whnf); first | refine k_i1 ?_ | refine k_i2 ?_ | refine k_i3 ?_ | refine k_i4 ?_ | refine k_i5 ?_ | refine k_i6 ?_ | refine k_i7 ?_ | refine k_b1 ?_ | refine k_b2 ?_ | refine k_b3 ?_ | refine k_b4 ?_ | refine k_b5 ?_ | refine k_b6 ?_ | refine k_b7 ?_ | refine k_s1 ?_ | refine k_s2 ?_ | refine k_s3 ?_ | refine k_s4 ?_ | refine k_s5 ?_ | refine k_s6 ?_ | refine k_s7 ?_ | refine k_t1 ?_ | refine k_t2 ?_ | refine k_t3 ?_ | refine k_t4 ?_ | refine k_t5 ?_ | refine k_t6 ?_ | refine k_t7 ?_ | refine k_l1 ?_ | refine k_l2 ?_ | refine k_l3 ?_ | refine k_l4 ?_ | refine k_l5 ?_ | refine k_l6 ?_ | refine k_l7 ?_ | refine k_n6 ?_ | refine k_n7 ?_ | refine k_n1 ?_ | refine k_n2 ?_ | refine k_n3 ?_ | refine k_n4 ?_ | refine k_n5 ?_ | refine ⟨dok_scal rfl rfl, dok_scal rfl rfl, ?_⟩ | refine ⟨_, rfl, ?_⟩)); (conv => whnf); (try dsimp only [PSt.set, List.set_cons_zero, List.set_cons_succ, wipeP, backP, List.getD_cons_zero, List.getD_cons_succ])
  refine p_ledK hu ht ht0 fun L h1 h2 h3 => ?_
  exact h L h1 h2 h3
theorem p_neighK_not {m : Nat} {p q t : Int} {d : Nat} {J : Slot → Nat → Prop} {E : EX} (ok : OkRule p q) (hn : isU p q = false) (ht0 : 0 ≤ t) (ht : t ≤ Big) (hE : E .cannot d) : sem T (m + 5) 147 [.tup [.int p, .int q], .int t] d J E := by
  refine u_neighbours_to ?_
  (repeat ((conv => whnf); first | refine k_i1 ?_ | refine k_i2 ?_ | refine k_i3 ?_ | refine k_i4 ?_ | refine k_i5 ?_ | refine k_i6 ?_ | refine k_i7 ?_ | refine k_b1 ?_ | refine k_b2 ?_ | refine k_b3 ?_ | refine k_b4 ?_ | refine k_b5 ?_ | refine k_b6 ?_ | refine k_b7 ?_ | refine k_s1 ?_ | refine k_s2 ?_ | refine k_s3 ?_ | refine k_s4 ?_ | refine k_s5 ?_ | refine k_s6 ?_ | refine k_s7 ?_ | refine k_t1 ?_ | refine k_t2 ?_ | refine k_t3 ?_ | refine k_t4 ?_ | refine k_t5 ?_ | refine k_t6 ?_ | refine k_t7 ?_ | refine k_l1 ?_ | refine k_l2 ?_ | refine k_l3 ?_ | refine k_l4 ?_ | refine k_l5 ?_ | refine k_l6 ?_ | refine k_l7 ?_ | refine k_n6 ?_ | refine k_n7 ?_ | refine k_n1 ?_ | refine k_n2 ?_ | refine k_n3 ?_ | refine k_n4 ?_ | refine k_n5 ?_ | refine ⟨dok_scal rfl rfl, dok_scal rfl rfl, ?_⟩ | refine ⟨_, rfl, ?_⟩)); (conv => whnf); (try dsimp only [PSt.set, List.set_cons_zero, List.set_cons_succ, wipeP, backP, List.getD_cons_zero, List.getD_cons_succ])
  refine p_sure_rule_any (.inl rfl) ok ?_
  (repeat ((conv => whnf); first | refine k_i1 ?_ | refine k_i2 ?_ | refine k_i3 ?_ | refine k_i4 ?_ | refine k_i5 ?_ | refine k_i6 ?_ | refine k_i7 ?_ | refine k_b1 ?_ | refine k_b2 ?_ | refine k_b3 ?_ | refine k_b4 ?_ | refine k_b5 ?_ | refine k_b6 ?_ | refine k_b7 ?_ | refine k_s1 ?_ | refine k_s2 ?_ | refine k_s3 ?_ | refine k_s4 ?_ | refine k_s5 ?_ | refine k_s6 ?_ | refine k_s7 ?_ | refine k_t1 ?_ | refine k_t2 ?_ | refine k_t3 ?_ | refine k_t4 ?_ | refine k_t5 ?_ | refine k_t6 ?_ | refine k_t7 ?_ | refine k_l1 ?_ | refine k_l2 ?_ | refine k_l3 ?_ | refine k_l4 ?_ | refine k_l5 ?_ | refine k_l6 ?_ | refine k_l7 ?_ | refine k_n6 ?_ | refine k_n7 ?_ | refine k_n1 ?_ | refine k_n2 ?_ | refine k_n3 ?_ | refine k_n4 ?_ | refine k_n5 ?_ | refine ⟨dok_scal rfl rfl, dok_scal rfl rfl, ?_⟩ | refine ⟨_, rfl, ?_⟩)); (conv => whnf); (try dsimp only [PSt.set, List.set_cons_zero, List.set_cons_succ, wipeP, backP, List.getD_cons_zero, List.getD_cons_succ])
  refine p_sure_within ht0 ht ?_
  (repeat ((conv => whnf); first | refine k_i1 ?_ | refine k_i2 ?_ | refine k_i3 ?_ | refine k_i4 ?_ | refine k_i5 ?_ | refine k_i6 ?_ | refine k_i7 ?_ | refine k_b1 ?_ | refine k_b2 ?_ | refine k_b3 ?_ | refine k_b4 ?_ | refine k_b5 ?_ | refine k_b6 ?_ | refine k_b7 ?_ | refine k_s1 ?_ | refine k_s2 ?_ | refine k_s3 ?_ | refine k_s4 ?_ | refine k_s5 ?_ | refine k_s6 ?_ | refine k_s7 ?_ | refine k_t1 ?_ | refine k_t2 ?_ | refine k_t3 ?_ | refine k_t4 ?_ | refine k_t5 ?_ | refine k_t6 ?_ | refine k_t7 ?_ | refine k_l1 ?_ | refine k_l2 ?_ | refine k_l3 ?_ | refine k_l4 ?_ | refine k_l5 ?_ | refine k_l6 ?_ | refine k_l7 ?_ | refine k_n6 ?_ | refine k_n7 ?_ | refine k_n1 ?_ | refine k_n2 ?_ | refine k_n3 ?_ | refine k_n4 ?_ | refine k_n5 ?_ | refine ⟨dok_scal rfl rfl, dok_scal rfl rfl, ?_⟩ | refine ⟨_, rfl, ?_⟩)); (conv => whnf); (try dsimp only [PSt.set, List.set_cons_zero, List.set_cons_succ, wipeP, backP, List.getD_cons_zero, List.getD_cons_succ])
  refine p_sureU (fun z => ?_) (fun _ => hE)
  rw [hn] at z
  cases z
theorem p_neighK_bad {m : Nat} {p q : Int} {v : PV} {d : Nat} {J : Slot → Nat → Prop} {E : EX} (ok : OkRule p q) (dv : isData v = true) (hb : inR v 0 Big = false) (hE : E .unfit d) : sem T (m + 5) 147 [.tup [.int p, .int q], v] d J E := by
  refine u_neighbours_to ?_
  (repeat ((conv => whnf); first | refine k_i1 ?_ | refine k_i2 ?_ | refine k_i3 ?_ | refine k_i4 ?_ | refine k_i5 ?_ | refine k_i6 ?_ | refine k_i7 ?_ | refine k_b1 ?_ | refine k_b2 ?_ | refine k_b3 ?_ | refine k_b4 ?_ | refine k_b5 ?_ | refine k_b6 ?_ | refine k_b7 ?_ | refine k_s1 ?_ | refine k_s2 ?_ | refine k_s3 ?_ | refine k_s4 ?_ | refine k_s5 ?_ | refine k_s6 ?_ | refine k_s7 ?_ | refine k_t1 ?_ | refine k_t2 ?_ | refine k_t3 ?_ | refine k_t4 ?_ | refine k_t5 ?_ | refine k_t6 ?_ | refine k_t7 ?_ | refine k_l1 ?_ | refine k_l2 ?_ | refine k_l3 ?_ | refine k_l4 ?_ | refine k_l5 ?_ | refine k_l6 ?_ | refine k_l7 ?_ | refine k_n6 ?_ | refine k_n7 ?_ | refine k_n1 ?_ | refine k_n2 ?_ | refine k_n3 ?_ | refine k_n4 ?_ | refine k_n5 ?_ | refine ⟨dok_scal rfl rfl, dok_scal rfl rfl, ?_⟩ | refine ⟨_, rfl, ?_⟩)); (conv => whnf); (try dsimp only [PSt.set, List.set_cons_zero, List.set_cons_succ, wipeP, backP, List.getD_cons_zero, List.getD_cons_succ])
  refine p_sure_rule_any (.inl rfl) ok ?_
  (repeat ((conv => whnf); first | refine k_i1 ?_ | refine k_i2 ?_ | refine k_i3 ?_ | refine k_i4 ?_ | refine k_i5 ?_ | refine k_i6 ?_ | refine k_i7 ?_ | refine k_b1 ?_ | refine k_b2 ?_ | refine k_b3 ?_ | refine k_b4 ?_ | refine k_b5 ?_ | refine k_b6 ?_ | refine k_b7 ?_ | refine k_s1 ?_ | refine k_s2 ?_ | refine k_s3 ?_ | refine k_s4 ?_ | refine k_s5 ?_ | refine k_s6 ?_ | refine k_s7 ?_ | refine k_t1 ?_ | refine k_t2 ?_ | refine k_t3 ?_ | refine k_t4 ?_ | refine k_t5 ?_ | refine k_t6 ?_ | refine k_t7 ?_ | refine k_l1 ?_ | refine k_l2 ?_ | refine k_l3 ?_ | refine k_l4 ?_ | refine k_l5 ?_ | refine k_l6 ?_ | refine k_l7 ?_ | refine k_n6 ?_ | refine k_n7 ?_ | refine k_n1 ?_ | refine k_n2 ?_ | refine k_n3 ?_ | refine k_n4 ?_ | refine k_n5 ?_ | refine ⟨dok_scal rfl rfl, dok_scal rfl rfl, ?_⟩ | refine ⟨_, rfl, ?_⟩)); (conv => whnf); (try dsimp only [PSt.set, List.set_cons_zero, List.set_cons_succ, wipeP, backP, List.getD_cons_zero, List.getD_cons_succ])
  exact p_sure_bad dv hb hE

theorem pyEq_pair {a b c e : Int} : pyEq (.tup [.int a, .int b]) (.tup [.int c, .int e]) = decide (a = c ∧ b = e) := by
  show ((a == c) && ((b == e) && true)) = _
  rw [Bool.and_true, Bool.decide_and]
  rfl
theorem dok_pair {a b : Int} : dataOk (.tup [.int a, .int b]) := ⟨rfl, by show 0 + 1 ≤ 60; decide⟩
theorem p_place {m : Nat} {p q a b : Int} {d : Nat} {J : Slot → Nat → Prop} {E : EX} (hu : Un p q) (a1 : -Big ≤ a) (a2 : a ≤ Big) (b1 : -Big ≤ b) (b2 : b ≤ Big) (h1 : ∀ k : Nat, a = U p q (k + 1) → b = U p q k → J (.val (.int k)) d) (h2 : (∀ k : Nat, ¬ (a = U p q (k + 1) ∧ b = U p q k)) → J (.val .non) d) :
    sem T (m + 2) 140 [.tup [.int p, .int q], .int a, .int b] d J E := by
  have ok := hu.ok
  have sp := sm_rule ok.1
  have sq := sm_rule ok.2.1
  have sa := sm_big a1 a2
  have sb := sm_big b1 b2
  have bl := big_lt
  refine u_place_of_pair ?_
  have none_of : (∀ k : Nat, a = U p q (k + 1) → b = U p q k → False) → J (.val .non) d := fun z => h2 fun k ⟨e1, e2⟩ => z k e1 e2
  (conv => whnf); (try dsimp only [PSt.set, List.set_cons_zero, List.set_cons_succ, wipeP, backP, List.getD_cons_zero, List.getD_cons_succ])
  refine cnd_of (fun c1 => ?_) fun c1 => ?_
  · have c1 : a < b := of_decide_eq_true c1
    (repeat ((conv => whnf); first | refine k_i1 ?_ | refine k_i2 ?_ | refine k_i3 ?_ | refine k_i4 ?_ | refine k_i5 ?_ | refine k_i6 ?_ | refine k_i7 ?_ | refine k_b1 ?_ | refine k_b2 ?_ | refine k_b3 ?_ | refine k_b4 ?_ | refine k_b5 ?_ | refine k_b6 ?_ | refine k_b7 ?_ | refine k_s1 ?_ | refine k_s2 ?_ | refine k_s3 ?_ | refine k_s4 ?_ | refine k_s5 ?_ | refine k_s6 ?_ | refine k_s7 ?_ | refine k_t1 ?_ | refine k_t2 ?_ | refine k_t3 ?_ | refine k_t4 ?_ | refine k_t5 ?_ | refine k_t6 ?_ | refine k_t7 ?_ | refine k_l1 ?_ | refine k_l2 ?_ | refine k_l3 ?_ | refine k_l4 ?_ | refine k_l5 ?_ | refine k_l6 ?_ | refine k_l7 ?_ | refine k_n6 ?_ | refine k_n7 ?_ | refine k_n1 ?_ | refine k_n2 ?_ | refine k_n3 ?_ | refine k_n4 ?_ | refine k_n5 ?_ | refine ⟨dok_scal rfl rfl, dok_scal rfl rfl, ?_⟩ | refine ⟨_, rfl, ?_⟩)); (conv => whnf); (try dsimp only [PSt.set, List.set_cons_zero, List.set_cons_succ, wipeP, backP, List.getD_cons_zero, List.getD_cons_succ])
    exact none_of fun k e1 e2 => by
      have := un_mono hu k
      omega
  have c1 : ¬ a < b := of_decide_eq_false c1
  (conv => whnf); (try dsimp only [PSt.set, List.set_cons_zero, List.set_cons_succ, wipeP, backP, List.getD_cons_zero, List.getD_cons_succ])
  refine cnd_of (fun c2 => ?_) fun c2 => ?_
  · have c2 : b < 0 := of_decide_eq_true c2
    (repeat ((conv => whnf); first | refine k_i1 ?_ | refine k_i2 ?_ | refine k_i3 ?_ | refine k_i4 ?_ | refine k_i5 ?_ | refine k_i6 ?_ | refine k_i7 ?_ | refine k_b1 ?_ | refine k_b2 ?_ | refine k_b3 ?_ | refine k_b4 ?_ | refine k_b5 ?_ | refine k_b6 ?_ | refine k_b7 ?_ | refine k_s1 ?_ | refine k_s2 ?_ | refine k_s3 ?_ | refine k_s4 ?_ | refine k_s5 ?_ | refine k_s6 ?_ | refine k_s7 ?_ | refine k_t1 ?_ | refine k_t2 ?_ | refine k_t3 ?_ | refine k_t4 ?_ | refine k_t5 ?_ | refine k_t6 ?_ | refine k_t7 ?_ | refine k_l1 ?_ | refine k_l2 ?_ | refine k_l3 ?_ | refine k_l4 ?_ | refine k_l5 ?_ | refine k_l6 ?_ | refine k_l7 ?_ | refine k_n6 ?_ | refine k_n7 ?_ | refine k_n1 ?_ | refine k_n2 ?_ | refine k_n3 ?_ | refine k_n4 ?_ | refine k_n5 ?_ | refine ⟨dok_scal rfl rfl, dok_scal rfl rfl, ?_⟩ | refine ⟨_, rfl, ?_⟩)); (conv => whnf); (try dsimp only [PSt.set, List.set_cons_zero, List.set_cons_succ, wipeP, backP, List.getD_cons_zero, List.getD_cons_succ])
    exact none_of fun k e1 e2 => by
      have := un_mono hu k
      omega
  have c2 : ¬ b < 0 := of_decide_eq_false c2
  (repeat ((conv => whnf); first | refine k_i1 ?_ | refine k_i2 ?_ | refine k_i3 ?_ | refine k_i4 ?_ | refine k_i5 ?_ | refine k_i6 ?_ | refine k_i7 ?_ | refine k_b1 ?_ | refine k_b2 ?_ | refine k_b3 ?_ | refine k_b4 ?_ | refine k_b5 ?_ | refine k_b6 ?_ | refine k_b7 ?_ | refine k_s1 ?_ | refine k_s2 ?_ | refine k_s3 ?_ | refine k_s4 ?_ | refine k_s5 ?_ | refine k_s6 ?_ | refine k_s7 ?_ | refine k_t1 ?_ | refine k_t2 ?_ | refine k_t3 ?_ | refine k_t4 ?_ | refine k_t5 ?_ | refine k_t6 ?_ | refine k_t7 ?_ | refine k_l1 ?_ | refine k_l2 ?_ | refine k_l3 ?_ | refine k_l4 ?_ | refine k_l5 ?_ | refine k_l6 ?_ | refine k_l7 ?_ | refine k_n6 ?_ | refine k_n7 ?_ | refine k_n1 ?_ | refine k_n2 ?_ | refine k_n3 ?_ | refine k_n4 ?_ | refine k_n5 ?_ | refine ⟨dok_scal rfl rfl, dok_scal rfl rfl, ?_⟩ | refine ⟨_, rfl, ?_⟩)); (conv => whnf); (try dsimp only [PSt.set, List.set_cons_zero, List.set_cons_succ, wipeP, backP, List.getD_cons_zero, List.getD_cons_succ])
  refine p_form_in (k := 340) sp sq sa sb (by decide) ?_
  (conv => whnf); (try dsimp only [PSt.set, List.set_cons_zero, List.set_cons_succ, wipeP, backP, List.getD_cons_zero, List.getD_cons_succ])
  have unit : ∀ k : Nat, q ^ k = 1 ∨ (q ^ k = -1 ∧ q = -1) := fun k => by
    induction k with
    | zero => simp
    | succ k ih =>
      rw [Int.pow_succ]
      rcases hu with ⟨rfl, _⟩ | ⟨rfl, _⟩
      · rcases ih with ih | ⟨ih, _⟩ <;> rw [ih] <;> simp
      · rcases ih with ih | ⟨_, ih⟩
        · rw [ih]; simp
        · exact absurd ih (by decide)
  refine cnd_of (fun c3 => ?_) fun c3 => ?_
  · have c3 : ¬ (if Fm p q a b < 0 then -Fm p q a b else Fm p q a b) = 1 := by simpa using c3
    (repeat ((conv => whnf); first | refine k_i1 ?_ | refine k_i2 ?_ | refine k_i3 ?_ | refine k_i4 ?_ | refine k_i5 ?_ | refine k_i6 ?_ | refine k_i7 ?_ | refine k_b1 ?_ | refine k_b2 ?_ | refine k_b3 ?_ | refine k_b4 ?_ | refine k_b5 ?_ | refine k_b6 ?_ | refine k_b7 ?_ | refine k_s1 ?_ | refine k_s2 ?_ | refine k_s3 ?_ | refine k_s4 ?_ | refine k_s5 ?_ | refine k_s6 ?_ | refine k_s7 ?_ | refine k_t1 ?_ | refine k_t2 ?_ | refine k_t3 ?_ | refine k_t4 ?_ | refine k_t5 ?_ | refine k_t6 ?_ | refine k_t7 ?_ | refine k_l1 ?_ | refine k_l2 ?_ | refine k_l3 ?_ | refine k_l4 ?_ | refine k_l5 ?_ | refine k_l6 ?_ | refine k_l7 ?_ | refine k_n6 ?_ | refine k_n7 ?_ | refine k_n1 ?_ | refine k_n2 ?_ | refine k_n3 ?_ | refine k_n4 ?_ | refine k_n5 ?_ | refine ⟨dok_scal rfl rfl, dok_scal rfl rfl, ?_⟩ | refine ⟨_, rfl, ?_⟩)); (conv => whnf); (try dsimp only [PSt.set, List.set_cons_zero, List.set_cons_succ, wipeP, backP, List.getD_cons_zero, List.getD_cons_succ])
    exact none_of fun k e1 e2 => by
      have := fm_U p q k
      rw [← e1, ← e2] at this
      rcases unit k with h | ⟨h, _⟩ <;> rw [h] at this <;> rw [this] at c3 <;> exact c3 (by decide)
  have c3 : (if Fm p q a b < 0 then -Fm p q a b else Fm p q a b) = 1 := by simpa using c3
  have c3' : Fm p q a b = 1 ∨ Fm p q a b = -1 := by
    split at c3 <;> omega
  (repeat ((conv => whnf); first | refine k_i1 ?_ | refine k_i2 ?_ | refine k_i3 ?_ | refine k_i4 ?_ | refine k_i5 ?_ | refine k_i6 ?_ | refine k_i7 ?_ | refine k_b1 ?_ | refine k_b2 ?_ | refine k_b3 ?_ | refine k_b4 ?_ | refine k_b5 ?_ | refine k_b6 ?_ | refine k_b7 ?_ | refine k_s1 ?_ | refine k_s2 ?_ | refine k_s3 ?_ | refine k_s4 ?_ | refine k_s5 ?_ | refine k_s6 ?_ | refine k_s7 ?_ | refine k_t1 ?_ | refine k_t2 ?_ | refine k_t3 ?_ | refine k_t4 ?_ | refine k_t5 ?_ | refine k_t6 ?_ | refine k_t7 ?_ | refine k_l1 ?_ | refine k_l2 ?_ | refine k_l3 ?_ | refine k_l4 ?_ | refine k_l5 ?_ | refine k_l6 ?_ | refine k_l7 ?_ | refine k_n6 ?_ | refine k_n7 ?_ | refine k_n1 ?_ | refine k_n2 ?_ | refine k_n3 ?_ | refine k_n4 ?_ | refine k_n5 ?_ | refine ⟨dok_scal rfl rfl, dok_scal rfl rfl, ?_⟩ | refine ⟨_, rfl, ?_⟩)); (conv => whnf); (try dsimp only [PSt.set, List.set_cons_zero, List.set_cons_succ, wipeP, backP, List.getD_cons_zero, List.getD_cons_succ])
  refine p_form_in (k := 340) sp sq sa sb (by decide) ?_
  have fin : (Fm p q a b = -1 → q = -1) → evSs (sem T (m + 1)) [(.par [(.nm 3), (.nm 4), (.nm 5)] [(.cst (.int 1)), (.cst (.int 0)), (.cst (.int 0))]), (.whil (.val (.cmp .lt (.var 3) (.var 1))) [(.asg (.tup [(.nm 3), (.nm 4)]) (.call 138 [(.var 0), (.var 3), (.var 4)])), (.aug 5 .add (.cst (.int 1)))]), (.cond (.val (.cmp .ne (.tup [(.var 3), (.var 4)]) (.tup [(.var 1), (.var 2)]))) [(.asg (.tup [(.nm 3), (.nm 4)]) (.call 138 [(.var 0), (.var 3), (.var 4)])), (.aug 5 .add (.cst (.int 1)))] []), (.ret (.var 5))] ⟨fun q => J (.val .non) q.d, fun r q => J r q.d, fun _ => False, fun _ => False, E⟩ ⟨[.val (.tup [.int p, .int q]), .val (.int a), .val (.int b), .un, .un, .un], d⟩ := by
    intro hq
    obtain ⟨k, e1, e2⟩ := un_class hu _ a b _ (Nat.le_refl _) (by omega) (by omega) rfl (by
      rcases c3' with h | h
      · exact .inl h
      · exact .inr ⟨h, hq h⟩)
    have hJ := h1 k e1 e2
    (repeat ((conv => whnf); first | refine k_i1 ?_ | refine k_i2 ?_ | refine k_i3 ?_ | refine k_i4 ?_ | refine k_i5 ?_ | refine k_i6 ?_ | refine k_i7 ?_ | refine k_b1 ?_ | refine k_b2 ?_ | refine k_b3 ?_ | refine k_b4 ?_ | refine k_b5 ?_ | refine k_b6 ?_ | refine k_b7 ?_ | refine k_s1 ?_ | refine k_s2 ?_ | refine k_s3 ?_ | refine k_s4 ?_ | refine k_s5 ?_ | refine k_s6 ?_ | refine k_s7 ?_ | refine k_t1 ?_ | refine k_t2 ?_ | refine k_t3 ?_ | refine k_t4 ?_ | refine k_t5 ?_ | refine k_t6 ?_ | refine k_t7 ?_ | refine k_l1 ?_ | refine k_l2 ?_ | refine k_l3 ?_ | refine k_l4 ?_ | refine k_l5 ?_ | refine k_l6 ?_ | refine k_l7 ?_ | refine k_n6 ?_ | refine k_n7 ?_ | refine k_n1 ?_ | refine k_n2 ?_ | refine k_n3 ?_ | refine k_n4 ?_ | refine k_n5 ?_ | refine ⟨dok_scal rfl rfl, dok_scal rfl rfl, ?_⟩ | refine ⟨_, rfl, ?_⟩)); (conv => whnf); (try dsimp only [PSt.set, List.set_cons_zero, List.set_cons_succ, wipeP, backP, List.getD_cons_zero, List.getD_cons_succ])
    refine whil_ind (fun s => ∃ j : Nat, s = ⟨[.val (.tup [.int p, .int q]), .val (.int a), .val (.int b), .val (.int (U p q (j + 1))), .val (.int (U p q j)), .val (.int j)], d⟩ ∧ j ≤ k) (fun s => match s.get 5 with | .val (.int j) => k - j.toNat | _ => 0) ?_ ⟨0, by simp [U], by omega⟩
    rintro s ⟨j, rfl, hj⟩ W hW
    obtain ⟨n1, n2, n3⟩ := un_mono hu j
    have hle := un_le2 hu (show j + 1 ≤ k + 1 by omega)
    have sn : Sm 340 (U p q (j + 1)) := sm_big (by omega) (by omega)
    have sf : Sm 340 (U p q j) := sm_big (by omega) (by omega)
    (repeat ((conv => whnf); first | refine k_i1 ?_ | refine k_i2 ?_ | refine k_i3 ?_ | refine k_i4 ?_ | refine k_i5 ?_ | refine k_i6 ?_ | refine k_i7 ?_ | refine k_b1 ?_ | refine k_b2 ?_ | refine k_b3 ?_ | refine k_b4 ?_ | refine k_b5 ?_ | refine k_b6 ?_ | refine k_b7 ?_ | refine k_s1 ?_ | refine k_s2 ?_ | refine k_s3 ?_ | refine k_s4 ?_ | refine k_s5 ?_ | refine k_s6 ?_ | refine k_s7 ?_ | refine k_t1 ?_ | refine k_t2 ?_ | refine k_t3 ?_ | refine k_t4 ?_ | refine k_t5 ?_ | refine k_t6 ?_ | refine k_t7 ?_ | refine k_l1 ?_ | refine k_l2 ?_ | refine k_l3 ?_ | refine k_l4 ?_ | refine k_l5 ?_ | refine k_l6 ?_ | refine k_l7 ?_ | refine k_n6 ?_ | refine k_n7 ?_ | refine k_n1 ?_ | refine k_n2 ?_ | refine k_n3 ?_ | refine k_n4 ?_ | refine k_n5 ?_ | refine ⟨dok_scal rfl rfl, dok_scal rfl rfl, ?_⟩ | refine ⟨_, rfl, ?_⟩)); (conv => whnf); (try dsimp only [PSt.set, List.set_cons_zero, List.set_cons_succ, wipeP, backP, List.getD_cons_zero, List.getD_cons_succ])
    refine cnd_of (fun hlt => ?_) fun hge => ?_
    · have hlt : U p q (j + 1) < a := of_decide_eq_true hlt
      have hjk : j < k := by
        rcases Nat.lt_or_ge j k with h | h
        · exact h
        · have := un_le2 hu (show k + 1 ≤ j + 1 by omega)
          omega
      (repeat ((conv => whnf); first | refine k_i1 ?_ | refine k_i2 ?_ | refine k_i3 ?_ | refine k_i4 ?_ | refine k_i5 ?_ | refine k_i6 ?_ | refine k_i7 ?_ | refine k_b1 ?_ | refine k_b2 ?_ | refine k_b3 ?_ | refine k_b4 ?_ | refine k_b5 ?_ | refine k_b6 ?_ | refine k_b7 ?_ | refine k_s1 ?_ | refine k_s2 ?_ | refine k_s3 ?_ | refine k_s4 ?_ | refine k_s5 ?_ | refine k_s6 ?_ | refine k_s7 ?_ | refine k_t1 ?_ | refine k_t2 ?_ | refine k_t3 ?_ | refine k_t4 ?_ | refine k_t5 ?_ | refine k_t6 ?_ | refine k_t7 ?_ | refine k_l1 ?_ | refine k_l2 ?_ | refine k_l3 ?_ | refine k_l4 ?_ | refine k_l5 ?_ | refine k_l6 ?_ | refine k_l7 ?_ | refine k_n6 ?_ | refine k_n7 ?_ | refine k_n1 ?_ | refine k_n2 ?_ | refine k_n3 ?_ | refine k_n4 ?_ | refine k_n5 ?_ | refine ⟨dok_scal rfl rfl, dok_scal rfl rfl, ?_⟩ | refine ⟨_, rfl, ?_⟩)); (conv => whnf); (try dsimp only [PSt.set, List.set_cons_zero, List.set_cons_succ, wipeP, backP, List.getD_cons_zero, List.getD_cons_succ])
      refine p_nextp (k := 340) sp sq sn sf (by decide) ?_
      (repeat ((conv => whnf); first | refine k_i1 ?_ | refine k_i2 ?_ | refine k_i3 ?_ | refine k_i4 ?_ | refine k_i5 ?_ | refine k_i6 ?_ | refine k_i7 ?_ | refine k_b1 ?_ | refine k_b2 ?_ | refine k_b3 ?_ | refine k_b4 ?_ | refine k_b5 ?_ | refine k_b6 ?_ | refine k_b7 ?_ | refine k_s1 ?_ | refine k_s2 ?_ | refine k_s3 ?_ | refine k_s4 ?_ | refine k_s5 ?_ | refine k_s6 ?_ | refine k_s7 ?_ | refine k_t1 ?_ | refine k_t2 ?_ | refine k_t3 ?_ | refine k_t4 ?_ | refine k_t5 ?_ | refine k_t6 ?_ | refine k_t7 ?_ | refine k_l1 ?_ | refine k_l2 ?_ | refine k_l3 ?_ | refine k_l4 ?_ | refine k_l5 ?_ | refine k_l6 ?_ | refine k_l7 ?_ | refine k_n6 ?_ | refine k_n7 ?_ | refine k_n1 ?_ | refine k_n2 ?_ | refine k_n3 ?_ | refine k_n4 ?_ | refine k_n5 ?_ | refine ⟨dok_scal rfl rfl, dok_scal rfl rfl, ?_⟩ | refine ⟨_, rfl, ?_⟩)); (conv => whnf); (try dsimp only [PSt.set, List.set_cons_zero, List.set_cons_succ, wipeP, backP, List.getD_cons_zero, List.getD_cons_succ])
      rw [← U_ss]
      refine hW _ ⟨j + 1, rfl, by omega⟩ ?_
      show k - ((j : Int) + 1).toNat < k - (j : Int).toNat
      omega
    · have hge : ¬ U p q (j + 1) < a := of_decide_eq_false hge
      have heq : U p q (j + 1) = a := by omega
      (repeat ((conv => whnf); first | refine k_i1 ?_ | refine k_i2 ?_ | refine k_i3 ?_ | refine k_i4 ?_ | refine k_i5 ?_ | refine k_i6 ?_ | refine k_i7 ?_ | refine k_b1 ?_ | refine k_b2 ?_ | refine k_b3 ?_ | refine k_b4 ?_ | refine k_b5 ?_ | refine k_b6 ?_ | refine k_b7 ?_ | refine k_s1 ?_ | refine k_s2 ?_ | refine k_s3 ?_ | refine k_s4 ?_ | refine k_s5 ?_ | refine k_s6 ?_ | refine k_s7 ?_ | refine k_t1 ?_ | refine k_t2 ?_ | refine k_t3 ?_ | refine k_t4 ?_ | refine k_t5 ?_ | refine k_t6 ?_ | refine k_t7 ?_ | refine k_l1 ?_ | refine k_l2 ?_ | refine k_l3 ?_ | refine k_l4 ?_ | refine k_l5 ?_ | refine k_l6 ?_ | refine k_l7 ?_ | refine k_n6 ?_ | refine k_n7 ?_ | refine k_n1 ?_ | refine k_n2 ?_ | refine k_n3 ?_ | refine k_n4 ?_ | refine k_n5 ?_ | refine ⟨dok_scal rfl rfl, dok_scal rfl rfl, ?_⟩ | refine ⟨_, rfl, ?_⟩)); (conv => whnf); (try dsimp only [PSt.set, List.set_cons_zero, List.set_cons_succ, wipeP, backP, List.getD_cons_zero, List.getD_cons_succ])
      refine ⟨dok_pair, dok_pair, ?_⟩
      rw [pyEq_pair]
      by_cases hb : U p q j = b
      · have ejk : j = k := un_inj hu (by omega) (by omega)
        subst ejk
        rw [decide_eq_true ⟨heq, hb⟩]
        (repeat ((conv => whnf); first | refine k_i1 ?_ | refine k_i2 ?_ | refine k_i3 ?_ | refine k_i4 ?_ | refine k_i5 ?_ | refine k_i6 ?_ | refine k_i7 ?_ | refine k_b1 ?_ | refine k_b2 ?_ | refine k_b3 ?_ | refine k_b4 ?_ | refine k_b5 ?_ | refine k_b6 ?_ | refine k_b7 ?_ | refine k_s1 ?_ | refine k_s2 ?_ | refine k_s3 ?_ | refine k_s4 ?_ | refine k_s5 ?_ | refine k_s6 ?_ | refine k_s7 ?_ | refine k_t1 ?_ | refine k_t2 ?_ | refine k_t3 ?_ | refine k_t4 ?_ | refine k_t5 ?_ | refine k_t6 ?_ | refine k_t7 ?_ | refine k_l1 ?_ | refine k_l2 ?_ | refine k_l3 ?_ | refine k_l4 ?_ | refine k_l5 ?_ | refine k_l6 ?_ | refine k_l7 ?_ | refine k_n6 ?_ | refine k_n7 ?_ | refine k_n1 ?_ | refine k_n2 ?_ | refine k_n3 ?_ | refine k_n4 ?_ | refine k_n5 ?_ | refine ⟨dok_scal rfl rfl, dok_scal rfl rfl, ?_⟩ | refine ⟨_, rfl, ?_⟩)); (conv => whnf); (try dsimp only [PSt.set, List.set_cons_zero, List.set_cons_succ, wipeP, backP, List.getD_cons_zero, List.getD_cons_succ])
        exact hJ
      · rw [decide_eq_false (fun z => hb z.2)]
        (repeat ((conv => whnf); first | refine k_i1 ?_ | refine k_i2 ?_ | refine k_i3 ?_ | refine k_i4 ?_ | refine k_i5 ?_ | refine k_i6 ?_ | refine k_i7 ?_ | refine k_b1 ?_ | refine k_b2 ?_ | refine k_b3 ?_ | refine k_b4 ?_ | refine k_b5 ?_ | refine k_b6 ?_ | refine k_b7 ?_ | refine k_s1 ?_ | refine k_s2 ?_ | refine k_s3 ?_ | refine k_s4 ?_ | refine k_s5 ?_ | refine k_s6 ?_ | refine k_s7 ?_ | refine k_t1 ?_ | refine k_t2 ?_ | refine k_t3 ?_ | refine k_t4 ?_ | refine k_t5 ?_ | refine k_t6 ?_ | refine k_t7 ?_ | refine k_l1 ?_ | refine k_l2 ?_ | refine k_l3 ?_ | refine k_l4 ?_ | refine k_l5 ?_ | refine k_l6 ?_ | refine k_l7 ?_ | refine k_n6 ?_ | refine k_n7 ?_ | refine k_n1 ?_ | refine k_n2 ?_ | refine k_n3 ?_ | refine k_n4 ?_ | refine k_n5 ?_ | refine ⟨dok_scal rfl rfl, dok_scal rfl rfl, ?_⟩ | refine ⟨_, rfl, ?_⟩)); (conv => whnf); (try dsimp only [PSt.set, List.set_cons_zero, List.set_cons_succ, wipeP, backP, List.getD_cons_zero, List.getD_cons_succ])
        refine p_nextp (k := 340) sp sq sn sf (by decide) ?_
        (repeat ((conv => whnf); first | refine k_i1 ?_ | refine k_i2 ?_ | refine k_i3 ?_ | refine k_i4 ?_ | refine k_i5 ?_ | refine k_i6 ?_ | refine k_i7 ?_ | refine k_b1 ?_ | refine k_b2 ?_ | refine k_b3 ?_ | refine k_b4 ?_ | refine k_b5 ?_ | refine k_b6 ?_ | refine k_b7 ?_ | refine k_s1 ?_ | refine k_s2 ?_ | refine k_s3 ?_ | refine k_s4 ?_ | refine k_s5 ?_ | refine k_s6 ?_ | refine k_s7 ?_ | refine k_t1 ?_ | refine k_t2 ?_ | refine k_t3 ?_ | refine k_t4 ?_ | refine k_t5 ?_ | refine k_t6 ?_ | refine k_t7 ?_ | refine k_l1 ?_ | refine k_l2 ?_ | refine k_l3 ?_ | refine k_l4 ?_ | refine k_l5 ?_ | refine k_l6 ?_ | refine k_l7 ?_ | refine k_n6 ?_ | refine k_n7 ?_ | refine k_n1 ?_ | refine k_n2 ?_ | refine k_n3 ?_ | refine k_n4 ?_ | refine k_n5 ?_ | refine ⟨dok_scal rfl rfl, dok_scal rfl rfl, ?_⟩ | refine ⟨_, rfl, ?_⟩)); (conv => whnf); (try dsimp only [PSt.set, List.set_cons_zero, List.set_cons_succ, wipeP, backP, List.getD_cons_zero, List.getD_cons_succ])
        have hjk : j < k := by
          rcases Nat.lt_or_ge j k with h | h
          · exact h
          · have : j = k := by omega
            subst this
            omega
        have hj0 : j = 0 := by
          rcases Nat.lt_or_ge j 1 with h | h
          · omega
          · have g1 := un_strict hu h
            have g2 := un_le2 hu (show j + 2 ≤ k + 1 by omega)
            omega
        subst hj0
        have hk1 : k = 1 := by
          rcases Nat.lt_or_ge k 2 with h | h
          · omega
          · have g1 : U p q 1 < U p q 3 := un_skip hu 1
            have g2 := un_le2 hu (show 3 ≤ k + 1 by omega)
            have g3 : U p q (0 + 1) = U p q 1 := rfl
            omega
        subst hk1
        exact hJ
  refine cnd_of (fun c4 => ?_) fun c4 => ?_
  · have c4 : Fm p q a b = -1 := of_decide_eq_true c4
    (repeat ((conv => whnf); first | refine k_i1 ?_ | refine k_i2 ?_ | refine k_i3 ?_ | refine k_i4 ?_ | refine k_i5 ?_ | refine k_i6 ?_ | refine k_i7 ?_ | refine k_b1 ?_ | refine k_b2 ?_ | refine k_b3 ?_ | refine k_b4 ?_ | refine k_b5 ?_ | refine k_b6 ?_ | refine k_b7 ?_ | refine k_s1 ?_ | refine k_s2 ?_ | refine k_s3 ?_ | refine k_s4 ?_ | refine k_s5 ?_ | refine k_s6 ?_ | refine k_s7 ?_ | refine k_t1 ?_ | refine k_t2 ?_ | refine k_t3 ?_ | refine k_t4 ?_ | refine k_t5 ?_ | refine k_t6 ?_ | refine k_t7 ?_ | refine k_l1 ?_ | refine k_l2 ?_ | refine k_l3 ?_ | refine k_l4 ?_ | refine k_l5 ?_ | refine k_l6 ?_ | refine k_l7 ?_ | refine k_n6 ?_ | refine k_n7 ?_ | refine k_n1 ?_ | refine k_n2 ?_ | refine k_n3 ?_ | refine k_n4 ?_ | refine k_n5 ?_ | refine ⟨dok_scal rfl rfl, dok_scal rfl rfl, ?_⟩ | refine ⟨_, rfl, ?_⟩)); (conv => whnf); (try dsimp only [PSt.set, List.set_cons_zero, List.set_cons_succ, wipeP, backP, List.getD_cons_zero, List.getD_cons_succ])
    refine cnd_of (fun c5 => ?_) fun c5 => ?_
    · have c5 : -1 = -q := of_decide_eq_true c5
      (repeat ((conv => whnf); first | refine k_i1 ?_ | refine k_i2 ?_ | refine k_i3 ?_ | refine k_i4 ?_ | refine k_i5 ?_ | refine k_i6 ?_ | refine k_i7 ?_ | refine k_b1 ?_ | refine k_b2 ?_ | refine k_b3 ?_ | refine k_b4 ?_ | refine k_b5 ?_ | refine k_b6 ?_ | refine k_b7 ?_ | refine k_s1 ?_ | refine k_s2 ?_ | refine k_s3 ?_ | refine k_s4 ?_ | refine k_s5 ?_ | refine k_s6 ?_ | refine k_s7 ?_ | refine k_t1 ?_ | refine k_t2 ?_ | refine k_t3 ?_ | refine k_t4 ?_ | refine k_t5 ?_ | refine k_t6 ?_ | refine k_t7 ?_ | refine k_l1 ?_ | refine k_l2 ?_ | refine k_l3 ?_ | refine k_l4 ?_ | refine k_l5 ?_ | refine k_l6 ?_ | refine k_l7 ?_ | refine k_n6 ?_ | refine k_n7 ?_ | refine k_n1 ?_ | refine k_n2 ?_ | refine k_n3 ?_ | refine k_n4 ?_ | refine k_n5 ?_ | refine ⟨dok_scal rfl rfl, dok_scal rfl rfl, ?_⟩ | refine ⟨_, rfl, ?_⟩)); (conv => whnf); (try dsimp only [PSt.set, List.set_cons_zero, List.set_cons_succ, wipeP, backP, List.getD_cons_zero, List.getD_cons_succ])
      exact none_of fun k e1 e2 => by
        have := fm_U p q k
        rw [← e1, ← e2, c4] at this
        rcases unit k with h | ⟨h, h'⟩ <;> omega
    · have c5 : ¬ -1 = -q := of_decide_eq_false c5
      exact fin fun _ => by rcases hu with ⟨h, _⟩ | ⟨h, _⟩ <;> omega
  · have c4 : ¬ Fm p q a b = -1 := of_decide_eq_false c4
    exact fin fun z => absurd z c4

theorem p_nplace {m : Nat} {p q a b : Int} {d : Nat} {J : Slot → Nat → Prop} {E : EX} (hu : Un p q) (a1 : -Big ≤ a) (a2 : a ≤ Big) (b1 : -Big ≤ b) (b2 : b ≤ Big) (h1 : ∀ k : Nat, a = U p q (k + 1) → b = U p q k → J (.val (.int k)) d) (h2 : (∀ k : Nat, ¬ (a = U p q (k + 1) ∧ b = U p q k)) → J (.val .non) d) :
    sem T (m + 5) 146 [.tup [.int p, .int q], .int a, .int b] d J E := by
  refine u_neighbours_place ?_
  (repeat ((conv => whnf); first | refine k_i1 ?_ | refine k_i2 ?_ | refine k_i3 ?_ | refine k_i4 ?_ | refine k_i5 ?_ | refine k_i6 ?_ | refine k_i7 ?_ | refine k_b1 ?_ | refine k_b2 ?_ | refine k_b3 ?_ | refine k_b4 ?_ | refine k_b5 ?_ | refine k_b6 ?_ | refine k_b7 ?_ | refine k_s1 ?_ | refine k_s2 ?_ | refine k_s3 ?_ | refine k_s4 ?_ | refine k_s5 ?_ | refine k_s6 ?_ | refine k_s7 ?_ | refine k_t1 ?_ | refine k_t2 ?_ | refine k_t3 ?_ | refine k_t4 ?_ | refine k_t5 ?_ | refine k_t6 ?_ | refine k_t7 ?_ | refine k_l1 ?_ | refine k_l2 ?_ | refine k_l3 ?_ | refine k_l4 ?_ | refine k_l5 ?_ | refine k_l6 ?_ | refine k_l7 ?_ | refine k_n6 ?_ | refine k_n7 ?_ | refine k_n1 ?_ | refine k_n2 ?_ | refine k_n3 ?_ | refine k_n4 ?_ | refine k_n5 ?_ | refine ⟨dok_scal rfl rfl, dok_scal rfl rfl, ?_⟩ | refine ⟨_, rfl, ?_⟩)); (conv => whnf); (try dsimp only [PSt.set, List.set_cons_zero, List.set_cons_succ, wipeP, backP, List.getD_cons_zero, List.getD_cons_succ])
  refine p_sure_rule_any (.inl rfl) hu.ok ?_
  (repeat ((conv => whnf); first | refine k_i1 ?_ | refine k_i2 ?_ | refine k_i3 ?_ | refine k_i4 ?_ | refine k_i5 ?_ | refine k_i6 ?_ | refine k_i7 ?_ | refine k_b1 ?_ | refine k_b2 ?_ | refine k_b3 ?_ | refine k_b4 ?_ | refine k_b5 ?_ | refine k_b6 ?_ | refine k_b7 ?_ | refine k_s1 ?_ | refine k_s2 ?_ | refine k_s3 ?_ | refine k_s4 ?_ | refine k_s5 ?_ | refine k_s6 ?_ | refine k_s7 ?_ | refine k_t1 ?_ | refine k_t2 ?_ | refine k_t3 ?_ | refine k_t4 ?_ | refine k_t5 ?_ | refine k_t6 ?_ | refine k_t7 ?_ | refine k_l1 ?_ | refine k_l2 ?_ | refine k_l3 ?_ | refine k_l4 ?_ | refine k_l5 ?_ | refine k_l6 ?_ | refine k_l7 ?_ | refine k_n6 ?_ | refine k_n7 ?_ | refine k_n1 ?_ | refine k_n2 ?_ | refine k_n3 ?_ | refine k_n4 ?_ | refine k_n5 ?_ | refine ⟨dok_scal rfl rfl, dok_scal rfl rfl, ?_⟩ | refine ⟨_, rfl, ?_⟩)); (conv => whnf); (try dsimp only [PSt.set, List.set_cons_zero, List.set_cons_succ, wipeP, backP, List.getD_cons_zero, List.getD_cons_succ])
  refine p_sized a1 a2 ?_
  (repeat ((conv => whnf); first | refine k_i1 ?_ | refine k_i2 ?_ | refine k_i3 ?_ | refine k_i4 ?_ | refine k_i5 ?_ | refine k_i6 ?_ | refine k_i7 ?_ | refine k_b1 ?_ | refine k_b2 ?_ | refine k_b3 ?_ | refine k_b4 ?_ | refine k_b5 ?_ | refine k_b6 ?_ | refine k_b7 ?_ | refine k_s1 ?_ | refine k_s2 ?_ | refine k_s3 ?_ | refine k_s4 ?_ | refine k_s5 ?_ | refine k_s6 ?_ | refine k_s7 ?_ | refine k_t1 ?_ | refine k_t2 ?_ | refine k_t3 ?_ | refine k_t4 ?_ | refine k_t5 ?_ | refine k_t6 ?_ | refine k_t7 ?_ | refine k_l1 ?_ | refine k_l2 ?_ | refine k_l3 ?_ | refine k_l4 ?_ | refine k_l5 ?_ | refine k_l6 ?_ | refine k_l7 ?_ | refine k_n6 ?_ | refine k_n7 ?_ | refine k_n1 ?_ | refine k_n2 ?_ | refine k_n3 ?_ | refine k_n4 ?_ | refine k_n5 ?_ | refine ⟨dok_scal rfl rfl, dok_scal rfl rfl, ?_⟩ | refine ⟨_, rfl, ?_⟩)); (conv => whnf); (try dsimp only [PSt.set, List.set_cons_zero, List.set_cons_succ, wipeP, backP, List.getD_cons_zero, List.getD_cons_succ])
  refine p_sized b1 b2 ?_
  (repeat ((conv => whnf); first | refine k_i1 ?_ | refine k_i2 ?_ | refine k_i3 ?_ | refine k_i4 ?_ | refine k_i5 ?_ | refine k_i6 ?_ | refine k_i7 ?_ | refine k_b1 ?_ | refine k_b2 ?_ | refine k_b3 ?_ | refine k_b4 ?_ | refine k_b5 ?_ | refine k_b6 ?_ | refine k_b7 ?_ | refine k_s1 ?_ | refine k_s2 ?_ | refine k_s3 ?_ | refine k_s4 ?_ | refine k_s5 ?_ | refine k_s6 ?_ | refine k_s7 ?_ | refine k_t1 ?_ | refine k_t2 ?_ | refine k_t3 ?_ | refine k_t4 ?_ | refine k_t5 ?_ | refine k_t6 ?_ | refine k_t7 ?_ | refine k_l1 ?_ | refine k_l2 ?_ | refine k_l3 ?_ | refine k_l4 ?_ | refine k_l5 ?_ | refine k_l6 ?_ | refine k_l7 ?_ | refine k_n6 ?_ | refine k_n7 ?_ | refine k_n1 ?_ | refine k_n2 ?_ | refine k_n3 ?_ | refine k_n4 ?_ | refine k_n5 ?_ | refine ⟨dok_scal rfl rfl, dok_scal rfl rfl, ?_⟩ | refine ⟨_, rfl, ?_⟩)); (conv => whnf); (try dsimp only [PSt.set, List.set_cons_zero, List.set_cons_succ, wipeP, backP, List.getD_cons_zero, List.getD_cons_succ])
  refine p_sureU (fun _ => ?_) (fun z => absurd hu.is (by unfold isU at z; rw [z]; decide))
  (repeat ((conv => whnf); first | refine k_i1 ?_ | refine k_i2 ?_ | refine k_i3 ?_ | refine k_i4 ?_ | refine k_i5 ?_ | refine k_i6 ?_ | refine k_i7 ?_ | refine k_b1 ?_ | refine k_b2 ?_ | refine k_b3 ?_ | refine k_b4 ?_ | refine k_b5 ?_ | refine k_b6 ?_ | refine k_b7 ?_ | refine k_s1 ?_ | refine k_s2 ?_ | refine k_s3 ?_ | refine k_s4 ?_ | refine k_s5 ?_ | refine k_s6 ?_ | refine k_s7 ?_ | refine k_t1 ?_ | refine k_t2 ?_ | refine k_t3 ?_ | refine k_t4 ?_ | refine k_t5 ?_ | refine k_t6 ?_ | refine k_t7 ?_ | refine k_l1 ?_ | refine k_l2 ?_ | refine k_l3 ?_ | refine k_l4 ?_ | refine k_l5 ?_ | refine k_l6 ?_ | refine k_l7 ?_ | refine k_n6 ?_ | refine k_n7 ?_ | refine k_n1 ?_ | refine k_n2 ?_ | refine k_n3 ?_ | refine k_n4 ?_ | refine k_n5 ?_ | refine ⟨dok_scal rfl rfl, dok_scal rfl rfl, ?_⟩ | refine ⟨_, rfl, ?_⟩)); (conv => whnf); (try dsimp only [PSt.set, List.set_cons_zero, List.set_cons_succ, wipeP, backP, List.getD_cons_zero, List.getD_cons_succ])
  refine p_place hu a1 a2 b1 b2 (fun k e1 e2 => ?_) fun z => ?_
  · exact h1 k e1 e2
  · exact h2 z
theorem p_nplace_not {m : Nat} {p q a b : Int} {d : Nat} {J : Slot → Nat → Prop} {E : EX} (ok : OkRule p q) (hn : isU p q = false) (a1 : -Big ≤ a) (a2 : a ≤ Big) (b1 : -Big ≤ b) (b2 : b ≤ Big) (hE : E .cannot d) : sem T (m + 5) 146 [.tup [.int p, .int q], .int a, .int b] d J E := by
  refine u_neighbours_place ?_
  (repeat ((conv => whnf); first | refine k_i1 ?_ | refine k_i2 ?_ | refine k_i3 ?_ | refine k_i4 ?_ | refine k_i5 ?_ | refine k_i6 ?_ | refine k_i7 ?_ | refine k_b1 ?_ | refine k_b2 ?_ | refine k_b3 ?_ | refine k_b4 ?_ | refine k_b5 ?_ | refine k_b6 ?_ | refine k_b7 ?_ | refine k_s1 ?_ | refine k_s2 ?_ | refine k_s3 ?_ | refine k_s4 ?_ | refine k_s5 ?_ | refine k_s6 ?_ | refine k_s7 ?_ | refine k_t1 ?_ | refine k_t2 ?_ | refine k_t3 ?_ | refine k_t4 ?_ | refine k_t5 ?_ | refine k_t6 ?_ | refine k_t7 ?_ | refine k_l1 ?_ | refine k_l2 ?_ | refine k_l3 ?_ | refine k_l4 ?_ | refine k_l5 ?_ | refine k_l6 ?_ | refine k_l7 ?_ | refine k_n6 ?_ | refine k_n7 ?_ | refine k_n1 ?_ | refine k_n2 ?_ | refine k_n3 ?_ | refine k_n4 ?_ | refine k_n5 ?_ | refine ⟨dok_scal rfl rfl, dok_scal rfl rfl, ?_⟩ | refine ⟨_, rfl, ?_⟩)); (conv => whnf); (try dsimp only [PSt.set, List.set_cons_zero, List.set_cons_succ, wipeP, backP, List.getD_cons_zero, List.getD_cons_succ])
  refine p_sure_rule_any (.inl rfl) ok ?_
  (repeat ((conv => whnf); first | refine k_i1 ?_ | refine k_i2 ?_ | refine k_i3 ?_ | refine k_i4 ?_ | refine k_i5 ?_ | refine k_i6 ?_ | refine k_i7 ?_ | refine k_b1 ?_ | refine k_b2 ?_ | refine k_b3 ?_ | refine k_b4 ?_ | refine k_b5 ?_ | refine k_b6 ?_ | refine k_b7 ?_ | refine k_s1 ?_ | refine k_s2 ?_ | refine k_s3 ?_ | refine k_s4 ?_ | refine k_s5 ?_ | refine k_s6 ?_ | refine k_s7 ?_ | refine k_t1 ?_ | refine k_t2 ?_ | refine k_t3 ?_ | refine k_t4 ?_ | refine k_t5 ?_ | refine k_t6 ?_ | refine k_t7 ?_ | refine k_l1 ?_ | refine k_l2 ?_ | refine k_l3 ?_ | refine k_l4 ?_ | refine k_l5 ?_ | refine k_l6 ?_ | refine k_l7 ?_ | refine k_n6 ?_ | refine k_n7 ?_ | refine k_n1 ?_ | refine k_n2 ?_ | refine k_n3 ?_ | refine k_n4 ?_ | refine k_n5 ?_ | refine ⟨dok_scal rfl rfl, dok_scal rfl rfl, ?_⟩ | refine ⟨_, rfl, ?_⟩)); (conv => whnf); (try dsimp only [PSt.set, List.set_cons_zero, List.set_cons_succ, wipeP, backP, List.getD_cons_zero, List.getD_cons_succ])
  refine p_sized a1 a2 ?_
  (repeat ((conv => whnf); first | refine k_i1 ?_ | refine k_i2 ?_ | refine k_i3 ?_ | refine k_i4 ?_ | refine k_i5 ?_ | refine k_i6 ?_ | refine k_i7 ?_ | refine k_b1 ?_ | refine k_b2 ?_ | refine k_b3 ?_ | refine k_b4 ?_ | refine k_b5 ?_ | refine k_b6 ?_ | refine k_b7 ?_ | refine k_s1 ?_ | refine k_s2 ?_ | refine k_s3 ?_ | refine k_s4 ?_ | refine k_s5 ?_ | refine k_s6 ?_ | refine k_s7 ?_ | refine k_t1 ?_ | refine k_t2 ?_ | refine k_t3 ?_ | refine k_t4 ?_ | refine k_t5 ?_ | refine k_t6 ?_ | refine k_t7 ?_ | refine k_l1 ?_ | refine k_l2 ?_ | refine k_l3 ?_ | refine k_l4 ?_ | refine k_l5 ?_ | refine k_l6 ?_ | refine k_l7 ?_ | refine k_n6 ?_ | refine k_n7 ?_ | refine k_n1 ?_ | refine k_n2 ?_ | refine k_n3 ?_ | refine k_n4 ?_ | refine k_n5 ?_ | refine ⟨dok_scal rfl rfl, dok_scal rfl rfl, ?_⟩ | refine ⟨_, rfl, ?_⟩)); (conv => whnf); (try dsimp only [PSt.set, List.set_cons_zero, List.set_cons_succ, wipeP, backP, List.getD_cons_zero, List.getD_cons_succ])
  refine p_sized b1 b2 ?_
  (repeat ((conv => whnf); first | refine k_i1 ?_ | refine k_i2 ?_ | refine k_i3 ?_ | refine k_i4 ?_ | refine k_i5 ?_ | refine k_i6 ?_ | refine k_i7 ?_ | refine k_b1 ?_ | refine k_b2 ?_ | refine k_b3 ?_ | refine k_b4 ?_ | refine k_b5 ?_ | refine k_b6 ?_ | refine k_b7 ?_ | refine k_s1 ?_ | refine k_s2 ?_ | refine k_s3 ?_ | refine k_s4 ?_ | refine k_s5 ?_ | refine k_s6 ?_ | refine k_s7 ?_ | refine k_t1 ?_ | refine k_t2 ?_ | refine k_t3 ?_ | refine k_t4 ?_ | refine k_t5 ?_ | refine k_t6 ?_ | refine k_t7 ?_ | refine k_l1 ?_ | refine k_l2 ?_ | refine k_l3 ?_ | refine k_l4 ?_ | refine k_l5 ?_ | refine k_l6 ?_ | refine k_l7 ?_ | refine k_n6 ?_ | refine k_n7 ?_ | refine k_n1 ?_ | refine k_n2 ?_ | refine k_n3 ?_ | refine k_n4 ?_ | refine k_n5 ?_ | refine ⟨dok_scal rfl rfl, dok_scal rfl rfl, ?_⟩ | refine ⟨_, rfl, ?_⟩)); (conv => whnf); (try dsimp only [PSt.set, List.set_cons_zero, List.set_cons_succ, wipeP, backP, List.getD_cons_zero, List.getD_cons_succ])
  refine p_sureU (fun z => ?_) (fun _ => hE)
  rw [hn] at z
  cases z
theorem p_nplace_bad {m : Nat} {p q a : Int} {v : PV} {d : Nat} {J : Slot → Nat → Prop} {E : EX} (ok : OkRule p q) (a1 : -Big ≤ a) (a2 : a ≤ Big) (dv : isData v = true) (hb : isI v = false) (hE : E .unfit d) : sem T (m + 5) 146 [.tup [.int p, .int q], .int a, v] d J E := by
  refine u_neighbours_place ?_
  (repeat ((conv => whnf); first | refine k_i1 ?_ | refine k_i2 ?_ | refine k_i3 ?_ | refine k_i4 ?_ | refine k_i5 ?_ | refine k_i6 ?_ | refine k_i7 ?_ | refine k_b1 ?_ | refine k_b2 ?_ | refine k_b3 ?_ | refine k_b4 ?_ | refine k_b5 ?_ | refine k_b6 ?_ | refine k_b7 ?_ | refine k_s1 ?_ | refine k_s2 ?_ | refine k_s3 ?_ | refine k_s4 ?_ | refine k_s5 ?_ | refine k_s6 ?_ | refine k_s7 ?_ | refine k_t1 ?_ | refine k_t2 ?_ | refine k_t3 ?_ | refine k_t4 ?_ | refine k_t5 ?_ | refine k_t6 ?_ | refine k_t7 ?_ | refine k_l1 ?_ | refine k_l2 ?_ | refine k_l3 ?_ | refine k_l4 ?_ | refine k_l5 ?_ | refine k_l6 ?_ | refine k_l7 ?_ | refine k_n6 ?_ | refine k_n7 ?_ | refine k_n1 ?_ | refine k_n2 ?_ | refine k_n3 ?_ | refine k_n4 ?_ | refine k_n5 ?_ | refine ⟨dok_scal rfl rfl, dok_scal rfl rfl, ?_⟩ | refine ⟨_, rfl, ?_⟩)); (conv => whnf); (try dsimp only [PSt.set, List.set_cons_zero, List.set_cons_succ, wipeP, backP, List.getD_cons_zero, List.getD_cons_succ])
  refine p_sure_rule_any (.inl rfl) ok ?_
  (repeat ((conv => whnf); first | refine k_i1 ?_ | refine k_i2 ?_ | refine k_i3 ?_ | refine k_i4 ?_ | refine k_i5 ?_ | refine k_i6 ?_ | refine k_i7 ?_ | refine k_b1 ?_ | refine k_b2 ?_ | refine k_b3 ?_ | refine k_b4 ?_ | refine k_b5 ?_ | refine k_b6 ?_ | refine k_b7 ?_ | refine k_s1 ?_ | refine k_s2 ?_ | refine k_s3 ?_ | refine k_s4 ?_ | refine k_s5 ?_ | refine k_s6 ?_ | refine k_s7 ?_ | refine k_t1 ?_ | refine k_t2 ?_ | refine k_t3 ?_ | refine k_t4 ?_ | refine k_t5 ?_ | refine k_t6 ?_ | refine k_t7 ?_ | refine k_l1 ?_ | refine k_l2 ?_ | refine k_l3 ?_ | refine k_l4 ?_ | refine k_l5 ?_ | refine k_l6 ?_ | refine k_l7 ?_ | refine k_n6 ?_ | refine k_n7 ?_ | refine k_n1 ?_ | refine k_n2 ?_ | refine k_n3 ?_ | refine k_n4 ?_ | refine k_n5 ?_ | refine ⟨dok_scal rfl rfl, dok_scal rfl rfl, ?_⟩ | refine ⟨_, rfl, ?_⟩)); (conv => whnf); (try dsimp only [PSt.set, List.set_cons_zero, List.set_cons_succ, wipeP, backP, List.getD_cons_zero, List.getD_cons_succ])
  refine p_sized a1 a2 ?_
  (repeat ((conv => whnf); first | refine k_i1 ?_ | refine k_i2 ?_ | refine k_i3 ?_ | refine k_i4 ?_ | refine k_i5 ?_ | refine k_i6 ?_ | refine k_i7 ?_ | refine k_b1 ?_ | refine k_b2 ?_ | refine k_b3 ?_ | refine k_b4 ?_ | refine k_b5 ?_ | refine k_b6 ?_ | refine k_b7 ?_ | refine k_s1 ?_ | refine k_s2 ?_ | refine k_s3 ?_ | refine k_s4 ?_ | refine k_s5 ?_ | refine k_s6 ?_ | refine k_s7 ?_ | refine k_t1 ?_ | refine k_t2 ?_ | refine k_t3 ?_ | refine k_t4 ?_ | refine k_t5 ?_ | refine k_t6 ?_ | refine k_t7 ?_ | refine k_l1 ?_ | refine k_l2 ?_ | refine k_l3 ?_ | refine k_l4 ?_ | refine k_l5 ?_ | refine k_l6 ?_ | refine k_l7 ?_ | refine k_n6 ?_ | refine k_n7 ?_ | refine k_n1 ?_ | refine k_n2 ?_ | refine k_n3 ?_ | refine k_n4 ?_ | refine k_n5 ?_ | refine ⟨dok_scal rfl rfl, dok_scal rfl rfl, ?_⟩ | refine ⟨_, rfl, ?_⟩)); (conv => whnf); (try dsimp only [PSt.set, List.set_cons_zero, List.set_cons_succ, wipeP, backP, List.getD_cons_zero, List.getD_cons_succ])
  exact p_sized_bad dv (.inl hb) hE

theorem p_form_of {m : Nat} {p q a b : Int} {d : Nat} {J : Slot → Nat → Prop} {E : EX} (ok : OkRule p q) (a1 : -Big ≤ a) (a2 : a ≤ Big) (b1 : -Big ≤ b) (b2 : b ≤ Big) (h : J (.val (.int (Fm p q a b))) d) : sem T (m + 5) 145 [.tup [.int p, .int q], .int a, .int b] d J E := by
  refine u_form_of ?_
  (repeat ((conv => whnf); first | refine k_i1 ?_ | refine k_i2 ?_ | refine k_i3 ?_ | refine k_i4 ?_ | refine k_i5 ?_ | refine k_i6 ?_ | refine k_i7 ?_ | refine k_b1 ?_ | refine k_b2 ?_ | refine k_b3 ?_ | refine k_b4 ?_ | refine k_b5 ?_ | refine k_b6 ?_ | refine k_b7 ?_ | refine k_s1 ?_ | refine k_s2 ?_ | refine k_s3 ?_ | refine k_s4 ?_ | refine k_s5 ?_ | refine k_s6 ?_ | refine k_s7 ?_ | refine k_t1 ?_ | refine k_t2 ?_ | refine k_t3 ?_ | refine k_t4 ?_ | refine k_t5 ?_ | refine k_t6 ?_ | refine k_t7 ?_ | refine k_l1 ?_ | refine k_l2 ?_ | refine k_l3 ?_ | refine k_l4 ?_ | refine k_l5 ?_ | refine k_l6 ?_ | refine k_l7 ?_ | refine k_n6 ?_ | refine k_n7 ?_ | refine k_n1 ?_ | refine k_n2 ?_ | refine k_n3 ?_ | refine k_n4 ?_ | refine k_n5 ?_ | refine ⟨dok_scal rfl rfl, dok_scal rfl rfl, ?_⟩ | refine ⟨_, rfl, ?_⟩)); (conv => whnf); (try dsimp only [PSt.set, List.set_cons_zero, List.set_cons_succ, wipeP, backP, List.getD_cons_zero, List.getD_cons_succ])
  refine p_sure_rule_any (.inl rfl) ok ?_
  (repeat ((conv => whnf); first | refine k_i1 ?_ | refine k_i2 ?_ | refine k_i3 ?_ | refine k_i4 ?_ | refine k_i5 ?_ | refine k_i6 ?_ | refine k_i7 ?_ | refine k_b1 ?_ | refine k_b2 ?_ | refine k_b3 ?_ | refine k_b4 ?_ | refine k_b5 ?_ | refine k_b6 ?_ | refine k_b7 ?_ | refine k_s1 ?_ | refine k_s2 ?_ | refine k_s3 ?_ | refine k_s4 ?_ | refine k_s5 ?_ | refine k_s6 ?_ | refine k_s7 ?_ | refine k_t1 ?_ | refine k_t2 ?_ | refine k_t3 ?_ | refine k_t4 ?_ | refine k_t5 ?_ | refine k_t6 ?_ | refine k_t7 ?_ | refine k_l1 ?_ | refine k_l2 ?_ | refine k_l3 ?_ | refine k_l4 ?_ | refine k_l5 ?_ | refine k_l6 ?_ | refine k_l7 ?_ | refine k_n6 ?_ | refine k_n7 ?_ | refine k_n1 ?_ | refine k_n2 ?_ | refine k_n3 ?_ | refine k_n4 ?_ | refine k_n5 ?_ | refine ⟨dok_scal rfl rfl, dok_scal rfl rfl, ?_⟩ | refine ⟨_, rfl, ?_⟩)); (conv => whnf); (try dsimp only [PSt.set, List.set_cons_zero, List.set_cons_succ, wipeP, backP, List.getD_cons_zero, List.getD_cons_succ])
  refine p_sized a1 a2 ?_
  (repeat ((conv => whnf); first | refine k_i1 ?_ | refine k_i2 ?_ | refine k_i3 ?_ | refine k_i4 ?_ | refine k_i5 ?_ | refine k_i6 ?_ | refine k_i7 ?_ | refine k_b1 ?_ | refine k_b2 ?_ | refine k_b3 ?_ | refine k_b4 ?_ | refine k_b5 ?_ | refine k_b6 ?_ | refine k_b7 ?_ | refine k_s1 ?_ | refine k_s2 ?_ | refine k_s3 ?_ | refine k_s4 ?_ | refine k_s5 ?_ | refine k_s6 ?_ | refine k_s7 ?_ | refine k_t1 ?_ | refine k_t2 ?_ | refine k_t3 ?_ | refine k_t4 ?_ | refine k_t5 ?_ | refine k_t6 ?_ | refine k_t7 ?_ | refine k_l1 ?_ | refine k_l2 ?_ | refine k_l3 ?_ | refine k_l4 ?_ | refine k_l5 ?_ | refine k_l6 ?_ | refine k_l7 ?_ | refine k_n6 ?_ | refine k_n7 ?_ | refine k_n1 ?_ | refine k_n2 ?_ | refine k_n3 ?_ | refine k_n4 ?_ | refine k_n5 ?_ | refine ⟨dok_scal rfl rfl, dok_scal rfl rfl, ?_⟩ | refine ⟨_, rfl, ?_⟩)); (conv => whnf); (try dsimp only [PSt.set, List.set_cons_zero, List.set_cons_succ, wipeP, backP, List.getD_cons_zero, List.getD_cons_succ])
  refine p_sized b1 b2 ?_
  (repeat ((conv => whnf); first | refine k_i1 ?_ | refine k_i2 ?_ | refine k_i3 ?_ | refine k_i4 ?_ | refine k_i5 ?_ | refine k_i6 ?_ | refine k_i7 ?_ | refine k_b1 ?_ | refine k_b2 ?_ | refine k_b3 ?_ | refine k_b4 ?_ | refine k_b5 ?_ | refine k_b6 ?_ | refine k_b7 ?_ | refine k_s1 ?_ | refine k_s2 ?_ | refine k_s3 ?_ | refine k_s4 ?_ | refine k_s5 ?_ | refine k_s6 ?_ | refine k_s7 ?_ | refine k_t1 ?_ | refine k_t2 ?_ | refine k_t3 ?_ | refine k_t4 ?_ | refine k_t5 ?_ | refine k_t6 ?_ | refine k_t7 ?_ | refine k_l1 ?_ | refine k_l2 ?_ | refine k_l3 ?_ | refine k_l4 ?_ | refine k_l5 ?_ | refine k_l6 ?_ | refine k_l7 ?_ | refine k_n6 ?_ | refine k_n7 ?_ | refine k_n1 ?_ | refine k_n2 ?_ | refine k_n3 ?_ | refine k_n4 ?_ | refine k_n5 ?_ | refine ⟨dok_scal rfl rfl, dok_scal rfl rfl, ?_⟩ | refine ⟨_, rfl, ?_⟩)); (conv => whnf); (try dsimp only [PSt.set, List.set_cons_zero, List.set_cons_succ, wipeP, backP, List.getD_cons_zero, List.getD_cons_succ])
  refine p_form_in (k := 340) (sm_rule ok.1) (sm_rule ok.2.1) (sm_big a1 a2) (sm_big b1 b2) (by decide) ?_
  exact h
theorem p_form_of_bad {m : Nat} {p q a : Int} {v : PV} {d : Nat} {J : Slot → Nat → Prop} {E : EX} (ok : OkRule p q) (ha : Big < a) (hE : E .unfit d) : sem T (m + 5) 145 [.tup [.int p, .int q], .int a, v] d J E := by
  refine u_form_of ?_
  (repeat ((conv => whnf); first | refine k_i1 ?_ | refine k_i2 ?_ | refine k_i3 ?_ | refine k_i4 ?_ | refine k_i5 ?_ | refine k_i6 ?_ | refine k_i7 ?_ | refine k_b1 ?_ | refine k_b2 ?_ | refine k_b3 ?_ | refine k_b4 ?_ | refine k_b5 ?_ | refine k_b6 ?_ | refine k_b7 ?_ | refine k_s1 ?_ | refine k_s2 ?_ | refine k_s3 ?_ | refine k_s4 ?_ | refine k_s5 ?_ | refine k_s6 ?_ | refine k_s7 ?_ | refine k_t1 ?_ | refine k_t2 ?_ | refine k_t3 ?_ | refine k_t4 ?_ | refine k_t5 ?_ | refine k_t6 ?_ | refine k_t7 ?_ | refine k_l1 ?_ | refine k_l2 ?_ | refine k_l3 ?_ | refine k_l4 ?_ | refine k_l5 ?_ | refine k_l6 ?_ | refine k_l7 ?_ | refine k_n6 ?_ | refine k_n7 ?_ | refine k_n1 ?_ | refine k_n2 ?_ | refine k_n3 ?_ | refine k_n4 ?_ | refine k_n5 ?_ | refine ⟨dok_scal rfl rfl, dok_scal rfl rfl, ?_⟩ | refine ⟨_, rfl, ?_⟩)); (conv => whnf); (try dsimp only [PSt.set, List.set_cons_zero, List.set_cons_succ, wipeP, backP, List.getD_cons_zero, List.getD_cons_succ])
  refine p_sure_rule_any (.inl rfl) ok ?_
  (repeat ((conv => whnf); first | refine k_i1 ?_ | refine k_i2 ?_ | refine k_i3 ?_ | refine k_i4 ?_ | refine k_i5 ?_ | refine k_i6 ?_ | refine k_i7 ?_ | refine k_b1 ?_ | refine k_b2 ?_ | refine k_b3 ?_ | refine k_b4 ?_ | refine k_b5 ?_ | refine k_b6 ?_ | refine k_b7 ?_ | refine k_s1 ?_ | refine k_s2 ?_ | refine k_s3 ?_ | refine k_s4 ?_ | refine k_s5 ?_ | refine k_s6 ?_ | refine k_s7 ?_ | refine k_t1 ?_ | refine k_t2 ?_ | refine k_t3 ?_ | refine k_t4 ?_ | refine k_t5 ?_ | refine k_t6 ?_ | refine k_t7 ?_ | refine k_l1 ?_ | refine k_l2 ?_ | refine k_l3 ?_ | refine k_l4 ?_ | refine k_l5 ?_ | refine k_l6 ?_ | refine k_l7 ?_ | refine k_n6 ?_ | refine k_n7 ?_ | refine k_n1 ?_ | refine k_n2 ?_ | refine k_n3 ?_ | refine k_n4 ?_ | refine k_n5 ?_ | refine ⟨dok_scal rfl rfl, dok_scal rfl rfl, ?_⟩ | refine ⟨_, rfl, ?_⟩)); (conv => whnf); (try dsimp only [PSt.set, List.set_cons_zero, List.set_cons_succ, wipeP, backP, List.getD_cons_zero, List.getD_cons_succ])
  exact p_sized_bad rfl (.inr ⟨a, rfl, ha⟩) hE

theorem p_step_on {m : Nat} {p q a b : Int} {d : Nat} {J : Slot → Nat → Prop} {E : EX} (ok : OkRule p q) (a1 : -Big ≤ a) (a2 : a ≤ Big) (b1 : -Big ≤ b) (b2 : b ≤ Big) (h : J (.val (.tup [.int (p * a - q * b), .int a])) d) : sem T (m + 5) 148 [.tup [.int p, .int q], .int a, .int b] d J E := by
  refine u_step_on ?_
  (repeat ((conv => whnf); first | refine k_i1 ?_ | refine k_i2 ?_ | refine k_i3 ?_ | refine k_i4 ?_ | refine k_i5 ?_ | refine k_i6 ?_ | refine k_i7 ?_ | refine k_b1 ?_ | refine k_b2 ?_ | refine k_b3 ?_ | refine k_b4 ?_ | refine k_b5 ?_ | refine k_b6 ?_ | refine k_b7 ?_ | refine k_s1 ?_ | refine k_s2 ?_ | refine k_s3 ?_ | refine k_s4 ?_ | refine k_s5 ?_ | refine k_s6 ?_ | refine k_s7 ?_ | refine k_t1 ?_ | refine k_t2 ?_ | refine k_t3 ?_ | refine k_t4 ?_ | refine k_t5 ?_ | refine k_t6 ?_ | refine k_t7 ?_ | refine k_l1 ?_ | refine k_l2 ?_ | refine k_l3 ?_ | refine k_l4 ?_ | refine k_l5 ?_ | refine k_l6 ?_ | refine k_l7 ?_ | refine k_n6 ?_ | refine k_n7 ?_ | refine k_n1 ?_ | refine k_n2 ?_ | refine k_n3 ?_ | refine k_n4 ?_ | refine k_n5 ?_ | refine ⟨dok_scal rfl rfl, dok_scal rfl rfl, ?_⟩ | refine ⟨_, rfl, ?_⟩)); (conv => whnf); (try dsimp only [PSt.set, List.set_cons_zero, List.set_cons_succ, wipeP, backP, List.getD_cons_zero, List.getD_cons_succ])
  refine p_sure_rule_any (.inl rfl) ok ?_
  (repeat ((conv => whnf); first | refine k_i1 ?_ | refine k_i2 ?_ | refine k_i3 ?_ | refine k_i4 ?_ | refine k_i5 ?_ | refine k_i6 ?_ | refine k_i7 ?_ | refine k_b1 ?_ | refine k_b2 ?_ | refine k_b3 ?_ | refine k_b4 ?_ | refine k_b5 ?_ | refine k_b6 ?_ | refine k_b7 ?_ | refine k_s1 ?_ | refine k_s2 ?_ | refine k_s3 ?_ | refine k_s4 ?_ | refine k_s5 ?_ | refine k_s6 ?_ | refine k_s7 ?_ | refine k_t1 ?_ | refine k_t2 ?_ | refine k_t3 ?_ | refine k_t4 ?_ | refine k_t5 ?_ | refine k_t6 ?_ | refine k_t7 ?_ | refine k_l1 ?_ | refine k_l2 ?_ | refine k_l3 ?_ | refine k_l4 ?_ | refine k_l5 ?_ | refine k_l6 ?_ | refine k_l7 ?_ | refine k_n6 ?_ | refine k_n7 ?_ | refine k_n1 ?_ | refine k_n2 ?_ | refine k_n3 ?_ | refine k_n4 ?_ | refine k_n5 ?_ | refine ⟨dok_scal rfl rfl, dok_scal rfl rfl, ?_⟩ | refine ⟨_, rfl, ?_⟩)); (conv => whnf); (try dsimp only [PSt.set, List.set_cons_zero, List.set_cons_succ, wipeP, backP, List.getD_cons_zero, List.getD_cons_succ])
  refine p_sized a1 a2 ?_
  (repeat ((conv => whnf); first | refine k_i1 ?_ | refine k_i2 ?_ | refine k_i3 ?_ | refine k_i4 ?_ | refine k_i5 ?_ | refine k_i6 ?_ | refine k_i7 ?_ | refine k_b1 ?_ | refine k_b2 ?_ | refine k_b3 ?_ | refine k_b4 ?_ | refine k_b5 ?_ | refine k_b6 ?_ | refine k_b7 ?_ | refine k_s1 ?_ | refine k_s2 ?_ | refine k_s3 ?_ | refine k_s4 ?_ | refine k_s5 ?_ | refine k_s6 ?_ | refine k_s7 ?_ | refine k_t1 ?_ | refine k_t2 ?_ | refine k_t3 ?_ | refine k_t4 ?_ | refine k_t5 ?_ | refine k_t6 ?_ | refine k_t7 ?_ | refine k_l1 ?_ | refine k_l2 ?_ | refine k_l3 ?_ | refine k_l4 ?_ | refine k_l5 ?_ | refine k_l6 ?_ | refine k_l7 ?_ | refine k_n6 ?_ | refine k_n7 ?_ | refine k_n1 ?_ | refine k_n2 ?_ | refine k_n3 ?_ | refine k_n4 ?_ | refine k_n5 ?_ | refine ⟨dok_scal rfl rfl, dok_scal rfl rfl, ?_⟩ | refine ⟨_, rfl, ?_⟩)); (conv => whnf); (try dsimp only [PSt.set, List.set_cons_zero, List.set_cons_succ, wipeP, backP, List.getD_cons_zero, List.getD_cons_succ])
  refine p_sized b1 b2 ?_
  (repeat ((conv => whnf); first | refine k_i1 ?_ | refine k_i2 ?_ | refine k_i3 ?_ | refine k_i4 ?_ | refine k_i5 ?_ | refine k_i6 ?_ | refine k_i7 ?_ | refine k_b1 ?_ | refine k_b2 ?_ | refine k_b3 ?_ | refine k_b4 ?_ | refine k_b5 ?_ | refine k_b6 ?_ | refine k_b7 ?_ | refine k_s1 ?_ | refine k_s2 ?_ | refine k_s3 ?_ | refine k_s4 ?_ | refine k_s5 ?_ | refine k_s6 ?_ | refine k_s7 ?_ | refine k_t1 ?_ | refine k_t2 ?_ | refine k_t3 ?_ | refine k_t4 ?_ | refine k_t5 ?_ | refine k_t6 ?_ | refine k_t7 ?_ | refine k_l1 ?_ | refine k_l2 ?_ | refine k_l3 ?_ | refine k_l4 ?_ | refine k_l5 ?_ | refine k_l6 ?_ | refine k_l7 ?_ | refine k_n6 ?_ | refine k_n7 ?_ | refine k_n1 ?_ | refine k_n2 ?_ | refine k_n3 ?_ | refine k_n4 ?_ | refine k_n5 ?_ | refine ⟨dok_scal rfl rfl, dok_scal rfl rfl, ?_⟩ | refine ⟨_, rfl, ?_⟩)); (conv => whnf); (try dsimp only [PSt.set, List.set_cons_zero, List.set_cons_succ, wipeP, backP, List.getD_cons_zero, List.getD_cons_succ])
  refine p_nextp (k := 340) (sm_rule ok.1) (sm_rule ok.2.1) (sm_big a1 a2) (sm_big b1 b2) (by decide) ?_
  exact h

theorem p_step_back {m : Nat} {p q a b : Int} {d : Nat} {J : Slot → Nat → Prop} {E : EX} (ok : OkRule p q) (a1 : -Big ≤ a) (a2 : a ≤ Big) (b1 : -Big ≤ b) (b2 : b ≤ Big) (h : q = 1 ∨ q = -1 → J (.val (.tup [.int b, .int (q * (p * b - a))])) d) (h0 : ¬ (q = 1 ∨ q = -1) → E .cannot d) : sem T (m + 5) 149 [.tup [.int p, .int q], .int a, .int b] d J E := by
  refine u_step_back ?_
  (repeat ((conv => whnf); first | refine k_i1 ?_ | refine k_i2 ?_ | refine k_i3 ?_ | refine k_i4 ?_ | refine k_i5 ?_ | refine k_i6 ?_ | refine k_i7 ?_ | refine k_b1 ?_ | refine k_b2 ?_ | refine k_b3 ?_ | refine k_b4 ?_ | refine k_b5 ?_ | refine k_b6 ?_ | refine k_b7 ?_ | refine k_s1 ?_ | refine k_s2 ?_ | refine k_s3 ?_ | refine k_s4 ?_ | refine k_s5 ?_ | refine k_s6 ?_ | refine k_s7 ?_ | refine k_t1 ?_ | refine k_t2 ?_ | refine k_t3 ?_ | refine k_t4 ?_ | refine k_t5 ?_ | refine k_t6 ?_ | refine k_t7 ?_ | refine k_l1 ?_ | refine k_l2 ?_ | refine k_l3 ?_ | refine k_l4 ?_ | refine k_l5 ?_ | refine k_l6 ?_ | refine k_l7 ?_ | refine k_n6 ?_ | refine k_n7 ?_ | refine k_n1 ?_ | refine k_n2 ?_ | refine k_n3 ?_ | refine k_n4 ?_ | refine k_n5 ?_ | refine ⟨dok_scal rfl rfl, dok_scal rfl rfl, ?_⟩ | refine ⟨_, rfl, ?_⟩)); (conv => whnf); (try dsimp only [PSt.set, List.set_cons_zero, List.set_cons_succ, wipeP, backP, List.getD_cons_zero, List.getD_cons_succ])
  refine p_sure_rule_any (.inl rfl) ok ?_
  (repeat ((conv => whnf); first | refine k_i1 ?_ | refine k_i2 ?_ | refine k_i3 ?_ | refine k_i4 ?_ | refine k_i5 ?_ | refine k_i6 ?_ | refine k_i7 ?_ | refine k_b1 ?_ | refine k_b2 ?_ | refine k_b3 ?_ | refine k_b4 ?_ | refine k_b5 ?_ | refine k_b6 ?_ | refine k_b7 ?_ | refine k_s1 ?_ | refine k_s2 ?_ | refine k_s3 ?_ | refine k_s4 ?_ | refine k_s5 ?_ | refine k_s6 ?_ | refine k_s7 ?_ | refine k_t1 ?_ | refine k_t2 ?_ | refine k_t3 ?_ | refine k_t4 ?_ | refine k_t5 ?_ | refine k_t6 ?_ | refine k_t7 ?_ | refine k_l1 ?_ | refine k_l2 ?_ | refine k_l3 ?_ | refine k_l4 ?_ | refine k_l5 ?_ | refine k_l6 ?_ | refine k_l7 ?_ | refine k_n6 ?_ | refine k_n7 ?_ | refine k_n1 ?_ | refine k_n2 ?_ | refine k_n3 ?_ | refine k_n4 ?_ | refine k_n5 ?_ | refine ⟨dok_scal rfl rfl, dok_scal rfl rfl, ?_⟩ | refine ⟨_, rfl, ?_⟩)); (conv => whnf); (try dsimp only [PSt.set, List.set_cons_zero, List.set_cons_succ, wipeP, backP, List.getD_cons_zero, List.getD_cons_succ])
  refine p_sized a1 a2 ?_
  (repeat ((conv => whnf); first | refine k_i1 ?_ | refine k_i2 ?_ | refine k_i3 ?_ | refine k_i4 ?_ | refine k_i5 ?_ | refine k_i6 ?_ | refine k_i7 ?_ | refine k_b1 ?_ | refine k_b2 ?_ | refine k_b3 ?_ | refine k_b4 ?_ | refine k_b5 ?_ | refine k_b6 ?_ | refine k_b7 ?_ | refine k_s1 ?_ | refine k_s2 ?_ | refine k_s3 ?_ | refine k_s4 ?_ | refine k_s5 ?_ | refine k_s6 ?_ | refine k_s7 ?_ | refine k_t1 ?_ | refine k_t2 ?_ | refine k_t3 ?_ | refine k_t4 ?_ | refine k_t5 ?_ | refine k_t6 ?_ | refine k_t7 ?_ | refine k_l1 ?_ | refine k_l2 ?_ | refine k_l3 ?_ | refine k_l4 ?_ | refine k_l5 ?_ | refine k_l6 ?_ | refine k_l7 ?_ | refine k_n6 ?_ | refine k_n7 ?_ | refine k_n1 ?_ | refine k_n2 ?_ | refine k_n3 ?_ | refine k_n4 ?_ | refine k_n5 ?_ | refine ⟨dok_scal rfl rfl, dok_scal rfl rfl, ?_⟩ | refine ⟨_, rfl, ?_⟩)); (conv => whnf); (try dsimp only [PSt.set, List.set_cons_zero, List.set_cons_succ, wipeP, backP, List.getD_cons_zero, List.getD_cons_succ])
  refine p_sized b1 b2 ?_
  (repeat ((conv => whnf); first | refine k_i1 ?_ | refine k_i2 ?_ | refine k_i3 ?_ | refine k_i4 ?_ | refine k_i5 ?_ | refine k_i6 ?_ | refine k_i7 ?_ | refine k_b1 ?_ | refine k_b2 ?_ | refine k_b3 ?_ | refine k_b4 ?_ | refine k_b5 ?_ | refine k_b6 ?_ | refine k_b7 ?_ | refine k_s1 ?_ | refine k_s2 ?_ | refine k_s3 ?_ | refine k_s4 ?_ | refine k_s5 ?_ | refine k_s6 ?_ | refine k_s7 ?_ | refine k_t1 ?_ | refine k_t2 ?_ | refine k_t3 ?_ | refine k_t4 ?_ | refine k_t5 ?_ | refine k_t6 ?_ | refine k_t7 ?_ | refine k_l1 ?_ | refine k_l2 ?_ | refine k_l3 ?_ | refine k_l4 ?_ | refine k_l5 ?_ | refine k_l6 ?_ | refine k_l7 ?_ | refine k_n6 ?_ | refine k_n7 ?_ | refine k_n1 ?_ | refine k_n2 ?_ | refine k_n3 ?_ | refine k_n4 ?_ | refine k_n5 ?_ | refine ⟨dok_scal rfl rfl, dok_scal rfl rfl, ?_⟩ | refine ⟨_, rfl, ?_⟩)); (conv => whnf); (try dsimp only [PSt.set, List.set_cons_zero, List.set_cons_succ, wipeP, backP, List.getD_cons_zero, List.getD_cons_succ])
  refine cnd_of (fun c => ?_) fun c => ?_
  · have c : ¬ (if q < 0 then -q else q) = 1 := by simpa using c
    exact h0 fun z => by
      rcases z with rfl | rfl <;> exact c (by decide)
  · have c : (if q < 0 then -q else q) = 1 := by simpa using c
    (repeat ((conv => whnf); first | refine k_i1 ?_ | refine k_i2 ?_ | refine k_i3 ?_ | refine k_i4 ?_ | refine k_i5 ?_ | refine k_i6 ?_ | refine k_i7 ?_ | refine k_b1 ?_ | refine k_b2 ?_ | refine k_b3 ?_ | refine k_b4 ?_ | refine k_b5 ?_ | refine k_b6 ?_ | refine k_b7 ?_ | refine k_s1 ?_ | refine k_s2 ?_ | refine k_s3 ?_ | refine k_s4 ?_ | refine k_s5 ?_ | refine k_s6 ?_ | refine k_s7 ?_ | refine k_t1 ?_ | refine k_t2 ?_ | refine k_t3 ?_ | refine k_t4 ?_ | refine k_t5 ?_ | refine k_t6 ?_ | refine k_t7 ?_ | refine k_l1 ?_ | refine k_l2 ?_ | refine k_l3 ?_ | refine k_l4 ?_ | refine k_l5 ?_ | refine k_l6 ?_ | refine k_l7 ?_ | refine k_n6 ?_ | refine k_n7 ?_ | refine k_n1 ?_ | refine k_n2 ?_ | refine k_n3 ?_ | refine k_n4 ?_ | refine k_n5 ?_ | refine ⟨dok_scal rfl rfl, dok_scal rfl rfl, ?_⟩ | refine ⟨_, rfl, ?_⟩)); (conv => whnf); (try dsimp only [PSt.set, List.set_cons_zero, List.set_cons_succ, wipeP, backP, List.getD_cons_zero, List.getD_cons_succ])
    refine p_ahead (k := 340) (sm_rule ok.1) (sm_rule ok.2.1) (sm_big a1 a2) (sm_big b1 b2) (by decide) ?_
    refine h ?_
    split at c <;> omega

theorem p_is_unit {m : Nat} {v : PV} {p q : Int} {d : Nat} {J : Slot → Nat → Prop} {E : EX} (hv : RuleArg v p q) (ok : OkRule p q) (h : J (.val (.bl (isU p q))) d) : sem T (m + 5) 144 [v] d J E := by
  refine u_is_unit ?_
  (repeat ((conv => whnf); first | refine k_i1 ?_ | refine k_i2 ?_ | refine k_i3 ?_ | refine k_i4 ?_ | refine k_i5 ?_ | refine k_i6 ?_ | refine k_i7 ?_ | refine k_b1 ?_ | refine k_b2 ?_ | refine k_b3 ?_ | refine k_b4 ?_ | refine k_b5 ?_ | refine k_b6 ?_ | refine k_b7 ?_ | refine k_s1 ?_ | refine k_s2 ?_ | refine k_s3 ?_ | refine k_s4 ?_ | refine k_s5 ?_ | refine k_s6 ?_ | refine k_s7 ?_ | refine k_t1 ?_ | refine k_t2 ?_ | refine k_t3 ?_ | refine k_t4 ?_ | refine k_t5 ?_ | refine k_t6 ?_ | refine k_t7 ?_ | refine k_l1 ?_ | refine k_l2 ?_ | refine k_l3 ?_ | refine k_l4 ?_ | refine k_l5 ?_ | refine k_l6 ?_ | refine k_l7 ?_ | refine k_n6 ?_ | refine k_n7 ?_ | refine k_n1 ?_ | refine k_n2 ?_ | refine k_n3 ?_ | refine k_n4 ?_ | refine k_n5 ?_ | refine ⟨dok_scal rfl rfl, dok_scal rfl rfl, ?_⟩ | refine ⟨_, rfl, ?_⟩)); (conv => whnf); (try dsimp only [PSt.set, List.set_cons_zero, List.set_cons_succ, wipeP, backP, List.getD_cons_zero, List.getD_cons_succ])
  refine p_sure_rule_any hv ok ?_
  (repeat ((conv => whnf); first | refine k_i1 ?_ | refine k_i2 ?_ | refine k_i3 ?_ | refine k_i4 ?_ | refine k_i5 ?_ | refine k_i6 ?_ | refine k_i7 ?_ | refine k_b1 ?_ | refine k_b2 ?_ | refine k_b3 ?_ | refine k_b4 ?_ | refine k_b5 ?_ | refine k_b6 ?_ | refine k_b7 ?_ | refine k_s1 ?_ | refine k_s2 ?_ | refine k_s3 ?_ | refine k_s4 ?_ | refine k_s5 ?_ | refine k_s6 ?_ | refine k_s7 ?_ | refine k_t1 ?_ | refine k_t2 ?_ | refine k_t3 ?_ | refine k_t4 ?_ | refine k_t5 ?_ | refine k_t6 ?_ | refine k_t7 ?_ | refine k_l1 ?_ | refine k_l2 ?_ | refine k_l3 ?_ | refine k_l4 ?_ | refine k_l5 ?_ | refine k_l6 ?_ | refine k_l7 ?_ | refine k_n6 ?_ | refine k_n7 ?_ | refine k_n1 ?_ | refine k_n2 ?_ | refine k_n3 ?_ | refine k_n4 ?_ | refine k_n5 ?_ | refine ⟨dok_scal rfl rfl, dok_scal rfl rfl, ?_⟩ | refine ⟨_, rfl, ?_⟩)); (conv => whnf); (try dsimp only [PSt.set, List.set_cons_zero, List.set_cons_succ, wipeP, backP, List.getD_cons_zero, List.getD_cons_succ])
  refine p_unit ?_
  exact h

theorem p_law_unit {m : Nat} {M : Int} {d : Nat} {J : Slot → Nat → Prop} {E : EX} (hd : 2 ≤ d) (hM : 1 ≤ M) (hM2 : M ≤ 990) (h : ∀ (p q : Int), Un p q → J (.val (.tup [.int p, .int q])) (d - 2)) : sem T (m + 1) 152 [.cell, .int M] d J E := by
  refine u__law_unit ?_
  (repeat ((conv => whnf); first | refine k_i1 ?_ | refine k_i2 ?_ | refine k_i3 ?_ | refine k_i4 ?_ | refine k_i5 ?_ | refine k_i6 ?_ | refine k_i7 ?_ | refine k_b1 ?_ | refine k_b2 ?_ | refine k_b3 ?_ | refine k_b4 ?_ | refine k_b5 ?_ | refine k_b6 ?_ | refine k_b7 ?_ | refine k_s1 ?_ | refine k_s2 ?_ | refine k_s3 ?_ | refine k_s4 ?_ | refine k_s5 ?_ | refine k_s6 ?_ | refine k_s7 ?_ | refine k_t1 ?_ | refine k_t2 ?_ | refine k_t3 ?_ | refine k_t4 ?_ | refine k_t5 ?_ | refine k_t6 ?_ | refine k_t7 ?_ | refine k_l1 ?_ | refine k_l2 ?_ | refine k_l3 ?_ | refine k_l4 ?_ | refine k_l5 ?_ | refine k_l6 ?_ | refine k_l7 ?_ | refine k_n6 ?_ | refine k_n7 ?_ | refine k_n1 ?_ | refine k_n2 ?_ | refine k_n3 ?_ | refine k_n4 ?_ | refine k_n5 ?_ | refine ⟨dok_scal rfl rfl, dok_scal rfl rfl, ?_⟩ | refine ⟨_, rfl, ?_⟩)); (conv => whnf); (try dsimp only [PSt.set, List.set_cons_zero, List.set_cons_succ, wipeP, backP, List.getD_cons_zero, List.getD_cons_succ])
  refine t_take (by omega) (by decide) (by decide) fun r r1 r2 => ?_
  (conv => whnf); (try dsimp only [PSt.set, List.set_cons_zero, List.set_cons_succ, wipeP, backP, List.getD_cons_zero, List.getD_cons_succ])
  refine cnd_of (fun _ => ?_) fun _ => ?_
  · (repeat ((conv => whnf); first | refine k_i1 ?_ | refine k_i2 ?_ | refine k_i3 ?_ | refine k_i4 ?_ | refine k_i5 ?_ | refine k_i6 ?_ | refine k_i7 ?_ | refine k_b1 ?_ | refine k_b2 ?_ | refine k_b3 ?_ | refine k_b4 ?_ | refine k_b5 ?_ | refine k_b6 ?_ | refine k_b7 ?_ | refine k_s1 ?_ | refine k_s2 ?_ | refine k_s3 ?_ | refine k_s4 ?_ | refine k_s5 ?_ | refine k_s6 ?_ | refine k_s7 ?_ | refine k_t1 ?_ | refine k_t2 ?_ | refine k_t3 ?_ | refine k_t4 ?_ | refine k_t5 ?_ | refine k_t6 ?_ | refine k_t7 ?_ | refine k_l1 ?_ | refine k_l2 ?_ | refine k_l3 ?_ | refine k_l4 ?_ | refine k_l5 ?_ | refine k_l6 ?_ | refine k_l7 ?_ | refine k_n6 ?_ | refine k_n7 ?_ | refine k_n1 ?_ | refine k_n2 ?_ | refine k_n3 ?_ | refine k_n4 ?_ | refine k_n5 ?_ | refine ⟨dok_scal rfl rfl, dok_scal rfl rfl, ?_⟩ | refine ⟨_, rfl, ?_⟩)); (conv => whnf); (try dsimp only [PSt.set, List.set_cons_zero, List.set_cons_succ, wipeP, backP, List.getD_cons_zero, List.getD_cons_succ])
    refine t_take (by omega) (by omega) (Int.lt_of_le_of_lt hM2 (by decide)) fun s s1 s2 => ?_
    exact h _ _ (.inl ⟨rfl, by omega, by omega⟩)
  · (repeat ((conv => whnf); first | refine k_i1 ?_ | refine k_i2 ?_ | refine k_i3 ?_ | refine k_i4 ?_ | refine k_i5 ?_ | refine k_i6 ?_ | refine k_i7 ?_ | refine k_b1 ?_ | refine k_b2 ?_ | refine k_b3 ?_ | refine k_b4 ?_ | refine k_b5 ?_ | refine k_b6 ?_ | refine k_b7 ?_ | refine k_s1 ?_ | refine k_s2 ?_ | refine k_s3 ?_ | refine k_s4 ?_ | refine k_s5 ?_ | refine k_s6 ?_ | refine k_s7 ?_ | refine k_t1 ?_ | refine k_t2 ?_ | refine k_t3 ?_ | refine k_t4 ?_ | refine k_t5 ?_ | refine k_t6 ?_ | refine k_t7 ?_ | refine k_l1 ?_ | refine k_l2 ?_ | refine k_l3 ?_ | refine k_l4 ?_ | refine k_l5 ?_ | refine k_l6 ?_ | refine k_l7 ?_ | refine k_n6 ?_ | refine k_n7 ?_ | refine k_n1 ?_ | refine k_n2 ?_ | refine k_n3 ?_ | refine k_n4 ?_ | refine k_n5 ?_ | refine ⟨dok_scal rfl rfl, dok_scal rfl rfl, ?_⟩ | refine ⟨_, rfl, ?_⟩)); (conv => whnf); (try dsimp only [PSt.set, List.set_cons_zero, List.set_cons_succ, wipeP, backP, List.getD_cons_zero, List.getD_cons_succ])
    refine t_take (by omega) (by omega) (Int.lt_of_le_of_lt hM2 (by decide)) fun s s1 s2 => ?_
    exact h _ _ (.inr ⟨rfl, by omega, by omega⟩)

theorem un_pow2 {p q : Int} (h : (q = -1 ∧ 2 ≤ p) ∨ (q = 1 ∧ 3 ≤ p)) (hu : Un p q) : ∀ k, 2 ^ k ≤ U p q (k + 1)
  | 0 => by simp [U]
  | k + 1 => by
    have ih := un_pow2 h hu k
    obtain ⟨h1, h2, h3⟩ := un_mono hu k
    have e := U_ss p q k
    rw [show k + 1 + 1 = k + 2 from rfl, Int.pow_succ]
    rcases h with ⟨rfl, a⟩ | ⟨rfl, a⟩
    · have := Int.mul_le_mul_of_nonneg_right a (by omega : 0 ≤ U p (-1) (k + 1))
      omega
    · have := Int.mul_le_mul_of_nonneg_right a (by omega : 0 ≤ U p 1 (k + 1))
      omega
/-- by pairs, in one go -/
def fibP : Nat → Int × Int
  | 0 => (0, 1)
  | n + 1 => ((fibP n).2, (fibP n).1 + (fibP n).2)
theorem fibP_eq : ∀ n, fibP n = (U 1 (-1) n, U 1 (-1) (n + 1))
  | 0 => by simp [fibP, U]
  | n + 1 => by
    show ((fibP n).2, (fibP n).1 + (fibP n).2) = _
    rw [fibP_eq n, show n + 1 + 1 = n + 2 from rfl, U_ss]
    ext
    · rfl
    · show U 1 (-1) n + U 1 (-1) (n + 1) = _
      omega
theorem un_501 {p q : Int} (hu : Un p q) : Big < U p q 501 := by
  have two : ((q = -1 ∧ 2 ≤ p) ∨ (q = 1 ∧ 3 ≤ p)) → Big < U p q 501 := fun h => by
    have a := un_pow2 h hu 500
    have b : Big < 2 ^ 500 := by decide +kernel
    exact Int.lt_of_lt_of_le b a
  rcases hu with ⟨rfl, h1, h2⟩ | ⟨rfl, h1, h2⟩
  · rcases Int.lt_or_le 1 p with h3 | h3
    · exact two (.inl ⟨rfl, by omega⟩)
    · have hp : p = 1 := by omega
      subst hp
      have a : Big < (fibP 500).2 := by decide +kernel
      rw [fibP_eq 500] at a
      exact a
  · exact two (.inr ⟨rfl, h1⟩)
theorem un_cut {p q t : Int} (hu : Un p q) (h0 : 1 ≤ t) (ht : t ≤ Big) : ∃ L : Nat, L ≤ 500 ∧ (∀ k, k < L → U p q (k + 1) ≤ t) ∧ t < U p q (L + 1) := by
  have go : ∀ n : Nat, t < U p q (n + 1) → ∃ L : Nat, L ≤ n ∧ (∀ k, k < L → U p q (k + 1) ≤ t) ∧ t < U p q (L + 1) := fun n => by
    induction n with
    | zero => exact fun h => ⟨0, Nat.le_refl _, fun k hk => absurd hk (Nat.not_lt_zero _), h⟩
    | succ n ih =>
      intro h
      rcases Int.lt_or_le t (U p q (n + 1)) with h1 | h1
      · obtain ⟨L, a, b, c⟩ := ih h1
        exact ⟨L, by omega, b, c⟩
      · refine ⟨n + 1, Nat.le_refl _, fun k hk => ?_, h⟩
        have := un_le2 hu (show k + 1 ≤ n + 1 by omega)
        omega
  exact go 500 (Int.lt_of_le_of_lt ht (un_501 hu))
theorem un_cut_uniq {p q t : Int} {L M : Nat} (h1 : ∀ k, k < L → U p q (k + 1) ≤ t) (h2 : t < U p q (L + 1)) (g1 : ∀ k, k < M → U p q (k + 1) ≤ t) (g2 : t < U p q (M + 1)) : L = M := by
  rcases Nat.lt_trichotomy L M with h | h | h
  · have := g1 L h
    omega
  · exact h
  · have := h1 M h
    omega
theorem cut_ge {p q t : Int} (hu : Un p q) {L : Nat} (h2 : t < U p q (L + 1)) {k : Nat} (hk : L ≤ k) : t < U p q (k + 1) := by
  have := un_le2 hu (show L + 1 ≤ k + 1 by omega)
  omega
theorem filter_prefix {c : Nat → Bool} {L : Nat} (h1 : ∀ k, k < L → c k = true) (h2 : ∀ k, L ≤ k → c k = false) : ∀ n, L ≤ n → (List.range n).filter c = List.range L
  | 0, h => by
    have : L = 0 := by omega
    subst this
    rfl
  | n + 1, h => by
    rw [List.range_succ, List.filter_append]
    rcases Nat.lt_or_ge n L with hl | hl
    · have e : L = n + 1 := by omega
      subst e
      rw [List.filter_eq_self.mpr fun k hk => h1 k (by have := List.mem_range.mp hk; omega), List.filter_cons_of_pos (h1 n hl), List.filter_nil, ← List.range_succ]
    · rw [filter_prefix h1 h2 n hl, List.filter_cons_of_neg (by rw [h2 n hl]; decide), List.filter_nil, List.append_nil]
theorem rowK_filter {p q : Int} {C : PV → Bool} {c : Nat → Bool} {L n : Nat} (hC : ∀ k, C (prV (pk p q k)) = c k) (h1 : ∀ k, k < L → c k = true) (h2 : ∀ k, L ≤ k → c k = false) (hn : L ≤ n) : (rowK p q n).filter C = rowK p q L := by
  unfold rowK
  rw [List.filter_map, show C ∘ (fun k => prV (pk p q k)) = c from funext hC, filter_prefix h1 h2 n hn]
theorem areData_row {p q : Int} : ∀ l : List Nat, areData (l.map fun k => prV (pk p q k)) = true ∧ deeps (l.map fun k => prV (pk p q k)) ≤ 1
  | [] => ⟨rfl, Nat.zero_le _⟩
  | x :: l => by
    obtain ⟨h1, h2⟩ := areData_row l
    refine ⟨?_, ?_⟩
    · show (true && areData (l.map fun k => prV (pk p q k))) = true
      rw [h1]
      rfl
    · show max 1 (deeps (l.map fun k => prV (pk p q k))) ≤ 1
      omega
theorem dok_rowK {p q : Int} {n : Nat} : dataOk (.lst (rowK p q n)) := by
  obtain ⟨h1, h2⟩ := areData_row (p := p) (q := q) (List.range n)
  refine ⟨h1, ?_⟩
  show deeps (rowK p q n) + 1 ≤ 60
  unfold rowK
  omega
theorem pyEqs_prs : ∀ l : List (Int × Int), pyEqs (l.map prV) (l.map prV) = true
  | [] => rfl
  | x :: l => by
    show (((x.1 == x.1) && ((x.2 == x.2) && true)) && pyEqs (l.map prV) (l.map prV)) = true
    rw [pyEqs_prs l]
    simp
theorem rowK_prs {p q : Int} {n : Nat} : rowK p q n = ((List.range n).map (pk p q)).map prV := by unfold rowK; rw [List.map_map]; rfl
theorem lex_antisymm {x y : Int × Int} (h1 : lexLe x y) (h2 : lexLe y x) : x = y := by
  unfold lexLe at *
  have a : x.1 = y.1 := by omega
  have b : x.2 = y.2 := by omega
  exact Prod.ext a b
theorem pk_lex {p q : Int} (hu : Un p q) {j k : Nat} (h : j < k) : (pk p q j).1 < (pk p q k).1 ∨ ((pk p q j).1 = (pk p q k).1 ∧ (pk p q j).2 < (pk p q k).2) := by
  have a := un_le2 hu (show j + 1 ≤ k + 1 by omega)
  have b := un_le2 hu (show j ≤ k by omega)
  have c : ¬ (U p q (j + 1) = U p q (k + 1) ∧ U p q j = U p q k) := fun ⟨h1, h2⟩ => by
    have := un_inj hu h1 h2
    omega
  show U p q (j + 1) < U p q (k + 1) ∨ (U p q (j + 1) = U p q (k + 1) ∧ U p q j < U p q k)
  omega
theorem pk_sorted {p q : Int} (hu : Un p q) (n : Nat) : ((List.range n).map (pk p q)).Pairwise lexLe := by
  rw [List.pairwise_map]
  exact List.pairwise_lt_range.imp fun {a b} hab => by
    have := pk_lex hu hab
    unfold lexLe
    omega
theorem pk_sort_is {p q : Int} (hu : Un p q) {n : Nat} {l : List (Int × Int)} (h1 : l.Perm ((List.range n).map (pk p q))) (h2 : l.Pairwise lexLe) : l = (List.range n).map (pk p q) :=
  List.Perm.eq_of_pairwise (le := lexLe) (fun a b _ _ h1 h2 => lex_antisymm h1 h2) h2 (pk_sorted hu n) h1

theorem Su_plain (p q : Int) : ∀ n, (1 - p + q) * Su p q (n + 1) = 1 - U p q (n + 1) + q * U p q n
  | 0 => by simp [Su, U]
  | n + 1 => by
    have h := Su_plain p q n
    rw [Su_s, Int.mul_add, h, U_ss]
    grind
theorem Su_addz (p q : Int) (a b : Nat) : Su p q (a + b) = Su p q a * (U p q (b + 1) - p * U p q b) + Su p q (a + 1) * U p q b + Su p q b := by
  have h1 := Su_add p q b a
  have h2 := U_addz p q a b
  have h3 := Su_plain p q a
  have h4 := Su_s p q (b + a)
  rw [h1] at h4
  rw [Su_s p q a] at h3 h4 ⊢
  rw [Su_s p q b] at h4
  rw [Nat.add_comm b a] at h4
  rw [h2] at h4
  generalize Su p q (a + b) = x at *
  generalize Su p q a = sa at *
  generalize Su p q b = sb at *
  generalize U p q (a + 1) = u1 at *
  generalize U p q (b + 1) = v1 at *
  generalize U p q a = u at *
  generalize U p q b = v at *
  have h3' : u1 = 1 + q * u - (1 - p + q) * (sa + u) := by omega
  subst h3'
  grind
/-- the table of three rows -/
def M3 (p q : Int) (n : Nat) (i j : Nat) : Int := match i, j with
  | 0, 0 => U p q (n + 1) - p * U p q n
  | 0, 1 => U p q n
  | 1, 0 => -q * U p q n
  | 1, 1 => U p q (n + 1)
  | 2, 0 => -q * Su p q n
  | 2, 1 => Su p q (n + 1)
  | 2, 2 => 1
  | _, _ => 0
theorem M3_mul (p q : Int) (a b i j : Nat) (hi : i < 3) (hj : j < 3) : M3 p q a i 0 * M3 p q b 0 j + (M3 p q a i 1 * M3 p q b 1 j + (M3 p q a i 2 * M3 p q b 2 j + 0)) = M3 p q (a + b) i j := by
  have e1 := U_addz p q a b
  have e2 := U_addn p q a b
  have e3 := Su_addz p q a b
  have e4 := Su_add p q b a
  rw [Nat.add_comm b a] at e4
  have ij : (i = 0 ∨ i = 1 ∨ i = 2) ∧ (j = 0 ∨ j = 1 ∨ j = 2) := by omega
  obtain ⟨rfl | rfl | rfl, rfl | rfl | rfl⟩ := ij <;> simp only [M3] <;> (try rw [e1]) <;> (try rw [e2]) <;> (try rw [e3]) <;> (try rw [e4]) <;> grind
def mat (f : Nat → Nat → Int) : PV := .tup ((List.range 3).map fun i => .tup ((List.range 3).map fun j => .int (f i j)))
theorem mat_at {f : Nat → Nat → Int} {i : Nat} (hi : i < 3) : atI ((List.range 3).map fun i => PV.tup ((List.range 3).map fun j => .int (f i j))) (i : Int) = some (.tup ((List.range 3).map fun j => .int (f i j))) := at_nat (by rw [List.getElem?_map, List.getElem?_range hi]; rfl)
theorem mat_at2 {f : Nat → Int} {i : Nat} (hi : i < 3) : atI ((List.range 3).map fun j => PV.int (f j)) (i : Int) = some (.int (f i)) := at_nat (by rw [List.getElem?_map, List.getElem?_range hi]; rfl)
def fP (g : Nat → PV) (x : PV) : PV := match x with
  | .int i => g i.toNat
  | _ => .non
theorem rng_mapP (g : Nat → PV) (n : Nat) : (rngL 0 (n : Int)).map (fP g) = (List.range n).map g := by
  unfold rngL
  rw [List.map_map, show ((n : Int) - 0).toNat = n by omega]
  refine List.map_congr_left fun i hi => ?_
  show fP g (.int (0 + (i : Int))) = g i
  rw [Int.zero_add]
  rfl
def mm3 (f g : Nat → Nat → Int) (M : Int) (i j : Nat) : Int := (f i 0 * g 0 j + (f i 1 * g 1 j + (f i 2 * g 2 j + 0))) % M

def sumR (f : Nat → Int) : Nat → Int
  | 0 => 0
  | n + 1 => sumR f n + f n
theorem sumR_s (f : Nat → Int) (n : Nat) : sumR f (n + 1) = sumR f n + f n := rfl
theorem sum_range (f : Nat → Int) : ∀ n, ((List.range n).map f).sum = sumR f n
  | 0 => rfl
  | n + 1 => by rw [List.range_succ, List.map_append, List.sum_append, sum_range f n, sumR_s]; simp
theorem sumR_mul {f g : Nat → Int} (c : Int) : ∀ n, (∀ i, i < n → f i = c * g i) → sumR f n = c * sumR g n
  | 0, _ => by simp [sumR]
  | n + 1, h => by
    rw [sumR_s, sumR_s, sumR_mul c n fun i hi => h i (by omega), h n (by omega)]
    grind
theorem sumR_congr {f g : Nat → Int} : ∀ n, (∀ i, i < n → f i = g i) → sumR f n = sumR g n
  | 0, _ => rfl
  | n + 1, h => by rw [sumR_s, sumR_s, sumR_congr n fun i hi => h i (by omega), h n (by omega)]
theorem sumR_add {f g h : Nat → Int} : ∀ n, (∀ i, i < n → f i = g i + h i) → sumR f n = sumR g n + sumR h n
  | 0, _ => by simp [sumR]
  | n + 1, e => by
    rw [sumR_s, sumR_s, sumR_s, sumR_add n fun i hi => e i (by omega), e n (by omega)]
    omega
theorem sumR_head (f : Nat → Int) : ∀ n, sumR f (n + 1) = f 0 + sumR (fun i => f (i + 1)) n
  | 0 => by simp [sumR]
  | n + 1 => by rw [sumR_s, sumR_head f n, sumR_s]; omega

/-- f is the whole part of n times the root -/
def Fl (p n f : Int) : Prop := 0 ≤ f ∧ f * f - p * f * n - n * n ≤ 0 ∧ 0 < (f + 1) * (f + 1) - p * (f + 1) * n - n * n
theorem sm340 {n : Int} (h1 : 0 ≤ n) (h2 : n ≤ 10000000000000000000000000000000000000000000000000000000000000000000000000000000000000000000000000000) : Sm 340 n := by
  have e : (2 : Nat) ^ 340 = 2239744742177804210557442280568444278121645497234649534899989100963791871180160945380877493271607115776 := by decide +kernel
  unfold Sm
  omega
theorem fl_of {p n r f : Int} (hp : 0 ≤ p) (hn : 0 ≤ n) (hr : 0 ≤ r) (h1 : r * r ≤ (p * p - 4 * -1) * n * n) (h2 : (p * p - 4 * -1) * n * n < (r + 1) * (r + 1)) (hf : f = (p * n + r).fdiv 2) : Fl p n f := by
  obtain ⟨g1, g2⟩ := fdiv2 (p * n + r)
  rw [← hf] at g1 g2
  have hpn : 0 ≤ p * n := Int.mul_nonneg hp hn
  have f0 : 0 ≤ f := by omega
  refine ⟨f0, ?_, ?_⟩
  · by_cases hz : 0 ≤ 2 * f - p * n
    · have := sq_le hz (by omega : 2 * f - p * n ≤ r)
      have e : (2 * f - p * n) * (2 * f - p * n) - (p * p - 4 * -1) * n * n = 4 * (f * f - p * f * n - n * n) := by grind
      omega
    · have h3 : 0 ≤ f * (p * n - f) := Int.mul_nonneg f0 (by omega)
      have h4 : 0 ≤ n * n := Int.mul_nonneg hn hn
      have e : f * (p * n - f) = p * f * n - f * f := by grind
      omega
  · have := sq_le (by omega : 0 ≤ r + 1) (by omega : r + 1 ≤ 2 * (f + 1) - p * n)
    have e : (2 * (f + 1) - p * n) * (2 * (f + 1) - p * n) - (p * p - 4 * -1) * n * n = 4 * ((f + 1) * (f + 1) - p * (f + 1) * n - n * n) := by grind
    omega

theorem p_unit_in {m : Nat} {p : Int} {d : Nat} {J : Slot → Nat → Prop} {E : EX} (hp : 1 ≤ p) (h : J (.val (.bl true)) d) : sem T (m + 1) 136 [.tup [.int p, .int (-1)]] d J E := by
  refine u_is_unit_in ?_
  (repeat ((conv => whnf); first | refine k_i1 ?_ | refine k_i2 ?_ | refine k_i3 ?_ | refine k_i4 ?_ | refine k_i5 ?_ | refine k_i6 ?_ | refine k_i7 ?_ | refine k_b1 ?_ | refine k_b2 ?_ | refine k_b3 ?_ | refine k_b4 ?_ | refine k_b5 ?_ | refine k_b6 ?_ | refine k_b7 ?_ | refine k_s1 ?_ | refine k_s2 ?_ | refine k_s3 ?_ | refine k_s4 ?_ | refine k_s5 ?_ | refine k_s6 ?_ | refine k_s7 ?_ | refine k_t1 ?_ | refine k_t2 ?_ | refine k_t3 ?_ | refine k_t4 ?_ | refine k_t5 ?_ | refine k_t6 ?_ | refine k_t7 ?_ | refine k_l1 ?_ | refine k_l2 ?_ | refine k_l3 ?_ | refine k_l4 ?_ | refine k_l5 ?_ | refine k_l6 ?_ | refine k_l7 ?_ | refine k_n6 ?_ | refine k_n7 ?_ | refine k_n1 ?_ | refine k_n2 ?_ | refine k_n3 ?_ | refine k_n4 ?_ | refine k_n5 ?_ | refine ⟨dok_scal rfl rfl, dok_scal rfl rfl, ?_⟩ | refine ⟨_, rfl, ?_⟩)); (conv => whnf); (try dsimp only [PSt.set, List.set_cons_zero, List.set_cons_succ, wipeP, backP, List.getD_cons_zero, List.getD_cons_succ])
  refine cnd_of (fun q => ?_) fun q => absurd hp (of_decide_eq_false q)
  (repeat ((conv => whnf); first | refine k_i1 ?_ | refine k_i2 ?_ | refine k_i3 ?_ | refine k_i4 ?_ | refine k_i5 ?_ | refine k_i6 ?_ | refine k_i7 ?_ | refine k_b1 ?_ | refine k_b2 ?_ | refine k_b3 ?_ | refine k_b4 ?_ | refine k_b5 ?_ | refine k_b6 ?_ | refine k_b7 ?_ | refine k_s1 ?_ | refine k_s2 ?_ | refine k_s3 ?_ | refine k_s4 ?_ | refine k_s5 ?_ | refine k_s6 ?_ | refine k_s7 ?_ | refine k_t1 ?_ | refine k_t2 ?_ | refine k_t3 ?_ | refine k_t4 ?_ | refine k_t5 ?_ | refine k_t6 ?_ | refine k_t7 ?_ | refine k_l1 ?_ | refine k_l2 ?_ | refine k_l3 ?_ | refine k_l4 ?_ | refine k_l5 ?_ | refine k_l6 ?_ | refine k_l7 ?_ | refine k_n6 ?_ | refine k_n7 ?_ | refine k_n1 ?_ | refine k_n2 ?_ | refine k_n3 ?_ | refine k_n4 ?_ | refine k_n5 ?_ | refine ⟨dok_scal rfl rfl, dok_scal rfl rfl, ?_⟩ | refine ⟨_, rfl, ?_⟩)); (conv => whnf); (try dsimp only [PSt.set, List.set_cons_zero, List.set_cons_succ, wipeP, backP, List.getD_cons_zero, List.getD_cons_succ])
  rw [decide_eq_true hp]
  exact h

theorem p_sure_unit {m : Nat} {p : Int} {d : Nat} {J : Slot → Nat → Prop} {E : EX} (hp : 1 ≤ p) (h : J (.val (.tup [.int p, .int (-1)])) d) : sem T (m + 2) 142 [.tup [.int p, .int (-1)]] d J E := by
  refine u_sure_unit ?_
  (repeat ((conv => whnf); first | refine k_i1 ?_ | refine k_i2 ?_ | refine k_i3 ?_ | refine k_i4 ?_ | refine k_i5 ?_ | refine k_i6 ?_ | refine k_i7 ?_ | refine k_b1 ?_ | refine k_b2 ?_ | refine k_b3 ?_ | refine k_b4 ?_ | refine k_b5 ?_ | refine k_b6 ?_ | refine k_b7 ?_ | refine k_s1 ?_ | refine k_s2 ?_ | refine k_s3 ?_ | refine k_s4 ?_ | refine k_s5 ?_ | refine k_s6 ?_ | refine k_s7 ?_ | refine k_t1 ?_ | refine k_t2 ?_ | refine k_t3 ?_ | refine k_t4 ?_ | refine k_t5 ?_ | refine k_t6 ?_ | refine k_t7 ?_ | refine k_l1 ?_ | refine k_l2 ?_ | refine k_l3 ?_ | refine k_l4 ?_ | refine k_l5 ?_ | refine k_l6 ?_ | refine k_l7 ?_ | refine k_n6 ?_ | refine k_n7 ?_ | refine k_n1 ?_ | refine k_n2 ?_ | refine k_n3 ?_ | refine k_n4 ?_ | refine k_n5 ?_ | refine ⟨dok_scal rfl rfl, dok_scal rfl rfl, ?_⟩ | refine ⟨_, rfl, ?_⟩)); (conv => whnf); (try dsimp only [PSt.set, List.set_cons_zero, List.set_cons_succ, wipeP, backP, List.getD_cons_zero, List.getD_cons_succ])
  refine p_unit_in hp ?_
  (repeat ((conv => whnf); first | refine k_i1 ?_ | refine k_i2 ?_ | refine k_i3 ?_ | refine k_i4 ?_ | refine k_i5 ?_ | refine k_i6 ?_ | refine k_i7 ?_ | refine k_b1 ?_ | refine k_b2 ?_ | refine k_b3 ?_ | refine k_b4 ?_ | refine k_b5 ?_ | refine k_b6 ?_ | refine k_b7 ?_ | refine k_s1 ?_ | refine k_s2 ?_ | refine k_s3 ?_ | refine k_s4 ?_ | refine k_s5 ?_ | refine k_s6 ?_ | refine k_s7 ?_ | refine k_t1 ?_ | refine k_t2 ?_ | refine k_t3 ?_ | refine k_t4 ?_ | refine k_t5 ?_ | refine k_t6 ?_ | refine k_t7 ?_ | refine k_l1 ?_ | refine k_l2 ?_ | refine k_l3 ?_ | refine k_l4 ?_ | refine k_l5 ?_ | refine k_l6 ?_ | refine k_l7 ?_ | refine k_n6 ?_ | refine k_n7 ?_ | refine k_n1 ?_ | refine k_n2 ?_ | refine k_n3 ?_ | refine k_n4 ?_ | refine k_n5 ?_ | refine ⟨dok_scal rfl rfl, dok_scal rfl rfl, ?_⟩ | refine ⟨_, rfl, ?_⟩)); (conv => whnf); (try dsimp only [PSt.set, List.set_cons_zero, List.set_cons_succ, wipeP, backP, List.getD_cons_zero, List.getD_cons_succ])
  exact h

mutual
/-- what the law compares -/
def gdv : PV → Bool
  | .non | .bl _ | .int _ => true
  | .str x => PyData.strOk x
  | .tup xs => decide (xs.length ≤ 100000) && gdvs xs
  | .lst xs => decide (xs.length ≤ 100000) && gdvs xs
  | _ => false
def gdvs : List PV → Bool
  | [] => true
  | x :: xs => gdv x && gdvs xs
end
theorem gdvs_mem : ∀ {xs : List PV}, gdvs xs = true → ∀ x ∈ xs, gdv x = true
  | [], _, x, h => nomatch h
  | y :: xs, h, x, hx => by
    obtain ⟨h1, h2⟩ := Bool.and_eq_true_iff.mp h
    rcases List.mem_cons.mp hx with rfl | hx
    · exact h1
    · exact gdvs_mem h2 x hx
theorem deeps_mem : ∀ {xs : List PV} {k : Nat}, deeps xs ≤ k → ∀ x ∈ xs, deep x ≤ k
  | [], _, _, x, h => nomatch h
  | y :: xs, k, h, x, hx => by
    have h : max (deep y) (deeps xs) ≤ k := h
    rcases List.mem_cons.mp hx with rfl | hx
    · omega
    · exact deeps_mem (by omega) x hx
theorem zipL_self (xs : List PV) : zipL xs xs = xs.map fun x => .tup [x, x] := by
  unfold zipL
  induction xs with
  | nil => rfl
  | cons x xs ih => simpa using ih
theorem true_rep (f : PV → PV) (xs : List PV) : [] ++ ((xs.map f).filter fun _ => true).map (fun _ => PV.bl true) = (List.replicate xs.length true).map PV.bl := by
  induction xs with
  | nil => rfl
  | cons x xs ih =>
    simp only [List.nil_append] at ih ⊢
    simp [List.replicate_succ, ih]
def pairB (a b : PV) (x : PV) : List Slot := match x with
  | .tup [y, z] => [.val a, .val b, .un, .val y, .val z]
  | _ => []
theorem p_same {m : Nat} : ∀ (k : Nat) (v : PV) {d : Nat} {J : Slot → Nat → Prop} {E : EX}, deep v ≤ k → gdv v = true → J (.val (.bl true)) d → sem T (m + k + 1) 28 [v, v] d J E
  | k, v, d, J, E, hd, hg, h => by
    refine u__law_same ?_
    cases v with
    | int i =>
      (repeat ((conv => whnf); first | refine k_i1 ?_ | refine k_i2 ?_ | refine k_i3 ?_ | refine k_i4 ?_ | refine k_i5 ?_ | refine k_i6 ?_ | refine k_i7 ?_ | refine k_b1 ?_ | refine k_b2 ?_ | refine k_b3 ?_ | refine k_b4 ?_ | refine k_b5 ?_ | refine k_b6 ?_ | refine k_b7 ?_ | refine k_s1 ?_ | refine k_s2 ?_ | refine k_s3 ?_ | refine k_s4 ?_ | refine k_s5 ?_ | refine k_s6 ?_ | refine k_s7 ?_ | refine k_t1 ?_ | refine k_t2 ?_ | refine k_t3 ?_ | refine k_t4 ?_ | refine k_t5 ?_ | refine k_t6 ?_ | refine k_t7 ?_ | refine k_l1 ?_ | refine k_l2 ?_ | refine k_l3 ?_ | refine k_l4 ?_ | refine k_l5 ?_ | refine k_l6 ?_ | refine k_l7 ?_ | refine k_n6 ?_ | refine k_n7 ?_ | refine k_n1 ?_ | refine k_n2 ?_ | refine k_n3 ?_ | refine k_n4 ?_ | refine k_n5 ?_ | refine ⟨dok_scal rfl rfl, dok_scal rfl rfl, ?_⟩ | refine ⟨_, rfl, ?_⟩)); (conv => whnf); (try dsimp only [PSt.set, List.set_cons_zero, List.set_cons_succ, wipeP, backP, List.getD_cons_zero, List.getD_cons_succ])
      rw [decide_eq_true rfl]
      exact h
    | bl b =>
      (repeat ((conv => whnf); first | refine k_i1 ?_ | refine k_i2 ?_ | refine k_i3 ?_ | refine k_i4 ?_ | refine k_i5 ?_ | refine k_i6 ?_ | refine k_i7 ?_ | refine k_b1 ?_ | refine k_b2 ?_ | refine k_b3 ?_ | refine k_b4 ?_ | refine k_b5 ?_ | refine k_b6 ?_ | refine k_b7 ?_ | refine k_s1 ?_ | refine k_s2 ?_ | refine k_s3 ?_ | refine k_s4 ?_ | refine k_s5 ?_ | refine k_s6 ?_ | refine k_s7 ?_ | refine k_t1 ?_ | refine k_t2 ?_ | refine k_t3 ?_ | refine k_t4 ?_ | refine k_t5 ?_ | refine k_t6 ?_ | refine k_t7 ?_ | refine k_l1 ?_ | refine k_l2 ?_ | refine k_l3 ?_ | refine k_l4 ?_ | refine k_l5 ?_ | refine k_l6 ?_ | refine k_l7 ?_ | refine k_n6 ?_ | refine k_n7 ?_ | refine k_n1 ?_ | refine k_n2 ?_ | refine k_n3 ?_ | refine k_n4 ?_ | refine k_n5 ?_ | refine ⟨dok_scal rfl rfl, dok_scal rfl rfl, ?_⟩ | refine ⟨_, rfl, ?_⟩)); (conv => whnf); (try dsimp only [PSt.set, List.set_cons_zero, List.set_cons_succ, wipeP, backP, List.getD_cons_zero, List.getD_cons_succ])
      have e : pyEq (.bl b) (.bl b) = true := by cases b <;> rfl
      rw [e]
      exact h
    | str x =>
      have hs : isData (.str x) = true := hg
      (repeat ((conv => whnf); first | refine k_i1 ?_ | refine k_i2 ?_ | refine k_i3 ?_ | refine k_i4 ?_ | refine k_i5 ?_ | refine k_i6 ?_ | refine k_i7 ?_ | refine k_b1 ?_ | refine k_b2 ?_ | refine k_b3 ?_ | refine k_b4 ?_ | refine k_b5 ?_ | refine k_b6 ?_ | refine k_b7 ?_ | refine k_s1 ?_ | refine k_s2 ?_ | refine k_s3 ?_ | refine k_s4 ?_ | refine k_s5 ?_ | refine k_s6 ?_ | refine k_s7 ?_ | refine k_t1 ?_ | refine k_t2 ?_ | refine k_t3 ?_ | refine k_t4 ?_ | refine k_t5 ?_ | refine k_t6 ?_ | refine k_t7 ?_ | refine k_l1 ?_ | refine k_l2 ?_ | refine k_l3 ?_ | refine k_l4 ?_ | refine k_l5 ?_ | refine k_l6 ?_ | refine k_l7 ?_ | refine k_n6 ?_ | refine k_n7 ?_ | refine k_n1 ?_ | refine k_n2 ?_ | refine k_n3 ?_ | refine k_n4 ?_ | refine k_n5 ?_ | refine ⟨dok_scal rfl rfl, dok_scal rfl rfl, ?_⟩ | refine ⟨_, rfl, ?_⟩)); (conv => whnf); (try dsimp only [PSt.set, List.set_cons_zero, List.set_cons_succ, wipeP, backP, List.getD_cons_zero, List.getD_cons_succ])
      refine ⟨dok_scal hs rfl, dok_scal hs rfl, ?_⟩
      have e : pyEq (.str x) (.str x) = true := by simp [pyEq]
      rw [e]
      exact h
    | non =>
      (repeat ((conv => whnf); first | refine k_i1 ?_ | refine k_i2 ?_ | refine k_i3 ?_ | refine k_i4 ?_ | refine k_i5 ?_ | refine k_i6 ?_ | refine k_i7 ?_ | refine k_b1 ?_ | refine k_b2 ?_ | refine k_b3 ?_ | refine k_b4 ?_ | refine k_b5 ?_ | refine k_b6 ?_ | refine k_b7 ?_ | refine k_s1 ?_ | refine k_s2 ?_ | refine k_s3 ?_ | refine k_s4 ?_ | refine k_s5 ?_ | refine k_s6 ?_ | refine k_s7 ?_ | refine k_t1 ?_ | refine k_t2 ?_ | refine k_t3 ?_ | refine k_t4 ?_ | refine k_t5 ?_ | refine k_t6 ?_ | refine k_t7 ?_ | refine k_l1 ?_ | refine k_l2 ?_ | refine k_l3 ?_ | refine k_l4 ?_ | refine k_l5 ?_ | refine k_l6 ?_ | refine k_l7 ?_ | refine k_n6 ?_ | refine k_n7 ?_ | refine k_n1 ?_ | refine k_n2 ?_ | refine k_n3 ?_ | refine k_n4 ?_ | refine k_n5 ?_ | refine ⟨dok_scal rfl rfl, dok_scal rfl rfl, ?_⟩ | refine ⟨_, rfl, ?_⟩)); (conv => whnf); (try dsimp only [PSt.set, List.set_cons_zero, List.set_cons_succ, wipeP, backP, List.getD_cons_zero, List.getD_cons_succ])
      exact h
    | tup xs =>
      obtain ⟨g1, g2⟩ := Bool.and_eq_true_iff.mp (show (decide (xs.length ≤ 100000) && gdvs xs) = true from hg)
      cases k with
      | zero => simp [deep] at hd
      | succ k =>
        have hd2 : deeps xs ≤ k := by simpa [deep] using hd
        have hlen : xs.length ≤ 100000 := by simpa using g1
        (repeat ((conv => whnf); first | refine k_i1 ?_ | refine k_i2 ?_ | refine k_i3 ?_ | refine k_i4 ?_ | refine k_i5 ?_ | refine k_i6 ?_ | refine k_i7 ?_ | refine k_b1 ?_ | refine k_b2 ?_ | refine k_b3 ?_ | refine k_b4 ?_ | refine k_b5 ?_ | refine k_b6 ?_ | refine k_b7 ?_ | refine k_s1 ?_ | refine k_s2 ?_ | refine k_s3 ?_ | refine k_s4 ?_ | refine k_s5 ?_ | refine k_s6 ?_ | refine k_s7 ?_ | refine k_t1 ?_ | refine k_t2 ?_ | refine k_t3 ?_ | refine k_t4 ?_ | refine k_t5 ?_ | refine k_t6 ?_ | refine k_t7 ?_ | refine k_l1 ?_ | refine k_l2 ?_ | refine k_l3 ?_ | refine k_l4 ?_ | refine k_l5 ?_ | refine k_l6 ?_ | refine k_l7 ?_ | refine k_n6 ?_ | refine k_n7 ?_ | refine k_n1 ?_ | refine k_n2 ?_ | refine k_n3 ?_ | refine k_n4 ?_ | refine k_n5 ?_ | refine ⟨dok_scal rfl rfl, dok_scal rfl rfl, ?_⟩ | refine ⟨_, rfl, ?_⟩)); (conv => whnf); (try dsimp only [PSt.set, List.set_cons_zero, List.set_cons_succ, wipeP, backP, List.getD_cons_zero, List.getD_cons_succ])
        refine cnd_of (fun _ => ?_) fun q => absurd rfl (of_decide_eq_false q)
        (repeat ((conv => whnf); first | refine k_i1 ?_ | refine k_i2 ?_ | refine k_i3 ?_ | refine k_i4 ?_ | refine k_i5 ?_ | refine k_i6 ?_ | refine k_i7 ?_ | refine k_b1 ?_ | refine k_b2 ?_ | refine k_b3 ?_ | refine k_b4 ?_ | refine k_b5 ?_ | refine k_b6 ?_ | refine k_b7 ?_ | refine k_s1 ?_ | refine k_s2 ?_ | refine k_s3 ?_ | refine k_s4 ?_ | refine k_s5 ?_ | refine k_s6 ?_ | refine k_s7 ?_ | refine k_t1 ?_ | refine k_t2 ?_ | refine k_t3 ?_ | refine k_t4 ?_ | refine k_t5 ?_ | refine k_t6 ?_ | refine k_t7 ?_ | refine k_l1 ?_ | refine k_l2 ?_ | refine k_l3 ?_ | refine k_l4 ?_ | refine k_l5 ?_ | refine k_l6 ?_ | refine k_l7 ?_ | refine k_n6 ?_ | refine k_n7 ?_ | refine k_n1 ?_ | refine k_n2 ?_ | refine k_n3 ?_ | refine k_n4 ?_ | refine k_n5 ?_ | refine ⟨dok_scal rfl rfl, dok_scal rfl rfl, ?_⟩ | refine ⟨_, rfl, ?_⟩)); (conv => whnf); (try dsimp only [PSt.set, List.set_cons_zero, List.set_cons_succ, wipeP, backP, List.getD_cons_zero, List.getD_cons_succ])
        rw [zipL_self]
        refine walk_pure (fun _ => true) (fun _ => .bl true) [.val (PV.tup xs), .val (PV.tup xs), .un, .un, .un] (pairB (PV.tup xs) (PV.tup xs)) _ (fun x hx => ?_) [] d _ rfl rfl (by simp; omega) ?_
        · obtain ⟨y, hy, rfl⟩ := List.mem_map.mp hx
          refine ⟨fun d K h => h, rfl, rfl, fun d J h => h, fun _ d J h => ?_⟩
          have := p_same (m := m) k y (d := d) (J := fun r d => esc r ⟨pairB (PV.tup xs) (PV.tup xs) (.tup [y, y]), d⟩ J) (E := fun _ _ => False) (deeps_mem hd2 y hy) (gdvs_mem g2 y hy) h
          exact this
        · refine ⟨List.replicate xs.length true, ?_, ?_⟩
          · exact true_rep _ xs
          · have e : (List.replicate xs.length true).all id = true := by simp
            rw [e]
            exact h
    | lst xs =>
      obtain ⟨g1, g2⟩ := Bool.and_eq_true_iff.mp (show (decide (xs.length ≤ 100000) && gdvs xs) = true from hg)
      cases k with
      | zero => simp [deep] at hd
      | succ k =>
        have hd2 : deeps xs ≤ k := by simpa [deep] using hd
        have hlen : xs.length ≤ 100000 := by simpa using g1
        (repeat ((conv => whnf); first | refine k_i1 ?_ | refine k_i2 ?_ | refine k_i3 ?_ | refine k_i4 ?_ | refine k_i5 ?_ | refine k_i6 ?_ | refine k_i7 ?_ | refine k_b1 ?_ | refine k_b2 ?_ | refine k_b3 ?_ | refine k_b4 ?_ | refine k_b5 ?_ | refine k_b6 ?_ | refine k_b7 ?_ | refine k_s1 ?_ | refine k_s2 ?_ | refine k_s3 ?_ | refine k_s4 ?_ | refine k_s5 ?_ | refine k_s6 ?_ | refine k_s7 ?_ | refine k_t1 ?_ | refine k_t2 ?_ | refine k_t3 ?_ | refine k_t4 ?_ | refine k_t5 ?_ | refine k_t6 ?_ | refine k_t7 ?_ | refine k_l1 ?_ | refine k_l2 ?_ | refine k_l3 ?_ | refine k_l4 ?_ | refine k_l5 ?_ | refine k_l6 ?_ | refine k_l7 ?_ | refine k_n6 ?_ | refine k_n7 ?_ | refine k_n1 ?_ | refine k_n2 ?_ | refine k_n3 ?_ | refine k_n4 ?_ | refine k_n5 ?_ | refine ⟨dok_scal rfl rfl, dok_scal rfl rfl, ?_⟩ | refine ⟨_, rfl, ?_⟩)); (conv => whnf); (try dsimp only [PSt.set, List.set_cons_zero, List.set_cons_succ, wipeP, backP, List.getD_cons_zero, List.getD_cons_succ])
        refine cnd_of (fun _ => ?_) fun q => absurd rfl (of_decide_eq_false q)
        (repeat ((conv => whnf); first | refine k_i1 ?_ | refine k_i2 ?_ | refine k_i3 ?_ | refine k_i4 ?_ | refine k_i5 ?_ | refine k_i6 ?_ | refine k_i7 ?_ | refine k_b1 ?_ | refine k_b2 ?_ | refine k_b3 ?_ | refine k_b4 ?_ | refine k_b5 ?_ | refine k_b6 ?_ | refine k_b7 ?_ | refine k_s1 ?_ | refine k_s2 ?_ | refine k_s3 ?_ | refine k_s4 ?_ | refine k_s5 ?_ | refine k_s6 ?_ | refine k_s7 ?_ | refine k_t1 ?_ | refine k_t2 ?_ | refine k_t3 ?_ | refine k_t4 ?_ | refine k_t5 ?_ | refine k_t6 ?_ | refine k_t7 ?_ | refine k_l1 ?_ | refine k_l2 ?_ | refine k_l3 ?_ | refine k_l4 ?_ | refine k_l5 ?_ | refine k_l6 ?_ | refine k_l7 ?_ | refine k_n6 ?_ | refine k_n7 ?_ | refine k_n1 ?_ | refine k_n2 ?_ | refine k_n3 ?_ | refine k_n4 ?_ | refine k_n5 ?_ | refine ⟨dok_scal rfl rfl, dok_scal rfl rfl, ?_⟩ | refine ⟨_, rfl, ?_⟩)); (conv => whnf); (try dsimp only [PSt.set, List.set_cons_zero, List.set_cons_succ, wipeP, backP, List.getD_cons_zero, List.getD_cons_succ])
        rw [zipL_self]
        refine walk_pure (fun _ => true) (fun _ => .bl true) [.val (PV.lst xs), .val (PV.lst xs), .un, .un, .un] (pairB (PV.lst xs) (PV.lst xs)) _ (fun x hx => ?_) [] d _ rfl rfl (by simp; omega) ?_
        · obtain ⟨y, hy, rfl⟩ := List.mem_map.mp hx
          refine ⟨fun d K h => h, rfl, rfl, fun d J h => h, fun _ d J h => ?_⟩
          have := p_same (m := m) k y (d := d) (J := fun r d => esc r ⟨pairB (PV.lst xs) (PV.lst xs) (.tup [y, y]), d⟩ J) (E := fun _ _ => False) (deeps_mem hd2 y hy) (gdvs_mem g2 y hy) h
          exact this
        · refine ⟨List.replicate xs.length true, ?_, ?_⟩
          · exact true_rep _ xs
          · have e : (List.replicate xs.length true).all id = true := by simp
            rw [e]
            exact h
    | ty n => cases hg
    | ro xs => cases hg
    | fn n => cases hg
    | cell => cases hg

theorem gdvs_ints : ∀ l : List Int, gdvs (l.map PV.int) = true
  | [] => rfl
  | x :: l => by
    show (true && gdvs (l.map PV.int)) = true
    rw [gdvs_ints l]
    rfl
theorem gdv_tints {l : List Int} (h : l.length ≤ 100000) : gdv (.tup (l.map PV.int)) = true := by
  show (decide ((l.map PV.int).length ≤ 100000) && gdvs (l.map PV.int)) = true
  rw [gdvs_ints, List.length_map, decide_eq_true h]
  rfl
theorem gdv_lints {l : List Int} (h : l.length ≤ 100000) : gdv (.lst (l.map PV.int)) = true := by
  show (decide ((l.map PV.int).length ≤ 100000) && gdvs (l.map PV.int)) = true
  rw [gdvs_ints, List.length_map, decide_eq_true h]
  rfl
theorem deep_tints {l : List Int} : deep (.tup (l.map PV.int)) = 1 := by
  show deeps (l.map PV.int) + 1 = 1
  rw [(data_ints l).2]
theorem deep_lints {l : List Int} : deep (.lst (l.map PV.int)) = 1 := by
  show deeps (l.map PV.int) + 1 = 1
  rw [(data_ints l).2]
theorem deeps_ints (l : List Int) : deeps (l.map PV.int) = 0 := (data_ints l).2

theorem gdvs_row {p q : Int} : ∀ l : List Nat, gdvs (l.map fun k => prV (pk p q k)) = true
  | [] => rfl
  | x :: l => by
    show (gdv (prV (pk p q x)) && gdvs (l.map fun k => prV (pk p q k))) = true
    rw [gdvs_row l]
    rfl
theorem gdv_rowK {p q : Int} {n : Nat} (h : n ≤ 100000) : gdv (.lst (rowK p q n)) = true := by
  show (decide ((rowK p q n).length ≤ 100000) && gdvs (rowK p q n)) = true
  rw [rowK_len, decide_eq_true h]
  exact gdvs_row _
theorem deep_rowK {p q : Int} {n : Nat} : deep (.lst (rowK p q n)) ≤ 2 := by
  have := (areData_row (p := p) (q := q) (List.range n)).2
  show deeps (rowK p q n) + 1 ≤ 2
  unfold rowK
  omega

theorem p_box {m : Nat} {cs : List Int} {i : Nat} {d : Nat} {J : Slot → Nat → Prop} {E : EX} (hi : i < cs.length) (hl : cs.length ≤ 63) (h : ∀ x y : Int, 0 ≤ x → -(2 ^ 63) ≤ y → y ≤ 2 ^ 63 → J (.own [.int x, .int y, .int 0]) d) : sem T (m + 1) 150 [.lst (cs.map .int), .int i] d J E := by
  refine u__law_box ?_
  (repeat ((conv => whnf); first | refine k_i1 ?_ | refine k_i2 ?_ | refine k_i3 ?_ | refine k_i4 ?_ | refine k_i5 ?_ | refine k_i6 ?_ | refine k_i7 ?_ | refine k_b1 ?_ | refine k_b2 ?_ | refine k_b3 ?_ | refine k_b4 ?_ | refine k_b5 ?_ | refine k_b6 ?_ | refine k_b7 ?_ | refine k_s1 ?_ | refine k_s2 ?_ | refine k_s3 ?_ | refine k_s4 ?_ | refine k_s5 ?_ | refine k_s6 ?_ | refine k_s7 ?_ | refine k_t1 ?_ | refine k_t2 ?_ | refine k_t3 ?_ | refine k_t4 ?_ | refine k_t5 ?_ | refine k_t6 ?_ | refine k_t7 ?_ | refine k_l1 ?_ | refine k_l2 ?_ | refine k_l3 ?_ | refine k_l4 ?_ | refine k_l5 ?_ | refine k_l6 ?_ | refine k_l7 ?_ | refine k_n6 ?_ | refine k_n7 ?_ | refine k_n1 ?_ | refine k_n2 ?_ | refine k_n3 ?_ | refine k_n4 ?_ | refine k_n5 ?_ | refine ⟨dok_scal rfl rfl, dok_scal rfl rfl, ?_⟩ | refine ⟨_, rfl, ?_⟩)); (conv => whnf); (try dsimp only [PSt.set, List.set_cons_zero, List.set_cons_succ, wipeP, backP, List.getD_cons_zero, List.getD_cons_succ])
  refine cnd_of (fun _ => ?_) fun q => absurd (by rw [List.length_map]; omega) (of_decide_eq_false q)
  have hat : atI (cs.map PV.int) (i : Int) = some (.int cs[i]) := at_nat (by rw [List.getElem?_map, List.getElem?_eq_getElem hi]; rfl)
  (conv => whnf); (try dsimp only [PSt.set, List.set_cons_zero, List.set_cons_succ, wipeP, backP, List.getD_cons_zero, List.getD_cons_succ])
  refine ⟨_, hat, ?_⟩
  generalize cs[i] = b
  (repeat ((conv => whnf); first | refine k_i1 ?_ | refine k_i2 ?_ | refine k_i3 ?_ | refine k_i4 ?_ | refine k_i5 ?_ | refine k_i6 ?_ | refine k_i7 ?_ | refine k_b1 ?_ | refine k_b2 ?_ | refine k_b3 ?_ | refine k_b4 ?_ | refine k_b5 ?_ | refine k_b6 ?_ | refine k_b7 ?_ | refine k_s1 ?_ | refine k_s2 ?_ | refine k_s3 ?_ | refine k_s4 ?_ | refine k_s5 ?_ | refine k_s6 ?_ | refine k_s7 ?_ | refine k_t1 ?_ | refine k_t2 ?_ | refine k_t3 ?_ | refine k_t4 ?_ | refine k_t5 ?_ | refine k_t6 ?_ | refine k_t7 ?_ | refine k_l1 ?_ | refine k_l2 ?_ | refine k_l3 ?_ | refine k_l4 ?_ | refine k_l5 ?_ | refine k_l6 ?_ | refine k_l7 ?_ | refine k_n6 ?_ | refine k_n7 ?_ | refine k_n1 ?_ | refine k_n2 ?_ | refine k_n3 ?_ | refine k_n4 ?_ | refine k_n5 ?_ | refine ⟨dok_scal rfl rfl, dok_scal rfl rfl, ?_⟩ | refine ⟨_, rfl, ?_⟩)); (conv => whnf); (try dsimp only [PSt.set, List.set_cons_zero, List.set_cons_succ, wipeP, backP, List.getD_cons_zero, List.getD_cons_succ])
  have hsel : ∀ c : Prop, [Decidable c] → 0 ≤ (if c then (1 : Int) else 0) ∧ (if c then (1 : Int) else 0) ≤ 1 := fun c _ => by split <;> decide
  have hab : 0 ≤ (if b < 0 then -b else b) := by split <;> omega
  obtain ⟨m1, m2⟩ := fmod_rng (i := b) (j := 2305843009213693951) (by decide)
  refine ⟨by decide, by decide, by decide, ?_⟩
  (repeat ((conv => whnf); first | refine k_i1 ?_ | refine k_i2 ?_ | refine k_i3 ?_ | refine k_i4 ?_ | refine k_i5 ?_ | refine k_i6 ?_ | refine k_i7 ?_ | refine k_b1 ?_ | refine k_b2 ?_ | refine k_b3 ?_ | refine k_b4 ?_ | refine k_b5 ?_ | refine k_b6 ?_ | refine k_b7 ?_ | refine k_s1 ?_ | refine k_s2 ?_ | refine k_s3 ?_ | refine k_s4 ?_ | refine k_s5 ?_ | refine k_s6 ?_ | refine k_s7 ?_ | refine k_t1 ?_ | refine k_t2 ?_ | refine k_t3 ?_ | refine k_t4 ?_ | refine k_t5 ?_ | refine k_t6 ?_ | refine k_t7 ?_ | refine k_l1 ?_ | refine k_l2 ?_ | refine k_l3 ?_ | refine k_l4 ?_ | refine k_l5 ?_ | refine k_l6 ?_ | refine k_l7 ?_ | refine k_n6 ?_ | refine k_n7 ?_ | refine k_n1 ?_ | refine k_n2 ?_ | refine k_n3 ?_ | refine k_n4 ?_ | refine k_n5 ?_ | refine ⟨dok_scal rfl rfl, dok_scal rfl rfl, ?_⟩ | refine ⟨_, rfl, ?_⟩)); (conv => whnf); (try dsimp only [PSt.set, List.set_cons_zero, List.set_cons_succ, wipeP, backP, List.getD_cons_zero, List.getD_cons_succ])
  refine ⟨mulR (Int.le_trans (by decide) (hsel _).1) (Int.le_trans (hsel _).2 (by decide)), ?_⟩
  (repeat ((conv => whnf); first | refine k_i1 ?_ | refine k_i2 ?_ | refine k_i3 ?_ | refine k_i4 ?_ | refine k_i5 ?_ | refine k_i6 ?_ | refine k_i7 ?_ | refine k_b1 ?_ | refine k_b2 ?_ | refine k_b3 ?_ | refine k_b4 ?_ | refine k_b5 ?_ | refine k_b6 ?_ | refine k_b7 ?_ | refine k_s1 ?_ | refine k_s2 ?_ | refine k_s3 ?_ | refine k_s4 ?_ | refine k_s5 ?_ | refine k_s6 ?_ | refine k_s7 ?_ | refine k_t1 ?_ | refine k_t2 ?_ | refine k_t3 ?_ | refine k_t4 ?_ | refine k_t5 ?_ | refine k_t6 ?_ | refine k_t7 ?_ | refine k_l1 ?_ | refine k_l2 ?_ | refine k_l3 ?_ | refine k_l4 ?_ | refine k_l5 ?_ | refine k_l6 ?_ | refine k_l7 ?_ | refine k_n6 ?_ | refine k_n7 ?_ | refine k_n1 ?_ | refine k_n2 ?_ | refine k_n3 ?_ | refine k_n4 ?_ | refine k_n5 ?_ | refine ⟨dok_scal rfl rfl, dok_scal rfl rfl, ?_⟩ | refine ⟨_, rfl, ?_⟩)); (conv => whnf); (try dsimp only [PSt.set, List.set_cons_zero, List.set_cons_succ, wipeP, backP, List.getD_cons_zero, List.getD_cons_succ])
  refine ⟨by decide, ?_⟩
  (repeat ((conv => whnf); first | refine k_i1 ?_ | refine k_i2 ?_ | refine k_i3 ?_ | refine k_i4 ?_ | refine k_i5 ?_ | refine k_i6 ?_ | refine k_i7 ?_ | refine k_b1 ?_ | refine k_b2 ?_ | refine k_b3 ?_ | refine k_b4 ?_ | refine k_b5 ?_ | refine k_b6 ?_ | refine k_b7 ?_ | refine k_s1 ?_ | refine k_s2 ?_ | refine k_s3 ?_ | refine k_s4 ?_ | refine k_s5 ?_ | refine k_s6 ?_ | refine k_s7 ?_ | refine k_t1 ?_ | refine k_t2 ?_ | refine k_t3 ?_ | refine k_t4 ?_ | refine k_t5 ?_ | refine k_t6 ?_ | refine k_t7 ?_ | refine k_l1 ?_ | refine k_l2 ?_ | refine k_l3 ?_ | refine k_l4 ?_ | refine k_l5 ?_ | refine k_l6 ?_ | refine k_l7 ?_ | refine k_n6 ?_ | refine k_n7 ?_ | refine k_n1 ?_ | refine k_n2 ?_ | refine k_n3 ?_ | refine k_n4 ?_ | refine k_n5 ?_ | refine ⟨dok_scal rfl rfl, dok_scal rfl rfl, ?_⟩ | refine ⟨_, rfl, ?_⟩)); (conv => whnf); (try dsimp only [PSt.set, List.set_cons_zero, List.set_cons_succ, wipeP, backP, List.getD_cons_zero, List.getD_cons_succ])
  refine ⟨mulL (by decide) (by decide), h _ _ ?_ ?_ ?_⟩
  · exact Int.mul_nonneg hab (hsel _).1
  · omega
  · omega

theorem cut_map {α β : Type} (f : α → β) (xs : List α) (lo hi : Option Int) : cutP (xs.map f) lo hi = (cutP xs lo hi).map f := by
  unfold cutP
  rw [List.length_map, List.map_take, List.map_drop]
theorem cut_to {α : Type} (xs : List α) (k : Nat) : cutP xs none (some (k : Int)) = xs.take k := by
  unfold cutP
  rw [HT.sIx_none, HT.sIx_nat, List.drop_zero, Nat.sub_zero]
  rcases Nat.le_total k xs.length with h | h
  · rw [Nat.min_eq_left h]
  · rw [Nat.min_eq_right h, List.take_length, List.take_of_length_le h]
theorem cut_from2 {α : Type} (xs : List α) (h : xs.length ≤ 2) (b : Nat) : cutP xs (some 2) (some (b : Int)) = [] := by
  unfold cutP
  rw [show HT.sIx xs.length 0 (some 2) = min 2 xs.length from HT.sIx_nat _ _ 2, List.drop_eq_nil_of_le (by omega)]
  exact List.take_nil
theorem cut_len {α : Type} (xs : List α) (lo hi : Option Int) : (cutP xs lo hi).length ≤ xs.length := by
  unfold cutP
  rw [List.length_take, List.length_drop]
  omega
theorem p_cells {m : Nat} {ns : List Int} {d : Nat} {J : Slot → Nat → Prop} {E : EX} (hl : ns.length ≤ 63) (h : ∀ cs : List Int, cs.length ≤ 63 → J (.val (.lst (cs.map .int))) d) : sem T (m + 1) 26 [.ro (ns.map .int), .int 2] d J E := by
  refine u__law_cells ?_
  (repeat ((conv => whnf); first | refine k_i1 ?_ | refine k_i2 ?_ | refine k_i3 ?_ | refine k_i4 ?_ | refine k_i5 ?_ | refine k_i6 ?_ | refine k_i7 ?_ | refine k_b1 ?_ | refine k_b2 ?_ | refine k_b3 ?_ | refine k_b4 ?_ | refine k_b5 ?_ | refine k_b6 ?_ | refine k_b7 ?_ | refine k_s1 ?_ | refine k_s2 ?_ | refine k_s3 ?_ | refine k_s4 ?_ | refine k_s5 ?_ | refine k_s6 ?_ | refine k_s7 ?_ | refine k_t1 ?_ | refine k_t2 ?_ | refine k_t3 ?_ | refine k_t4 ?_ | refine k_t5 ?_ | refine k_t6 ?_ | refine k_t7 ?_ | refine k_l1 ?_ | refine k_l2 ?_ | refine k_l3 ?_ | refine k_l4 ?_ | refine k_l5 ?_ | refine k_l6 ?_ | refine k_l7 ?_ | refine k_n6 ?_ | refine k_n7 ?_ | refine k_n1 ?_ | refine k_n2 ?_ | refine k_n3 ?_ | refine k_n4 ?_ | refine k_n5 ?_ | refine ⟨dok_scal rfl rfl, dok_scal rfl rfl, ?_⟩ | refine ⟨_, rfl, ?_⟩)); (conv => whnf); (try dsimp only [PSt.set, List.set_cons_zero, List.set_cons_succ, wipeP, backP, List.getD_cons_zero, List.getD_cons_succ])
  have rest : ∀ (cs : List Int), cs.length ≤ 2 → (2 < ns.length → cs.length = 2) → evSs (sem T m) [IS.forr (TgI.tup [TgI.nm 3, TgI.nm 4]) (II.enum ((IE.var 0).slc (some (IE.var 1)) (some (IE.cst (PV.int 63)))))
                      [IS.asg (TgI.nm 5) (IE.bin BO.mod (IE.blt1 B1.int (IE.var 3)) (IE.var 1)),
                        IS.sti 2 (IE.var 5)
                          (IE.bin BO.add ((IE.var 2).sub (IE.var 5))
                            (IE.bin BO.mul (IE.var 4) (IE.bin BO.add (IE.var 3) (IE.cst (PV.int 2)))))],
                    IS.ret (IE.var 2)] ⟨fun q => J (Slot.val PV.non) q.d, fun r q => J r q.d, fun x => False, fun x => False, E⟩ ⟨[.val (.ro (ns.map .int)), .val (.int 2), .own (cs.map .int), .un, .un, .un], d⟩ := by
    intro cs hcs hcs2
    (repeat ((conv => whnf); first | refine k_i1 ?_ | refine k_i2 ?_ | refine k_i3 ?_ | refine k_i4 ?_ | refine k_i5 ?_ | refine k_i6 ?_ | refine k_i7 ?_ | refine k_b1 ?_ | refine k_b2 ?_ | refine k_b3 ?_ | refine k_b4 ?_ | refine k_b5 ?_ | refine k_b6 ?_ | refine k_b7 ?_ | refine k_s1 ?_ | refine k_s2 ?_ | refine k_s3 ?_ | refine k_s4 ?_ | refine k_s5 ?_ | refine k_s6 ?_ | refine k_s7 ?_ | refine k_t1 ?_ | refine k_t2 ?_ | refine k_t3 ?_ | refine k_t4 ?_ | refine k_t5 ?_ | refine k_t6 ?_ | refine k_t7 ?_ | refine k_l1 ?_ | refine k_l2 ?_ | refine k_l3 ?_ | refine k_l4 ?_ | refine k_l5 ?_ | refine k_l6 ?_ | refine k_l7 ?_ | refine k_n6 ?_ | refine k_n7 ?_ | refine k_n1 ?_ | refine k_n2 ?_ | refine k_n3 ?_ | refine k_n4 ?_ | refine k_n5 ?_ | refine ⟨dok_scal rfl rfl, dok_scal rfl rfl, ?_⟩ | refine ⟨_, rfl, ?_⟩)); (conv => whnf); (try dsimp only [PSt.set, List.set_cons_zero, List.set_cons_succ, wipeP, backP, List.getD_cons_zero, List.getD_cons_succ])
    refine forP_ind _ (fun i q => ∃ (cs' : List Int) (a b c : Slot), cs'.length = cs.length ∧ q = ⟨[.val (.ro (ns.map .int)), .val (.int 2), .own (cs'.map .int), a, b, c], d⟩) (fun i x hx q hq W hW => ?_) (fun q hq => ?_) ⟨cs, .un, .un, .un, rfl, rfl⟩
    · obtain ⟨cs', a, b, c, hlen, rfl⟩ := hq
      have hbig : 2 < ns.length := by
        rcases Nat.lt_or_ge 2 ns.length with h | h
        · exact h
        · have e : cutP (ns.map PV.int) (some 2) (some 63) = [] := cut_from2 _ (by rw [List.length_map]; exact h) 63
          rw [e] at hx
          unfold enumL at hx
          simp at hx
      have hx2 : ∃ b : Int, x = .tup [.int i, .int b] := by
        rw [cut_map] at hx
        unfold enumL at hx
        rw [List.getElem?_map, List.getElem?_zipIdx, List.getElem?_map] at hx
        cases q : (cutP ns (some 2) (some 63))[i]? with
        | none => rw [q] at hx; simp at hx
        | some b => rw [q] at hx; simp at hx; exact ⟨b, hx.symm⟩
      obtain ⟨bit, rfl⟩ := hx2
      have hc2 : cs'.length = 2 := hlen.trans (hcs2 hbig)
      (repeat ((conv => whnf); first | refine k_i1 ?_ | refine k_i2 ?_ | refine k_i3 ?_ | refine k_i4 ?_ | refine k_i5 ?_ | refine k_i6 ?_ | refine k_i7 ?_ | refine k_b1 ?_ | refine k_b2 ?_ | refine k_b3 ?_ | refine k_b4 ?_ | refine k_b5 ?_ | refine k_b6 ?_ | refine k_b7 ?_ | refine k_s1 ?_ | refine k_s2 ?_ | refine k_s3 ?_ | refine k_s4 ?_ | refine k_s5 ?_ | refine k_s6 ?_ | refine k_s7 ?_ | refine k_t1 ?_ | refine k_t2 ?_ | refine k_t3 ?_ | refine k_t4 ?_ | refine k_t5 ?_ | refine k_t6 ?_ | refine k_t7 ?_ | refine k_l1 ?_ | refine k_l2 ?_ | refine k_l3 ?_ | refine k_l4 ?_ | refine k_l5 ?_ | refine k_l6 ?_ | refine k_l7 ?_ | refine k_n6 ?_ | refine k_n7 ?_ | refine k_n1 ?_ | refine k_n2 ?_ | refine k_n3 ?_ | refine k_n4 ?_ | refine k_n5 ?_ | refine ⟨dok_scal rfl rfl, dok_scal rfl rfl, ?_⟩ | refine ⟨_, rfl, ?_⟩)); (conv => whnf); (try dsimp only [PSt.set, List.set_cons_zero, List.set_cons_succ, wipeP, backP, List.getD_cons_zero, List.getD_cons_succ])
      refine ⟨by decide, ?_⟩
      obtain ⟨m1, m2⟩ := fmod_rng (i := (i : Int)) (j := 2) (by decide)
      (repeat ((conv => whnf); first | refine k_i1 ?_ | refine k_i2 ?_ | refine k_i3 ?_ | refine k_i4 ?_ | refine k_i5 ?_ | refine k_i6 ?_ | refine k_i7 ?_ | refine k_b1 ?_ | refine k_b2 ?_ | refine k_b3 ?_ | refine k_b4 ?_ | refine k_b5 ?_ | refine k_b6 ?_ | refine k_b7 ?_ | refine k_s1 ?_ | refine k_s2 ?_ | refine k_s3 ?_ | refine k_s4 ?_ | refine k_s5 ?_ | refine k_s6 ?_ | refine k_s7 ?_ | refine k_t1 ?_ | refine k_t2 ?_ | refine k_t3 ?_ | refine k_t4 ?_ | refine k_t5 ?_ | refine k_t6 ?_ | refine k_t7 ?_ | refine k_l1 ?_ | refine k_l2 ?_ | refine k_l3 ?_ | refine k_l4 ?_ | refine k_l5 ?_ | refine k_l6 ?_ | refine k_l7 ?_ | refine k_n6 ?_ | refine k_n7 ?_ | refine k_n1 ?_ | refine k_n2 ?_ | refine k_n3 ?_ | refine k_n4 ?_ | refine k_n5 ?_ | refine ⟨dok_scal rfl rfl, dok_scal rfl rfl, ?_⟩ | refine ⟨_, rfl, ?_⟩)); (conv => whnf); (try dsimp only [PSt.set, List.set_cons_zero, List.set_cons_succ, wipeP, backP, List.getD_cons_zero, List.getD_cons_succ])
      generalize (i : Int).fmod 2 = at_ at m1 m2
      obtain ⟨j, rfl⟩ : ∃ j : Nat, at_ = (j : Int) := ⟨at_.toNat, by omega⟩
      have hj : j < cs'.length := by omega
      refine ⟨.int cs'[j], at_nat (by rw [List.getElem?_map, List.getElem?_eq_getElem hj]; rfl), ?_⟩
      (repeat ((conv => whnf); first | refine k_i1 ?_ | refine k_i2 ?_ | refine k_i3 ?_ | refine k_i4 ?_ | refine k_i5 ?_ | refine k_i6 ?_ | refine k_i7 ?_ | refine k_b1 ?_ | refine k_b2 ?_ | refine k_b3 ?_ | refine k_b4 ?_ | refine k_b5 ?_ | refine k_b6 ?_ | refine k_b7 ?_ | refine k_s1 ?_ | refine k_s2 ?_ | refine k_s3 ?_ | refine k_s4 ?_ | refine k_s5 ?_ | refine k_s6 ?_ | refine k_s7 ?_ | refine k_t1 ?_ | refine k_t2 ?_ | refine k_t3 ?_ | refine k_t4 ?_ | refine k_t5 ?_ | refine k_t6 ?_ | refine k_t7 ?_ | refine k_l1 ?_ | refine k_l2 ?_ | refine k_l3 ?_ | refine k_l4 ?_ | refine k_l5 ?_ | refine k_l6 ?_ | refine k_l7 ?_ | refine k_n6 ?_ | refine k_n7 ?_ | refine k_n1 ?_ | refine k_n2 ?_ | refine k_n3 ?_ | refine k_n4 ?_ | refine k_n5 ?_ | refine ⟨dok_scal rfl rfl, dok_scal rfl rfl, ?_⟩ | refine ⟨_, rfl, ?_⟩)); (conv => whnf); (try dsimp only [PSt.set, List.set_cons_zero, List.set_cons_succ, wipeP, backP, List.getD_cons_zero, List.getD_cons_succ])
      have hi : i < 63 := by
        have h1 := (List.getElem?_eq_some_iff.mp hx).1
        rw [enumL_length] at h1
        have h2 := cut_len (ns.map PV.int) (some 2) (some 63)
        rw [List.length_map] at h2
        omega
      refine ⟨mulR (by omega) (by omega), ?_⟩
      (conv => whnf); (try dsimp only [PSt.set, List.set_cons_zero, List.set_cons_succ, wipeP, backP, List.getD_cons_zero, List.getD_cons_succ])
      refine ⟨j, Evl.ixN_nat (by rw [List.length_map]; exact hj), hW _ ⟨cs'.set j (cs'[j] + bit * (i + 2)), .val (.int i), .val (.int bit), .val (.int j), by rw [List.length_set]; exact hlen, ?_⟩⟩
      rw [List.map_set]
    · obtain ⟨cs', a, b, c, hlen, rfl⟩ := hq
      (repeat ((conv => whnf); first | refine k_i1 ?_ | refine k_i2 ?_ | refine k_i3 ?_ | refine k_i4 ?_ | refine k_i5 ?_ | refine k_i6 ?_ | refine k_i7 ?_ | refine k_b1 ?_ | refine k_b2 ?_ | refine k_b3 ?_ | refine k_b4 ?_ | refine k_b5 ?_ | refine k_b6 ?_ | refine k_b7 ?_ | refine k_s1 ?_ | refine k_s2 ?_ | refine k_s3 ?_ | refine k_s4 ?_ | refine k_s5 ?_ | refine k_s6 ?_ | refine k_s7 ?_ | refine k_t1 ?_ | refine k_t2 ?_ | refine k_t3 ?_ | refine k_t4 ?_ | refine k_t5 ?_ | refine k_t6 ?_ | refine k_t7 ?_ | refine k_l1 ?_ | refine k_l2 ?_ | refine k_l3 ?_ | refine k_l4 ?_ | refine k_l5 ?_ | refine k_l6 ?_ | refine k_l7 ?_ | refine k_n6 ?_ | refine k_n7 ?_ | refine k_n1 ?_ | refine k_n2 ?_ | refine k_n3 ?_ | refine k_n4 ?_ | refine k_n5 ?_ | refine ⟨dok_scal rfl rfl, dok_scal rfl rfl, ?_⟩ | refine ⟨_, rfl, ?_⟩)); (conv => whnf); (try dsimp only [PSt.set, List.set_cons_zero, List.set_cons_succ, wipeP, backP, List.getD_cons_zero, List.getD_cons_succ])
      exact h cs' (by omega)
  refine cnd_of (fun q => ?_) fun q => ?_
  · have e : cutP (ns.map PV.int) none (some 2) = (ns.take 2).map PV.int := by rw [cut_map]; exact congrArg _ (cut_to ns 2)
    rw [e]
    exact rest (ns.take 2) (by rw [List.length_take]; omega) (fun h => by rw [List.length_take]; omega)
  · have e : cutP (ns.map PV.int) none (some 2) = (ns.take 2).map PV.int := by rw [cut_map]; exact congrArg _ (cut_to ns 2)
    rw [e] at q
    (repeat ((conv => whnf); first | refine k_i1 ?_ | refine k_i2 ?_ | refine k_i3 ?_ | refine k_i4 ?_ | refine k_i5 ?_ | refine k_i6 ?_ | refine k_i7 ?_ | refine k_b1 ?_ | refine k_b2 ?_ | refine k_b3 ?_ | refine k_b4 ?_ | refine k_b5 ?_ | refine k_b6 ?_ | refine k_b7 ?_ | refine k_s1 ?_ | refine k_s2 ?_ | refine k_s3 ?_ | refine k_s4 ?_ | refine k_s5 ?_ | refine k_s6 ?_ | refine k_s7 ?_ | refine k_t1 ?_ | refine k_t2 ?_ | refine k_t3 ?_ | refine k_t4 ?_ | refine k_t5 ?_ | refine k_t6 ?_ | refine k_t7 ?_ | refine k_l1 ?_ | refine k_l2 ?_ | refine k_l3 ?_ | refine k_l4 ?_ | refine k_l5 ?_ | refine k_l6 ?_ | refine k_l7 ?_ | refine k_n6 ?_ | refine k_n7 ?_ | refine k_n1 ?_ | refine k_n2 ?_ | refine k_n3 ?_ | refine k_n4 ?_ | refine k_n5 ?_ | refine ⟨dok_scal rfl rfl, dok_scal rfl rfl, ?_⟩ | refine ⟨_, rfl, ?_⟩)); (conv => whnf); (try dsimp only [PSt.set, List.set_cons_zero, List.set_cons_succ, wipeP, backP, List.getD_cons_zero, List.getD_cons_succ])
    refine rest [0] (by simp) (fun h => ?_)
    cases ns with
    | nil => simp at h
    | cons x xs => simp at q

theorem cnd_and {a b : Bool} {A B : Prop} (h : cnd (a && b) A B) : cnd a (cnd b A B) B := by
  cases a <;> exact h
/-- the sign of w + q times the root of D -/
def sg (w q D : Int) : Int := if w = 0 ∧ q = 0 then 0 else if 0 ≤ w ∧ 0 ≤ q then 1 else if w ≤ 0 ∧ q ≤ 0 then -1 else if decide (q * q * D < w * w) = decide (0 < w) then 1 else -1

/-- which of a/b, a'/b' lies nearer, as the text reckons -/
def odr (p a b a' b' : Int) : Int := sg ((2 * a - p * b) * (2 * a - p * b) + b * b * (p * p - 4 * -1) - ((2 * a' - p * b') * (2 * a' - p * b') + b' * b' * (p * p - 4 * -1))) (-2 * (2 * a - p * b) * b - -2 * (2 * a' - p * b') * b') (p * p - 4 * -1)

theorem p_next {m : Nat} {p q a b : Int} {d : Nat} {J : Slot → Nat → Prop} {E : EX} (hp : Sm 10 p) (hq : Sm 10 q) (ha : Sm 400 a) (hb : Sm 400 b) (h : J (.val (.tup [.int (p * a - q * b), .int a])) d) : sem T (m + 1) 138 [.tup [.int p, .int q], .int a, .int b] d J E := by
  refine u_next_pair ?_
  (repeat ((conv => whnf); first | refine k_i1 ?_ | refine k_i2 ?_ | refine k_i3 ?_ | refine k_i4 ?_ | refine k_i5 ?_ | refine k_i6 ?_ | refine k_i7 ?_ | refine k_b1 ?_ | refine k_b2 ?_ | refine k_b3 ?_ | refine k_b4 ?_ | refine k_b5 ?_ | refine k_b6 ?_ | refine k_b7 ?_ | refine k_s1 ?_ | refine k_s2 ?_ | refine k_s3 ?_ | refine k_s4 ?_ | refine k_s5 ?_ | refine k_s6 ?_ | refine k_s7 ?_ | refine k_t1 ?_ | refine k_t2 ?_ | refine k_t3 ?_ | refine k_t4 ?_ | refine k_t5 ?_ | refine k_t6 ?_ | refine k_t7 ?_ | refine k_l1 ?_ | refine k_l2 ?_ | refine k_l3 ?_ | refine k_l4 ?_ | refine k_l5 ?_ | refine k_l6 ?_ | refine k_l7 ?_ | refine k_n6 ?_ | refine k_n7 ?_ | refine k_n1 ?_ | refine k_n2 ?_ | refine k_n3 ?_ | refine k_n4 ?_ | refine k_n5 ?_ | refine ⟨dok_scal rfl rfl, dok_scal rfl rfl, ?_⟩ | refine ⟨_, rfl, ?_⟩)); (conv => whnf); (try dsimp only [PSt.set, List.set_cons_zero, List.set_cons_succ, wipeP, backP, List.getD_cons_zero, List.getD_cons_succ])
  refine ⟨hp.ok ha, ?_⟩
  (repeat ((conv => whnf); first | refine k_i1 ?_ | refine k_i2 ?_ | refine k_i3 ?_ | refine k_i4 ?_ | refine k_i5 ?_ | refine k_i6 ?_ | refine k_i7 ?_ | refine k_b1 ?_ | refine k_b2 ?_ | refine k_b3 ?_ | refine k_b4 ?_ | refine k_b5 ?_ | refine k_b6 ?_ | refine k_b7 ?_ | refine k_s1 ?_ | refine k_s2 ?_ | refine k_s3 ?_ | refine k_s4 ?_ | refine k_s5 ?_ | refine k_s6 ?_ | refine k_s7 ?_ | refine k_t1 ?_ | refine k_t2 ?_ | refine k_t3 ?_ | refine k_t4 ?_ | refine k_t5 ?_ | refine k_t6 ?_ | refine k_t7 ?_ | refine k_l1 ?_ | refine k_l2 ?_ | refine k_l3 ?_ | refine k_l4 ?_ | refine k_l5 ?_ | refine k_l6 ?_ | refine k_l7 ?_ | refine k_n6 ?_ | refine k_n7 ?_ | refine k_n1 ?_ | refine k_n2 ?_ | refine k_n3 ?_ | refine k_n4 ?_ | refine k_n5 ?_ | refine ⟨dok_scal rfl rfl, dok_scal rfl rfl, ?_⟩ | refine ⟨_, rfl, ?_⟩)); (conv => whnf); (try dsimp only [PSt.set, List.set_cons_zero, List.set_cons_succ, wipeP, backP, List.getD_cons_zero, List.getD_cons_succ])
  refine ⟨hq.ok hb, ?_⟩
  exact h

/-- the pairs of neighbours -/
def Up (p : Int) : Nat → Int × Int
  | 0 => (1, 0)
  | k + 1 => (p * (Up p k).1 + (Up p k).2, (Up p k).1)
def pr (x : Int × Int) : PV := .tup [.int x.1, .int x.2]
theorem up_nn {p : Int} (hp : 1 ≤ p) : ∀ k, 0 ≤ (Up p k).2 ∧ (Up p k).2 ≤ (Up p k).1 ∧ 1 ≤ (Up p k).1
  | 0 => by simp [Up]
  | k + 1 => by
    obtain ⟨h1, h2, h3⟩ := up_nn hp k
    have := Int.mul_le_mul_of_nonneg_right hp (by omega : 0 ≤ (Up p k).1)
    simp only [Up]
    omega
theorem up_dbl {p : Int} (hp : 1 ≤ p) (k : Nat) : 2 * (Up p k).1 ≤ (Up p (k + 2)).1 := by
  obtain ⟨h1, h2, h3⟩ := up_nn hp k
  have a1 := Int.mul_le_mul_of_nonneg_right hp (by omega : 0 ≤ (Up p k).1)
  obtain ⟨g1, g2, g3⟩ := up_nn hp (k + 1)
  have a2 := Int.mul_le_mul_of_nonneg_right hp (by omega : 0 ≤ (Up p (k + 1)).1)
  have e : (Up p (k + 2)).1 = p * (Up p (k + 1)).1 + (Up p k).1 := rfl
  have e2 : (Up p (k + 1)).1 = p * (Up p k).1 + (Up p k).2 := rfl
  omega
theorem up_big {p : Int} (hp : 1 ≤ p) : ∀ j : Nat, 2 ^ j ≤ (Up p (2 * j)).1
  | 0 => by simp [Up]
  | j + 1 => by
    have := up_big hp j
    have h2 := up_dbl hp (2 * j)
    have e : 2 * (j + 1) = 2 * j + 2 := by omega
    rw [e, Int.pow_succ]
    omega
theorem up_mono {p : Int} (hp : 1 ≤ p) (k : Nat) : (Up p k).1 ≤ (Up p (k + 1)).1 := by
  obtain ⟨h1, h2, h3⟩ := up_nn hp (k + 1)
  exact h2
theorem up_mono2 {p : Int} (hp : 1 ≤ p) (k : Nat) : ∀ l, (Up p k).1 ≤ (Up p (k + l)).1
  | 0 => Int.le_refl _
  | l + 1 => Int.le_trans (up_mono2 hp k l) (up_mono hp (k + l))
theorem up_few {p t : Int} (hp : 1 ≤ p) (ht : t < 2 ^ 340) {k : Nat} (h : (Up p k).1 ≤ t) : k < 680 := by
  rcases Nat.lt_or_ge k 680 with h1 | h1
  · exact h1
  · have a := up_big hp 340
    have b := up_mono2 hp 680 (k - 680)
    rw [show 680 + (k - 680) = k by omega] at b
    have a' : (2 : Int) ^ 340 ≤ (Up p 680).1 := a
    omega

theorem p_led {m : Nat} {p t : Int} {d : Nat} {J : Slot → Nat → Prop} {E : EX} (hp : 1 ≤ p ∧ p ≤ 1000) (ht : t < 2 ^ 340) (ht0 : 0 ≤ t) (h : ∀ L : Nat, L < 681 → (∀ k, k < L → (Up p k).1 ≤ t) → t < (Up p L).1 → J (.val (.lst ((List.range L).map fun k => pr (Up p k)))) d) :
    sem T (m + 2) 141 [.tup [.int p, .int (-1)], .tup [.int 1, .int 0], .int t] d J E := by
  refine u_led_on ?_
  (repeat ((conv => whnf); first | refine k_i1 ?_ | refine k_i2 ?_ | refine k_i3 ?_ | refine k_i4 ?_ | refine k_i5 ?_ | refine k_i6 ?_ | refine k_i7 ?_ | refine k_b1 ?_ | refine k_b2 ?_ | refine k_b3 ?_ | refine k_b4 ?_ | refine k_b5 ?_ | refine k_b6 ?_ | refine k_b7 ?_ | refine k_s1 ?_ | refine k_s2 ?_ | refine k_s3 ?_ | refine k_s4 ?_ | refine k_s5 ?_ | refine k_s6 ?_ | refine k_s7 ?_ | refine k_t1 ?_ | refine k_t2 ?_ | refine k_t3 ?_ | refine k_t4 ?_ | refine k_t5 ?_ | refine k_t6 ?_ | refine k_t7 ?_ | refine k_l1 ?_ | refine k_l2 ?_ | refine k_l3 ?_ | refine k_l4 ?_ | refine k_l5 ?_ | refine k_l6 ?_ | refine k_l7 ?_ | refine k_n6 ?_ | refine k_n7 ?_ | refine k_n1 ?_ | refine k_n2 ?_ | refine k_n3 ?_ | refine k_n4 ?_ | refine k_n5 ?_ | refine ⟨dok_scal rfl rfl, dok_scal rfl rfl, ?_⟩ | refine ⟨_, rfl, ?_⟩)); (conv => whnf); (try dsimp only [PSt.set, List.set_cons_zero, List.set_cons_succ, wipeP, backP, List.getD_cons_zero, List.getD_cons_succ])
  refine whil_ind (fun q => ∃ L : Nat, q = ⟨[.val (.tup [.int p, .int (-1)]), .val (.tup [.int 1, .int 0]), .val (.int t), .own ((List.range L).map fun k => pr (Up p k)), .val (pr (Up p L))], d⟩ ∧ ∀ k, k < L → (Up p k).1 ≤ t) (fun q => match q.get 3 with | .own xs => 1000 - xs.length | _ => 0) ?_ ⟨0, rfl, fun k h => absurd h (Nat.not_lt_zero _)⟩
  rintro q ⟨L, rfl, hL⟩ W hW
  obtain ⟨n1, n2, n3⟩ := up_nn hp.1 L
  (repeat ((conv => whnf); first | refine k_i1 ?_ | refine k_i2 ?_ | refine k_i3 ?_ | refine k_i4 ?_ | refine k_i5 ?_ | refine k_i6 ?_ | refine k_i7 ?_ | refine k_b1 ?_ | refine k_b2 ?_ | refine k_b3 ?_ | refine k_b4 ?_ | refine k_b5 ?_ | refine k_b6 ?_ | refine k_b7 ?_ | refine k_s1 ?_ | refine k_s2 ?_ | refine k_s3 ?_ | refine k_s4 ?_ | refine k_s5 ?_ | refine k_s6 ?_ | refine k_s7 ?_ | refine k_t1 ?_ | refine k_t2 ?_ | refine k_t3 ?_ | refine k_t4 ?_ | refine k_t5 ?_ | refine k_t6 ?_ | refine k_t7 ?_ | refine k_l1 ?_ | refine k_l2 ?_ | refine k_l3 ?_ | refine k_l4 ?_ | refine k_l5 ?_ | refine k_l6 ?_ | refine k_l7 ?_ | refine k_n6 ?_ | refine k_n7 ?_ | refine k_n1 ?_ | refine k_n2 ?_ | refine k_n3 ?_ | refine k_n4 ?_ | refine k_n5 ?_ | refine ⟨dok_scal rfl rfl, dok_scal rfl rfl, ?_⟩ | refine ⟨_, rfl, ?_⟩)); (conv => whnf); (try dsimp only [PSt.set, List.set_cons_zero, List.set_cons_succ, wipeP, backP, List.getD_cons_zero, List.getD_cons_succ])
  refine ⟨[(Up p L).1, (Up p L).2], rfl, by simp, fun mx h1 h2 => ?_⟩
  have e : mx = (Up p L).1 := by
    have a := h2 (Up p L).1 (by simp)
    have b : mx = (Up p L).1 ∨ mx = (Up p L).2 := by simpa using h1
    omega
  subst e
  (conv => whnf); (try dsimp only [PSt.set, List.set_cons_zero, List.set_cons_succ, wipeP, backP, List.getD_cons_zero, List.getD_cons_succ])
  refine cnd_of (fun hle => ?_) fun hgt => ?_
  · have hle : (Up p L).1 ≤ t := of_decide_eq_true hle
    have hfew := up_few hp.1 ht hle
    (repeat ((conv => whnf); first | refine k_i1 ?_ | refine k_i2 ?_ | refine k_i3 ?_ | refine k_i4 ?_ | refine k_i5 ?_ | refine k_i6 ?_ | refine k_i7 ?_ | refine k_b1 ?_ | refine k_b2 ?_ | refine k_b3 ?_ | refine k_b4 ?_ | refine k_b5 ?_ | refine k_b6 ?_ | refine k_b7 ?_ | refine k_s1 ?_ | refine k_s2 ?_ | refine k_s3 ?_ | refine k_s4 ?_ | refine k_s5 ?_ | refine k_s6 ?_ | refine k_s7 ?_ | refine k_t1 ?_ | refine k_t2 ?_ | refine k_t3 ?_ | refine k_t4 ?_ | refine k_t5 ?_ | refine k_t6 ?_ | refine k_t7 ?_ | refine k_l1 ?_ | refine k_l2 ?_ | refine k_l3 ?_ | refine k_l4 ?_ | refine k_l5 ?_ | refine k_l6 ?_ | refine k_l7 ?_ | refine k_n6 ?_ | refine k_n7 ?_ | refine k_n1 ?_ | refine k_n2 ?_ | refine k_n3 ?_ | refine k_n4 ?_ | refine k_n5 ?_ | refine ⟨dok_scal rfl rfl, dok_scal rfl rfl, ?_⟩ | refine ⟨_, rfl, ?_⟩)); (conv => whnf); (try dsimp only [PSt.set, List.set_cons_zero, List.set_cons_succ, wipeP, backP, List.getD_cons_zero, List.getD_cons_succ])
    refine ⟨by simp; omega, ?_⟩
    (repeat ((conv => whnf); first | refine k_i1 ?_ | refine k_i2 ?_ | refine k_i3 ?_ | refine k_i4 ?_ | refine k_i5 ?_ | refine k_i6 ?_ | refine k_i7 ?_ | refine k_b1 ?_ | refine k_b2 ?_ | refine k_b3 ?_ | refine k_b4 ?_ | refine k_b5 ?_ | refine k_b6 ?_ | refine k_b7 ?_ | refine k_s1 ?_ | refine k_s2 ?_ | refine k_s3 ?_ | refine k_s4 ?_ | refine k_s5 ?_ | refine k_s6 ?_ | refine k_s7 ?_ | refine k_t1 ?_ | refine k_t2 ?_ | refine k_t3 ?_ | refine k_t4 ?_ | refine k_t5 ?_ | refine k_t6 ?_ | refine k_t7 ?_ | refine k_l1 ?_ | refine k_l2 ?_ | refine k_l3 ?_ | refine k_l4 ?_ | refine k_l5 ?_ | refine k_l6 ?_ | refine k_l7 ?_ | refine k_n6 ?_ | refine k_n7 ?_ | refine k_n1 ?_ | refine k_n2 ?_ | refine k_n3 ?_ | refine k_n4 ?_ | refine k_n5 ?_ | refine ⟨dok_scal rfl rfl, dok_scal rfl rfl, ?_⟩ | refine ⟨_, rfl, ?_⟩)); (conv => whnf); (try dsimp only [PSt.set, List.set_cons_zero, List.set_cons_succ, wipeP, backP, List.getD_cons_zero, List.getD_cons_succ])
    have s1 : Sm 340 (Up p L).1 := by
      refine Sm.of ?_ (by omega)
      have : (0 : Int) ≤ 2 ^ 340 := Int.le_trans ht0 (by omega)
      omega
    refine p_next (sm10 (by omega) hp.2) (by unfold Sm; decide) (s1.mono (by decide)) ((s1.le n1 n2).mono (by decide)) ?_
    (conv => whnf); (try dsimp only [PSt.set, List.set_cons_zero, List.set_cons_succ, wipeP, backP, List.getD_cons_zero, List.getD_cons_succ])
    refine hW _ ⟨L + 1, ?_, fun k hk => ?_⟩ ?_
    · have e : p * (Up p L).1 - -1 * (Up p L).2 = (Up p (L + 1)).1 := by simp only [Up]; omega
      rw [e, List.range_succ, List.map_append]
      rfl
    · rcases Nat.lt_or_ge k L with h | h
      · exact hL k h
      · rw [show k = L by omega]; exact hle
    · show 1000 - (((List.range L).map fun k => pr (Up p k)) ++ [pr (Up p L)]).length < 1000 - ((List.range L).map fun k => pr (Up p k)).length
      simp only [List.length_append, List.length_map, List.length_range, List.length_singleton]
      omega
  · have hgt : ¬ (Up p L).1 ≤ t := of_decide_eq_false hgt
    (repeat ((conv => whnf); first | refine k_i1 ?_ | refine k_i2 ?_ | refine k_i3 ?_ | refine k_i4 ?_ | refine k_i5 ?_ | refine k_i6 ?_ | refine k_i7 ?_ | refine k_b1 ?_ | refine k_b2 ?_ | refine k_b3 ?_ | refine k_b4 ?_ | refine k_b5 ?_ | refine k_b6 ?_ | refine k_b7 ?_ | refine k_s1 ?_ | refine k_s2 ?_ | refine k_s3 ?_ | refine k_s4 ?_ | refine k_s5 ?_ | refine k_s6 ?_ | refine k_s7 ?_ | refine k_t1 ?_ | refine k_t2 ?_ | refine k_t3 ?_ | refine k_t4 ?_ | refine k_t5 ?_ | refine k_t6 ?_ | refine k_t7 ?_ | refine k_l1 ?_ | refine k_l2 ?_ | refine k_l3 ?_ | refine k_l4 ?_ | refine k_l5 ?_ | refine k_l6 ?_ | refine k_l7 ?_ | refine k_n6 ?_ | refine k_n7 ?_ | refine k_n1 ?_ | refine k_n2 ?_ | refine k_n3 ?_ | refine k_n4 ?_ | refine k_n5 ?_ | refine ⟨dok_scal rfl rfl, dok_scal rfl rfl, ?_⟩ | refine ⟨_, rfl, ?_⟩)); (conv => whnf); (try dsimp only [PSt.set, List.set_cons_zero, List.set_cons_succ, wipeP, backP, List.getD_cons_zero, List.getD_cons_succ])
    refine h L ?_ hL (by omega)
    rcases L with _ | L
    · omega
    · have := up_few hp.1 ht (hL L (by omega))
      omega

theorem p_neigh {m : Nat} {p t : Int} {d : Nat} {J : Slot → Nat → Prop} {E : EX} (hp : 1 ≤ p ∧ p ≤ 1000) (ht0 : 0 ≤ t) (ht : t ≤ 10000000000000000000000000000000000000000000000000000000000000000000000000000000000000000000000000000) (h : ∀ L : Nat, L < 681 → (∀ k, k < L → (Up p k).1 ≤ t) → t < (Up p L).1 → J (.val (.lst ((List.range L).map fun k => pr (Up p k)))) d) :
    sem T (m + 5) 147 [.tup [.int p, .int (-1)], .int t] d J E := by
  refine u_neighbours_to ?_
  (repeat ((conv => whnf); first | refine k_i1 ?_ | refine k_i2 ?_ | refine k_i3 ?_ | refine k_i4 ?_ | refine k_i5 ?_ | refine k_i6 ?_ | refine k_i7 ?_ | refine k_b1 ?_ | refine k_b2 ?_ | refine k_b3 ?_ | refine k_b4 ?_ | refine k_b5 ?_ | refine k_b6 ?_ | refine k_b7 ?_ | refine k_s1 ?_ | refine k_s2 ?_ | refine k_s3 ?_ | refine k_s4 ?_ | refine k_s5 ?_ | refine k_s6 ?_ | refine k_s7 ?_ | refine k_t1 ?_ | refine k_t2 ?_ | refine k_t3 ?_ | refine k_t4 ?_ | refine k_t5 ?_ | refine k_t6 ?_ | refine k_t7 ?_ | refine k_l1 ?_ | refine k_l2 ?_ | refine k_l3 ?_ | refine k_l4 ?_ | refine k_l5 ?_ | refine k_l6 ?_ | refine k_l7 ?_ | refine k_n6 ?_ | refine k_n7 ?_ | refine k_n1 ?_ | refine k_n2 ?_ | refine k_n3 ?_ | refine k_n4 ?_ | refine k_n5 ?_ | refine ⟨dok_scal rfl rfl, dok_scal rfl rfl, ?_⟩ | refine ⟨_, rfl, ?_⟩)); (conv => whnf); (try dsimp only [PSt.set, List.set_cons_zero, List.set_cons_succ, wipeP, backP, List.getD_cons_zero, List.getD_cons_succ])
  refine p_sure_rule (by omega) (by decide) (by decide) ?_
  (repeat ((conv => whnf); first | refine k_i1 ?_ | refine k_i2 ?_ | refine k_i3 ?_ | refine k_i4 ?_ | refine k_i5 ?_ | refine k_i6 ?_ | refine k_i7 ?_ | refine k_b1 ?_ | refine k_b2 ?_ | refine k_b3 ?_ | refine k_b4 ?_ | refine k_b5 ?_ | refine k_b6 ?_ | refine k_b7 ?_ | refine k_s1 ?_ | refine k_s2 ?_ | refine k_s3 ?_ | refine k_s4 ?_ | refine k_s5 ?_ | refine k_s6 ?_ | refine k_s7 ?_ | refine k_t1 ?_ | refine k_t2 ?_ | refine k_t3 ?_ | refine k_t4 ?_ | refine k_t5 ?_ | refine k_t6 ?_ | refine k_t7 ?_ | refine k_l1 ?_ | refine k_l2 ?_ | refine k_l3 ?_ | refine k_l4 ?_ | refine k_l5 ?_ | refine k_l6 ?_ | refine k_l7 ?_ | refine k_n6 ?_ | refine k_n7 ?_ | refine k_n1 ?_ | refine k_n2 ?_ | refine k_n3 ?_ | refine k_n4 ?_ | refine k_n5 ?_ | refine ⟨dok_scal rfl rfl, dok_scal rfl rfl, ?_⟩ | refine ⟨_, rfl, ?_⟩)); (conv => whnf); (try dsimp only [PSt.set, List.set_cons_zero, List.set_cons_succ, wipeP, backP, List.getD_cons_zero, List.getD_cons_succ])
  refine p_sure_within ht0 ht ?_
  (repeat ((conv => whnf); first | refine k_i1 ?_ | refine k_i2 ?_ | refine k_i3 ?_ | refine k_i4 ?_ | refine k_i5 ?_ | refine k_i6 ?_ | refine k_i7 ?_ | refine k_b1 ?_ | refine k_b2 ?_ | refine k_b3 ?_ | refine k_b4 ?_ | refine k_b5 ?_ | refine k_b6 ?_ | refine k_b7 ?_ | refine k_s1 ?_ | refine k_s2 ?_ | refine k_s3 ?_ | refine k_s4 ?_ | refine k_s5 ?_ | refine k_s6 ?_ | refine k_s7 ?_ | refine k_t1 ?_ | refine k_t2 ?_ | refine k_t3 ?_ | refine k_t4 ?_ | refine k_t5 ?_ | refine k_t6 ?_ | refine k_t7 ?_ | refine k_l1 ?_ | refine k_l2 ?_ | refine k_l3 ?_ | refine k_l4 ?_ | refine k_l5 ?_ | refine k_l6 ?_ | refine k_l7 ?_ | refine k_n6 ?_ | refine k_n7 ?_ | refine k_n1 ?_ | refine k_n2 ?_ | refine k_n3 ?_ | refine k_n4 ?_ | refine k_n5 ?_ | refine ⟨dok_scal rfl rfl, dok_scal rfl rfl, ?_⟩ | refine ⟨_, rfl, ?_⟩)); (conv => whnf); (try dsimp only [PSt.set, List.set_cons_zero, List.set_cons_succ, wipeP, backP, List.getD_cons_zero, List.getD_cons_succ])
  refine p_sure_unit hp.1 ?_
  (repeat ((conv => whnf); first | refine k_i1 ?_ | refine k_i2 ?_ | refine k_i3 ?_ | refine k_i4 ?_ | refine k_i5 ?_ | refine k_i6 ?_ | refine k_i7 ?_ | refine k_b1 ?_ | refine k_b2 ?_ | refine k_b3 ?_ | refine k_b4 ?_ | refine k_b5 ?_ | refine k_b6 ?_ | refine k_b7 ?_ | refine k_s1 ?_ | refine k_s2 ?_ | refine k_s3 ?_ | refine k_s4 ?_ | refine k_s5 ?_ | refine k_s6 ?_ | refine k_s7 ?_ | refine k_t1 ?_ | refine k_t2 ?_ | refine k_t3 ?_ | refine k_t4 ?_ | refine k_t5 ?_ | refine k_t6 ?_ | refine k_t7 ?_ | refine k_l1 ?_ | refine k_l2 ?_ | refine k_l3 ?_ | refine k_l4 ?_ | refine k_l5 ?_ | refine k_l6 ?_ | refine k_l7 ?_ | refine k_n6 ?_ | refine k_n7 ?_ | refine k_n1 ?_ | refine k_n2 ?_ | refine k_n3 ?_ | refine k_n4 ?_ | refine k_n5 ?_ | refine ⟨dok_scal rfl rfl, dok_scal rfl rfl, ?_⟩ | refine ⟨_, rfl, ?_⟩)); (conv => whnf); (try dsimp only [PSt.set, List.set_cons_zero, List.set_cons_succ, wipeP, backP, List.getD_cons_zero, List.getD_cons_succ])
  refine p_led hp ?_ ht0 fun L h1 h2 h3 => ?_
  · have e : (2 : Int) ^ 340 = 2239744742177804210557442280568444278121645497234649534899989100963791871180160945380877493271607115776 := by decide +kernel
    omega
  · exact h L h1 h2 h3

theorem rowK_mem {p q : Int} {n : Nat} {x : PV} (h : x ∈ rowK p q n) : ∃ k, k < n ∧ x = prV (pk p q k) := by
  unfold rowK at h
  obtain ⟨k, hk, rfl⟩ := List.mem_map.mp h
  exact ⟨k, List.mem_range.mp hk, rfl⟩
theorem rowK_zero {p q : Int} : rowK p q 0 = [] := rfl
theorem rowK_eq {p q : Int} {n : Nat} : ((List.range n).map fun k => prV (pk p q k)) = rowK p q n := rfl
theorem pyEq_rowK {p q : Int} {n : Nat} : pyEq (.lst (rowK p q n)) (.lst (rowK p q n)) = true := by
  rw [rowK_prs]
  exact pyEqs_prs _
theorem rowK_sorted {p q : Int} {n : Nat} {K : Slot → Prop} (hu : Un p q) (h : K (.own (rowK p q n))) : blt1P .sorted (.lst (rowK p q n)) K := by
  refine .inr ⟨_, rowK_prs, fun ps perm pw => ?_⟩
  have e := pk_sort_is hu perm pw
  subst e
  rw [← rowK_prs]
  exact h
theorem rowK_sorted' {p q : Int} {n : Nat} {K : List PV → Prop} (hu : Un p q) (h : K (rowK p q n)) : (∃ ns : List Int, rowK p q n = ns.map PV.int ∧ ∀ ns' : List Int, ns'.Perm ns → ns'.Pairwise (· ≤ ·) → K (ns'.map PV.int)) ∨
      ∃ ps : List (Int × Int), rowK p q n = ps.map prV ∧ ∀ ps' : List (Int × Int), ps'.Perm ps → ps'.Pairwise lexLe → K (ps'.map prV) := by
  refine .inr ⟨_, rowK_prs, fun ps perm pw => ?_⟩
  have e := pk_sort_is hu perm pw
  subst e
  rw [← rowK_prs]
  exact h
def idx (n : Nat) : List PV := ((List.range n).map fun i : Nat => (i : Int)).map PV.int
theorem idx_app {n : Nat} : idx n ++ [.int (n : Int)] = idx (n + 1) := by unfold idx; rw [List.range_succ, List.map_append, List.map_append]; rfl
theorem idx_len {n : Nat} : (idx n).length = n := by unfold idx; simp
theorem deep_idx {n : Nat} : deep (.lst (idx n)) ≤ 1 := by
  show deeps (idx n) + 1 ≤ 1
  unfold idx
  rw [deeps_ints]
  decide
theorem gdv_idx {n : Nat} (h : n ≤ 100000) : gdv (.lst (idx n)) = true := by
  show (decide ((idx n).length ≤ 100000) && gdvs (idx n)) = true
  rw [idx_len, decide_eq_true h]
  unfold idx
  rw [gdvs_ints]
  rfl
theorem idx_mem {n : Nat} {v : PV} (h : v ∈ idx n) : ∃ k : Nat, k < n ∧ v = .int k := by
  unfold idx at h
  simp only [List.map_map, List.mem_map, List.mem_range] at h
  obtain ⟨k, hk, rfl⟩ := h
  exact ⟨k, hk, rfl⟩
theorem cut_rowK {p q : Int} {n k : Nat} (h : k ≤ n) : cutP (rowK p q n) none (some (k : Int)) = rowK p q k := by
  rw [cut_to0]
  unfold rowK
  rw [← List.map_take, List.take_range, Nat.min_eq_left h]
theorem rowK_sub {p q : Int} {n k : Nat} (h : k < n) : atI (rowK p q n) (k : Int) = some (prV (pk p q k)) := at_nat (rowK_get h)
theorem rowK_any {p q a b : Int} {n k : Nat} (h : k < n) (h1 : a = U p q (k + 1)) (h2 : b = U p q k) : ((rowK p q n).any fun y => pyEq y (.tup [.int a, .int b])) = true := by
  refine List.any_eq_true.mpr ⟨prV (pk p q k), List.mem_of_getElem? (rowK_get h), ?_⟩
  show pyEq (.tup [.int (U p q (k + 1)), .int (U p q k)]) _ = true
  rw [pyEq_pair]
  exact decide_eq_true ⟨h1.symm, h2.symm⟩
theorem rowK_none {p q a b : Int} {n : Nat} (h : ∀ k, k < n → ¬ (a = U p q (k + 1) ∧ b = U p q k)) : ((rowK p q n).any fun y => pyEq y (.tup [.int a, .int b])) = false := by
  refine List.any_eq_false.mpr fun y hy => ?_
  unfold rowK at hy
  obtain ⟨k, hk, rfl⟩ := List.mem_map.mp hy
  show ¬ pyEq (.tup [.int (U p q (k + 1)), .int (U p q k)]) _ = true
  rw [pyEq_pair]
  intro z
  have z := of_decide_eq_true z
  exact h k (List.mem_range.mp hk) ⟨z.1.symm, z.2.symm⟩
/-- the place of a pair in a row -/
theorem rowK_index {p q a b : Int} {n k : Nat} {K : Nat → Prop} (hu : Un p q) (h : k < n) (h1 : a = U p q (k + 1)) (h2 : b = U p q k) (hK : K k) : dataOk (prV (a, b)) ∧ dataOk (.lst (rowK p q n)) ∧ ∃ j : Nat, ∃ z, (rowK p q n)[j]? = some z ∧ pyEq z (prV (a, b)) = true ∧ (∀ (m : Nat) z', m < j → (rowK p q n)[m]? = some z' → pyEq z' (prV (a, b)) = false) ∧ K j := by
  refine ⟨dok_pair, dok_rowK, k, _, rowK_get h, ?_, fun m z' hm hz => ?_, hK⟩
  · show pyEq (.tup [.int (U p q (k + 1)), .int (U p q k)]) _ = true
    show pyEq _ (.tup [.int a, .int b]) = true
    rw [pyEq_pair]
    exact decide_eq_true ⟨h1.symm, h2.symm⟩
  · rw [rowK_get (by omega)] at hz
    cases hz
    show pyEq (.tup [.int (U p q (m + 1)), .int (U p q m)]) (.tup [.int a, .int b]) = false
    rw [pyEq_pair]
    refine decide_eq_false fun z => ?_
    have := un_inj hu (z.1.trans h1) (z.2.trans h2)
    omega
/-- how far the search of pairs has come -/
def Upto (p q a b : Int) (L : Nat) : Prop := (∀ k, k < L → U p q (k + 1) < a ∨ (U p q (k + 1) = a ∧ U p q k < b)) ∧ ¬ (U p q (L + 1) < a ∨ (U p q (L + 1) = a ∧ U p q L < b))
theorem upto_hit {p q a b : Int} {L : Nat} (hu : Un p q) (h : Upto p q a b L) {k : Nat} (h1 : a = U p q (k + 1)) (h2 : b = U p q k) : L = k := by
  rcases Nat.lt_trichotomy L k with hl | hl | hl
  · have := pk_lex hu hl
    have : U p q (L + 1) < U p q (k + 1) ∨ (U p q (L + 1) = U p q (k + 1) ∧ U p q L < U p q k) := this
    rw [← h1, ← h2] at this
    exact absurd this h.2
  · exact hl
  · have := h.1 k hl
    omega
theorem upto_next {p q a b : Int} {L : Nat} (hu : Un p q) (h : Upto p q a b L) (h1 : a = U p q (L + 1)) (h2 : b = U p q L) : Upto p q a (b + 1) (L + 1) := by
  refine ⟨fun k hk => ?_, ?_⟩
  · rcases Nat.lt_or_ge k L with hl | hl
    · have := h.1 k hl
      omega
    · have : k = L := by omega
      subst this
      omega
  · have := pk_lex hu (show L < L + 1 by omega)
    have : U p q (L + 1) < U p q (L + 1 + 1) ∨ (U p q (L + 1) = U p q (L + 1 + 1) ∧ U p q L < U p q (L + 1)) := this
    omega
theorem upto_stay {p q a b : Int} {L : Nat} (h : Upto p q a b L) (hn : ¬ (a = U p q (L + 1) ∧ b = U p q L)) : Upto p q a (b + 1) L := by
  refine ⟨fun k hk => ?_, ?_⟩
  · have := h.1 k hk
    omega
  · have := h.2
    omega
theorem upto_turn {p q a : Int} {L : Nat} (hu : Un p q) (h : Upto p q a (a + 1) L) : Upto p q (a + 1) 0 L := by
  refine ⟨fun k hk => ?_, ?_⟩
  · have := h.1 k hk
    omega
  · have := h.2
    have := un_mono hu L
    omega
theorem un_gap {p q : Int} (hu : Un p q) {k : Nat} (h1 : U p q (k + 1) ≤ Big) : U p q k ≤ Big - 2 := by
  have hB : (5000 : Int) ≤ Big := by decide
  rcases k with _ | k
  · simp [U]; omega
  · rcases k with _ | k
    · simp [U]; omega
    · have e1 := U_ss p q k
      have e2 := U_ss p q (k + 1)
      obtain ⟨a1, a2, a3⟩ := un_mono hu k
      obtain ⟨b1, b2, b3⟩ := un_mono hu (k + 1)
      rcases hu with ⟨rfl, c1, c2⟩ | ⟨rfl, c1, c2⟩
      · have g1 := Int.mul_le_mul_of_nonneg_right c1 b1
        have g2 := Int.mul_le_mul_of_nonneg_right c1 (Int.le_trans b1 b2)
        have g3 := Int.mul_le_mul_of_nonneg_right c2 b1
        rw [show k + 1 + 1 + 1 = k + 1 + 2 from rfl] at *
        rw [show k + 1 + 1 = k + 2 from rfl] at *
        omega
      · have g1 := Int.mul_le_mul_of_nonneg_right c1 b1
        have g2 := Int.mul_le_mul_of_nonneg_right c1 (Int.le_trans b1 b2)
        have g3 := Int.mul_le_mul_of_nonneg_right c2 b1
        rw [show k + 1 + 1 + 1 = k + 1 + 2 from rfl] at *
        rw [show k + 1 + 1 = k + 2 from rfl] at *
        omega
def lowC (t : Int) (x : PV) : Bool := match x with
  | .tup [.int a, .int _] => decide (a < t)
  | _ => false
def fitC (p q : Int) (x : PV) : Bool := match x with
  | .int k => decide (U p q (k.toNat + 1) ≤ Big)
  | _ => false
theorem fits_idx {p q : Int} {B : Nat} (hu : Un p q) (hB500 : B ≤ 500) (hB1 : ∀ k, k < B → U p q (k + 1) ≤ Big) (hB2 : Big < U p q (B + 1)) : (rngL 0 ((500 : Nat) : Int)).filter (fitC p q) = idx B := by
  have e1 : rngL 0 ((500 : Nat) : Int) = (List.range 500).map fun k : Nat => .int (k : Int) := by
    unfold rngL
    refine List.map_congr_left fun k hk => ?_
    show PV.int (0 + (k : Int)) = _
    rw [Int.zero_add]
  have e2 : (fitC p q ∘ fun k : Nat => .int (k : Int)) = fun k => decide (U p q (k + 1) ≤ Big) := rfl
  rw [e1, List.filter_map, e2, filter_prefix (L := B) (fun k hk => decide_eq_true (hB1 k hk)) (fun k hk => decide_eq_false (by have := cut_ge hu hB2 hk; omega)) 500 hB500]
  unfold idx
  rw [List.map_map]
  rfl
def mostC (t : Int) (x : PV) : Bool := match x with
  | .tup [.int a, .int _] => decide (a ≤ t)
  | _ => false
set_option maxHeartbeats 300000 in
theorem p_right {m d : Nat} {J : Slot → Nat → Prop} {E : EX} (hd : 100 ≤ d) (h : ∀ d', d' ≤ d → d ≤ d' + 100 → J (.val (.bl true)) d') : sem T (m + 20) 153 [.cell] d J E := by
  have eB : (10 : Int) ^ Int.toNat 50 * (10 : Int) ^ Int.toNat 50 = Big := by decide +kernel
  have bl := big_lt
  have mB : MulOk ((10 : Int) ^ Int.toNat 50) ((10 : Int) ^ Int.toNat 50) := Sm.ok (a := 200) (b := 200) (by unfold Sm; decide +kernel) (by unfold Sm; decide +kernel)
  refine u__law_right ?_
  (repeat ((conv => whnf); first | refine k_i1 ?_ | refine k_i2 ?_ | refine k_i3 ?_ | refine k_i4 ?_ | refine k_i5 ?_ | refine k_i6 ?_ | refine k_i7 ?_ | refine k_b1 ?_ | refine k_b2 ?_ | refine k_b3 ?_ | refine k_b4 ?_ | refine k_b5 ?_ | refine k_b6 ?_ | refine k_b7 ?_ | refine k_s1 ?_ | refine k_s2 ?_ | refine k_s3 ?_ | refine k_s4 ?_ | refine k_s5 ?_ | refine k_s6 ?_ | refine k_s7 ?_ | refine k_t1 ?_ | refine k_t2 ?_ | refine k_t3 ?_ | refine k_t4 ?_ | refine k_t5 ?_ | refine k_t6 ?_ | refine k_t7 ?_ | refine k_l1 ?_ | refine k_l2 ?_ | refine k_l3 ?_ | refine k_l4 ?_ | refine k_l5 ?_ | refine k_l6 ?_ | refine k_l7 ?_ | refine k_n6 ?_ | refine k_n7 ?_ | refine k_n1 ?_ | refine k_n2 ?_ | refine k_n3 ?_ | refine k_n4 ?_ | refine k_n5 ?_ | refine ⟨dok_scal rfl rfl, dok_scal rfl rfl, ?_⟩ | refine ⟨_, rfl, ?_⟩)); (conv => whnf); (try dsimp only [PSt.set, List.set_cons_zero, List.set_cons_succ, wipeP, backP, List.getD_cons_zero, List.getD_cons_succ])
  refine p_law_of (by omega) (by simp) (by simp) fun y hy => ?_
  obtain ⟨M, hM1, hM2, rfl⟩ : ∃ M : Int, 1 ≤ M ∧ M ≤ 990 ∧ y = .int M := by
    simp only [List.mem_cons, List.not_mem_nil, or_false] at hy
    rcases hy with rfl | rfl | rfl <;> exact ⟨_, by decide, by decide, rfl⟩
  (repeat ((conv => whnf); first | refine k_i1 ?_ | refine k_i2 ?_ | refine k_i3 ?_ | refine k_i4 ?_ | refine k_i5 ?_ | refine k_i6 ?_ | refine k_i7 ?_ | refine k_b1 ?_ | refine k_b2 ?_ | refine k_b3 ?_ | refine k_b4 ?_ | refine k_b5 ?_ | refine k_b6 ?_ | refine k_b7 ?_ | refine k_s1 ?_ | refine k_s2 ?_ | refine k_s3 ?_ | refine k_s4 ?_ | refine k_s5 ?_ | refine k_s6 ?_ | refine k_s7 ?_ | refine k_t1 ?_ | refine k_t2 ?_ | refine k_t3 ?_ | refine k_t4 ?_ | refine k_t5 ?_ | refine k_t6 ?_ | refine k_t7 ?_ | refine k_l1 ?_ | refine k_l2 ?_ | refine k_l3 ?_ | refine k_l4 ?_ | refine k_l5 ?_ | refine k_l6 ?_ | refine k_l7 ?_ | refine k_n6 ?_ | refine k_n7 ?_ | refine k_n1 ?_ | refine k_n2 ?_ | refine k_n3 ?_ | refine k_n4 ?_ | refine k_n5 ?_ | refine ⟨dok_scal rfl rfl, dok_scal rfl rfl, ?_⟩ | refine ⟨_, rfl, ?_⟩)); (conv => whnf); (try dsimp only [PSt.set, List.set_cons_zero, List.set_cons_succ, wipeP, backP, List.getD_cons_zero, List.getD_cons_succ])
  refine p_law_unit (by omega) hM1 hM2 fun p q hu => ?_
  have ok := hu.ok
  have sp := sm_rule ok.1
  have sq := sm_rule ok.2.1
  (repeat ((conv => whnf); first | refine k_i1 ?_ | refine k_i2 ?_ | refine k_i3 ?_ | refine k_i4 ?_ | refine k_i5 ?_ | refine k_i6 ?_ | refine k_i7 ?_ | refine k_b1 ?_ | refine k_b2 ?_ | refine k_b3 ?_ | refine k_b4 ?_ | refine k_b5 ?_ | refine k_b6 ?_ | refine k_b7 ?_ | refine k_s1 ?_ | refine k_s2 ?_ | refine k_s3 ?_ | refine k_s4 ?_ | refine k_s5 ?_ | refine k_s6 ?_ | refine k_s7 ?_ | refine k_t1 ?_ | refine k_t2 ?_ | refine k_t3 ?_ | refine k_t4 ?_ | refine k_t5 ?_ | refine k_t6 ?_ | refine k_t7 ?_ | refine k_l1 ?_ | refine k_l2 ?_ | refine k_l3 ?_ | refine k_l4 ?_ | refine k_l5 ?_ | refine k_l6 ?_ | refine k_l7 ?_ | refine k_n6 ?_ | refine k_n7 ?_ | refine k_n1 ?_ | refine k_n2 ?_ | refine k_n3 ?_ | refine k_n4 ?_ | refine k_n5 ?_ | refine ⟨dok_scal rfl rfl, dok_scal rfl rfl, ?_⟩ | refine ⟨_, rfl, ?_⟩)); (conv => whnf); (try dsimp only [PSt.set, List.set_cons_zero, List.set_cons_succ, wipeP, backP, List.getD_cons_zero, List.getD_cons_succ])
  refine p_law_terms_u (k := 520) sp sq (by decide) ?_
  refine cutS (fun p' => ∃ gs, p' = ⟨[.val .cell, .val (.tup [.int p, .int q]), .val (.lst (rowU p q 520)), .val (.tup gs), .un, .un, .un, .un, .un, .un, .un, .un, .un, .un, .un, .un, .un, .un, .un, .un, .un], d - 1 - 2⟩ ∧ dataOk (.tup gs) ∧ ∀ e, (gs.any fun y => pyEq y (.int e)) = decide (e = 1 ∨ (e = -1 ∧ q = -1))) (fun D' hD => ?_) ?_
  · (repeat ((conv => whnf); first | refine k_i1 ?_ | refine k_i2 ?_ | refine k_i3 ?_ | refine k_i4 ?_ | refine k_i5 ?_ | refine k_i6 ?_ | refine k_i7 ?_ | refine k_b1 ?_ | refine k_b2 ?_ | refine k_b3 ?_ | refine k_b4 ?_ | refine k_b5 ?_ | refine k_b6 ?_ | refine k_b7 ?_ | refine k_s1 ?_ | refine k_s2 ?_ | refine k_s3 ?_ | refine k_s4 ?_ | refine k_s5 ?_ | refine k_s6 ?_ | refine k_s7 ?_ | refine k_t1 ?_ | refine k_t2 ?_ | refine k_t3 ?_ | refine k_t4 ?_ | refine k_t5 ?_ | refine k_t6 ?_ | refine k_t7 ?_ | refine k_l1 ?_ | refine k_l2 ?_ | refine k_l3 ?_ | refine k_l4 ?_ | refine k_l5 ?_ | refine k_l6 ?_ | refine k_l7 ?_ | refine k_n6 ?_ | refine k_n7 ?_ | refine k_n1 ?_ | refine k_n2 ?_ | refine k_n3 ?_ | refine k_n4 ?_ | refine k_n5 ?_ | refine ⟨dok_scal rfl rfl, dok_scal rfl rfl, ?_⟩ | refine ⟨_, rfl, ?_⟩)); (conv => whnf); (try dsimp only [PSt.set, List.set_cons_zero, List.set_cons_succ, wipeP, backP, List.getD_cons_zero, List.getD_cons_succ])
    refine cnd_of (fun c => ?_) fun c => ?_
    · have c : q = -1 := of_decide_eq_true c
      (repeat ((conv => whnf); first | refine k_i1 ?_ | refine k_i2 ?_ | refine k_i3 ?_ | refine k_i4 ?_ | refine k_i5 ?_ | refine k_i6 ?_ | refine k_i7 ?_ | refine k_b1 ?_ | refine k_b2 ?_ | refine k_b3 ?_ | refine k_b4 ?_ | refine k_b5 ?_ | refine k_b6 ?_ | refine k_b7 ?_ | refine k_s1 ?_ | refine k_s2 ?_ | refine k_s3 ?_ | refine k_s4 ?_ | refine k_s5 ?_ | refine k_s6 ?_ | refine k_s7 ?_ | refine k_t1 ?_ | refine k_t2 ?_ | refine k_t3 ?_ | refine k_t4 ?_ | refine k_t5 ?_ | refine k_t6 ?_ | refine k_t7 ?_ | refine k_l1 ?_ | refine k_l2 ?_ | refine k_l3 ?_ | refine k_l4 ?_ | refine k_l5 ?_ | refine k_l6 ?_ | refine k_l7 ?_ | refine k_n6 ?_ | refine k_n7 ?_ | refine k_n1 ?_ | refine k_n2 ?_ | refine k_n3 ?_ | refine k_n4 ?_ | refine k_n5 ?_ | refine ⟨dok_scal rfl rfl, dok_scal rfl rfl, ?_⟩ | refine ⟨_, rfl, ?_⟩)); (conv => whnf); (try dsimp only [PSt.set, List.set_cons_zero, List.set_cons_succ, wipeP, backP, List.getD_cons_zero, List.getD_cons_succ])
      refine hD _ ⟨_, rfl, ⟨rfl, by decide⟩, fun e => ?_⟩
      show ((1 == e) || ((-1 == e) || false)) = _
      rw [Bool.or_false, Bool.eq_iff_iff]
      simp only [Bool.or_eq_true, beq_iff_eq, decide_eq_true_eq]
      omega
    · have c : ¬ q = -1 := of_decide_eq_false c
      (repeat ((conv => whnf); first | refine k_i1 ?_ | refine k_i2 ?_ | refine k_i3 ?_ | refine k_i4 ?_ | refine k_i5 ?_ | refine k_i6 ?_ | refine k_i7 ?_ | refine k_b1 ?_ | refine k_b2 ?_ | refine k_b3 ?_ | refine k_b4 ?_ | refine k_b5 ?_ | refine k_b6 ?_ | refine k_b7 ?_ | refine k_s1 ?_ | refine k_s2 ?_ | refine k_s3 ?_ | refine k_s4 ?_ | refine k_s5 ?_ | refine k_s6 ?_ | refine k_s7 ?_ | refine k_t1 ?_ | refine k_t2 ?_ | refine k_t3 ?_ | refine k_t4 ?_ | refine k_t5 ?_ | refine k_t6 ?_ | refine k_t7 ?_ | refine k_l1 ?_ | refine k_l2 ?_ | refine k_l3 ?_ | refine k_l4 ?_ | refine k_l5 ?_ | refine k_l6 ?_ | refine k_l7 ?_ | refine k_n6 ?_ | refine k_n7 ?_ | refine k_n1 ?_ | refine k_n2 ?_ | refine k_n3 ?_ | refine k_n4 ?_ | refine k_n5 ?_ | refine ⟨dok_scal rfl rfl, dok_scal rfl rfl, ?_⟩ | refine ⟨_, rfl, ?_⟩)); (conv => whnf); (try dsimp only [PSt.set, List.set_cons_zero, List.set_cons_succ, wipeP, backP, List.getD_cons_zero, List.getD_cons_succ])
      refine hD _ ⟨_, rfl, ⟨rfl, by decide⟩, fun e => ?_⟩
      show ((1 == e) || false) = _
      rw [Bool.or_false, Bool.eq_iff_iff]
      simp only [beq_iff_eq, decide_eq_true_eq]
      omega
  rintro _ ⟨gs, rfl, dgs, hgs⟩
  (repeat ((conv => whnf); first | refine k_i1 ?_ | refine k_i2 ?_ | refine k_i3 ?_ | refine k_i4 ?_ | refine k_i5 ?_ | refine k_i6 ?_ | refine k_i7 ?_ | refine k_b1 ?_ | refine k_b2 ?_ | refine k_b3 ?_ | refine k_b4 ?_ | refine k_b5 ?_ | refine k_b6 ?_ | refine k_b7 ?_ | refine k_s1 ?_ | refine k_s2 ?_ | refine k_s3 ?_ | refine k_s4 ?_ | refine k_s5 ?_ | refine k_s6 ?_ | refine k_s7 ?_ | refine k_t1 ?_ | refine k_t2 ?_ | refine k_t3 ?_ | refine k_t4 ?_ | refine k_t5 ?_ | refine k_t6 ?_ | refine k_t7 ?_ | refine k_l1 ?_ | refine k_l2 ?_ | refine k_l3 ?_ | refine k_l4 ?_ | refine k_l5 ?_ | refine k_l6 ?_ | refine k_l7 ?_ | refine k_n6 ?_ | refine k_n7 ?_ | refine k_n1 ?_ | refine k_n2 ?_ | refine k_n3 ?_ | refine k_n4 ?_ | refine k_n5 ?_ | refine ⟨dok_scal rfl rfl, dok_scal rfl rfl, ?_⟩ | refine ⟨_, rfl, ?_⟩)); (conv => whnf); (try dsimp only [PSt.set, List.set_cons_zero, List.set_cons_succ, wipeP, backP, List.getD_cons_zero, List.getD_cons_succ])
  refine t_take (by omega) (by decide) (by decide) fun r r1 r2 => ?_
  obtain ⟨top, ht1, ht2, htop⟩ : ∃ top : Nat, 8 ≤ top ∧ top ≤ 37 ∧ r = (top : Int) - 8 := ⟨(8 + r).toNat, by omega, by omega, by omega⟩
  subst htop
  clear r1 r2
  have qpow : ∀ k : Nat, q ^ k = 1 ∨ (q ^ k = -1 ∧ q = -1) := fun k => by
    induction k with
    | zero => simp
    | succ k ih =>
      rw [Int.pow_succ]
      rcases hu with ⟨rfl, _⟩ | ⟨rfl, _⟩
      · rcases ih with ih | ⟨ih, _⟩ <;> rw [ih] <;> simp
      · rcases ih with ih | ⟨_, ih⟩
        · rw [ih]; simp
        · exact absurd ih (by decide)
  have few : ∀ L : Nat, (∀ k, k < L → U p q (k + 1) < (top : Int)) → L ≤ 12 := fun L hL => by
    rcases L with _ | L
    · omega
    · have := un_few hu (j := 6) (t := 37) (by decide) (show U p q (L + 1) ≤ 37 by have := hL L (by omega); omega)
      omega
  refine cutS (fun p' => ∃ L a6 a7, p' = ⟨[.val .cell, .val (.tup [.int p, .int q]), .val (.lst (rowU p q 520)), .val (.tup gs), .val (.int top), .own (rowK p q L), a6, a7, .un, .un, .un, .un, .un, .un, .un, .un, .un, .un, .un, .un, .un], d - 1 - 2 - 1⟩ ∧ Upto p q top 0 L) (fun D' hD => ?_) ?_
  · (repeat ((conv => whnf); first | refine k_i1 ?_ | refine k_i2 ?_ | refine k_i3 ?_ | refine k_i4 ?_ | refine k_i5 ?_ | refine k_i6 ?_ | refine k_i7 ?_ | refine k_b1 ?_ | refine k_b2 ?_ | refine k_b3 ?_ | refine k_b4 ?_ | refine k_b5 ?_ | refine k_b6 ?_ | refine k_b7 ?_ | refine k_s1 ?_ | refine k_s2 ?_ | refine k_s3 ?_ | refine k_s4 ?_ | refine k_s5 ?_ | refine k_s6 ?_ | refine k_s7 ?_ | refine k_t1 ?_ | refine k_t2 ?_ | refine k_t3 ?_ | refine k_t4 ?_ | refine k_t5 ?_ | refine k_t6 ?_ | refine k_t7 ?_ | refine k_l1 ?_ | refine k_l2 ?_ | refine k_l3 ?_ | refine k_l4 ?_ | refine k_l5 ?_ | refine k_l6 ?_ | refine k_l7 ?_ | refine k_n6 ?_ | refine k_n7 ?_ | refine k_n1 ?_ | refine k_n2 ?_ | refine k_n3 ?_ | refine k_n4 ?_ | refine k_n5 ?_ | refine ⟨dok_scal rfl rfl, dok_scal rfl rfl, ?_⟩ | refine ⟨_, rfl, ?_⟩)); (conv => whnf); (try dsimp only [PSt.set, List.set_cons_zero, List.set_cons_succ, wipeP, backP, List.getD_cons_zero, List.getD_cons_succ])
    rw [show (8 : Int) + ((top : Int) - 8) = top by omega]
    refine ⟨by omega, ?_⟩
    refine forP_ind _ (fun i s => ∃ L a6 a7, s = ⟨[.val .cell, .val (.tup [.int p, .int q]), .val (.lst (rowU p q 520)), .val (.tup gs), .val (.int top), .own (rowK p q L), a6, a7, .un, .un, .un, .un, .un, .un, .un, .un, .un, .un, .un, .un, .un], d - 1 - 2 - 1⟩ ∧ Upto p q i 0 L) (fun i x hx s hs W hW => ?_) (fun s hs => ?_) ⟨0, _, _, by rw [rowK_zero], ⟨fun k hk => absurd hk (Nat.not_lt_zero _), by simp [U]⟩⟩
    · obtain ⟨L, a6, a7, rfl, hL⟩ := hs
      obtain ⟨hi, rfl⟩ := rng_get hx
      (repeat ((conv => whnf); first | refine k_i1 ?_ | refine k_i2 ?_ | refine k_i3 ?_ | refine k_i4 ?_ | refine k_i5 ?_ | refine k_i6 ?_ | refine k_i7 ?_ | refine k_b1 ?_ | refine k_b2 ?_ | refine k_b3 ?_ | refine k_b4 ?_ | refine k_b5 ?_ | refine k_b6 ?_ | refine k_b7 ?_ | refine k_s1 ?_ | refine k_s2 ?_ | refine k_s3 ?_ | refine k_s4 ?_ | refine k_s5 ?_ | refine k_s6 ?_ | refine k_s7 ?_ | refine k_t1 ?_ | refine k_t2 ?_ | refine k_t3 ?_ | refine k_t4 ?_ | refine k_t5 ?_ | refine k_t6 ?_ | refine k_t7 ?_ | refine k_l1 ?_ | refine k_l2 ?_ | refine k_l3 ?_ | refine k_l4 ?_ | refine k_l5 ?_ | refine k_l6 ?_ | refine k_l7 ?_ | refine k_n6 ?_ | refine k_n7 ?_ | refine k_n1 ?_ | refine k_n2 ?_ | refine k_n3 ?_ | refine k_n4 ?_ | refine k_n5 ?_ | refine ⟨dok_scal rfl rfl, dok_scal rfl rfl, ?_⟩ | refine ⟨_, rfl, ?_⟩)); (conv => whnf); (try dsimp only [PSt.set, List.set_cons_zero, List.set_cons_succ, wipeP, backP, List.getD_cons_zero, List.getD_cons_succ])
      refine ⟨by omega, ?_⟩
      rw [show (i : Int) + 1 = ((i + 1 : Nat) : Int) by omega]
      refine forP_ind _ (fun j s => ∃ L a7, s = ⟨[.val .cell, .val (.tup [.int p, .int q]), .val (.lst (rowU p q 520)), .val (.tup gs), .val (.int top), .own (rowK p q L), .val (.int i), a7, .un, .un, .un, .un, .un, .un, .un, .un, .un, .un, .un, .un, .un], d - 1 - 2 - 1⟩ ∧ Upto p q i j L) (fun j x hx s hs W2 hW2 => ?_) (fun s hs => ?_) ⟨L, _, rfl, hL⟩
      · obtain ⟨L, a7, rfl, hL⟩ := hs
        obtain ⟨hj, rfl⟩ := rng_get hx
        (repeat ((conv => whnf); first | refine k_i1 ?_ | refine k_i2 ?_ | refine k_i3 ?_ | refine k_i4 ?_ | refine k_i5 ?_ | refine k_i6 ?_ | refine k_i7 ?_ | refine k_b1 ?_ | refine k_b2 ?_ | refine k_b3 ?_ | refine k_b4 ?_ | refine k_b5 ?_ | refine k_b6 ?_ | refine k_b7 ?_ | refine k_s1 ?_ | refine k_s2 ?_ | refine k_s3 ?_ | refine k_s4 ?_ | refine k_s5 ?_ | refine k_s6 ?_ | refine k_s7 ?_ | refine k_t1 ?_ | refine k_t2 ?_ | refine k_t3 ?_ | refine k_t4 ?_ | refine k_t5 ?_ | refine k_t6 ?_ | refine k_t7 ?_ | refine k_l1 ?_ | refine k_l2 ?_ | refine k_l3 ?_ | refine k_l4 ?_ | refine k_l5 ?_ | refine k_l6 ?_ | refine k_l7 ?_ | refine k_n6 ?_ | refine k_n7 ?_ | refine k_n1 ?_ | refine k_n2 ?_ | refine k_n3 ?_ | refine k_n4 ?_ | refine k_n5 ?_ | refine ⟨dok_scal rfl rfl, dok_scal rfl rfl, ?_⟩ | refine ⟨_, rfl, ?_⟩)); (conv => whnf); (try dsimp only [PSt.set, List.set_cons_zero, List.set_cons_succ, wipeP, backP, List.getD_cons_zero, List.getD_cons_succ])
        refine p_law_form (k := 20) sp sq (Sm.of (by omega) (by omega)) (Sm.of (by omega) (by omega)) (by decide) ?_
        (repeat ((conv => whnf); first | refine k_i1 ?_ | refine k_i2 ?_ | refine k_i3 ?_ | refine k_i4 ?_ | refine k_i5 ?_ | refine k_i6 ?_ | refine k_i7 ?_ | refine k_b1 ?_ | refine k_b2 ?_ | refine k_b3 ?_ | refine k_b4 ?_ | refine k_b5 ?_ | refine k_b6 ?_ | refine k_b7 ?_ | refine k_s1 ?_ | refine k_s2 ?_ | refine k_s3 ?_ | refine k_s4 ?_ | refine k_s5 ?_ | refine k_s6 ?_ | refine k_s7 ?_ | refine k_t1 ?_ | refine k_t2 ?_ | refine k_t3 ?_ | refine k_t4 ?_ | refine k_t5 ?_ | refine k_t6 ?_ | refine k_t7 ?_ | refine k_l1 ?_ | refine k_l2 ?_ | refine k_l3 ?_ | refine k_l4 ?_ | refine k_l5 ?_ | refine k_l6 ?_ | refine k_l7 ?_ | refine k_n6 ?_ | refine k_n7 ?_ | refine k_n1 ?_ | refine k_n2 ?_ | refine k_n3 ?_ | refine k_n4 ?_ | refine k_n5 ?_ | refine ⟨dok_scal rfl rfl, dok_scal rfl rfl, ?_⟩ | refine ⟨_, rfl, ?_⟩)); (conv => whnf); (try dsimp only [PSt.set, List.set_cons_zero, List.set_cons_succ, wipeP, backP, List.getD_cons_zero, List.getD_cons_succ])
        refine ⟨⟨rfl, Nat.zero_le 60⟩, dgs, ?_⟩
        rw [hgs]
        by_cases hf : Fm p q i j = 1 ∨ (Fm p q i j = -1 ∧ q = -1)
        · rw [decide_eq_true hf]
          obtain ⟨k, e1, e2⟩ := un_class hu _ i j _ (Nat.le_refl _) (by omega) (by omega) rfl hf
          have ek := upto_hit hu hL e1 e2
          subst ek
          have hl12 := few L fun k hk => by have := hL.1 k hk; omega
          (repeat ((conv => whnf); first | refine k_i1 ?_ | refine k_i2 ?_ | refine k_i3 ?_ | refine k_i4 ?_ | refine k_i5 ?_ | refine k_i6 ?_ | refine k_i7 ?_ | refine k_b1 ?_ | refine k_b2 ?_ | refine k_b3 ?_ | refine k_b4 ?_ | refine k_b5 ?_ | refine k_b6 ?_ | refine k_b7 ?_ | refine k_s1 ?_ | refine k_s2 ?_ | refine k_s3 ?_ | refine k_s4 ?_ | refine k_s5 ?_ | refine k_s6 ?_ | refine k_s7 ?_ | refine k_t1 ?_ | refine k_t2 ?_ | refine k_t3 ?_ | refine k_t4 ?_ | refine k_t5 ?_ | refine k_t6 ?_ | refine k_t7 ?_ | refine k_l1 ?_ | refine k_l2 ?_ | refine k_l3 ?_ | refine k_l4 ?_ | refine k_l5 ?_ | refine k_l6 ?_ | refine k_l7 ?_ | refine k_n6 ?_ | refine k_n7 ?_ | refine k_n1 ?_ | refine k_n2 ?_ | refine k_n3 ?_ | refine k_n4 ?_ | refine k_n5 ?_ | refine ⟨dok_scal rfl rfl, dok_scal rfl rfl, ?_⟩ | refine ⟨_, rfl, ?_⟩)); (conv => whnf); (try dsimp only [PSt.set, List.set_cons_zero, List.set_cons_succ, wipeP, backP, List.getD_cons_zero, List.getD_cons_succ])
          refine ⟨by rw [rowK_len]; omega, ?_⟩
          rw [e1, e2]
          have ea : rowK p q L ++ [.tup [.int (U p q (L + 1)), .int (U p q L)]] = rowK p q (L + 1) := rowK_app
          rw [ea]
          refine hW2 _ ⟨L + 1, _, by rw [e1], ?_⟩
          rw [show ((j + 1 : Nat) : Int) = (j : Int) + 1 by omega]
          exact upto_next hu hL e1 e2
        · rw [decide_eq_false hf]
          (repeat ((conv => whnf); first | refine k_i1 ?_ | refine k_i2 ?_ | refine k_i3 ?_ | refine k_i4 ?_ | refine k_i5 ?_ | refine k_i6 ?_ | refine k_i7 ?_ | refine k_b1 ?_ | refine k_b2 ?_ | refine k_b3 ?_ | refine k_b4 ?_ | refine k_b5 ?_ | refine k_b6 ?_ | refine k_b7 ?_ | refine k_s1 ?_ | refine k_s2 ?_ | refine k_s3 ?_ | refine k_s4 ?_ | refine k_s5 ?_ | refine k_s6 ?_ | refine k_s7 ?_ | refine k_t1 ?_ | refine k_t2 ?_ | refine k_t3 ?_ | refine k_t4 ?_ | refine k_t5 ?_ | refine k_t6 ?_ | refine k_t7 ?_ | refine k_l1 ?_ | refine k_l2 ?_ | refine k_l3 ?_ | refine k_l4 ?_ | refine k_l5 ?_ | refine k_l6 ?_ | refine k_l7 ?_ | refine k_n6 ?_ | refine k_n7 ?_ | refine k_n1 ?_ | refine k_n2 ?_ | refine k_n3 ?_ | refine k_n4 ?_ | refine k_n5 ?_ | refine ⟨dok_scal rfl rfl, dok_scal rfl rfl, ?_⟩ | refine ⟨_, rfl, ?_⟩)); (conv => whnf); (try dsimp only [PSt.set, List.set_cons_zero, List.set_cons_succ, wipeP, backP, List.getD_cons_zero, List.getD_cons_succ])
          refine hW2 _ ⟨L, _, rfl, ?_⟩
          rw [show ((j + 1 : Nat) : Int) = (j : Int) + 1 by omega]
          refine upto_stay hL fun z => hf ?_
          have := fm_U p q L
          rw [← z.1, ← z.2] at this
          rw [this]
          exact qpow L
      · obtain ⟨L, a7, rfl, hL⟩ := hs
        rw [rng_len] at hL
        refine hW _ ⟨L, _, _, rfl, ?_⟩
        rw [show ((i + 1 : Nat) : Int) = (i : Int) + 1 by omega] at hL ⊢
        exact upto_turn hu hL
    · obtain ⟨L, a6, a7, rfl, hL⟩ := hs
      rw [rng_len] at hL
      exact hD _ ⟨L, _, _, rfl, hL⟩
  rintro _ ⟨L, a6, a7, rfl, hL⟩
  have hL1 : ∀ k, k < L → U p q (k + 1) < (top : Int) := fun k hk => by have := hL.1 k hk; have := un_mono hu k; omega
  have hL2 : (top : Int) ≤ U p q (L + 1) := by
    have := hL.2
    omega
  have hL12 := few L hL1
  clear hL
  obtain ⟨N, hN⟩ : ∃ N : Nat, N = 500 := ⟨_, rfl⟩
  -- statement 5
  refine cutS (fun p' => p' = ⟨[.val .cell, .val (.tup [.int p, .int q]), .val (.lst (rowU p q 520)), .val (.tup gs), .val (.int top), .own (rowK p q L), a6, a7, .un, .val (.lst (rowK p q N)), .un, .un, .un, .un, .un, .un, .un, .un, .un, .un, .un], d - 1 - 2 - 1⟩) (fun D' hD => ?_) ?_
  · (repeat ((conv => whnf); first | refine k_i1 ?_ | refine k_i2 ?_ | refine k_i3 ?_ | refine k_i4 ?_ | refine k_i5 ?_ | refine k_i6 ?_ | refine k_i7 ?_ | refine k_b1 ?_ | refine k_b2 ?_ | refine k_b3 ?_ | refine k_b4 ?_ | refine k_b5 ?_ | refine k_b6 ?_ | refine k_b7 ?_ | refine k_s1 ?_ | refine k_s2 ?_ | refine k_s3 ?_ | refine k_s4 ?_ | refine k_s5 ?_ | refine k_s6 ?_ | refine k_s7 ?_ | refine k_t1 ?_ | refine k_t2 ?_ | refine k_t3 ?_ | refine k_t4 ?_ | refine k_t5 ?_ | refine k_t6 ?_ | refine k_t7 ?_ | refine k_l1 ?_ | refine k_l2 ?_ | refine k_l3 ?_ | refine k_l4 ?_ | refine k_l5 ?_ | refine k_l6 ?_ | refine k_l7 ?_ | refine k_n6 ?_ | refine k_n7 ?_ | refine k_n1 ?_ | refine k_n2 ?_ | refine k_n3 ?_ | refine k_n4 ?_ | refine k_n5 ?_ | refine ⟨dok_scal rfl rfl, dok_scal rfl rfl, ?_⟩ | refine ⟨_, rfl, ?_⟩)); (conv => whnf); (try dsimp only [PSt.set, List.set_cons_zero, List.set_cons_succ, wipeP, backP, List.getD_cons_zero, List.getD_cons_succ])
    refine ⟨by decide, ?_⟩
    refine comp_nm (items := rngL 0 ((500 : Nat) : Int)) (fP fun k => prV (pk p q k)) (by decide) (by rw [rng_len]; decide) (fun x hx d J hJ => ?_) ?_
    · obtain ⟨k, hk, rfl⟩ := rng_mem hx
      (repeat ((conv => whnf); first | refine k_i1 ?_ | refine k_i2 ?_ | refine k_i3 ?_ | refine k_i4 ?_ | refine k_i5 ?_ | refine k_i6 ?_ | refine k_i7 ?_ | refine k_b1 ?_ | refine k_b2 ?_ | refine k_b3 ?_ | refine k_b4 ?_ | refine k_b5 ?_ | refine k_b6 ?_ | refine k_b7 ?_ | refine k_s1 ?_ | refine k_s2 ?_ | refine k_s3 ?_ | refine k_s4 ?_ | refine k_s5 ?_ | refine k_s6 ?_ | refine k_s7 ?_ | refine k_t1 ?_ | refine k_t2 ?_ | refine k_t3 ?_ | refine k_t4 ?_ | refine k_t5 ?_ | refine k_t6 ?_ | refine k_t7 ?_ | refine k_l1 ?_ | refine k_l2 ?_ | refine k_l3 ?_ | refine k_l4 ?_ | refine k_l5 ?_ | refine k_l6 ?_ | refine k_l7 ?_ | refine k_n6 ?_ | refine k_n7 ?_ | refine k_n1 ?_ | refine k_n2 ?_ | refine k_n3 ?_ | refine k_n4 ?_ | refine k_n5 ?_ | refine ⟨dok_scal rfl rfl, dok_scal rfl rfl, ?_⟩ | refine ⟨_, rfl, ?_⟩)); (conv => whnf); (try dsimp only [PSt.set, List.set_cons_zero, List.set_cons_succ, wipeP, backP, List.getD_cons_zero, List.getD_cons_succ])
      refine ⟨.int (U p q (k + 1)), rowU_at (i := k + 1) (by omega), ?_⟩
      (repeat ((conv => whnf); first | refine k_i1 ?_ | refine k_i2 ?_ | refine k_i3 ?_ | refine k_i4 ?_ | refine k_i5 ?_ | refine k_i6 ?_ | refine k_i7 ?_ | refine k_b1 ?_ | refine k_b2 ?_ | refine k_b3 ?_ | refine k_b4 ?_ | refine k_b5 ?_ | refine k_b6 ?_ | refine k_b7 ?_ | refine k_s1 ?_ | refine k_s2 ?_ | refine k_s3 ?_ | refine k_s4 ?_ | refine k_s5 ?_ | refine k_s6 ?_ | refine k_s7 ?_ | refine k_t1 ?_ | refine k_t2 ?_ | refine k_t3 ?_ | refine k_t4 ?_ | refine k_t5 ?_ | refine k_t6 ?_ | refine k_t7 ?_ | refine k_l1 ?_ | refine k_l2 ?_ | refine k_l3 ?_ | refine k_l4 ?_ | refine k_l5 ?_ | refine k_l6 ?_ | refine k_l7 ?_ | refine k_n6 ?_ | refine k_n7 ?_ | refine k_n1 ?_ | refine k_n2 ?_ | refine k_n3 ?_ | refine k_n4 ?_ | refine k_n5 ?_ | refine ⟨dok_scal rfl rfl, dok_scal rfl rfl, ?_⟩ | refine ⟨_, rfl, ?_⟩)); (conv => whnf); (try dsimp only [PSt.set, List.set_cons_zero, List.set_cons_succ, wipeP, backP, List.getD_cons_zero, List.getD_cons_succ])
      refine ⟨.int (U p q k), rowU_at (by omega), ?_⟩
      exact hJ
    · rw [rng_mapP, rowK_eq, ← hN]
      exact hD _ rfl
  rintro _ rfl
  have lowE : ∀ k, lowC top (prV (pk p q k)) = decide (U p q (k + 1) < (top : Int)) := fun k => rfl
  have lowF : (rowK p q N).filter (lowC top) = rowK p q L := rowK_filter lowE (fun k hk => decide_eq_true (hL1 k hk)) (fun k hk => decide_eq_false (by
    have := un_le2 hu (show L + 1 ≤ k + 1 by omega)
    omega)) (by omega)
  -- statement 6
  refine cutS (fun p' => p' = ⟨[.val .cell, .val (.tup [.int p, .int q]), .val (.lst (rowU p q 520)), .val (.tup gs), .val (.int top), .own (rowK p q L), a6, a7, .un, .val (.lst (rowK p q N)), .un, .un, .un, .un, .un, .un, .un, .un, .un, .un, .un], d - 1 - 2 - 1⟩) (fun D' hD => ?_) ?_
  · (repeat ((conv => whnf); first | refine k_i1 ?_ | refine k_i2 ?_ | refine k_i3 ?_ | refine k_i4 ?_ | refine k_i5 ?_ | refine k_i6 ?_ | refine k_i7 ?_ | refine k_b1 ?_ | refine k_b2 ?_ | refine k_b3 ?_ | refine k_b4 ?_ | refine k_b5 ?_ | refine k_b6 ?_ | refine k_b7 ?_ | refine k_s1 ?_ | refine k_s2 ?_ | refine k_s3 ?_ | refine k_s4 ?_ | refine k_s5 ?_ | refine k_s6 ?_ | refine k_s7 ?_ | refine k_t1 ?_ | refine k_t2 ?_ | refine k_t3 ?_ | refine k_t4 ?_ | refine k_t5 ?_ | refine k_t6 ?_ | refine k_t7 ?_ | refine k_l1 ?_ | refine k_l2 ?_ | refine k_l3 ?_ | refine k_l4 ?_ | refine k_l5 ?_ | refine k_l6 ?_ | refine k_l7 ?_ | refine k_n6 ?_ | refine k_n7 ?_ | refine k_n1 ?_ | refine k_n2 ?_ | refine k_n3 ?_ | refine k_n4 ?_ | refine k_n5 ?_ | refine ⟨dok_scal rfl rfl, dok_scal rfl rfl, ?_⟩ | refine ⟨_, rfl, ?_⟩)); (conv => whnf); (try dsimp only [PSt.set, List.set_cons_zero, List.set_cons_succ, wipeP, backP, List.getD_cons_zero, List.getD_cons_succ])
    refine comp_if (i := 20) (own := [19, 20]) (items := rowK p q N) (lowC top) id (by decide) (by rw [rowK_len]; omega) (fun x hx d J hJ => ?_) (fun x hx _ d J hJ => ?_) ?_
    · obtain ⟨k, hk, rfl⟩ := rowK_mem hx
      (repeat ((conv => whnf); first | refine k_i1 ?_ | refine k_i2 ?_ | refine k_i3 ?_ | refine k_i4 ?_ | refine k_i5 ?_ | refine k_i6 ?_ | refine k_i7 ?_ | refine k_b1 ?_ | refine k_b2 ?_ | refine k_b3 ?_ | refine k_b4 ?_ | refine k_b5 ?_ | refine k_b6 ?_ | refine k_b7 ?_ | refine k_s1 ?_ | refine k_s2 ?_ | refine k_s3 ?_ | refine k_s4 ?_ | refine k_s5 ?_ | refine k_s6 ?_ | refine k_s7 ?_ | refine k_t1 ?_ | refine k_t2 ?_ | refine k_t3 ?_ | refine k_t4 ?_ | refine k_t5 ?_ | refine k_t6 ?_ | refine k_t7 ?_ | refine k_l1 ?_ | refine k_l2 ?_ | refine k_l3 ?_ | refine k_l4 ?_ | refine k_l5 ?_ | refine k_l6 ?_ | refine k_l7 ?_ | refine k_n6 ?_ | refine k_n7 ?_ | refine k_n1 ?_ | refine k_n2 ?_ | refine k_n3 ?_ | refine k_n4 ?_ | refine k_n5 ?_ | refine ⟨dok_scal rfl rfl, dok_scal rfl rfl, ?_⟩ | refine ⟨_, rfl, ?_⟩)); (conv => whnf); (try dsimp only [PSt.set, List.set_cons_zero, List.set_cons_succ, wipeP, backP, List.getD_cons_zero, List.getD_cons_succ])
      exact hJ
    · obtain ⟨k, hk, rfl⟩ := rowK_mem hx
      (repeat ((conv => whnf); first | refine k_i1 ?_ | refine k_i2 ?_ | refine k_i3 ?_ | refine k_i4 ?_ | refine k_i5 ?_ | refine k_i6 ?_ | refine k_i7 ?_ | refine k_b1 ?_ | refine k_b2 ?_ | refine k_b3 ?_ | refine k_b4 ?_ | refine k_b5 ?_ | refine k_b6 ?_ | refine k_b7 ?_ | refine k_s1 ?_ | refine k_s2 ?_ | refine k_s3 ?_ | refine k_s4 ?_ | refine k_s5 ?_ | refine k_s6 ?_ | refine k_s7 ?_ | refine k_t1 ?_ | refine k_t2 ?_ | refine k_t3 ?_ | refine k_t4 ?_ | refine k_t5 ?_ | refine k_t6 ?_ | refine k_t7 ?_ | refine k_l1 ?_ | refine k_l2 ?_ | refine k_l3 ?_ | refine k_l4 ?_ | refine k_l5 ?_ | refine k_l6 ?_ | refine k_l7 ?_ | refine k_n6 ?_ | refine k_n7 ?_ | refine k_n1 ?_ | refine k_n2 ?_ | refine k_n3 ?_ | refine k_n4 ?_ | refine k_n5 ?_ | refine ⟨dok_scal rfl rfl, dok_scal rfl rfl, ?_⟩ | refine ⟨_, rfl, ?_⟩)); (conv => whnf); (try dsimp only [PSt.set, List.set_cons_zero, List.set_cons_succ, wipeP, backP, List.getD_cons_zero, List.getD_cons_succ])
      exact hJ
    rw [lowF, List.map_id]
    rw [x_po]
    refine rowK_sorted hu ?_
    (repeat ((conv => whnf); first | refine k_i1 ?_ | refine k_i2 ?_ | refine k_i3 ?_ | refine k_i4 ?_ | refine k_i5 ?_ | refine k_i6 ?_ | refine k_i7 ?_ | refine k_b1 ?_ | refine k_b2 ?_ | refine k_b3 ?_ | refine k_b4 ?_ | refine k_b5 ?_ | refine k_b6 ?_ | refine k_b7 ?_ | refine k_s1 ?_ | refine k_s2 ?_ | refine k_s3 ?_ | refine k_s4 ?_ | refine k_s5 ?_ | refine k_s6 ?_ | refine k_s7 ?_ | refine k_t1 ?_ | refine k_t2 ?_ | refine k_t3 ?_ | refine k_t4 ?_ | refine k_t5 ?_ | refine k_t6 ?_ | refine k_t7 ?_ | refine k_l1 ?_ | refine k_l2 ?_ | refine k_l3 ?_ | refine k_l4 ?_ | refine k_l5 ?_ | refine k_l6 ?_ | refine k_l7 ?_ | refine k_n6 ?_ | refine k_n7 ?_ | refine k_n1 ?_ | refine k_n2 ?_ | refine k_n3 ?_ | refine k_n4 ?_ | refine k_n5 ?_ | refine ⟨dok_scal rfl rfl, dok_scal rfl rfl, ?_⟩ | refine ⟨_, rfl, ?_⟩)); (conv => whnf); (try dsimp only [PSt.set, List.set_cons_zero, List.set_cons_succ, wipeP, backP, List.getD_cons_zero, List.getD_cons_succ])
    refine ⟨dok_rowK, dok_rowK, ?_⟩
    rw [pyEq_rowK]
    exact hD _ rfl
  rintro _ rfl
  -- statement 7
  refine cutS (fun p' => p' = ⟨[.val .cell, .val (.tup [.int p, .int q]), .val (.lst (rowU p q 520)), .val (.tup gs), .val (.int top), .val (.lst (rowK p q L)), a6, a7, .un, .val (.lst (rowK p q N)), .un, .un, .un, .un, .un, .un, .un, .un, .un, .un, .un], d - 1 - 2 - 1⟩) (fun D' hD => ?_) ?_
  · have hBt : (top : Int) ≤ Big := Int.le_trans (show (top : Int) ≤ 37 by omega) (by decide)
    (repeat ((conv => whnf); first | refine k_i1 ?_ | refine k_i2 ?_ | refine k_i3 ?_ | refine k_i4 ?_ | refine k_i5 ?_ | refine k_i6 ?_ | refine k_i7 ?_ | refine k_b1 ?_ | refine k_b2 ?_ | refine k_b3 ?_ | refine k_b4 ?_ | refine k_b5 ?_ | refine k_b6 ?_ | refine k_b7 ?_ | refine k_s1 ?_ | refine k_s2 ?_ | refine k_s3 ?_ | refine k_s4 ?_ | refine k_s5 ?_ | refine k_s6 ?_ | refine k_s7 ?_ | refine k_t1 ?_ | refine k_t2 ?_ | refine k_t3 ?_ | refine k_t4 ?_ | refine k_t5 ?_ | refine k_t6 ?_ | refine k_t7 ?_ | refine k_l1 ?_ | refine k_l2 ?_ | refine k_l3 ?_ | refine k_l4 ?_ | refine k_l5 ?_ | refine k_l6 ?_ | refine k_l7 ?_ | refine k_n6 ?_ | refine k_n7 ?_ | refine k_n1 ?_ | refine k_n2 ?_ | refine k_n3 ?_ | refine k_n4 ?_ | refine k_n5 ?_ | refine ⟨dok_scal rfl rfl, dok_scal rfl rfl, ?_⟩ | refine ⟨_, rfl, ?_⟩)); (conv => whnf); (try dsimp only [PSt.set, List.set_cons_zero, List.set_cons_succ, wipeP, backP, List.getD_cons_zero, List.getD_cons_succ])
    refine comp_ind (items := rowK p q L) (fun n acc d' => d' = d - 1 - 2 - 1 ∧ acc = idx n) (by decide) (by rw [rowK_len]; omega) (fun n x hx acc d' hl hI J hJ => ?_) ⟨rfl, rfl⟩ fun acc d' hI => ?_
    · obtain ⟨rfl, rfl⟩ := hI
      have hn : n < L := by have := (List.getElem?_eq_some_iff.mp hx).1; rw [rowK_len] at this; exact this
      rw [rowK_get hn] at hx
      cases hx
      have := hL1 n hn
      have := un_mono hu n
      have hBn : -Big ≤ 0 := by decide
      (repeat ((conv => whnf); first | refine k_i1 ?_ | refine k_i2 ?_ | refine k_i3 ?_ | refine k_i4 ?_ | refine k_i5 ?_ | refine k_i6 ?_ | refine k_i7 ?_ | refine k_b1 ?_ | refine k_b2 ?_ | refine k_b3 ?_ | refine k_b4 ?_ | refine k_b5 ?_ | refine k_b6 ?_ | refine k_b7 ?_ | refine k_s1 ?_ | refine k_s2 ?_ | refine k_s3 ?_ | refine k_s4 ?_ | refine k_s5 ?_ | refine k_s6 ?_ | refine k_s7 ?_ | refine k_t1 ?_ | refine k_t2 ?_ | refine k_t3 ?_ | refine k_t4 ?_ | refine k_t5 ?_ | refine k_t6 ?_ | refine k_t7 ?_ | refine k_l1 ?_ | refine k_l2 ?_ | refine k_l3 ?_ | refine k_l4 ?_ | refine k_l5 ?_ | refine k_l6 ?_ | refine k_l7 ?_ | refine k_n6 ?_ | refine k_n7 ?_ | refine k_n1 ?_ | refine k_n2 ?_ | refine k_n3 ?_ | refine k_n4 ?_ | refine k_n5 ?_ | refine ⟨dok_scal rfl rfl, dok_scal rfl rfl, ?_⟩ | refine ⟨_, rfl, ?_⟩)); (conv => whnf); (try dsimp only [PSt.set, List.set_cons_zero, List.set_cons_succ, wipeP, backP, List.getD_cons_zero, List.getD_cons_succ])
      refine p_nplace (a := U p q (n + 1)) (b := U p q n) hu (by omega) (by omega) (by omega) (by omega) (fun k e1 e2 => ?_) fun z => absurd ⟨rfl, rfl⟩ (z n)
      have e := un_inj hu e1 e2
      subst e
      refine hJ _ _ ⟨rfl, ?_⟩
      exact idx_app
    obtain ⟨rfl, rfl⟩ := hI
    (repeat ((conv => whnf); first | refine k_i1 ?_ | refine k_i2 ?_ | refine k_i3 ?_ | refine k_i4 ?_ | refine k_i5 ?_ | refine k_i6 ?_ | refine k_i7 ?_ | refine k_b1 ?_ | refine k_b2 ?_ | refine k_b3 ?_ | refine k_b4 ?_ | refine k_b5 ?_ | refine k_b6 ?_ | refine k_b7 ?_ | refine k_s1 ?_ | refine k_s2 ?_ | refine k_s3 ?_ | refine k_s4 ?_ | refine k_s5 ?_ | refine k_s6 ?_ | refine k_s7 ?_ | refine k_t1 ?_ | refine k_t2 ?_ | refine k_t3 ?_ | refine k_t4 ?_ | refine k_t5 ?_ | refine k_t6 ?_ | refine k_t7 ?_ | refine k_l1 ?_ | refine k_l2 ?_ | refine k_l3 ?_ | refine k_l4 ?_ | refine k_l5 ?_ | refine k_l6 ?_ | refine k_l7 ?_ | refine k_n6 ?_ | refine k_n7 ?_ | refine k_n1 ?_ | refine k_n2 ?_ | refine k_n3 ?_ | refine k_n4 ?_ | refine k_n5 ?_ | refine ⟨dok_scal rfl rfl, dok_scal rfl rfl, ?_⟩ | refine ⟨_, rfl, ?_⟩)); (conv => whnf); (try dsimp only [PSt.set, List.set_cons_zero, List.set_cons_succ, wipeP, backP, List.getD_cons_zero, List.getD_cons_succ])
    refine comp_ind (items := rowK p q L) (fun n acc d' => d' = d - 1 - 2 - 1 ∧ acc = idx n) (by decide) (by rw [rowK_len]; omega) (fun n x hx acc d' hl hI J hJ => ?_) ⟨rfl, rfl⟩ fun acc d' hI => ?_
    · obtain ⟨rfl, rfl⟩ := hI
      have hn : n < L := by have := (List.getElem?_eq_some_iff.mp hx).1; rw [rowK_len] at this; exact this
      rw [rowK_get hn] at hx
      cases hx
      (repeat ((conv => whnf); first | refine k_i1 ?_ | refine k_i2 ?_ | refine k_i3 ?_ | refine k_i4 ?_ | refine k_i5 ?_ | refine k_i6 ?_ | refine k_i7 ?_ | refine k_b1 ?_ | refine k_b2 ?_ | refine k_b3 ?_ | refine k_b4 ?_ | refine k_b5 ?_ | refine k_b6 ?_ | refine k_b7 ?_ | refine k_s1 ?_ | refine k_s2 ?_ | refine k_s3 ?_ | refine k_s4 ?_ | refine k_s5 ?_ | refine k_s6 ?_ | refine k_s7 ?_ | refine k_t1 ?_ | refine k_t2 ?_ | refine k_t3 ?_ | refine k_t4 ?_ | refine k_t5 ?_ | refine k_t6 ?_ | refine k_t7 ?_ | refine k_l1 ?_ | refine k_l2 ?_ | refine k_l3 ?_ | refine k_l4 ?_ | refine k_l5 ?_ | refine k_l6 ?_ | refine k_l7 ?_ | refine k_n6 ?_ | refine k_n7 ?_ | refine k_n1 ?_ | refine k_n2 ?_ | refine k_n3 ?_ | refine k_n4 ?_ | refine k_n5 ?_ | refine ⟨dok_scal rfl rfl, dok_scal rfl rfl, ?_⟩ | refine ⟨_, rfl, ?_⟩)); (conv => whnf); (try dsimp only [PSt.set, List.set_cons_zero, List.set_cons_succ, wipeP, backP, List.getD_cons_zero, List.getD_cons_succ])
      refine rowK_index (n := N) (k := n) hu (by omega) rfl rfl ?_
      refine hJ _ _ ⟨rfl, ?_⟩
      exact idx_app
    obtain ⟨rfl, rfl⟩ := hI
    (repeat ((conv => whnf); first | refine k_i1 ?_ | refine k_i2 ?_ | refine k_i3 ?_ | refine k_i4 ?_ | refine k_i5 ?_ | refine k_i6 ?_ | refine k_i7 ?_ | refine k_b1 ?_ | refine k_b2 ?_ | refine k_b3 ?_ | refine k_b4 ?_ | refine k_b5 ?_ | refine k_b6 ?_ | refine k_b7 ?_ | refine k_s1 ?_ | refine k_s2 ?_ | refine k_s3 ?_ | refine k_s4 ?_ | refine k_s5 ?_ | refine k_s6 ?_ | refine k_s7 ?_ | refine k_t1 ?_ | refine k_t2 ?_ | refine k_t3 ?_ | refine k_t4 ?_ | refine k_t5 ?_ | refine k_t6 ?_ | refine k_t7 ?_ | refine k_l1 ?_ | refine k_l2 ?_ | refine k_l3 ?_ | refine k_l4 ?_ | refine k_l5 ?_ | refine k_l6 ?_ | refine k_l7 ?_ | refine k_n6 ?_ | refine k_n7 ?_ | refine k_n1 ?_ | refine k_n2 ?_ | refine k_n3 ?_ | refine k_n4 ?_ | refine k_n5 ?_ | refine ⟨dok_scal rfl rfl, dok_scal rfl rfl, ?_⟩ | refine ⟨_, rfl, ?_⟩)); (conv => whnf); (try dsimp only [PSt.set, List.set_cons_zero, List.set_cons_succ, wipeP, backP, List.getD_cons_zero, List.getD_cons_succ])
    refine p_same 1 _ deep_idx (gdv_idx (by rw [rowK_len]; omega)) ?_
    (repeat ((conv => whnf); first | refine k_i1 ?_ | refine k_i2 ?_ | refine k_i3 ?_ | refine k_i4 ?_ | refine k_i5 ?_ | refine k_i6 ?_ | refine k_i7 ?_ | refine k_b1 ?_ | refine k_b2 ?_ | refine k_b3 ?_ | refine k_b4 ?_ | refine k_b5 ?_ | refine k_b6 ?_ | refine k_b7 ?_ | refine k_s1 ?_ | refine k_s2 ?_ | refine k_s3 ?_ | refine k_s4 ?_ | refine k_s5 ?_ | refine k_s6 ?_ | refine k_s7 ?_ | refine k_t1 ?_ | refine k_t2 ?_ | refine k_t3 ?_ | refine k_t4 ?_ | refine k_t5 ?_ | refine k_t6 ?_ | refine k_t7 ?_ | refine k_l1 ?_ | refine k_l2 ?_ | refine k_l3 ?_ | refine k_l4 ?_ | refine k_l5 ?_ | refine k_l6 ?_ | refine k_l7 ?_ | refine k_n6 ?_ | refine k_n7 ?_ | refine k_n1 ?_ | refine k_n2 ?_ | refine k_n3 ?_ | refine k_n4 ?_ | refine k_n5 ?_ | refine ⟨dok_scal rfl rfl, dok_scal rfl rfl, ?_⟩ | refine ⟨_, rfl, ?_⟩)); (conv => whnf); (try dsimp only [PSt.set, List.set_cons_zero, List.set_cons_succ, wipeP, backP, List.getD_cons_zero, List.getD_cons_succ])
    refine p_neighK hu (by omega) (by omega) fun L' _ g1 g2 => ?_
    have e := un_cut_uniq g1 g2 (M := L) (fun k hk => by have := hL1 k hk; omega) (by omega)
    subst e
    (repeat ((conv => whnf); first | refine k_i1 ?_ | refine k_i2 ?_ | refine k_i3 ?_ | refine k_i4 ?_ | refine k_i5 ?_ | refine k_i6 ?_ | refine k_i7 ?_ | refine k_b1 ?_ | refine k_b2 ?_ | refine k_b3 ?_ | refine k_b4 ?_ | refine k_b5 ?_ | refine k_b6 ?_ | refine k_b7 ?_ | refine k_s1 ?_ | refine k_s2 ?_ | refine k_s3 ?_ | refine k_s4 ?_ | refine k_s5 ?_ | refine k_s6 ?_ | refine k_s7 ?_ | refine k_t1 ?_ | refine k_t2 ?_ | refine k_t3 ?_ | refine k_t4 ?_ | refine k_t5 ?_ | refine k_t6 ?_ | refine k_t7 ?_ | refine k_l1 ?_ | refine k_l2 ?_ | refine k_l3 ?_ | refine k_l4 ?_ | refine k_l5 ?_ | refine k_l6 ?_ | refine k_l7 ?_ | refine k_n6 ?_ | refine k_n7 ?_ | refine k_n1 ?_ | refine k_n2 ?_ | refine k_n3 ?_ | refine k_n4 ?_ | refine k_n5 ?_ | refine ⟨dok_scal rfl rfl, dok_scal rfl rfl, ?_⟩ | refine ⟨_, rfl, ?_⟩)); (conv => whnf); (try dsimp only [PSt.set, List.set_cons_zero, List.set_cons_succ, wipeP, backP, List.getD_cons_zero, List.getD_cons_succ])
    refine comp_if (i := 20) (own := [19, 20]) (items := rowK p q N) (lowC top) id (by decide) (by rw [rowK_len]; omega) (fun x hx d J hJ => ?_) (fun x hx _ d J hJ => ?_) ?_
    · obtain ⟨k, hk, rfl⟩ := rowK_mem hx
      (repeat ((conv => whnf); first | refine k_i1 ?_ | refine k_i2 ?_ | refine k_i3 ?_ | refine k_i4 ?_ | refine k_i5 ?_ | refine k_i6 ?_ | refine k_i7 ?_ | refine k_b1 ?_ | refine k_b2 ?_ | refine k_b3 ?_ | refine k_b4 ?_ | refine k_b5 ?_ | refine k_b6 ?_ | refine k_b7 ?_ | refine k_s1 ?_ | refine k_s2 ?_ | refine k_s3 ?_ | refine k_s4 ?_ | refine k_s5 ?_ | refine k_s6 ?_ | refine k_s7 ?_ | refine k_t1 ?_ | refine k_t2 ?_ | refine k_t3 ?_ | refine k_t4 ?_ | refine k_t5 ?_ | refine k_t6 ?_ | refine k_t7 ?_ | refine k_l1 ?_ | refine k_l2 ?_ | refine k_l3 ?_ | refine k_l4 ?_ | refine k_l5 ?_ | refine k_l6 ?_ | refine k_l7 ?_ | refine k_n6 ?_ | refine k_n7 ?_ | refine k_n1 ?_ | refine k_n2 ?_ | refine k_n3 ?_ | refine k_n4 ?_ | refine k_n5 ?_ | refine ⟨dok_scal rfl rfl, dok_scal rfl rfl, ?_⟩ | refine ⟨_, rfl, ?_⟩)); (conv => whnf); (try dsimp only [PSt.set, List.set_cons_zero, List.set_cons_succ, wipeP, backP, List.getD_cons_zero, List.getD_cons_succ])
      exact hJ
    · obtain ⟨k, hk, rfl⟩ := rowK_mem hx
      (repeat ((conv => whnf); first | refine k_i1 ?_ | refine k_i2 ?_ | refine k_i3 ?_ | refine k_i4 ?_ | refine k_i5 ?_ | refine k_i6 ?_ | refine k_i7 ?_ | refine k_b1 ?_ | refine k_b2 ?_ | refine k_b3 ?_ | refine k_b4 ?_ | refine k_b5 ?_ | refine k_b6 ?_ | refine k_b7 ?_ | refine k_s1 ?_ | refine k_s2 ?_ | refine k_s3 ?_ | refine k_s4 ?_ | refine k_s5 ?_ | refine k_s6 ?_ | refine k_s7 ?_ | refine k_t1 ?_ | refine k_t2 ?_ | refine k_t3 ?_ | refine k_t4 ?_ | refine k_t5 ?_ | refine k_t6 ?_ | refine k_t7 ?_ | refine k_l1 ?_ | refine k_l2 ?_ | refine k_l3 ?_ | refine k_l4 ?_ | refine k_l5 ?_ | refine k_l6 ?_ | refine k_l7 ?_ | refine k_n6 ?_ | refine k_n7 ?_ | refine k_n1 ?_ | refine k_n2 ?_ | refine k_n3 ?_ | refine k_n4 ?_ | refine k_n5 ?_ | refine ⟨dok_scal rfl rfl, dok_scal rfl rfl, ?_⟩ | refine ⟨_, rfl, ?_⟩)); (conv => whnf); (try dsimp only [PSt.set, List.set_cons_zero, List.set_cons_succ, wipeP, backP, List.getD_cons_zero, List.getD_cons_succ])
      exact hJ
    rw [lowF, List.map_id]
    (repeat ((conv => whnf); first | refine k_i1 ?_ | refine k_i2 ?_ | refine k_i3 ?_ | refine k_i4 ?_ | refine k_i5 ?_ | refine k_i6 ?_ | refine k_i7 ?_ | refine k_b1 ?_ | refine k_b2 ?_ | refine k_b3 ?_ | refine k_b4 ?_ | refine k_b5 ?_ | refine k_b6 ?_ | refine k_b7 ?_ | refine k_s1 ?_ | refine k_s2 ?_ | refine k_s3 ?_ | refine k_s4 ?_ | refine k_s5 ?_ | refine k_s6 ?_ | refine k_s7 ?_ | refine k_t1 ?_ | refine k_t2 ?_ | refine k_t3 ?_ | refine k_t4 ?_ | refine k_t5 ?_ | refine k_t6 ?_ | refine k_t7 ?_ | refine k_l1 ?_ | refine k_l2 ?_ | refine k_l3 ?_ | refine k_l4 ?_ | refine k_l5 ?_ | refine k_l6 ?_ | refine k_l7 ?_ | refine k_n6 ?_ | refine k_n7 ?_ | refine k_n1 ?_ | refine k_n2 ?_ | refine k_n3 ?_ | refine k_n4 ?_ | refine k_n5 ?_ | refine ⟨dok_scal rfl rfl, dok_scal rfl rfl, ?_⟩ | refine ⟨_, rfl, ?_⟩)); (conv => whnf); (try dsimp only [PSt.set, List.set_cons_zero, List.set_cons_succ, wipeP, backP, List.getD_cons_zero, List.getD_cons_succ])
    refine p_same 2 _ deep_rowK (gdv_rowK (by omega)) ?_
    exact hD _ rfl
  rintro _ rfl
  -- statement 8
  obtain ⟨B, hB500, hB1, hB2⟩ := un_cut hu (t := Big) (by decide) (Int.le_refl _)
  have hB0 : 1 ≤ B := by
    rcases B with _ | B
    · exact absurd hB2 (by simp [U]; decide)
    · omega
  refine cutS (fun p' => p' = ⟨[.val .cell, .val (.tup [.int p, .int q]), .val (.lst (rowU p q 520)), .val (.tup gs), .val (.int top), .val (.lst (rowK p q L)), a6, a7, .un, .val (.lst (rowK p q N)), .val (.lst (idx B)), .un, .un, .un, .un, .un, .un, .un, .un, .un, .un], d - 1 - 2 - 1⟩) (fun D' hD => ?_) ?_
  · (repeat ((conv => whnf); first | refine k_i1 ?_ | refine k_i2 ?_ | refine k_i3 ?_ | refine k_i4 ?_ | refine k_i5 ?_ | refine k_i6 ?_ | refine k_i7 ?_ | refine k_b1 ?_ | refine k_b2 ?_ | refine k_b3 ?_ | refine k_b4 ?_ | refine k_b5 ?_ | refine k_b6 ?_ | refine k_b7 ?_ | refine k_s1 ?_ | refine k_s2 ?_ | refine k_s3 ?_ | refine k_s4 ?_ | refine k_s5 ?_ | refine k_s6 ?_ | refine k_s7 ?_ | refine k_t1 ?_ | refine k_t2 ?_ | refine k_t3 ?_ | refine k_t4 ?_ | refine k_t5 ?_ | refine k_t6 ?_ | refine k_t7 ?_ | refine k_l1 ?_ | refine k_l2 ?_ | refine k_l3 ?_ | refine k_l4 ?_ | refine k_l5 ?_ | refine k_l6 ?_ | refine k_l7 ?_ | refine k_n6 ?_ | refine k_n7 ?_ | refine k_n1 ?_ | refine k_n2 ?_ | refine k_n3 ?_ | refine k_n4 ?_ | refine k_n5 ?_ | refine ⟨dok_scal rfl rfl, dok_scal rfl rfl, ?_⟩ | refine ⟨_, rfl, ?_⟩)); (conv => whnf); (try dsimp only [PSt.set, List.set_cons_zero, List.set_cons_succ, wipeP, backP, List.getD_cons_zero, List.getD_cons_succ])
    refine ⟨by decide, ?_⟩
    refine comp_if (i := 8) (own := [19, 8]) (items := rngL 0 ((500 : Nat) : Int)) (fitC p q) id (by decide) (by rw [rng_len]; decide) (fun x hx d J hJ => ?_) (fun x hx _ d J hJ => ?_) ?_
    · obtain ⟨k, hk, rfl⟩ := rng_mem hx
      (repeat ((conv => whnf); first | refine k_i1 ?_ | refine k_i2 ?_ | refine k_i3 ?_ | refine k_i4 ?_ | refine k_i5 ?_ | refine k_i6 ?_ | refine k_i7 ?_ | refine k_b1 ?_ | refine k_b2 ?_ | refine k_b3 ?_ | refine k_b4 ?_ | refine k_b5 ?_ | refine k_b6 ?_ | refine k_b7 ?_ | refine k_s1 ?_ | refine k_s2 ?_ | refine k_s3 ?_ | refine k_s4 ?_ | refine k_s5 ?_ | refine k_s6 ?_ | refine k_s7 ?_ | refine k_t1 ?_ | refine k_t2 ?_ | refine k_t3 ?_ | refine k_t4 ?_ | refine k_t5 ?_ | refine k_t6 ?_ | refine k_t7 ?_ | refine k_l1 ?_ | refine k_l2 ?_ | refine k_l3 ?_ | refine k_l4 ?_ | refine k_l5 ?_ | refine k_l6 ?_ | refine k_l7 ?_ | refine k_n6 ?_ | refine k_n7 ?_ | refine k_n1 ?_ | refine k_n2 ?_ | refine k_n3 ?_ | refine k_n4 ?_ | refine k_n5 ?_ | refine ⟨dok_scal rfl rfl, dok_scal rfl rfl, ?_⟩ | refine ⟨_, rfl, ?_⟩)); (conv => whnf); (try dsimp only [PSt.set, List.set_cons_zero, List.set_cons_succ, wipeP, backP, List.getD_cons_zero, List.getD_cons_succ])
      refine ⟨_, rowK_sub (by omega), ?_⟩
      (repeat ((conv => whnf); first | refine k_i1 ?_ | refine k_i2 ?_ | refine k_i3 ?_ | refine k_i4 ?_ | refine k_i5 ?_ | refine k_i6 ?_ | refine k_i7 ?_ | refine k_b1 ?_ | refine k_b2 ?_ | refine k_b3 ?_ | refine k_b4 ?_ | refine k_b5 ?_ | refine k_b6 ?_ | refine k_b7 ?_ | refine k_s1 ?_ | refine k_s2 ?_ | refine k_s3 ?_ | refine k_s4 ?_ | refine k_s5 ?_ | refine k_s6 ?_ | refine k_s7 ?_ | refine k_t1 ?_ | refine k_t2 ?_ | refine k_t3 ?_ | refine k_t4 ?_ | refine k_t5 ?_ | refine k_t6 ?_ | refine k_t7 ?_ | refine k_l1 ?_ | refine k_l2 ?_ | refine k_l3 ?_ | refine k_l4 ?_ | refine k_l5 ?_ | refine k_l6 ?_ | refine k_l7 ?_ | refine k_n6 ?_ | refine k_n7 ?_ | refine k_n1 ?_ | refine k_n2 ?_ | refine k_n3 ?_ | refine k_n4 ?_ | refine k_n5 ?_ | refine ⟨dok_scal rfl rfl, dok_scal rfl rfl, ?_⟩ | refine ⟨_, rfl, ?_⟩)); (conv => whnf); (try dsimp only [PSt.set, List.set_cons_zero, List.set_cons_succ, wipeP, backP, List.getD_cons_zero, List.getD_cons_succ])
      refine ⟨by decide, by decide, by decide, ?_⟩
      (repeat ((conv => whnf); first | refine k_i1 ?_ | refine k_i2 ?_ | refine k_i3 ?_ | refine k_i4 ?_ | refine k_i5 ?_ | refine k_i6 ?_ | refine k_i7 ?_ | refine k_b1 ?_ | refine k_b2 ?_ | refine k_b3 ?_ | refine k_b4 ?_ | refine k_b5 ?_ | refine k_b6 ?_ | refine k_b7 ?_ | refine k_s1 ?_ | refine k_s2 ?_ | refine k_s3 ?_ | refine k_s4 ?_ | refine k_s5 ?_ | refine k_s6 ?_ | refine k_s7 ?_ | refine k_t1 ?_ | refine k_t2 ?_ | refine k_t3 ?_ | refine k_t4 ?_ | refine k_t5 ?_ | refine k_t6 ?_ | refine k_t7 ?_ | refine k_l1 ?_ | refine k_l2 ?_ | refine k_l3 ?_ | refine k_l4 ?_ | refine k_l5 ?_ | refine k_l6 ?_ | refine k_l7 ?_ | refine k_n6 ?_ | refine k_n7 ?_ | refine k_n1 ?_ | refine k_n2 ?_ | refine k_n3 ?_ | refine k_n4 ?_ | refine k_n5 ?_ | refine ⟨dok_scal rfl rfl, dok_scal rfl rfl, ?_⟩ | refine ⟨_, rfl, ?_⟩)); (conv => whnf); (try dsimp only [PSt.set, List.set_cons_zero, List.set_cons_succ, wipeP, backP, List.getD_cons_zero, List.getD_cons_succ])
      refine ⟨by decide, by decide, by decide, ?_⟩
      (repeat ((conv => whnf); first | refine k_i1 ?_ | refine k_i2 ?_ | refine k_i3 ?_ | refine k_i4 ?_ | refine k_i5 ?_ | refine k_i6 ?_ | refine k_i7 ?_ | refine k_b1 ?_ | refine k_b2 ?_ | refine k_b3 ?_ | refine k_b4 ?_ | refine k_b5 ?_ | refine k_b6 ?_ | refine k_b7 ?_ | refine k_s1 ?_ | refine k_s2 ?_ | refine k_s3 ?_ | refine k_s4 ?_ | refine k_s5 ?_ | refine k_s6 ?_ | refine k_s7 ?_ | refine k_t1 ?_ | refine k_t2 ?_ | refine k_t3 ?_ | refine k_t4 ?_ | refine k_t5 ?_ | refine k_t6 ?_ | refine k_t7 ?_ | refine k_l1 ?_ | refine k_l2 ?_ | refine k_l3 ?_ | refine k_l4 ?_ | refine k_l5 ?_ | refine k_l6 ?_ | refine k_l7 ?_ | refine k_n6 ?_ | refine k_n7 ?_ | refine k_n1 ?_ | refine k_n2 ?_ | refine k_n3 ?_ | refine k_n4 ?_ | refine k_n5 ?_ | refine ⟨dok_scal rfl rfl, dok_scal rfl rfl, ?_⟩ | refine ⟨_, rfl, ?_⟩)); (conv => whnf); (try dsimp only [PSt.set, List.set_cons_zero, List.set_cons_succ, wipeP, backP, List.getD_cons_zero, List.getD_cons_succ])
      refine ⟨mB, ?_⟩
      rw [eB]
      exact hJ
    · obtain ⟨k, hk, rfl⟩ := rng_mem hx
      (repeat ((conv => whnf); first | refine k_i1 ?_ | refine k_i2 ?_ | refine k_i3 ?_ | refine k_i4 ?_ | refine k_i5 ?_ | refine k_i6 ?_ | refine k_i7 ?_ | refine k_b1 ?_ | refine k_b2 ?_ | refine k_b3 ?_ | refine k_b4 ?_ | refine k_b5 ?_ | refine k_b6 ?_ | refine k_b7 ?_ | refine k_s1 ?_ | refine k_s2 ?_ | refine k_s3 ?_ | refine k_s4 ?_ | refine k_s5 ?_ | refine k_s6 ?_ | refine k_s7 ?_ | refine k_t1 ?_ | refine k_t2 ?_ | refine k_t3 ?_ | refine k_t4 ?_ | refine k_t5 ?_ | refine k_t6 ?_ | refine k_t7 ?_ | refine k_l1 ?_ | refine k_l2 ?_ | refine k_l3 ?_ | refine k_l4 ?_ | refine k_l5 ?_ | refine k_l6 ?_ | refine k_l7 ?_ | refine k_n6 ?_ | refine k_n7 ?_ | refine k_n1 ?_ | refine k_n2 ?_ | refine k_n3 ?_ | refine k_n4 ?_ | refine k_n5 ?_ | refine ⟨dok_scal rfl rfl, dok_scal rfl rfl, ?_⟩ | refine ⟨_, rfl, ?_⟩)); (conv => whnf); (try dsimp only [PSt.set, List.set_cons_zero, List.set_cons_succ, wipeP, backP, List.getD_cons_zero, List.getD_cons_succ])
      exact hJ
    rw [List.map_id]
    rw [fits_idx hu hB500 hB1 hB2]
    exact hD _ rfl
  rintro _ rfl
  (repeat ((conv => whnf); first | refine k_i1 ?_ | refine k_i2 ?_ | refine k_i3 ?_ | refine k_i4 ?_ | refine k_i5 ?_ | refine k_i6 ?_ | refine k_i7 ?_ | refine k_b1 ?_ | refine k_b2 ?_ | refine k_b3 ?_ | refine k_b4 ?_ | refine k_b5 ?_ | refine k_b6 ?_ | refine k_b7 ?_ | refine k_s1 ?_ | refine k_s2 ?_ | refine k_s3 ?_ | refine k_s4 ?_ | refine k_s5 ?_ | refine k_s6 ?_ | refine k_s7 ?_ | refine k_t1 ?_ | refine k_t2 ?_ | refine k_t3 ?_ | refine k_t4 ?_ | refine k_t5 ?_ | refine k_t6 ?_ | refine k_t7 ?_ | refine k_l1 ?_ | refine k_l2 ?_ | refine k_l3 ?_ | refine k_l4 ?_ | refine k_l5 ?_ | refine k_l6 ?_ | refine k_l7 ?_ | refine k_n6 ?_ | refine k_n7 ?_ | refine k_n1 ?_ | refine k_n2 ?_ | refine k_n3 ?_ | refine k_n4 ?_ | refine k_n5 ?_ | refine ⟨dok_scal rfl rfl, dok_scal rfl rfl, ?_⟩ | refine ⟨_, rfl, ?_⟩)); (conv => whnf); (try dsimp only [PSt.set, List.set_cons_zero, List.set_cons_succ, wipeP, backP, List.getD_cons_zero, List.getD_cons_succ])
  refine p_law_of (by omega) (fun z => by have := congrArg List.length z; rw [idx_len] at this; simp at this; omega) (by rw [idx_len]; omega) fun y hy => ?_
  obtain ⟨k, hk, rfl⟩ := idx_mem hy
  (repeat ((conv => whnf); first | refine k_i1 ?_ | refine k_i2 ?_ | refine k_i3 ?_ | refine k_i4 ?_ | refine k_i5 ?_ | refine k_i6 ?_ | refine k_i7 ?_ | refine k_b1 ?_ | refine k_b2 ?_ | refine k_b3 ?_ | refine k_b4 ?_ | refine k_b5 ?_ | refine k_b6 ?_ | refine k_b7 ?_ | refine k_s1 ?_ | refine k_s2 ?_ | refine k_s3 ?_ | refine k_s4 ?_ | refine k_s5 ?_ | refine k_s6 ?_ | refine k_s7 ?_ | refine k_t1 ?_ | refine k_t2 ?_ | refine k_t3 ?_ | refine k_t4 ?_ | refine k_t5 ?_ | refine k_t6 ?_ | refine k_t7 ?_ | refine k_l1 ?_ | refine k_l2 ?_ | refine k_l3 ?_ | refine k_l4 ?_ | refine k_l5 ?_ | refine k_l6 ?_ | refine k_l7 ?_ | refine k_n6 ?_ | refine k_n7 ?_ | refine k_n1 ?_ | refine k_n2 ?_ | refine k_n3 ?_ | refine k_n4 ?_ | refine k_n5 ?_ | refine ⟨dok_scal rfl rfl, dok_scal rfl rfl, ?_⟩ | refine ⟨_, rfl, ?_⟩)); (conv => whnf); (try dsimp only [PSt.set, List.set_cons_zero, List.set_cons_succ, wipeP, backP, List.getD_cons_zero, List.getD_cons_succ])
  refine ⟨_, rowK_sub (by omega), ?_⟩
  have hkB := hB1 k hk
  obtain ⟨um1, um2, um3⟩ := un_mono hu k
  have hB5 : (5000 : Int) ≤ Big := by decide
  have ugap := un_gap hu hkB
  have sa : Sm 340 (U p q (k + 1)) := sm_big (by omega) hkB
  have sb : Sm 340 (U p q k) := sm_big (by omega) (by omega)
  -- statement 11
  refine cutS (fun p' => p' = ⟨[.val .cell, .val (.tup [.int p, .int q]), .val (.lst (rowU p q 520)), .val (.tup gs), .val (.int top), .val (.lst (rowK p q L)), .val (.int (U p q (k + 1))), .val (.int (U p q k)), .val (.int k), .val (.lst (rowK p q N)), .val (.lst (idx B)), .un, .un, .un, .un, .un, .un, .un, .un, .un, .un], d - 1 - 2 - 1 - 1⟩) (fun D' hD => ?_) ?_
  · (repeat ((conv => whnf); first | refine k_i1 ?_ | refine k_i2 ?_ | refine k_i3 ?_ | refine k_i4 ?_ | refine k_i5 ?_ | refine k_i6 ?_ | refine k_i7 ?_ | refine k_b1 ?_ | refine k_b2 ?_ | refine k_b3 ?_ | refine k_b4 ?_ | refine k_b5 ?_ | refine k_b6 ?_ | refine k_b7 ?_ | refine k_s1 ?_ | refine k_s2 ?_ | refine k_s3 ?_ | refine k_s4 ?_ | refine k_s5 ?_ | refine k_s6 ?_ | refine k_s7 ?_ | refine k_t1 ?_ | refine k_t2 ?_ | refine k_t3 ?_ | refine k_t4 ?_ | refine k_t5 ?_ | refine k_t6 ?_ | refine k_t7 ?_ | refine k_l1 ?_ | refine k_l2 ?_ | refine k_l3 ?_ | refine k_l4 ?_ | refine k_l5 ?_ | refine k_l6 ?_ | refine k_l7 ?_ | refine k_n6 ?_ | refine k_n7 ?_ | refine k_n1 ?_ | refine k_n2 ?_ | refine k_n3 ?_ | refine k_n4 ?_ | refine k_n5 ?_ | refine ⟨dok_scal rfl rfl, dok_scal rfl rfl, ?_⟩ | refine ⟨_, rfl, ?_⟩)); (conv => whnf); (try dsimp only [PSt.set, List.set_cons_zero, List.set_cons_succ, wipeP, backP, List.getD_cons_zero, List.getD_cons_succ])
    refine p_is_unit (p := p) (q := q) (.inr rfl) ok ?_
    (repeat ((conv => whnf); first | refine k_i1 ?_ | refine k_i2 ?_ | refine k_i3 ?_ | refine k_i4 ?_ | refine k_i5 ?_ | refine k_i6 ?_ | refine k_i7 ?_ | refine k_b1 ?_ | refine k_b2 ?_ | refine k_b3 ?_ | refine k_b4 ?_ | refine k_b5 ?_ | refine k_b6 ?_ | refine k_b7 ?_ | refine k_s1 ?_ | refine k_s2 ?_ | refine k_s3 ?_ | refine k_s4 ?_ | refine k_s5 ?_ | refine k_s6 ?_ | refine k_s7 ?_ | refine k_t1 ?_ | refine k_t2 ?_ | refine k_t3 ?_ | refine k_t4 ?_ | refine k_t5 ?_ | refine k_t6 ?_ | refine k_t7 ?_ | refine k_l1 ?_ | refine k_l2 ?_ | refine k_l3 ?_ | refine k_l4 ?_ | refine k_l5 ?_ | refine k_l6 ?_ | refine k_l7 ?_ | refine k_n6 ?_ | refine k_n7 ?_ | refine k_n1 ?_ | refine k_n2 ?_ | refine k_n3 ?_ | refine k_n4 ?_ | refine k_n5 ?_ | refine ⟨dok_scal rfl rfl, dok_scal rfl rfl, ?_⟩ | refine ⟨_, rfl, ?_⟩)); (conv => whnf); (try dsimp only [PSt.set, List.set_cons_zero, List.set_cons_succ, wipeP, backP, List.getD_cons_zero, List.getD_cons_succ])
    refine p_nplace (a := U p q (k + 1)) (b := U p q k) hu (by omega) (by omega) (by omega) (by omega) (fun k' e1 e2 => ?_) fun z => absurd ⟨rfl, rfl⟩ (z k)
    have e := un_inj hu e1 e2
    subst e
    (repeat ((conv => whnf); first | refine k_i1 ?_ | refine k_i2 ?_ | refine k_i3 ?_ | refine k_i4 ?_ | refine k_i5 ?_ | refine k_i6 ?_ | refine k_i7 ?_ | refine k_b1 ?_ | refine k_b2 ?_ | refine k_b3 ?_ | refine k_b4 ?_ | refine k_b5 ?_ | refine k_b6 ?_ | refine k_b7 ?_ | refine k_s1 ?_ | refine k_s2 ?_ | refine k_s3 ?_ | refine k_s4 ?_ | refine k_s5 ?_ | refine k_s6 ?_ | refine k_s7 ?_ | refine k_t1 ?_ | refine k_t2 ?_ | refine k_t3 ?_ | refine k_t4 ?_ | refine k_t5 ?_ | refine k_t6 ?_ | refine k_t7 ?_ | refine k_l1 ?_ | refine k_l2 ?_ | refine k_l3 ?_ | refine k_l4 ?_ | refine k_l5 ?_ | refine k_l6 ?_ | refine k_l7 ?_ | refine k_n6 ?_ | refine k_n7 ?_ | refine k_n1 ?_ | refine k_n2 ?_ | refine k_n3 ?_ | refine k_n4 ?_ | refine k_n5 ?_ | refine ⟨dok_scal rfl rfl, dok_scal rfl rfl, ?_⟩ | refine ⟨_, rfl, ?_⟩)); (conv => whnf); (try dsimp only [PSt.set, List.set_cons_zero, List.set_cons_succ, wipeP, backP, List.getD_cons_zero, List.getD_cons_succ])
    refine p_form_of (a := U p q (k + 1)) (b := U p q k) ok (by omega) (by omega) (by omega) (by omega) ?_
    have hun : isU p q = true := hu.is
    (conv => whnf); (try dsimp only [PSt.set, List.set_cons_zero, List.set_cons_succ, wipeP, backP, List.getD_cons_zero, List.getD_cons_succ])
    refine cnd_of (fun c => ?_) fun c => ?_
    · have c : (0 : Int) < k := of_decide_eq_true c
      obtain ⟨j, rfl⟩ : ∃ j, k = j + 1 := ⟨k - 1, by omega⟩
      have um4 := un_mono hu j
      have sc : Sm 340 (U p q j) := sm_big (by omega) (by omega)
      have eat : atI (rowU p q 520) (((j + 1 : Nat) : Int) - 1) = some (.int (U p q j)) := by
        rw [show (((j + 1 : Nat) : Int) - 1) = (j : Int) by omega]
        exact rowU_at (by omega)
      (repeat ((conv => whnf); first | refine k_i1 ?_ | refine k_i2 ?_ | refine k_i3 ?_ | refine k_i4 ?_ | refine k_i5 ?_ | refine k_i6 ?_ | refine k_i7 ?_ | refine k_b1 ?_ | refine k_b2 ?_ | refine k_b3 ?_ | refine k_b4 ?_ | refine k_b5 ?_ | refine k_b6 ?_ | refine k_b7 ?_ | refine k_s1 ?_ | refine k_s2 ?_ | refine k_s3 ?_ | refine k_s4 ?_ | refine k_s5 ?_ | refine k_s6 ?_ | refine k_s7 ?_ | refine k_t1 ?_ | refine k_t2 ?_ | refine k_t3 ?_ | refine k_t4 ?_ | refine k_t5 ?_ | refine k_t6 ?_ | refine k_t7 ?_ | refine k_l1 ?_ | refine k_l2 ?_ | refine k_l3 ?_ | refine k_l4 ?_ | refine k_l5 ?_ | refine k_l6 ?_ | refine k_l7 ?_ | refine k_n6 ?_ | refine k_n7 ?_ | refine k_n1 ?_ | refine k_n2 ?_ | refine k_n3 ?_ | refine k_n4 ?_ | refine k_n5 ?_ | refine ⟨dok_scal rfl rfl, dok_scal rfl rfl, ?_⟩ | refine ⟨_, rfl, ?_⟩)); (conv => whnf); (try dsimp only [PSt.set, List.set_cons_zero, List.set_cons_succ, wipeP, backP, List.getD_cons_zero, List.getD_cons_succ])
      refine ⟨_, eat, ?_⟩
      (repeat ((conv => whnf); first | refine k_i1 ?_ | refine k_i2 ?_ | refine k_i3 ?_ | refine k_i4 ?_ | refine k_i5 ?_ | refine k_i6 ?_ | refine k_i7 ?_ | refine k_b1 ?_ | refine k_b2 ?_ | refine k_b3 ?_ | refine k_b4 ?_ | refine k_b5 ?_ | refine k_b6 ?_ | refine k_b7 ?_ | refine k_s1 ?_ | refine k_s2 ?_ | refine k_s3 ?_ | refine k_s4 ?_ | refine k_s5 ?_ | refine k_s6 ?_ | refine k_s7 ?_ | refine k_t1 ?_ | refine k_t2 ?_ | refine k_t3 ?_ | refine k_t4 ?_ | refine k_t5 ?_ | refine k_t6 ?_ | refine k_t7 ?_ | refine k_l1 ?_ | refine k_l2 ?_ | refine k_l3 ?_ | refine k_l4 ?_ | refine k_l5 ?_ | refine k_l6 ?_ | refine k_l7 ?_ | refine k_n6 ?_ | refine k_n7 ?_ | refine k_n1 ?_ | refine k_n2 ?_ | refine k_n3 ?_ | refine k_n4 ?_ | refine k_n5 ?_ | refine ⟨dok_scal rfl rfl, dok_scal rfl rfl, ?_⟩ | refine ⟨_, rfl, ?_⟩)); (conv => whnf); (try dsimp only [PSt.set, List.set_cons_zero, List.set_cons_succ, wipeP, backP, List.getD_cons_zero, List.getD_cons_succ])
      refine p_step_on (a := U p q (j + 1)) (b := U p q j) ok (by omega) (by omega) (by omega) (by omega) ?_
      (repeat ((conv => whnf); first | refine k_i1 ?_ | refine k_i2 ?_ | refine k_i3 ?_ | refine k_i4 ?_ | refine k_i5 ?_ | refine k_i6 ?_ | refine k_i7 ?_ | refine k_b1 ?_ | refine k_b2 ?_ | refine k_b3 ?_ | refine k_b4 ?_ | refine k_b5 ?_ | refine k_b6 ?_ | refine k_b7 ?_ | refine k_s1 ?_ | refine k_s2 ?_ | refine k_s3 ?_ | refine k_s4 ?_ | refine k_s5 ?_ | refine k_s6 ?_ | refine k_s7 ?_ | refine k_t1 ?_ | refine k_t2 ?_ | refine k_t3 ?_ | refine k_t4 ?_ | refine k_t5 ?_ | refine k_t6 ?_ | refine k_t7 ?_ | refine k_l1 ?_ | refine k_l2 ?_ | refine k_l3 ?_ | refine k_l4 ?_ | refine k_l5 ?_ | refine k_l6 ?_ | refine k_l7 ?_ | refine k_n6 ?_ | refine k_n7 ?_ | refine k_n1 ?_ | refine k_n2 ?_ | refine k_n3 ?_ | refine k_n4 ?_ | refine k_n5 ?_ | refine ⟨dok_scal rfl rfl, dok_scal rfl rfl, ?_⟩ | refine ⟨_, rfl, ?_⟩)); (conv => whnf); (try dsimp only [PSt.set, List.set_cons_zero, List.set_cons_succ, wipeP, backP, List.getD_cons_zero, List.getD_cons_succ])
      refine p_law_power (k := 10) (n := j + 1) sq (by omega) (by decide) (by omega) ?_
      (repeat ((conv => whnf); first | refine k_i1 ?_ | refine k_i2 ?_ | refine k_i3 ?_ | refine k_i4 ?_ | refine k_i5 ?_ | refine k_i6 ?_ | refine k_i7 ?_ | refine k_b1 ?_ | refine k_b2 ?_ | refine k_b3 ?_ | refine k_b4 ?_ | refine k_b5 ?_ | refine k_b6 ?_ | refine k_b7 ?_ | refine k_s1 ?_ | refine k_s2 ?_ | refine k_s3 ?_ | refine k_s4 ?_ | refine k_s5 ?_ | refine k_s6 ?_ | refine k_s7 ?_ | refine k_t1 ?_ | refine k_t2 ?_ | refine k_t3 ?_ | refine k_t4 ?_ | refine k_t5 ?_ | refine k_t6 ?_ | refine k_t7 ?_ | refine k_l1 ?_ | refine k_l2 ?_ | refine k_l3 ?_ | refine k_l4 ?_ | refine k_l5 ?_ | refine k_l6 ?_ | refine k_l7 ?_ | refine k_n6 ?_ | refine k_n7 ?_ | refine k_n1 ?_ | refine k_n2 ?_ | refine k_n3 ?_ | refine k_n4 ?_ | refine k_n5 ?_ | refine ⟨dok_scal rfl rfl, dok_scal rfl rfl, ?_⟩ | refine ⟨_, rfl, ?_⟩)); (conv => whnf); (try dsimp only [PSt.set, List.set_cons_zero, List.set_cons_succ, wipeP, backP, List.getD_cons_zero, List.getD_cons_succ])
      refine ⟨sp.ok sb (by decide) (by decide), ?_⟩
      refine ⟨_, rfl, ?_⟩
      (conv => whnf); (try dsimp only [PSt.set, List.set_cons_zero, List.set_cons_succ, wipeP, backP, List.getD_cons_zero, List.getD_cons_succ])
      rw [decide_eq_true c]
      (repeat ((conv => whnf); first | refine k_i1 ?_ | refine k_i2 ?_ | refine k_i3 ?_ | refine k_i4 ?_ | refine k_i5 ?_ | refine k_i6 ?_ | refine k_i7 ?_ | refine k_b1 ?_ | refine k_b2 ?_ | refine k_b3 ?_ | refine k_b4 ?_ | refine k_b5 ?_ | refine k_b6 ?_ | refine k_b7 ?_ | refine k_s1 ?_ | refine k_s2 ?_ | refine k_s3 ?_ | refine k_s4 ?_ | refine k_s5 ?_ | refine k_s6 ?_ | refine k_s7 ?_ | refine k_t1 ?_ | refine k_t2 ?_ | refine k_t3 ?_ | refine k_t4 ?_ | refine k_t5 ?_ | refine k_t6 ?_ | refine k_t7 ?_ | refine k_l1 ?_ | refine k_l2 ?_ | refine k_l3 ?_ | refine k_l4 ?_ | refine k_l5 ?_ | refine k_l6 ?_ | refine k_l7 ?_ | refine k_n6 ?_ | refine k_n7 ?_ | refine k_n1 ?_ | refine k_n2 ?_ | refine k_n3 ?_ | refine k_n4 ?_ | refine k_n5 ?_ | refine ⟨dok_scal rfl rfl, dok_scal rfl rfl, ?_⟩ | refine ⟨_, rfl, ?_⟩)); (conv => whnf); (try dsimp only [PSt.set, List.set_cons_zero, List.set_cons_succ, wipeP, backP, List.getD_cons_zero, List.getD_cons_succ])
      refine ⟨_, eat, ?_⟩
      (repeat ((conv => whnf); first | refine k_i1 ?_ | refine k_i2 ?_ | refine k_i3 ?_ | refine k_i4 ?_ | refine k_i5 ?_ | refine k_i6 ?_ | refine k_i7 ?_ | refine k_b1 ?_ | refine k_b2 ?_ | refine k_b3 ?_ | refine k_b4 ?_ | refine k_b5 ?_ | refine k_b6 ?_ | refine k_b7 ?_ | refine k_s1 ?_ | refine k_s2 ?_ | refine k_s3 ?_ | refine k_s4 ?_ | refine k_s5 ?_ | refine k_s6 ?_ | refine k_s7 ?_ | refine k_t1 ?_ | refine k_t2 ?_ | refine k_t3 ?_ | refine k_t4 ?_ | refine k_t5 ?_ | refine k_t6 ?_ | refine k_t7 ?_ | refine k_l1 ?_ | refine k_l2 ?_ | refine k_l3 ?_ | refine k_l4 ?_ | refine k_l5 ?_ | refine k_l6 ?_ | refine k_l7 ?_ | refine k_n6 ?_ | refine k_n7 ?_ | refine k_n1 ?_ | refine k_n2 ?_ | refine k_n3 ?_ | refine k_n4 ?_ | refine k_n5 ?_ | refine ⟨dok_scal rfl rfl, dok_scal rfl rfl, ?_⟩ | refine ⟨_, rfl, ?_⟩)); (conv => whnf); (try dsimp only [PSt.set, List.set_cons_zero, List.set_cons_succ, wipeP, backP, List.getD_cons_zero, List.getD_cons_succ])
      refine ⟨sq.ok sc (by decide) (by decide), ?_⟩
      rw [fm_U, hun]
      (repeat ((conv => whnf); first | refine k_i1 ?_ | refine k_i2 ?_ | refine k_i3 ?_ | refine k_i4 ?_ | refine k_i5 ?_ | refine k_i6 ?_ | refine k_i7 ?_ | refine k_b1 ?_ | refine k_b2 ?_ | refine k_b3 ?_ | refine k_b4 ?_ | refine k_b5 ?_ | refine k_b6 ?_ | refine k_b7 ?_ | refine k_s1 ?_ | refine k_s2 ?_ | refine k_s3 ?_ | refine k_s4 ?_ | refine k_s5 ?_ | refine k_s6 ?_ | refine k_s7 ?_ | refine k_t1 ?_ | refine k_t2 ?_ | refine k_t3 ?_ | refine k_t4 ?_ | refine k_t5 ?_ | refine k_t6 ?_ | refine k_t7 ?_ | refine k_l1 ?_ | refine k_l2 ?_ | refine k_l3 ?_ | refine k_l4 ?_ | refine k_l5 ?_ | refine k_l6 ?_ | refine k_l7 ?_ | refine k_n6 ?_ | refine k_n7 ?_ | refine k_n1 ?_ | refine k_n2 ?_ | refine k_n3 ?_ | refine k_n4 ?_ | refine k_n5 ?_ | refine ⟨dok_scal rfl rfl, dok_scal rfl rfl, ?_⟩ | refine ⟨_, rfl, ?_⟩)); (conv => whnf); (try dsimp only [PSt.set, List.set_cons_zero, List.set_cons_succ, wipeP, backP, List.getD_cons_zero, List.getD_cons_succ])
      refine p_same 2 _ (by simp [deep, deeps]) (by simp [gdv, gdvs]) ?_
      exact hD _ rfl
    · have c : ¬ (0 : Int) < k := of_decide_eq_false c
      obtain rfl : k = 0 := by omega
      (repeat ((conv => whnf); first | refine k_i1 ?_ | refine k_i2 ?_ | refine k_i3 ?_ | refine k_i4 ?_ | refine k_i5 ?_ | refine k_i6 ?_ | refine k_i7 ?_ | refine k_b1 ?_ | refine k_b2 ?_ | refine k_b3 ?_ | refine k_b4 ?_ | refine k_b5 ?_ | refine k_b6 ?_ | refine k_b7 ?_ | refine k_s1 ?_ | refine k_s2 ?_ | refine k_s3 ?_ | refine k_s4 ?_ | refine k_s5 ?_ | refine k_s6 ?_ | refine k_s7 ?_ | refine k_t1 ?_ | refine k_t2 ?_ | refine k_t3 ?_ | refine k_t4 ?_ | refine k_t5 ?_ | refine k_t6 ?_ | refine k_t7 ?_ | refine k_l1 ?_ | refine k_l2 ?_ | refine k_l3 ?_ | refine k_l4 ?_ | refine k_l5 ?_ | refine k_l6 ?_ | refine k_l7 ?_ | refine k_n6 ?_ | refine k_n7 ?_ | refine k_n1 ?_ | refine k_n2 ?_ | refine k_n3 ?_ | refine k_n4 ?_ | refine k_n5 ?_ | refine ⟨dok_scal rfl rfl, dok_scal rfl rfl, ?_⟩ | refine ⟨_, rfl, ?_⟩)); (conv => whnf); (try dsimp only [PSt.set, List.set_cons_zero, List.set_cons_succ, wipeP, backP, List.getD_cons_zero, List.getD_cons_succ])
      refine p_step_on (a := U p q 0) (b := 0) ok (by omega) (by omega) (by omega) (by omega) ?_
      (repeat ((conv => whnf); first | refine k_i1 ?_ | refine k_i2 ?_ | refine k_i3 ?_ | refine k_i4 ?_ | refine k_i5 ?_ | refine k_i6 ?_ | refine k_i7 ?_ | refine k_b1 ?_ | refine k_b2 ?_ | refine k_b3 ?_ | refine k_b4 ?_ | refine k_b5 ?_ | refine k_b6 ?_ | refine k_b7 ?_ | refine k_s1 ?_ | refine k_s2 ?_ | refine k_s3 ?_ | refine k_s4 ?_ | refine k_s5 ?_ | refine k_s6 ?_ | refine k_s7 ?_ | refine k_t1 ?_ | refine k_t2 ?_ | refine k_t3 ?_ | refine k_t4 ?_ | refine k_t5 ?_ | refine k_t6 ?_ | refine k_t7 ?_ | refine k_l1 ?_ | refine k_l2 ?_ | refine k_l3 ?_ | refine k_l4 ?_ | refine k_l5 ?_ | refine k_l6 ?_ | refine k_l7 ?_ | refine k_n6 ?_ | refine k_n7 ?_ | refine k_n1 ?_ | refine k_n2 ?_ | refine k_n3 ?_ | refine k_n4 ?_ | refine k_n5 ?_ | refine ⟨dok_scal rfl rfl, dok_scal rfl rfl, ?_⟩ | refine ⟨_, rfl, ?_⟩)); (conv => whnf); (try dsimp only [PSt.set, List.set_cons_zero, List.set_cons_succ, wipeP, backP, List.getD_cons_zero, List.getD_cons_succ])
      refine p_law_power (k := 10) (n := 0) sq (by omega) (by decide) (by omega) ?_
      (repeat ((conv => whnf); first | refine k_i1 ?_ | refine k_i2 ?_ | refine k_i3 ?_ | refine k_i4 ?_ | refine k_i5 ?_ | refine k_i6 ?_ | refine k_i7 ?_ | refine k_b1 ?_ | refine k_b2 ?_ | refine k_b3 ?_ | refine k_b4 ?_ | refine k_b5 ?_ | refine k_b6 ?_ | refine k_b7 ?_ | refine k_s1 ?_ | refine k_s2 ?_ | refine k_s3 ?_ | refine k_s4 ?_ | refine k_s5 ?_ | refine k_s6 ?_ | refine k_s7 ?_ | refine k_t1 ?_ | refine k_t2 ?_ | refine k_t3 ?_ | refine k_t4 ?_ | refine k_t5 ?_ | refine k_t6 ?_ | refine k_t7 ?_ | refine k_l1 ?_ | refine k_l2 ?_ | refine k_l3 ?_ | refine k_l4 ?_ | refine k_l5 ?_ | refine k_l6 ?_ | refine k_l7 ?_ | refine k_n6 ?_ | refine k_n7 ?_ | refine k_n1 ?_ | refine k_n2 ?_ | refine k_n3 ?_ | refine k_n4 ?_ | refine k_n5 ?_ | refine ⟨dok_scal rfl rfl, dok_scal rfl rfl, ?_⟩ | refine ⟨_, rfl, ?_⟩)); (conv => whnf); (try dsimp only [PSt.set, List.set_cons_zero, List.set_cons_succ, wipeP, backP, List.getD_cons_zero, List.getD_cons_succ])
      refine ⟨sp.ok sb (by decide) (by decide), ?_⟩
      (repeat ((conv => whnf); first | refine k_i1 ?_ | refine k_i2 ?_ | refine k_i3 ?_ | refine k_i4 ?_ | refine k_i5 ?_ | refine k_i6 ?_ | refine k_i7 ?_ | refine k_b1 ?_ | refine k_b2 ?_ | refine k_b3 ?_ | refine k_b4 ?_ | refine k_b5 ?_ | refine k_b6 ?_ | refine k_b7 ?_ | refine k_s1 ?_ | refine k_s2 ?_ | refine k_s3 ?_ | refine k_s4 ?_ | refine k_s5 ?_ | refine k_s6 ?_ | refine k_s7 ?_ | refine k_t1 ?_ | refine k_t2 ?_ | refine k_t3 ?_ | refine k_t4 ?_ | refine k_t5 ?_ | refine k_t6 ?_ | refine k_t7 ?_ | refine k_l1 ?_ | refine k_l2 ?_ | refine k_l3 ?_ | refine k_l4 ?_ | refine k_l5 ?_ | refine k_l6 ?_ | refine k_l7 ?_ | refine k_n6 ?_ | refine k_n7 ?_ | refine k_n1 ?_ | refine k_n2 ?_ | refine k_n3 ?_ | refine k_n4 ?_ | refine k_n5 ?_ | refine ⟨dok_scal rfl rfl, dok_scal rfl rfl, ?_⟩ | refine ⟨_, rfl, ?_⟩)); (conv => whnf); (try dsimp only [PSt.set, List.set_cons_zero, List.set_cons_succ, wipeP, backP, List.getD_cons_zero, List.getD_cons_succ])
      refine ⟨sq.ok (Sm.of (a := 1) (by decide) (by decide)) (by decide) (by decide), ?_⟩
      rw [fm_U, hun]
      (repeat ((conv => whnf); first | refine k_i1 ?_ | refine k_i2 ?_ | refine k_i3 ?_ | refine k_i4 ?_ | refine k_i5 ?_ | refine k_i6 ?_ | refine k_i7 ?_ | refine k_b1 ?_ | refine k_b2 ?_ | refine k_b3 ?_ | refine k_b4 ?_ | refine k_b5 ?_ | refine k_b6 ?_ | refine k_b7 ?_ | refine k_s1 ?_ | refine k_s2 ?_ | refine k_s3 ?_ | refine k_s4 ?_ | refine k_s5 ?_ | refine k_s6 ?_ | refine k_s7 ?_ | refine k_t1 ?_ | refine k_t2 ?_ | refine k_t3 ?_ | refine k_t4 ?_ | refine k_t5 ?_ | refine k_t6 ?_ | refine k_t7 ?_ | refine k_l1 ?_ | refine k_l2 ?_ | refine k_l3 ?_ | refine k_l4 ?_ | refine k_l5 ?_ | refine k_l6 ?_ | refine k_l7 ?_ | refine k_n6 ?_ | refine k_n7 ?_ | refine k_n1 ?_ | refine k_n2 ?_ | refine k_n3 ?_ | refine k_n4 ?_ | refine k_n5 ?_ | refine ⟨dok_scal rfl rfl, dok_scal rfl rfl, ?_⟩ | refine ⟨_, rfl, ?_⟩)); (conv => whnf); (try dsimp only [PSt.set, List.set_cons_zero, List.set_cons_succ, wipeP, backP, List.getD_cons_zero, List.getD_cons_succ])
      refine p_same 2 _ (by simp [deep, deeps]) (by simp [gdv, gdvs]) ?_
      exact hD _ rfl
  rintro _ rfl
  -- statement 12
  refine cutS (fun p' => ∃ a11 a12 a13 a14 a15 d', p' = ⟨[.val .cell, .val (.tup [.int p, .int q]), .val (.lst (rowU p q 520)), .val (.tup gs), .val (.int top), .val (.lst (rowK p q L)), .val (.int (U p q (k + 1))), .val (.int (U p q k)), .val (.int k), .val (.lst (rowK p q N)), .val (.lst (idx B)), a11, a12, a13, a14, a15, .un, .un, .un, .un, .un], d'⟩ ∧ d' ≤ d - 1 - 2 - 1 - 1 ∧ d - 1 - 2 - 1 - 1 ≤ d' + 8) (fun D' hD => ?_) ?_
  · (repeat ((conv => whnf); first | refine k_i1 ?_ | refine k_i2 ?_ | refine k_i3 ?_ | refine k_i4 ?_ | refine k_i5 ?_ | refine k_i6 ?_ | refine k_i7 ?_ | refine k_b1 ?_ | refine k_b2 ?_ | refine k_b3 ?_ | refine k_b4 ?_ | refine k_b5 ?_ | refine k_b6 ?_ | refine k_b7 ?_ | refine k_s1 ?_ | refine k_s2 ?_ | refine k_s3 ?_ | refine k_s4 ?_ | refine k_s5 ?_ | refine k_s6 ?_ | refine k_s7 ?_ | refine k_t1 ?_ | refine k_t2 ?_ | refine k_t3 ?_ | refine k_t4 ?_ | refine k_t5 ?_ | refine k_t6 ?_ | refine k_t7 ?_ | refine k_l1 ?_ | refine k_l2 ?_ | refine k_l3 ?_ | refine k_l4 ?_ | refine k_l5 ?_ | refine k_l6 ?_ | refine k_l7 ?_ | refine k_n6 ?_ | refine k_n7 ?_ | refine k_n1 ?_ | refine k_n2 ?_ | refine k_n3 ?_ | refine k_n4 ?_ | refine k_n5 ?_ | refine ⟨dok_scal rfl rfl, dok_scal rfl rfl, ?_⟩ | refine ⟨_, rfl, ?_⟩)); (conv => whnf); (try dsimp only [PSt.set, List.set_cons_zero, List.set_cons_succ, wipeP, backP, List.getD_cons_zero, List.getD_cons_succ])
    refine ⟨by decide, ?_⟩
    refine forP_ind _ (fun i p' => ∃ a11 a12 a13 a14 a15 d', p' = ⟨[.val .cell, .val (.tup [.int p, .int q]), .val (.lst (rowU p q 520)), .val (.tup gs), .val (.int top), .val (.lst (rowK p q L)), .val (.int (U p q (k + 1))), .val (.int (U p q k)), .val (.int k), .val (.lst (rowK p q N)), .val (.lst (idx B)), a11, a12, a13, a14, a15, .un, .un, .un, .un, .un], d'⟩ ∧ d' ≤ d - 1 - 2 - 1 - 1 ∧ d - 1 - 2 - 1 - 1 ≤ d' + 2 * i) (fun i x hx s hs' W hW => ?_) (fun s hs' => ?_) ⟨_, _, _, _, _, _, rfl, Nat.le_refl _, Nat.le_refl _⟩
    · obtain ⟨a11, a12, a13, a14, a15, d', rfl, g1, g2⟩ := hs'
      obtain ⟨hi, rfl⟩ := rng_get (n := 4) hx
      (repeat ((conv => whnf); first | refine k_i1 ?_ | refine k_i2 ?_ | refine k_i3 ?_ | refine k_i4 ?_ | refine k_i5 ?_ | refine k_i6 ?_ | refine k_i7 ?_ | refine k_b1 ?_ | refine k_b2 ?_ | refine k_b3 ?_ | refine k_b4 ?_ | refine k_b5 ?_ | refine k_b6 ?_ | refine k_b7 ?_ | refine k_s1 ?_ | refine k_s2 ?_ | refine k_s3 ?_ | refine k_s4 ?_ | refine k_s5 ?_ | refine k_s6 ?_ | refine k_s7 ?_ | refine k_t1 ?_ | refine k_t2 ?_ | refine k_t3 ?_ | refine k_t4 ?_ | refine k_t5 ?_ | refine k_t6 ?_ | refine k_t7 ?_ | refine k_l1 ?_ | refine k_l2 ?_ | refine k_l3 ?_ | refine k_l4 ?_ | refine k_l5 ?_ | refine k_l6 ?_ | refine k_l7 ?_ | refine k_n6 ?_ | refine k_n7 ?_ | refine k_n1 ?_ | refine k_n2 ?_ | refine k_n3 ?_ | refine k_n4 ?_ | refine k_n5 ?_ | refine ⟨dok_scal rfl rfl, dok_scal rfl rfl, ?_⟩ | refine ⟨_, rfl, ?_⟩)); (conv => whnf); (try dsimp only [PSt.set, List.set_cons_zero, List.set_cons_succ, wipeP, backP, List.getD_cons_zero, List.getD_cons_succ])
      refine t_take (by omega) (by decide) (by decide) fun r r1 r2 => ?_
      (repeat ((conv => whnf); first | refine k_i1 ?_ | refine k_i2 ?_ | refine k_i3 ?_ | refine k_i4 ?_ | refine k_i5 ?_ | refine k_i6 ?_ | refine k_i7 ?_ | refine k_b1 ?_ | refine k_b2 ?_ | refine k_b3 ?_ | refine k_b4 ?_ | refine k_b5 ?_ | refine k_b6 ?_ | refine k_b7 ?_ | refine k_s1 ?_ | refine k_s2 ?_ | refine k_s3 ?_ | refine k_s4 ?_ | refine k_s5 ?_ | refine k_s6 ?_ | refine k_s7 ?_ | refine k_t1 ?_ | refine k_t2 ?_ | refine k_t3 ?_ | refine k_t4 ?_ | refine k_t5 ?_ | refine k_t6 ?_ | refine k_t7 ?_ | refine k_l1 ?_ | refine k_l2 ?_ | refine k_l3 ?_ | refine k_l4 ?_ | refine k_l5 ?_ | refine k_l6 ?_ | refine k_l7 ?_ | refine k_n6 ?_ | refine k_n7 ?_ | refine k_n1 ?_ | refine k_n2 ?_ | refine k_n3 ?_ | refine k_n4 ?_ | refine k_n5 ?_ | refine ⟨dok_scal rfl rfl, dok_scal rfl rfl, ?_⟩ | refine ⟨_, rfl, ?_⟩)); (conv => whnf); (try dsimp only [PSt.set, List.set_cons_zero, List.set_cons_succ, wipeP, backP, List.getD_cons_zero, List.getD_cons_succ])
      refine t_take (by omega) (by decide) (by decide) fun r' r3 r4 => ?_
      obtain ⟨x, hx2⟩ : ∃ x, x = U p q (k + 1) + r - 2 := ⟨_, rfl⟩
      obtain ⟨y, hy2⟩ : ∃ y, y = U p q k + r' - 2 := ⟨_, rfl⟩
      refine cutS (fun p' => ∃ a14 a15, p' = ⟨[.val .cell, .val (.tup [.int p, .int q]), .val (.lst (rowU p q 520)), .val (.tup gs), .val (.int top), .val (.lst (rowK p q L)), .val (.int (U p q (k + 1))), .val (.int (U p q k)), .val (.int k), .val (.lst (rowK p q N)), .val (.lst (idx B)), .val (.int i), .val (.int x), .val (.int y), a14, a15, .un, .un, .un, .un, .un], d' - 1 - 1⟩) (fun D2 hD2 => ?_) fun p' hp' => ?_
      · (repeat ((conv => whnf); first | refine k_i1 ?_ | refine k_i2 ?_ | refine k_i3 ?_ | refine k_i4 ?_ | refine k_i5 ?_ | refine k_i6 ?_ | refine k_i7 ?_ | refine k_b1 ?_ | refine k_b2 ?_ | refine k_b3 ?_ | refine k_b4 ?_ | refine k_b5 ?_ | refine k_b6 ?_ | refine k_b7 ?_ | refine k_s1 ?_ | refine k_s2 ?_ | refine k_s3 ?_ | refine k_s4 ?_ | refine k_s5 ?_ | refine k_s6 ?_ | refine k_s7 ?_ | refine k_t1 ?_ | refine k_t2 ?_ | refine k_t3 ?_ | refine k_t4 ?_ | refine k_t5 ?_ | refine k_t6 ?_ | refine k_t7 ?_ | refine k_l1 ?_ | refine k_l2 ?_ | refine k_l3 ?_ | refine k_l4 ?_ | refine k_l5 ?_ | refine k_l6 ?_ | refine k_l7 ?_ | refine k_n6 ?_ | refine k_n7 ?_ | refine k_n1 ?_ | refine k_n2 ?_ | refine k_n3 ?_ | refine k_n4 ?_ | refine k_n5 ?_ | refine ⟨dok_scal rfl rfl, dok_scal rfl rfl, ?_⟩ | refine ⟨_, rfl, ?_⟩)); (conv => whnf); (try dsimp only [PSt.set, List.set_cons_zero, List.set_cons_succ, wipeP, backP, List.getD_cons_zero, List.getD_cons_succ])
        rw [← hx2, ← hy2]
        refine ⟨by decide, by decide, by decide, ?_⟩
        (repeat ((conv => whnf); first | refine k_i1 ?_ | refine k_i2 ?_ | refine k_i3 ?_ | refine k_i4 ?_ | refine k_i5 ?_ | refine k_i6 ?_ | refine k_i7 ?_ | refine k_b1 ?_ | refine k_b2 ?_ | refine k_b3 ?_ | refine k_b4 ?_ | refine k_b5 ?_ | refine k_b6 ?_ | refine k_b7 ?_ | refine k_s1 ?_ | refine k_s2 ?_ | refine k_s3 ?_ | refine k_s4 ?_ | refine k_s5 ?_ | refine k_s6 ?_ | refine k_s7 ?_ | refine k_t1 ?_ | refine k_t2 ?_ | refine k_t3 ?_ | refine k_t4 ?_ | refine k_t5 ?_ | refine k_t6 ?_ | refine k_t7 ?_ | refine k_l1 ?_ | refine k_l2 ?_ | refine k_l3 ?_ | refine k_l4 ?_ | refine k_l5 ?_ | refine k_l6 ?_ | refine k_l7 ?_ | refine k_n6 ?_ | refine k_n7 ?_ | refine k_n1 ?_ | refine k_n2 ?_ | refine k_n3 ?_ | refine k_n4 ?_ | refine k_n5 ?_ | refine ⟨dok_scal rfl rfl, dok_scal rfl rfl, ?_⟩ | refine ⟨_, rfl, ?_⟩)); (conv => whnf); (try dsimp only [PSt.set, List.set_cons_zero, List.set_cons_succ, wipeP, backP, List.getD_cons_zero, List.getD_cons_succ])
        refine ⟨by decide, by decide, by decide, ?_⟩
        (repeat ((conv => whnf); first | refine k_i1 ?_ | refine k_i2 ?_ | refine k_i3 ?_ | refine k_i4 ?_ | refine k_i5 ?_ | refine k_i6 ?_ | refine k_i7 ?_ | refine k_b1 ?_ | refine k_b2 ?_ | refine k_b3 ?_ | refine k_b4 ?_ | refine k_b5 ?_ | refine k_b6 ?_ | refine k_b7 ?_ | refine k_s1 ?_ | refine k_s2 ?_ | refine k_s3 ?_ | refine k_s4 ?_ | refine k_s5 ?_ | refine k_s6 ?_ | refine k_s7 ?_ | refine k_t1 ?_ | refine k_t2 ?_ | refine k_t3 ?_ | refine k_t4 ?_ | refine k_t5 ?_ | refine k_t6 ?_ | refine k_t7 ?_ | refine k_l1 ?_ | refine k_l2 ?_ | refine k_l3 ?_ | refine k_l4 ?_ | refine k_l5 ?_ | refine k_l6 ?_ | refine k_l7 ?_ | refine k_n6 ?_ | refine k_n7 ?_ | refine k_n1 ?_ | refine k_n2 ?_ | refine k_n3 ?_ | refine k_n4 ?_ | refine k_n5 ?_ | refine ⟨dok_scal rfl rfl, dok_scal rfl rfl, ?_⟩ | refine ⟨_, rfl, ?_⟩)); (conv => whnf); (try dsimp only [PSt.set, List.set_cons_zero, List.set_cons_succ, wipeP, backP, List.getD_cons_zero, List.getD_cons_succ])
        refine ⟨mB, ?_⟩
        (conv => whnf); (try dsimp only [PSt.set, List.set_cons_zero, List.set_cons_succ, wipeP, backP, List.getD_cons_zero, List.getD_cons_succ])
        rw [eB, abs_if]
        refine cnd_of (fun c => ?_) fun c => ?_
        · have c : (x.natAbs : Int) ≤ Big := of_decide_eq_true c
          have x1 : -Big ≤ x := by omega
          have x2 : x ≤ Big := by omega
          have y1 : -Big ≤ y := by omega
          have y2 : y ≤ Big := by omega
          have sx : Sm 340 x := sm_big x1 x2
          have sy : Sm 340 y := sm_big y1 y2
          refine cutS (fun p' => ∃ v, p' = ⟨[.val .cell, .val (.tup [.int p, .int q]), .val (.lst (rowU p q 520)), .val (.tup gs), .val (.int top), .val (.lst (rowK p q L)), .val (.int (U p q (k + 1))), .val (.int (U p q k)), .val (.int k), .val (.lst (rowK p q N)), .val (.lst (idx B)), .val (.int i), .val (.int x), .val (.int y), .val v, a15, .un, .un, .un, .un, .un], d' - 1 - 1⟩ ∧ (∀ k' : Nat, x = U p q (k' + 1) → y = U p q k' → v = .int k') ∧ ((∀ k' : Nat, ¬ (x = U p q (k' + 1) ∧ y = U p q k')) → v = .non)) (fun D3 hD3 => ?_) ?_
          · (repeat ((conv => whnf); first | refine k_i1 ?_ | refine k_i2 ?_ | refine k_i3 ?_ | refine k_i4 ?_ | refine k_i5 ?_ | refine k_i6 ?_ | refine k_i7 ?_ | refine k_b1 ?_ | refine k_b2 ?_ | refine k_b3 ?_ | refine k_b4 ?_ | refine k_b5 ?_ | refine k_b6 ?_ | refine k_b7 ?_ | refine k_s1 ?_ | refine k_s2 ?_ | refine k_s3 ?_ | refine k_s4 ?_ | refine k_s5 ?_ | refine k_s6 ?_ | refine k_s7 ?_ | refine k_t1 ?_ | refine k_t2 ?_ | refine k_t3 ?_ | refine k_t4 ?_ | refine k_t5 ?_ | refine k_t6 ?_ | refine k_t7 ?_ | refine k_l1 ?_ | refine k_l2 ?_ | refine k_l3 ?_ | refine k_l4 ?_ | refine k_l5 ?_ | refine k_l6 ?_ | refine k_l7 ?_ | refine k_n6 ?_ | refine k_n7 ?_ | refine k_n1 ?_ | refine k_n2 ?_ | refine k_n3 ?_ | refine k_n4 ?_ | refine k_n5 ?_ | refine ⟨dok_scal rfl rfl, dok_scal rfl rfl, ?_⟩ | refine ⟨_, rfl, ?_⟩)); (conv => whnf); (try dsimp only [PSt.set, List.set_cons_zero, List.set_cons_succ, wipeP, backP, List.getD_cons_zero, List.getD_cons_succ])
            rw [idx_len, cut_rowK (by omega)]
            refine ⟨dok_pair, dok_rowK, ?_⟩
            by_cases hex : ∃ k', k' < B ∧ x = U p q (k' + 1) ∧ y = U p q k'
            · obtain ⟨k', h1, h2, h3⟩ := hex
              rw [rowK_any h1 h2 h3]
              (repeat ((conv => whnf); first | refine k_i1 ?_ | refine k_i2 ?_ | refine k_i3 ?_ | refine k_i4 ?_ | refine k_i5 ?_ | refine k_i6 ?_ | refine k_i7 ?_ | refine k_b1 ?_ | refine k_b2 ?_ | refine k_b3 ?_ | refine k_b4 ?_ | refine k_b5 ?_ | refine k_b6 ?_ | refine k_b7 ?_ | refine k_s1 ?_ | refine k_s2 ?_ | refine k_s3 ?_ | refine k_s4 ?_ | refine k_s5 ?_ | refine k_s6 ?_ | refine k_s7 ?_ | refine k_t1 ?_ | refine k_t2 ?_ | refine k_t3 ?_ | refine k_t4 ?_ | refine k_t5 ?_ | refine k_t6 ?_ | refine k_t7 ?_ | refine k_l1 ?_ | refine k_l2 ?_ | refine k_l3 ?_ | refine k_l4 ?_ | refine k_l5 ?_ | refine k_l6 ?_ | refine k_l7 ?_ | refine k_n6 ?_ | refine k_n7 ?_ | refine k_n1 ?_ | refine k_n2 ?_ | refine k_n3 ?_ | refine k_n4 ?_ | refine k_n5 ?_ | refine ⟨dok_scal rfl rfl, dok_scal rfl rfl, ?_⟩ | refine ⟨_, rfl, ?_⟩)); (conv => whnf); (try dsimp only [PSt.set, List.set_cons_zero, List.set_cons_succ, wipeP, backP, List.getD_cons_zero, List.getD_cons_succ])
              refine rowK_index (n := N) (k := k') hu (by omega) h2 h3 ?_
              refine hD3 _ ⟨_, rfl, fun k'' e1 e2 => ?_, fun z => absurd ⟨h2, h3⟩ (z k')⟩
              rw [un_inj hu (h2.symm.trans e1) (h3.symm.trans e2)]
            · rw [rowK_none fun k' h1 h2 => hex ⟨k', h1, h2⟩]
              (repeat ((conv => whnf); first | refine k_i1 ?_ | refine k_i2 ?_ | refine k_i3 ?_ | refine k_i4 ?_ | refine k_i5 ?_ | refine k_i6 ?_ | refine k_i7 ?_ | refine k_b1 ?_ | refine k_b2 ?_ | refine k_b3 ?_ | refine k_b4 ?_ | refine k_b5 ?_ | refine k_b6 ?_ | refine k_b7 ?_ | refine k_s1 ?_ | refine k_s2 ?_ | refine k_s3 ?_ | refine k_s4 ?_ | refine k_s5 ?_ | refine k_s6 ?_ | refine k_s7 ?_ | refine k_t1 ?_ | refine k_t2 ?_ | refine k_t3 ?_ | refine k_t4 ?_ | refine k_t5 ?_ | refine k_t6 ?_ | refine k_t7 ?_ | refine k_l1 ?_ | refine k_l2 ?_ | refine k_l3 ?_ | refine k_l4 ?_ | refine k_l5 ?_ | refine k_l6 ?_ | refine k_l7 ?_ | refine k_n6 ?_ | refine k_n7 ?_ | refine k_n1 ?_ | refine k_n2 ?_ | refine k_n3 ?_ | refine k_n4 ?_ | refine k_n5 ?_ | refine ⟨dok_scal rfl rfl, dok_scal rfl rfl, ?_⟩ | refine ⟨_, rfl, ?_⟩)); (conv => whnf); (try dsimp only [PSt.set, List.set_cons_zero, List.set_cons_succ, wipeP, backP, List.getD_cons_zero, List.getD_cons_succ])
              refine hD3 _ ⟨_, rfl, fun k'' e1 e2 => ?_, fun _ => rfl⟩
              refine absurd ⟨k'', ?_, e1, e2⟩ hex
              rcases Nat.lt_or_ge k'' B with h1 | h1
              · exact h1
              · have := cut_ge hu hB2 h1
                omega
          rintro _ ⟨v, rfl, hv1, hv2⟩
          refine cutS (fun p' => p' = ⟨[.val .cell, .val (.tup [.int p, .int q]), .val (.lst (rowU p q 520)), .val (.tup gs), .val (.int top), .val (.lst (rowK p q L)), .val (.int (U p q (k + 1))), .val (.int (U p q k)), .val (.int k), .val (.lst (rowK p q N)), .val (.lst (idx B)), .val (.int i), .val (.int x), .val (.int y), .val v, a15, .un, .un, .un, .un, .un], d' - 1 - 1⟩) (fun D3 hD3 => ?_) ?_
          · (repeat ((conv => whnf); first | refine k_i1 ?_ | refine k_i2 ?_ | refine k_i3 ?_ | refine k_i4 ?_ | refine k_i5 ?_ | refine k_i6 ?_ | refine k_i7 ?_ | refine k_b1 ?_ | refine k_b2 ?_ | refine k_b3 ?_ | refine k_b4 ?_ | refine k_b5 ?_ | refine k_b6 ?_ | refine k_b7 ?_ | refine k_s1 ?_ | refine k_s2 ?_ | refine k_s3 ?_ | refine k_s4 ?_ | refine k_s5 ?_ | refine k_s6 ?_ | refine k_s7 ?_ | refine k_t1 ?_ | refine k_t2 ?_ | refine k_t3 ?_ | refine k_t4 ?_ | refine k_t5 ?_ | refine k_t6 ?_ | refine k_t7 ?_ | refine k_l1 ?_ | refine k_l2 ?_ | refine k_l3 ?_ | refine k_l4 ?_ | refine k_l5 ?_ | refine k_l6 ?_ | refine k_l7 ?_ | refine k_n6 ?_ | refine k_n7 ?_ | refine k_n1 ?_ | refine k_n2 ?_ | refine k_n3 ?_ | refine k_n4 ?_ | refine k_n5 ?_ | refine ⟨dok_scal rfl rfl, dok_scal rfl rfl, ?_⟩ | refine ⟨_, rfl, ?_⟩)); (conv => whnf); (try dsimp only [PSt.set, List.set_cons_zero, List.set_cons_succ, wipeP, backP, List.getD_cons_zero, List.getD_cons_succ])
            refine p_nplace (a := x) (b := y) hu x1 x2 y1 y2 (fun k' e1 e2 => ?_) fun z => ?_
            · have := hv1 k' e1 e2
              subst this
              (repeat ((conv => whnf); first | refine k_i1 ?_ | refine k_i2 ?_ | refine k_i3 ?_ | refine k_i4 ?_ | refine k_i5 ?_ | refine k_i6 ?_ | refine k_i7 ?_ | refine k_b1 ?_ | refine k_b2 ?_ | refine k_b3 ?_ | refine k_b4 ?_ | refine k_b5 ?_ | refine k_b6 ?_ | refine k_b7 ?_ | refine k_s1 ?_ | refine k_s2 ?_ | refine k_s3 ?_ | refine k_s4 ?_ | refine k_s5 ?_ | refine k_s6 ?_ | refine k_s7 ?_ | refine k_t1 ?_ | refine k_t2 ?_ | refine k_t3 ?_ | refine k_t4 ?_ | refine k_t5 ?_ | refine k_t6 ?_ | refine k_t7 ?_ | refine k_l1 ?_ | refine k_l2 ?_ | refine k_l3 ?_ | refine k_l4 ?_ | refine k_l5 ?_ | refine k_l6 ?_ | refine k_l7 ?_ | refine k_n6 ?_ | refine k_n7 ?_ | refine k_n1 ?_ | refine k_n2 ?_ | refine k_n3 ?_ | refine k_n4 ?_ | refine k_n5 ?_ | refine ⟨dok_scal rfl rfl, dok_scal rfl rfl, ?_⟩ | refine ⟨_, rfl, ?_⟩)); (conv => whnf); (try dsimp only [PSt.set, List.set_cons_zero, List.set_cons_succ, wipeP, backP, List.getD_cons_zero, List.getD_cons_succ])
              refine p_form_of (a := x) (b := y) ok x1 x2 y1 y2 ?_
              (repeat ((conv => whnf); first | refine k_i1 ?_ | refine k_i2 ?_ | refine k_i3 ?_ | refine k_i4 ?_ | refine k_i5 ?_ | refine k_i6 ?_ | refine k_i7 ?_ | refine k_b1 ?_ | refine k_b2 ?_ | refine k_b3 ?_ | refine k_b4 ?_ | refine k_b5 ?_ | refine k_b6 ?_ | refine k_b7 ?_ | refine k_s1 ?_ | refine k_s2 ?_ | refine k_s3 ?_ | refine k_s4 ?_ | refine k_s5 ?_ | refine k_s6 ?_ | refine k_s7 ?_ | refine k_t1 ?_ | refine k_t2 ?_ | refine k_t3 ?_ | refine k_t4 ?_ | refine k_t5 ?_ | refine k_t6 ?_ | refine k_t7 ?_ | refine k_l1 ?_ | refine k_l2 ?_ | refine k_l3 ?_ | refine k_l4 ?_ | refine k_l5 ?_ | refine k_l6 ?_ | refine k_l7 ?_ | refine k_n6 ?_ | refine k_n7 ?_ | refine k_n1 ?_ | refine k_n2 ?_ | refine k_n3 ?_ | refine k_n4 ?_ | refine k_n5 ?_ | refine ⟨dok_scal rfl rfl, dok_scal rfl rfl, ?_⟩ | refine ⟨_, rfl, ?_⟩)); (conv => whnf); (try dsimp only [PSt.set, List.set_cons_zero, List.set_cons_succ, wipeP, backP, List.getD_cons_zero, List.getD_cons_succ])
              refine p_law_form (k := 340) (a := x) (b := y) sp sq sx sy (by decide) ?_
              (repeat ((conv => whnf); first | refine k_i1 ?_ | refine k_i2 ?_ | refine k_i3 ?_ | refine k_i4 ?_ | refine k_i5 ?_ | refine k_i6 ?_ | refine k_i7 ?_ | refine k_b1 ?_ | refine k_b2 ?_ | refine k_b3 ?_ | refine k_b4 ?_ | refine k_b5 ?_ | refine k_b6 ?_ | refine k_b7 ?_ | refine k_s1 ?_ | refine k_s2 ?_ | refine k_s3 ?_ | refine k_s4 ?_ | refine k_s5 ?_ | refine k_s6 ?_ | refine k_s7 ?_ | refine k_t1 ?_ | refine k_t2 ?_ | refine k_t3 ?_ | refine k_t4 ?_ | refine k_t5 ?_ | refine k_t6 ?_ | refine k_t7 ?_ | refine k_l1 ?_ | refine k_l2 ?_ | refine k_l3 ?_ | refine k_l4 ?_ | refine k_l5 ?_ | refine k_l6 ?_ | refine k_l7 ?_ | refine k_n6 ?_ | refine k_n7 ?_ | refine k_n1 ?_ | refine k_n2 ?_ | refine k_n3 ?_ | refine k_n4 ?_ | refine k_n5 ?_ | refine ⟨dok_scal rfl rfl, dok_scal rfl rfl, ?_⟩ | refine ⟨_, rfl, ?_⟩)); (conv => whnf); (try dsimp only [PSt.set, List.set_cons_zero, List.set_cons_succ, wipeP, backP, List.getD_cons_zero, List.getD_cons_succ])
              refine p_same 1 _ (by simp [deep, deeps]) (by simp [gdv, gdvs]) ?_
              exact hD3 _ rfl
            · have := hv2 z
              subst this
              (repeat ((conv => whnf); first | refine k_i1 ?_ | refine k_i2 ?_ | refine k_i3 ?_ | refine k_i4 ?_ | refine k_i5 ?_ | refine k_i6 ?_ | refine k_i7 ?_ | refine k_b1 ?_ | refine k_b2 ?_ | refine k_b3 ?_ | refine k_b4 ?_ | refine k_b5 ?_ | refine k_b6 ?_ | refine k_b7 ?_ | refine k_s1 ?_ | refine k_s2 ?_ | refine k_s3 ?_ | refine k_s4 ?_ | refine k_s5 ?_ | refine k_s6 ?_ | refine k_s7 ?_ | refine k_t1 ?_ | refine k_t2 ?_ | refine k_t3 ?_ | refine k_t4 ?_ | refine k_t5 ?_ | refine k_t6 ?_ | refine k_t7 ?_ | refine k_l1 ?_ | refine k_l2 ?_ | refine k_l3 ?_ | refine k_l4 ?_ | refine k_l5 ?_ | refine k_l6 ?_ | refine k_l7 ?_ | refine k_n6 ?_ | refine k_n7 ?_ | refine k_n1 ?_ | refine k_n2 ?_ | refine k_n3 ?_ | refine k_n4 ?_ | refine k_n5 ?_ | refine ⟨dok_scal rfl rfl, dok_scal rfl rfl, ?_⟩ | refine ⟨_, rfl, ?_⟩)); (conv => whnf); (try dsimp only [PSt.set, List.set_cons_zero, List.set_cons_succ, wipeP, backP, List.getD_cons_zero, List.getD_cons_succ])
              refine p_form_of (a := x) (b := y) ok x1 x2 y1 y2 ?_
              (repeat ((conv => whnf); first | refine k_i1 ?_ | refine k_i2 ?_ | refine k_i3 ?_ | refine k_i4 ?_ | refine k_i5 ?_ | refine k_i6 ?_ | refine k_i7 ?_ | refine k_b1 ?_ | refine k_b2 ?_ | refine k_b3 ?_ | refine k_b4 ?_ | refine k_b5 ?_ | refine k_b6 ?_ | refine k_b7 ?_ | refine k_s1 ?_ | refine k_s2 ?_ | refine k_s3 ?_ | refine k_s4 ?_ | refine k_s5 ?_ | refine k_s6 ?_ | refine k_s7 ?_ | refine k_t1 ?_ | refine k_t2 ?_ | refine k_t3 ?_ | refine k_t4 ?_ | refine k_t5 ?_ | refine k_t6 ?_ | refine k_t7 ?_ | refine k_l1 ?_ | refine k_l2 ?_ | refine k_l3 ?_ | refine k_l4 ?_ | refine k_l5 ?_ | refine k_l6 ?_ | refine k_l7 ?_ | refine k_n6 ?_ | refine k_n7 ?_ | refine k_n1 ?_ | refine k_n2 ?_ | refine k_n3 ?_ | refine k_n4 ?_ | refine k_n5 ?_ | refine ⟨dok_scal rfl rfl, dok_scal rfl rfl, ?_⟩ | refine ⟨_, rfl, ?_⟩)); (conv => whnf); (try dsimp only [PSt.set, List.set_cons_zero, List.set_cons_succ, wipeP, backP, List.getD_cons_zero, List.getD_cons_succ])
              refine p_law_form (k := 340) (a := x) (b := y) sp sq sx sy (by decide) ?_
              (repeat ((conv => whnf); first | refine k_i1 ?_ | refine k_i2 ?_ | refine k_i3 ?_ | refine k_i4 ?_ | refine k_i5 ?_ | refine k_i6 ?_ | refine k_i7 ?_ | refine k_b1 ?_ | refine k_b2 ?_ | refine k_b3 ?_ | refine k_b4 ?_ | refine k_b5 ?_ | refine k_b6 ?_ | refine k_b7 ?_ | refine k_s1 ?_ | refine k_s2 ?_ | refine k_s3 ?_ | refine k_s4 ?_ | refine k_s5 ?_ | refine k_s6 ?_ | refine k_s7 ?_ | refine k_t1 ?_ | refine k_t2 ?_ | refine k_t3 ?_ | refine k_t4 ?_ | refine k_t5 ?_ | refine k_t6 ?_ | refine k_t7 ?_ | refine k_l1 ?_ | refine k_l2 ?_ | refine k_l3 ?_ | refine k_l4 ?_ | refine k_l5 ?_ | refine k_l6 ?_ | refine k_l7 ?_ | refine k_n6 ?_ | refine k_n7 ?_ | refine k_n1 ?_ | refine k_n2 ?_ | refine k_n3 ?_ | refine k_n4 ?_ | refine k_n5 ?_ | refine ⟨dok_scal rfl rfl, dok_scal rfl rfl, ?_⟩ | refine ⟨_, rfl, ?_⟩)); (conv => whnf); (try dsimp only [PSt.set, List.set_cons_zero, List.set_cons_succ, wipeP, backP, List.getD_cons_zero, List.getD_cons_succ])
              refine p_same 1 _ (by simp [deep, deeps]) (by simp [gdv, gdvs]) ?_
              exact hD3 _ rfl
          rintro _ rfl
          refine cutS (fun p' => p' = ⟨[.val .cell, .val (.tup [.int p, .int q]), .val (.lst (rowU p q 520)), .val (.tup gs), .val (.int top), .val (.lst (rowK p q L)), .val (.int (U p q (k + 1))), .val (.int (U p q k)), .val (.int k), .val (.lst (rowK p q N)), .val (.lst (idx B)), .val (.int i), .val (.int x), .val (.int y), .val v, .val (.tup [.int (p * x - q * y), .int x]), .un, .un, .un, .un, .un], d' - 1 - 1⟩) (fun D3 hD3 => ?_) ?_
          · (repeat ((conv => whnf); first | refine k_i1 ?_ | refine k_i2 ?_ | refine k_i3 ?_ | refine k_i4 ?_ | refine k_i5 ?_ | refine k_i6 ?_ | refine k_i7 ?_ | refine k_b1 ?_ | refine k_b2 ?_ | refine k_b3 ?_ | refine k_b4 ?_ | refine k_b5 ?_ | refine k_b6 ?_ | refine k_b7 ?_ | refine k_s1 ?_ | refine k_s2 ?_ | refine k_s3 ?_ | refine k_s4 ?_ | refine k_s5 ?_ | refine k_s6 ?_ | refine k_s7 ?_ | refine k_t1 ?_ | refine k_t2 ?_ | refine k_t3 ?_ | refine k_t4 ?_ | refine k_t5 ?_ | refine k_t6 ?_ | refine k_t7 ?_ | refine k_l1 ?_ | refine k_l2 ?_ | refine k_l3 ?_ | refine k_l4 ?_ | refine k_l5 ?_ | refine k_l6 ?_ | refine k_l7 ?_ | refine k_n6 ?_ | refine k_n7 ?_ | refine k_n1 ?_ | refine k_n2 ?_ | refine k_n3 ?_ | refine k_n4 ?_ | refine k_n5 ?_ | refine ⟨dok_scal rfl rfl, dok_scal rfl rfl, ?_⟩ | refine ⟨_, rfl, ?_⟩)); (conv => whnf); (try dsimp only [PSt.set, List.set_cons_zero, List.set_cons_succ, wipeP, backP, List.getD_cons_zero, List.getD_cons_succ])
            refine p_step_on (a := x) (b := y) ok x1 x2 y1 y2 ?_
            exact hD3 _ rfl
          rintro _ rfl
          have hqq : q = 1 ∨ q = -1 := by rcases hu with ⟨h, _⟩ | ⟨h, _⟩ <;> omega
          have eb : q * (p * x - (p * x - q * y)) = y := by rcases hqq with h | h <;> rw [h] <;> omega
          have sF : Sm 700 (Fm p q x y) := by
            unfold Fm
            exact Sm.add (c := 700) (Sm.sub (c := 695) (sx.mul sx (c := 680) (by decide)) ((sp.mul sx (c := 350) (by decide)).mul sy (c := 690) (by decide)) (by decide)) ((sq.mul sy (c := 350) (by decide)).mul sy (c := 690) (by decide)) (by decide)
          (repeat ((conv => whnf); first | refine k_i1 ?_ | refine k_i2 ?_ | refine k_i3 ?_ | refine k_i4 ?_ | refine k_i5 ?_ | refine k_i6 ?_ | refine k_i7 ?_ | refine k_b1 ?_ | refine k_b2 ?_ | refine k_b3 ?_ | refine k_b4 ?_ | refine k_b5 ?_ | refine k_b6 ?_ | refine k_b7 ?_ | refine k_s1 ?_ | refine k_s2 ?_ | refine k_s3 ?_ | refine k_s4 ?_ | refine k_s5 ?_ | refine k_s6 ?_ | refine k_s7 ?_ | refine k_t1 ?_ | refine k_t2 ?_ | refine k_t3 ?_ | refine k_t4 ?_ | refine k_t5 ?_ | refine k_t6 ?_ | refine k_t7 ?_ | refine k_l1 ?_ | refine k_l2 ?_ | refine k_l3 ?_ | refine k_l4 ?_ | refine k_l5 ?_ | refine k_l6 ?_ | refine k_l7 ?_ | refine k_n6 ?_ | refine k_n7 ?_ | refine k_n1 ?_ | refine k_n2 ?_ | refine k_n3 ?_ | refine k_n4 ?_ | refine k_n5 ?_ | refine ⟨dok_scal rfl rfl, dok_scal rfl rfl, ?_⟩ | refine ⟨_, rfl, ?_⟩)); (conv => whnf); (try dsimp only [PSt.set, List.set_cons_zero, List.set_cons_succ, wipeP, backP, List.getD_cons_zero, List.getD_cons_succ])
          refine ⟨by decide, ?_⟩
          (repeat ((conv => whnf); first | refine k_i1 ?_ | refine k_i2 ?_ | refine k_i3 ?_ | refine k_i4 ?_ | refine k_i5 ?_ | refine k_i6 ?_ | refine k_i7 ?_ | refine k_b1 ?_ | refine k_b2 ?_ | refine k_b3 ?_ | refine k_b4 ?_ | refine k_b5 ?_ | refine k_b6 ?_ | refine k_b7 ?_ | refine k_s1 ?_ | refine k_s2 ?_ | refine k_s3 ?_ | refine k_s4 ?_ | refine k_s5 ?_ | refine k_s6 ?_ | refine k_s7 ?_ | refine k_t1 ?_ | refine k_t2 ?_ | refine k_t3 ?_ | refine k_t4 ?_ | refine k_t5 ?_ | refine k_t6 ?_ | refine k_t7 ?_ | refine k_l1 ?_ | refine k_l2 ?_ | refine k_l3 ?_ | refine k_l4 ?_ | refine k_l5 ?_ | refine k_l6 ?_ | refine k_l7 ?_ | refine k_n6 ?_ | refine k_n7 ?_ | refine k_n1 ?_ | refine k_n2 ?_ | refine k_n3 ?_ | refine k_n4 ?_ | refine k_n5 ?_ | refine ⟨dok_scal rfl rfl, dok_scal rfl rfl, ?_⟩ | refine ⟨_, rfl, ?_⟩)); (conv => whnf); (try dsimp only [PSt.set, List.set_cons_zero, List.set_cons_succ, wipeP, backP, List.getD_cons_zero, List.getD_cons_succ])
          refine ⟨by simp, ?_⟩
          (conv => whnf); (try dsimp only [PSt.set, List.set_cons_zero, List.set_cons_succ, wipeP, backP, List.getD_cons_zero, List.getD_cons_succ])
          rw [abs_if, abs_if]
          refine ⟨[((p * x - q * y).natAbs : Int), (x.natAbs : Int)], rfl, by simp, fun mx h1 h2 => ?_⟩
          have m1 := h2 ((p * x - q * y).natAbs : Int) (by simp)
          (repeat ((conv => whnf); first | refine k_i1 ?_ | refine k_i2 ?_ | refine k_i3 ?_ | refine k_i4 ?_ | refine k_i5 ?_ | refine k_i6 ?_ | refine k_i7 ?_ | refine k_b1 ?_ | refine k_b2 ?_ | refine k_b3 ?_ | refine k_b4 ?_ | refine k_b5 ?_ | refine k_b6 ?_ | refine k_b7 ?_ | refine k_s1 ?_ | refine k_s2 ?_ | refine k_s3 ?_ | refine k_s4 ?_ | refine k_s5 ?_ | refine k_s6 ?_ | refine k_s7 ?_ | refine k_t1 ?_ | refine k_t2 ?_ | refine k_t3 ?_ | refine k_t4 ?_ | refine k_t5 ?_ | refine k_t6 ?_ | refine k_t7 ?_ | refine k_l1 ?_ | refine k_l2 ?_ | refine k_l3 ?_ | refine k_l4 ?_ | refine k_l5 ?_ | refine k_l6 ?_ | refine k_l7 ?_ | refine k_n6 ?_ | refine k_n7 ?_ | refine k_n1 ?_ | refine k_n2 ?_ | refine k_n3 ?_ | refine k_n4 ?_ | refine k_n5 ?_ | refine ⟨dok_scal rfl rfl, dok_scal rfl rfl, ?_⟩ | refine ⟨_, rfl, ?_⟩)); (conv => whnf); (try dsimp only [PSt.set, List.set_cons_zero, List.set_cons_succ, wipeP, backP, List.getD_cons_zero, List.getD_cons_succ])
          refine ⟨by decide, by decide, by decide, ?_⟩
          (repeat ((conv => whnf); first | refine k_i1 ?_ | refine k_i2 ?_ | refine k_i3 ?_ | refine k_i4 ?_ | refine k_i5 ?_ | refine k_i6 ?_ | refine k_i7 ?_ | refine k_b1 ?_ | refine k_b2 ?_ | refine k_b3 ?_ | refine k_b4 ?_ | refine k_b5 ?_ | refine k_b6 ?_ | refine k_b7 ?_ | refine k_s1 ?_ | refine k_s2 ?_ | refine k_s3 ?_ | refine k_s4 ?_ | refine k_s5 ?_ | refine k_s6 ?_ | refine k_s7 ?_ | refine k_t1 ?_ | refine k_t2 ?_ | refine k_t3 ?_ | refine k_t4 ?_ | refine k_t5 ?_ | refine k_t6 ?_ | refine k_t7 ?_ | refine k_l1 ?_ | refine k_l2 ?_ | refine k_l3 ?_ | refine k_l4 ?_ | refine k_l5 ?_ | refine k_l6 ?_ | refine k_l7 ?_ | refine k_n6 ?_ | refine k_n7 ?_ | refine k_n1 ?_ | refine k_n2 ?_ | refine k_n3 ?_ | refine k_n4 ?_ | refine k_n5 ?_ | refine ⟨dok_scal rfl rfl, dok_scal rfl rfl, ?_⟩ | refine ⟨_, rfl, ?_⟩)); (conv => whnf); (try dsimp only [PSt.set, List.set_cons_zero, List.set_cons_succ, wipeP, backP, List.getD_cons_zero, List.getD_cons_succ])
          refine ⟨by decide, by decide, by decide, ?_⟩
          (repeat ((conv => whnf); first | refine k_i1 ?_ | refine k_i2 ?_ | refine k_i3 ?_ | refine k_i4 ?_ | refine k_i5 ?_ | refine k_i6 ?_ | refine k_i7 ?_ | refine k_b1 ?_ | refine k_b2 ?_ | refine k_b3 ?_ | refine k_b4 ?_ | refine k_b5 ?_ | refine k_b6 ?_ | refine k_b7 ?_ | refine k_s1 ?_ | refine k_s2 ?_ | refine k_s3 ?_ | refine k_s4 ?_ | refine k_s5 ?_ | refine k_s6 ?_ | refine k_s7 ?_ | refine k_t1 ?_ | refine k_t2 ?_ | refine k_t3 ?_ | refine k_t4 ?_ | refine k_t5 ?_ | refine k_t6 ?_ | refine k_t7 ?_ | refine k_l1 ?_ | refine k_l2 ?_ | refine k_l3 ?_ | refine k_l4 ?_ | refine k_l5 ?_ | refine k_l6 ?_ | refine k_l7 ?_ | refine k_n6 ?_ | refine k_n7 ?_ | refine k_n1 ?_ | refine k_n2 ?_ | refine k_n3 ?_ | refine k_n4 ?_ | refine k_n5 ?_ | refine ⟨dok_scal rfl rfl, dok_scal rfl rfl, ?_⟩ | refine ⟨_, rfl, ?_⟩)); (conv => whnf); (try dsimp only [PSt.set, List.set_cons_zero, List.set_cons_succ, wipeP, backP, List.getD_cons_zero, List.getD_cons_succ])
          refine ⟨mB, ?_⟩
          (conv => whnf); (try dsimp only [PSt.set, List.set_cons_zero, List.set_cons_succ, wipeP, backP, List.getD_cons_zero, List.getD_cons_succ])
          rw [eB]
          refine cnd_of (fun c2 => ?_) fun c2 => ?_
          · have c2 : mx ≤ Big := of_decide_eq_true c2
            have w1 : -Big ≤ p * x - q * y := by omega
            have w2 : p * x - q * y ≤ Big := by omega
            (repeat ((conv => whnf); first | refine k_i1 ?_ | refine k_i2 ?_ | refine k_i3 ?_ | refine k_i4 ?_ | refine k_i5 ?_ | refine k_i6 ?_ | refine k_i7 ?_ | refine k_b1 ?_ | refine k_b2 ?_ | refine k_b3 ?_ | refine k_b4 ?_ | refine k_b5 ?_ | refine k_b6 ?_ | refine k_b7 ?_ | refine k_s1 ?_ | refine k_s2 ?_ | refine k_s3 ?_ | refine k_s4 ?_ | refine k_s5 ?_ | refine k_s6 ?_ | refine k_s7 ?_ | refine k_t1 ?_ | refine k_t2 ?_ | refine k_t3 ?_ | refine k_t4 ?_ | refine k_t5 ?_ | refine k_t6 ?_ | refine k_t7 ?_ | refine k_l1 ?_ | refine k_l2 ?_ | refine k_l3 ?_ | refine k_l4 ?_ | refine k_l5 ?_ | refine k_l6 ?_ | refine k_l7 ?_ | refine k_n6 ?_ | refine k_n7 ?_ | refine k_n1 ?_ | refine k_n2 ?_ | refine k_n3 ?_ | refine k_n4 ?_ | refine k_n5 ?_ | refine ⟨dok_scal rfl rfl, dok_scal rfl rfl, ?_⟩ | refine ⟨_, rfl, ?_⟩)); (conv => whnf); (try dsimp only [PSt.set, List.set_cons_zero, List.set_cons_succ, wipeP, backP, List.getD_cons_zero, List.getD_cons_succ])
            refine p_step_back (a := p * x - q * y) (b := x) ok w1 w2 x1 x2 (fun _ => ?_) (fun z => absurd hqq z)
            (repeat ((conv => whnf); first | refine k_i1 ?_ | refine k_i2 ?_ | refine k_i3 ?_ | refine k_i4 ?_ | refine k_i5 ?_ | refine k_i6 ?_ | refine k_i7 ?_ | refine k_b1 ?_ | refine k_b2 ?_ | refine k_b3 ?_ | refine k_b4 ?_ | refine k_b5 ?_ | refine k_b6 ?_ | refine k_b7 ?_ | refine k_s1 ?_ | refine k_s2 ?_ | refine k_s3 ?_ | refine k_s4 ?_ | refine k_s5 ?_ | refine k_s6 ?_ | refine k_s7 ?_ | refine k_t1 ?_ | refine k_t2 ?_ | refine k_t3 ?_ | refine k_t4 ?_ | refine k_t5 ?_ | refine k_t6 ?_ | refine k_t7 ?_ | refine k_l1 ?_ | refine k_l2 ?_ | refine k_l3 ?_ | refine k_l4 ?_ | refine k_l5 ?_ | refine k_l6 ?_ | refine k_l7 ?_ | refine k_n6 ?_ | refine k_n7 ?_ | refine k_n1 ?_ | refine k_n2 ?_ | refine k_n3 ?_ | refine k_n4 ?_ | refine k_n5 ?_ | refine ⟨dok_scal rfl rfl, dok_scal rfl rfl, ?_⟩ | refine ⟨_, rfl, ?_⟩)); (conv => whnf); (try dsimp only [PSt.set, List.set_cons_zero, List.set_cons_succ, wipeP, backP, List.getD_cons_zero, List.getD_cons_succ])
            refine p_form_of (a := p * x - q * y) (b := x) ok w1 w2 x1 x2 ?_
            (repeat ((conv => whnf); first | refine k_i1 ?_ | refine k_i2 ?_ | refine k_i3 ?_ | refine k_i4 ?_ | refine k_i5 ?_ | refine k_i6 ?_ | refine k_i7 ?_ | refine k_b1 ?_ | refine k_b2 ?_ | refine k_b3 ?_ | refine k_b4 ?_ | refine k_b5 ?_ | refine k_b6 ?_ | refine k_b7 ?_ | refine k_s1 ?_ | refine k_s2 ?_ | refine k_s3 ?_ | refine k_s4 ?_ | refine k_s5 ?_ | refine k_s6 ?_ | refine k_s7 ?_ | refine k_t1 ?_ | refine k_t2 ?_ | refine k_t3 ?_ | refine k_t4 ?_ | refine k_t5 ?_ | refine k_t6 ?_ | refine k_t7 ?_ | refine k_l1 ?_ | refine k_l2 ?_ | refine k_l3 ?_ | refine k_l4 ?_ | refine k_l5 ?_ | refine k_l6 ?_ | refine k_l7 ?_ | refine k_n6 ?_ | refine k_n7 ?_ | refine k_n1 ?_ | refine k_n2 ?_ | refine k_n3 ?_ | refine k_n4 ?_ | refine k_n5 ?_ | refine ⟨dok_scal rfl rfl, dok_scal rfl rfl, ?_⟩ | refine ⟨_, rfl, ?_⟩)); (conv => whnf); (try dsimp only [PSt.set, List.set_cons_zero, List.set_cons_succ, wipeP, backP, List.getD_cons_zero, List.getD_cons_succ])
            refine ⟨sp.ok sx (by decide) (by decide), ?_⟩
            (repeat ((conv => whnf); first | refine k_i1 ?_ | refine k_i2 ?_ | refine k_i3 ?_ | refine k_i4 ?_ | refine k_i5 ?_ | refine k_i6 ?_ | refine k_i7 ?_ | refine k_b1 ?_ | refine k_b2 ?_ | refine k_b3 ?_ | refine k_b4 ?_ | refine k_b5 ?_ | refine k_b6 ?_ | refine k_b7 ?_ | refine k_s1 ?_ | refine k_s2 ?_ | refine k_s3 ?_ | refine k_s4 ?_ | refine k_s5 ?_ | refine k_s6 ?_ | refine k_s7 ?_ | refine k_t1 ?_ | refine k_t2 ?_ | refine k_t3 ?_ | refine k_t4 ?_ | refine k_t5 ?_ | refine k_t6 ?_ | refine k_t7 ?_ | refine k_l1 ?_ | refine k_l2 ?_ | refine k_l3 ?_ | refine k_l4 ?_ | refine k_l5 ?_ | refine k_l6 ?_ | refine k_l7 ?_ | refine k_n6 ?_ | refine k_n7 ?_ | refine k_n1 ?_ | refine k_n2 ?_ | refine k_n3 ?_ | refine k_n4 ?_ | refine k_n5 ?_ | refine ⟨dok_scal rfl rfl, dok_scal rfl rfl, ?_⟩ | refine ⟨_, rfl, ?_⟩)); (conv => whnf); (try dsimp only [PSt.set, List.set_cons_zero, List.set_cons_succ, wipeP, backP, List.getD_cons_zero, List.getD_cons_succ])
            refine ⟨sq.ok sy (by decide) (by decide), ?_⟩
            (repeat ((conv => whnf); first | refine k_i1 ?_ | refine k_i2 ?_ | refine k_i3 ?_ | refine k_i4 ?_ | refine k_i5 ?_ | refine k_i6 ?_ | refine k_i7 ?_ | refine k_b1 ?_ | refine k_b2 ?_ | refine k_b3 ?_ | refine k_b4 ?_ | refine k_b5 ?_ | refine k_b6 ?_ | refine k_b7 ?_ | refine k_s1 ?_ | refine k_s2 ?_ | refine k_s3 ?_ | refine k_s4 ?_ | refine k_s5 ?_ | refine k_s6 ?_ | refine k_s7 ?_ | refine k_t1 ?_ | refine k_t2 ?_ | refine k_t3 ?_ | refine k_t4 ?_ | refine k_t5 ?_ | refine k_t6 ?_ | refine k_t7 ?_ | refine k_l1 ?_ | refine k_l2 ?_ | refine k_l3 ?_ | refine k_l4 ?_ | refine k_l5 ?_ | refine k_l6 ?_ | refine k_l7 ?_ | refine k_n6 ?_ | refine k_n7 ?_ | refine k_n1 ?_ | refine k_n2 ?_ | refine k_n3 ?_ | refine k_n4 ?_ | refine k_n5 ?_ | refine ⟨dok_scal rfl rfl, dok_scal rfl rfl, ?_⟩ | refine ⟨_, rfl, ?_⟩)); (conv => whnf); (try dsimp only [PSt.set, List.set_cons_zero, List.set_cons_succ, wipeP, backP, List.getD_cons_zero, List.getD_cons_succ])
            refine p_law_form (k := 340) (a := x) (b := y) sp sq sx sy (by decide) ?_
            (repeat ((conv => whnf); first | refine k_i1 ?_ | refine k_i2 ?_ | refine k_i3 ?_ | refine k_i4 ?_ | refine k_i5 ?_ | refine k_i6 ?_ | refine k_i7 ?_ | refine k_b1 ?_ | refine k_b2 ?_ | refine k_b3 ?_ | refine k_b4 ?_ | refine k_b5 ?_ | refine k_b6 ?_ | refine k_b7 ?_ | refine k_s1 ?_ | refine k_s2 ?_ | refine k_s3 ?_ | refine k_s4 ?_ | refine k_s5 ?_ | refine k_s6 ?_ | refine k_s7 ?_ | refine k_t1 ?_ | refine k_t2 ?_ | refine k_t3 ?_ | refine k_t4 ?_ | refine k_t5 ?_ | refine k_t6 ?_ | refine k_t7 ?_ | refine k_l1 ?_ | refine k_l2 ?_ | refine k_l3 ?_ | refine k_l4 ?_ | refine k_l5 ?_ | refine k_l6 ?_ | refine k_l7 ?_ | refine k_n6 ?_ | refine k_n7 ?_ | refine k_n1 ?_ | refine k_n2 ?_ | refine k_n3 ?_ | refine k_n4 ?_ | refine k_n5 ?_ | refine ⟨dok_scal rfl rfl, dok_scal rfl rfl, ?_⟩ | refine ⟨_, rfl, ?_⟩)); (conv => whnf); (try dsimp only [PSt.set, List.set_cons_zero, List.set_cons_succ, wipeP, backP, List.getD_cons_zero, List.getD_cons_succ])
            refine ⟨sq.ok sF (by decide) (by decide), ?_⟩
            rw [eb, fm_step]
            (repeat ((conv => whnf); first | refine k_i1 ?_ | refine k_i2 ?_ | refine k_i3 ?_ | refine k_i4 ?_ | refine k_i5 ?_ | refine k_i6 ?_ | refine k_i7 ?_ | refine k_b1 ?_ | refine k_b2 ?_ | refine k_b3 ?_ | refine k_b4 ?_ | refine k_b5 ?_ | refine k_b6 ?_ | refine k_b7 ?_ | refine k_s1 ?_ | refine k_s2 ?_ | refine k_s3 ?_ | refine k_s4 ?_ | refine k_s5 ?_ | refine k_s6 ?_ | refine k_s7 ?_ | refine k_t1 ?_ | refine k_t2 ?_ | refine k_t3 ?_ | refine k_t4 ?_ | refine k_t5 ?_ | refine k_t6 ?_ | refine k_t7 ?_ | refine k_l1 ?_ | refine k_l2 ?_ | refine k_l3 ?_ | refine k_l4 ?_ | refine k_l5 ?_ | refine k_l6 ?_ | refine k_l7 ?_ | refine k_n6 ?_ | refine k_n7 ?_ | refine k_n1 ?_ | refine k_n2 ?_ | refine k_n3 ?_ | refine k_n4 ?_ | refine k_n5 ?_ | refine ⟨dok_scal rfl rfl, dok_scal rfl rfl, ?_⟩ | refine ⟨_, rfl, ?_⟩)); (conv => whnf); (try dsimp only [PSt.set, List.set_cons_zero, List.set_cons_succ, wipeP, backP, List.getD_cons_zero, List.getD_cons_succ])
            refine p_same 2 _ (by simp [deep, deeps]) (by simp [gdv, gdvs]) ?_
            exact hD2 _ ⟨_, _, rfl⟩
          · (repeat ((conv => whnf); first | refine k_i1 ?_ | refine k_i2 ?_ | refine k_i3 ?_ | refine k_i4 ?_ | refine k_i5 ?_ | refine k_i6 ?_ | refine k_i7 ?_ | refine k_b1 ?_ | refine k_b2 ?_ | refine k_b3 ?_ | refine k_b4 ?_ | refine k_b5 ?_ | refine k_b6 ?_ | refine k_b7 ?_ | refine k_s1 ?_ | refine k_s2 ?_ | refine k_s3 ?_ | refine k_s4 ?_ | refine k_s5 ?_ | refine k_s6 ?_ | refine k_s7 ?_ | refine k_t1 ?_ | refine k_t2 ?_ | refine k_t3 ?_ | refine k_t4 ?_ | refine k_t5 ?_ | refine k_t6 ?_ | refine k_t7 ?_ | refine k_l1 ?_ | refine k_l2 ?_ | refine k_l3 ?_ | refine k_l4 ?_ | refine k_l5 ?_ | refine k_l6 ?_ | refine k_l7 ?_ | refine k_n6 ?_ | refine k_n7 ?_ | refine k_n1 ?_ | refine k_n2 ?_ | refine k_n3 ?_ | refine k_n4 ?_ | refine k_n5 ?_ | refine ⟨dok_scal rfl rfl, dok_scal rfl rfl, ?_⟩ | refine ⟨_, rfl, ?_⟩)); (conv => whnf); (try dsimp only [PSt.set, List.set_cons_zero, List.set_cons_succ, wipeP, backP, List.getD_cons_zero, List.getD_cons_succ])
            exact hD2 _ ⟨_, _, rfl⟩
        · (repeat ((conv => whnf); first | refine k_i1 ?_ | refine k_i2 ?_ | refine k_i3 ?_ | refine k_i4 ?_ | refine k_i5 ?_ | refine k_i6 ?_ | refine k_i7 ?_ | refine k_b1 ?_ | refine k_b2 ?_ | refine k_b3 ?_ | refine k_b4 ?_ | refine k_b5 ?_ | refine k_b6 ?_ | refine k_b7 ?_ | refine k_s1 ?_ | refine k_s2 ?_ | refine k_s3 ?_ | refine k_s4 ?_ | refine k_s5 ?_ | refine k_s6 ?_ | refine k_s7 ?_ | refine k_t1 ?_ | refine k_t2 ?_ | refine k_t3 ?_ | refine k_t4 ?_ | refine k_t5 ?_ | refine k_t6 ?_ | refine k_t7 ?_ | refine k_l1 ?_ | refine k_l2 ?_ | refine k_l3 ?_ | refine k_l4 ?_ | refine k_l5 ?_ | refine k_l6 ?_ | refine k_l7 ?_ | refine k_n6 ?_ | refine k_n7 ?_ | refine k_n1 ?_ | refine k_n2 ?_ | refine k_n3 ?_ | refine k_n4 ?_ | refine k_n5 ?_ | refine ⟨dok_scal rfl rfl, dok_scal rfl rfl, ?_⟩ | refine ⟨_, rfl, ?_⟩)); (conv => whnf); (try dsimp only [PSt.set, List.set_cons_zero, List.set_cons_succ, wipeP, backP, List.getD_cons_zero, List.getD_cons_succ])
          exact hD2 _ ⟨_, _, rfl⟩
      · obtain ⟨a14, a15, rfl⟩ := hp'
        exact hW _ ⟨_, _, _, _, _, _, rfl, by omega, by omega⟩
    · obtain ⟨a11, a12, a13, a14, a15, d', rfl, g1, g2⟩ := hs'
      rw [show (rngL 0 4).length = 4 from rng_len (n := 4)] at g2
      exact hD _ ⟨_, _, _, _, _, _, rfl, g1, g2⟩
  rintro _ ⟨a11, a12, a13, a14, a15, d', rfl, g1, g2⟩
  -- statement 13
  (repeat ((conv => whnf); first | refine k_i1 ?_ | refine k_i2 ?_ | refine k_i3 ?_ | refine k_i4 ?_ | refine k_i5 ?_ | refine k_i6 ?_ | refine k_i7 ?_ | refine k_b1 ?_ | refine k_b2 ?_ | refine k_b3 ?_ | refine k_b4 ?_ | refine k_b5 ?_ | refine k_b6 ?_ | refine k_b7 ?_ | refine k_s1 ?_ | refine k_s2 ?_ | refine k_s3 ?_ | refine k_s4 ?_ | refine k_s5 ?_ | refine k_s6 ?_ | refine k_s7 ?_ | refine k_t1 ?_ | refine k_t2 ?_ | refine k_t3 ?_ | refine k_t4 ?_ | refine k_t5 ?_ | refine k_t6 ?_ | refine k_t7 ?_ | refine k_l1 ?_ | refine k_l2 ?_ | refine k_l3 ?_ | refine k_l4 ?_ | refine k_l5 ?_ | refine k_l6 ?_ | refine k_l7 ?_ | refine k_n6 ?_ | refine k_n7 ?_ | refine k_n1 ?_ | refine k_n2 ?_ | refine k_n3 ?_ | refine k_n4 ?_ | refine k_n5 ?_ | refine ⟨dok_scal rfl rfl, dok_scal rfl rfl, ?_⟩ | refine ⟨_, rfl, ?_⟩)); (conv => whnf); (try dsimp only [PSt.set, List.set_cons_zero, List.set_cons_succ, wipeP, backP, List.getD_cons_zero, List.getD_cons_succ])
  refine ⟨by decide, by decide, by decide, ?_⟩
  (repeat ((conv => whnf); first | refine k_i1 ?_ | refine k_i2 ?_ | refine k_i3 ?_ | refine k_i4 ?_ | refine k_i5 ?_ | refine k_i6 ?_ | refine k_i7 ?_ | refine k_b1 ?_ | refine k_b2 ?_ | refine k_b3 ?_ | refine k_b4 ?_ | refine k_b5 ?_ | refine k_b6 ?_ | refine k_b7 ?_ | refine k_s1 ?_ | refine k_s2 ?_ | refine k_s3 ?_ | refine k_s4 ?_ | refine k_s5 ?_ | refine k_s6 ?_ | refine k_s7 ?_ | refine k_t1 ?_ | refine k_t2 ?_ | refine k_t3 ?_ | refine k_t4 ?_ | refine k_t5 ?_ | refine k_t6 ?_ | refine k_t7 ?_ | refine k_l1 ?_ | refine k_l2 ?_ | refine k_l3 ?_ | refine k_l4 ?_ | refine k_l5 ?_ | refine k_l6 ?_ | refine k_l7 ?_ | refine k_n6 ?_ | refine k_n7 ?_ | refine k_n1 ?_ | refine k_n2 ?_ | refine k_n3 ?_ | refine k_n4 ?_ | refine k_n5 ?_ | refine ⟨dok_scal rfl rfl, dok_scal rfl rfl, ?_⟩ | refine ⟨_, rfl, ?_⟩)); (conv => whnf); (try dsimp only [PSt.set, List.set_cons_zero, List.set_cons_succ, wipeP, backP, List.getD_cons_zero, List.getD_cons_succ])
  refine ⟨by decide, by decide, by decide, ?_⟩
  (repeat ((conv => whnf); first | refine k_i1 ?_ | refine k_i2 ?_ | refine k_i3 ?_ | refine k_i4 ?_ | refine k_i5 ?_ | refine k_i6 ?_ | refine k_i7 ?_ | refine k_b1 ?_ | refine k_b2 ?_ | refine k_b3 ?_ | refine k_b4 ?_ | refine k_b5 ?_ | refine k_b6 ?_ | refine k_b7 ?_ | refine k_s1 ?_ | refine k_s2 ?_ | refine k_s3 ?_ | refine k_s4 ?_ | refine k_s5 ?_ | refine k_s6 ?_ | refine k_s7 ?_ | refine k_t1 ?_ | refine k_t2 ?_ | refine k_t3 ?_ | refine k_t4 ?_ | refine k_t5 ?_ | refine k_t6 ?_ | refine k_t7 ?_ | refine k_l1 ?_ | refine k_l2 ?_ | refine k_l3 ?_ | refine k_l4 ?_ | refine k_l5 ?_ | refine k_l6 ?_ | refine k_l7 ?_ | refine k_n6 ?_ | refine k_n7 ?_ | refine k_n1 ?_ | refine k_n2 ?_ | refine k_n3 ?_ | refine k_n4 ?_ | refine k_n5 ?_ | refine ⟨dok_scal rfl rfl, dok_scal rfl rfl, ?_⟩ | refine ⟨_, rfl, ?_⟩)); (conv => whnf); (try dsimp only [PSt.set, List.set_cons_zero, List.set_cons_succ, wipeP, backP, List.getD_cons_zero, List.getD_cons_succ])
  refine ⟨mB, ?_⟩
  rw [eB]
  (repeat ((conv => whnf); first | refine k_i1 ?_ | refine k_i2 ?_ | refine k_i3 ?_ | refine k_i4 ?_ | refine k_i5 ?_ | refine k_i6 ?_ | refine k_i7 ?_ | refine k_b1 ?_ | refine k_b2 ?_ | refine k_b3 ?_ | refine k_b4 ?_ | refine k_b5 ?_ | refine k_b6 ?_ | refine k_b7 ?_ | refine k_s1 ?_ | refine k_s2 ?_ | refine k_s3 ?_ | refine k_s4 ?_ | refine k_s5 ?_ | refine k_s6 ?_ | refine k_s7 ?_ | refine k_t1 ?_ | refine k_t2 ?_ | refine k_t3 ?_ | refine k_t4 ?_ | refine k_t5 ?_ | refine k_t6 ?_ | refine k_t7 ?_ | refine k_l1 ?_ | refine k_l2 ?_ | refine k_l3 ?_ | refine k_l4 ?_ | refine k_l5 ?_ | refine k_l6 ?_ | refine k_l7 ?_ | refine k_n6 ?_ | refine k_n7 ?_ | refine k_n1 ?_ | refine k_n2 ?_ | refine k_n3 ?_ | refine k_n4 ?_ | refine k_n5 ?_ | refine ⟨dok_scal rfl rfl, dok_scal rfl rfl, ?_⟩ | refine ⟨_, rfl, ?_⟩)); (conv => whnf); (try dsimp only [PSt.set, List.set_cons_zero, List.set_cons_succ, wipeP, backP, List.getD_cons_zero, List.getD_cons_succ])
  refine t_take (by omega) (by decide) (Int.lt_trans bl (by decide +kernel)) fun most q1 q2 => ?_
  refine cutS (fun p' => p' = ⟨[.val .cell, .val (.tup [.int p, .int q]), .val (.lst (rowU p q 520)), .val (.tup gs), .val (.int top), .val (.lst (rowK p q L)), .val (.int (U p q (k + 1))), .val (.int (U p q k)), .val (.int k), .val (.lst (rowK p q N)), .val (.lst (idx B)), a11, a12, a13, a14, a15, .val (.int most), .un, .un, .un, .un], d' - 1⟩) (fun D' hD => ?_) ?_
  · (repeat ((conv => whnf); first | refine k_i1 ?_ | refine k_i2 ?_ | refine k_i3 ?_ | refine k_i4 ?_ | refine k_i5 ?_ | refine k_i6 ?_ | refine k_i7 ?_ | refine k_b1 ?_ | refine k_b2 ?_ | refine k_b3 ?_ | refine k_b4 ?_ | refine k_b5 ?_ | refine k_b6 ?_ | refine k_b7 ?_ | refine k_s1 ?_ | refine k_s2 ?_ | refine k_s3 ?_ | refine k_s4 ?_ | refine k_s5 ?_ | refine k_s6 ?_ | refine k_s7 ?_ | refine k_t1 ?_ | refine k_t2 ?_ | refine k_t3 ?_ | refine k_t4 ?_ | refine k_t5 ?_ | refine k_t6 ?_ | refine k_t7 ?_ | refine k_l1 ?_ | refine k_l2 ?_ | refine k_l3 ?_ | refine k_l4 ?_ | refine k_l5 ?_ | refine k_l6 ?_ | refine k_l7 ?_ | refine k_n6 ?_ | refine k_n7 ?_ | refine k_n1 ?_ | refine k_n2 ?_ | refine k_n3 ?_ | refine k_n4 ?_ | refine k_n5 ?_ | refine ⟨dok_scal rfl rfl, dok_scal rfl rfl, ?_⟩ | refine ⟨_, rfl, ?_⟩)); (conv => whnf); (try dsimp only [PSt.set, List.set_cons_zero, List.set_cons_succ, wipeP, backP, List.getD_cons_zero, List.getD_cons_succ])
    refine p_neighK hu q1 (by omega) fun L' _ g1 g2 => ?_
    have hL' : L' ≤ 500 := by
      rcases Nat.lt_or_ge 500 L' with h5 | h5
      · have := g1 500 h5
        have := un_501 hu
        rw [show 500 + 1 = 501 from rfl] at *
        omega
      · exact h5
    (repeat ((conv => whnf); first | refine k_i1 ?_ | refine k_i2 ?_ | refine k_i3 ?_ | refine k_i4 ?_ | refine k_i5 ?_ | refine k_i6 ?_ | refine k_i7 ?_ | refine k_b1 ?_ | refine k_b2 ?_ | refine k_b3 ?_ | refine k_b4 ?_ | refine k_b5 ?_ | refine k_b6 ?_ | refine k_b7 ?_ | refine k_s1 ?_ | refine k_s2 ?_ | refine k_s3 ?_ | refine k_s4 ?_ | refine k_s5 ?_ | refine k_s6 ?_ | refine k_s7 ?_ | refine k_t1 ?_ | refine k_t2 ?_ | refine k_t3 ?_ | refine k_t4 ?_ | refine k_t5 ?_ | refine k_t6 ?_ | refine k_t7 ?_ | refine k_l1 ?_ | refine k_l2 ?_ | refine k_l3 ?_ | refine k_l4 ?_ | refine k_l5 ?_ | refine k_l6 ?_ | refine k_l7 ?_ | refine k_n6 ?_ | refine k_n7 ?_ | refine k_n1 ?_ | refine k_n2 ?_ | refine k_n3 ?_ | refine k_n4 ?_ | refine k_n5 ?_ | refine ⟨dok_scal rfl rfl, dok_scal rfl rfl, ?_⟩ | refine ⟨_, rfl, ?_⟩)); (conv => whnf); (try dsimp only [PSt.set, List.set_cons_zero, List.set_cons_succ, wipeP, backP, List.getD_cons_zero, List.getD_cons_succ])
    refine comp_if (i := 20) (own := [19, 20]) (items := rowK p q N) (mostC most) id (by decide) (by rw [rowK_len]; omega) (fun x hx d J hJ => ?_) (fun x hx _ d J hJ => ?_) ?_
    · obtain ⟨k, hk, rfl⟩ := rowK_mem hx
      (repeat ((conv => whnf); first | refine k_i1 ?_ | refine k_i2 ?_ | refine k_i3 ?_ | refine k_i4 ?_ | refine k_i5 ?_ | refine k_i6 ?_ | refine k_i7 ?_ | refine k_b1 ?_ | refine k_b2 ?_ | refine k_b3 ?_ | refine k_b4 ?_ | refine k_b5 ?_ | refine k_b6 ?_ | refine k_b7 ?_ | refine k_s1 ?_ | refine k_s2 ?_ | refine k_s3 ?_ | refine k_s4 ?_ | refine k_s5 ?_ | refine k_s6 ?_ | refine k_s7 ?_ | refine k_t1 ?_ | refine k_t2 ?_ | refine k_t3 ?_ | refine k_t4 ?_ | refine k_t5 ?_ | refine k_t6 ?_ | refine k_t7 ?_ | refine k_l1 ?_ | refine k_l2 ?_ | refine k_l3 ?_ | refine k_l4 ?_ | refine k_l5 ?_ | refine k_l6 ?_ | refine k_l7 ?_ | refine k_n6 ?_ | refine k_n7 ?_ | refine k_n1 ?_ | refine k_n2 ?_ | refine k_n3 ?_ | refine k_n4 ?_ | refine k_n5 ?_ | refine ⟨dok_scal rfl rfl, dok_scal rfl rfl, ?_⟩ | refine ⟨_, rfl, ?_⟩)); (conv => whnf); (try dsimp only [PSt.set, List.set_cons_zero, List.set_cons_succ, wipeP, backP, List.getD_cons_zero, List.getD_cons_succ])
      exact hJ
    · obtain ⟨k, hk, rfl⟩ := rowK_mem hx
      (repeat ((conv => whnf); first | refine k_i1 ?_ | refine k_i2 ?_ | refine k_i3 ?_ | refine k_i4 ?_ | refine k_i5 ?_ | refine k_i6 ?_ | refine k_i7 ?_ | refine k_b1 ?_ | refine k_b2 ?_ | refine k_b3 ?_ | refine k_b4 ?_ | refine k_b5 ?_ | refine k_b6 ?_ | refine k_b7 ?_ | refine k_s1 ?_ | refine k_s2 ?_ | refine k_s3 ?_ | refine k_s4 ?_ | refine k_s5 ?_ | refine k_s6 ?_ | refine k_s7 ?_ | refine k_t1 ?_ | refine k_t2 ?_ | refine k_t3 ?_ | refine k_t4 ?_ | refine k_t5 ?_ | refine k_t6 ?_ | refine k_t7 ?_ | refine k_l1 ?_ | refine k_l2 ?_ | refine k_l3 ?_ | refine k_l4 ?_ | refine k_l5 ?_ | refine k_l6 ?_ | refine k_l7 ?_ | refine k_n6 ?_ | refine k_n7 ?_ | refine k_n1 ?_ | refine k_n2 ?_ | refine k_n3 ?_ | refine k_n4 ?_ | refine k_n5 ?_ | refine ⟨dok_scal rfl rfl, dok_scal rfl rfl, ?_⟩ | refine ⟨_, rfl, ?_⟩)); (conv => whnf); (try dsimp only [PSt.set, List.set_cons_zero, List.set_cons_succ, wipeP, backP, List.getD_cons_zero, List.getD_cons_succ])
      exact hJ
    have mostE : ∀ k, mostC most (prV (pk p q k)) = decide (U p q (k + 1) ≤ most) := fun k => rfl
    rw [List.map_id, rowK_filter mostE (fun k hk => decide_eq_true (g1 k hk)) (fun k hk => decide_eq_false (by
      have := cut_ge hu g2 hk
      omega)) (by omega)]
    (repeat ((conv => whnf); first | refine k_i1 ?_ | refine k_i2 ?_ | refine k_i3 ?_ | refine k_i4 ?_ | refine k_i5 ?_ | refine k_i6 ?_ | refine k_i7 ?_ | refine k_b1 ?_ | refine k_b2 ?_ | refine k_b3 ?_ | refine k_b4 ?_ | refine k_b5 ?_ | refine k_b6 ?_ | refine k_b7 ?_ | refine k_s1 ?_ | refine k_s2 ?_ | refine k_s3 ?_ | refine k_s4 ?_ | refine k_s5 ?_ | refine k_s6 ?_ | refine k_s7 ?_ | refine k_t1 ?_ | refine k_t2 ?_ | refine k_t3 ?_ | refine k_t4 ?_ | refine k_t5 ?_ | refine k_t6 ?_ | refine k_t7 ?_ | refine k_l1 ?_ | refine k_l2 ?_ | refine k_l3 ?_ | refine k_l4 ?_ | refine k_l5 ?_ | refine k_l6 ?_ | refine k_l7 ?_ | refine k_n6 ?_ | refine k_n7 ?_ | refine k_n1 ?_ | refine k_n2 ?_ | refine k_n3 ?_ | refine k_n4 ?_ | refine k_n5 ?_ | refine ⟨dok_scal rfl rfl, dok_scal rfl rfl, ?_⟩ | refine ⟨_, rfl, ?_⟩)); (conv => whnf); (try dsimp only [PSt.set, List.set_cons_zero, List.set_cons_succ, wipeP, backP, List.getD_cons_zero, List.getD_cons_succ])
    refine p_same 2 _ deep_rowK (gdv_rowK (by omega)) ?_
    exact hD _ rfl
  rintro _ rfl
  -- statement 15
  have ok0 : OkRule (0) (-1) := ⟨by decide, by decide, by decide⟩
  have un0 : isU (0) (-1) = false := by decide
  have ok1 : OkRule (-1) (-1) := ⟨by decide, by decide, by decide⟩
  have un1 : isU (-1) (-1) = false := by decide
  have ok2 : OkRule (2) (1) := ⟨by decide, by decide, by decide⟩
  have un2 : isU (2) (1) = false := by decide
  have ok3 : OkRule (1) (1) := ⟨by decide, by decide, by decide⟩
  have un3 : isU (1) (1) = false := by decide
  have ok4 : OkRule (0) (1) := ⟨by decide, by decide, by decide⟩
  have un4 : isU (0) (1) = false := by decide
  have ok5 : OkRule (3) (2) := ⟨by decide, by decide, by decide⟩
  have un5 : isU (3) (2) = false := by decide
  have ok6 : OkRule (1) (-2) := ⟨by decide, by decide, by decide⟩
  have un6 : isU (1) (-2) = false := by decide
  have ok7 : OkRule (-3) (1) := ⟨by decide, by decide, by decide⟩
  have un7 : isU (-3) (1) = false := by decide
  (repeat ((conv => whnf); first | refine k_i1 ?_ | refine k_i2 ?_ | refine k_i3 ?_ | refine k_i4 ?_ | refine k_i5 ?_ | refine k_i6 ?_ | refine k_i7 ?_ | refine k_b1 ?_ | refine k_b2 ?_ | refine k_b3 ?_ | refine k_b4 ?_ | refine k_b5 ?_ | refine k_b6 ?_ | refine k_b7 ?_ | refine k_s1 ?_ | refine k_s2 ?_ | refine k_s3 ?_ | refine k_s4 ?_ | refine k_s5 ?_ | refine k_s6 ?_ | refine k_s7 ?_ | refine k_t1 ?_ | refine k_t2 ?_ | refine k_t3 ?_ | refine k_t4 ?_ | refine k_t5 ?_ | refine k_t6 ?_ | refine k_t7 ?_ | refine k_l1 ?_ | refine k_l2 ?_ | refine k_l3 ?_ | refine k_l4 ?_ | refine k_l5 ?_ | refine k_l6 ?_ | refine k_l7 ?_ | refine k_n6 ?_ | refine k_n7 ?_ | refine k_n1 ?_ | refine k_n2 ?_ | refine k_n3 ?_ | refine k_n4 ?_ | refine k_n5 ?_ | refine ⟨dok_scal rfl rfl, dok_scal rfl rfl, ?_⟩ | refine ⟨_, rfl, ?_⟩)); (conv => whnf); (try dsimp only [PSt.set, List.set_cons_zero, List.set_cons_succ, wipeP, backP, List.getD_cons_zero, List.getD_cons_succ])
  refine p_is_unit (p := 0) (q := -1) (.inl rfl) ok0 ?_
  rw [un0]
  (conv => whnf); (try dsimp only [PSt.set, List.set_cons_zero, List.set_cons_succ, wipeP, backP, List.getD_cons_zero, List.getD_cons_succ])
  refine ⟨by simp, ?_⟩
  (repeat ((conv => whnf); first | refine k_i1 ?_ | refine k_i2 ?_ | refine k_i3 ?_ | refine k_i4 ?_ | refine k_i5 ?_ | refine k_i6 ?_ | refine k_i7 ?_ | refine k_b1 ?_ | refine k_b2 ?_ | refine k_b3 ?_ | refine k_b4 ?_ | refine k_b5 ?_ | refine k_b6 ?_ | refine k_b7 ?_ | refine k_s1 ?_ | refine k_s2 ?_ | refine k_s3 ?_ | refine k_s4 ?_ | refine k_s5 ?_ | refine k_s6 ?_ | refine k_s7 ?_ | refine k_t1 ?_ | refine k_t2 ?_ | refine k_t3 ?_ | refine k_t4 ?_ | refine k_t5 ?_ | refine k_t6 ?_ | refine k_t7 ?_ | refine k_l1 ?_ | refine k_l2 ?_ | refine k_l3 ?_ | refine k_l4 ?_ | refine k_l5 ?_ | refine k_l6 ?_ | refine k_l7 ?_ | refine k_n6 ?_ | refine k_n7 ?_ | refine k_n1 ?_ | refine k_n2 ?_ | refine k_n3 ?_ | refine k_n4 ?_ | refine k_n5 ?_ | refine ⟨dok_scal rfl rfl, dok_scal rfl rfl, ?_⟩ | refine ⟨_, rfl, ?_⟩)); (conv => whnf); (try dsimp only [PSt.set, List.set_cons_zero, List.set_cons_succ, wipeP, backP, List.getD_cons_zero, List.getD_cons_succ])
  refine p_is_unit (p := -1) (q := -1) (.inl rfl) ok1 ?_
  rw [un1]
  (conv => whnf); (try dsimp only [PSt.set, List.set_cons_zero, List.set_cons_succ, wipeP, backP, List.getD_cons_zero, List.getD_cons_succ])
  refine ⟨by simp, ?_⟩
  (repeat ((conv => whnf); first | refine k_i1 ?_ | refine k_i2 ?_ | refine k_i3 ?_ | refine k_i4 ?_ | refine k_i5 ?_ | refine k_i6 ?_ | refine k_i7 ?_ | refine k_b1 ?_ | refine k_b2 ?_ | refine k_b3 ?_ | refine k_b4 ?_ | refine k_b5 ?_ | refine k_b6 ?_ | refine k_b7 ?_ | refine k_s1 ?_ | refine k_s2 ?_ | refine k_s3 ?_ | refine k_s4 ?_ | refine k_s5 ?_ | refine k_s6 ?_ | refine k_s7 ?_ | refine k_t1 ?_ | refine k_t2 ?_ | refine k_t3 ?_ | refine k_t4 ?_ | refine k_t5 ?_ | refine k_t6 ?_ | refine k_t7 ?_ | refine k_l1 ?_ | refine k_l2 ?_ | refine k_l3 ?_ | refine k_l4 ?_ | refine k_l5 ?_ | refine k_l6 ?_ | refine k_l7 ?_ | refine k_n6 ?_ | refine k_n7 ?_ | refine k_n1 ?_ | refine k_n2 ?_ | refine k_n3 ?_ | refine k_n4 ?_ | refine k_n5 ?_ | refine ⟨dok_scal rfl rfl, dok_scal rfl rfl, ?_⟩ | refine ⟨_, rfl, ?_⟩)); (conv => whnf); (try dsimp only [PSt.set, List.set_cons_zero, List.set_cons_succ, wipeP, backP, List.getD_cons_zero, List.getD_cons_succ])
  refine p_is_unit (p := 2) (q := 1) (.inl rfl) ok2 ?_
  rw [un2]
  (conv => whnf); (try dsimp only [PSt.set, List.set_cons_zero, List.set_cons_succ, wipeP, backP, List.getD_cons_zero, List.getD_cons_succ])
  refine ⟨by simp, ?_⟩
  (repeat ((conv => whnf); first | refine k_i1 ?_ | refine k_i2 ?_ | refine k_i3 ?_ | refine k_i4 ?_ | refine k_i5 ?_ | refine k_i6 ?_ | refine k_i7 ?_ | refine k_b1 ?_ | refine k_b2 ?_ | refine k_b3 ?_ | refine k_b4 ?_ | refine k_b5 ?_ | refine k_b6 ?_ | refine k_b7 ?_ | refine k_s1 ?_ | refine k_s2 ?_ | refine k_s3 ?_ | refine k_s4 ?_ | refine k_s5 ?_ | refine k_s6 ?_ | refine k_s7 ?_ | refine k_t1 ?_ | refine k_t2 ?_ | refine k_t3 ?_ | refine k_t4 ?_ | refine k_t5 ?_ | refine k_t6 ?_ | refine k_t7 ?_ | refine k_l1 ?_ | refine k_l2 ?_ | refine k_l3 ?_ | refine k_l4 ?_ | refine k_l5 ?_ | refine k_l6 ?_ | refine k_l7 ?_ | refine k_n6 ?_ | refine k_n7 ?_ | refine k_n1 ?_ | refine k_n2 ?_ | refine k_n3 ?_ | refine k_n4 ?_ | refine k_n5 ?_ | refine ⟨dok_scal rfl rfl, dok_scal rfl rfl, ?_⟩ | refine ⟨_, rfl, ?_⟩)); (conv => whnf); (try dsimp only [PSt.set, List.set_cons_zero, List.set_cons_succ, wipeP, backP, List.getD_cons_zero, List.getD_cons_succ])
  refine p_is_unit (p := 1) (q := 1) (.inl rfl) ok3 ?_
  rw [un3]
  (conv => whnf); (try dsimp only [PSt.set, List.set_cons_zero, List.set_cons_succ, wipeP, backP, List.getD_cons_zero, List.getD_cons_succ])
  refine ⟨by simp, ?_⟩
  (repeat ((conv => whnf); first | refine k_i1 ?_ | refine k_i2 ?_ | refine k_i3 ?_ | refine k_i4 ?_ | refine k_i5 ?_ | refine k_i6 ?_ | refine k_i7 ?_ | refine k_b1 ?_ | refine k_b2 ?_ | refine k_b3 ?_ | refine k_b4 ?_ | refine k_b5 ?_ | refine k_b6 ?_ | refine k_b7 ?_ | refine k_s1 ?_ | refine k_s2 ?_ | refine k_s3 ?_ | refine k_s4 ?_ | refine k_s5 ?_ | refine k_s6 ?_ | refine k_s7 ?_ | refine k_t1 ?_ | refine k_t2 ?_ | refine k_t3 ?_ | refine k_t4 ?_ | refine k_t5 ?_ | refine k_t6 ?_ | refine k_t7 ?_ | refine k_l1 ?_ | refine k_l2 ?_ | refine k_l3 ?_ | refine k_l4 ?_ | refine k_l5 ?_ | refine k_l6 ?_ | refine k_l7 ?_ | refine k_n6 ?_ | refine k_n7 ?_ | refine k_n1 ?_ | refine k_n2 ?_ | refine k_n3 ?_ | refine k_n4 ?_ | refine k_n5 ?_ | refine ⟨dok_scal rfl rfl, dok_scal rfl rfl, ?_⟩ | refine ⟨_, rfl, ?_⟩)); (conv => whnf); (try dsimp only [PSt.set, List.set_cons_zero, List.set_cons_succ, wipeP, backP, List.getD_cons_zero, List.getD_cons_succ])
  refine p_is_unit (p := 0) (q := 1) (.inl rfl) ok4 ?_
  rw [un4]
  (conv => whnf); (try dsimp only [PSt.set, List.set_cons_zero, List.set_cons_succ, wipeP, backP, List.getD_cons_zero, List.getD_cons_succ])
  refine ⟨by simp, ?_⟩
  (repeat ((conv => whnf); first | refine k_i1 ?_ | refine k_i2 ?_ | refine k_i3 ?_ | refine k_i4 ?_ | refine k_i5 ?_ | refine k_i6 ?_ | refine k_i7 ?_ | refine k_b1 ?_ | refine k_b2 ?_ | refine k_b3 ?_ | refine k_b4 ?_ | refine k_b5 ?_ | refine k_b6 ?_ | refine k_b7 ?_ | refine k_s1 ?_ | refine k_s2 ?_ | refine k_s3 ?_ | refine k_s4 ?_ | refine k_s5 ?_ | refine k_s6 ?_ | refine k_s7 ?_ | refine k_t1 ?_ | refine k_t2 ?_ | refine k_t3 ?_ | refine k_t4 ?_ | refine k_t5 ?_ | refine k_t6 ?_ | refine k_t7 ?_ | refine k_l1 ?_ | refine k_l2 ?_ | refine k_l3 ?_ | refine k_l4 ?_ | refine k_l5 ?_ | refine k_l6 ?_ | refine k_l7 ?_ | refine k_n6 ?_ | refine k_n7 ?_ | refine k_n1 ?_ | refine k_n2 ?_ | refine k_n3 ?_ | refine k_n4 ?_ | refine k_n5 ?_ | refine ⟨dok_scal rfl rfl, dok_scal rfl rfl, ?_⟩ | refine ⟨_, rfl, ?_⟩)); (conv => whnf); (try dsimp only [PSt.set, List.set_cons_zero, List.set_cons_succ, wipeP, backP, List.getD_cons_zero, List.getD_cons_succ])
  refine p_is_unit (p := 3) (q := 2) (.inl rfl) ok5 ?_
  rw [un5]
  (conv => whnf); (try dsimp only [PSt.set, List.set_cons_zero, List.set_cons_succ, wipeP, backP, List.getD_cons_zero, List.getD_cons_succ])
  refine ⟨by simp, ?_⟩
  (repeat ((conv => whnf); first | refine k_i1 ?_ | refine k_i2 ?_ | refine k_i3 ?_ | refine k_i4 ?_ | refine k_i5 ?_ | refine k_i6 ?_ | refine k_i7 ?_ | refine k_b1 ?_ | refine k_b2 ?_ | refine k_b3 ?_ | refine k_b4 ?_ | refine k_b5 ?_ | refine k_b6 ?_ | refine k_b7 ?_ | refine k_s1 ?_ | refine k_s2 ?_ | refine k_s3 ?_ | refine k_s4 ?_ | refine k_s5 ?_ | refine k_s6 ?_ | refine k_s7 ?_ | refine k_t1 ?_ | refine k_t2 ?_ | refine k_t3 ?_ | refine k_t4 ?_ | refine k_t5 ?_ | refine k_t6 ?_ | refine k_t7 ?_ | refine k_l1 ?_ | refine k_l2 ?_ | refine k_l3 ?_ | refine k_l4 ?_ | refine k_l5 ?_ | refine k_l6 ?_ | refine k_l7 ?_ | refine k_n6 ?_ | refine k_n7 ?_ | refine k_n1 ?_ | refine k_n2 ?_ | refine k_n3 ?_ | refine k_n4 ?_ | refine k_n5 ?_ | refine ⟨dok_scal rfl rfl, dok_scal rfl rfl, ?_⟩ | refine ⟨_, rfl, ?_⟩)); (conv => whnf); (try dsimp only [PSt.set, List.set_cons_zero, List.set_cons_succ, wipeP, backP, List.getD_cons_zero, List.getD_cons_succ])
  refine p_is_unit (p := 1) (q := -2) (.inl rfl) ok6 ?_
  rw [un6]
  (conv => whnf); (try dsimp only [PSt.set, List.set_cons_zero, List.set_cons_succ, wipeP, backP, List.getD_cons_zero, List.getD_cons_succ])
  refine ⟨by simp, ?_⟩
  (repeat ((conv => whnf); first | refine k_i1 ?_ | refine k_i2 ?_ | refine k_i3 ?_ | refine k_i4 ?_ | refine k_i5 ?_ | refine k_i6 ?_ | refine k_i7 ?_ | refine k_b1 ?_ | refine k_b2 ?_ | refine k_b3 ?_ | refine k_b4 ?_ | refine k_b5 ?_ | refine k_b6 ?_ | refine k_b7 ?_ | refine k_s1 ?_ | refine k_s2 ?_ | refine k_s3 ?_ | refine k_s4 ?_ | refine k_s5 ?_ | refine k_s6 ?_ | refine k_s7 ?_ | refine k_t1 ?_ | refine k_t2 ?_ | refine k_t3 ?_ | refine k_t4 ?_ | refine k_t5 ?_ | refine k_t6 ?_ | refine k_t7 ?_ | refine k_l1 ?_ | refine k_l2 ?_ | refine k_l3 ?_ | refine k_l4 ?_ | refine k_l5 ?_ | refine k_l6 ?_ | refine k_l7 ?_ | refine k_n6 ?_ | refine k_n7 ?_ | refine k_n1 ?_ | refine k_n2 ?_ | refine k_n3 ?_ | refine k_n4 ?_ | refine k_n5 ?_ | refine ⟨dok_scal rfl rfl, dok_scal rfl rfl, ?_⟩ | refine ⟨_, rfl, ?_⟩)); (conv => whnf); (try dsimp only [PSt.set, List.set_cons_zero, List.set_cons_succ, wipeP, backP, List.getD_cons_zero, List.getD_cons_succ])
  refine p_is_unit (p := -3) (q := 1) (.inl rfl) ok7 ?_
  rw [un7]
  (conv => whnf); (try dsimp only [PSt.set, List.set_cons_zero, List.set_cons_succ, wipeP, backP, List.getD_cons_zero, List.getD_cons_succ])
  refine ⟨by simp, ?_⟩
  (repeat ((conv => whnf); first | refine k_i1 ?_ | refine k_i2 ?_ | refine k_i3 ?_ | refine k_i4 ?_ | refine k_i5 ?_ | refine k_i6 ?_ | refine k_i7 ?_ | refine k_b1 ?_ | refine k_b2 ?_ | refine k_b3 ?_ | refine k_b4 ?_ | refine k_b5 ?_ | refine k_b6 ?_ | refine k_b7 ?_ | refine k_s1 ?_ | refine k_s2 ?_ | refine k_s3 ?_ | refine k_s4 ?_ | refine k_s5 ?_ | refine k_s6 ?_ | refine k_s7 ?_ | refine k_t1 ?_ | refine k_t2 ?_ | refine k_t3 ?_ | refine k_t4 ?_ | refine k_t5 ?_ | refine k_t6 ?_ | refine k_t7 ?_ | refine k_l1 ?_ | refine k_l2 ?_ | refine k_l3 ?_ | refine k_l4 ?_ | refine k_l5 ?_ | refine k_l6 ?_ | refine k_l7 ?_ | refine k_n6 ?_ | refine k_n7 ?_ | refine k_n1 ?_ | refine k_n2 ?_ | refine k_n3 ?_ | refine k_n4 ?_ | refine k_n5 ?_ | refine ⟨dok_scal rfl rfl, dok_scal rfl rfl, ?_⟩ | refine ⟨_, rfl, ?_⟩)); (conv => whnf); (try dsimp only [PSt.set, List.set_cons_zero, List.set_cons_succ, wipeP, backP, List.getD_cons_zero, List.getD_cons_succ])
  refine p_heard_x (x := .cannot) (by simp) (by simp) (by simp) (fun J E hE => p_nplace_not (a := 1) (b := 0) ok0 un0 (by decide) (by decide) (by decide) (by decide) hE) ?_
  (conv => whnf); (try dsimp only [PSt.set, List.set_cons_zero, List.set_cons_succ, wipeP, backP, List.getD_cons_zero, List.getD_cons_succ])
  refine ⟨by simp, ?_⟩
  (repeat ((conv => whnf); first | refine k_i1 ?_ | refine k_i2 ?_ | refine k_i3 ?_ | refine k_i4 ?_ | refine k_i5 ?_ | refine k_i6 ?_ | refine k_i7 ?_ | refine k_b1 ?_ | refine k_b2 ?_ | refine k_b3 ?_ | refine k_b4 ?_ | refine k_b5 ?_ | refine k_b6 ?_ | refine k_b7 ?_ | refine k_s1 ?_ | refine k_s2 ?_ | refine k_s3 ?_ | refine k_s4 ?_ | refine k_s5 ?_ | refine k_s6 ?_ | refine k_s7 ?_ | refine k_t1 ?_ | refine k_t2 ?_ | refine k_t3 ?_ | refine k_t4 ?_ | refine k_t5 ?_ | refine k_t6 ?_ | refine k_t7 ?_ | refine k_l1 ?_ | refine k_l2 ?_ | refine k_l3 ?_ | refine k_l4 ?_ | refine k_l5 ?_ | refine k_l6 ?_ | refine k_l7 ?_ | refine k_n6 ?_ | refine k_n7 ?_ | refine k_n1 ?_ | refine k_n2 ?_ | refine k_n3 ?_ | refine k_n4 ?_ | refine k_n5 ?_ | refine ⟨dok_scal rfl rfl, dok_scal rfl rfl, ?_⟩ | refine ⟨_, rfl, ?_⟩)); (conv => whnf); (try dsimp only [PSt.set, List.set_cons_zero, List.set_cons_succ, wipeP, backP, List.getD_cons_zero, List.getD_cons_succ])
  refine p_heard_x (x := .cannot) (by simp) (by simp) (by simp) (fun J E hE => p_nplace_not (a := 1) (b := 0) ok1 un1 (by decide) (by decide) (by decide) (by decide) hE) ?_
  (conv => whnf); (try dsimp only [PSt.set, List.set_cons_zero, List.set_cons_succ, wipeP, backP, List.getD_cons_zero, List.getD_cons_succ])
  refine ⟨by simp, ?_⟩
  (repeat ((conv => whnf); first | refine k_i1 ?_ | refine k_i2 ?_ | refine k_i3 ?_ | refine k_i4 ?_ | refine k_i5 ?_ | refine k_i6 ?_ | refine k_i7 ?_ | refine k_b1 ?_ | refine k_b2 ?_ | refine k_b3 ?_ | refine k_b4 ?_ | refine k_b5 ?_ | refine k_b6 ?_ | refine k_b7 ?_ | refine k_s1 ?_ | refine k_s2 ?_ | refine k_s3 ?_ | refine k_s4 ?_ | refine k_s5 ?_ | refine k_s6 ?_ | refine k_s7 ?_ | refine k_t1 ?_ | refine k_t2 ?_ | refine k_t3 ?_ | refine k_t4 ?_ | refine k_t5 ?_ | refine k_t6 ?_ | refine k_t7 ?_ | refine k_l1 ?_ | refine k_l2 ?_ | refine k_l3 ?_ | refine k_l4 ?_ | refine k_l5 ?_ | refine k_l6 ?_ | refine k_l7 ?_ | refine k_n6 ?_ | refine k_n7 ?_ | refine k_n1 ?_ | refine k_n2 ?_ | refine k_n3 ?_ | refine k_n4 ?_ | refine k_n5 ?_ | refine ⟨dok_scal rfl rfl, dok_scal rfl rfl, ?_⟩ | refine ⟨_, rfl, ?_⟩)); (conv => whnf); (try dsimp only [PSt.set, List.set_cons_zero, List.set_cons_succ, wipeP, backP, List.getD_cons_zero, List.getD_cons_succ])
  refine p_heard_x (x := .cannot) (by simp) (by simp) (by simp) (fun J E hE => p_nplace_not (a := 1) (b := 0) ok2 un2 (by decide) (by decide) (by decide) (by decide) hE) ?_
  (conv => whnf); (try dsimp only [PSt.set, List.set_cons_zero, List.set_cons_succ, wipeP, backP, List.getD_cons_zero, List.getD_cons_succ])
  refine ⟨by simp, ?_⟩
  (repeat ((conv => whnf); first | refine k_i1 ?_ | refine k_i2 ?_ | refine k_i3 ?_ | refine k_i4 ?_ | refine k_i5 ?_ | refine k_i6 ?_ | refine k_i7 ?_ | refine k_b1 ?_ | refine k_b2 ?_ | refine k_b3 ?_ | refine k_b4 ?_ | refine k_b5 ?_ | refine k_b6 ?_ | refine k_b7 ?_ | refine k_s1 ?_ | refine k_s2 ?_ | refine k_s3 ?_ | refine k_s4 ?_ | refine k_s5 ?_ | refine k_s6 ?_ | refine k_s7 ?_ | refine k_t1 ?_ | refine k_t2 ?_ | refine k_t3 ?_ | refine k_t4 ?_ | refine k_t5 ?_ | refine k_t6 ?_ | refine k_t7 ?_ | refine k_l1 ?_ | refine k_l2 ?_ | refine k_l3 ?_ | refine k_l4 ?_ | refine k_l5 ?_ | refine k_l6 ?_ | refine k_l7 ?_ | refine k_n6 ?_ | refine k_n7 ?_ | refine k_n1 ?_ | refine k_n2 ?_ | refine k_n3 ?_ | refine k_n4 ?_ | refine k_n5 ?_ | refine ⟨dok_scal rfl rfl, dok_scal rfl rfl, ?_⟩ | refine ⟨_, rfl, ?_⟩)); (conv => whnf); (try dsimp only [PSt.set, List.set_cons_zero, List.set_cons_succ, wipeP, backP, List.getD_cons_zero, List.getD_cons_succ])
  refine p_heard_x (x := .cannot) (by simp) (by simp) (by simp) (fun J E hE => p_nplace_not (a := 1) (b := 0) ok3 un3 (by decide) (by decide) (by decide) (by decide) hE) ?_
  (conv => whnf); (try dsimp only [PSt.set, List.set_cons_zero, List.set_cons_succ, wipeP, backP, List.getD_cons_zero, List.getD_cons_succ])
  refine ⟨by simp, ?_⟩
  (repeat ((conv => whnf); first | refine k_i1 ?_ | refine k_i2 ?_ | refine k_i3 ?_ | refine k_i4 ?_ | refine k_i5 ?_ | refine k_i6 ?_ | refine k_i7 ?_ | refine k_b1 ?_ | refine k_b2 ?_ | refine k_b3 ?_ | refine k_b4 ?_ | refine k_b5 ?_ | refine k_b6 ?_ | refine k_b7 ?_ | refine k_s1 ?_ | refine k_s2 ?_ | refine k_s3 ?_ | refine k_s4 ?_ | refine k_s5 ?_ | refine k_s6 ?_ | refine k_s7 ?_ | refine k_t1 ?_ | refine k_t2 ?_ | refine k_t3 ?_ | refine k_t4 ?_ | refine k_t5 ?_ | refine k_t6 ?_ | refine k_t7 ?_ | refine k_l1 ?_ | refine k_l2 ?_ | refine k_l3 ?_ | refine k_l4 ?_ | refine k_l5 ?_ | refine k_l6 ?_ | refine k_l7 ?_ | refine k_n6 ?_ | refine k_n7 ?_ | refine k_n1 ?_ | refine k_n2 ?_ | refine k_n3 ?_ | refine k_n4 ?_ | refine k_n5 ?_ | refine ⟨dok_scal rfl rfl, dok_scal rfl rfl, ?_⟩ | refine ⟨_, rfl, ?_⟩)); (conv => whnf); (try dsimp only [PSt.set, List.set_cons_zero, List.set_cons_succ, wipeP, backP, List.getD_cons_zero, List.getD_cons_succ])
  refine p_heard_x (x := .cannot) (by simp) (by simp) (by simp) (fun J E hE => p_nplace_not (a := 1) (b := 0) ok4 un4 (by decide) (by decide) (by decide) (by decide) hE) ?_
  (conv => whnf); (try dsimp only [PSt.set, List.set_cons_zero, List.set_cons_succ, wipeP, backP, List.getD_cons_zero, List.getD_cons_succ])
  refine ⟨by simp, ?_⟩
  (repeat ((conv => whnf); first | refine k_i1 ?_ | refine k_i2 ?_ | refine k_i3 ?_ | refine k_i4 ?_ | refine k_i5 ?_ | refine k_i6 ?_ | refine k_i7 ?_ | refine k_b1 ?_ | refine k_b2 ?_ | refine k_b3 ?_ | refine k_b4 ?_ | refine k_b5 ?_ | refine k_b6 ?_ | refine k_b7 ?_ | refine k_s1 ?_ | refine k_s2 ?_ | refine k_s3 ?_ | refine k_s4 ?_ | refine k_s5 ?_ | refine k_s6 ?_ | refine k_s7 ?_ | refine k_t1 ?_ | refine k_t2 ?_ | refine k_t3 ?_ | refine k_t4 ?_ | refine k_t5 ?_ | refine k_t6 ?_ | refine k_t7 ?_ | refine k_l1 ?_ | refine k_l2 ?_ | refine k_l3 ?_ | refine k_l4 ?_ | refine k_l5 ?_ | refine k_l6 ?_ | refine k_l7 ?_ | refine k_n6 ?_ | refine k_n7 ?_ | refine k_n1 ?_ | refine k_n2 ?_ | refine k_n3 ?_ | refine k_n4 ?_ | refine k_n5 ?_ | refine ⟨dok_scal rfl rfl, dok_scal rfl rfl, ?_⟩ | refine ⟨_, rfl, ?_⟩)); (conv => whnf); (try dsimp only [PSt.set, List.set_cons_zero, List.set_cons_succ, wipeP, backP, List.getD_cons_zero, List.getD_cons_succ])
  refine p_heard_x (x := .cannot) (by simp) (by simp) (by simp) (fun J E hE => p_nplace_not (a := 1) (b := 0) ok5 un5 (by decide) (by decide) (by decide) (by decide) hE) ?_
  (conv => whnf); (try dsimp only [PSt.set, List.set_cons_zero, List.set_cons_succ, wipeP, backP, List.getD_cons_zero, List.getD_cons_succ])
  refine ⟨by simp, ?_⟩
  (repeat ((conv => whnf); first | refine k_i1 ?_ | refine k_i2 ?_ | refine k_i3 ?_ | refine k_i4 ?_ | refine k_i5 ?_ | refine k_i6 ?_ | refine k_i7 ?_ | refine k_b1 ?_ | refine k_b2 ?_ | refine k_b3 ?_ | refine k_b4 ?_ | refine k_b5 ?_ | refine k_b6 ?_ | refine k_b7 ?_ | refine k_s1 ?_ | refine k_s2 ?_ | refine k_s3 ?_ | refine k_s4 ?_ | refine k_s5 ?_ | refine k_s6 ?_ | refine k_s7 ?_ | refine k_t1 ?_ | refine k_t2 ?_ | refine k_t3 ?_ | refine k_t4 ?_ | refine k_t5 ?_ | refine k_t6 ?_ | refine k_t7 ?_ | refine k_l1 ?_ | refine k_l2 ?_ | refine k_l3 ?_ | refine k_l4 ?_ | refine k_l5 ?_ | refine k_l6 ?_ | refine k_l7 ?_ | refine k_n6 ?_ | refine k_n7 ?_ | refine k_n1 ?_ | refine k_n2 ?_ | refine k_n3 ?_ | refine k_n4 ?_ | refine k_n5 ?_ | refine ⟨dok_scal rfl rfl, dok_scal rfl rfl, ?_⟩ | refine ⟨_, rfl, ?_⟩)); (conv => whnf); (try dsimp only [PSt.set, List.set_cons_zero, List.set_cons_succ, wipeP, backP, List.getD_cons_zero, List.getD_cons_succ])
  refine p_heard_x (x := .cannot) (by simp) (by simp) (by simp) (fun J E hE => p_nplace_not (a := 1) (b := 0) ok6 un6 (by decide) (by decide) (by decide) (by decide) hE) ?_
  (conv => whnf); (try dsimp only [PSt.set, List.set_cons_zero, List.set_cons_succ, wipeP, backP, List.getD_cons_zero, List.getD_cons_succ])
  refine ⟨by simp, ?_⟩
  (repeat ((conv => whnf); first | refine k_i1 ?_ | refine k_i2 ?_ | refine k_i3 ?_ | refine k_i4 ?_ | refine k_i5 ?_ | refine k_i6 ?_ | refine k_i7 ?_ | refine k_b1 ?_ | refine k_b2 ?_ | refine k_b3 ?_ | refine k_b4 ?_ | refine k_b5 ?_ | refine k_b6 ?_ | refine k_b7 ?_ | refine k_s1 ?_ | refine k_s2 ?_ | refine k_s3 ?_ | refine k_s4 ?_ | refine k_s5 ?_ | refine k_s6 ?_ | refine k_s7 ?_ | refine k_t1 ?_ | refine k_t2 ?_ | refine k_t3 ?_ | refine k_t4 ?_ | refine k_t5 ?_ | refine k_t6 ?_ | refine k_t7 ?_ | refine k_l1 ?_ | refine k_l2 ?_ | refine k_l3 ?_ | refine k_l4 ?_ | refine k_l5 ?_ | refine k_l6 ?_ | refine k_l7 ?_ | refine k_n6 ?_ | refine k_n7 ?_ | refine k_n1 ?_ | refine k_n2 ?_ | refine k_n3 ?_ | refine k_n4 ?_ | refine k_n5 ?_ | refine ⟨dok_scal rfl rfl, dok_scal rfl rfl, ?_⟩ | refine ⟨_, rfl, ?_⟩)); (conv => whnf); (try dsimp only [PSt.set, List.set_cons_zero, List.set_cons_succ, wipeP, backP, List.getD_cons_zero, List.getD_cons_succ])
  refine p_heard_x (x := .cannot) (by simp) (by simp) (by simp) (fun J E hE => p_nplace_not (a := 1) (b := 0) ok7 un7 (by decide) (by decide) (by decide) (by decide) hE) ?_
  (conv => whnf); (try dsimp only [PSt.set, List.set_cons_zero, List.set_cons_succ, wipeP, backP, List.getD_cons_zero, List.getD_cons_succ])
  refine ⟨by simp, ?_⟩
  (repeat ((conv => whnf); first | refine k_i1 ?_ | refine k_i2 ?_ | refine k_i3 ?_ | refine k_i4 ?_ | refine k_i5 ?_ | refine k_i6 ?_ | refine k_i7 ?_ | refine k_b1 ?_ | refine k_b2 ?_ | refine k_b3 ?_ | refine k_b4 ?_ | refine k_b5 ?_ | refine k_b6 ?_ | refine k_b7 ?_ | refine k_s1 ?_ | refine k_s2 ?_ | refine k_s3 ?_ | refine k_s4 ?_ | refine k_s5 ?_ | refine k_s6 ?_ | refine k_s7 ?_ | refine k_t1 ?_ | refine k_t2 ?_ | refine k_t3 ?_ | refine k_t4 ?_ | refine k_t5 ?_ | refine k_t6 ?_ | refine k_t7 ?_ | refine k_l1 ?_ | refine k_l2 ?_ | refine k_l3 ?_ | refine k_l4 ?_ | refine k_l5 ?_ | refine k_l6 ?_ | refine k_l7 ?_ | refine k_n6 ?_ | refine k_n7 ?_ | refine k_n1 ?_ | refine k_n2 ?_ | refine k_n3 ?_ | refine k_n4 ?_ | refine k_n5 ?_ | refine ⟨dok_scal rfl rfl, dok_scal rfl rfl, ?_⟩ | refine ⟨_, rfl, ?_⟩)); (conv => whnf); (try dsimp only [PSt.set, List.set_cons_zero, List.set_cons_succ, wipeP, backP, List.getD_cons_zero, List.getD_cons_succ])
  refine ⟨by decide, ?_⟩
  (repeat ((conv => whnf); first | refine k_i1 ?_ | refine k_i2 ?_ | refine k_i3 ?_ | refine k_i4 ?_ | refine k_i5 ?_ | refine k_i6 ?_ | refine k_i7 ?_ | refine k_b1 ?_ | refine k_b2 ?_ | refine k_b3 ?_ | refine k_b4 ?_ | refine k_b5 ?_ | refine k_b6 ?_ | refine k_b7 ?_ | refine k_s1 ?_ | refine k_s2 ?_ | refine k_s3 ?_ | refine k_s4 ?_ | refine k_s5 ?_ | refine k_s6 ?_ | refine k_s7 ?_ | refine k_t1 ?_ | refine k_t2 ?_ | refine k_t3 ?_ | refine k_t4 ?_ | refine k_t5 ?_ | refine k_t6 ?_ | refine k_t7 ?_ | refine k_l1 ?_ | refine k_l2 ?_ | refine k_l3 ?_ | refine k_l4 ?_ | refine k_l5 ?_ | refine k_l6 ?_ | refine k_l7 ?_ | refine k_n6 ?_ | refine k_n7 ?_ | refine k_n1 ?_ | refine k_n2 ?_ | refine k_n3 ?_ | refine k_n4 ?_ | refine k_n5 ?_ | refine ⟨dok_scal rfl rfl, dok_scal rfl rfl, ?_⟩ | refine ⟨_, rfl, ?_⟩)); (conv => whnf); (try dsimp only [PSt.set, List.set_cons_zero, List.set_cons_succ, wipeP, backP, List.getD_cons_zero, List.getD_cons_succ])
  refine p_heard_x (x := .cannot) (by simp) (by simp) (by simp) (fun J E hE => p_neighK_not (t := 9) ok0 un0 (by decide) (by decide) hE) ?_
  (conv => whnf); (try dsimp only [PSt.set, List.set_cons_zero, List.set_cons_succ, wipeP, backP, List.getD_cons_zero, List.getD_cons_succ])
  refine ⟨by simp, ?_⟩
  (repeat ((conv => whnf); first | refine k_i1 ?_ | refine k_i2 ?_ | refine k_i3 ?_ | refine k_i4 ?_ | refine k_i5 ?_ | refine k_i6 ?_ | refine k_i7 ?_ | refine k_b1 ?_ | refine k_b2 ?_ | refine k_b3 ?_ | refine k_b4 ?_ | refine k_b5 ?_ | refine k_b6 ?_ | refine k_b7 ?_ | refine k_s1 ?_ | refine k_s2 ?_ | refine k_s3 ?_ | refine k_s4 ?_ | refine k_s5 ?_ | refine k_s6 ?_ | refine k_s7 ?_ | refine k_t1 ?_ | refine k_t2 ?_ | refine k_t3 ?_ | refine k_t4 ?_ | refine k_t5 ?_ | refine k_t6 ?_ | refine k_t7 ?_ | refine k_l1 ?_ | refine k_l2 ?_ | refine k_l3 ?_ | refine k_l4 ?_ | refine k_l5 ?_ | refine k_l6 ?_ | refine k_l7 ?_ | refine k_n6 ?_ | refine k_n7 ?_ | refine k_n1 ?_ | refine k_n2 ?_ | refine k_n3 ?_ | refine k_n4 ?_ | refine k_n5 ?_ | refine ⟨dok_scal rfl rfl, dok_scal rfl rfl, ?_⟩ | refine ⟨_, rfl, ?_⟩)); (conv => whnf); (try dsimp only [PSt.set, List.set_cons_zero, List.set_cons_succ, wipeP, backP, List.getD_cons_zero, List.getD_cons_succ])
  refine p_heard_x (x := .cannot) (by simp) (by simp) (by simp) (fun J E hE => p_neighK_not (t := 9) ok1 un1 (by decide) (by decide) hE) ?_
  (conv => whnf); (try dsimp only [PSt.set, List.set_cons_zero, List.set_cons_succ, wipeP, backP, List.getD_cons_zero, List.getD_cons_succ])
  refine ⟨by simp, ?_⟩
  (repeat ((conv => whnf); first | refine k_i1 ?_ | refine k_i2 ?_ | refine k_i3 ?_ | refine k_i4 ?_ | refine k_i5 ?_ | refine k_i6 ?_ | refine k_i7 ?_ | refine k_b1 ?_ | refine k_b2 ?_ | refine k_b3 ?_ | refine k_b4 ?_ | refine k_b5 ?_ | refine k_b6 ?_ | refine k_b7 ?_ | refine k_s1 ?_ | refine k_s2 ?_ | refine k_s3 ?_ | refine k_s4 ?_ | refine k_s5 ?_ | refine k_s6 ?_ | refine k_s7 ?_ | refine k_t1 ?_ | refine k_t2 ?_ | refine k_t3 ?_ | refine k_t4 ?_ | refine k_t5 ?_ | refine k_t6 ?_ | refine k_t7 ?_ | refine k_l1 ?_ | refine k_l2 ?_ | refine k_l3 ?_ | refine k_l4 ?_ | refine k_l5 ?_ | refine k_l6 ?_ | refine k_l7 ?_ | refine k_n6 ?_ | refine k_n7 ?_ | refine k_n1 ?_ | refine k_n2 ?_ | refine k_n3 ?_ | refine k_n4 ?_ | refine k_n5 ?_ | refine ⟨dok_scal rfl rfl, dok_scal rfl rfl, ?_⟩ | refine ⟨_, rfl, ?_⟩)); (conv => whnf); (try dsimp only [PSt.set, List.set_cons_zero, List.set_cons_succ, wipeP, backP, List.getD_cons_zero, List.getD_cons_succ])
  refine p_heard_x (x := .cannot) (by simp) (by simp) (by simp) (fun J E hE => p_neighK_not (t := 9) ok2 un2 (by decide) (by decide) hE) ?_
  (conv => whnf); (try dsimp only [PSt.set, List.set_cons_zero, List.set_cons_succ, wipeP, backP, List.getD_cons_zero, List.getD_cons_succ])
  refine ⟨by simp, ?_⟩
  (repeat ((conv => whnf); first | refine k_i1 ?_ | refine k_i2 ?_ | refine k_i3 ?_ | refine k_i4 ?_ | refine k_i5 ?_ | refine k_i6 ?_ | refine k_i7 ?_ | refine k_b1 ?_ | refine k_b2 ?_ | refine k_b3 ?_ | refine k_b4 ?_ | refine k_b5 ?_ | refine k_b6 ?_ | refine k_b7 ?_ | refine k_s1 ?_ | refine k_s2 ?_ | refine k_s3 ?_ | refine k_s4 ?_ | refine k_s5 ?_ | refine k_s6 ?_ | refine k_s7 ?_ | refine k_t1 ?_ | refine k_t2 ?_ | refine k_t3 ?_ | refine k_t4 ?_ | refine k_t5 ?_ | refine k_t6 ?_ | refine k_t7 ?_ | refine k_l1 ?_ | refine k_l2 ?_ | refine k_l3 ?_ | refine k_l4 ?_ | refine k_l5 ?_ | refine k_l6 ?_ | refine k_l7 ?_ | refine k_n6 ?_ | refine k_n7 ?_ | refine k_n1 ?_ | refine k_n2 ?_ | refine k_n3 ?_ | refine k_n4 ?_ | refine k_n5 ?_ | refine ⟨dok_scal rfl rfl, dok_scal rfl rfl, ?_⟩ | refine ⟨_, rfl, ?_⟩)); (conv => whnf); (try dsimp only [PSt.set, List.set_cons_zero, List.set_cons_succ, wipeP, backP, List.getD_cons_zero, List.getD_cons_succ])
  refine p_heard_x (x := .cannot) (by simp) (by simp) (by simp) (fun J E hE => p_neighK_not (t := 9) ok3 un3 (by decide) (by decide) hE) ?_
  (conv => whnf); (try dsimp only [PSt.set, List.set_cons_zero, List.set_cons_succ, wipeP, backP, List.getD_cons_zero, List.getD_cons_succ])
  refine ⟨by simp, ?_⟩
  (repeat ((conv => whnf); first | refine k_i1 ?_ | refine k_i2 ?_ | refine k_i3 ?_ | refine k_i4 ?_ | refine k_i5 ?_ | refine k_i6 ?_ | refine k_i7 ?_ | refine k_b1 ?_ | refine k_b2 ?_ | refine k_b3 ?_ | refine k_b4 ?_ | refine k_b5 ?_ | refine k_b6 ?_ | refine k_b7 ?_ | refine k_s1 ?_ | refine k_s2 ?_ | refine k_s3 ?_ | refine k_s4 ?_ | refine k_s5 ?_ | refine k_s6 ?_ | refine k_s7 ?_ | refine k_t1 ?_ | refine k_t2 ?_ | refine k_t3 ?_ | refine k_t4 ?_ | refine k_t5 ?_ | refine k_t6 ?_ | refine k_t7 ?_ | refine k_l1 ?_ | refine k_l2 ?_ | refine k_l3 ?_ | refine k_l4 ?_ | refine k_l5 ?_ | refine k_l6 ?_ | refine k_l7 ?_ | refine k_n6 ?_ | refine k_n7 ?_ | refine k_n1 ?_ | refine k_n2 ?_ | refine k_n3 ?_ | refine k_n4 ?_ | refine k_n5 ?_ | refine ⟨dok_scal rfl rfl, dok_scal rfl rfl, ?_⟩ | refine ⟨_, rfl, ?_⟩)); (conv => whnf); (try dsimp only [PSt.set, List.set_cons_zero, List.set_cons_succ, wipeP, backP, List.getD_cons_zero, List.getD_cons_succ])
  refine p_heard_x (x := .cannot) (by simp) (by simp) (by simp) (fun J E hE => p_neighK_not (t := 9) ok4 un4 (by decide) (by decide) hE) ?_
  (conv => whnf); (try dsimp only [PSt.set, List.set_cons_zero, List.set_cons_succ, wipeP, backP, List.getD_cons_zero, List.getD_cons_succ])
  refine ⟨by simp, ?_⟩
  (repeat ((conv => whnf); first | refine k_i1 ?_ | refine k_i2 ?_ | refine k_i3 ?_ | refine k_i4 ?_ | refine k_i5 ?_ | refine k_i6 ?_ | refine k_i7 ?_ | refine k_b1 ?_ | refine k_b2 ?_ | refine k_b3 ?_ | refine k_b4 ?_ | refine k_b5 ?_ | refine k_b6 ?_ | refine k_b7 ?_ | refine k_s1 ?_ | refine k_s2 ?_ | refine k_s3 ?_ | refine k_s4 ?_ | refine k_s5 ?_ | refine k_s6 ?_ | refine k_s7 ?_ | refine k_t1 ?_ | refine k_t2 ?_ | refine k_t3 ?_ | refine k_t4 ?_ | refine k_t5 ?_ | refine k_t6 ?_ | refine k_t7 ?_ | refine k_l1 ?_ | refine k_l2 ?_ | refine k_l3 ?_ | refine k_l4 ?_ | refine k_l5 ?_ | refine k_l6 ?_ | refine k_l7 ?_ | refine k_n6 ?_ | refine k_n7 ?_ | refine k_n1 ?_ | refine k_n2 ?_ | refine k_n3 ?_ | refine k_n4 ?_ | refine k_n5 ?_ | refine ⟨dok_scal rfl rfl, dok_scal rfl rfl, ?_⟩ | refine ⟨_, rfl, ?_⟩)); (conv => whnf); (try dsimp only [PSt.set, List.set_cons_zero, List.set_cons_succ, wipeP, backP, List.getD_cons_zero, List.getD_cons_succ])
  refine p_heard_x (x := .cannot) (by simp) (by simp) (by simp) (fun J E hE => p_neighK_not (t := 9) ok5 un5 (by decide) (by decide) hE) ?_
  (conv => whnf); (try dsimp only [PSt.set, List.set_cons_zero, List.set_cons_succ, wipeP, backP, List.getD_cons_zero, List.getD_cons_succ])
  refine ⟨by simp, ?_⟩
  (repeat ((conv => whnf); first | refine k_i1 ?_ | refine k_i2 ?_ | refine k_i3 ?_ | refine k_i4 ?_ | refine k_i5 ?_ | refine k_i6 ?_ | refine k_i7 ?_ | refine k_b1 ?_ | refine k_b2 ?_ | refine k_b3 ?_ | refine k_b4 ?_ | refine k_b5 ?_ | refine k_b6 ?_ | refine k_b7 ?_ | refine k_s1 ?_ | refine k_s2 ?_ | refine k_s3 ?_ | refine k_s4 ?_ | refine k_s5 ?_ | refine k_s6 ?_ | refine k_s7 ?_ | refine k_t1 ?_ | refine k_t2 ?_ | refine k_t3 ?_ | refine k_t4 ?_ | refine k_t5 ?_ | refine k_t6 ?_ | refine k_t7 ?_ | refine k_l1 ?_ | refine k_l2 ?_ | refine k_l3 ?_ | refine k_l4 ?_ | refine k_l5 ?_ | refine k_l6 ?_ | refine k_l7 ?_ | refine k_n6 ?_ | refine k_n7 ?_ | refine k_n1 ?_ | refine k_n2 ?_ | refine k_n3 ?_ | refine k_n4 ?_ | refine k_n5 ?_ | refine ⟨dok_scal rfl rfl, dok_scal rfl rfl, ?_⟩ | refine ⟨_, rfl, ?_⟩)); (conv => whnf); (try dsimp only [PSt.set, List.set_cons_zero, List.set_cons_succ, wipeP, backP, List.getD_cons_zero, List.getD_cons_succ])
  refine p_heard_x (x := .cannot) (by simp) (by simp) (by simp) (fun J E hE => p_neighK_not (t := 9) ok6 un6 (by decide) (by decide) hE) ?_
  (conv => whnf); (try dsimp only [PSt.set, List.set_cons_zero, List.set_cons_succ, wipeP, backP, List.getD_cons_zero, List.getD_cons_succ])
  refine ⟨by simp, ?_⟩
  (repeat ((conv => whnf); first | refine k_i1 ?_ | refine k_i2 ?_ | refine k_i3 ?_ | refine k_i4 ?_ | refine k_i5 ?_ | refine k_i6 ?_ | refine k_i7 ?_ | refine k_b1 ?_ | refine k_b2 ?_ | refine k_b3 ?_ | refine k_b4 ?_ | refine k_b5 ?_ | refine k_b6 ?_ | refine k_b7 ?_ | refine k_s1 ?_ | refine k_s2 ?_ | refine k_s3 ?_ | refine k_s4 ?_ | refine k_s5 ?_ | refine k_s6 ?_ | refine k_s7 ?_ | refine k_t1 ?_ | refine k_t2 ?_ | refine k_t3 ?_ | refine k_t4 ?_ | refine k_t5 ?_ | refine k_t6 ?_ | refine k_t7 ?_ | refine k_l1 ?_ | refine k_l2 ?_ | refine k_l3 ?_ | refine k_l4 ?_ | refine k_l5 ?_ | refine k_l6 ?_ | refine k_l7 ?_ | refine k_n6 ?_ | refine k_n7 ?_ | refine k_n1 ?_ | refine k_n2 ?_ | refine k_n3 ?_ | refine k_n4 ?_ | refine k_n5 ?_ | refine ⟨dok_scal rfl rfl, dok_scal rfl rfl, ?_⟩ | refine ⟨_, rfl, ?_⟩)); (conv => whnf); (try dsimp only [PSt.set, List.set_cons_zero, List.set_cons_succ, wipeP, backP, List.getD_cons_zero, List.getD_cons_succ])
  refine p_heard_x (x := .cannot) (by simp) (by simp) (by simp) (fun J E hE => p_neighK_not (t := 9) ok7 un7 (by decide) (by decide) hE) ?_
  (conv => whnf); (try dsimp only [PSt.set, List.set_cons_zero, List.set_cons_succ, wipeP, backP, List.getD_cons_zero, List.getD_cons_succ])
  refine ⟨by simp, ?_⟩
  (repeat ((conv => whnf); first | refine k_i1 ?_ | refine k_i2 ?_ | refine k_i3 ?_ | refine k_i4 ?_ | refine k_i5 ?_ | refine k_i6 ?_ | refine k_i7 ?_ | refine k_b1 ?_ | refine k_b2 ?_ | refine k_b3 ?_ | refine k_b4 ?_ | refine k_b5 ?_ | refine k_b6 ?_ | refine k_b7 ?_ | refine k_s1 ?_ | refine k_s2 ?_ | refine k_s3 ?_ | refine k_s4 ?_ | refine k_s5 ?_ | refine k_s6 ?_ | refine k_s7 ?_ | refine k_t1 ?_ | refine k_t2 ?_ | refine k_t3 ?_ | refine k_t4 ?_ | refine k_t5 ?_ | refine k_t6 ?_ | refine k_t7 ?_ | refine k_l1 ?_ | refine k_l2 ?_ | refine k_l3 ?_ | refine k_l4 ?_ | refine k_l5 ?_ | refine k_l6 ?_ | refine k_l7 ?_ | refine k_n6 ?_ | refine k_n7 ?_ | refine k_n1 ?_ | refine k_n2 ?_ | refine k_n3 ?_ | refine k_n4 ?_ | refine k_n5 ?_ | refine ⟨dok_scal rfl rfl, dok_scal rfl rfl, ?_⟩ | refine ⟨_, rfl, ?_⟩)); (conv => whnf); (try dsimp only [PSt.set, List.set_cons_zero, List.set_cons_succ, wipeP, backP, List.getD_cons_zero, List.getD_cons_succ])
  refine ⟨by decide, ?_⟩
  (repeat ((conv => whnf); first | refine k_i1 ?_ | refine k_i2 ?_ | refine k_i3 ?_ | refine k_i4 ?_ | refine k_i5 ?_ | refine k_i6 ?_ | refine k_i7 ?_ | refine k_b1 ?_ | refine k_b2 ?_ | refine k_b3 ?_ | refine k_b4 ?_ | refine k_b5 ?_ | refine k_b6 ?_ | refine k_b7 ?_ | refine k_s1 ?_ | refine k_s2 ?_ | refine k_s3 ?_ | refine k_s4 ?_ | refine k_s5 ?_ | refine k_s6 ?_ | refine k_s7 ?_ | refine k_t1 ?_ | refine k_t2 ?_ | refine k_t3 ?_ | refine k_t4 ?_ | refine k_t5 ?_ | refine k_t6 ?_ | refine k_t7 ?_ | refine k_l1 ?_ | refine k_l2 ?_ | refine k_l3 ?_ | refine k_l4 ?_ | refine k_l5 ?_ | refine k_l6 ?_ | refine k_l7 ?_ | refine k_n6 ?_ | refine k_n7 ?_ | refine k_n1 ?_ | refine k_n2 ?_ | refine k_n3 ?_ | refine k_n4 ?_ | refine k_n5 ?_ | refine ⟨dok_scal rfl rfl, dok_scal rfl rfl, ?_⟩ | refine ⟨_, rfl, ?_⟩)); (conv => whnf); (try dsimp only [PSt.set, List.set_cons_zero, List.set_cons_succ, wipeP, backP, List.getD_cons_zero, List.getD_cons_succ])
  refine p_heard_x (x := .cannot) (by simp) (by simp) (by simp) (fun J E hE => p_step_back (p := 3) (q := 2) (a := 1) (b := 1) ok5 (by decide) (by decide) (by decide) (by decide) (fun z => absurd z (by decide)) (fun _ => hE)) ?_
  (repeat ((conv => whnf); first | refine k_i1 ?_ | refine k_i2 ?_ | refine k_i3 ?_ | refine k_i4 ?_ | refine k_i5 ?_ | refine k_i6 ?_ | refine k_i7 ?_ | refine k_b1 ?_ | refine k_b2 ?_ | refine k_b3 ?_ | refine k_b4 ?_ | refine k_b5 ?_ | refine k_b6 ?_ | refine k_b7 ?_ | refine k_s1 ?_ | refine k_s2 ?_ | refine k_s3 ?_ | refine k_s4 ?_ | refine k_s5 ?_ | refine k_s6 ?_ | refine k_s7 ?_ | refine k_t1 ?_ | refine k_t2 ?_ | refine k_t3 ?_ | refine k_t4 ?_ | refine k_t5 ?_ | refine k_t6 ?_ | refine k_t7 ?_ | refine k_l1 ?_ | refine k_l2 ?_ | refine k_l3 ?_ | refine k_l4 ?_ | refine k_l5 ?_ | refine k_l6 ?_ | refine k_l7 ?_ | refine k_n6 ?_ | refine k_n7 ?_ | refine k_n1 ?_ | refine k_n2 ?_ | refine k_n3 ?_ | refine k_n4 ?_ | refine k_n5 ?_ | refine ⟨dok_scal rfl rfl, dok_scal rfl rfl, ?_⟩ | refine ⟨_, rfl, ?_⟩)); (conv => whnf); (try dsimp only [PSt.set, List.set_cons_zero, List.set_cons_succ, wipeP, backP, List.getD_cons_zero, List.getD_cons_succ])
  refine ⟨by decide, by decide, by decide, ?_⟩
  (repeat ((conv => whnf); first | refine k_i1 ?_ | refine k_i2 ?_ | refine k_i3 ?_ | refine k_i4 ?_ | refine k_i5 ?_ | refine k_i6 ?_ | refine k_i7 ?_ | refine k_b1 ?_ | refine k_b2 ?_ | refine k_b3 ?_ | refine k_b4 ?_ | refine k_b5 ?_ | refine k_b6 ?_ | refine k_b7 ?_ | refine k_s1 ?_ | refine k_s2 ?_ | refine k_s3 ?_ | refine k_s4 ?_ | refine k_s5 ?_ | refine k_s6 ?_ | refine k_s7 ?_ | refine k_t1 ?_ | refine k_t2 ?_ | refine k_t3 ?_ | refine k_t4 ?_ | refine k_t5 ?_ | refine k_t6 ?_ | refine k_t7 ?_ | refine k_l1 ?_ | refine k_l2 ?_ | refine k_l3 ?_ | refine k_l4 ?_ | refine k_l5 ?_ | refine k_l6 ?_ | refine k_l7 ?_ | refine k_n6 ?_ | refine k_n7 ?_ | refine k_n1 ?_ | refine k_n2 ?_ | refine k_n3 ?_ | refine k_n4 ?_ | refine k_n5 ?_ | refine ⟨dok_scal rfl rfl, dok_scal rfl rfl, ?_⟩ | refine ⟨_, rfl, ?_⟩)); (conv => whnf); (try dsimp only [PSt.set, List.set_cons_zero, List.set_cons_succ, wipeP, backP, List.getD_cons_zero, List.getD_cons_succ])
  refine ⟨by decide, by decide, by decide, ?_⟩
  (repeat ((conv => whnf); first | refine k_i1 ?_ | refine k_i2 ?_ | refine k_i3 ?_ | refine k_i4 ?_ | refine k_i5 ?_ | refine k_i6 ?_ | refine k_i7 ?_ | refine k_b1 ?_ | refine k_b2 ?_ | refine k_b3 ?_ | refine k_b4 ?_ | refine k_b5 ?_ | refine k_b6 ?_ | refine k_b7 ?_ | refine k_s1 ?_ | refine k_s2 ?_ | refine k_s3 ?_ | refine k_s4 ?_ | refine k_s5 ?_ | refine k_s6 ?_ | refine k_s7 ?_ | refine k_t1 ?_ | refine k_t2 ?_ | refine k_t3 ?_ | refine k_t4 ?_ | refine k_t5 ?_ | refine k_t6 ?_ | refine k_t7 ?_ | refine k_l1 ?_ | refine k_l2 ?_ | refine k_l3 ?_ | refine k_l4 ?_ | refine k_l5 ?_ | refine k_l6 ?_ | refine k_l7 ?_ | refine k_n6 ?_ | refine k_n7 ?_ | refine k_n1 ?_ | refine k_n2 ?_ | refine k_n3 ?_ | refine k_n4 ?_ | refine k_n5 ?_ | refine ⟨dok_scal rfl rfl, dok_scal rfl rfl, ?_⟩ | refine ⟨_, rfl, ?_⟩)); (conv => whnf); (try dsimp only [PSt.set, List.set_cons_zero, List.set_cons_succ, wipeP, backP, List.getD_cons_zero, List.getD_cons_succ])
  refine ⟨mB, ?_⟩
  rw [eB]
  (repeat ((conv => whnf); first | refine k_i1 ?_ | refine k_i2 ?_ | refine k_i3 ?_ | refine k_i4 ?_ | refine k_i5 ?_ | refine k_i6 ?_ | refine k_i7 ?_ | refine k_b1 ?_ | refine k_b2 ?_ | refine k_b3 ?_ | refine k_b4 ?_ | refine k_b5 ?_ | refine k_b6 ?_ | refine k_b7 ?_ | refine k_s1 ?_ | refine k_s2 ?_ | refine k_s3 ?_ | refine k_s4 ?_ | refine k_s5 ?_ | refine k_s6 ?_ | refine k_s7 ?_ | refine k_t1 ?_ | refine k_t2 ?_ | refine k_t3 ?_ | refine k_t4 ?_ | refine k_t5 ?_ | refine k_t6 ?_ | refine k_t7 ?_ | refine k_l1 ?_ | refine k_l2 ?_ | refine k_l3 ?_ | refine k_l4 ?_ | refine k_l5 ?_ | refine k_l6 ?_ | refine k_l7 ?_ | refine k_n6 ?_ | refine k_n7 ?_ | refine k_n1 ?_ | refine k_n2 ?_ | refine k_n3 ?_ | refine k_n4 ?_ | refine k_n5 ?_ | refine ⟨dok_scal rfl rfl, dok_scal rfl rfl, ?_⟩ | refine ⟨_, rfl, ?_⟩)); (conv => whnf); (try dsimp only [PSt.set, List.set_cons_zero, List.set_cons_succ, wipeP, backP, List.getD_cons_zero, List.getD_cons_succ])
  refine p_heard_x (x := .unfit) (by simp) (by simp) (by simp) (fun J E hE => p_form_of_bad (a := Big + 1) ok (by omega) hE) ?_
  (repeat ((conv => whnf); first | refine k_i1 ?_ | refine k_i2 ?_ | refine k_i3 ?_ | refine k_i4 ?_ | refine k_i5 ?_ | refine k_i6 ?_ | refine k_i7 ?_ | refine k_b1 ?_ | refine k_b2 ?_ | refine k_b3 ?_ | refine k_b4 ?_ | refine k_b5 ?_ | refine k_b6 ?_ | refine k_b7 ?_ | refine k_s1 ?_ | refine k_s2 ?_ | refine k_s3 ?_ | refine k_s4 ?_ | refine k_s5 ?_ | refine k_s6 ?_ | refine k_s7 ?_ | refine k_t1 ?_ | refine k_t2 ?_ | refine k_t3 ?_ | refine k_t4 ?_ | refine k_t5 ?_ | refine k_t6 ?_ | refine k_t7 ?_ | refine k_l1 ?_ | refine k_l2 ?_ | refine k_l3 ?_ | refine k_l4 ?_ | refine k_l5 ?_ | refine k_l6 ?_ | refine k_l7 ?_ | refine k_n6 ?_ | refine k_n7 ?_ | refine k_n1 ?_ | refine k_n2 ?_ | refine k_n3 ?_ | refine k_n4 ?_ | refine k_n5 ?_ | refine ⟨dok_scal rfl rfl, dok_scal rfl rfl, ?_⟩ | refine ⟨_, rfl, ?_⟩)); (conv => whnf); (try dsimp only [PSt.set, List.set_cons_zero, List.set_cons_succ, wipeP, backP, List.getD_cons_zero, List.getD_cons_succ])
  refine p_heard_x (x := .unfit) (by simp) (by simp) (by simp) (fun J E hE => p_nplace_bad (a := 1) (v := .bl true) ok (by decide) (by decide) rfl rfl hE) ?_
  (repeat ((conv => whnf); first | refine k_i1 ?_ | refine k_i2 ?_ | refine k_i3 ?_ | refine k_i4 ?_ | refine k_i5 ?_ | refine k_i6 ?_ | refine k_i7 ?_ | refine k_b1 ?_ | refine k_b2 ?_ | refine k_b3 ?_ | refine k_b4 ?_ | refine k_b5 ?_ | refine k_b6 ?_ | refine k_b7 ?_ | refine k_s1 ?_ | refine k_s2 ?_ | refine k_s3 ?_ | refine k_s4 ?_ | refine k_s5 ?_ | refine k_s6 ?_ | refine k_s7 ?_ | refine k_t1 ?_ | refine k_t2 ?_ | refine k_t3 ?_ | refine k_t4 ?_ | refine k_t5 ?_ | refine k_t6 ?_ | refine k_t7 ?_ | refine k_l1 ?_ | refine k_l2 ?_ | refine k_l3 ?_ | refine k_l4 ?_ | refine k_l5 ?_ | refine k_l6 ?_ | refine k_l7 ?_ | refine k_n6 ?_ | refine k_n7 ?_ | refine k_n1 ?_ | refine k_n2 ?_ | refine k_n3 ?_ | refine k_n4 ?_ | refine k_n5 ?_ | refine ⟨dok_scal rfl rfl, dok_scal rfl rfl, ?_⟩ | refine ⟨_, rfl, ?_⟩)); (conv => whnf); (try dsimp only [PSt.set, List.set_cons_zero, List.set_cons_succ, wipeP, backP, List.getD_cons_zero, List.getD_cons_succ])
  refine p_heard_x (x := .unfit) (by simp) (by simp) (by simp) (fun J E hE => p_neighK_bad (v := .int (-1)) ok5 rfl (by decide) hE) ?_
  (repeat ((conv => whnf); first | refine k_i1 ?_ | refine k_i2 ?_ | refine k_i3 ?_ | refine k_i4 ?_ | refine k_i5 ?_ | refine k_i6 ?_ | refine k_i7 ?_ | refine k_b1 ?_ | refine k_b2 ?_ | refine k_b3 ?_ | refine k_b4 ?_ | refine k_b5 ?_ | refine k_b6 ?_ | refine k_b7 ?_ | refine k_s1 ?_ | refine k_s2 ?_ | refine k_s3 ?_ | refine k_s4 ?_ | refine k_s5 ?_ | refine k_s6 ?_ | refine k_s7 ?_ | refine k_t1 ?_ | refine k_t2 ?_ | refine k_t3 ?_ | refine k_t4 ?_ | refine k_t5 ?_ | refine k_t6 ?_ | refine k_t7 ?_ | refine k_l1 ?_ | refine k_l2 ?_ | refine k_l3 ?_ | refine k_l4 ?_ | refine k_l5 ?_ | refine k_l6 ?_ | refine k_l7 ?_ | refine k_n6 ?_ | refine k_n7 ?_ | refine k_n1 ?_ | refine k_n2 ?_ | refine k_n3 ?_ | refine k_n4 ?_ | refine k_n5 ?_ | refine ⟨dok_scal rfl rfl, dok_scal rfl rfl, ?_⟩ | refine ⟨_, rfl, ?_⟩)); (conv => whnf); (try dsimp only [PSt.set, List.set_cons_zero, List.set_cons_succ, wipeP, backP, List.getD_cons_zero, List.getD_cons_succ])
  refine ⟨by decide, ?_⟩
  (repeat ((conv => whnf); first | refine k_i1 ?_ | refine k_i2 ?_ | refine k_i3 ?_ | refine k_i4 ?_ | refine k_i5 ?_ | refine k_i6 ?_ | refine k_i7 ?_ | refine k_b1 ?_ | refine k_b2 ?_ | refine k_b3 ?_ | refine k_b4 ?_ | refine k_b5 ?_ | refine k_b6 ?_ | refine k_b7 ?_ | refine k_s1 ?_ | refine k_s2 ?_ | refine k_s3 ?_ | refine k_s4 ?_ | refine k_s5 ?_ | refine k_s6 ?_ | refine k_s7 ?_ | refine k_t1 ?_ | refine k_t2 ?_ | refine k_t3 ?_ | refine k_t4 ?_ | refine k_t5 ?_ | refine k_t6 ?_ | refine k_t7 ?_ | refine k_l1 ?_ | refine k_l2 ?_ | refine k_l3 ?_ | refine k_l4 ?_ | refine k_l5 ?_ | refine k_l6 ?_ | refine k_l7 ?_ | refine k_n6 ?_ | refine k_n7 ?_ | refine k_n1 ?_ | refine k_n2 ?_ | refine k_n3 ?_ | refine k_n4 ?_ | refine k_n5 ?_ | refine ⟨dok_scal rfl rfl, dok_scal rfl rfl, ?_⟩ | refine ⟨_, rfl, ?_⟩)); (conv => whnf); (try dsimp only [PSt.set, List.set_cons_zero, List.set_cons_succ, wipeP, backP, List.getD_cons_zero, List.getD_cons_succ])
  refine ⟨by decide, by decide, ?_⟩
  (repeat ((conv => whnf); first | refine k_i1 ?_ | refine k_i2 ?_ | refine k_i3 ?_ | refine k_i4 ?_ | refine k_i5 ?_ | refine k_i6 ?_ | refine k_i7 ?_ | refine k_b1 ?_ | refine k_b2 ?_ | refine k_b3 ?_ | refine k_b4 ?_ | refine k_b5 ?_ | refine k_b6 ?_ | refine k_b7 ?_ | refine k_s1 ?_ | refine k_s2 ?_ | refine k_s3 ?_ | refine k_s4 ?_ | refine k_s5 ?_ | refine k_s6 ?_ | refine k_s7 ?_ | refine k_t1 ?_ | refine k_t2 ?_ | refine k_t3 ?_ | refine k_t4 ?_ | refine k_t5 ?_ | refine k_t6 ?_ | refine k_t7 ?_ | refine k_l1 ?_ | refine k_l2 ?_ | refine k_l3 ?_ | refine k_l4 ?_ | refine k_l5 ?_ | refine k_l6 ?_ | refine k_l7 ?_ | refine k_n6 ?_ | refine k_n7 ?_ | refine k_n1 ?_ | refine k_n2 ?_ | refine k_n3 ?_ | refine k_n4 ?_ | refine k_n5 ?_ | refine ⟨dok_scal rfl rfl, dok_scal rfl rfl, ?_⟩ | refine ⟨_, rfl, ?_⟩)); (conv => whnf); (try dsimp only [PSt.set, List.set_cons_zero, List.set_cons_succ, wipeP, backP, List.getD_cons_zero, List.getD_cons_succ])
  refine ⟨by decide, by decide, ?_⟩
  (repeat ((conv => whnf); first | refine k_i1 ?_ | refine k_i2 ?_ | refine k_i3 ?_ | refine k_i4 ?_ | refine k_i5 ?_ | refine k_i6 ?_ | refine k_i7 ?_ | refine k_b1 ?_ | refine k_b2 ?_ | refine k_b3 ?_ | refine k_b4 ?_ | refine k_b5 ?_ | refine k_b6 ?_ | refine k_b7 ?_ | refine k_s1 ?_ | refine k_s2 ?_ | refine k_s3 ?_ | refine k_s4 ?_ | refine k_s5 ?_ | refine k_s6 ?_ | refine k_s7 ?_ | refine k_t1 ?_ | refine k_t2 ?_ | refine k_t3 ?_ | refine k_t4 ?_ | refine k_t5 ?_ | refine k_t6 ?_ | refine k_t7 ?_ | refine k_l1 ?_ | refine k_l2 ?_ | refine k_l3 ?_ | refine k_l4 ?_ | refine k_l5 ?_ | refine k_l6 ?_ | refine k_l7 ?_ | refine k_n6 ?_ | refine k_n7 ?_ | refine k_n1 ?_ | refine k_n2 ?_ | refine k_n3 ?_ | refine k_n4 ?_ | refine k_n5 ?_ | refine ⟨dok_scal rfl rfl, dok_scal rfl rfl, ?_⟩ | refine ⟨_, rfl, ?_⟩)); (conv => whnf); (try dsimp only [PSt.set, List.set_cons_zero, List.set_cons_succ, wipeP, backP, List.getD_cons_zero, List.getD_cons_succ])
  refine ⟨by decide, ?_⟩
  (repeat ((conv => whnf); first | refine k_i1 ?_ | refine k_i2 ?_ | refine k_i3 ?_ | refine k_i4 ?_ | refine k_i5 ?_ | refine k_i6 ?_ | refine k_i7 ?_ | refine k_b1 ?_ | refine k_b2 ?_ | refine k_b3 ?_ | refine k_b4 ?_ | refine k_b5 ?_ | refine k_b6 ?_ | refine k_b7 ?_ | refine k_s1 ?_ | refine k_s2 ?_ | refine k_s3 ?_ | refine k_s4 ?_ | refine k_s5 ?_ | refine k_s6 ?_ | refine k_s7 ?_ | refine k_t1 ?_ | refine k_t2 ?_ | refine k_t3 ?_ | refine k_t4 ?_ | refine k_t5 ?_ | refine k_t6 ?_ | refine k_t7 ?_ | refine k_l1 ?_ | refine k_l2 ?_ | refine k_l3 ?_ | refine k_l4 ?_ | refine k_l5 ?_ | refine k_l6 ?_ | refine k_l7 ?_ | refine k_n6 ?_ | refine k_n7 ?_ | refine k_n1 ?_ | refine k_n2 ?_ | refine k_n3 ?_ | refine k_n4 ?_ | refine k_n5 ?_ | refine ⟨dok_scal rfl rfl, dok_scal rfl rfl, ?_⟩ | refine ⟨_, rfl, ?_⟩)); (conv => whnf); (try dsimp only [PSt.set, List.set_cons_zero, List.set_cons_succ, wipeP, backP, List.getD_cons_zero, List.getD_cons_succ])
  refine ⟨by decide, ?_⟩
  (repeat ((conv => whnf); first | refine k_i1 ?_ | refine k_i2 ?_ | refine k_i3 ?_ | refine k_i4 ?_ | refine k_i5 ?_ | refine k_i6 ?_ | refine k_i7 ?_ | refine k_b1 ?_ | refine k_b2 ?_ | refine k_b3 ?_ | refine k_b4 ?_ | refine k_b5 ?_ | refine k_b6 ?_ | refine k_b7 ?_ | refine k_s1 ?_ | refine k_s2 ?_ | refine k_s3 ?_ | refine k_s4 ?_ | refine k_s5 ?_ | refine k_s6 ?_ | refine k_s7 ?_ | refine k_t1 ?_ | refine k_t2 ?_ | refine k_t3 ?_ | refine k_t4 ?_ | refine k_t5 ?_ | refine k_t6 ?_ | refine k_t7 ?_ | refine k_l1 ?_ | refine k_l2 ?_ | refine k_l3 ?_ | refine k_l4 ?_ | refine k_l5 ?_ | refine k_l6 ?_ | refine k_l7 ?_ | refine k_n6 ?_ | refine k_n7 ?_ | refine k_n1 ?_ | refine k_n2 ?_ | refine k_n3 ?_ | refine k_n4 ?_ | refine k_n5 ?_ | refine ⟨dok_scal rfl rfl, dok_scal rfl rfl, ?_⟩ | refine ⟨_, rfl, ?_⟩)); (conv => whnf); (try dsimp only [PSt.set, List.set_cons_zero, List.set_cons_succ, wipeP, backP, List.getD_cons_zero, List.getD_cons_succ])
  refine p_same 2 _ (by decide +kernel) (by decide +kernel) ?_
  exact h (d' - 1) (by omega) (by omega)
theorem parts : LawParts (sem T 60) 26 150 153 2 2 1000000 where
  cells ns d J E h1 h2 := p_cells h1 h2
  box cs i d J E hi hl h := p_box hi hl h
  right d J E h1 h2 := p_right (by omega) fun d' e1 e2 => h2 d' (by omega)
  few := by decide

theorem all_mk {P : Program} {w : World} {K : PySem.W.Frag} {h : Heap} {mg : Str → Option Value} {fa : Addr} (X : K.In h) (G : h.Ns mainGlobals mg) (hfa : mg "law" = some (.ref fa)) {f0 f1 f2 f3 f4 f5 f6 f7 f8 f9 f10 f11 f12 f13 f14 f15 f16 f17 f18 f19 f20 f21 f22 f23 f24 f25 f26 f27 f28 f29 f30 f31 f32 f33 f34 x0 x1 x2 : Addr} {t0 t1 : Tok}
    (d0 : DH K mg "is_number" s_is_number f0)
    (d1 : DH K mg "is_within" s_is_within f1)
    (d2 : DH K mg "is_long" s_is_long f2)
    (d3 : DH K mg "are_numbers" s_are_numbers f3)
    (d4 : DH K mg "tupled" s_tupled f4)
    (d5 : DH K mg "sure_within" s_sure_within f5)
    (d6 : DH K mg "is_rule_in" s_is_rule_in f6)
    (d7 : DH K mg "sure_rule" s_sure_rule f7)
    (d8 : DH K mg "is_unit_in" s_is_unit_in f8)
    (d9 : DH K mg "form_in" s_form_in f9)
    (d10 : DH K mg "next_pair" s_next_pair f10)
    (d11 : DH K mg "pair_ahead" s_pair_ahead f11)
    (d12 : DH K mg "place_of_pair" s_place_of_pair f12)
    (d13 : DH K mg "led_on" s_led_on f13)
    (d14 : DH K mg "sure_unit" s_sure_unit f14)
    (d15 : DH K mg "sure_sized" s_sure_sized f15)
    (d16 : DH K mg "is_unit" s_is_unit f16)
    (d17 : DH K mg "form_of" s_form_of f17)
    (d18 : DH K mg "neighbours_place" s_neighbours_place f18)
    (d19 : DH K mg "neighbours_to" s_neighbours_to f19)
    (d20 : DH K mg "step_on" s_step_on f20)
    (d21 : DH K mg "step_back" s_step_back f21)
    (d22 : DH K mg "_law_box" s__law_box f22)
    (d23 : DH K mg "_law_take" s__law_take f23)
    (d24 : DH K mg "_law_cells" s__law_cells f24)
    (d25 : DH K mg "_law_of" s__law_of f25)
    (d26 : DH K mg "_law_same" s__law_same f26)
    (d27 : DH K mg "_law_terms" s__law_terms f27)
    (d28 : DH K mg "_law_calls" s__law_calls f28)
    (d29 : DH K mg "_law_heard" s__law_heard f29)
    (d30 : DH K mg "_law_power" s__law_power f30)
    (d31 : DH K mg "_law_form" s__law_form f31)
    (d32 : DH K mg "_law_unit" s__law_unit f32)
    (d33 : DH K mg "_law_right" s__law_right f33)
    (d34 : DH K mg "law" s_law f34)
    (q0 : PySem.W.nsIn K mainGlobals "MOST_RULE" = some (some (.int (1000) t0)))
    (q1 : PySem.W.nsIn K mainGlobals "MOST_PAIR" = some (some (.int (10000000000000000000000000000000000000000000000000000000000000000000000000000000000000000000000000000) t1)))
    (n0 : PySem.W.nsIn K mainGlobals "CanNot" = some (some (.ref x0)))
    (n1 : PySem.W.nsIn K mainGlobals "TooMany" = some (some (.ref x1)))
    (n2 : PySem.W.nsIn K mainGlobals "Unfit" = some (some (.ref x2)))
    (xq0 : PySem.W.excIn K x0 [.type "ValueError", .type "Exception", .type "BaseException", .type "object"] "ValueError.__new__" = true)
    (xk0 : PySem.W.keepIn K (.ref x0) = true)
    (xs0 : PySem.W.subIn K (.ref x0) (.type "BaseException") = some true)
    (xt0 : PySem.W.typeIn K (.ref x0) = some (.type "type"))
    (xd0 : PySem.W.hasDictIn K x0 = true)
    (xg0 : PySem.W.findIn K (.ref x0) "__getattribute__" = some (some (.builtin "BaseException.__getattribute__")))
    (xh0 : PySem.W.findIn K (.ref x0) "__getattr__" = some none)
    (xc0 : PySem.W.findIn K (.ref x0) "__class__" = some (some (.builtin "object.__class__")))
    (xm0 : PySem.W.mroIn K x0 (.type "object") = some true)
    (xv0 : PySem.W.subIn K (.ref x0) (.type "ValueError") = some true)
    (xp0_0 : PySem.W.subIn K (.ref x0) (.ref x0) = some true)
    (xp0_1 : PySem.W.subIn K (.ref x0) (.ref x1) = some false)
    (xp0_2 : PySem.W.subIn K (.ref x0) (.ref x2) = some false)
    (xq1 : PySem.W.excIn K x1 [.type "ValueError", .type "Exception", .type "BaseException", .type "object"] "ValueError.__new__" = true)
    (xk1 : PySem.W.keepIn K (.ref x1) = true)
    (xs1 : PySem.W.subIn K (.ref x1) (.type "BaseException") = some true)
    (xt1 : PySem.W.typeIn K (.ref x1) = some (.type "type"))
    (xd1 : PySem.W.hasDictIn K x1 = true)
    (xg1 : PySem.W.findIn K (.ref x1) "__getattribute__" = some (some (.builtin "BaseException.__getattribute__")))
    (xh1 : PySem.W.findIn K (.ref x1) "__getattr__" = some none)
    (xc1 : PySem.W.findIn K (.ref x1) "__class__" = some (some (.builtin "object.__class__")))
    (xm1 : PySem.W.mroIn K x1 (.type "object") = some true)
    (xv1 : PySem.W.subIn K (.ref x1) (.type "ValueError") = some true)
    (xp1_0 : PySem.W.subIn K (.ref x1) (.ref x0) = some false)
    (xp1_1 : PySem.W.subIn K (.ref x1) (.ref x1) = some true)
    (xp1_2 : PySem.W.subIn K (.ref x1) (.ref x2) = some false)
    (xq2 : PySem.W.excIn K x2 [.type "ValueError", .type "Exception", .type "BaseException", .type "object"] "ValueError.__new__" = true)
    (xk2 : PySem.W.keepIn K (.ref x2) = true)
    (xs2 : PySem.W.subIn K (.ref x2) (.type "BaseException") = some true)
    (xt2 : PySem.W.typeIn K (.ref x2) = some (.type "type"))
    (xd2 : PySem.W.hasDictIn K x2 = true)
    (xg2 : PySem.W.findIn K (.ref x2) "__getattribute__" = some (some (.builtin "BaseException.__getattribute__")))
    (xh2 : PySem.W.findIn K (.ref x2) "__getattr__" = some none)
    (xc2 : PySem.W.findIn K (.ref x2) "__class__" = some (some (.builtin "object.__class__")))
    (xm2 : PySem.W.mroIn K x2 (.type "object") = some true)
    (xv2 : PySem.W.subIn K (.ref x2) (.type "ValueError") = some true)
    (xp2_0 : PySem.W.subIn K (.ref x2) (.ref x0) = some false)
    (xp2_1 : PySem.W.subIn K (.ref x2) (.ref x1) = some false)
    (xp2_2 : PySem.W.subIn K (.ref x2) (.ref x2) = some true)
    (xn : PySem.W.specialIn K (.builtin "object.__class__") "__get__" = some (some (.builtin "getset_descriptor.__get__")))
    (xw : PySem.W.takesIn K (.builtin "object.__class__") = some true)
    (b0 : PySem.W.nsIn K mainGlobals "len" = some none)
    (b1 : PySem.W.nsIn K mainGlobals "abs" = some none)
    (b2 : PySem.W.nsIn K mainGlobals "sum" = some none)
    (b3 : PySem.W.nsIn K mainGlobals "max" = some none)
    (b4 : PySem.W.nsIn K mainGlobals "min" = some none)
    (b5 : PySem.W.nsIn K mainGlobals "int" = some none)
    (b6 : PySem.W.nsIn K mainGlobals "list" = some none)
    (b7 : PySem.W.nsIn K mainGlobals "tuple" = some none)
    (b8 : PySem.W.nsIn K mainGlobals "sorted" = some none)
    (b9 : PySem.W.nsIn K mainGlobals "all" = some none)
    (b10 : PySem.W.nsIn K mainGlobals "any" = some none)
    (b11 : PySem.W.nsIn K mainGlobals "isinstance" = some none)
    (b12 : PySem.W.nsIn K mainGlobals "bool" = some none)
    (b13 : PySem.W.nsIn K mainGlobals "str" = some none)
    (b14 : PySem.W.nsIn K mainGlobals "range" = some none)
    (b15 : PySem.W.nsIn K mainGlobals "enumerate" = some none)
    (b16 : PySem.W.nsIn K mainGlobals "zip" = some none)
    (b17 : PySem.W.nsIn K mainGlobals "ValueError" = some none)
    (Pt : LawParts (sem T 60) 26 150 153 2 2 1000000) :
    ∃ fd : FuncData, (∀ (s : Shared) (u : Value), BindsTo s fd ⟨[u], []⟩ [("script", u)]) ∧ ∀ base : Heap, K.In base → base.Ns mainGlobals mg → FnOk P w K mg base (L2.CX P w) 62 fa fd ["script"] (spLaw K) := by
  have e := hfa.symm.trans d34.mgf
  cases e
  obtain ⟨fd, F⟩ := d34.fn
  refine ⟨fd, ?_, fun base _ _ => ?_⟩
  · intro s u
    exact bind1 (x := "law") (st := s_law) F (fun _ _ _ _ _ _ us hl => match us, hl with | [_], _ => rfl) s u
  have none_ : ∀ {x : Str}, PySem.W.nsIn K mainGlobals x = some none → mg x = none := fun q => PySem.W.mg_none_of X G q
  have Fc : Facts P w K mg base (fun n => ([((0 : Nat), f0), ((1 : Nat), f1), ((2 : Nat), f2), ((3 : Nat), f3), ((4 : Nat), f4), ((5 : Nat), f5), ((6 : Nat), f6), ((7 : Nat), f7), ((136 : Nat), f8), ((137 : Nat), f9), ((138 : Nat), f10), ((139 : Nat), f11), ((140 : Nat), f12), ((141 : Nat), f13), ((142 : Nat), f14), ((143 : Nat), f15), ((144 : Nat), f16), ((145 : Nat), f17), ((146 : Nat), f18), ((147 : Nat), f19), ((148 : Nat), f20), ((149 : Nat), f21), ((150 : Nat), f22), ((25 : Nat), f23), ((26 : Nat), f24), ((27 : Nat), f25), ((28 : Nat), f26), ((30 : Nat), f27), ((31 : Nat), f28), ((32 : Nat), f29), ((44 : Nat), f30), ((151 : Nat), f31), ((152 : Nat), f32), ((153 : Nat), f33), ((38 : Nat), fa)] : List (Nat × Addr)).lookup n) T 1 g bltNames := by
    refine facts ([((0 : Nat), f0), ((1 : Nat), f1), ((2 : Nat), f2), ((3 : Nat), f3), ((4 : Nat), f4), ((5 : Nat), f5), ((6 : Nat), f6), ((7 : Nat), f7), ((136 : Nat), f8), ((137 : Nat), f9), ((138 : Nat), f10), ((139 : Nat), f11), ((140 : Nat), f12), ((141 : Nat), f13), ((142 : Nat), f14), ((143 : Nat), f15), ((144 : Nat), f16), ((145 : Nat), f17), ((146 : Nat), f18), ((147 : Nat), f19), ((148 : Nat), f20), ((149 : Nat), f21), ((150 : Nat), f22), ((25 : Nat), f23), ((26 : Nat), f24), ((27 : Nat), f25), ((28 : Nat), f26), ((30 : Nat), f27), ((31 : Nat), f28), ((32 : Nat), f29), ((44 : Nat), f30), ((151 : Nat), f31), ((152 : Nat), f32), ((153 : Nat), f33), ((38 : Nat), fa)]) ?_ ?_ ?_ ?_ ?_
    · exact ⟨⟨f0, d0.mgf, rfl⟩, ⟨f1, d1.mgf, rfl⟩, ⟨f2, d2.mgf, rfl⟩, ⟨f3, d3.mgf, rfl⟩, ⟨f4, d4.mgf, rfl⟩, ⟨f5, d5.mgf, rfl⟩, ⟨f6, d6.mgf, rfl⟩, ⟨f7, d7.mgf, rfl⟩, ⟨f8, d8.mgf, rfl⟩, ⟨f9, d9.mgf, rfl⟩, ⟨f10, d10.mgf, rfl⟩, ⟨f11, d11.mgf, rfl⟩, ⟨f12, d12.mgf, rfl⟩, ⟨f13, d13.mgf, rfl⟩, ⟨f14, d14.mgf, rfl⟩, ⟨f15, d15.mgf, rfl⟩, ⟨f16, d16.mgf, rfl⟩, ⟨f17, d17.mgf, rfl⟩, ⟨f18, d18.mgf, rfl⟩, ⟨f19, d19.mgf, rfl⟩, ⟨f20, d20.mgf, rfl⟩, ⟨f21, d21.mgf, rfl⟩, ⟨f22, d22.mgf, rfl⟩, ⟨f23, d23.mgf, rfl⟩, ⟨f24, d24.mgf, rfl⟩, ⟨f25, d25.mgf, rfl⟩, ⟨f26, d26.mgf, rfl⟩, ⟨f27, d27.mgf, rfl⟩, ⟨f28, d28.mgf, rfl⟩, ⟨f29, d29.mgf, rfl⟩, ⟨f30, d30.mgf, rfl⟩, ⟨f31, d31.mgf, rfl⟩, ⟨f32, d32.mgf, rfl⟩, ⟨f33, d33.mgf, rfl⟩, ⟨fa, d34.mgf, rfl⟩, trivial⟩
    · exact ⟨def_body (ps := ["thing"]) d0 (fun _ _ _ _ _ _ us hl => match us, hl with | [_], _ => rfl) rfl S_is_number c_is_number,
        def_body (ps := ["thing", "least", "most"]) d1 (fun _ _ _ _ _ _ us hl => match us, hl with | [_, _, _], _ => rfl) rfl S_is_within c_is_within,
        def_body (ps := ["thing", "length"]) d2 (fun _ _ _ _ _ _ us hl => match us, hl with | [_, _], _ => rfl) rfl S_is_long c_is_long,
        def_body (ps := ["thing"]) d3 (fun _ _ _ _ _ _ us hl => match us, hl with | [_], _ => rfl) rfl S_are_numbers c_are_numbers,
        def_body (ps := ["value"]) d4 (fun _ _ _ _ _ _ us hl => match us, hl with | [_], _ => rfl) rfl S_tupled c_tupled,
        def_body (ps := ["thing", "least", "most"]) d5 (fun _ _ _ _ _ _ us hl => match us, hl with | [_, _, _], _ => rfl) rfl S_sure_within c_sure_within,
        def_body (ps := ["thing"]) d6 (fun _ _ _ _ _ _ us hl => match us, hl with | [_], _ => rfl) rfl S_is_rule_in c_is_rule_in,
        def_body (ps := ["value"]) d7 (fun _ _ _ _ _ _ us hl => match us, hl with | [_], _ => rfl) rfl S_sure_rule c_sure_rule,
        def_body (ps := ["rule"]) d8 (fun _ _ _ _ _ _ us hl => match us, hl with | [_], _ => rfl) rfl S_is_unit_in c_is_unit_in,
        def_body (ps := ["rule", "one", "other"]) d9 (fun _ _ _ _ _ _ us hl => match us, hl with | [_, _, _], _ => rfl) rfl S_form_in c_form_in,
        def_body (ps := ["rule", "one", "other"]) d10 (fun _ _ _ _ _ _ us hl => match us, hl with | [_, _, _], _ => rfl) rfl S_next_pair c_next_pair,
        def_body (ps := ["rule", "one", "other"]) d11 (fun _ _ _ _ _ _ us hl => match us, hl with | [_, _, _], _ => rfl) rfl S_pair_ahead c_pair_ahead,
        def_body (ps := ["rule", "one", "other"]) d12 (fun _ _ _ _ _ _ us hl => match us, hl with | [_, _, _], _ => rfl) rfl S_place_of_pair c_place_of_pair,
        def_body (ps := ["rule", "pair", "most"]) d13 (fun _ _ _ _ _ _ us hl => match us, hl with | [_, _, _], _ => rfl) rfl S_led_on c_led_on,
        def_body (ps := ["rule"]) d14 (fun _ _ _ _ _ _ us hl => match us, hl with | [_], _ => rfl) rfl S_sure_unit c_sure_unit,
        def_body (ps := ["number"]) d15 (fun _ _ _ _ _ _ us hl => match us, hl with | [_], _ => rfl) rfl S_sure_sized c_sure_sized,
        def_body (ps := ["rule"]) d16 (fun _ _ _ _ _ _ us hl => match us, hl with | [_], _ => rfl) rfl S_is_unit c_is_unit,
        def_body (ps := ["rule", "one", "other"]) d17 (fun _ _ _ _ _ _ us hl => match us, hl with | [_, _, _], _ => rfl) rfl S_form_of c_form_of,
        def_body (ps := ["rule", "one", "other"]) d18 (fun _ _ _ _ _ _ us hl => match us, hl with | [_, _, _], _ => rfl) rfl S_neighbours_place c_neighbours_place,
        def_body (ps := ["rule", "most"]) d19 (fun _ _ _ _ _ _ us hl => match us, hl with | [_, _], _ => rfl) rfl S_neighbours_to c_neighbours_to,
        def_body (ps := ["rule", "one", "other"]) d20 (fun _ _ _ _ _ _ us hl => match us, hl with | [_, _, _], _ => rfl) rfl S_step_on c_step_on,
        def_body (ps := ["rule", "one", "other"]) d21 (fun _ _ _ _ _ _ us hl => match us, hl with | [_, _, _], _ => rfl) rfl S_step_back c_step_back,
        def_body (ps := ["script", "k"]) d22 (fun _ _ _ _ _ _ us hl => match us, hl with | [_, _], _ => rfl) rfl S__law_box c__law_box,
        def_take d23 (fun _ _ _ _ _ _ us hl => match us, hl with | [_, _], _ => rfl) rfl S__law_take (take_ps (none_ b5)),
        def_body (ps := ["script", "most_so"]) d24 (fun _ _ _ _ _ _ us hl => match us, hl with | [_, _], _ => rfl) rfl S__law_cells c__law_cells,
        def_body (ps := ["tin", "goods_so"]) d25 (fun _ _ _ _ _ _ us hl => match us, hl with | [_, _], _ => rfl) rfl S__law_of c__law_of,
        def_body (ps := ["got", "due"]) d26 (fun _ _ _ _ _ _ us hl => match us, hl with | [_, _], _ => rfl) rfl S__law_same c__law_same,
        def_body (ps := ["rule_so", "kind_so", "many_so"]) d27 (fun _ _ _ _ _ _ us hl => match us, hl with | [_, _, _], _ => rfl) rfl S__law_terms c__law_terms,
        def_body (ps := ["door", "goods_so"]) d28 (fun _ _ _ _ _ _ us hl => match us, hl with | [_, _], _ => rfl) rfl S__law_calls c__law_calls,
        def_body (ps := ["door", "goods_so"]) d29 (fun _ _ _ _ _ _ us hl => match us, hl with | [_, _], _ => rfl) rfl S__law_heard c__law_heard,
        def_body (ps := ["base_so", "often_so"]) d30 (fun _ _ _ _ _ _ us hl => match us, hl with | [_, _], _ => rfl) rfl S__law_power c__law_power,
        def_body (ps := ["rule_so", "a", "b"]) d31 (fun _ _ _ _ _ _ us hl => match us, hl with | [_, _, _], _ => rfl) rfl S__law_form c__law_form,
        def_body (ps := ["tin", "most_so"]) d32 (fun _ _ _ _ _ _ us hl => match us, hl with | [_, _], _ => rfl) rfl S__law_unit c__law_unit,
        def_body (ps := ["tin"]) d33 (fun _ _ _ _ _ _ us hl => match us, hl with | [_], _ => rfl) rfl S__law_right c__law_right,
        def_none (ps := ["script"]) d34 (fun _ _ _ _ _ _ us hl => match us, hl with | [_], _ => rfl) rfl, trivial⟩
    · exact ⟨cst_int X G q0, cst_int X G q1, trivial⟩
    · exact ⟨(exc_ve X G rfl n0 xq0 xk0 xs0 xt0 fun _ => more_mk ⟨xg0, xh0, xs0, xd0, xc0, xn, xw, xm0⟩ (ve_of xv0) (subF_some X G n2 xs2 xd2 xt2 xp0_2) (subF_some X G n0 xs0 xd0 xt0 xp0_0) (subF_some X G n1 xs1 xd1 xt1 xp0_1)), (exc_ve X G rfl n1 xq1 xk1 xs1 xt1 fun _ => more_mk ⟨xg1, xh1, xs1, xd1, xc1, xn, xw, xm1⟩ (ve_of xv1) (subF_some X G n2 xs2 xd2 xt2 xp1_2) (subF_some X G n0 xs0 xd0 xt0 xp1_0) (subF_some X G n1 xs1 xd1 xt1 xp1_1)), (exc_ve X G rfl n2 xq2 xk2 xs2 xt2 fun _ => more_mk ⟨xg2, xh2, xs2, xd2, xc2, xn, xw, xm2⟩ (ve_of xv2) (subF_some X G n2 xs2 xd2 xt2 xp2_2) (subF_some X G n0 xs0 xd0 xt0 xp2_0) (subF_some X G n1 xs1 xd1 xt1 xp2_1)), trivial⟩
    · exact ⟨none_ b0, none_ b1, none_ b2, none_ b3, none_ b4, none_ b5, none_ b6, none_ b7, none_ b8, none_ b9, none_ b10, none_ b11, none_ b12, none_ b13, none_ b14, none_ b15, none_ b16, none_ b17, trivial⟩
  exact law_all (m := 60) (n := 100) (L := 2) (mo := 2) Fc F S_law rfl (by kernel_rfl) (by kernel_rfl) (by kernel_rfl) (by kernel_rfl) (by kernel_rfl) (by kernel_rfl) (by kernel_rfl) Pt
end LW
open PySem PySem.W PyProof.Rows in
theorem PySem.Challenge.cw_termsdivide_k25_main_neighbours_by_one_e_holds : PySem.Challenge.rw_termsdivide_k25_main_neighbours_by_one_e.Holds := by
  w_on; o_law; k_head; (case hw => w_witness2)
  k_fill
  refine L2.walk_of (l := PySem.Challenge.rw_termsdivide_k25_main_neighbours_by_one_e) (n := 63) (k := 62) (x := "script") (CX := fun w => L2.CX PySem.Challenge.pw_termsdivide_k25_main_neighbours_by_one_e w) (sp := fun w => R.spLaw _) rfl (by decide) rfl ⟨rfl, by decide, by decide⟩ (fun w h Y => PySem.W.kIn_of Y) ?F (fun _ _ a ns hl _ hS => ⟨a, ns, rfl, hS, hl, fun _ => rfl⟩) (fun _ _ _ _ _ z => R.cx_never z)
  case F =>
    intro w mg fa h KX G hmg
    refine' LW.all_mk KX G hmg ?d0 ?d1 ?d2 ?d3 ?d4 ?d5 ?d6 ?d7 ?d8 ?d9 ?d10 ?d11 ?d12 ?d13 ?d14 ?d15 ?d16 ?d17 ?d18 ?d19 ?d20 ?d21 ?d22 ?d23 ?d24 ?d25 ?d26 ?d27 ?d28 ?d29 ?d30 ?d31 ?d32 ?d33 ?d34 ?q0 ?q1 ?n0 ?n1 ?n2 ?xq0 ?xk0 ?xs0 ?xt0 ?xd0 ?xg0 ?xh0 ?xc0 ?xm0 ?xv0 ?xp0_0 ?xp0_1 ?xp0_2 ?xq1 ?xk1 ?xs1 ?xt1 ?xd1 ?xg1 ?xh1 ?xc1 ?xm1 ?xv1 ?xp1_0 ?xp1_1 ?xp1_2 ?xq2 ?xk2 ?xs2 ?xt2 ?xd2 ?xg2 ?xh2 ?xc2 ?xm2 ?xv2 ?xp2_0 ?xp2_1 ?xp2_2 ?xn ?xw ?b0 ?b1 ?b2 ?b3 ?b4 ?b5 ?b6 ?b7 ?b8 ?b9 ?b10 ?b11 ?b12 ?b13 ?b14 ?b15 ?b16 ?b17 LW.parts
    (case d0 => refine' R.dh_mk KX G ?a ?l ?c ?k; (case a => k_is); (case l => k_is); (case c => k_is); (case k => k_is))
    (case d1 => refine' R.dh_mk KX G ?a ?l ?c ?k; (case a => k_is); (case l => k_is); (case c => k_is); (case k => k_is))
    (case d2 => refine' R.dh_mk KX G ?a ?l ?c ?k; (case a => k_is); (case l => k_is); (case c => k_is); (case k => k_is))
    (case d3 => refine' R.dh_mk KX G ?a ?l ?c ?k; (case a => k_is); (case l => k_is); (case c => k_is); (case k => k_is))
    (case d4 => refine' R.dh_mk KX G ?a ?l ?c ?k; (case a => k_is); (case l => k_is); (case c => k_is); (case k => k_is))
    (case d5 => refine' R.dh_mk KX G ?a ?l ?c ?k; (case a => k_is); (case l => k_is); (case c => k_is); (case k => k_is))
    (case d6 => refine' R.dh_mk KX G ?a ?l ?c ?k; (case a => k_is); (case l => k_is); (case c => k_is); (case k => k_is))
    (case d7 => refine' R.dh_mk KX G ?a ?l ?c ?k; (case a => k_is); (case l => k_is); (case c => k_is); (case k => k_is))
    (case d8 => refine' R.dh_mk KX G ?a ?l ?c ?k; (case a => k_is); (case l => k_is); (case c => k_is); (case k => k_is))
    (case d9 => refine' R.dh_mk KX G ?a ?l ?c ?k; (case a => k_is); (case l => k_is); (case c => k_is); (case k => k_is))
    (case d10 => refine' R.dh_mk KX G ?a ?l ?c ?k; (case a => k_is); (case l => k_is); (case c => k_is); (case k => k_is))
    (case d11 => refine' R.dh_mk KX G ?a ?l ?c ?k; (case a => k_is); (case l => k_is); (case c => k_is); (case k => k_is))
    (case d12 => refine' R.dh_mk KX G ?a ?l ?c ?k; (case a => k_is); (case l => k_is); (case c => k_is); (case k => k_is))
    (case d13 => refine' R.dh_mk KX G ?a ?l ?c ?k; (case a => k_is); (case l => k_is); (case c => k_is); (case k => k_is))
    (case d14 => refine' R.dh_mk KX G ?a ?l ?c ?k; (case a => k_is); (case l => k_is); (case c => k_is); (case k => k_is))
    (case d15 => refine' R.dh_mk KX G ?a ?l ?c ?k; (case a => k_is); (case l => k_is); (case c => k_is); (case k => k_is))
    (case d16 => refine' R.dh_mk KX G ?a ?l ?c ?k; (case a => k_is); (case l => k_is); (case c => k_is); (case k => k_is))
    (case d17 => refine' R.dh_mk KX G ?a ?l ?c ?k; (case a => k_is); (case l => k_is); (case c => k_is); (case k => k_is))
    (case d18 => refine' R.dh_mk KX G ?a ?l ?c ?k; (case a => k_is); (case l => k_is); (case c => k_is); (case k => k_is))
    (case d19 => refine' R.dh_mk KX G ?a ?l ?c ?k; (case a => k_is); (case l => k_is); (case c => k_is); (case k => k_is))
    (case d20 => refine' R.dh_mk KX G ?a ?l ?c ?k; (case a => k_is); (case l => k_is); (case c => k_is); (case k => k_is))
    (case d21 => refine' R.dh_mk KX G ?a ?l ?c ?k; (case a => k_is); (case l => k_is); (case c => k_is); (case k => k_is))
    (case d22 => refine' R.dh_mk KX G ?a ?l ?c ?k; (case a => k_is); (case l => k_is); (case c => k_is); (case k => k_is))
    (case d23 => refine' R.dh_mk KX G ?a ?l ?c ?k; (case a => k_is); (case l => k_is); (case c => k_is); (case k => k_is))
    (case d24 => refine' R.dh_mk KX G ?a ?l ?c ?k; (case a => k_is); (case l => k_is); (case c => k_is); (case k => k_is))
    (case d25 => refine' R.dh_mk KX G ?a ?l ?c ?k; (case a => k_is); (case l => k_is); (case c => k_is); (case k => k_is))
    (case d26 => refine' R.dh_mk KX G ?a ?l ?c ?k; (case a => k_is); (case l => k_is); (case c => k_is); (case k => k_is))
    (case d27 => refine' R.dh_mk KX G ?a ?l ?c ?k; (case a => k_is); (case l => k_is); (case c => k_is); (case k => k_is))
    (case d28 => refine' R.dh_mk KX G ?a ?l ?c ?k; (case a => k_is); (case l => k_is); (case c => k_is); (case k => k_is))
    (case d29 => refine' R.dh_mk KX G ?a ?l ?c ?k; (case a => k_is); (case l => k_is); (case c => k_is); (case k => k_is))
    (case d30 => refine' R.dh_mk KX G ?a ?l ?c ?k; (case a => k_is); (case l => k_is); (case c => k_is); (case k => k_is))
    (case d31 => refine' R.dh_mk KX G ?a ?l ?c ?k; (case a => k_is); (case l => k_is); (case c => k_is); (case k => k_is))
    (case d32 => refine' R.dh_mk KX G ?a ?l ?c ?k; (case a => k_is); (case l => k_is); (case c => k_is); (case k => k_is))
    (case d33 => refine' R.dh_mk KX G ?a ?l ?c ?k; (case a => k_is); (case l => k_is); (case c => k_is); (case k => k_is))
    (case d34 => refine' R.dh_mk KX G ?a ?l ?c ?k; (case a => k_is); (case l => k_is); (case c => k_is); (case k => k_is))
    (case q0 => k_is)
    (case q1 => k_is)
    (case n0 => k_is)
    (case n1 => k_is)
    (case n2 => k_is)
    (case xq0 => k_exc)
    (case xk0 => k_is)
    (case xs0 => k_is)
    (case xt0 => k_is)
    (case xd0 => k_is)
    (case xg0 => k_is)
    (case xh0 => k_is)
    (case xc0 => k_is)
    (case xm0 => k_is)
    (case xv0 => k_is)
    (case xp0_0 => k_is)
    (case xp0_1 => k_is)
    (case xp0_2 => k_is)
    (case xq1 => k_exc)
    (case xk1 => k_is)
    (case xs1 => k_is)
    (case xt1 => k_is)
    (case xd1 => k_is)
    (case xg1 => k_is)
    (case xh1 => k_is)
    (case xc1 => k_is)
    (case xm1 => k_is)
    (case xv1 => k_is)
    (case xp1_0 => k_is)
    (case xp1_1 => k_is)
    (case xp1_2 => k_is)
    (case xq2 => k_exc)
    (case xk2 => k_is)
    (case xs2 => k_is)
    (case xt2 => k_is)
    (case xd2 => k_is)
    (case xg2 => k_is)
    (case xh2 => k_is)
    (case xc2 => k_is)
    (case xm2 => k_is)
    (case xv2 => k_is)
    (case xp2_0 => k_is)
    (case xp2_1 => k_is)
    (case xp2_2 => k_is)
    (case xn => k_is)
    (case xw => k_is)
    (case b0 => k_is)
    (case b1 => k_is)
    (case b2 => k_is)
    (case b3 => k_is)
    (case b4 => k_is)
    (case b5 => k_is)
    (case b6 => k_is)
    (case b7 => k_is)
    (case b8 => k_is)
    (case b9 => k_is)
    (case b10 => k_is)
    (case b11 => k_is)
    (case b12 => k_is)
    (case b13 => k_is)
    (case b14 => k_is)
    (case b15 => k_is)
    (case b16 => k_is)
    (case b17 => k_is)
