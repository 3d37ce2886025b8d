import PyProof.Rows.All
import Wide.All
import OpenK.AllK
import Wide.FinOn
import HandS.Base
import HandS.Call
import HandS.List
import HandS.Exc
import HandS.ExcOwn
import HandS.TupAny
import HandS.WideBits
import HandS.Flow
import HandS.IsInst
import HandS.Text
import HandS.Style
import HandS.Deep
import KE.LtSeq
import HandS.DictComp
import HandS.RaiseMore
import KE.KDictPairs
import HandS.SortOrd
import HandS.SortInts
import KE.KSortTup
import KE.KDictSum
import HandS.Conv
import HandS.More
import HandS.Comp
import HandS.Defaults
import HandS.Words
import HandS.WordsExc
import HandS.Records
import HandS.Rev
import HandS.Iter
import HandS.Zip
import PyProof.Draws
import PyProof.EnumMake
import HandS.TryMany
import HandS.Small
import HandS.HeadEnd
import HandS.EndBits
import HandS.HeadHook2
import HandS.Head2
import PyProof.ExcBaseAll.ValueError
import HandS.TupSets
import KE.KeyNested
import HandS.SetFor
import HandS.Strs
import PyProof.StrLawsIn
import PySem.Challenge.RW_heldagainst_k16_kernels
set_option Elab.async false
set_option linter.all false
set_option maxRecDepth 100000
set_option maxHeartbeats 200000
/-! Ny: a small evaluator of the Python subset, over deep data. Plain Lean, no heap of the model. -/
namespace Ny
open PySem

/-- data: what a value is, to its depth; ro: a list of the caller's, that is only read; obj n: the n-th mutable object -/
inductive D where
  | non | bl (b : Bool) | int (i : Int) | str (x : Str) | tup (xs : List D) | lst (xs : List D) | ro (xs : List D) | dct (tk : Bool) (kvs : List (D × D)) | obj (n : Nat)
  deriving Inhabited

/-- a mutable object -/
inductive MO where
  | lst (xs : List D)
  | dct (tk : Bool) (kvs : List (D × D))
  | ins (c : Nat) (fs : List (Str × D))
  deriving Inhabited
abbrev Hs := List MO
/-- an exception: its class (by its place in the table), its fields -/
structure Ex where
  cls : Nat
  fs : List (Str × D)

inductive Out (α : Type) where
  | ok (a : α) (h : Hs)
  | exc (e : Ex) (h : Hs)
  | bad
def R (α : Type) : Type := Hs → Out α
namespace R
variable {α β γ : Type}
def pure (a : α) : R α := fun h => .ok a h
def bind (m : R α) (f : α → R β) : R β := fun h => match m h with
  | .ok a h' => f a h'
  | .exc e h' => .exc e h'
  | .bad => .bad
def raise (e : Ex) : R α := fun h => .exc e h
def bad : R α := fun _ => .bad
/-- if c holds, else stuck -/
def need (c : Bool) (m : R α) : R α := match c with
  | true => m
  | false => bad
/-- no exception may leave -/
def nox (m : R α) : R α := fun h => match m h with
  | .ok a h' => .ok a h'
  | _ => .bad
@[simp] theorem nox_pure (a : α) : nox (pure a) = pure a := (rfl)
def ofOpt : Option α → R α
  | some a => pure a
  | none => bad
@[simp] theorem pure_bind (a : α) (f : α → R β) : bind (pure a) f = f a := (rfl)
@[simp] theorem bind_pure (m : R α) : bind m pure = m := by
  funext h
  unfold bind
  cases m h <;> rfl
theorem bind_assoc (m : R α) (f : α → R β) (g : β → R γ) : bind (bind m f) g = bind m fun a => bind (f a) g := by
  funext h
  unfold bind
  cases m h <;> rfl
@[simp] theorem need_true (m : R α) : need true m = m := (rfl)
@[simp] theorem ofOpt_some (a : α) : ofOpt (some a) = pure a := (rfl)
@[simp] theorem raise_bind (e : Ex) (f : α → R β) : bind (raise e) f = raise e := (rfl)
end R

/-! ### data -/
mutual
/-- nothing mutable, no dict within -/
def D.plain : D → Bool
  | .tup xs => plainAll xs
  | .lst xs => plainAll xs
  | .dct _ _ => false
  | .ro _ => false
  | .obj _ => false
  | _ => true
def plainAll : List D → Bool
  | [] => true
  | x :: xs => x.plain && plainAll xs
end
mutual
def D.dep : D → Nat
  | .tup xs => depAll xs + 1
  | .lst xs => depAll xs + 1
  | _ => 0
def depAll : List D → Nat
  | [] => 0
  | x :: xs => max x.dep (depAll xs)
end
def b2i (b : Bool) : Int := if b then 1 else 0
mutual
def eqD : D → D → Bool
  | .non, .non => true
  | .bl a, .bl b => a == b
  | .bl a, .int j => b2i a == j
  | .int i, .bl b => i == b2i b
  | .int i, .int j => i == j
  | .str x, .str y => x == y
  | .tup xs, .tup ys => eqAll xs ys
  | .lst xs, .lst ys => eqAll xs ys
  | _, _ => false
def eqAll : List D → List D → Bool
  | [], [] => true
  | x :: xs, y :: ys => eqD x y && eqAll xs ys
  | _, _ => false
end
/-- may be compared with == -/
def cmpOk (a b : D) : Bool := a.plain && b.plain && decide (min a.dep b.dep ≤ 40)

/-- x < y of texts -/
def ltS (x y : Str) : Bool := decide (x.cps.toList < y.cps.toList)
mutual
/-- a < b: ints, texts, tuples of such; none: not to be compared -/
def ltD : D → D → Option Bool
  | .int i, .int j => some (decide (i < j))
  | .str x, .str y => some (ltS x y)
  | .tup xs, .tup ys => ltAll xs ys
  | _, _ => none
def ltAll : List D → List D → Option Bool
  | [], [] => some false
  | [], _ :: _ => some true
  | _ :: _, [] => some false
  | x :: xs, y :: ys => match ltAll xs ys with
    | some b => if eqD x y then some b else ltD x y
    | none => none
end

def truthy : D → Hs → Option Bool
  | .non, _ => some false
  | .bl b, _ => some b
  | .int i, _ => some (i != 0)
  | .str x, _ => if Nat.ble x.length sizeLine then some (x.length != 0) else none
  | .tup xs, _ => some (!xs.isEmpty)
  | .lst xs, _ => some (!xs.isEmpty)
  | .ro xs, _ => some (!xs.isEmpty)
  | .dct _ _, _ => none
  | .obj n, h => match h[n]? with
    | some (.lst xs) => some (!xs.isEmpty)
    | _ => none
def truthR (d : D) : R Bool := fun h => match truthy d h with
  | some b => .ok b h
  | none => .bad

/-- the items that a walk over the value meets -/
def itemsOf : D → Hs → Option (List D)
  | .tup xs, _ => some xs
  | .lst xs, _ => some xs
  | .ro xs, _ => some xs
  | .dct _ kvs, _ => some (kvs.map (·.1))
  | .str x, _ => if Nat.ble x.length sizeLine then some (x.cps.toList.map fun c => .str ⟨#[c]⟩) else none
  | .obj n, h => match h[n]? with
    | some (.lst xs) => some xs
    | some (.dct _ kvs) => some (kvs.map (·.1))
    | _ => none
  | _, _ => none
def itemsR (d : D) : R (List D) := fun h => match itemsOf d h with
  | some xs => .ok xs h
  | none => .bad

/-- .. of a value that nobody turns -/
def itemsV : D → Option (List D)
  | .tup xs => some xs
  | .lst xs => some xs
  | .ro xs => some xs
  | .str x => if Nat.ble x.length sizeLine then some (x.cps.toList.map fun c => .str ⟨#[c]⟩) else none
  | _ => none
def itemsVR (d : D) : R (List D) := R.ofOpt (itemsV d)

def big (n : Nat) : Bool := Nat.ble n sizeLine
def mkTup (xs : List D) : R D := R.need (big xs.length) (R.pure (.tup xs))
def mkLst (xs : List D) : R D := R.need (big xs.length) (R.pure (.lst xs))
def mkStr (x : Str) : R D := R.need (big x.length) (R.pure (.str x))

/-! ### operators -/
def small64 (i : Int) : Bool := decide (-(2 ^ 64) < i) && decide (i < 2 ^ 64)
def mulOk (i j : Int) : Bool := small64 i || (small64 j || decide (Builtin.Int.intBits i + Builtin.Int.intBits j ≤ 134217728))
def opR (op : Operator) (a b : D) : R D := match op, a, b with
  | .Add, .int i, .int j => R.pure (.int (i + j))
  | .Sub, .int i, .int j => R.pure (.int (i - j))
  | .Mult, .int i, .int j => R.need (mulOk i j) (R.pure (.int (i * j)))
  | .FloorDiv, .int i, .int j => R.need (decide (0 < j) && decide (j < 1073741824)) (R.pure (.int (i / j)))
  | .Mod, .int i, .int j => R.need (decide (0 < j)) (R.pure (.int (i % j)))
  | .Pow, .int i, .int j => R.need (decide (0 ≤ j) && (decide (j ≤ 1000000) && decide (i.natAbs < 2 ^ 64))) (R.pure (.int (i ^ j.toNat)))
  | .LShift, .int i, .int j => R.need (decide (0 ≤ j) && (decide (j ≤ 1000000) && decide (i.natAbs < 2 ^ 64))) (R.pure (.int (i * 2 ^ j.toNat)))
  | .RShift, .int i, .int j => R.need (decide (0 ≤ j)) (R.pure (.int (i / 2 ^ j.toNat)))
  | .BitAnd, .int i, .int j => R.pure (.int (Builtin.bitAnd i j))
  | .BitOr, .int i, .int j => R.pure (.int (Builtin.bitOr i j))
  | .BitXor, .int i, .int j => R.pure (.int (Builtin.bitXor i j))
  | .Add, .str x, .str y => R.need (big (x.length + y.length)) (R.pure (.str (x ++ y)))
  | .Add, .tup xs, .tup ys => R.need (big (xs.length + ys.length)) (R.pure (.tup (xs ++ ys)))
  | .Add, .lst xs, .lst ys => R.need (big (xs.length + ys.length)) (R.pure (.lst (xs ++ ys)))
  | .Add, .lst xs, .ro ys => R.need (big (xs.length + ys.length)) (R.pure (.lst (xs ++ ys)))
  | .Mult, .lst xs, .int k => R.need (decide (-(2 ^ 63) ≤ k) && (decide (k < 2 ^ 63) && big (xs.length * k.toNat))) (R.pure (.lst (List.replicate k.toNat xs).flatten))
  | _, _, _ => R.bad
def unR (op : UnaryOp) (a : D) : R D := match op, a with
  | .USub, .int i => R.pure (.int (-i))
  | .Invert, .int i => R.pure (.int (Builtin.bitNot i))
  | _, _ => R.bad

def hasD (x : D) (xs : List D) : Bool := xs.any fun y => eqD y x
def cmpAll (x : D) : List D → Bool
  | [] => true
  | y :: ys => cmpOk y x && cmpAll x ys
/-- y in xs, for lists and tuples -/
def inSeq (x : D) (xs : List D) : R Bool := R.need (x.plain && cmpAll x xs) (R.pure (hasD x xs))
def inStr (x y : Str) : Bool := !(Builtin.Str.occurrences y x 0 y.length 1).isEmpty
/-- a key of a dict: a text, an int, a tuple of such -/
def key1 : D → Bool
  | .int _ => true
  | .str _ => true
  | _ => false
def keyOk : D → Bool
  | .tup xs => xs.all key1
  | d => key1 d
/-- a key of a dict of that sort: a tuple of ints and texts, or one of them -/
def keyTk (tk : Bool) (k : D) : Bool := match tk, k with
  | true, .tup xs => xs.all fun x => match x with
    | .int _ => true
    | .str _ => true
    | _ => false
  | false, .int _ => true
  | false, .str _ => true
  | _, _ => false
def lookD (k : D) : List (D × D) → Option D
  | [] => none
  | (q, v) :: r => if eqD q k then some v else lookD k r
def inR (x c : D) : R Bool := match c with
  | .dct tk kvs => R.need (keyTk tk x) (R.pure (lookD x kvs).isSome)
  | .tup xs => inSeq x xs
  | .lst xs => inSeq x xs
  | .str y => (match x with
    | .str z => R.pure (inStr z y)
    | _ => R.bad)
  | .obj n => fun h => (match h[n]? with
    | some (.lst xs) => inSeq x xs h
    | _ => .bad)
  | _ => R.bad
/-- x is y, y None, True or False -/
def isR (x y : D) : R Bool := match x, y with
  | .non, .non => R.pure true
  | .bl a, .bl b => R.pure (a == b)
  | _, .non => R.pure false
  | _, _ => R.bad
def cmpR (op : CmpOp) (a b : D) : R Bool := match op with
  | .Eq => R.need (cmpOk a b) (R.pure (eqD a b))
  | .NotEq => R.need (cmpOk a b) (R.pure (!eqD a b))
  | .Lt => R.need (cmpOk a b) (R.ofOpt (ltD a b))
  | .Gt => (match a, b with
    | .int i, .int j => R.pure (decide (j < i))
    | .str x, .str y => R.pure (ltS y x)
    | _, _ => R.bad)
  | .LtE => (match a, b with
    | .int i, .int j => R.pure (decide (i ≤ j))
    | .str x, .str y => R.pure (!ltS y x)
    | _, _ => R.bad)
  | .GtE => (match a, b with
    | .int i, .int j => R.pure (decide (j ≤ i))
    | .str x, .str y => R.pure (!ltS x y)
    | _, _ => R.bad)
  | .Is => isR a b
  | .IsNot => R.bind (isR a b) fun c => R.pure (!c)
  | .In => inR a b
  | .NotIn => R.bind (inR a b) fun c => R.pure (!c)

/-! ### subscripts, slices -/
/-- the place that an index means -/
def ixPos (n : Nat) (i : Int) : Option Nat := if 0 ≤ i then (if i < n then some i.toNat else none) else if -(n : Int) ≤ i then some (i + n).toNat else none
def atD (xs : List D) (i : Int) : R D := R.ofOpt ((ixPos xs.length i).bind fun j => xs[j]?)
def onInt (i : D) (f : Int → R D) : R D := match i with
  | .int k => f k
  | _ => R.bad
def chAt (x : Str) (k : Int) : R D := R.need (big x.length) (R.ofOpt (((ixPos x.length k).bind fun j => x.cps.toList[j]?).map fun c => .str ⟨#[c]⟩))
def ixR (o i : D) : R D := match o with
  | .dct tk kvs => R.need (keyTk tk i) (R.ofOpt (lookD i kvs))
  | .tup xs => onInt i (atD xs)
  | .lst xs => onInt i (atD xs)
  | .ro xs => onInt i (atD xs)
  | .str x => onInt i (chAt x)
  | .obj n => fun h => (match h[n]? with
    | some (.lst xs) => onInt i (atD xs) h
    | _ => .bad)
  | _ => R.bad
/-- a bound of a slice, for n items -/
def cutAt (n : Nat) (dflt : Nat) : Option Int → Nat
  | none => dflt
  | some i => if i < 0 then (i + (n : Int)).toNat else min i.toNat n
def cut {α : Type} (xs : List α) (lo hi : Option Int) : List α := (xs.drop (cutAt xs.length 0 lo)).take (cutAt xs.length xs.length hi - cutAt xs.length 0 lo)
def slR (o : D) (lo hi : Option Int) : R D := match o with
  | .tup xs => R.pure (.tup (cut xs lo hi))
  | .lst xs => R.pure (.lst (cut xs lo hi))
  | .ro xs => R.pure (.lst (cut xs lo hi))
  | .str x => R.need (big x.length) (R.pure (.str ⟨(cut x.cps.toList lo hi).toArray⟩))
  | _ => R.bad
def revR (o : D) : R D := match o with
  | .lst xs => R.pure (.lst xs.reverse)
  | .tup xs => R.pure (.tup xs.reverse)
  | _ => R.bad

/-! ### built-ins -/
inductive Ty where
  | int | bool | str | tuple | list | dict
  deriving DecidableEq, Repr
def isTy (h : Hs) : D → Ty → Bool
  | .bl _, .bool => true
  | .bl _, .int => true
  | .int _, .int => true
  | .str _, .str => true
  | .tup _, .tuple => true
  | .lst _, .list => true
  | .ro _, .list => true
  | .dct _ _, .dict => true
  | .obj n, t => (match h[n]?, t with
    | some (.lst _), .list => true
    | some (.dct _ _), .dict => true
    | _, _ => false)
  | _, _ => false
def bools : List D → Option (List Bool)
  | [] => some []
  | .bl b :: r => (bools r).map (b :: ·)
  | _ :: _ => none
def intsOf : List D → Option (List Int)
  | [] => some []
  | .int i :: r => (intsOf r).map (i :: ·)
  | _ :: _ => none

/-! ### sorting: the plain insertion sort; what sorted(..) tells is the one ordered arrangement -/
def ltB (a b : D) : Bool := match ltD a b with
  | some b => b
  | none => false
mutual
def enc : D → List Int
  | .int i => [2, i]
  | .str x => 3 :: ((x.cps.toList.map fun c : Nat => (c : Int) + 1) ++ [0])
  | .tup xs => 4 :: encs xs
  | .non => [5]
  | .bl _ => [6]
  | .lst _ => [7]
  | .ro _ => [8]
  | .dct _ _ => [9]
  | .obj _ => [10]
def encs : List D → List Int
  | [] => [0]
  | x :: xs => 1 :: (enc x ++ encs xs)
end
mutual
/-- ints, texts, tuples of such -/
def leafOk : D → Bool
  | .int _ => true
  | .str _ => true
  | .tup xs => leafsOk xs
  | _ => false
def leafsOk : List D → Bool
  | [] => true
  | x :: xs => leafOk x && leafsOk xs
end
def insD (x : D) : List D → List D
  | [] => [x]
  | y :: ys => if enc x < enc y then x :: y :: ys else y :: insD x ys
def sortD (xs : List D) : List D := xs.foldl (fun acc x => insD x acc) []
def tagD : D → Nat
  | .int _ => 1
  | .str _ => 2
  | .tup _ => 3
  | _ => 0
/-- the sort of a tuple's first item -/
def fstTag : D → Nat
  | .tup (x :: _) => tagD x
  | _ => 0
def isNilT : D → Bool
  | .tup [] => true
  | _ => false
def pairOk (x y : D) : Bool := cmpOk x y && (ltD x y).isSome
def kindOk : List D → Bool
  | [] => true
  | [_] => true
  | x :: y :: xs => (((tagD x == 1 || tagD x == 2) && (x :: y :: xs).all (fun z => tagD z == tagD x)) || (fstTag x != 0 && (x :: y :: xs).all (fun z => fstTag z == fstTag x))) || ((x :: y :: xs).all (fun z => tagD z == 3) && (x :: y :: xs).any isNilT)
/-- all texts, all ints, all tuples with something in them, or all tuples of which one is (); and any two may be compared -/
def sameSort (xs : List D) : Bool := xs.all leafOk && (kindOk xs && xs.all fun x => xs.all fun y => pairOk x y)
def addD (acc : List D) (x : D) : List D := if hasD x acc then acc else acc ++ [x]
/-- each once, by the first place -/
def dedup (xs : List D) : List D := xs.foldl addD []

inductive Blt where
  | len | all | any | tuple | list | sorted | sortedSet | lenSet | int | abs | min | max | sum | str | dict
  deriving DecidableEq, Repr

end Ny

set_option maxHeartbeats 200000
/-! Ny: the order of ints, texts, tuples of such, as that of lists of ints. -/
namespace Ny
open PySem
theorem codes_np : ∀ (l m : List Nat) (a b : List Int), ((l.map fun c : Nat => (c : Int) + 1) ++ [0]) ++ a = ((m.map fun c : Nat => (c : Int) + 1) ++ [0]) ++ b → l = m
  | [], [], _, _, _ => rfl
  | [], c :: m, a, b, h => by
    simp only [List.map_nil, List.nil_append, List.map_cons, List.cons_append, List.cons.injEq] at h
    have := h.1
    omega
  | c :: l, [], a, b, h => by
    simp only [List.map_nil, List.nil_append, List.map_cons, List.cons_append, List.cons.injEq] at h
    have := h.1
    omega
  | c :: l, d :: m, a, b, h => by
    simp only [List.map_cons, List.cons_append, List.cons.injEq] at h
    have e : c = d := by have := h.1; omega
    rw [e, codes_np l m a b h.2]
mutual
/-- no code begins another one -/
theorem enc_np : ∀ (x y : D) (a b : List Int), enc x ++ a = enc y ++ b → enc x = enc y
  | .int i, y, a, b, h => by cases y <;> simp [enc] at h ⊢ <;> omega
  | .str s, y, a, b, h => by
    cases y with
    | str t =>
      simp only [enc, List.cons_append, List.cons.injEq, true_and] at h ⊢
      rw [codes_np _ _ _ _ h]
    | _ => simp [enc] at h
  | .tup xs, y, a, b, h => by
    cases y with
    | tup ys =>
      simp only [enc, List.cons_append, List.cons.injEq, true_and] at h ⊢
      exact encs_np xs ys a b h
    | _ => simp [enc] at h
  | .non, y, a, b, h => by cases y <;> simp [enc] at h ⊢
  | .bl _, y, a, b, h => by cases y <;> simp [enc] at h ⊢
  | .lst _, y, a, b, h => by cases y <;> simp [enc] at h ⊢
  | .ro _, y, a, b, h => by cases y <;> simp [enc] at h ⊢
  | .dct _ _, y, a, b, h => by cases y <;> simp [enc] at h ⊢
  | .obj _, y, a, b, h => by cases y <;> simp [enc] at h ⊢
theorem encs_np : ∀ (xs ys : List D) (a b : List Int), encs xs ++ a = encs ys ++ b → encs xs = encs ys
  | [], ys, a, b, h => by cases ys <;> simp [encs] at h ⊢
  | x :: xs, ys, a, b, h => by
    cases ys with
    | nil => simp [encs] at h
    | cons y ys =>
      simp only [encs, List.cons_append, List.cons.injEq, true_and, List.append_assoc] at h ⊢
      have e := enc_np x y _ _ h
      rw [e] at h ⊢
      rw [encs_np xs ys a b (List.append_cancel_left h)]
end
theorem lt_np : ∀ {l m : List Int}, (∀ a b, l ++ a = m ++ b → l = m) → l ≠ m → ∀ a b, l ++ a < m ++ b ↔ l < m
  | [], m, h, n, a, b => absurd (h (m ++ b) b rfl) n
  | x :: l, [], h, n, a, b => absurd (h a (x :: l ++ a) rfl) n
  | x :: l, y :: m, h, n, a, b => by
    simp only [List.cons_append, List.cons_lt_cons_iff]
    by_cases e : x = y
    · subst e
      have h' : ∀ a b, l ++ a = m ++ b → l = m := fun a b z => by
        have := h a b (by simp only [List.cons_append, z])
        exact (List.cons.inj this).2
      have n' : l ≠ m := fun z => n (by rw [z])
      have := lt_np h' n' a b
      simp [Int.lt_irrefl, this]
    · simp [e]
theorem app_lt : ∀ (l a b : List Int), l ++ a < l ++ b ↔ a < b
  | [], _, _ => Iff.rfl
  | x :: l, a, b => by
    simp only [List.cons_append, List.cons_lt_cons_iff, Int.lt_irrefl, false_or, true_and]
    exact app_lt l a b
theorem codes_lt : ∀ (l m : List Nat), ((l.map fun c : Nat => (c : Int) + 1) ++ [0]) < ((m.map fun c : Nat => (c : Int) + 1) ++ [0]) ↔ l < m
  | [], [] => by simp
  | [], c :: m => by
    simp only [List.map_nil, List.nil_append, List.map_cons, List.cons_append, List.cons_lt_cons_iff]
    constructor
    · intro _; exact List.nil_lt_cons c m
    · intro _; left; omega
  | c :: l, [] => by
    simp only [List.map_nil, List.nil_append, List.map_cons, List.cons_append, List.cons_lt_cons_iff]
    constructor
    · rintro (h | ⟨h, _⟩) <;> omega
    · intro h; exact absurd h (List.not_lt_nil _)
  | c :: l, d :: m => by
    simp only [List.map_cons, List.cons_append, List.cons_lt_cons_iff]
    rw [codes_lt l m]
    have e1 : ((c : Int) + 1 < (d : Int) + 1) ↔ c < d := by omega
    have e2 : ((c : Int) + 1 = (d : Int) + 1) ↔ c = d := by omega
    rw [e1, e2]
mutual
theorem eqD_enc : ∀ {x y : D}, leafOk x = true → leafOk y = true → eqD x y = decide (enc x = enc y)
  | .int i, y, _, h => by
    cases y with
    | int j =>
      show (i == j) = _
      by_cases e : i = j
      · subst e; simp
      · rw [decide_eq_false (fun z => e (by simpa [enc] using z))]
        exact beq_false_of_ne e
    | _ => first | (simp [eqD, enc]; done) | (simp [leafOk] at h; done)
  | .str s, y, _, h => by
    cases y with
    | str t =>
      have : (enc (.str s) = enc (.str t)) ↔ s = t := by
        constructor
        · intro e
          simp only [enc, List.cons.injEq, true_and] at e
          have e2 := codes_np s.cps.toList t.cps.toList [] [] (by rw [List.append_nil, List.append_nil]; exact e)
          cases s; cases t
          simp only [Str.mk.injEq]
          exact Array.toList_inj.mp e2
        · intro e; rw [e]
      show (s == t) = _
      by_cases e : s = t
      · subst e; simp
      · rw [decide_eq_false (fun z => e (this.mp z))]
        exact beq_false_of_ne e
    | _ => first | (simp [eqD, enc]; done) | (simp [leafOk] at h; done)
  | .tup xs, y, h1, h => by
    cases y with
    | tup ys =>
      have e := eqAll_enc (xs := xs) (ys := ys) (by simpa [leafOk] using h1) (by simpa [leafOk] using h)
      show eqAll xs ys = _
      rw [e]
      simp [enc]
    | _ => first | (simp [eqD, enc]; done) | (simp [leafOk] at h; done)
  | .non, _, h, _ => by simp [leafOk] at h
  | .bl _, _, h, _ => by simp [leafOk] at h
  | .lst _, _, h, _ => by simp [leafOk] at h
  | .ro _, _, h, _ => by simp [leafOk] at h
  | .dct _ _, _, h, _ => by simp [leafOk] at h
  | .obj _, _, h, _ => by simp [leafOk] at h
theorem eqAll_enc : ∀ {xs ys : List D}, leafsOk xs = true → leafsOk ys = true → eqAll xs ys = decide (encs xs = encs ys)
  | [], ys, _, _ => by cases ys <;> simp [eqAll, encs]
  | x :: xs, ys, h1, h2 => by
    cases ys with
    | nil => simp [eqAll, encs]
    | cons y ys =>
      simp only [leafsOk, Bool.and_eq_true] at h1 h2
      show (eqD x y && eqAll xs ys) = _
      rw [eqD_enc h1.1 h2.1, eqAll_enc h1.2 h2.2]
      by_cases e : enc x = enc y
      · have : (encs (x :: xs) = encs (y :: ys)) ↔ encs xs = encs ys := by
          simp only [encs, List.cons.injEq, true_and, e]
          exact ⟨fun z => List.append_cancel_left z, fun z => by rw [z]⟩
        by_cases e2 : encs xs = encs ys
        · simp [e, e2, this]
        · simp [e, e2, this]
      · have : ¬ encs (x :: xs) = encs (y :: ys) := fun z => by
          simp only [encs, List.cons.injEq, true_and] at z
          exact e (enc_np x y _ _ z)
        simp [e, this]
end
mutual
theorem ltD_enc : ∀ {x y : D} {b : Bool}, leafOk x = true → leafOk y = true → ltD x y = some b → b = decide (enc x < enc y)
  | .int i, y, b, _, h, e => by
    cases y with
    | int j =>
      simp only [ltD, Option.some.injEq] at e
      rw [← e]
      simp [enc, List.cons_lt_cons_iff, Int.lt_irrefl]
    | _ => first | (simp [ltD] at e; done) | (simp [leafOk] at h; done)
  | .str s, y, b, _, h, e => by
    cases y with
    | str t =>
      simp only [ltD, ltS, Option.some.injEq] at e
      rw [← e]
      have := codes_lt s.cps.toList t.cps.toList
      simp only [enc, List.cons_lt_cons_iff, Int.lt_irrefl, false_or, true_and]
      exact decide_eq_decide.mpr this.symm
    | _ => first | (simp [ltD] at e; done) | (simp [leafOk] at h; done)
  | .tup xs, y, b, h1, h, e => by
    cases y with
    | tup ys =>
      have e : ltAll xs ys = some b := e
      have := ltAll_enc (by simpa [leafOk] using h1) (by simpa [leafOk] using h) e
      rw [this]
      simp only [enc, List.cons_lt_cons_iff, Int.lt_irrefl, false_or, true_and]
    | _ => first | (simp [ltD] at e; done) | (simp [leafOk] at h; done)
  | .non, _, _, h, _, _ => by simp [leafOk] at h
  | .bl _, _, _, h, _, _ => by simp [leafOk] at h
  | .lst _, _, _, h, _, _ => by simp [leafOk] at h
  | .ro _, _, _, h, _, _ => by simp [leafOk] at h
  | .dct _ _, _, _, h, _, _ => by simp [leafOk] at h
  | .obj _, _, _, h, _, _ => by simp [leafOk] at h
theorem ltAll_enc : ∀ {xs ys : List D} {b : Bool}, leafsOk xs = true → leafsOk ys = true → ltAll xs ys = some b → b = decide (encs xs < encs ys)
  | [], [], b, _, _, e => by
    simp only [ltAll, Option.some.injEq] at e
    rw [← e]
    simp [encs, List.lt_irrefl]
  | [], y :: ys, b, _, _, e => by
    simp only [ltAll, Option.some.injEq] at e
    rw [← e]
    simp [encs, List.cons_lt_cons_iff]
  | x :: xs, [], b, _, _, e => by
    simp only [ltAll, Option.some.injEq] at e
    rw [← e]
    simp [encs, List.cons_lt_cons_iff]
  | x :: xs, y :: ys, b, h1, h2, e => by
    simp only [leafsOk, Bool.and_eq_true] at h1 h2
    unfold ltAll at e
    cases e1 : ltAll xs ys with
    | none => rw [e1] at e; cases e
    | some c =>
      rw [e1] at e
      have i1 := ltAll_enc h1.2 h2.2 e1
      have q := eqD_enc h1.1 h2.1
      have e : (if eqD x y = true then some c else ltD x y) = some b := e
      simp only [encs, List.cons_lt_cons_iff, Int.lt_irrefl, false_or, true_and]
      by_cases he : enc x = enc y
      · rw [q, decide_eq_true he, if_pos rfl] at e
        cases e
        rw [i1, he]
        exact decide_eq_decide.mpr (app_lt _ _ _).symm
      · rw [q, decide_eq_false he, if_neg Bool.false_ne_true] at e
        rw [ltD_enc h1.1 h2.1 e]
        exact decide_eq_decide.mpr (lt_np (fun a b z => enc_np x y a b z) he _ _).symm
end
mutual
theorem enc_inj : ∀ {x y : D}, leafOk x = true → leafOk y = true → enc x = enc y → x = y
  | .int i, y, _, h, e => by cases y <;> first | (simp [leafOk] at h; done) | (simp [enc] at e; done) | (simp [enc] at e; rw [e])
  | .str s, y, _, h, e => by
    cases y with
    | str t =>
      simp only [enc, List.cons.injEq, true_and] at e
      have e2 := codes_np s.cps.toList t.cps.toList [] [] (by rw [List.append_nil, List.append_nil]; exact e)
      cases s; cases t
      simp only [D.str.injEq, Str.mk.injEq]
      exact Array.toList_inj.mp e2
    | _ => first | (simp [leafOk] at h; done) | (simp [enc] at e; done)
  | .tup xs, y, h1, h, e => by
    cases y with
    | tup ys =>
      simp only [enc, List.cons.injEq, true_and] at e
      rw [encs_inj (by simpa [leafOk] using h1) (by simpa [leafOk] using h) e]
    | _ => first | (simp [leafOk] at h; done) | (simp [enc] at e; done)
  | .non, _, h, _, _ => by simp [leafOk] at h
  | .bl _, _, h, _, _ => by simp [leafOk] at h
  | .lst _, _, h, _, _ => by simp [leafOk] at h
  | .ro _, _, h, _, _ => by simp [leafOk] at h
  | .dct _ _, _, h, _, _ => by simp [leafOk] at h
  | .obj _, _, h, _, _ => by simp [leafOk] at h
theorem encs_inj : ∀ {xs ys : List D}, leafsOk xs = true → leafsOk ys = true → encs xs = encs ys → xs = ys
  | [], ys, _, _, e => by cases ys <;> first | rfl | (simp [encs] at e)
  | x :: xs, ys, h1, h2, e => by
    cases ys with
    | nil => simp [encs] at e
    | cons y ys =>
      simp only [leafsOk, Bool.and_eq_true] at h1 h2
      simp only [encs, List.cons.injEq, true_and] at e
      have e1 := enc_np x y _ _ e
      rw [e1] at e
      rw [enc_inj h1.1 h2.1 e1, encs_inj h1.2 h2.2 (List.append_cancel_left e)]
end
/-! ### the insertion sort -/
def leE (a b : D) : Prop := ¬ enc b < enc a
theorem leE_trans {a b c : D} (h1 : leE a b) (h2 : leE b c) : leE a c := List.not_lt.mpr (List.le_trans (List.not_lt.mp h1) (List.not_lt.mp h2))
theorem leE_total (a b : D) : leE a b ∨ leE b a := by
  by_cases h : enc b < enc a
  · exact .inr fun z => List.lt_asymm h z
  · exact .inl h
theorem insD_perm (x : D) : ∀ ys : List D, (insD x ys).Perm (x :: ys)
  | [] => List.Perm.refl _
  | y :: ys => by
    unfold insD
    split
    · exact List.Perm.refl _
    · exact ((insD_perm x ys).cons y).trans (List.Perm.swap x y ys)
theorem insD_sorted (x : D) : ∀ {ys : List D}, ys.Pairwise leE → (insD x ys).Pairwise leE
  | [], _ => List.pairwise_singleton _ _
  | y :: ys, h => by
    obtain ⟨h1, h2⟩ := List.pairwise_cons.mp h
    unfold insD
    split
    · rename_i lt
      have xy : leE x y := fun z => List.lt_asymm lt z
      refine List.pairwise_cons.mpr ⟨fun z hz => ?_, h⟩
      rcases List.mem_cons.mp hz with e | hz
      · rw [e]; exact xy
      · exact leE_trans xy (h1 z hz)
    · rename_i lt
      refine List.pairwise_cons.mpr ⟨fun z hz => ?_, insD_sorted x h2⟩
      rcases List.mem_cons.mp ((insD_perm x ys).mem_iff.mp hz) with e | hz
      · rw [e]; exact lt
      · exact h1 z hz
theorem sortD_go : ∀ (xs acc : List D), acc.Pairwise leE → (xs.foldl (fun acc x => insD x acc) acc).Pairwise leE ∧ (xs.foldl (fun acc x => insD x acc) acc).Perm (xs ++ acc)
  | [], acc, h => ⟨h, List.Perm.refl _⟩
  | x :: xs, acc, h => by
    obtain ⟨h1, h2⟩ := sortD_go xs (insD x acc) (insD_sorted x h)
    refine ⟨h1, h2.trans ?_⟩
    have p1 : (xs ++ insD x acc).Perm (xs ++ x :: acc) := (insD_perm x acc).append_left xs
    exact p1.trans List.perm_middle
theorem sortD_sorted (xs : List D) : (sortD xs).Pairwise leE := (sortD_go xs [] List.Pairwise.nil).1
theorem sortD_perm (xs : List D) : (sortD xs).Perm xs := by
  have := (sortD_go xs [] List.Pairwise.nil).2
  rw [List.append_nil] at this
  exact this
/-- the one ordered arrangement -/
theorem sortD_uniq {xs ys : List D} (h : ∀ x ∈ xs, leafOk x = true) (p : ys.Perm xs) (s : ys.Pairwise leE) : ys = sortD xs := by
  refine List.Perm.eq_of_pairwise (le := leE) (fun a b ha hb h1 h2 => ?_) s (sortD_sorted xs) (p.trans (sortD_perm xs).symm)
  have e : enc a = enc b := List.le_antisymm (List.not_lt.mp h1) (List.not_lt.mp h2)
  exact enc_inj (h a (p.mem_iff.mp ha)) (h b ((sortD_perm xs).mem_iff.mp hb)) e
end Ny

set_option maxHeartbeats 200000
/-! Ny: the small syntax, its evaluator. -/
namespace Ny
open PySem

mutual
inductive NT where
  | nm (i : Nat)
  | tp (ts : NTs)
inductive NTs where
  | nil
  | cons (t : NT) (ts : NTs)
end
mutual
inductive NE where
  | cst (d : D)
  | var (i : Nat)
  | tup (es : NEs)
  | lst (es : NEs)
  | hlst (es : NEs)
  | dct0 (tk : Bool)
  | call (f : Nat) (es : NEs)
  | blt (b : Blt) (es : NEs)
  | isi (e : NE) (ts : List Ty)
  | bin (op : Operator) (a b : NE)
  | un (op : UnaryOp) (a : NE)
  | cmp (op : CmpOp) (a b : NE)
  | cmp2 (op op' : CmpOp) (a b c : NE)
  | inK (neg : Bool) (a : NE) (xs : List D)
  | and (a b : NE)
  | or (a b : NE)
  | not (a : NE)
  | ite (c a b : NE)
  | ix (a i : NE)
  | sl (a lo hi : NE)
  | rev (a : NE)
  | lc (own : List Nat) (t : NT) (it : NI) (cond elt : NE)
  | lc2 (own : List Nat) (t : NT) (it : NI) (cond : NE) (own2 : List Nat) (t2 : NT) (it2 : NI) (cond2 elt : NE)
  | fld (e : NE) (f : Str)
  | xfld (i : Nat) (f : Str)
  | meth (m : Str) (o : NE) (es : NEs)
  | new (c : Nat) (es : NEs)
inductive NEs where
  | nil
  | cons (e : NE) (es : NEs)
/-- what is walked -/
inductive NI where
  | seq (e : NE)
  | rng1 (a : NE)
  | rng2 (a b : NE)
  | enum (e : NE)
  | zip (a b : NE)
  | items (e : NE)
end
mutual
inductive NS where
  | pass | brk | cont
  | retN
  | ret (fr : List Nat) (e : NE)
  | asg (fr : List Nat) (t : NT) (e : NE)
  | own (fr : List Nat) (i : Nat) (e : NE)
  | par (fr : List Nat) (i j : Nat) (a b : NE)
  | par2 (fr : List Nat) (i : Nat) (oi : Bool) (j : Nat) (oj : Bool) (a b : NE)
  | aug (i : Nat) (op : Operator) (e : NE)
  | setI (i : Nat) (k e : NE)
  | augI (i : Nat) (k : NE) (op : Operator) (e : NE)
  | app (fr : List Nat) (i : Nat) (e : NE)
  | setF (fr : List Nat) (o : NE) (f : Str) (own : Bool) (e : NE)
  | ife (c : NE) (a b : NSs)
  | for_ (fr : List Nat) (t : NT) (it : NI) (body : NSs)
  | whl (n : Nat) (c : NE) (body : NSs)
  | expr (e : NE)
  | raise (c : Nat) (es : NEs)
  | try_ (body : NSs) (hs : NHs)
inductive NSs where
  | nil
  | cons (s : NS) (ss : NSs)
inductive NHs where
  | nil
  | cons (c : Nat) (nm : Option Nat) (suite : NSs) (hs : NHs)
end

/-! ### the frame -/
inductive Slot where
  | no
  | val (d : D)
  | own (d : D)
  | exn (e : Ex)
abbrev Env := List Slot
def getv (σ : Env) (i : Nat) : Option D := match σ[i]? with
  | some (.val d) => some d
  | _ => none
def getc (σ : Env) (i : Nat) : Option D := match σ[i]? with
  | some (.val d) => some d
  | some (.own d) => some d
  | _ => none
/-- where a value is only looked at: a name's content -/
def contOr (a : NE) (σ : Env) (m : R D) : R D := match a with
  | .var i => R.ofOpt (getc σ i)
  | _ => m
/-- what these slots own may be kept by others from here on -/
def freeze (σ : Env) : List Nat → Env
  | [] => σ
  | i :: r => match σ[i]? with
    | some (.own (.lst xs)) => freeze (σ.set i (.val (.lst xs))) r
    | some (.own (.dct tk kvs)) => freeze (σ.set i (.val (.dct tk kvs))) r
    | _ => freeze σ r
def wipeE (σ : Env) : List Nat → Env
  | [] => σ
  | i :: r => (wipeE σ r).set i .no
mutual
def bindT : NT → D → Env → Option Env
  | .nm i, d, σ => some (σ.set i (.val d))
  | .tp ts, d, σ => match d with
    | .tup xs => bindTs ts xs σ
    | _ => none
def bindTs : NTs → List D → Env → Option Env
  | .nil, xs, σ => match xs with
    | [] => some σ
    | _ => none
  | .cons t ts, xs, σ => match xs with
    | x :: r => (match bindT t x σ with
      | some σ' => bindTs ts r σ'
      | none => none)
    | [] => none
end

/-! ### comprehensions -/
/-- each item by f, which may leave it out -/
def lcR (f : D → R (Option D)) : List D → R (List D)
  | [] => R.pure []
  | x :: xs => R.bind (R.nox (f x)) fun o => R.bind (lcR f xs) fun r => R.pure (match o with
    | some d => d :: r
    | none => r)
/-- each item by f, which gives some -/
def lcRs (f : D → R (List D)) : List D → R (List D)
  | [] => R.pure []
  | x :: xs => R.bind (R.nox (f x)) fun o => R.bind (lcRs f xs) fun r => R.pure (o ++ r)
def rngD (lo : Int) : Nat → List D
  | 0 => []
  | n + 1 => .int lo :: rngD (lo + 1) n
def rngR (a b : D) : R (List D) := match a, b with
  | .int i, .int j => R.need (decide (-(2 ^ 62) ≤ i) && (decide (i < 2 ^ 62) && (decide (-(2 ^ 62) ≤ j) && decide (j < 2 ^ 62)))) (R.pure (rngD i (j - i).toNat))
  | _, _ => R.bad
def enumD (i : Int) : List D → List D
  | [] => []
  | x :: xs => .tup [.int i, x] :: enumD (i + 1) xs
def zipD : List D → List D → List D
  | x :: xs, y :: ys => .tup [x, y] :: zipD xs ys
  | _, _ => []
/-- the items of a tuple, a list -/
def seqV : D → Option (List D)
  | .tup xs => some xs
  | .lst xs => some xs
  | .ro xs => some xs
  | _ => none
def zipV (x y : D) : Option (List D) := match x, y with
  | .tup xs, .tup ys => some (zipD xs ys)
  | .tup _, _ => none
  | _, .tup _ => none
  | x, y => (seqV x).bind fun xs => (seqV y).map fun ys => zipD xs ys
def pairsD (kvs : List (D × D)) : List D := kvs.map fun kv => .tup [kv.1, kv.2]
def dctOf (d : D) (h : Hs) : Option (List (D × D)) := match d with
  | .dct _ kvs => some kvs
  | .obj n => (match h[n]? with
    | some (.dct _ kvs) => some kvs
    | _ => none)
  | _ => none
def dctItemsR (d : D) : R (List D) := match d with
  | .dct _ kvs => R.pure (pairsD kvs)
  | _ => R.bad
/-- in a comprehension a name's content may be walked, in a for its value alone -/
def contIf (c : Bool) (a : NE) (σ : Env) (m : R D) : R D := match c with
  | true => contOr a σ m
  | false => m

/-! ### built-ins -/
/-- the items of a list -/
def lstR (d : D) : R (List D) := fun h => match d with
  | .lst xs => .ok xs h
  | .ro xs => .ok xs h
  | .obj n => (match h[n]? with
    | some (.lst xs) => .ok xs h
    | _ => .bad)
  | _ => .bad
/-- .. of a list or a tuple -/
def seqR (d : D) : R (List D) := match d with
  | .tup xs => R.pure xs
  | d => lstR d
/-- .. of a dict, too -/
def keysR (d : D) : R (List D) := match d with
  | .dct _ kvs => R.pure (kvs.map (·.1))
  | d => seqR d
def lenR (d : D) : R D := match d with
  | .str x => R.need (big x.length) (R.pure (.int x.length))
  | .dct _ _ => R.bad
  | d => R.bind (seqR d) fun xs => R.pure (.int xs.length)
def insOk (xs : List D) : Bool := sameSort xs
def sortR (xs : List D) : R D := R.need (insOk xs) (R.pure (.lst (sortD xs)))
/-- a nested tuple of ints and texts -/
def keyT : D → Bool
  | .tup xs => leafsOk xs && decide (depAll xs ≤ 7)
  | _ => false
/-- may stand in a set together: ints and texts, or tuples -/
def setOk (xs : List D) : Bool := decide (xs.length ≤ 3900) && (xs.all key1 || (xs.all keyT && decide ((dedup xs).length ≤ 75)))
def maxI : Int → List Int → Int
  | m, [] => m
  | m, x :: xs => maxI (if x > m then x else m) xs
def minI : Int → List Int → Int
  | m, [] => m
  | m, x :: xs => minI (if x < m then x else m) xs
def headI (f : Int → List Int → Int) : List Int → Option D
  | i :: is => some (.int (f i is))
  | [] => none
def putD (k v : D) (kvs : List (D × D)) : List (D × D) :=
  if (kvs.any fun kv => eqD kv.1 k) = true then kvs.map (fun kv => if eqD kv.1 k = true then (kv.1, v) else kv) else kvs ++ [(k, v)]
def pairsV : List D → Option (List (D × D))
  | [] => some []
  | .tup [k, v] :: r => (pairsV r).map ((k, v) :: ·)
  | _ :: _ => none
/-- dict(pairs) -/
def mergeD (acc : List (D × D)) : List (D × D) → List (D × D)
  | [] => acc
  | (k, v) :: r => mergeD (putD k v acc) r
def dictV (xs : List D) : Option D := (pairsV xs).bind fun kvs =>
  if kvs.all (fun kv => keyTk false kv.1) = true then some (.dct false (mergeD [] kvs))
  else if kvs.all (fun kv => keyTk true kv.1) = true then some (.dct true (mergeD [] kvs)) else none
def bltR (b : Blt) (vs : List D) : R D := match b, vs with
  | .len, [x] => lenR x
  | .all, [x] => R.bind (lstR x) fun xs => R.ofOpt ((bools xs).map fun bs => .bl (bs.all id))
  | .any, [x] => R.bind (lstR x) fun xs => R.ofOpt ((bools xs).map fun bs => .bl (bs.any id))
  | .tuple, [x] => R.bind (seqR x) fun xs => R.pure (.tup xs)
  | .list, [x] => R.bind (seqR x) fun xs => R.pure (.lst xs)
  | .sorted, [x] => R.bind (keysR x) sortR
  | .sortedSet, [x] => R.bind (seqR x) fun xs => R.need (setOk xs) (sortR (dedup xs))
  | .dict, [x] => R.bind (lstR x) fun xs => R.ofOpt (dictV xs)
  | .lenSet, [x] => R.bind (seqR x) fun xs => R.need (setOk xs) (R.pure (.int (dedup xs).length))
  | .int, [.int i] => R.pure (.int i)
  | .int, [.bl b] => R.pure (.int (b2i b))
  | .abs, [.int i] => R.pure (.int (if i < 0 then -i else i))
  | .sum, [x] => R.bind (lstR x) fun xs => R.ofOpt ((intsOf xs).map fun is => .int is.sum)
  | .str, [.int i] => R.need (decide (i.natAbs.log2 < 1920)) (R.pure (.str (toString i)))
  | .str, [.str x] => R.pure (.str x)
  | .max, [.int i, .int j] => R.pure (.int (if j > i then j else i))
  | .min, [.int i, .int j] => R.pure (.int (if j < i then j else i))
  | .max, [x] => R.bind (lstR x) fun xs => R.ofOpt ((intsOf xs).bind (headI maxI))
  | .min, [x] => R.bind (lstR x) fun xs => R.ofOpt ((intsOf xs).bind (headI minI))
  | _, _ => R.bad
def isiR (d : D) (ts : List Ty) : R D := fun h => .ok (.bl (ts.any fun t => isTy h d t)) h
/-- a tuple that is written there -/
def isTupE : NE → Bool
  | .tup _ => true
  | _ => false
def isNonE : NE → Bool
  | .cst .non => true
  | _ => false
/-- a bound: left out, or an int -/
def bndR (e : NE) (d : D) : Option (Option Int) := match isNonE e with
  | true => some none
  | false => (match d with
    | .int i => some (some i)
    | _ => none)
def tstR (t : Bool) (m : R D) : R D := match t with
  | true => R.bind m fun d => R.bind (truthR d) fun b => R.pure (.bl b)
  | false => m
/-- op= on ints -/
def iopR (op : Operator) (x y : D) : R D := match x, y with
  | .int _, .int _ => opR op x y
  | _, _ => R.bad
/-- by a test's answer -/
def iteR {α : Type} (d : D) (a b : R α) : R α := match d with
  | .bl true => a
  | .bl false => b
  | _ => R.bad
def notD : D → R D
  | .bl b => R.pure (.bl (!b))
  | _ => R.bad
def ntB (neg b : Bool) : Bool := if neg then !b else b
def bindR {α : Type} (t : NT) (d : D) (σ : Env) (k : Env → R α) : R α := match bindT t d σ with
  | some σ' => k σ'
  | none => R.bad
def allocR (o : MO) : R D := fun h => .ok (.obj h.length) (h ++ [o])
def fldR (d : D) (f : Str) : R D := fun h => match d with
  | .obj n => (match h[n]? with
    | some (.ins _ fs) => (match fs.lookup f with
      | some v => .ok v h
      | none => .bad)
    | _ => .bad)
  | _ => .bad
def xfldR (σ : Env) (i : Nat) (f : Str) : R D := match σ[i]? with
  | some (.exn e) => R.ofOpt (e.fs.lookup f)
  | _ => R.bad

/-- the program's tables: the methods by class and name, the __init__ of a class -/
structure Tab where
  meths : List (Nat × Str × Nat) := []
  inits : List (Nat × Nat) := []
def Tab.meth (T : Tab) (c : Nat) (m : Str) : Option Nat := match T.meths.find? fun p => p.1 == c && p.2.1 == m with
  | some p => some p.2.2
  | none => none
abbrev Call := Nat → List D → R D
def methR (T : Tab) (C : Call) (m : Str) (o : D) (vs : List D) : R D := fun h => match o with
  | .obj n => (match h[n]? with
    | some (.ins c _) => (match T.meth c m with
      | some f => C f (.obj n :: vs) h
      | none => .bad)
    | _ => .bad)
  | _ => .bad
def newR (T : Tab) (C : Call) (c : Nat) (vs : List D) : R D := fun h => match T.inits.lookup c with
  | some f => (match C f (.obj h.length :: vs) (h ++ [.ins c []]) with
    | .ok .non h' => .ok (.obj h.length) h'
    | .ok _ _ => .bad
    | .exc e h' => .exc e h'
    | .bad => .bad)
  | none => .bad

section
variable (T : Tab) (C : Call)
mutual
/-- t: as a test (the answer is a bool) -/
def ev : NE → Env → Bool → R D
  | .cst d, σ, t => tstR t (R.pure d)
  | .var i, σ, t => match t with
    | true => R.bind (R.ofOpt (getc σ i)) fun d => R.bind (truthR d) fun b => R.pure (.bl b)
    | false => R.ofOpt (getv σ i)
  | .tup es, σ, t => tstR t (R.bind (evs es σ) mkTup)
  | .lst es, σ, t => tstR t (R.bind (evs es σ) mkLst)
  | .hlst es, σ, t => tstR t (R.bind (evs es σ) fun xs => R.need (big xs.length) (allocR (.lst xs)))
  | .dct0 tk, σ, t => tstR t (R.pure (.dct tk []))
  | .call f es, σ, t => tstR t (R.bind (evs es σ) (C f))
  | .blt b es, σ, t => tstR t (R.bind (evcs es σ) (bltR b))
  | .isi e ts, σ, t => tstR t (R.bind (contOr e σ (ev e σ false)) fun d => isiR d ts)
  | .bin op a b, σ, t => tstR t (R.bind (contOr a σ (ev a σ false)) fun x => R.bind (contOr b σ (ev b σ false)) fun y => opR op x y)
  | .un op a, σ, t => tstR t (R.bind (ev a σ false) (unR op))
  | .cmp op a b, σ, t => tstR t (R.bind (contOr a σ (ev a σ false)) fun x => R.bind (contOr b σ (ev b σ false)) fun y => R.bind (cmpR op x y) fun c => R.pure (.bl c))
  | .cmp2 op op' a b c, σ, t => tstR t (R.bind (contOr a σ (ev a σ false)) fun x => R.bind (contOr b σ (ev b σ false)) fun y => R.bind (cmpR op x y) fun k =>
      match k with
      | true => R.bind (contOr c σ (ev c σ false)) fun z => R.bind (cmpR op' y z) fun q => R.pure (.bl q)
      | false => R.pure (.bl false))
  | .inK neg a xs, σ, t => tstR t (R.bind (contOr a σ (ev a σ false)) fun d => R.bind (inSeq d xs) fun c => R.pure (.bl (ntB neg c)))
  | .and a b, σ, t => match t with
    | true => R.bind (ev a σ true) fun d => iteR d (ev b σ true) (R.pure (.bl false))
    | false => R.bind (ev a σ false) fun d => R.bind (truthR d) fun c => match c with
      | true => ev b σ false
      | false => R.pure d
  | .or a b, σ, t => match t with
    | true => R.bind (ev a σ true) fun d => iteR d (R.pure (.bl true)) (ev b σ true)
    | false => R.bind (ev a σ false) fun d => R.bind (truthR d) fun c => match c with
      | true => R.pure d
      | false => ev b σ false
  | .not a, σ, t => match t with
    | true => R.bind (ev a σ true) notD
    | false => R.bind (contOr a σ (ev a σ false)) fun d => R.bind (truthR d) fun c => R.pure (.bl (!c))
  | .ite c a b, σ, t => R.bind (ev c σ true) fun d => iteR d (ev a σ t) (ev b σ t)
  | .ix a i, σ, t => tstR t (R.bind (contOr a σ (ev a σ false)) fun o => R.bind (ev i σ false) fun k => ixR o k)
  | .sl a lo hi, σ, t => tstR t (R.bind (contOr a σ (ev a σ false)) fun o => R.bind (R.bind (ev lo σ false) fun l => R.ofOpt (bndR lo l)) fun l => R.bind (R.bind (ev hi σ false) fun u => R.ofOpt (bndR hi u)) fun u => slR o l u)
  | .rev a, σ, t => tstR t (R.bind (contOr a σ (ev a σ false)) revR)
  | .lc own tg it cond elt, σ, t => tstR t (R.bind (evi it σ true) fun xs => R.bind (lcR (fun x => bindR tg x (wipeE σ own) fun σ' => R.bind (ev cond σ' true) fun d => iteR d (R.bind (ev elt σ' false) fun y => R.pure (some y)) (R.pure none)) xs) mkLst)
  | .lc2 own tg it cond own2 tg2 it2 cond2 elt, σ, t => tstR t (R.bind (evi it σ true) fun xs => R.bind (lcRs (fun x => bindR tg x (wipeE σ own) fun σ1 => R.bind (ev cond σ1 true) fun d => iteR d
      (R.bind (evi it2 σ1 true) fun ys => lcR (fun y => bindR tg2 y (wipeE σ1 own2) fun σ2 => R.bind (ev cond2 σ2 true) fun d2 => iteR d2 (R.bind (ev elt σ2 false) fun z => R.pure (some z)) (R.pure none)) ys) (R.pure [])) xs) mkLst)
  | .fld e f, σ, t => tstR t (R.bind (ev e σ false) fun d => fldR d f)
  | .xfld i f, σ, t => tstR t (xfldR σ i f)
  | .meth m o es, σ, t => tstR t (R.bind (ev o σ false) fun d => R.bind (evs es σ) fun vs => methR T C m d vs)
  | .new c es, σ, t => tstR t (R.bind (evs es σ) (newR T C c))
/-- arguments -/
def evs : NEs → Env → R (List D)
  | .nil, σ => R.pure []
  | .cons e es, σ => R.bind (ev e σ false) fun x => R.bind (evs es σ) fun xs => R.pure (x :: xs)
/-- arguments that are only looked at -/
def evcs : NEs → Env → R (List D)
  | .nil, σ => R.pure []
  | .cons e es, σ => R.bind (contOr e σ (ev e σ false)) fun x => R.bind (evcs es σ) fun xs => R.pure (x :: xs)
/-- what is walked -/
def evi : NI → Env → Bool → R (List D)
  | .seq e, σ, c => R.bind (contIf c e σ (ev e σ false)) itemsVR
  | .rng1 a, σ, c => R.bind (ev a σ false) fun x => rngR (.int 0) x
  | .rng2 a b, σ, c => R.bind (ev a σ false) fun x => R.bind (ev b σ false) fun y => rngR x y
  | .enum e, σ, c => R.bind (contIf c e σ (ev e σ false)) fun d => R.bind (R.ofOpt (seqV d)) fun xs => R.pure (enumD 0 xs)
  | .zip a b, σ, c => R.bind (contIf c a σ (ev a σ false)) fun x => R.bind (contIf c b σ (ev b σ false)) fun y => R.ofOpt (zipV x y)
  | .items e, σ, c => R.bind (contIf c e σ (ev e σ false)) dctItemsR
end
end

/-! ### statements -/
inductive Fl where
  | nx | bk | ct
  | rt (d : D)
inductive SO where
  | fl (f : Fl) (σ : Env) (h : Hs)
  | exc (e : Ex) (σ : Env) (h : Hs)
  | bad
def S : Type := Hs → SO
namespace S
def done (f : Fl) (σ : Env) : S := fun h => .fl f σ h
def bad : S := fun _ => .bad
def ev {α : Type} (m : R α) (σ : Env) (k : α → S) : S := fun h => match m h with
  | .ok d h' => k d h'
  | .exc e h' => .exc e σ h'
  | .bad => .bad
/-- without exceptions -/
def nox (m : S) : S := fun h => match m h with
  | .exc _ _ _ => .bad
  | o => o
def andThen (m : S) (k : Env → S) : S := fun h => match m h with
  | .fl .nx σ h' => k σ h'
  | o => o
def ofOpt (o : Option Env) (k : Env → S) : S := match o with
  | some σ => k σ
  | none => bad
/-- a turn of a loop, then the rest -/
def turn (m : S) (k : Env → S) : S := fun h => match m h with
  | .fl .nx σ h' => k σ h'
  | .fl .ct σ h' => k σ h'
  | .fl .bk σ h' => .fl .nx σ h'
  | o => o
def ite (d : D) (a b : S) : S := match d with
  | .bl true => a
  | .bl false => b
  | _ => bad
def forS (body : D → Env → S) : List D → Env → S
  | [], σ => done .nx σ
  | x :: xs, σ => turn (body x σ) (forS body xs)
def whileS (c : Env → R D) (body : Env → S) : Nat → Env → S
  | 0, _ => bad
  | n + 1, σ => ev (c σ) σ fun d => ite d (turn (body σ) (whileS c body n)) (done .nx σ)
end S
def setAt (xs : List D) (i : Int) (v : D) : Option (List D) := (ixPos xs.length i).map fun j => xs.set j v
/-- x[k] = v for what x stands for -/
def putMO (b : Bool) (k v : D) : MO → Option MO
  | .lst xs => (match k with
    | .int i => (setAt xs i v).map .lst
    | _ => none)
  | .dct tk kvs => if keyTk tk k && ((b || !tk) && decide (kvs.length < sizeLine)) then some (.dct tk (putD k v kvs)) else none
  | _ => none
def moOf : D → Option MO
  | .lst xs => some (.lst xs)
  | .dct tk kvs => some (.dct tk kvs)
  | _ => none
def ofMO : MO → D
  | .lst xs => .lst xs
  | .dct tk kvs => .dct tk kvs
  | _ => .non
/-- the name stands for a list -/
def lstAt (σ : Env) (i : Nat) (h : Hs) : Bool := match σ[i]? with
  | some (.own (.lst _)) => true
  | some (.val (.obj n)) => (match h[n]? with
    | some (.lst _) => true
    | _ => false)
  | _ => false
/-- the name stands for something that is turned -/
def hasAt (σ : Env) (i : Nat) : Bool := match σ[i]? with
  | some (.own _) => true
  | some (.val (.obj _)) => true
  | _ => false
def S.chk (c : Hs → Bool) (m : S) : S := fun h => match c h with
  | true => m h
  | false => .bad
/-- name = a new list, a new dict -/
def ownK (i : Nat) (σ : Env) : D → S := fun d => match moOf d with
  | some _ => S.done .nx (σ.set i (.own d))
  | none => S.bad
def ownOk : Bool → D → Bool
  | true, d => (moOf d).isSome
  | false, _ => true
def slotOf : Bool → D → Slot
  | true, d => .own d
  | false, d => .val d
/-- the object that slot i owns or names is turned by f -/
def turnS (σ : Env) (i : Nat) (f : MO → Option MO) : S := match σ[i]? with
  | some (.own d) => (match (moOf d).bind f with
    | some o => S.done .nx (σ.set i (.own (ofMO o)))
    | none => S.bad)
  | some (.val (.obj n)) => fun h => (match (h[n]?).bind f with
    | some o => .fl .nx σ (h.set n o)
    | none => .bad)
  | _ => S.bad
def appMO (v : D) : MO → Option MO
  | .lst xs => if decide (xs.length < sizeLine) then some (.lst (xs ++ [v])) else none
  | _ => none
def putF (f : Str) (v : D) : List (Str × D) → List (Str × D)
  | [] => [(f, v)]
  | (g, x) :: r => if g = f then (g, v) :: r else (g, x) :: putF f v r
def setFS (σ : Env) (o : D) (f : Str) (v : D) : S := fun h => match o with
  | .obj n => (match h[n]? with
    | some (.ins c fs) => if decide (fs.length < 100) then .fl .nx σ (h.set n (.ins c (putF f v fs))) else .bad
    | _ => .bad)
  | _ => .bad
/-- a fresh list or dict becomes an object -/
def allocD (own : Bool) (v : D) : R D := match own with
  | true => (match moOf v with
    | some o => allocR o
    | none => R.bad)
  | false => R.pure v
/-- what the table says of an exception class: the names of its fields, in the sequence of its parameters; which class is below which -/
structure XTab where
  fields : List (List Str)
  below : Nat → Nat → Bool
def XTab.made (X : XTab) (c : Nat) (vs : List D) : Option Ex := match X.fields[c]? with
  | some [] => some ⟨c, []⟩
  | some fs => if fs.length = vs.length then some ⟨c, fs.zip vs⟩ else none
  | none => none

section
variable (T : Tab) (X : XTab) (C : Call)
mutual
def run : NS → Env → S
  | .pass, σ => S.done .nx σ
  | .brk, σ => S.done .bk σ
  | .cont, σ => S.done .ct σ
  | .retN, σ => S.done (.rt .non) σ
  | .ret fr e, σ => S.ev (ev T C e (freeze σ fr) false) (freeze σ fr) fun d => S.done (.rt d) (freeze σ fr)
  | .asg fr t e, σ => S.ev (ev T C e (freeze σ fr) false) (freeze σ fr) fun d => S.ofOpt (bindT t d (freeze σ fr)) (S.done .nx)
  | .own fr i e, σ => S.ev (ev T C e (freeze σ fr) false) (freeze σ fr) (ownK i (freeze σ fr))
  | .par fr i j a b, σ => S.ev (ev T C a (freeze σ fr) false) (freeze σ fr) fun x => S.ev (ev T C b (freeze σ fr) false) (freeze σ fr) fun y => S.done .nx (((freeze σ fr).set i (.val x)).set j (.val y))
  | .par2 fr i oi j oj a b, σ => S.ev (ev T C a (freeze σ fr) false) (freeze σ fr) fun u => S.chk (fun _ => ownOk oi u) (S.ev (ev T C b (freeze σ fr) false) (freeze σ fr) fun v => S.chk (fun _ => ownOk oj v) (S.done .nx (((freeze σ fr).set i (slotOf oi u)).set j (slotOf oj v))))
  | .aug i op e, σ => S.ev (R.bind (R.ofOpt (getv σ i)) fun x => R.bind (ev T C e σ false) fun y => iopR op x y) σ fun d => S.done .nx (σ.set i (.val d))
  | .setI i k e, σ => S.chk (fun _ => hasAt σ i) (S.ev (ev T C e σ false) σ fun v => S.ev (ev T C k σ false) σ fun q => turnS σ i (putMO true q v))
  | .augI i k op e, σ => S.ev (ev T C k σ false) σ fun q => S.ev (R.bind (R.ofOpt (getc σ i)) fun o => ixR o q) σ fun x => S.ev (ev T C e σ false) σ fun y => S.ev (opR op x y) σ fun z => turnS σ i (putMO true q z)
  | .app fr i e, σ => S.chk (lstAt (freeze σ fr) i) (S.ev (ev T C e (freeze σ fr) false) (freeze σ fr) fun v => turnS (freeze σ fr) i (appMO v))
  | .setF fr o f own e, σ => S.ev (R.bind (ev T C e (freeze σ fr) false) (allocD own)) (freeze σ fr) fun v => S.ev (ev T C o (freeze σ fr) false) (freeze σ fr) fun q => setFS (freeze σ fr) q f v
  | .ife c a b, σ => S.ev (ev T C c σ true) σ fun d => S.ite d (runs a σ) (runs b σ)
  | .for_ fr t it body, σ => S.ev (evi T C it (freeze σ fr) false) (freeze σ fr) fun xs => S.forS (fun x σ1 => S.ofOpt (bindT t x σ1) fun σ2 => runs body σ2) xs (freeze σ fr)
  | .whl n c body, σ => S.whileS (fun σ1 => ev T C c σ1 true) (fun σ1 => runs body σ1) n σ
  | .expr e, σ => S.ev (ev T C e σ false) σ fun _ => S.done .nx σ
  | .raise c es, σ => S.ev (evs T C es σ) σ fun vs => match X.made c vs with
    | some e => fun h => .exc e σ h
    | none => S.bad
  | .try_ body hs, σ => fun h => match runs body σ h with
    | .exc e σ' h' => runh hs e σ' h'
    | o => o
def runs : NSs → Env → S
  | .nil, σ => S.done .nx σ
  | .cons s ss, σ => S.andThen (run s σ) fun σ' => runs ss σ'
def runh : NHs → Ex → Env → S
  | .nil, e, σ => fun h => .exc e σ h
  | .cons c nm suite hs, e, σ => match X.below e.cls c with
    | true => (match nm with
      | none => S.nox (runs suite σ)
      | some i => fun h => match runs suite (σ.set i (.exn e)) h with
        | .fl f σ' h' => .fl f (σ'.set i .no) h'
        | _ => .bad)
    | false => runh hs e σ
end
end

/-- a def: how many parameters, how many names, its body, its defaults -/
structure Fn where
  np : Nat
  n : Nat
  body : NSs
def startE (n : Nat) (vs : List D) : Env := vs.map .val ++ List.replicate (n - vs.length) .no
def callF (T : Tab) (X : XTab) (C : Call) (fn : Fn) (vs : List D) : R D := fun h => match runs T X C fn.body (startE fn.n vs) h with
  | .fl (.rt d) _ h' => .ok d h'
  | .fl .nx _ h' => .ok .non h'
  | .exc e _ h' => .exc e h'
  | _ => .bad
/-- the program: k calls deep -/
def callN (T : Tab) (X : XTab) (fns : List Fn) : Nat → Call
  | 0 => fun _ _ => R.bad
  | k + 1 => fun f vs => match fns[f]? with
    | some fn => R.need (vs.length == fn.np) (callF T X (callN T X fns k) fn vs)
    | none => R.bad
end Ny

set_option maxHeartbeats 200000
/-! Ny: how the model's abstract heap bears the evaluator's data. -/
namespace Ny
open PySem L2

/-- which object stands where -/
structure Rho where
  at_ : Nat → Option Addr
  /-- what was there before -/
  B : Addr → Prop
instance : CoeFun Rho fun _ => Nat → Option Addr := ⟨Rho.at_⟩
def Rho.has (ρ : Rho) (a : Addr) : Prop := ∃ n, ρ n = some a
/-- the forbidden places grow by the objects -/
def orR (F : Addr → Prop) (ρ : Rho) : Addr → Prop := fun a => F a ∨ ρ.has a

/-- a tuple at a that stays -/
def TupS (_K : PySem.W.Frag) (F : Addr → Prop) (H : Hp) (a : Addr) (vs : List V) : Prop := H a = some (.tup vs) ∧ ¬ F a
/-- a list at a that nobody turns any more; one of the caller's -/
def LstS (F : Addr → Prop) (H : Hp) (a : Addr) (vs : List V) : Prop := H a = some (.lst vs) ∧ ¬ F a
def RoS (K : PySem.W.Frag) (F : Addr → Prop) (H : Hp) (a : Addr) (vs : List V) : Prop :=
  (L2.Rd H a (.lst vs) ∧ ¬ F a) ∨ ∃ (o : Obj) (its : Array Value) (n : Nat), K.lookup a = some o ∧ o.cls = .type "list" ∧ o.dict = none ∧ o.data = .seq its n ∧ its.size ≤ sizeLine ∧ Vals vs its.toList
theorem TupS.sq {K F H a vs} (h : TupS K F H a vs) : SqT K H a vs := .inl (.inl h.1)
theorem LstS.sq {K F H a vs} (h : LstS F H a vs) : SqL K H a vs := .of h.1
theorem RoS.sq {K F H a vs} (h : RoS K F H a vs) : SqL K H a vs := h.elim (fun q => .inl q.1) .inr

/-- a constant tuple of the module -/
def KTup (K : PySem.W.Frag) (a : Addr) (vs : List V) : Prop := ∃ (o : Obj) (its : Array Value) (n : Nat), K.lookup a = some o ∧ o.cls = .type "tuple" ∧ o.data = .seq its n ∧ its.size ≤ sizeLine ∧ Vals vs its.toList
def kD : Key → D
  | .inl i => .int i
  | .inr x => .str x
mutual
inductive Rd (K : PySem.W.Frag) (ρ : Rho) (F : Addr → Prop) (H : Hp) : V → D → Prop
  | non : Rd K ρ F H .non .non
  | bl (b : Bool) : Rd K ρ F H (.bl b) (.bl b)
  | int (i : Int) : Rd K ρ F H (.int i) (.int i)
  | str (x : Str) : Rd K ρ F H (.str x) (.str x)
  | tup {a : Addr} {vs : List V} {xs : List D} : TupS K F H a vs → Rds K ρ F H vs xs → Rd K ρ F H (.ref a) (.tup xs)
  | lst {a : Addr} {vs : List V} {xs : List D} : LstS F H a vs → Rds K ρ F H vs xs → Rd K ρ F H (.ref a) (.lst xs)
  | ro {a : Addr} {vs : List V} {xs : List D} : RoS K F H a vs → Rds K ρ F H vs xs → Rd K ρ F H (.ref a) (.ro xs)
  | obj {n : Nat} {a : Addr} : ρ n = some a → Rd K ρ F H (.ref a) (.obj n)
  | dT {a : Addr} {ws : List (List Key × V)} {kvs : List (D × D)} : H a = some (.dT ws) → ¬ F a → PrT K ρ F H ws kvs → Rd K ρ F H (.ref a) (.dct true kvs)
  | dK {a : Addr} {ws : List (Key × V)} {kvs : List (D × D)} : H a = some (.dK ws) → ¬ F a → PrK K ρ F H ws kvs → Rd K ρ F H (.ref a) (.dct false kvs)
inductive Rds (K : PySem.W.Frag) (ρ : Rho) (F : Addr → Prop) (H : Hp) : List V → List D → Prop
  | nil : Rds K ρ F H [] []
  | cons {v : V} {vs : List V} {d : D} {ds : List D} : Rd K ρ F H v d → Rds K ρ F H vs ds → Rds K ρ F H (v :: vs) (d :: ds)
/-- the pairs of a dict with tuple keys -/
inductive PrT (K : PySem.W.Frag) (ρ : Rho) (F : Addr → Prop) (H : Hp) : List (List Key × V) → List (D × D) → Prop
  | nil : PrT K ρ F H [] []
  | cons {k : List Key} {v : V} {d : D} {r : List (List Key × V)} {rs : List (D × D)} : Rd K ρ F H v d → PrT K ρ F H r rs → PrT K ρ F H ((k, v) :: r) ((.tup (k.map kD), d) :: rs)
inductive PrK (K : PySem.W.Frag) (ρ : Rho) (F : Addr → Prop) (H : Hp) : List (Key × V) → List (D × D) → Prop
  | nil : PrK K ρ F H [] []
  | cons {k : Key} {v : V} {d : D} {r : List (Key × V)} {rs : List (D × D)} : Rd K ρ F H v d → PrK K ρ F H r rs → PrK K ρ F H ((k, v) :: r) ((kD k, d) :: rs)
end

/-- the heap behind, the objects behind: what is no object stays -/
structure Xt (ρ : Rho) (H : Hp) (ρ' : Rho) (H' : Hp) : Prop where
  rho : ∀ n a, ρ n = some a → ρ' n = some a
  bs : ρ'.B = ρ.B
  new : ∀ a, ρ'.has a → ρ.has a ∨ H a = none
  keep : ∀ a o, ¬ ρ.has a → H a = some o → H' a = some o
theorem Rho.has_mono {ρ ρ' : Rho} (h : ∀ n a, ρ n = some a → ρ' n = some a) {a : Addr} (q : ρ.has a) : ρ'.has a := let ⟨n, e⟩ := q; ⟨n, h n a e⟩
theorem Xt.refl (ρ : Rho) (H : Hp) : Xt ρ H ρ H := ⟨fun _ _ h => h, rfl, fun _ h => .inl h, fun _ _ _ h => h⟩
/-- what is tracked stays tracked: objects are never let go -/
theorem Xt.trans {ρ ρ1 ρ2 : Rho} {H H1 H2 : Hp} (x : Xt ρ H ρ1 H1) (y : Xt ρ1 H1 ρ2 H2) : Xt ρ H ρ2 H2 where
  rho := fun n a h => y.rho n a (x.rho n a h)
  bs := y.bs.trans x.bs
  new := fun a h => by
    rcases y.new a h with q | q
    · exact x.new a q
    · by_cases hr : ρ.has a
      · exact .inl hr
      · right
        cases e : H a with
        | none => rfl
        | some o => rw [x.keep a o hr e] at q; cases q
  keep := fun a o n h => by
    have h1 := x.keep a o n h
    refine y.keep a o (fun q => ?_) h1
    rcases x.new a q with z | z
    · exact n z
    · rw [h] at z; cases z

section
variable {K : PySem.W.Frag} {ρ ρ' ρ1 : Rho} {F F' : Addr → Prop} {H H' : Hp}
theorem TupS.mv {a : Addr} {vs : List V} (h : TupS K F H a vs) (hf : ∀ a, H a ≠ none → F' a → F a) (hk : ∀ a o, ¬ F a → H a = some o → H' a = some o) : TupS K F' H' a vs :=
  ⟨hk a _ h.2 h.1, fun z => h.2 (hf a (by rw [h.1]; simp) z)⟩
theorem LstS.mv {a : Addr} {vs : List V} (h : LstS F H a vs) (hf : ∀ a, H a ≠ none → F' a → F a) (hk : ∀ a o, ¬ F a → H a = some o → H' a = some o) : LstS F' H' a vs :=
  ⟨hk a _ h.2 h.1, fun z => h.2 (hf a (by rw [h.1]; simp) z)⟩
theorem RoS.mv {a : Addr} {vs : List V} (h : RoS K F H a vs) (hf : ∀ a, H a ≠ none → F' a → F a) (hk : ∀ a o, ¬ F a → H a = some o → H' a = some o) : RoS K F' H' a vs := by
  rcases h with ⟨r, n⟩ | q
  · left
    have hne : H a ≠ none := by
      rcases r with r | ⟨o, r⟩ <;> rw [r] <;> simp
    refine ⟨?_, fun z => n (hf a hne z)⟩
    rcases r with r | ⟨o, r⟩
    · exact .inl (hk a _ n r)
    · exact .inr ⟨o, hk a _ n r⟩
  · exact .inr q
mutual
theorem Rd.mv (hr : ∀ n a, ρ n = some a → ρ' n = some a) (hf : ∀ a, H a ≠ none → F' a → F a) (hk : ∀ a o, ¬ F a → H a = some o → H' a = some o) : ∀ {v : V} {d : D}, Rd K ρ F H v d → Rd K ρ' F' H' v d
  | _, _, .non => .non
  | _, _, .bl b => .bl b
  | _, _, .int i => .int i
  | _, _, .str x => .str x
  | _, _, .tup t r => .tup (t.mv hf hk) (Rds.mv hr hf hk r)
  | _, _, .lst t r => .lst (t.mv hf hk) (Rds.mv hr hf hk r)
  | _, _, .ro t r => .ro (t.mv hf hk) (Rds.mv hr hf hk r)
  | _, _, .obj e => .obj (hr _ _ e)
  | _, _, .dT e n r => .dT (hk _ _ n e) (fun z => n (hf _ (by rw [e]; simp) z)) (PrT.mv hr hf hk r)
  | _, _, .dK e n r => .dK (hk _ _ n e) (fun z => n (hf _ (by rw [e]; simp) z)) (PrK.mv hr hf hk r)
theorem Rds.mv (hr : ∀ n a, ρ n = some a → ρ' n = some a) (hf : ∀ a, H a ≠ none → F' a → F a) (hk : ∀ a o, ¬ F a → H a = some o → H' a = some o) : ∀ {vs : List V} {ds : List D}, Rds K ρ F H vs ds → Rds K ρ' F' H' vs ds
  | _, _, .nil => .nil
  | _, _, .cons h t => .cons (Rd.mv hr hf hk h) (Rds.mv hr hf hk t)
theorem PrT.mv (hr : ∀ n a, ρ n = some a → ρ' n = some a) (hf : ∀ a, H a ≠ none → F' a → F a) (hk : ∀ a o, ¬ F a → H a = some o → H' a = some o) : ∀ {ws : List (List Key × V)} {kvs : List (D × D)}, PrT K ρ F H ws kvs → PrT K ρ' F' H' ws kvs
  | _, _, .nil => .nil
  | _, _, .cons r t => .cons (Rd.mv hr hf hk r) (PrT.mv hr hf hk t)
theorem PrK.mv (hr : ∀ n a, ρ n = some a → ρ' n = some a) (hf : ∀ a, H a ≠ none → F' a → F a) (hk : ∀ a o, ¬ F a → H a = some o → H' a = some o) : ∀ {ws : List (Key × V)} {kvs : List (D × D)}, PrK K ρ F H ws kvs → PrK K ρ' F' H' ws kvs
  | _, _, .nil => .nil
  | _, _, .cons r t => .cons (Rd.mv hr hf hk r) (PrK.mv hr hf hk t)
end
theorem Rds.length : ∀ {vs : List V} {ds : List D}, Rds K ρ F H vs ds → vs.length = ds.length
  | _, _, .nil => rfl
  | _, _, .cons _ t => by rw [List.length_cons, List.length_cons, Rds.length t]
theorem Rds.append : ∀ {vs us : List V} {ds es : List D}, Rds K ρ F H vs ds → Rds K ρ F H us es → Rds K ρ F H (vs ++ us) (ds ++ es)
  | _, _, _, _, .nil, q => q
  | _, _, _, _, .cons h t, q => .cons h (Rds.append t q)
theorem Rds.get : ∀ {vs : List V} {ds : List D} {i : Nat} {d : D}, Rds K ρ F H vs ds → ds[i]? = some d → ∃ v, vs[i]? = some v ∧ Rd K ρ F H v d
  | _, _, _, _, .nil, h => by simp at h
  | _, _, 0, _, .cons r _, h => by
    rw [List.getElem?_cons_zero] at h
    cases h
    exact ⟨_, List.getElem?_cons_zero, r⟩
  | _, _, i + 1, _, .cons _ t, h => by
    rw [List.getElem?_cons_succ] at h
    obtain ⟨v, h1, h2⟩ := Rds.get t h
    exact ⟨v, by rw [List.getElem?_cons_succ]; exact h1, h2⟩
theorem Rds.getV : ∀ {vs : List V} {ds : List D} {i : Nat} {v : V}, Rds K ρ F H vs ds → vs[i]? = some v → ∃ d, ds[i]? = some d ∧ Rd K ρ F H v d
  | _, _, _, _, .nil, h => by simp at h
  | _, _, 0, _, .cons r _, h => by
    rw [List.getElem?_cons_zero] at h
    cases h
    exact ⟨_, List.getElem?_cons_zero, r⟩
  | _, _, i + 1, _, .cons _ t, h => by
    rw [List.getElem?_cons_succ] at h
    obtain ⟨v, h1, h2⟩ := Rds.getV t h
    exact ⟨v, by rw [List.getElem?_cons_succ]; exact h1, h2⟩
theorem Rds.take : ∀ (n : Nat) {vs : List V} {ds : List D}, Rds K ρ F H vs ds → Rds K ρ F H (vs.take n) (ds.take n)
  | 0, _, _, _ => .nil
  | _ + 1, _, _, .nil => .nil
  | n + 1, _, _, .cons h t => .cons h (Rds.take n t)
theorem Rds.drop : ∀ (n : Nat) {vs : List V} {ds : List D}, Rds K ρ F H vs ds → Rds K ρ F H (vs.drop n) (ds.drop n)
  | 0, _, _, h => h
  | _ + 1, _, _, .nil => .nil
  | n + 1, _, _, .cons _ t => Rds.drop n t
theorem Rds.set : ∀ (n : Nat) {vs : List V} {ds : List D} {v : V} {d : D}, Rds K ρ F H vs ds → Rd K ρ F H v d → Rds K ρ F H (vs.set n v) (ds.set n d)
  | _, _, _, _, _, .nil, _ => .nil
  | 0, _, _, _, _, .cons _ t, r => .cons r t
  | n + 1, _, _, _, _, .cons h t, r => .cons h (Rds.set n t r)
theorem Rds.one {v : V} {d : D} (h : Rd K ρ F H v d) : Rds K ρ F H [v] [d] := .cons h .nil

/-- what a mutable object is -/
def MOk (K : PySem.W.Frag) (ρ : Rho) (F : Addr → Prop) (H : Hp) (a : Addr) : MO → Prop
  | .lst xs => ∃ vs, H a = some (.lst vs) ∧ Rds K ρ F H vs xs
  | .dct _ _ => False
  | .ins _ _ => False
/-- the world: the objects where ρ says, and all of them forbidden -/
structure Wd (K : PySem.W.Frag) (ρ : Rho) (F : Addr → Prop) (H : Hp) (h : Hs) : Prop where
  fin : ∀ n, h.length ≤ n → ρ n = none
  inj : ∀ m n a, ρ m = some a → ρ n = some a → m = n
  obj : ∀ n o, h[n]? = some o → ∃ a, ρ n = some a ∧ MOk K ρ F H a o
  sub : ∀ a, ρ.has a → F a
  trk : ∀ a, F a → H a ≠ none
  bs : ∀ a, ρ.B a → H a ≠ none
  nt : ∀ a vs, F a → H a ≠ some (.tup vs)
end

/-- a list, a dict of the frame's own, at a -/
def OwnC (K : PySem.W.Frag) (ρ : Rho) (F : Addr → Prop) (H : Hp) (a : Addr) : D → Prop
  | .lst xs => ∃ vs, H a = some (.lst vs) ∧ Rds K ρ F H vs xs
  | .dct true kvs => ∃ ws, H a = some (.dT ws) ∧ PrT K ρ F H ws kvs
  | .dct false kvs => ∃ ws, H a = some (.dK ws) ∧ PrK K ρ F H ws kvs
  | _ => False
section
variable {K : PySem.W.Frag} {ρ ρ' : Rho} {F F' : Addr → Prop} {H H' : Hp}
theorem OwnC.mv {a : Addr} {d : D} (x : OwnC K ρ F H a d) (hr : ∀ n a, ρ n = some a → ρ' n = some a) (hf : ∀ a, H a ≠ none → F' a → F a) (hk : ∀ a o, ¬ F a → H a = some o → H' a = some o) (ha : ∀ o, H a = some o → H' a = some o) : OwnC K ρ' F' H' a d := by
  cases d with
  | lst xs => obtain ⟨vs, e, r⟩ := x; exact ⟨vs, ha _ e, r.mv hr hf hk⟩
  | dct tk kvs =>
    cases tk with
    | true => obtain ⟨vs, e, r⟩ := x; exact ⟨vs, ha _ e, r.mv hr hf hk⟩
    | false => obtain ⟨vs, e, r⟩ := x; exact ⟨vs, ha _ e, r.mv hr hf hk⟩
  | _ => exact x.elim
theorem OwnC.some {a : Addr} {d : D} (x : OwnC K ρ F H a d) : H a ≠ none := by
  cases d with
  | lst xs => obtain ⟨vs, e, r⟩ := x; rw [e]; simp
  | dct tk kvs =>
    cases tk with
    | true => obtain ⟨vs, e, r⟩ := x; rw [e]; simp
    | false => obtain ⟨vs, e, r⟩ := x; rw [e]; simp
  | _ => exact x.elim
end
/-- a value that is only looked at: a list of the frame's own, too -/
inductive RdC (K : PySem.W.Frag) (ρ : Rho) (F : Addr → Prop) (H : Hp) : V → D → Prop
  | rd {v : V} {d : D} : Rd K ρ F H v d → RdC K ρ F H v d
  | own {a : Addr} {d : D} : ¬ ρ.has a → OwnC K ρ F H a d → RdC K ρ F H (.ref a) d
/-- a new list: nobody else knows it -/
inductive RdF (K : PySem.W.Frag) (ρ : Rho) (F : Addr → Prop) (H : Hp) : V → D → Prop
  | own {a : Addr} {d : D} : ¬ F a → OwnC K ρ (fun b => F b ∨ b = a) H a d → RdF K ρ F H (.ref a) d
theorem RdF.lst {K : PySem.W.Frag} {ρ : Rho} {F : Addr → Prop} {H : Hp} {a : Addr} {vs : List V} {xs : List D} (e : H a = some (.lst vs)) (n : ¬ F a) (r : Rds K ρ (fun b => F b ∨ b = a) H vs xs) : RdF K ρ F H (.ref a) (.lst xs) := .own n ⟨vs, e, r⟩
inductive RdCs (K : PySem.W.Frag) (ρ : Rho) (F : Addr → Prop) (H : Hp) : List V → List D → Prop
  | nil : RdCs K ρ F H [] []
  | cons {v : V} {vs : List V} {d : D} {ds : List D} : RdC K ρ F H v d → RdCs K ρ F H vs ds → RdCs K ρ F H (v :: vs) (d :: ds)

section
variable {K : PySem.W.Frag} {ρ ρ' ρ1 : Rho} {F F' : Addr → Prop} {H H' : Hp}
/-- fewer are forbidden -/
theorem Rd.less (h : ∀ a, F' a → F a) {v : V} {d : D} (r : Rd K ρ F H v d) : Rd K ρ F' H v d := r.mv (fun _ _ e => e) (fun a _ q => h a q) fun _ _ _ e => e
theorem Rds.less (h : ∀ a, F' a → F a) {v : List V} {d : List D} (r : Rds K ρ F H v d) : Rds K ρ F' H v d := r.mv (fun _ _ e => e) (fun a _ q => h a q) fun _ _ _ e => e
/-- more are forbidden, new places -/
theorem Rd.more (h : ∀ a, H a ≠ none → F' a → F a) {v : V} {d : D} (r : Rd K ρ F H v d) : Rd K ρ F' H v d := r.mv (fun _ _ e => e) h fun _ _ _ e => e
theorem Rds.more (h : ∀ a, H a ≠ none → F' a → F a) {v : List V} {d : List D} (r : Rds K ρ F H v d) : Rds K ρ F' H v d := r.mv (fun _ _ e => e) h fun _ _ _ e => e
/-- what is a frame's own, given away -/
theorem own_rd {a : Addr} {d : D} (c : OwnC K ρ F H a d) (hf : ∀ b, F' b → F b) (n : ¬ F' a) : Rd K ρ F' H (.ref a) d := by
  cases d with
  | lst xs => obtain ⟨vs, e, r⟩ := c; exact .lst ⟨e, n⟩ (r.less hf)
  | dct tk kvs =>
    cases tk with
    | true => obtain ⟨ws, e, r⟩ := c; exact .dT e n (r.mv (fun _ _ e => e) (fun b _ q => hf b q) fun _ _ _ e => e)
    | false => obtain ⟨ws, e, r⟩ := c; exact .dK e n (r.mv (fun _ _ e => e) (fun b _ q => hf b q) fun _ _ _ e => e)
  | _ => exact c.elim
theorem RdF.rd {v : V} {d : D} (r : RdF K ρ F H v d) : Rd K ρ F H v d := by
  cases r with
  | own n c => exact own_rd c (fun _ q => .inl q) n

/-- behind a stretch: F grows by the objects -/
theorem orR_of (x : Xt ρ H ρ' H') (hs : ∀ a, ρ.has a → F a) : ∀ a, H a ≠ none → orR F ρ' a → F a := fun a n q => by
  rcases q with q | q
  · exact q
  · rcases x.new a q with z | z
    · exact hs a z
    · exact absurd z n
theorem Rd.xt (x : Xt ρ H ρ' H') (hs : ∀ a, ρ.has a → F a) {v : V} {d : D} (r : Rd K ρ F H v d) : Rd K ρ' (orR F ρ') H' v d :=
  r.mv x.rho (orR_of x hs) fun a o n e => x.keep a o (fun q => n (hs a q)) e
theorem Rds.xt (x : Xt ρ H ρ' H') (hs : ∀ a, ρ.has a → F a) {v : List V} {d : List D} (r : Rds K ρ F H v d) : Rds K ρ' (orR F ρ') H' v d :=
  r.mv x.rho (orR_of x hs) fun a o n e => x.keep a o (fun q => n (hs a q)) e
theorem RdC.xt (x : Xt ρ H ρ' H') (hs : ∀ a, ρ.has a → F a) {v : V} {d : D} (r : RdC K ρ F H v d) : RdC K ρ' (orR F ρ') H' v d := by
  cases r with
  | rd r => exact .rd (r.xt x hs)
  | own n c => exact .own (fun q => (x.new _ q).elim n fun z => absurd z c.some) (c.mv x.rho (orR_of x hs) (fun a o n e => x.keep a o (fun q => n (hs a q)) e) fun o e => x.keep _ _ n e)
theorem RdCs.xt (x : Xt ρ H ρ' H') (hs : ∀ a, ρ.has a → F a) : ∀ {v : List V} {d : List D}, RdCs K ρ F H v d → RdCs K ρ' (orR F ρ') H' v d
  | _, _, .nil => .nil
  | _, _, .cons r t => .cons (r.xt x hs) (RdCs.xt x hs t)
theorem orR_orR (x : ∀ n a, ρ n = some a → ρ' n = some a) : orR (orR F ρ) ρ' = orR F ρ' := by
  funext a
  refine propext ⟨fun h => ?_, fun h => ?_⟩
  · rcases h with (h | h) | h
    · exact .inl h
    · exact .inr (Rho.has_mono x h)
    · exact .inr h
  · rcases h with h | h
    · exact .inl (.inl h)
    · exact .inr h
theorem orR_self (hs : ∀ a, ρ.has a → F a) : orR F ρ = F := by
  funext a
  exact propext ⟨fun h => h.elim id (hs a), .inl⟩

/-- a list that is looked at -/
theorem RdC.lst_inv {v : V} {xs : List D} (r : RdC K ρ F H v (.lst xs)) : ∃ a vs, v = .ref a ∧ H a = some (.lst vs) ∧ Rds K ρ F H vs xs := by
  cases r with
  | rd r => cases r with
    | lst t r => exact ⟨_, _, rfl, t.1, r⟩
  | own n c => obtain ⟨vs, e, r⟩ := c; exact ⟨_, _, rfl, e, r⟩
theorem RdC.ro_inv {v : V} {xs : List D} (r : RdC K ρ F H v (.ro xs)) : ∃ a vs, v = .ref a ∧ SqL K H a vs ∧ Rds K ρ F H vs xs := by
  cases r with
  | rd r => cases r with
    | ro t r => exact ⟨_, _, rfl, t.sq, r⟩
  | own n c => exact c.elim
theorem RdC.tup_inv {v : V} {xs : List D} (r : RdC K ρ F H v (.tup xs)) : ∃ a vs, v = .ref a ∧ SqT K H a vs ∧ Rds K ρ F H vs xs := by
  cases r with
  | rd r => cases r with
    | tup t r => exact ⟨_, _, rfl, t.sq, r⟩
  | own n c => exact c.elim
theorem RdC.int_inv {v : V} {i : Int} (r : RdC K ρ F H v (.int i)) : v = .int i := by
  cases r with
  | rd r => cases r; rfl
  | own n c => exact c.elim
theorem RdC.str_inv {v : V} {x : Str} (r : RdC K ρ F H v (.str x)) : v = .str x := by
  cases r with
  | rd r => cases r; rfl
  | own n c => exact c.elim
theorem RdC.bl_inv {v : V} {b : Bool} (r : RdC K ρ F H v (.bl b)) : v = .bl b := by
  cases r with
  | rd r => cases r; rfl
  | own n c => exact c.elim
theorem RdC.non_inv {v : V} (r : RdC K ρ F H v .non) : v = .non := by
  cases r with
  | rd r => cases r; rfl
  | own n c => exact c.elim
theorem RdC.dct_inv {v : V} {tk : Bool} {kvs : List (D × D)} (r : RdC K ρ F H v (.dct tk kvs)) : ∃ a, v = .ref a ∧ OwnC K ρ F H a (.dct tk kvs) := by
  cases r with
  | rd r => cases r with
    | dT e n p => exact ⟨_, rfl, _, e, p⟩
    | dK e n p => exact ⟨_, rfl, _, e, p⟩
  | own n c => exact ⟨_, rfl, c⟩
theorem RdC.obj_inv {v : V} {n : Nat} (r : RdC K ρ F H v (.obj n)) : ∃ a, v = .ref a ∧ ρ n = some a := by
  cases r with
  | rd r => cases r with
    | obj e => exact ⟨_, rfl, e⟩
  | own n c => exact c.elim
end

/-! ### what is wanted behind a piece of code -/
/-- an exception: its class, its fields -/
structure XEnv where
  /-- the class at place c of the table -/
  at_ : Nat → Option Addr
def ExR (K : PySem.W.Frag) (XA : Nat → Option Addr) (ρ : Rho) (F : Addr → Prop) (H : Hp) (e : Ex) (cls : Value) (dd : Option Addr) : Prop :=
  ∃ C, XA e.cls = some C ∧ cls = .ref C ∧ (match e.fs with
    | [] => dd = none
    | _ :: _ => ∃ d vs, dd = some d ∧ H d = some (.xd vs) ∧ ¬ F d ∧ vs.map (·.1) = e.fs.map (·.1) ∧ Rds K ρ F H (vs.map (·.2)) (e.fs.map (·.2)))
section
variable {K : PySem.W.Frag} {XA : Nat → Option Addr} {α β γ δ : Type}
/-- relations between the model's value and the evaluator's -/
abbrev RelT (β α : Type) := Rho → (Addr → Prop) → Hp → Hs → β → α → Prop
/-- a relation that the objects are nothing to -/
abbrev lf (R : Rho → (Addr → Prop) → Hp → β → α → Prop) : RelT β α := fun ρ F H _ b a => R ρ F H b a
def Po (K : PySem.W.Frag) (XA : Nat → Option Addr) (W : XK) (ρ : Rho) (F : Addr → Prop) (H : Hp) (o : Out α) (Rel : RelT β α) (Q : β → Hp → Prop) : Prop := match o with
  | .ok a h => ∀ b ρ' H', Xt ρ H ρ' H' → Wd K ρ' (orR F ρ') H' h → Rel ρ' (orR F ρ') H' h b a → Q b H'
  | .exc e h => ∀ cls dd ρ' H', Xt ρ H ρ' H' → Wd K ρ' (orR F ρ') H' h → ExR K XA ρ' (orR F ρ') H' e cls dd → W cls dd H'
  | .bad => False
theorem Po.mono {W : XK} {ρ : Rho} {F : Addr → Prop} {H : Hp} {o : Out α} {Rel Rel' : RelT β α} {Q Q' : β → Hp → Prop} (h : Po K XA W ρ F H o Rel Q)
    (hr : ∀ ρ' F' H' h' b a, Rel' ρ' F' H' h' b a → Rel ρ' F' H' h' b a) (hq : ∀ b H, Q b H → Q' b H) : Po K XA W ρ F H o Rel' Q' := by
  cases o with
  | ok a h' => exact fun b ρ' H' x w r => hq b H' (h b ρ' H' x w (hr _ _ _ _ _ _ r))
  | exc e h' => exact h
  | bad => exact h
theorem Po.bind {W : XK} {ρ : Rho} {F : Addr → Prop} {H : Hp} {hs : Hs} {m : R α} {f : α → R γ} {Rel1 : RelT β α} {Rel2 : RelT δ γ} {Q : δ → Hp → Prop}
    (h : Po K XA W ρ F H (R.bind m f hs) Rel2 Q) :
    Po K XA W ρ F H (m hs) Rel1 fun b H1 => ∃ ρ1 h1 a, Xt ρ H ρ1 H1 ∧ Wd K ρ1 (orR F ρ1) H1 h1 ∧ Rel1 ρ1 (orR F ρ1) H1 h1 b a ∧ Po K XA W ρ1 (orR F ρ1) H1 (f a h1) Rel2 Q := by
  unfold R.bind at h
  cases e : m hs with
  | ok a h1 =>
    rw [e] at h
    intro b ρ1 H1 x w r
    refine ⟨ρ1, h1, a, x, w, r, ?_⟩
    have h : Po K XA W ρ F H (f a h1) Rel2 Q := h
    cases e2 : f a h1 with
    | ok c h2 =>
      rw [e2] at h
      intro d ρ2 H2 y w2 r2
      have eo : orR (orR F ρ1) ρ2 = orR F ρ2 := orR_orR y.rho
      rw [eo] at w2 r2
      exact h d ρ2 H2 (x.trans y) w2 r2
    | exc ex h2 =>
      rw [e2] at h
      intro cls dd ρ2 H2 y w2 r2
      have eo : orR (orR F ρ1) ρ2 = orR F ρ2 := orR_orR y.rho
      rw [eo] at w2 r2
      exact h cls dd ρ2 H2 (x.trans y) w2 r2
    | bad => rw [e2] at h; exact h
  | exc ex h1 => rw [e] at h; exact h
  | bad => rw [e] at h; exact h
/-- nothing is done: the value is there -/
theorem Po.now {W : XK} {ρ : Rho} {F : Addr → Prop} {H : Hp} {a : α} {hs : Hs} {Rel : RelT β α} {Q : β → Hp → Prop} {b : β} (h : Po K XA W ρ F H (R.pure a hs) Rel Q) (w : Wd K ρ F H hs) (r : Rel ρ F H hs b a) : Q b H := by
  have e : orR F ρ = F := orR_self w.sub
  exact h b ρ H (Xt.refl ρ H) (by rw [e]; exact w) (by rw [e]; exact r)
theorem Po.need {W : XK} {ρ : Rho} {F : Addr → Prop} {H : Hp} {c : Bool} {m : R α} {hs : Hs} {Rel : RelT β α} {Q : β → Hp → Prop} (h : Po K XA W ρ F H (R.need c m hs) Rel Q) : c = true ∧ Po K XA W ρ F H (m hs) Rel Q := by
  cases c with
  | true => exact ⟨rfl, h⟩
  | false => exact h.elim
theorem Po.opt {W : XK} {ρ : Rho} {F : Addr → Prop} {H : Hp} {o : Option α} {hs : Hs} {Rel : RelT β α} {Q : β → Hp → Prop} (h : Po K XA W ρ F H (R.ofOpt o hs) Rel Q) : ∃ a, o = some a ∧ Po K XA W ρ F H (R.pure a hs) Rel Q := by
  cases o with
  | some a => exact ⟨a, rfl, h⟩
  | none => exact h.elim
end

/-! ### the frame -/
def SlotR (K : PySem.W.Frag) (XA : Nat → Option Addr) (ρ : Rho) (F : Addr → Prop) (H : Hp) : Slot → Option V → Prop
  | .no, _ => True
  | .val d, some v => Rd K ρ F H v d
  | .own d, some v => ∃ a, v = .ref a ∧ F a ∧ ¬ ρ.has a ∧ OwnC K ρ F H a d
  | .exn _, _ => True
  | _, none => False
structure EnvR (K : PySem.W.Frag) (XA : Nat → Option Addr) (ρ : Rho) (F : Addr → Prop) (H : Hp) (E : Env) (σ : St) : Prop where
  len : E.length = σ.length
  at_ : ∀ (i : Nat) (s : Slot) (v : Option V), E[i]? = some s → σ[i]? = some v → SlotR K XA ρ F H s v
  inj : ∀ (i j : Nat) (d d' : D) (a : Addr), E[i]? = some (.own d) → E[j]? = some (.own d') → σ[i]? = some (some (.ref a)) → σ[j]? = some (some (.ref a)) → i = j
section
variable {K : PySem.W.Frag} {XA : Nat → Option Addr} {ρ ρ' : Rho} {F F' : Addr → Prop} {H H' : Hp} {E : Env} {σ : St}
theorem SlotR.xt (x : Xt ρ H ρ' H') (hs : ∀ a, ρ.has a → F a) {s : Slot} {v : Option V} (r : SlotR K XA ρ F H s v) : SlotR K XA ρ' (orR F ρ') H' s v := by
  cases s with
  | no => trivial
  | exn e => cases v <;> trivial
  | val d =>
    cases v with
    | none => exact r.elim
    | some v => exact Rd.xt x hs (show Rd K ρ F H v d from r)
  | own d =>
    cases v with
    | none => exact r.elim
    | some v =>
      obtain ⟨a, e1, f, n, c⟩ := r
      exact ⟨a, e1, .inl f, (fun z => (x.new _ z).elim n fun z => absurd z c.some), c.mv x.rho (orR_of x hs) (fun a o n e => x.keep a o (fun q => n (hs a q)) e) fun o e => x.keep _ _ n e⟩
theorem EnvR.xt (x : Xt ρ H ρ' H') (hs : ∀ a, ρ.has a → F a) (r : EnvR K XA ρ F H E σ) : EnvR K XA ρ' (orR F ρ') H' E σ :=
  ⟨r.len, fun i s v h1 h2 => (r.at_ i s v h1 h2).xt x hs, r.inj⟩
theorem EnvR.val (r : EnvR K XA ρ F H E σ) {i : Nat} {d : D} (h : getv E i = some d) : ∃ v, σ[i]? = some (some v) ∧ Rd K ρ F H v d := by
  unfold getv at h
  cases e : E[i]? with
  | none => rw [e] at h; cases h
  | some s =>
    rw [e] at h
    have hi : i < σ.length := by
      rw [← r.len]
      exact (List.getElem?_eq_some_iff.mp e).1
    have h2 : σ[i]? = some σ[i] := List.getElem?_eq_getElem hi
    have q := r.at_ i s _ e h2
    cases s with
    | val d' =>
      have h : some d' = some d := h
      cases h
      cases e3 : σ[i] with
      | none => rw [e3] at q; exact q.elim
      | some v => rw [e3] at q h2; exact ⟨v, h2, q⟩
    | no => cases h
    | own d' => cases h
    | exn e => cases h
theorem EnvR.cont (r : EnvR K XA ρ F H E σ) {i : Nat} {d : D} (h : getc E i = some d) : ∃ v, σ[i]? = some (some v) ∧ RdC K ρ F H v d := by
  unfold getc at h
  cases e : E[i]? with
  | none => rw [e] at h; cases h
  | some s =>
    rw [e] at h
    have hi : i < σ.length := by
      rw [← r.len]
      exact (List.getElem?_eq_some_iff.mp e).1
    have h2 : σ[i]? = some σ[i] := List.getElem?_eq_getElem hi
    have q := r.at_ i s _ e h2
    cases s with
    | val d' =>
      have h : some d' = some d := h
      cases h
      cases e3 : σ[i] with
      | none => rw [e3] at q; exact q.elim
      | some v => rw [e3] at q h2; exact ⟨v, h2, .rd q⟩
    | own d' =>
      have h : some d' = some d := h
      cases h
      cases e3 : σ[i] with
      | none => rw [e3] at q; exact q.elim
      | some v =>
        rw [e3] at q h2
        obtain ⟨a, e1, f, n, z⟩ := q
        subst e1
        exact ⟨_, h2, .own n z⟩
    | no => cases h
    | exn e => cases h
end
end Ny

set_option maxHeartbeats 1000000
/-! Ny: the operators, by values. -/
namespace Ny
open PySem PySem.Spec PyProof.Rows L2 PySem.SeqAt

/-! ### new things -/
section
variable {K : PySem.W.Frag} {XA : Nat → Option Addr} {ρ : Rho} {F : Addr → Prop} {H : Hp} {h : Hs} {p : Addr} {o : HO}
theorem xt_new (h0 : H p = none) : Xt ρ H ρ (upd H p o) := ⟨fun _ _ e => e, rfl, fun _ q => .inl q, fun a o' _ e => by
  rw [upd_ne (fun z => by rw [z, h0] at e; cases e)]
  exact e⟩
theorem not_F {w : Wd K ρ F H h} (h0 : H p = none) : ¬ F p := fun f => w.trk p f h0
theorem MOk.mv {ρ' : Rho} {F' : Addr → Prop} {H' : Hp} {a : Addr} {m : MO} (x : MOk K ρ F H a m) (hr : ∀ n a, ρ n = some a → ρ' n = some a) (hf : ∀ a, H a ≠ none → F' a → F a) (hk : ∀ a o, ¬ F a → H a = some o → H' a = some o) (ha : ∀ o, H a = some o → H' a = some o) : MOk K ρ' F' H' a m := by
  cases m with
  | lst xs =>
    obtain ⟨vs, e, r⟩ := x
    exact ⟨vs, ha _ e, r.mv hr hf hk⟩
  | dct _ _ => exact x
  | ins _ _ => exact x
theorem live_new {a : Addr} (e : H a ≠ none) : upd H p o a ≠ none := by
  by_cases z : a = p
  · rw [z, upd_same]; simp
  · rw [upd_ne z]; exact e
theorem Wd.upd_new (w : Wd K ρ F H h) (h0 : H p = none) : Wd K ρ F (upd H p o) h := by
  have kp : ∀ a o', H a = some o' → upd H p o a = some o' := fun a o' e => by
    rw [upd_ne (fun z => by rw [z, h0] at e; cases e)]
    exact e
  refine ⟨w.fin, w.inj, fun n m e => ?_, w.sub, fun a f => ?_, fun a f => live_new (w.bs a f), fun a vs f => (by rw [upd_ne (fun z => w.trk a f (by rw [z]; exact h0))]; exact w.nt a vs f)⟩
  · obtain ⟨a, ea, mo⟩ := w.obj n m e
    exact ⟨a, ea, mo.mv (fun _ _ e => e) (fun a _ q => q) (fun a o _ e => kp a o e) (fun o e => kp a o e)⟩
  · have := w.trk a f
    cases e : H a with
    | none => exact absurd e this
    | some o' => rw [kp a o' e]; simp
theorem Rds.upd_new {ρ : Rho} {F : Addr → Prop} {vs : List V} {ds : List D} (r : Rds K ρ F H vs ds) (h0 : H p = none) : Rds K ρ (fun b => F b ∨ b = p) (upd H p o) vs ds :=
  r.mv (fun _ _ e => e) (fun a n q => q.elim id fun z => by rw [z] at n; exact absurd h0 n) fun a o' _ e => by
    rw [upd_ne (fun z => by rw [z, h0] at e; cases e)]
    exact e
/-- the result of an operation that makes lists: they are new, nobody knows them -/
inductive RdG (K : PySem.W.Frag) (ρ : Rho) (F : Addr → Prop) (H : Hp) (h : Hs) : V → D → Prop
  | old {v : V} {d : D} : moOf d = none → Rd K ρ F H v d → RdG K ρ F H h v d
  | new {a : Addr} {d : D} : RdF K ρ F H (.ref a) d → Wd K ρ (fun b => F b ∨ b = a) H h → ¬ ρ.B a → RdG K ρ F H h (.ref a) d
theorem RdG.rd {v : V} {d : D} (r : RdG K ρ F H h v d) : Rd K ρ F H v d := by
  cases r with
  | old _ r => exact r
  | new r => exact r.rd
/-- a new thing is forbidden at once -/
theorem Wd.new_in (w : Wd K ρ F H h) (h0 : H p = none) (ho : ∀ vs, o ≠ .tup vs) : Wd K ρ (fun b => F b ∨ b = p) (upd H p o) h := by
  have kp : ∀ a o', H a = some o' → upd H p o a = some o' := fun a o' e => by
    rw [upd_ne (fun z => by rw [z, h0] at e; cases e)]
    exact e
  refine ⟨w.fin, w.inj, fun n m e => ?_, fun a q => .inl (w.sub a q), fun a f => ?_, fun a f => live_new (w.bs a f), fun a vs f => ?_⟩
  · obtain ⟨a, ea, mo⟩ := w.obj n m e
    exact ⟨a, ea, mo.mv (fun _ _ e => e) (fun a n q => q.elim id fun z => by rw [z] at n; exact absurd h0 n) (fun a o _ e => kp a o e) (fun o e => kp a o e)⟩
  · rcases f with f | f
    · have := w.trk a f
      cases e : H a with
      | none => exact absurd e this
      | some o' => rw [kp a o' e]; simp
    · rw [f, upd_same]; simp
  · rcases f with f | f
    · rw [upd_ne (fun z => w.trk a f (by rw [z]; exact h0))]
      exact w.nt a vs f
    · rw [f, upd_same]
      exact fun z => ho vs (Option.some.inj z)
variable {W : XK} {Q : VK} {vs : List V} {xs : List D}
theorem Po.newL (w : Wd K ρ F H h) (h0 : H p = none) (r : Rds K ρ F H vs xs) (po : Po K XA W ρ F H (R.pure (D.lst xs) h) (RdG K) Q) : Q (.ref p) (upd H p (.lst vs)) := by
  have e : orR F ρ = F := orR_self w.sub
  refine po (.ref p) ρ _ (xt_new h0) (by rw [e]; exact w.upd_new h0) ?_
  rw [e]
  exact .new (.lst upd_same (not_F (w := w) h0) (r.upd_new h0)) (w.new_in h0 fun _ z => (by cases z)) fun z => w.bs p z h0
theorem Po.newT (w : Wd K ρ F H h) (h0 : H p = none) (r : Rds K ρ F H vs xs) (po : Po K XA W ρ F H (R.pure (D.tup xs) h) (RdG K) Q) : Q (.ref p) (upd H p (.tup vs)) := by
  have e : orR F ρ = F := orR_self w.sub
  refine po (.ref p) ρ _ (xt_new h0) (by rw [e]; exact w.upd_new h0) ?_
  rw [e]
  exact .old rfl (.tup ⟨upd_same, not_F (w := w) h0⟩ ((r.upd_new h0).less fun _ q => .inl q))
theorem Po.val (w : Wd K ρ F H h) {d : D} {v : V} (hd : moOf d = none) (r : Rd K ρ F H v d) (po : Po K XA W ρ F H (R.pure d h) (RdG K) Q) : Q v H := po.now w (.old hd r)
theorem Po.int (w : Wd K ρ F H h) {i : Int} (po : Po K XA W ρ F H (R.pure (D.int i) h) (RdG K) Q) : Q (.int i) H := po.val w rfl (.int i)
theorem Po.str (w : Wd K ρ F H h) {i : Str} (po : Po K XA W ρ F H (R.pure (D.str i) h) (RdG K) Q) : Q (.str i) H := po.val w rfl (.str i)
end
theorem big_of {n : Nat} (h : big n = true) : n ≤ sizeLine := Nat.le_of_ble_eq_true h

/-! ### two-place operators -/
def rN (K : PySem.W.Frag) (XA : Nat → Option Addr) (g : D → D → R D) : R2 := fun x y H Q => ∃ W ρ F h d1 d2, Wd K ρ F H h ∧ RdC K ρ F H x d1 ∧ RdC K ρ F H y d2 ∧ Po K XA W ρ F H (g d1 d2 h) (RdG K) Q
def rNB (K : PySem.W.Frag) (XA : Nat → Option Addr) (g : D → D → R Bool) : R2 := fun x y H Q => ∃ W ρ F h d1 d2, Wd K ρ F H h ∧ RdC K ρ F H x d1 ∧ RdC K ρ F H y d2 ∧ Po K XA W ρ F H (g d1 d2 h) (fun _ _ _ _ b c => b = c) (fun c H' => Q (.bl c) H')
section
variable {X : Cx} {XA : Nat → Option Addr}
theorem small64_of {i : Int} (h : small64 i = true) : -(2 ^ 64) < i ∧ i < 2 ^ 64 := by
  unfold small64 at h
  simpa using h
theorem op_bin {op : Operator} : OpR X (binaryOp op) (rN X.K XA (opR op)) := by
  intro pins s σ H x y v u Q I rx ry h
  obtain ⟨W, ρ, F, hs, d1, d2, w, r1, r2, po⟩ := h
  unfold opR at po
  split at po
  · cases r1.int_inv; cases r2.int_inv
    exact op_add pins s σ H _ _ v u Q I rx ry ⟨_, _, rfl, rfl, po.int w⟩
  · cases r1.int_inv; cases r2.int_inv
    exact op_sub pins s σ H _ _ v u Q I rx ry ⟨_, _, rfl, rfl, po.int w⟩
  · cases r1.int_inv; cases r2.int_inv
    obtain ⟨c, po⟩ := po.need
    unfold mulOk at c
    simp only [Bool.or_eq_true, decide_eq_true_eq] at c
    rcases c with c | c | c
    · exact op_mul pins s σ H _ _ v u Q I rx ry ⟨_, _, rfl, rfl, .inl (small64_of c), po.int w⟩
    · exact op_mul pins s σ H _ _ v u Q I rx ry ⟨_, _, rfl, rfl, .inr (small64_of c), po.int w⟩
    · exact op_mulX pins s σ H _ _ v u Q I rx ry ⟨_, _, rfl, rfl, (by unfold CMulX; omega), po.int w⟩
  · cases r1.int_inv; cases r2.int_inv
    obtain ⟨c, po⟩ := po.need
    simp only [Bool.and_eq_true, decide_eq_true_eq] at c
    exact op_fdiv pins s σ H _ _ v u Q I rx ry ⟨_, _, rfl, rfl, c, po.int w⟩
  · cases r1.int_inv; cases r2.int_inv
    obtain ⟨c, po⟩ := po.need
    simp only [decide_eq_true_eq] at c
    exact op_mod pins s σ H _ _ v u Q I rx ry ⟨_, _, rfl, rfl, c, po.int w⟩
  · cases r1.int_inv; cases r2.int_inv
    obtain ⟨c, po⟩ := po.need
    simp only [Bool.and_eq_true, decide_eq_true_eq] at c
    exact op_pow pins s σ H _ _ v u Q I rx ry ⟨_, _, rfl, rfl, ⟨c.1, c.2.1, c.2.2⟩, po.int w⟩
  · cases r1.int_inv; cases r2.int_inv
    obtain ⟨c, po⟩ := po.need
    simp only [Bool.and_eq_true, decide_eq_true_eq] at c
    exact op_shl pins s σ H _ _ v u Q I rx ry ⟨_, _, rfl, rfl, ⟨c.1, c.2.1, c.2.2⟩, po.int w⟩
  · cases r1.int_inv; cases r2.int_inv
    obtain ⟨c, po⟩ := po.need
    simp only [decide_eq_true_eq] at c
    exact op_shr pins s σ H _ _ v u Q I rx ry ⟨_, _, rfl, rfl, c, po.int w⟩
  · cases r1.int_inv; cases r2.int_inv
    exact op_and pins s σ H _ _ v u Q I rx ry ⟨_, _, rfl, rfl, po.int w⟩
  · cases r1.int_inv; cases r2.int_inv
    exact op_or pins s σ H _ _ v u Q I rx ry ⟨_, _, rfl, rfl, po.int w⟩
  · cases r1.int_inv; cases r2.int_inv
    exact op_xor pins s σ H _ _ v u Q I rx ry ⟨_, _, rfl, rfl, po.int w⟩
  · cases r1.str_inv; cases r2.str_inv
    obtain ⟨c, po⟩ := po.need
    exact op_add_str pins s σ H _ _ v u Q I rx ry ⟨_, _, rfl, rfl, big_of c, po.str w⟩
  · obtain ⟨c, po⟩ := po.need
    obtain ⟨a, vs, rfl, sa, ra⟩ := r1.tup_inv
    obtain ⟨b, us, rfl, sb, rb⟩ := r2.tup_inv
    rename_i xs ys
    refine op_catA pins s σ H _ _ v u Q I rx ry ⟨a, b, vs, us, rfl, rfl, sa, sb, ?_, fun e => ?_, fun n e => ?_, fun n n2 p h0 => ?_⟩
    · rw [ra.length, rb.length]
      exact big_of c
    · subst e
      cases ra
      rw [List.nil_append] at po
      cases r2 with
      | rd r2 => exact po.val w rfl r2
      | own n c => exact c.elim
    · subst e
      cases rb
      rw [List.append_nil] at po
      cases r1 with
      | rd r1 => exact po.val w rfl r1
      | own n c => exact c.elim
    · exact po.newT w h0 (ra.append rb)
  · obtain ⟨c, po⟩ := po.need
    obtain ⟨a, vs, rfl, sa, ra⟩ := r1.lst_inv
    obtain ⟨b, us, rfl, sb, rb⟩ := r2.lst_inv
    exact op_cat pins s σ H _ _ v u Q I rx ry ⟨a, b, vs, us, rfl, rfl, sa, sb, by rw [ra.length, rb.length]; exact big_of c, fun p h0 => po.newL w h0 (ra.append rb)⟩
  · obtain ⟨c, po⟩ := po.need
    obtain ⟨a, vs, rfl, sa, ra⟩ := r1.lst_inv
    obtain ⟨b, us, rfl, sb, rb⟩ := r2.ro_inv
    have hz : vs.length + us.length ≤ sizeLine := by
      rw [ra.length, rb.length]
      exact big_of c
    cases rx
    cases ry
    obtain ⟨its, rv, ⟨⟨cls, dd, data, sl⟩, n, ho, hc, hd0, hd⟩, _⟩ := I.list (.of sa)
    obtain ⟨its2, rv2, ⟨⟨cls2, dd2, data2, sl2⟩, n2, ho2, hc2, hd02, hd2⟩, _⟩ := I.list sb
    simp only at hc hd hd0 hc2 hd2 hd02
    subst hc hd hd0 hc2 hd2 hd02
    have e : its.toArray ++ its2.toArray = (its ++ its2).toArray := by simp
    refine concat_meets ⟨_, ho, rfl⟩ ⟨_, ho2, rfl⟩ noFill_list_add seq_list_add PySem.F.slot_list_add PySem.F.entry_list_add (PySem.F.args_list_add_2 _ _) (list_addW a b its.toArray its2.toArray n n2 none none sl sl2 (by
      rw [List.size_toArray, List.size_toArray, ← rv.length, ← rv2.length]
      exact hz)) ⟨ho, ho2, ?_⟩
    rw [e]
    exact ⟨.ref _, _, I.lnew (t' := s.toks) (rv.append rv2) (by rw [List.length_append]; omega), rfl, po.newL w I.fresh (ra.append rb)⟩
  · cases r2.int_inv
    obtain ⟨c, po⟩ := po.need
    obtain ⟨a, vs, rfl, sa, ra⟩ := r1.lst_inv
    simp only [Bool.and_eq_true, decide_eq_true_eq] at c
    refine op_rep pins s σ H _ _ v u Q I rx ry ⟨a, _, vs, rfl, rfl, sa, c.1, c.2.1, by rw [ra.length]; exact big_of c.2.2, fun p h0 => ?_⟩
    refine po.newL w h0 ?_
    generalize Int.toNat _ = m
    induction m with
    | zero => exact .nil
    | succ m ih =>
      rw [List.replicate_succ, List.replicate_succ, List.flatten_cons, List.flatten_cons]
      exact ra.append ih
  · exact po.elim
end
end Ny

set_option maxHeartbeats 1000000
/-! Ny: == and < of data at any depth, in, is. -/
namespace Ny
open PySem PySem.Spec PyProof.Rows L2 PySem.SeqAt

theorem plainAll_get : ∀ {xs : List D} {i : Nat} {d : D}, plainAll xs = true → xs[i]? = some d → d.plain = true
  | [], _, _, _, h => by simp at h
  | x :: xs, 0, d, p, h => by
    rw [List.getElem?_cons_zero] at h
    cases h
    unfold plainAll at p
    exact (Bool.and_eq_true_iff.mp p).1
  | x :: xs, i + 1, d, p, h => by
    rw [List.getElem?_cons_succ] at h
    unfold plainAll at p
    exact plainAll_get (Bool.and_eq_true_iff.mp p).2 h
theorem depAll_get : ∀ {xs : List D} {i : Nat} {d : D}, xs[i]? = some d → d.dep ≤ depAll xs
  | [], _, _, h => by simp at h
  | x :: xs, 0, d, h => by
    rw [List.getElem?_cons_zero] at h
    cases h
    unfold depAll
    exact Nat.le_max_left _ _
  | x :: xs, i + 1, d, h => by
    rw [List.getElem?_cons_succ] at h
    unfold depAll
    exact Nat.le_trans (depAll_get h) (Nat.le_max_right _ _)
mutual
theorem eqD_refl : ∀ {d : D}, d.plain = true → eqD d d = true
  | .non, _ => by simp [eqD]
  | .bl b, _ => by simp [eqD]
  | .int i, _ => by simp [eqD]
  | .str x, _ => by simp [eqD]
  | .tup xs, h => by
    unfold D.plain at h
    unfold eqD
    exact eqAll_refl h
  | .lst xs, h => by
    unfold D.plain at h
    unfold eqD
    exact eqAll_refl h
  | .ro xs, h => by simp [D.plain] at h
  | .dct _ kvs, h => by simp [D.plain] at h
  | .obj n, h => by simp [D.plain] at h
theorem eqAll_refl : ∀ {xs : List D}, plainAll xs = true → eqAll xs xs = true
  | [], _ => by simp [eqAll]
  | x :: xs, h => by
    unfold plainAll at h
    obtain ⟨h1, h2⟩ := Bool.and_eq_true_iff.mp h
    unfold eqAll
    rw [eqD_refl h1, eqAll_refl h2]
    rfl
end
abbrev dAt (xs : List D) (j : Nat) : D := xs.getD j .non
theorem all_range_succ (f : Nat → Bool) (n : Nat) : (List.range (n + 1)).all f = (f 0 && (List.range n).all fun j => f (j + 1)) := by
  rw [List.range_succ_eq_map, List.all_cons, List.all_map]
  rfl
theorem eqAll_eq : ∀ xs ys : List D, ((List.range (min xs.length ys.length)).all (fun j => eqD (dAt xs j) (dAt ys j)) && xs.length == ys.length) = eqAll xs ys
  | [], [] => by simp [eqAll]
  | [], _ :: _ => by simp [eqAll]
  | _ :: _, [] => by simp [eqAll]
  | x :: xs, y :: ys => by
    have ih := eqAll_eq xs ys
    unfold eqAll
    rw [← ih, List.length_cons, List.length_cons, Nat.succ_min_succ, all_range_succ]
    show ((eqD x y && (List.range (min xs.length ys.length)).all fun j => eqD (dAt xs j) (dAt ys j)) && (xs.length + 1 == ys.length + 1)) = _
    rw [Bool.and_assoc]
    congr 2
    simp
theorem eqAll_len : ∀ {xs ys : List D}, xs.length ≠ ys.length → eqAll xs ys = false := fun {xs ys} h => by
  rw [← eqAll_eq, Bool.and_eq_false_iff]
  right
  simpa using h
theorem eqAll_same {xs ys : List D} (h : xs.length = ys.length) : (List.range xs.length).all (fun j => eqD (dAt xs j) (dAt ys j)) = eqAll xs ys := by
  rw [← eqAll_eq, ← h, Nat.min_self]
  simp
theorem getD_of {xs : List D} {j : Nat} {d : D} (h : xs[j]? = some d) : dAt xs j = d := by
  unfold dAt
  rw [List.getD_eq_getElem?_getD, h]
  rfl

section
variable {X : Cx} {pins : List (Addr × Obj)} {σ : L2.St} {H : Hp} {s : Shared} {ρ : Rho} {F F' : Addr → Prop} {W : XK}
theorem V_ref {a b : Addr} (h : V.ref a = V.ref b) : a = b := by cases h; rfl
mutual
theorem Rd.fun_ (I : Inv X pins σ H s) : ∀ {v : V} {d d' : D}, Rd X.K ρ F H v d → Rd X.K ρ F' H v d' → d.plain = true → d'.plain = true → d = d'
  | _, _, _, .non, h, _, _ => by cases h; rfl
  | _, _, _, .bl b, h, _, _ => by cases h; rfl
  | _, _, _, .int i, h, _, _ => by cases h; rfl
  | _, _, _, .str x, h, _, _ => by cases h; rfl
  | _, _, _, .tup t r, h, p, p' => by
    cases h with
    | tup t' r' =>
      have e := I.tuple_inj t.sq t'.sq
      subst e
      unfold D.plain at p p'
      rw [Rds.fun_ I r r' p p']
    | lst t' r' =>
      obtain ⟨_, _, h1, _⟩ := I.tuple t.sq
      obtain ⟨_, _, h2, _⟩ := I.list (.of t'.1)
      exact absurd rfl (ne_of_list_tuple h2.isList h1)
    | ro t' r' => simp [D.plain] at p'
    | obj e => simp [D.plain] at p'
    | dT _ _ _ => simp [D.plain] at p'
    | dK _ _ _ => simp [D.plain] at p'
  | _, _, _, .lst t r, h, p, p' => by
    cases h with
    | tup t' r' =>
      obtain ⟨_, _, h1, _⟩ := I.tuple t'.sq
      obtain ⟨_, _, h2, _⟩ := I.list (.of t.1)
      exact absurd rfl (ne_of_list_tuple h2.isList h1)
    | lst t' r' =>
      have e := I.list_inj (.of t.1) (.of t'.1)
      subst e
      unfold D.plain at p p'
      rw [Rds.fun_ I r r' p p']
    | ro t' r' => simp [D.plain] at p'
    | obj e => simp [D.plain] at p'
    | dT _ _ _ => simp [D.plain] at p'
    | dK _ _ _ => simp [D.plain] at p'
  | _, _, _, .ro t r, _, p, _ => by simp [D.plain] at p
  | _, _, _, .obj e, _, p, _ => by simp [D.plain] at p
  | _, _, _, .dT _ _ _, _, p, _ => by simp [D.plain] at p
  | _, _, _, .dK _ _ _, _, p, _ => by simp [D.plain] at p
theorem Rds.fun_ (I : Inv X pins σ H s) : ∀ {v : List V} {d d' : List D}, Rds X.K ρ F H v d → Rds X.K ρ F' H v d' → plainAll d = true → plainAll d' = true → d = d'
  | _, _, _, .nil, h, _, _ => by cases h; rfl
  | _, _, _, .cons r t, h, p, p' => by
    cases h with
    | cons r' t' =>
      unfold plainAll at p p'
      rw [Rd.fun_ I r r' (Bool.and_eq_true_iff.mp p).1 (Bool.and_eq_true_iff.mp p').1, Rds.fun_ I t t' (Bool.and_eq_true_iff.mp p).2 (Bool.and_eq_true_iff.mp p').2]
end
/-- the items of two such sequences, place by place -/
def Pw (A : Around) (s : Shared) (us ws : List Value) (xs ys : List D) : Prop := ∀ j u w, us[j]? = some u → ws[j]? = some w → EqAt A s u w (eqD (dAt xs j) (dAt ys j))
theorem rc_seq_tup {A : Around} {l b : Addr} {its its2 : List Value} {xs ys : List D} (hl : s.heap.IsTuple l its.toArray) (hb : s.heap.IsTuple b its2.toArray) (h1 : its.length = xs.length) (h2 : its2.length = ys.length) (hu : A.units < cLine)
    (h : Pw A.in1 s its its2 xs ys) : RcAt A s (.ref l) (.ref b) (eqAll xs ys) := by
  have q := RcAt.tuples (e := fun j => eqD (dAt xs j) (dAt ys j)) hl hb hu fun j g1 g2 => by
    refine h j _ _ ?_ ?_
    · rw [List.getElem?_eq_getElem (by simpa using g1)]
      simp
    · rw [List.getElem?_eq_getElem (by simpa using g2)]
      simp
  rw [← eqAll_eq]
  simpa [h1, h2] using q
theorem rc_seq_lst {A : Around} {l b : Addr} {its its2 : List Value} {xs ys : List D} (hl : s.heap.IsList l its.toArray) (hb : s.heap.IsList b its2.toArray) (h1 : its.length = xs.length) (h2 : its2.length = ys.length) (hu : A.units < cLine)
    (h : Pw A.in1 s its its2 xs ys) : RcAt A s (.ref l) (.ref b) (eqAll xs ys) := by
  by_cases e : xs.length = ys.length
  · have q := RcAt.lists (e := fun j => eqD (dAt xs j) (dAt ys j)) hl hb (by simp [h1, h2, e]) hu fun j g1 g2 => by
      refine h j _ _ ?_ ?_
      · rw [List.getElem?_eq_getElem (by simpa using g1)]
        simp
      · rw [List.getElem?_eq_getElem (by simpa using g2)]
        simp
    rw [← eqAll_same e]
    simpa [h1] using q
  · rw [eqAll_len e]
    exact RcAt.lists_lengths hl hb (by simp [h1, h2, e]) hu
theorem min_dep {x y : D} {xs ys : List D} {i j : Nat} (h1 : xs[i]? = some x) (h2 : ys[j]? = some y) {A : Around} (hu : A.units + min (depAll xs + 1) (depAll ys + 1) < cLine) : A.in1.units + min x.dep y.dep < cLine := by
  have a := depAll_get h1
  have b := depAll_get h2
  have e : A.in1.units = A.units + 1 := rfl
  rw [e]
  omega
mutual
theorem rc_of (I : Inv X pins σ H s) : ∀ {v1 : V} {d1 : D}, Rd X.K ρ F H v1 d1 → ∀ {A : Around} {v2 : V} {d2 : D} {u1 u2 : Value}, Rd X.K ρ F H v2 d2 → RelV v1 u1 → RelV v2 u2 → d1.plain = true → d2.plain = true →
    A.units + min d1.dep d2.dep < cLine → RcAt A s u1 u2 (eqD d1 d2) ∧ EqAt A s u1 u2 (eqD d1 d2)
  | _, _, .non, A, _, _, _, _, h, r1, r2, p1, p2, hu => by
    cases r1
    cases h with
    | non => cases r2; simp only [eqD]; exact ⟨.none_none, .same _⟩
    | bl b => cases r2; simp only [eqD]; exact ⟨.none_bool b, .none_bool b⟩
    | int i => obtain ⟨t, rfl⟩ := r2; simp only [eqD]; exact ⟨.none_int _ _, .none_int _ _⟩
    | str x => obtain ⟨t, rfl⟩ := r2; simp only [eqD]; exact ⟨.none_str _ _, .none_str _ _⟩
    | tup t r => cases r2; obtain ⟨_, _, h1, _⟩ := I.tuple t.sq; simp only [eqD]; exact ⟨.none_tuple h1 (by omega), .none_tuple h1 (by omega)⟩
    | lst t r => cases r2; obtain ⟨_, _, h1, _⟩ := I.list (.of t.1); simp only [eqD]; exact ⟨.none_list h1.isList (by omega), .none_list h1.isList (by omega)⟩
    | ro t r => simp [D.plain] at p2
    | obj e => simp [D.plain] at p2
    | dT _ _ _ => simp [D.plain] at p2
    | dK _ _ _ => simp [D.plain] at p2
  | _, _, .bl b, A, _, _, _, _, h, r1, r2, p1, p2, hu => by
    cases r1
    cases h with
    | non => cases r2; simp only [eqD]; exact ⟨.bool_none b, .bool_none b⟩
    | bl c => cases r2; simp only [eqD]; exact ⟨.bool_bool b c, .bool_bool b c⟩
    | int i => obtain ⟨t, rfl⟩ := r2; simp only [eqD]; exact ⟨.bool_int b _ _, .bool_int b _ _⟩
    | str x => obtain ⟨t, rfl⟩ := r2; simp only [eqD]; exact ⟨.bool_str b _ _, .bool_str b _ _⟩
    | tup t r => cases r2; obtain ⟨_, _, h1, _⟩ := I.tuple t.sq; simp only [eqD]; exact ⟨.bool_tuple b h1 (by omega), .bool_tuple b h1 (by omega)⟩
    | lst t r => cases r2; obtain ⟨_, _, h1, _⟩ := I.list (.of t.1); simp only [eqD]; exact ⟨.bool_list b h1.isList (by omega), .bool_list b h1.isList (by omega)⟩
    | ro t r => simp [D.plain] at p2
    | obj e => simp [D.plain] at p2
    | dT _ _ _ => simp [D.plain] at p2
    | dK _ _ _ => simp [D.plain] at p2
  | _, _, .int i, A, _, _, _, _, h, r1, r2, p1, p2, hu => by
    obtain ⟨t1, rfl⟩ := r1
    cases h with
    | non => cases r2; simp only [eqD]; exact ⟨.int_none i _, .int_none i _⟩
    | bl c => cases r2; simp only [eqD]; exact ⟨.int_bool i _ c, .int_bool i _ c⟩
    | int j => obtain ⟨t, rfl⟩ := r2; simp only [eqD]; exact ⟨.int_int i _ _ _, .int_int i _ _ _⟩
    | str x => obtain ⟨t, rfl⟩ := r2; simp only [eqD]; exact ⟨.int_str i _ _ _, .int_str i _ _ _⟩
    | tup t r => cases r2; obtain ⟨_, _, h1, _⟩ := I.tuple t.sq; simp only [eqD]; exact ⟨.int_tuple i _ h1 (by omega), .int_tuple i _ h1 (by omega)⟩
    | lst t r => cases r2; obtain ⟨_, _, h1, _⟩ := I.list (.of t.1); simp only [eqD]; exact ⟨.int_list i _ h1.isList (by omega), .int_list i _ h1.isList (by omega)⟩
    | ro t r => simp [D.plain] at p2
    | obj e => simp [D.plain] at p2
    | dT _ _ _ => simp [D.plain] at p2
    | dK _ _ _ => simp [D.plain] at p2
  | _, _, .str x, A, _, _, _, _, h, r1, r2, p1, p2, hu => by
    obtain ⟨t1, rfl⟩ := r1
    cases h with
    | non => cases r2; simp only [eqD]; exact ⟨.str_none x _, .str_none x _⟩
    | bl c => cases r2; simp only [eqD]; exact ⟨.str_bool x _ c, .str_bool x _ c⟩
    | int j => obtain ⟨t, rfl⟩ := r2; simp only [eqD]; exact ⟨.str_int x _ _ _, .str_int x _ _ _⟩
    | str y => obtain ⟨t, rfl⟩ := r2; simp only [eqD]; exact ⟨.str_str x _ _ _, .str_str x _ _ _⟩
    | tup t r => cases r2; obtain ⟨_, _, h1, _⟩ := I.tuple t.sq; simp only [eqD]; exact ⟨.str_tuple x _ h1 (by omega), .str_tuple x _ h1 (by omega)⟩
    | lst t r => cases r2; obtain ⟨_, _, h1, _⟩ := I.list (.of t.1); simp only [eqD]; exact ⟨.str_list x _ h1.isList (by omega), .str_list x _ h1.isList (by omega)⟩
    | ro t r => simp [D.plain] at p2
    | obj e => simp [D.plain] at p2
    | dT _ _ _ => simp [D.plain] at p2
    | dK _ _ _ => simp [D.plain] at p2
  | _, _, .tup (a := a) (xs := xs) t r, A, _, _, _, _, h, r1, r2, p1, p2, hu => by
    cases r1
    obtain ⟨its, rv, h0, _⟩ := I.tuple t.sq
    cases h with
    | non => cases r2; simp only [eqD]; exact ⟨.tuple_none h0 (by omega), .tuple_none h0 (by omega)⟩
    | bl c => cases r2; simp only [eqD]; exact ⟨.tuple_bool c h0 (by omega), .tuple_bool c h0 (by omega)⟩
    | int j => obtain ⟨t, rfl⟩ := r2; simp only [eqD]; exact ⟨.tuple_int _ _ h0 (by omega), .tuple_int _ _ h0 (by omega)⟩
    | str y => obtain ⟨t, rfl⟩ := r2; simp only [eqD]; exact ⟨.tuple_str _ _ h0 (by omega), .tuple_str _ _ h0 (by omega)⟩
    | @tup b vs' ys t' r' =>
      cases r2
      obtain ⟨its2, rv2, h1, _⟩ := I.tuple t'.sq
      simp only [eqD]
      unfold D.plain at p1 p2
      have hu' : A.units + min (depAll xs + 1) (depAll ys + 1) < cLine := by simpa only [D.dep] using hu
      have rc := rc_seq_tup h0 h1 (by rw [← rv.length, r.length]) (by rw [← rv2.length, r'.length]) (by omega) (fun j u w e1 e2 => (rcs_of I r r' rv rv2 p1 p2 (fun x y h1 h2 => min_dep h1 h2 hu') j u w e1 e2).2)
      refine ⟨rc, ?_⟩
      by_cases e : a = b
      · subst e
        have e3 : D.tup xs = D.tup ys := Rd.fun_ I (.tup t r) (.tup t' r') (by unfold D.plain; exact p1) (by unfold D.plain; exact p2)
        injection e3 with e3
        subst e3
        rw [eqAll_refl p1]
        exact .same _
      · exact .of_refs e rc
    | lst t' r' => cases r2; obtain ⟨_, _, h1, _⟩ := I.list (.of t'.1); simp only [eqD]; exact ⟨.tuple_list h0 h1.isList (by omega), .tuple_list h0 h1.isList (by omega)⟩
    | ro t r => simp [D.plain] at p2
    | obj e => simp [D.plain] at p2
    | dT _ _ _ => simp [D.plain] at p2
    | dK _ _ _ => simp [D.plain] at p2
  | _, _, .lst (a := a) (xs := xs) t r, A, _, _, _, _, h, r1, r2, p1, p2, hu => by
    cases r1
    obtain ⟨its, rv, h0, _⟩ := I.list (.of t.1)
    have h0 := h0.isList
    cases h with
    | non => cases r2; simp only [eqD]; exact ⟨.list_none h0 (by omega), .list_none h0 (by omega)⟩
    | bl c => cases r2; simp only [eqD]; exact ⟨.list_bool c h0 (by omega), .list_bool c h0 (by omega)⟩
    | int j => obtain ⟨t, rfl⟩ := r2; simp only [eqD]; exact ⟨.list_int _ _ h0 (by omega), .list_int _ _ h0 (by omega)⟩
    | str y => obtain ⟨t, rfl⟩ := r2; simp only [eqD]; exact ⟨.list_str _ _ h0 (by omega), .list_str _ _ h0 (by omega)⟩
    | tup t' r' => cases r2; obtain ⟨_, _, h1, _⟩ := I.tuple t'.sq; simp only [eqD]; exact ⟨.list_tuple h0 h1 (by omega), .list_tuple h0 h1 (by omega)⟩
    | @lst b vs' ys t' r' =>
      cases r2
      obtain ⟨its2, rv2, h1, _⟩ := I.list (.of t'.1)
      have h1 := h1.isList
      simp only [eqD]
      unfold D.plain at p1 p2
      have hu' : A.units + min (depAll xs + 1) (depAll ys + 1) < cLine := by simpa only [D.dep] using hu
      have rc := rc_seq_lst h0 h1 (by rw [← rv.length, r.length]) (by rw [← rv2.length, r'.length]) (by omega) (fun j u w e1 e2 => (rcs_of I r r' rv rv2 p1 p2 (fun x y h1 h2 => min_dep h1 h2 hu') j u w e1 e2).2)
      refine ⟨rc, ?_⟩
      by_cases e : a = b
      · subst e
        have e3 : D.lst xs = D.lst ys := Rd.fun_ I (.lst t r) (.lst t' r') (by unfold D.plain; exact p1) (by unfold D.plain; exact p2)
        injection e3 with e3
        subst e3
        rw [eqAll_refl p1]
        exact .same _
      · exact .of_refs e rc
    | ro t r => simp [D.plain] at p2
    | obj e => simp [D.plain] at p2
    | dT _ _ _ => simp [D.plain] at p2
    | dK _ _ _ => simp [D.plain] at p2
  | _, _, .ro t r, A, _, _, _, _, h, r1, r2, p1, p2, hu => by simp [D.plain] at p1
  | _, _, .obj e, A, _, _, _, _, h, r1, r2, p1, p2, hu => by simp [D.plain] at p1
  | _, _, .dT _ _ _, A, _, _, _, _, h, r1, r2, p1, p2, hu => by simp [D.plain] at p1
  | _, _, .dK _ _ _, A, _, _, _, _, h, r1, r2, p1, p2, hu => by simp [D.plain] at p1
theorem rcs_of (I : Inv X pins σ H s) : ∀ {vs1 : List V} {ds1 : List D}, Rds X.K ρ F H vs1 ds1 → ∀ {A : Around} {vs2 : List V} {ds2 : List D} {us1 us2 : List Value}, Rds X.K ρ F H vs2 ds2 → Vals vs1 us1 → Vals vs2 us2 → plainAll ds1 = true → plainAll ds2 = true →
    (∀ {i j : Nat} (x y : D), ds1[i]? = some x → ds2[j]? = some y → A.units + min x.dep y.dep < cLine) → ∀ (j : Nat) (u w : Value), us1[j]? = some u → us2[j]? = some w →
    RcAt A s u w (eqD (dAt ds1 j) (dAt ds2 j)) ∧ EqAt A s u w (eqD (dAt ds1 j) (dAt ds2 j))
  | _, _, .nil, A, _, _, _, _, h, r1, r2, p1, p2, hu, j, u, w, e1, e2 => by cases r1; simp at e1
  | _, _, .cons (d := d1) q t, A, _, _, _, _, h, r1, r2, p1, p2, hu, j, u, w, e1, e2 => by
    cases r1 with
    | cons r1 t1 =>
      cases h with
      | nil => cases r2; simp at e2
      | cons q' t' =>
        cases r2 with
        | cons r2 t2 =>
          unfold plainAll at p1 p2
          obtain ⟨a1, a2⟩ := Bool.and_eq_true_iff.mp p1
          obtain ⟨b1, b2⟩ := Bool.and_eq_true_iff.mp p2
          cases j with
          | zero =>
            rw [List.getElem?_cons_zero] at e1 e2
            cases e1; cases e2
            exact rc_of I q q' r1 r2 a1 b1 (hu (i := 0) (j := 0) _ _ rfl rfl)
          | succ j =>
            rw [List.getElem?_cons_succ] at e1 e2
            exact rcs_of I t t' t1 t2 a2 b2 (fun {i j} x y h1 h2 => hu (i := i + 1) (j := j + 1) x y (by rw [List.getElem?_cons_succ]; exact h1) (by rw [List.getElem?_cons_succ]; exact h2)) j u w e1 e2
end
theorem RdC.now {v : V} {d : D} (r : RdC X.K ρ F H v d) (hp : ∀ tk kvs, d ≠ .dct tk kvs) : Rd X.K ρ (fun _ => False) H v d := by
  cases r with
  | rd r => exact r.less fun _ z => z.elim
  | own n c =>
    cases d with
    | lst xs => obtain ⟨vs, e, r⟩ := c; exact .lst ⟨e, fun z => z⟩ (r.less fun _ z => z.elim)
    | dct tk kvs => exact absurd rfl (hp tk kvs)
    | _ => exact c.elim
theorem plain_nd {d : D} (h : d.plain = true) : ∀ tk kvs, d ≠ .dct tk kvs := fun tk kvs e => by
  subst e
  simp [D.plain] at h

/-! ### < -/
theorem ltAll_first : ∀ {xs ys : List D} {b : Bool}, ltAll xs ys = some b →
    firstLt (fun j => eqD (dAt xs j) (dAt ys j)) (fun j => (ltD (dAt xs j) (dAt ys j)).getD false) (decide (xs.length < ys.length)) (List.range (min xs.length ys.length)) = b
  | [], [], b, h => by simp [ltAll] at h; subst h; rfl
  | [], y :: ys, b, h => by simp [ltAll] at h; subst h; simp [firstLt]
  | x :: xs, [], b, h => by simp [ltAll] at h; subst h; simp [firstLt]
  | x :: xs, y :: ys, b, h => by
    unfold ltAll at h
    cases e : ltAll xs ys with
    | none => rw [e] at h; cases h
    | some c =>
      rw [e] at h
      have ih := ltAll_first e
      have sh : ∀ (l : List Nat), firstLt (fun j => eqD (dAt (x :: xs) j) (dAt (y :: ys) j)) (fun j => (ltD (dAt (x :: xs) j) (dAt (y :: ys) j)).getD false) (decide ((x :: xs).length < (y :: ys).length)) (l.map Nat.succ) =
          firstLt (fun j => eqD (dAt xs j) (dAt ys j)) (fun j => (ltD (dAt xs j) (dAt ys j)).getD false) (decide (xs.length < ys.length)) l := by
        intro l
        induction l with
        | nil => simp [firstLt]
        | cons k l ihl =>
          rw [List.map_cons]
          unfold firstLt
          rw [ihl]
          rfl
      rw [List.length_cons, List.length_cons, Nat.succ_min_succ, List.range_succ_eq_map]
      have sh' := sh (List.range (min xs.length ys.length))
      rw [List.length_cons, List.length_cons] at sh'
      by_cases q : eqD x y = true
      · rw [firstLt_yes (show eqD (dAt (x :: xs) 0) (dAt (y :: ys) 0) = true from q), sh', ih]
        have h : (if eqD x y = true then some c else ltD x y) = some b := h
        rw [if_pos q] at h
        exact Option.some.inj h
      · have q' : eqD x y = false := by simpa using q
        rw [firstLt_no (show eqD (dAt (x :: xs) 0) (dAt (y :: ys) 0) = false from q')]
        have h : (if eqD x y = true then some c else ltD x y) = some b := h
        rw [if_neg q] at h
        show (ltD x y).getD false = b
        rw [h]
        rfl
theorem ltAll_item : ∀ {xs ys : List D} {b : Bool} {j : Nat} {x y : D}, ltAll xs ys = some b → xs[j]? = some x → ys[j]? = some y → eqD x y = false → ∃ c, ltD x y = some c
  | [], _, _, _, _, _, _, h, _, _ => by simp at h
  | _ :: _, [], _, _, _, _, _, _, h, _ => by simp at h
  | x :: xs, y :: ys, b, j, x', y', h, h1, h2, ne => by
    unfold ltAll at h
    cases e : ltAll xs ys with
    | none => rw [e] at h; cases h
    | some c =>
      rw [e] at h
      have h : (if eqD x y = true then some c else ltD x y) = some b := h
      cases j with
      | zero =>
        rw [List.getElem?_cons_zero] at h1 h2
        cases h1; cases h2
        rw [if_neg (by rw [ne]; exact Bool.false_ne_true)] at h
        exact ⟨b, h⟩
      | succ j =>
        rw [List.getElem?_cons_succ] at h1 h2
        exact ltAll_item e h1 h2 ne
theorem ltD_of (I : Inv X pins σ H s) : ∀ {n : Nat} {v1 : V} {d1 : D}, d1.dep ≤ n → Rd X.K ρ F H v1 d1 → ∀ {A : Around} {v2 : V} {d2 : D} {u1 u2 : Value} {b : Bool}, Rd X.K ρ F H v2 d2 → RelV v1 u1 → RelV v2 u2 → d1.plain = true → d2.plain = true →
    A.units + min d1.dep d2.dep < cLine → ltD d1 d2 = some b → RcLt A s u1 u2 b := by
  intro n
  induction n with
  | zero =>
    intro v1 d1 hn q A v2 d2 u1 u2 b q2 r1 r2 p1 p2 hu h
    cases q with
    | int i =>
      cases q2 with
      | int j =>
        obtain ⟨t1, rfl⟩ := r1
        obtain ⟨t2, rfl⟩ := r2
        simp only [ltD] at h
        cases h
        exact fun prog w E Q hq => PyProof.Rows.lt_int hq
      | _ => simp [ltD] at h
    | str x =>
      cases q2 with
      | str y =>
        obtain ⟨t1, rfl⟩ := r1
        obtain ⟨t2, rfl⟩ := r2
        simp only [ltD] at h
        cases h
        exact fun prog w E Q hq => PyProof.Rows.lt_str hq
      | _ => simp [ltD] at h
    | tup t r => simp [D.dep] at hn
    | non => cases q2 <;> simp [ltD] at h
    | bl _ => cases q2 <;> simp [ltD] at h
    | lst t r => cases q2 <;> simp [ltD] at h
    | ro t r => cases q2 <;> simp [ltD] at h
    | obj e => cases q2 <;> simp [ltD] at h
    | dT _ _ _ => cases q2 <;> simp [ltD] at h
    | dK _ _ _ => cases q2 <;> simp [ltD] at h
  | succ n ih =>
    intro v1 d1 hn q A v2 d2 u1 u2 b q2 r1 r2 p1 p2 hu h
    cases q with
    | int i =>
      cases q2 with
      | int j =>
        obtain ⟨t1, rfl⟩ := r1
        obtain ⟨t2, rfl⟩ := r2
        simp only [ltD] at h
        cases h
        exact fun prog w E Q hq => PyProof.Rows.lt_int hq
      | _ => simp [ltD] at h
    | str x =>
      cases q2 with
      | str y =>
        obtain ⟨t1, rfl⟩ := r1
        obtain ⟨t2, rfl⟩ := r2
        simp only [ltD] at h
        cases h
        exact fun prog w E Q hq => PyProof.Rows.lt_str hq
      | _ => simp [ltD] at h
    | tup t r =>
      cases q2 with
      | tup t' r' =>
        rename_i a vs xs a' vs' ys
        cases r1
        cases r2
        obtain ⟨its, rv, h0, _⟩ := I.tuple t.sq
        obtain ⟨its2, rv2, h1, _⟩ := I.tuple t'.sq
        simp only [ltD] at h
        unfold D.plain at p1 p2
        have hu' : A.units + min (depAll xs + 1) (depAll ys + 1) < cLine := by simpa only [D.dep] using hu
        have hn' : depAll xs ≤ n := by simpa only [D.dep, Nat.succ_eq_add_one, Nat.add_le_add_iff_right] using hn
        have l1 : its.length = xs.length := by rw [← rv.length, r.length]
        have l2 : its2.length = ys.length := by rw [← rv2.length, r'.length]
        have item : ∀ (j : Nat) (u w : Value), its[j]? = some u → its2[j]? = some w → ∃ x y v v', xs[j]? = some x ∧ ys[j]? = some y ∧ Rd X.K ρ F H v x ∧ Rd X.K ρ F H v' y ∧ RelV v u ∧ RelV v' w := by
          intro j u w e1 e2
          have g1 : j < xs.length := by rw [← l1]; exact (List.getElem?_eq_some_iff.mp e1).1
          have g2 : j < ys.length := by rw [← l2]; exact (List.getElem?_eq_some_iff.mp e2).1
          obtain ⟨v, hv, qv⟩ := r.get (List.getElem?_eq_getElem g1)
          obtain ⟨v', hv', qv'⟩ := r'.get (List.getElem?_eq_getElem g2)
          obtain ⟨u', hu1, ru⟩ := rv.get hv
          obtain ⟨w', hw1, rw'⟩ := rv2.get hv'
          rw [e1] at hu1; cases hu1
          rw [e2] at hw1; cases hw1
          exact ⟨_, _, v, v', List.getElem?_eq_getElem g1, List.getElem?_eq_getElem g2, qv, qv', ru, rw'⟩
        have q := RcLt.tuples (A := A) (s := s) (e := fun j => eqD (dAt xs j) (dAt ys j)) (r := fun j => (ltD (dAt xs j) (dAt ys j)).getD false) h0 h1 (by omega) (fun j g1 g2 => by
            have e1 : its[j]? = some its.toArray[j] := by rw [List.getElem?_eq_getElem (by simpa using g1)]; simp
            have e2 : its2[j]? = some its2.toArray[j] := by rw [List.getElem?_eq_getElem (by simpa using g2)]; simp
            exact (rcs_of I r r' rv rv2 p1 p2 (fun x y h1 h2 => min_dep h1 h2 hu') j _ _ e1 e2).2) (fun j g1 g2 ne => by
            have e1 : its[j]? = some its.toArray[j] := by rw [List.getElem?_eq_getElem (by simpa using g1)]; simp
            have e2 : its2[j]? = some its2.toArray[j] := by rw [List.getElem?_eq_getElem (by simpa using g2)]; simp
            obtain ⟨x, y, v, v', hx, hy, qv, qv', ru, rw'⟩ := item j _ _ e1 e2
            rw [getD_of hx, getD_of hy] at ne ⊢
            obtain ⟨c, hc⟩ := ltAll_item h hx hy ne
            rw [hc]
            exact ih (Nat.le_trans (depAll_get hx) hn') qv qv' ru rw' (plainAll_get p1 hx) (plainAll_get p2 hy) (min_dep hx hy hu') hc)
        have e := ltAll_first h
        rw [List.size_toArray, List.size_toArray, l1, l2, e] at q
        exact q
      | _ => simp [ltD] at h
    | non => cases q2 <;> simp [ltD] at h
    | bl _ => cases q2 <;> simp [ltD] at h
    | lst t r => cases q2 <;> simp [ltD] at h
    | ro t r => cases q2 <;> simp [ltD] at h
    | obj e => cases q2 <;> simp [ltD] at h
    | dT _ _ _ => cases q2 <;> simp [ltD] at h
    | dK _ _ _ => cases q2 <;> simp [ltD] at h
end
end Ny

set_option maxHeartbeats 2000000
/-! Ny: dicts that are looked at. -/
namespace Ny
open PySem PySem.Spec PyProof.Rows L2
theorem kD_eq {a b : Key} : eqD (kD a) (kD b) = decide (a = b) := by
  cases a <;> cases b
  · rename_i i j
    by_cases h : i = j
    · subst h; simp [kD, eqD]
    · have : ¬ (Sum.inl i : Key) = Sum.inl j := fun z => h (Sum.inl.inj z)
      simp [kD, eqD, h, this]
  · simp [kD, eqD]
  · simp [kD, eqD]
  · rename_i i j
    by_cases h : i = j
    · subst h; simp [kD, eqD]
    · have : ¬ (Sum.inr i : Key) = Sum.inr j := fun z => h (Sum.inr.inj z)
      simp [kD, eqD, h, this]
theorem kDs_eq : ∀ {a b : List Key}, eqAll (a.map kD) (b.map kD) = decide (a = b)
  | [], [] => by simp [eqAll]
  | [], _ :: _ => by simp [eqAll]
  | _ :: _, [] => by simp [eqAll]
  | x :: a, y :: b => by
    simp only [List.map_cons]
    unfold eqAll
    rw [kD_eq, kDs_eq]
    by_cases h1 : x = y <;> by_cases h2 : a = b <;> simp [h1, h2]
theorem keyT_eq {a b : List Key} : eqD (.tup (a.map kD)) (.tup (b.map kD)) = decide (a = b) := by
  unfold eqD
  exact kDs_eq
/-- an int, a text: a key -/
theorem kD_of {d : D} (h : key1 d = true) : ∃ k, d = kD k := by
  cases d with
  | int i => exact ⟨.inl i, rfl⟩
  | str x => exact ⟨.inr x, rfl⟩
  | _ => cases h
theorem kDs_of : ∀ {ds : List D}, (∀ d ∈ ds, key1 d = true) → ∃ k : List Key, ds = k.map kD
  | [], _ => ⟨[], rfl⟩
  | d :: ds, h => by
    obtain ⟨k, e⟩ := kD_of (h d (by simp))
    obtain ⟨ks, e2⟩ := kDs_of (ds := ds) fun x hx => h x (by simp [hx])
    exact ⟨k :: ks, by rw [e, e2]; rfl⟩
theorem keyTk_of {tk : Bool} {d : D} (h : keyTk tk d = true) : (tk = true ∧ ∃ k : List Key, d = .tup (k.map kD)) ∨ tk = false ∧ ∃ k, d = kD k := by
  cases tk with
  | true =>
    cases d with
    | tup xs =>
      left
      refine ⟨rfl, ?_⟩
      simp only [keyTk, List.all_eq_true] at h
      obtain ⟨k, e⟩ := kDs_of (ds := xs) fun x hx => by
        have := h x hx
        cases x <;> first | rfl | cases this
      exact ⟨k, by rw [e]⟩
    | _ => cases h
  | false =>
    right
    refine ⟨rfl, ?_⟩
    cases d with
    | int i => exact ⟨.inl i, rfl⟩
    | str x => exact ⟨.inr x, rfl⟩
    | _ => cases h
theorem key_nd {tk : Bool} {d : D} (h : keyTk tk d = true) : ∀ tk' kvs, d ≠ .dct tk' kvs := fun tk' kvs e => by
  subst e
  cases tk <;> cases h
section
variable {K : PySem.W.Frag} {ρ : Rho} {F : Addr → Prop} {H : Hp}
theorem kD_rd {v : V} {k : Key} (r : Rd K ρ F H v (kD k)) : v = kV k := by
  cases k with
  | inl i => cases r; rfl
  | inr x => cases r; rfl
theorem kDs_rd : ∀ {vs : List V} {k : List Key}, Rds K ρ F H vs (k.map kD) → vs = k.map kV
  | _, [], .nil => rfl
  | _, x :: k, .cons r t => by
    rw [kD_rd r, kDs_rd t]
    rfl
theorem PrT.look {k : List Key} : ∀ {ws : List (List Key × V)} {kvs : List (D × D)}, PrT K ρ F H ws kvs → (lookD (.tup (k.map kD)) kvs = none ∧ valV ws k = none) ∨ ∃ v d, valV ws k = some v ∧ lookD (.tup (k.map kD)) kvs = some d ∧ Rd K ρ F H v d
  | _, _, .nil => .inl ⟨rfl, rfl⟩
  | _, _, .cons (k := q) (v := v) (d := d) (r := ws) (rs := kvs) r t => by
    unfold lookD
    rw [keyT_eq]
    by_cases h : q = k
    · rw [if_pos (decide_eq_true h)]
      exact .inr ⟨v, d, by simp [valV, h], rfl, r⟩
    · rw [if_neg (by simpa using h)]
      have e : valV ((q, v) :: ws) k = valV ws k := by simp [valV, List.find?_cons, h]
      rw [e]
      exact PrT.look t
theorem PrK.look {k : Key} : ∀ {ws : List (Key × V)} {kvs : List (D × D)}, PrK K ρ F H ws kvs → (lookD (kD k) kvs = none ∧ valV ws k = none) ∨ ∃ v d, valV ws k = some v ∧ lookD (kD k) kvs = some d ∧ Rd K ρ F H v d
  | _, _, .nil => .inl ⟨rfl, rfl⟩
  | _, _, .cons (k := q) (v := v) (d := d) (r := ws) (rs := kvs) r t => by
    unfold lookD
    rw [kD_eq]
    by_cases h : q = k
    · rw [if_pos (decide_eq_true h)]
      exact .inr ⟨v, d, by simp [valV, h], rfl, r⟩
    · rw [if_neg (by simpa using h)]
      have e : valV ((q, v) :: ws) k = valV ws k := by simp [valV, List.find?_cons, h]
      rw [e]
      exact PrK.look t
end
theorem PrT.any {K : PySem.W.Frag} {ρ : Rho} {F : Addr → Prop} {H : Hp} {k : List Key} : ∀ {ws : List (List Key × V)} {kvs : List (D × D)}, PrT K ρ F H ws kvs → (ws.any fun kv => decide (kv.1 = k)) = (kvs.any fun kv => eqD kv.1 (.tup (k.map kD)))
  | _, _, .nil => rfl
  | _, _, .cons r t => by
    rw [List.any_cons, List.any_cons, PrT.any t, keyT_eq]
theorem PrT.map {K : PySem.W.Frag} {ρ : Rho} {F : Addr → Prop} {H : Hp} {k : List Key} {v : V} {d : D} (q : Rd K ρ F H v d) : ∀ {ws : List (List Key × V)} {kvs : List (D × D)}, PrT K ρ F H ws kvs →
    PrT K ρ F H (ws.map fun kv => if kv.1 = k then (kv.1, v) else kv) (kvs.map fun kv => if eqD kv.1 (.tup (k.map kD)) = true then (kv.1, d) else kv)
  | _, _, .nil => .nil
  | _, _, .cons (k := k') r t => by
    rw [List.map_cons, List.map_cons]
    by_cases h : k' = k
    · rw [if_pos h, if_pos (by rw [keyT_eq]; exact decide_eq_true h)]
      exact .cons q (PrT.map q t)
    · rw [if_neg h, if_neg (by rw [keyT_eq]; simp [h])]
      exact .cons r (PrT.map q t)
theorem PrT.app {K : PySem.W.Frag} {ρ : Rho} {F : Addr → Prop} {H : Hp} : ∀ {ws us : List (List Key × V)} {kvs es : List (D × D)}, PrT K ρ F H ws kvs → PrT K ρ F H us es → PrT K ρ F H (ws ++ us) (kvs ++ es)
  | _, _, _, _, .nil, q => q
  | _, _, _, _, .cons r t, q => .cons r (PrT.app t q)
theorem PrT.put {K : PySem.W.Frag} {ρ : Rho} {F : Addr → Prop} {H : Hp} {k : List Key} {v : V} {d : D} (r : Rd K ρ F H v d) {ws : List (List Key × V)} {kvs : List (D × D)} (h : PrT K ρ F H ws kvs) : PrT K ρ F H (putK ws k v) (putD (.tup (k.map kD)) d kvs) := by
  unfold putK putD
  rw [h.any]
  split
  · exact h.map r
  · exact h.app (.cons r .nil)
theorem PrT.len {K : PySem.W.Frag} {ρ : Rho} {F : Addr → Prop} {H : Hp} : ∀ {ws : List (List Key × V)} {kvs : List (D × D)}, PrT K ρ F H ws kvs → ws.length = kvs.length
  | _, _, .nil => rfl
  | _, _, .cons r t => by rw [List.length_cons, List.length_cons, PrT.len t]
theorem PrK.any {K : PySem.W.Frag} {ρ : Rho} {F : Addr → Prop} {H : Hp} {k : Key} : ∀ {ws : List (Key × V)} {kvs : List (D × D)}, PrK K ρ F H ws kvs → (ws.any fun kv => decide (kv.1 = k)) = (kvs.any fun kv => eqD kv.1 (kD k))
  | _, _, .nil => rfl
  | _, _, .cons r t => by
    rw [List.any_cons, List.any_cons, PrK.any t, kD_eq]
theorem PrK.map {K : PySem.W.Frag} {ρ : Rho} {F : Addr → Prop} {H : Hp} {k : Key} {v : V} {d : D} (q : Rd K ρ F H v d) : ∀ {ws : List (Key × V)} {kvs : List (D × D)}, PrK K ρ F H ws kvs →
    PrK K ρ F H (ws.map fun kv => if kv.1 = k then (kv.1, v) else kv) (kvs.map fun kv => if eqD kv.1 (kD k) = true then (kv.1, d) else kv)
  | _, _, .nil => .nil
  | _, _, .cons (k := k') r t => by
    rw [List.map_cons, List.map_cons]
    by_cases h : k' = k
    · rw [if_pos h, if_pos (by rw [kD_eq]; exact decide_eq_true h)]
      exact .cons q (PrK.map q t)
    · rw [if_neg h, if_neg (by rw [kD_eq]; simp [h])]
      exact .cons r (PrK.map q t)
theorem PrK.app {K : PySem.W.Frag} {ρ : Rho} {F : Addr → Prop} {H : Hp} : ∀ {ws us : List (Key × V)} {kvs es : List (D × D)}, PrK K ρ F H ws kvs → PrK K ρ F H us es → PrK K ρ F H (ws ++ us) (kvs ++ es)
  | _, _, _, _, .nil, q => q
  | _, _, _, _, .cons r t, q => .cons r (PrK.app t q)
theorem PrK.put {K : PySem.W.Frag} {ρ : Rho} {F : Addr → Prop} {H : Hp} {k : Key} {v : V} {d : D} (r : Rd K ρ F H v d) {ws : List (Key × V)} {kvs : List (D × D)} (h : PrK K ρ F H ws kvs) : PrK K ρ F H (putK ws k v) (putD (kD k) d kvs) := by
  unfold putK putD
  rw [h.any]
  split
  · exact h.map r
  · exact h.app (.cons r .nil)
theorem PrK.len {K : PySem.W.Frag} {ρ : Rho} {F : Addr → Prop} {H : Hp} : ∀ {ws : List (Key × V)} {kvs : List (D × D)}, PrK K ρ F H ws kvs → ws.length = kvs.length
  | _, _, .nil => rfl
  | _, _, .cons r t => by rw [List.length_cons, List.length_cons, PrK.len t]
/-- a tuple of ints and texts, its items -/
theorem keys_of {K : PySem.W.Frag} {ρ : Rho} {F : Addr → Prop} {H : Hp} : ∀ {vs : List V} {ds : List D}, Rds K ρ F H vs ds → keyTk true (.tup ds) = true → ∃ ks : List Key, vs = ks.map kV ∧ ds = ks.map kD
  | _, _, .nil, _ => ⟨[], rfl, rfl⟩
  | _, _, .cons (d := d) (ds := ds) r t, h => by
    unfold keyTk at h
    dsimp only at h
    rw [List.all_cons] at h
    obtain ⟨h1, h2⟩ := Bool.and_eq_true_iff.mp h
    obtain ⟨ks, e1, e2⟩ := keys_of t (show keyTk true (.tup ds) = true from h2)
    cases d <;> first | cases h1 | skip
    · cases r
      exact ⟨.inl _ :: ks, by rw [e1]; rfl, by rw [e2]; rfl⟩
    · cases r
      exact ⟨.inr _ :: ks, by rw [e1]; rfl, by rw [e2]; rfl⟩
section
variable {X : Cx} {pins : List (Addr × Obj)} {σ : L2.St} {H : Hp} {s : Shared} {ρ : Rho} {F F2 : Addr → Prop} {A : Around} {E : Value → Shared → Prop}
/-- a tuple of ints and texts is a key, whoever has it -/
theorem key_any {b : Addr} {k : List Key} (I : Inv X pins σ H s) (h : SqT X.K H b (k.map kV)) : (tupleKind (mixKind X.prog X.w)).is s.heap k b := by
  obtain ⟨its, r, ⟨o, h1, h2, n, h3⟩, _⟩ := I.tuple h
  exact ⟨o, its.toArray, n, h1, h2, h3, by simpa using items_are r⟩
/-- what the dict at a says of the key d -/
theorem dct_look {Q : Value → Shared → Prop} (hu : A.units + 1 < cLine) (I : Inv X pins σ H s) {a : Addr} {tk : Bool} {kvs : List (D × D)} {y : V} {d : D} {u : Value} (c : OwnC X.K ρ F H a (.dct tk kvs)) (hk : keyTk tk d = true) (r : Rd X.K ρ F2 H y d) (ru : RelV y u) {x : D} (hx : lookD d kvs = some x)
    (h : ∀ v w' s', Rd X.K ρ F H v x → Inv X pins σ H s' → RelV v w' → Q w' s') : wpAny (model X.prog X.w) A (getItem (.ref a) u) Q E s := by
  rcases keyTk_of hk with ⟨rfl, k, rfl⟩ | ⟨rfl, k, rfl⟩
  · obtain ⟨ws, e, p⟩ := c
    cases r with
    | tup t rs =>
      have ev := kDs_rd rs
      subst ev
      cases ru
      rcases p.look (k := k) with ⟨h1, _⟩ | ⟨v, x', h1, h2, h3⟩
      · rw [h1] at hx; cases hx
      · rw [h2] at hx
        cases hx
        obtain ⟨z, hd, xs, rel, dd⟩ := dt_of I.hok e
        obtain ⟨w', hw, rw'⟩ := RelO.some_of (v := v) (o := (atKey xs k).map (·.2)) (by rw [← h1]; exact rel.val k)
        obtain ⟨q, hp, hp2⟩ := Option.map_eq_some_iff.mp hw
        refine wpAny_getItem_heap (tupleKind_room_in1 hu) (key_any I t.sq) dd hp ?_
        rw [hp2]
        exact h v w' _ h3 (I.tok _) rw'
  · obtain ⟨ws, e, p⟩ := c
    have ev := kD_rd r
    subst ev
    rcases p.look (k := k) with ⟨h1, _⟩ | ⟨v, x', h1, h2, h3⟩
    · rw [h1] at hx; cases hx
    · rw [h2] at hx
      cases hx
      exact d_getItem hu I (by rw [← h1]; exact DGet.k e) ru fun w' s' I' r' => h v w' s' h3 I' r'
theorem dct_in {Q : Value → Shared → Prop} (hu : A.units + 1 < cLine) (I : Inv X pins σ H s) {a : Addr} {tk : Bool} {kvs : List (D × D)} {y : V} {d : D} {u : Value} (c : OwnC X.K ρ F H a (.dct tk kvs)) (hk : keyTk tk d = true) (r : Rd X.K ρ F2 H y d) (ru : RelV y u) (neg : Bool)
    (h : ∀ s', Inv X pins σ H s' → Q (.bool (if neg then !(lookD d kvs).isSome else (lookD d kvs).isSome)) s') : wpAny (model X.prog X.w) A (compareOp (if neg then .NotIn else .In) u (.ref a)) Q E s := by
  rcases keyTk_of hk with ⟨rfl, k, rfl⟩ | ⟨rfl, k, rfl⟩
  · obtain ⟨ws, e, p⟩ := c
    cases r with
    | tup t rs =>
      have ev := kDs_rd rs
      subst ev
      cases ru
      obtain ⟨z, hd, xs, rel, dd⟩ := dt_of I.hok e
      have q := (rel.val k).isSome_eq
      rw [Option.isSome_map] at q
      have e2 : (lookD (.tup (k.map kD)) kvs).isSome = (atKey xs k).isSome := by
        rw [← q]
        rcases p.look (k := k) with ⟨h1, h2⟩ | ⟨v, x', h1, h2, h3⟩
        · rw [h1, h2]; rfl
        · rw [h1, h2]; rfl
      cases neg
      · refine wpAny_in_heap (tupleKind_room_in1 hu) (key_any I t.sq) hd dd ?_
        rw [← e2]
        exact h _ (I.tok _)
      · refine wpAny_notIn_heap (tupleKind_room_in1 hu) (key_any I t.sq) hd dd ?_
        rw [← e2]
        exact h _ (I.tok _)
  · obtain ⟨ws, e, p⟩ := c
    have ev := kD_rd r
    subst ev
    have e2 : (lookD (kD k) kvs).isSome = (valV ws k).isSome := by
      rcases p.look (k := k) with ⟨h1, h2⟩ | ⟨v, x', h1, h2, h3⟩
      · rw [h1, h2]; rfl
      · rw [h1, h2]; rfl
    rw [e2] at h
    cases neg
    · exact d_in hu I (DGet.k e) ru h
    · exact d_notIn hu I (DGet.k e) ru h
theorem dct_type {a : Addr} {tk : Bool} {kvs : List (D × D)} (I : Inv X pins σ H s) (c : OwnC X.K ρ F H a (.dct tk kvs)) : s.TypeIs (.ref a) "dict" := by
  cases tk with
  | true =>
    obtain ⟨ws, e, p⟩ := c
    obtain ⟨_, _, xs, _, dd⟩ := dt_of I.hok e
    exact dd.typeIs
  | false =>
    obtain ⟨ws, e, p⟩ := c
    obtain ⟨_, _, vs, _, dd⟩ := dk_of I.hok e
    exact dd.typeIs
end
end Ny

set_option maxHeartbeats 1000000
/-! Ny: != of data, the comparisons' rule, truth, subscripts, slices. -/
namespace Ny
open PySem PySem.Spec PyProof.Rows L2 PySem.SeqAt
section
variable {X : Cx} {pins : List (Addr × Obj)} {σ : L2.St} {H : Hp} {s : Shared} {ρ : Rho} {F F' : Addr → Prop} {W : XK}
theorem rne_of (I : Inv X pins σ H s) {v1 : V} {d1 : D} (q : Rd X.K ρ F H v1 d1) {A : Around} {v2 : V} {d2 : D} {u1 u2 : Value} (h : Rd X.K ρ F H v2 d2) (r1 : RelV v1 u1) (r2 : RelV v2 u2) (p1 : d1.plain = true) (p2 : d2.plain = true)
    (hu : A.units + min d1.dep d2.dep < cLine) : RcNeAt A s u1 u2 (!eqD d1 d2) := by
  cases q with
  | non =>
    cases r1
    cases h with
    | non => cases r2; simp only [eqD]; exact .none_none
    | bl c => cases r2; simp only [eqD]; exact .none_bool c
    | int j => obtain ⟨t, rfl⟩ := r2; simp only [eqD]; exact .none_int _ _
    | str y => obtain ⟨t, rfl⟩ := r2; simp only [eqD]; exact .none_str _ _
    | tup t r => cases r2; obtain ⟨_, _, h1, _⟩ := I.tuple t.sq; simp only [eqD]; exact .none_tuple h1 (by omega)
    | lst t r => cases r2; obtain ⟨_, _, h1, _⟩ := I.list (.of t.1); simp only [eqD]; exact .none_list h1.isList (by omega)
    | ro t r => simp [D.plain] at p2
    | obj e => simp [D.plain] at p2
    | dT _ _ _ => simp [D.plain] at p2
    | dK _ _ _ => simp [D.plain] at p2
  | bl b =>
    cases r1
    cases h with
    | non => cases r2; simp only [eqD]; exact .bool_none b
    | bl c => cases r2; simp only [eqD]; exact .bool_bool b c
    | int j => obtain ⟨t, rfl⟩ := r2; simp only [eqD]; exact .bool_int b _ _
    | str y => obtain ⟨t, rfl⟩ := r2; simp only [eqD]; exact .bool_str b _ _
    | tup t r => cases r2; obtain ⟨_, _, h1, _⟩ := I.tuple t.sq; simp only [eqD]; exact .bool_tuple b h1 (by omega)
    | lst t r => cases r2; obtain ⟨_, _, h1, _⟩ := I.list (.of t.1); simp only [eqD]; exact .bool_list b h1.isList (by omega)
    | ro t r => simp [D.plain] at p2
    | obj e => simp [D.plain] at p2
    | dT _ _ _ => simp [D.plain] at p2
    | dK _ _ _ => simp [D.plain] at p2
  | int i =>
    obtain ⟨t1, rfl⟩ := r1
    cases h with
    | non => cases r2; simp only [eqD]; exact .int_none i _
    | bl c => cases r2; simp only [eqD]; exact .int_bool i _ c
    | int j => obtain ⟨t, rfl⟩ := r2; simp only [eqD]; exact .int_int i _ _ _
    | str y => obtain ⟨t, rfl⟩ := r2; simp only [eqD]; exact .int_str i _ _ _
    | tup t r => cases r2; obtain ⟨_, _, h1, _⟩ := I.tuple t.sq; simp only [eqD]; exact .int_tuple i _ h1 (by omega)
    | lst t r => cases r2; obtain ⟨_, _, h1, _⟩ := I.list (.of t.1); simp only [eqD]; exact .int_list i _ h1.isList (by omega)
    | ro t r => simp [D.plain] at p2
    | obj e => simp [D.plain] at p2
    | dT _ _ _ => simp [D.plain] at p2
    | dK _ _ _ => simp [D.plain] at p2
  | str x =>
    obtain ⟨t1, rfl⟩ := r1
    cases h with
    | non => cases r2; simp only [eqD]; exact .str_none x _
    | bl c => cases r2; simp only [eqD]; exact .str_bool x _ c
    | int j => obtain ⟨t, rfl⟩ := r2; simp only [eqD]; exact .str_int x _ _ _
    | str y => obtain ⟨t, rfl⟩ := r2; simp only [eqD]; exact .str_str x _ _ _
    | tup t r => cases r2; obtain ⟨_, _, h1, _⟩ := I.tuple t.sq; simp only [eqD]; exact .str_tuple x _ h1 (by omega)
    | lst t r => cases r2; obtain ⟨_, _, h1, _⟩ := I.list (.of t.1); simp only [eqD]; exact .str_list x _ h1.isList (by omega)
    | ro t r => simp [D.plain] at p2
    | obj e => simp [D.plain] at p2
    | dT _ _ _ => simp [D.plain] at p2
    | dK _ _ _ => simp [D.plain] at p2
  | @tup a vs xs t r =>
    cases r1
    obtain ⟨its, rv, h0, _⟩ := I.tuple t.sq
    cases h with
    | non => cases r2; simp only [eqD]; exact .tuple_none h0 (by omega)
    | bl c => cases r2; simp only [eqD]; exact .tuple_bool c h0 (by omega)
    | int j => obtain ⟨t, rfl⟩ := r2; simp only [eqD]; exact .tuple_int _ _ h0 (by omega)
    | str y => obtain ⟨t, rfl⟩ := r2; simp only [eqD]; exact .tuple_str _ _ h0 (by omega)
    | @tup b vs' ys t' r' =>
      cases r2
      obtain ⟨its2, rv2, h1, _⟩ := I.tuple t'.sq
      simp only [eqD]
      unfold D.plain at p1 p2
      have hu' : A.units + min (depAll xs + 1) (depAll ys + 1) < cLine := by simpa only [D.dep] using hu
      have l1 : its.length = xs.length := by rw [← rv.length, r.length]
      have l2 : its2.length = ys.length := by rw [← rv2.length, r'.length]
      have pw : Pw A.in1 s its its2 xs ys := fun j u w e1 e2 => (rcs_of I r r' rv rv2 p1 p2 (fun x y h1 h2 => min_dep h1 h2 hu') j u w e1 e2).2
      have it : ∀ (j : Nat) (g1 : j < its.toArray.size) (g2 : j < its2.toArray.size), EqAt A.in1 s its.toArray[j] its2.toArray[j] (eqD (dAt xs j) (dAt ys j)) := fun j g1 g2 =>
        pw j _ _ (by rw [List.getElem?_eq_getElem (by simpa using g1)]; simp) (by rw [List.getElem?_eq_getElem (by simpa using g2)]; simp)
      have q := RcNeAt.tuples (e := fun j => eqD (dAt xs j) (dAt ys j)) h0 h1 (by omega) it
      rw [← eqAll_eq]
      simpa [l1, l2] using q
    | lst t' r' => cases r2; obtain ⟨_, _, h1, _⟩ := I.list (.of t'.1); simp only [eqD]; exact .tuple_list h0 h1.isList (by omega)
    | ro t r => simp [D.plain] at p2
    | obj e => simp [D.plain] at p2
    | dT _ _ _ => simp [D.plain] at p2
    | dK _ _ _ => simp [D.plain] at p2
  | @lst a vs xs t r =>
    cases r1
    obtain ⟨its, rv, h0, _⟩ := I.list (.of t.1)
    have h0 := h0.isList
    cases h with
    | non => cases r2; simp only [eqD]; exact .list_none h0 (by omega)
    | bl c => cases r2; simp only [eqD]; exact .list_bool c h0 (by omega)
    | int j => obtain ⟨t, rfl⟩ := r2; simp only [eqD]; exact .list_int _ _ h0 (by omega)
    | str y => obtain ⟨t, rfl⟩ := r2; simp only [eqD]; exact .list_str _ _ h0 (by omega)
    | tup t' r' => cases r2; obtain ⟨_, _, h1, _⟩ := I.tuple t'.sq; simp only [eqD]; exact .list_tuple h0 h1 (by omega)
    | @lst b vs' ys t' r' =>
      cases r2
      obtain ⟨its2, rv2, h1, _⟩ := I.list (.of t'.1)
      have h1 := h1.isList
      simp only [eqD]
      unfold D.plain at p1 p2
      have hu' : A.units + min (depAll xs + 1) (depAll ys + 1) < cLine := by simpa only [D.dep] using hu
      have l1 : its.length = xs.length := by rw [← rv.length, r.length]
      have l2 : its2.length = ys.length := by rw [← rv2.length, r'.length]
      have pw : Pw A.in1 s its its2 xs ys := fun j u w e1 e2 => (rcs_of I r r' rv rv2 p1 p2 (fun x y h1 h2 => min_dep h1 h2 hu') j u w e1 e2).2
      have it : ∀ (j : Nat) (g1 : j < its.toArray.size) (g2 : j < its2.toArray.size), EqAt A.in1 s its.toArray[j] its2.toArray[j] (eqD (dAt xs j) (dAt ys j)) := fun j g1 g2 =>
        pw j _ _ (by rw [List.getElem?_eq_getElem (by simpa using g1)]; simp) (by rw [List.getElem?_eq_getElem (by simpa using g2)]; simp)
      by_cases e : xs.length = ys.length
      · have q := RcNeAt.lists (e := fun j => eqD (dAt xs j) (dAt ys j)) h0 h1 (by simp [l1, l2, e]) (by omega) it
        rw [← eqAll_same e]
        simpa [l1] using q
      · rw [eqAll_len e]
        exact RcNeAt.lists_lengths h0 h1 (by simp [l1, l2, e]) (by omega)
    | ro t r => simp [D.plain] at p2
    | obj e => simp [D.plain] at p2
    | dT _ _ _ => simp [D.plain] at p2
    | dK _ _ _ => simp [D.plain] at p2
  | ro t r => simp [D.plain] at p1
  | obj e => simp [D.plain] at p1
  | dT _ _ _ => simp [D.plain] at p1
  | dK _ _ _ => simp [D.plain] at p1
end
theorem cmpOk_of {a b : D} (h : cmpOk a b = true) : a.plain = true ∧ b.plain = true ∧ min a.dep b.dep ≤ 40 := by
  unfold cmpOk at h
  simp only [Bool.and_eq_true, decide_eq_true_eq] at h
  exact ⟨h.1.1, h.1.2, h.2⟩
theorem min_comm' (a b : Nat) : min a b = min b a := Nat.min_comm a b

/-! ### in -/
theorem any_of {p : Value → Bool} : ∀ {us : List Value} {xs : List D} {f : D → Bool}, (∀ (j : Nat) (u : Value) (x : D), us[j]? = some u → xs[j]? = some x → p u = f x) → us.length = xs.length → us.any p = xs.any f
  | [], [], _, _, _ => rfl
  | [], _ :: _, _, _, h => by simp at h
  | _ :: _, [], _, _, h => by simp at h
  | u :: us, x :: xs, f, h, hl => by
    rw [List.any_cons, List.any_cons, h 0 u x rfl rfl, any_of (fun j u x h1 h2 => h (j + 1) u x (by rw [List.getElem?_cons_succ]; exact h1) (by rw [List.getElem?_cons_succ]; exact h2)) (by simpa using hl)]
theorem cmpAll_get {x : D} : ∀ {xs : List D} {j : Nat} {y : D}, cmpAll x xs = true → xs[j]? = some y → cmpOk y x = true
  | [], _, _, _, h => by simp at h
  | y :: ys, 0, z, p, h => by
    rw [List.getElem?_cons_zero] at h
    cases h
    unfold cmpAll at p
    exact (Bool.and_eq_true_iff.mp p).1
  | y :: ys, j + 1, z, p, h => by
    rw [List.getElem?_cons_succ] at h
    unfold cmpAll at p
    exact cmpAll_get (Bool.and_eq_true_iff.mp p).2 h
section
variable {X : Cx} {pins : List (Addr × Obj)} {σ : L2.St} {H : Hp} {s : Shared} {ρ : Rho} {F : Addr → Prop} {W : XK}
theorem Rd.flatPlain {v : V} {d : D} (_ : Rd X.K ρ F H v d) : True := trivial
/-- the items of a sequence against x: which of the model's values equal it -/
theorem in_items (I : Inv X pins σ H s) {vs : List V} {xs : List D} {its : List Value} {v : V} {x : D} {u : Value} {A : Around} (r : Rds X.K ρ F H vs xs) (rv : Vals vs its) (rx : Rd X.K ρ F H v x) (ru : RelV v u) (hc : cmpAll x xs = true) (hu : A.units + 41 < cLine) :
    ∃ e : Value → Bool, (∀ y, y ∈ its.toArray → EqAt A s y u (e y)) ∧ its.toArray.any e = hasD x xs := by
  have item : ∀ (j : Nat) (y : Value), its[j]? = some y → ∃ z : D, xs[j]? = some z ∧ EqAt A s y u (eqD z x) := by
    intro j y hy
    have g1 : j < its.length := (List.getElem?_eq_some_iff.mp hy).1
    have g2 : j < xs.length := by rw [← r.length, rv.length]; exact g1
    obtain ⟨w, hw, qw⟩ := r.get (List.getElem?_eq_getElem g2)
    obtain ⟨y', hy', ry⟩ := rv.get hw
    rw [hy] at hy'; cases hy'
    obtain ⟨c1, c2, c3⟩ := cmpOk_of (cmpAll_get hc (List.getElem?_eq_getElem g2))
    exact ⟨_, List.getElem?_eq_getElem g2, (rc_of I qw rx ry ru c1 c2 (by omega)).2⟩
  -- equal values have equal answers: the answer by the value, chosen at its first place
  classical
  obtain ⟨p, hp⟩ : ∃ p : Value → Bool, ∀ y, p y = (if h : ∃ (j : Nat) (z : D), its[j]? = some y ∧ xs[j]? = some z then eqD h.choose_spec.choose x else false) := ⟨_, fun _ => rfl⟩
  refine ⟨p, fun y hy => ?_, ?_⟩
  · obtain ⟨j, hj⟩ := List.getElem?_of_mem (by simpa using hy : y ∈ its)
    obtain ⟨z, hz, _⟩ := item j y hj
    have h : ∃ (j : Nat) (z : D), its[j]? = some y ∧ xs[j]? = some z := ⟨j, z, hj, hz⟩
    rw [hp, dif_pos h]
    obtain ⟨e1, e2⟩ := h.choose_spec.choose_spec
    obtain ⟨z', hz', q⟩ := item _ _ e1
    rw [e2] at hz'
    have e3 : h.choose_spec.choose = z' := Option.some.inj hz'
    rw [e3]
    exact q
  · rw [List.any_toArray]
    unfold hasD
    refine any_of (fun j y z h1 h2 => ?_) (by rw [← rv.length, r.length])
    have h : ∃ (j : Nat) (z : D), its[j]? = some y ∧ xs[j]? = some z := ⟨j, z, h1, h2⟩
    rw [hp, dif_pos h]
    obtain ⟨e1, e2⟩ := h.choose_spec.choose_spec
    -- both places read the same value of the heap
    obtain ⟨w1, hw1, q1⟩ := r.get e2
    obtain ⟨w2, hw2, q2⟩ := r.get h2
    obtain ⟨y1, hy1, r1⟩ := rv.get hw1
    obtain ⟨y2, hy2, r2⟩ := rv.get hw2
    rw [e1] at hy1
    rw [h1] at hy2
    have ey : y1 = y2 := (Option.some.inj hy1).symm.trans (Option.some.inj hy2)
    subst ey
    have ew := r1.inj r2
    subst ew
    rw [Rd.fun_ I q1 q2 (cmpOk_of (cmpAll_get hc e2)).1 (cmpOk_of (cmpAll_get hc h2)).1]
/-- a sequence that is looked at: its items -/
def SeqC (K : PySem.W.Frag) (ρ : Rho) (F : Addr → Prop) (H : Hp) (c : V) (xs : List D) : Prop := ∃ a vs, c = .ref a ∧ (SqT K H a vs ∨ SqL K H a vs) ∧ Rds K ρ F H vs xs
theorem RdC.seqT {c : V} {xs : List D} (r : RdC X.K ρ F H c (.tup xs)) : SeqC X.K ρ F H c xs := let ⟨a, vs, e, h, q⟩ := r.tup_inv; ⟨a, vs, e, .inl h, q⟩
theorem RdC.seqL {c : V} {xs : List D} (r : RdC X.K ρ F H c (.lst xs)) : SeqC X.K ρ F H c xs := let ⟨a, vs, e, h, q⟩ := r.lst_inv; ⟨a, vs, e, .inr (.of h), q⟩
theorem RdC.seqR {c : V} {xs : List D} (r : RdC X.K ρ F H c (.ro xs)) : SeqC X.K ρ F H c xs := let ⟨a, vs, e, h, q⟩ := r.ro_inv; ⟨a, vs, e, .inr h, q⟩
theorem RdC.seqO {c : V} {n : Nat} {h : Hs} (w : Wd X.K ρ F H h) {xs : List D} (r : RdC X.K ρ F H c (.obj n)) (e : h[n]? = some (.lst xs)) : SeqC X.K ρ F H c xs := by
  obtain ⟨a, rfl, ea⟩ := r.obj_inv
  obtain ⟨b, eb, vs, hb, q⟩ := w.obj n _ e
  rw [ea] at eb
  cases eb
  exact ⟨a, vs, rfl, .inr (.of hb), q⟩
theorem in_seq (I : Inv X pins σ H s) {c v : V} {x : D} {xs : List D} {uc u : Value} {Q : Value → Shared → Prop} {E : Value → Shared → Prop} (hc : SeqC X.K ρ F H c xs) (rx : RdC X.K ρ F H v x) (rc : RelV c uc) (ru : RelV v u)
    (hp : x.plain = true) (ok : cmpAll x xs = true) (hu : X.A.units + 64 < cLine) (neg : Bool) (h : Q (.bool (if neg then !hasD x xs else hasD x xs)) s) : wpAny (model X.prog X.w) X.A (compareOp (if neg then .NotIn else .In) u uc) Q E s := by
  have hu' : X.A.in1.units + 41 < cLine := by
    have e : X.A.in1.units = X.A.units + 1 := rfl
    omega
  obtain ⟨a, vs, rfl, hs, r⟩ := hc
  cases rc
  rcases hs with hs | hs
  · obtain ⟨its, rv, h0, _⟩ := I.tuple hs
    obtain ⟨e, h1, h2⟩ := in_items I (F := fun _ => False) (r.less fun _ z => z.elim) rv (RdC.now rx (plain_nd hp)) ru ok hu'
    cases neg with
    | false => exact in_tupleAt e h0 h1 (by rw [h2]; exact h)
    | true => exact notIn_tupleAt e h0 h1 (by rw [h2]; exact h)
  · obtain ⟨its, rv, h0, _⟩ := I.list hs
    obtain ⟨e, h1, h2⟩ := in_items I (F := fun _ => False) (r.less fun _ z => z.elim) rv (RdC.now rx (plain_nd hp)) ru ok hu'
    cases neg with
    | false => exact in_listAt e h0.isList h1 (by rw [h2]; exact h)
    | true => exact notIn_listAt e h0.isList h1 (by rw [h2]; exact h)

/-! ### the comparisons' rule -/
/-- what a comparison's reading asks of its bool -/
abbrev RelB : RelT Bool Bool := fun _ _ _ _ b c => b = c
theorem Po.bool {XA : Nat → Option Addr} {h : Hs} (w : Wd X.K ρ F H h) {c : Bool} {Q : Bool → Hp → Prop} (po : Po X.K XA W ρ F H (R.pure c h) RelB Q) : Q c H := po.now w rfl
theorem op_cmp {XA : Nat → Option Addr} (hu : X.A.units + 64 < cLine) {op : CmpOp} : OpR X (compareOp op) (rNB X.K XA (cmpR op)) := by
  intro pins s σ H x y v u Q I rx ry h
  obtain ⟨W, ρ, F, hs, d1, d2, w, r1, r2, po0⟩ := h
  have inCase : ∀ (neg : Bool) {hq : Bool → Bool}, (∀ b, hq b = (if neg then !b else b)) → Po X.K XA W ρ F H (R.bind (inR d1 d2) (fun c => R.pure (hq c)) hs) RelB (fun c H' => Q (.bl c) H') →
      wpAny (model X.prog X.w) X.A (compareOp (if neg then .NotIn else .In) v u) (EP X pins σ Q) X.xe s := by
    intro neg hq eq po
    have seq : ∀ {xs : List D}, SeqC X.K ρ F H y xs → Po X.K XA W ρ F H (R.bind (inSeq d1 xs) (fun c => R.pure (hq c)) hs) RelB (fun c H' => Q (.bl c) H') →
        wpAny (model X.prog X.w) X.A (compareOp (if neg then .NotIn else .In) v u) (EP X pins σ Q) X.xe s := by
      intro xs sc po
      unfold inSeq at po
      cases e0 : (d1.plain && cmpAll d1 xs) with
      | false => rw [e0] at po; exact po.elim
      | true =>
        rw [e0] at po
        obtain ⟨e1, e⟩ := Bool.and_eq_true_iff.mp e0
        have po : Po X.K XA W ρ F H (R.pure (hq (hasD d1 xs)) hs) RelB (fun c H' => Q (.bl c) H') := po
        refine in_seq I sc r1 ry rx e1 e hu neg ⟨.bl _, H, I, rfl, ?_⟩
        have q := po.bool w
        rw [eq] at q
        exact q
    cases d2 with
    | tup xs => exact seq r2.seqT po
    | lst xs => exact seq r2.seqL po
    | str y' =>
      cases d1 with
      | str z =>
        cases r1.str_inv
        cases r2.str_inv
        have q : Q (.bl (hq (inStr z y'))) H := Po.bool w po
        rw [eq] at q
        cases neg with
        | false => exact op_in_str pins s σ H _ _ v u Q I rx ry ⟨_, _, rfl, rfl, q⟩
        | true => exact op_notin_str pins s σ H _ _ v u Q I rx ry ⟨_, _, rfl, rfl, q⟩
      | _ => exact po.elim
    | dct tk kvs =>
      have po : Po X.K XA W ρ F H (R.bind (R.need (keyTk tk d1) (R.pure (lookD d1 kvs).isSome)) (fun c => R.pure (hq c)) hs) RelB (fun c H' => Q (.bl c) H') := po
      unfold R.bind at po
      cases e0 : keyTk tk d1 with
      | false => rw [e0] at po; exact po.elim
      | true =>
        rw [e0] at po
        have po : Po X.K XA W ρ F H (R.pure (hq (lookD d1 kvs).isSome) hs) RelB (fun c H' => Q (.bl c) H') := po
        obtain ⟨a, ey, c⟩ := r2.dct_inv
        subst ey
        obtain rfl : u = Value.ref a := ry
        have hp : RdC X.K ρ F H x d1 := r1
        refine dct_in (by omega) I c e0 (RdC.now hp (key_nd e0)) rx neg fun s' I' => ⟨.bl _, H, I', rfl, ?_⟩
        have q := po.bool w
        rw [eq] at q
        exact q
    | obj n =>
      have po' := po
      unfold R.bind inR at po
      dsimp only at po
      cases e : hs[n]? with
      | none => rw [e] at po; exact po.elim
      | some o =>
        rw [e] at po
        cases o with
        | lst xs => exact seq (r2.seqO w e) po
        | dct _ kvs =>
          obtain ⟨b, _, mo⟩ := w.obj n _ e
          exact mo.elim
        | ins c fs => exact po.elim
    | ro xs => exact po.elim
    | non => exact po.elim
    | bl b => exact po.elim
    | int i => exact po.elim
  have isCase : ∀ (neg : Bool) {hq : Bool → Bool}, (∀ b, hq b = (if neg then !b else b)) → Po X.K XA W ρ F H (R.bind (isR d1 d2) (fun c => R.pure (hq c)) hs) RelB (fun c H' => Q (.bl c) H') →
      wpAny (model X.prog X.w) X.A (compareOp (if neg then .IsNot else .Is) v u) (EP X pins σ Q) X.xe s := by
    intro neg hq eq po
    unfold isR at po
    split at po
    · cases r1.non_inv; cases r2.non_inv
      have q : Q (.bl (hq true)) H := Po.bool w po
      rw [eq] at q
      cases neg with
      | false => exact op_isN pins s σ H _ _ v u Q I rx ry ⟨rfl, q⟩
      | true => exact op_notN pins s σ H _ _ v u Q I rx ry ⟨rfl, q⟩
    · cases r1.bl_inv; cases r2.bl_inv
      rename_i a b
      have q : Q (.bl (hq (a == b))) H := Po.bool w po
      rw [eq] at q
      have eb : decide (a = b) = (a == b) := by cases a <;> cases b <;> rfl
      cases neg with
      | false => exact op_isBl pins s σ H _ _ v u Q I rx ry ⟨_, _, rfl, rfl, by rw [eb]; exact q⟩
      | true => exact op_notBl pins s σ H _ _ v u Q I rx ry ⟨_, _, rfl, rfl, by rw [eb]; exact q⟩
    · rename_i hne
      cases r2.non_inv
      have q : Q (.bl (hq false)) H := Po.bool w po
      rw [eq] at q
      have nx : decide (x = V.non) = false := by
        refine decide_eq_false fun z => ?_
        subst z
        cases r1 with
        | rd r => cases r; exact hne rfl
      cases neg with
      | false => exact op_isN pins s σ H _ _ v u Q I rx ry ⟨rfl, by rw [nx]; exact q⟩
      | true => exact op_notN pins s σ H _ _ v u Q I rx ry ⟨rfl, by rw [nx]; exact q⟩
    · exact po.elim
  have po := po0
  clear po0
  cases op with
  | Eq =>
    have po : Po X.K XA W ρ F H (R.need (cmpOk d1 d2) (R.pure (eqD d1 d2)) hs) RelB (fun c H' => Q (.bl c) H') := po
    obtain ⟨c, po⟩ := po.need
    obtain ⟨c1, c2, c3⟩ := cmpOk_of c
    exact (rc_of I (RdC.now r1 (plain_nd c1)) (RdC.now r2 (plain_nd c2)) rx ry c1 c2 (by omega)).1 X.prog X.w _ _ ⟨.bl _, H, I, rfl, po.bool w⟩
  | NotEq =>
    have po : Po X.K XA W ρ F H (R.need (cmpOk d1 d2) (R.pure (!eqD d1 d2)) hs) RelB (fun c H' => Q (.bl c) H') := po
    obtain ⟨c, po⟩ := po.need
    obtain ⟨c1, c2, c3⟩ := cmpOk_of c
    exact rne_of I (RdC.now r1 (plain_nd c1)) (RdC.now r2 (plain_nd c2)) rx ry c1 c2 (by omega) X.prog X.w _ _ ⟨.bl _, H, I, rfl, po.bool w⟩
  | Lt =>
    have po : Po X.K XA W ρ F H (R.need (cmpOk d1 d2) (R.ofOpt (ltD d1 d2)) hs) RelB (fun c H' => Q (.bl c) H') := po
    obtain ⟨c, po⟩ := po.need
    obtain ⟨c1, c2, c3⟩ := cmpOk_of c
    obtain ⟨b, eb, po⟩ := po.opt
    exact ltD_of I (Nat.le_refl _) (RdC.now r1 (plain_nd c1)) (RdC.now r2 (plain_nd c2)) rx ry c1 c2 (by omega) eb X.prog X.w _ _ ⟨.bl _, H, I, rfl, po.bool w⟩
  | Gt =>
    unfold cmpR at po
    dsimp only at po
    split at po
    · cases r1.int_inv; cases r2.int_inv
      exact op_gt pins s σ H _ _ v u Q I rx ry ⟨_, _, rfl, rfl, po.bool w⟩
    · cases r1.str_inv; cases r2.str_inv
      exact op_gt_str pins s σ H _ _ v u Q I rx ry ⟨_, _, rfl, rfl, po.bool w⟩
    · exact po.elim
  | LtE =>
    unfold cmpR at po
    dsimp only at po
    split at po
    · cases r1.int_inv; cases r2.int_inv
      exact op_le pins s σ H _ _ v u Q I rx ry ⟨_, _, rfl, rfl, po.bool w⟩
    · cases r1.str_inv; cases r2.str_inv
      exact op_le_str pins s σ H _ _ v u Q I rx ry ⟨_, _, rfl, rfl, po.bool w⟩
    · exact po.elim
  | GtE =>
    unfold cmpR at po
    dsimp only at po
    split at po
    · cases r1.int_inv; cases r2.int_inv
      exact op_ge pins s σ H _ _ v u Q I rx ry ⟨_, _, rfl, rfl, po.bool w⟩
    · cases r1.str_inv; cases r2.str_inv
      exact op_ge_str pins s σ H _ _ v u Q I rx ry ⟨_, _, rfl, rfl, po.bool w⟩
    · exact po.elim
  | Is =>
    have e : isR d1 d2 = R.bind (isR d1 d2) (fun c => R.pure c) := (R.bind_pure _).symm
    have po : Po X.K XA W ρ F H (isR d1 d2 hs) RelB (fun c H' => Q (.bl c) H') := po
    rw [e] at po
    exact isCase false (hq := fun c => c) (fun b => rfl) po
  | IsNot => exact isCase true (hq := fun c => !c) (fun b => rfl) po
  | In =>
    have e : inR d1 d2 = R.bind (inR d1 d2) (fun c => R.pure c) := (R.bind_pure _).symm
    have po : Po X.K XA W ρ F H (inR d1 d2 hs) RelB (fun c H' => Q (.bl c) H') := po
    rw [e] at po
    exact inCase false (hq := fun c => c) (fun b => rfl) po
  | NotIn => exact inCase true (hq := fun c => !c) (fun b => rfl) po
end
end Ny

set_option maxHeartbeats 1000000
/-! Ny: truth, one-place operators, subscripts, slices, built-ins, by values. -/
namespace Ny
open PySem PySem.Spec PyProof.Rows L2 PySem.SeqAt
section
variable {X : Cx} {XA : Nat → Option Addr}
/-! ### truth -/
def rTr (K : PySem.W.Frag) (XA : Nat → Option Addr) : V → Hp → (Bool → Hp → Prop) → Prop := fun x H Q => ∃ W ρ F h d, Wd K ρ F H h ∧ RdC K ρ F H x d ∧ Po K XA W ρ F H (truthR d h) RelB Q
theorem truth_of {K : PySem.W.Frag} {ρ : Rho} {F : Addr → Prop} {H : Hp} {h : Hs} {x : V} {d : D} {b : Bool} (w : Wd K ρ F H h) (r : RdC K ρ F H x d) (e : truthy d h = some b) : TruV K x H b := by
  unfold truthy at e
  split at e
  · cases r.non_inv; cases e; rfl
  · cases r.bl_inv; cases e; rfl
  · cases r.int_inv; cases e; rfl
  · cases r.str_inv
    split at e
    · rename_i z
      cases e
      refine ⟨Nat.le_of_ble_eq_true z, ?_⟩
      have gen : ∀ n : Nat, (n != 0) = ((n : Int) != 0) := fun n => by
        cases n with
        | zero => rfl
        | succ n =>
          have h1 : ((n + 1 : Nat) != 0) = true := by simp
          have h2 : (((n + 1 : Nat) : Int) != 0) = true := by
            rw [bne_iff_ne]
            omega
          rw [h1, h2]
      exact gen _
    · cases e
  · obtain ⟨a, vs, rfl, hs, q⟩ := r.tup_inv
    cases e
    refine .inr (.inl ⟨vs, hs, ?_⟩)
    cases q <;> rfl
  · obtain ⟨a, vs, rfl, hs, q⟩ := r.lst_inv
    cases e
    refine .inl ⟨vs, .of hs, ?_⟩
    cases q <;> rfl
  · obtain ⟨a, vs, rfl, hs, q⟩ := r.ro_inv
    cases e
    refine .inl ⟨vs, hs, ?_⟩
    cases q <;> rfl
  · cases e
  · obtain ⟨a, rfl, ea⟩ := r.obj_inv
    split at e
    · rename_i xs en
      obtain ⟨b', eb, vs, hb, q⟩ := w.obj _ _ en
      rw [ea] at eb
      cases eb
      cases e
      refine .inl ⟨vs, .of hb, ?_⟩
      cases q <;> rfl
    · cases e
theorem tr_ok : TruR X (rTr X.K XA) := by
  intro pins s σ H x v Q I rx h
  obtain ⟨W, ρ, F, hs, d, w, r, po⟩ := h
  refine tru_ok pins s σ H x v Q I rx ?_
  unfold truthR at po
  cases e : truthy d hs with
  | none => rw [e] at po; exact po.elim
  | some b =>
    rw [e] at po
    have po : Po X.K XA W ρ F H (R.pure b hs) RelB Q := po
    exact ⟨b, truth_of w r e, po.bool w⟩

/-! ### one place -/
def rN1 (K : PySem.W.Frag) (XA : Nat → Option Addr) (g : D → R D) : V → Hp → VK → Prop := fun x H Q => ∃ W ρ F h d, Wd K ρ F H h ∧ RdC K ρ F H x d ∧ Po K XA W ρ F H (g d h) (RdG K) Q
theorem un_ok {op : UnaryOp} : UnR X (unaryOp op) (rN1 X.K XA (unR op)) := by
  intro pins s σ H x v Q I rx h
  obtain ⟨W, ρ, F, hs, d, w, r, po⟩ := h
  unfold unR at po
  split at po
  · cases r.int_inv
    exact un_neg pins s σ H _ v Q I rx ⟨_, rfl, po.int w⟩
  · cases r.int_inv
    exact un_inv pins s σ H _ v Q I rx ⟨_, rfl, po.int w⟩
  · exact po.elim

/-! ### subscripts -/
def rIxN (K : PySem.W.Frag) (XA : Nat → Option Addr) : R2 := fun x y H Q => ∃ W ρ F h d1 d2, Wd K ρ F H h ∧ RdC K ρ F H x d1 ∧ RdC K ρ F H y d2 ∧ Po K XA W ρ F H (ixR d1 d2 h) (lf (Rd K)) Q
theorem ixPos_eq (n : Nat) (i : Int) : ixPos n i = ixN n i := rfl
theorem atD_of {K : PySem.W.Frag} {XA : Nat → Option Addr} {W : XK} {ρ : Rho} {F : Addr → Prop} {H : Hp} {hs : Hs} {xs : List D} {vs : List V} {k : Int} {Q : VK} (w : Wd K ρ F H hs) (r : Rds K ρ F H vs xs) (po : Po K XA W ρ F H (atD xs k hs) (lf (Rd K)) Q) :
    ∃ v, atI vs k = some v ∧ Q v H := by
  unfold atD at po
  obtain ⟨d, e, po⟩ := po.opt
  cases e1 : ixPos xs.length k with
  | none => rw [e1] at e; cases e
  | some j =>
    rw [e1] at e
    have e : xs[j]? = some d := e
    obtain ⟨v, hv, rv⟩ := r.get e
    refine ⟨v, ?_, po.now w rv⟩
    unfold atI
    rw [r.length, ← ixPos_eq, e1]
    exact hv
theorem onInt_of {K : PySem.W.Frag} {XA : Nat → Option Addr} {W : XK} {ρ : Rho} {F : Addr → Prop} {H : Hp} {hs : Hs} {d : D} {f : Int → R D} {y : V} {Q : VK} {Rel : RelT V D} (r : RdC K ρ F H y d) (po : Po K XA W ρ F H (onInt d f hs) Rel Q) :
    ∃ k, d = .int k ∧ y = .int k ∧ Po K XA W ρ F H (f k hs) Rel Q := by
  cases d with
  | int k => exact ⟨k, rfl, r.int_inv, po⟩
  | _ => exact po.elim
theorem dct_tail {value slice : Expr} {A : Around} {s : Shared} {Q E : Value → Shared → Prop} {o i : Value} (ht : s.TypeIs o "dict") (hsl : subscripted slice false o i = operate [o, i] (getItem o i))
    (h : wpAny (model X.prog X.w) A (getItem o i) Q E s) : wpAny (model X.prog X.w) A (subscriptTail value slice o i) Q E s := by
  unfold subscriptTail
  refine wpAny_bind ?_
  rw [getitemInPython_of_ne ht.not_modules]
  refine wpAny_bind (wpAny_specialOf ht PySem.F.slot_dict_getitem.lookup ?_)
  have fin : wpAny (model X.prog X.w) A (subscripted slice false o i) (fun r s₃ => wpAny (model X.prog X.w) A (letTemporaryGo value o r >>= fun _ => pure r) Q E s₃) E s := by
    rw [hsl]
    exact wpAny_operating (wpAny_mono h (fun r s₃ h₃ => wpAny_bind (wpAny_letTemporaryGo (wpAny_pure h₃))) fun _ _ x => x)
  first
    | exact wpAny_pure (wpAny_bind fin)
    | exact wpAny_bind (wpAny_pure (wpAny_bind fin))
    | exact wpAny_bind fin
theorem ix_ok (hu : X.A.units + 64 < cLine) : IxR X (rIxN X.K XA) := by
  intro value slice pins s σ H x y v u Q I rx ry h hsl
  obtain ⟨W, ρ, F, hs, d1, d2, w, r1, r2, po⟩ := h
  unfold ixR at po
  have lst : ∀ {a : Addr} {vs : List V} {xs : List D}, x = .ref a → SqL X.K H a vs → Rds X.K ρ F H vs xs → Po X.K XA W ρ F H (onInt d2 (atD xs) hs) (lf (Rd X.K)) Q →
      wpAny (model X.prog X.w) X.A (subscriptTail value slice v u) (EP X pins σ Q) X.xe s := by
    intro a vs xs e sq q po
    obtain ⟨k, rfl, ey, po⟩ := onInt_of r2 po
    obtain ⟨v', e2, hq⟩ := atD_of w q po
    exact ix_list value slice pins s σ H _ _ v u Q I rx ry ⟨a, vs, _, v', e, ey, sq, e2, hq⟩ hsl
  cases d1 with
  | tup xs =>
    obtain ⟨a, vs, e, sq, q⟩ := r1.tup_inv
    obtain ⟨k, rfl, ey, po⟩ := onInt_of r2 po
    obtain ⟨v', e2, hq⟩ := atD_of w q po
    exact ix_tup value slice pins s σ H _ _ v u Q I rx ry ⟨a, vs, _, v', e, ey, sq, e2, hq⟩ hsl
  | lst xs =>
    obtain ⟨a, vs, e, sq, q⟩ := r1.lst_inv
    exact lst e (.of sq) q po
  | ro xs =>
    obtain ⟨a, vs, e, sq, q⟩ := r1.ro_inv
    exact lst e sq q po
  | str z =>
    have ex := r1.str_inv
    obtain ⟨k, rfl, ey, po⟩ := onInt_of r2 po
    unfold chAt at po
    obtain ⟨c, po⟩ := po.need
    obtain ⟨d, e, po⟩ := po.opt
    cases e1 : ixPos z.length k with
    | none => rw [e1] at e; cases e
    | some j =>
      rw [e1] at e
      have e : (z.cps.toList[j]?).map (fun c => D.str ⟨#[c]⟩) = some d := e
      cases e2 : z.cps.toList[j]? with
      | none =>
        rw [e2] at e
        cases e
      | some ch =>
        rw [e2] at e
        cases e
        refine ix_str value slice pins s σ H _ _ v u Q I rx ry ⟨z, k, ch, ex, ey, big_of c, ?_, po.now w (.str _)⟩ hsl
        unfold atI
        have el : z.cps.toList.length = z.length := by rw [Array.length_toList]; rfl
        rw [el, ← ixPos_eq, e1]
        exact e2
  | dct tk kvs =>
    have po : Po X.K XA W ρ F H (R.need (keyTk tk d2) (R.ofOpt (lookD d2 kvs)) hs) (lf (Rd X.K)) Q := po
    obtain ⟨hk, po⟩ := po.need
    obtain ⟨d, e, po⟩ := po.opt
    obtain ⟨a, ex, c⟩ := r1.dct_inv
    subst ex
    obtain rfl : v = Value.ref a := rx
    exact dct_tail (dct_type I c) hsl (dct_look (by omega) I c hk (RdC.now r2 (key_nd hk)) ry e fun v' w' s' r' I' rv' => ⟨v', H, I', rv', po.now w r'⟩)
  | obj n =>
    obtain ⟨a, ex, ea⟩ := r1.obj_inv
    dsimp only at po
    cases en : hs[n]? with
    | none => rw [en] at po; exact po.elim
    | some o =>
      rw [en] at po
      cases o with
      | lst xs =>
        obtain ⟨b', eb, vs, hb, q⟩ := w.obj _ _ en
        rw [ea] at eb
        cases eb
        exact lst ex (.of hb) q po
      | dct _ kvs =>
        obtain ⟨b', eb, mo⟩ := w.obj _ _ en
        exact mo.elim
      | ins c fs => exact po.elim
  | non => exact po.elim
  | bl b => exact po.elim
  | int i => exact po.elim

/-! ### slices -/
theorem cut_eq (xs : List V) (lo hi : Option Int) : cut xs lo hi = cutV xs lo hi := rfl
theorem Rds.cut {K : PySem.W.Frag} {ρ : Rho} {F : Addr → Prop} {H : Hp} {vs : List V} {xs : List D} (r : Rds K ρ F H vs xs) (lo hi : Option Int) : Rds K ρ F H (cutV vs lo hi) (Ny.cut xs lo hi) := by
  rw [← cut_eq]
  unfold Ny.cut
  rw [r.length]
  exact (r.drop _).take _
def rSlN (K : PySem.W.Frag) (XA : Nat → Option Addr) : V → Option Int → Option Int → Hp → VK → Prop := fun x lo hi H Q => ∃ W ρ F h d, Wd K ρ F H h ∧ RdC K ρ F H x d ∧ Po K XA W ρ F H (slR d lo hi h) (RdG K) Q
theorem sl_ok : SlR X (rSlN X.K XA) := by
  intro pins s σ H x v vl vu lo hi sl Q I rx hsl pl pu h
  obtain ⟨W, ρ, F, hs, d, w, r, po⟩ := h
  unfold slR at po
  split at po
  · obtain ⟨a, vs, rfl, sq, q⟩ := r.tup_inv
    rename_i xs
    refine sl_tupA pins s σ H _ v vl vu lo hi sl Q I rx hsl pl pu ⟨a, vs, rfl, sq, fun wh => ?_, fun nw p h0 => po.newT w h0 (q.cut lo hi)⟩
    have e : Ny.cut xs lo hi = xs := by
      unfold Ny.cut
      rw [← q.length]
      have e1 : cutAt vs.length 0 lo = 0 := wh.1
      have e2 : cutAt vs.length vs.length hi = vs.length := wh.2
      rw [e1, e2, List.drop_zero, q.length]
      exact List.take_length
    rw [e] at po
    cases r with
    | rd r => exact po.val w rfl r
    | own n c => exact c.elim
  · obtain ⟨a, vs, rfl, sq, q⟩ := r.lst_inv
    exact sl_list pins s σ H _ v vl vu lo hi sl Q I rx hsl pl pu ⟨a, vs, rfl, .of sq, fun p h0 => po.newL w h0 (q.cut lo hi)⟩
  · obtain ⟨a, vs, rfl, sq, q⟩ := r.ro_inv
    exact sl_list pins s σ H _ v vl vu lo hi sl Q I rx hsl pl pu ⟨a, vs, rfl, sq, fun p h0 => po.newL w h0 (q.cut lo hi)⟩
  · rename_i z
    cases r.str_inv
    obtain ⟨c, po⟩ := po.need
    refine sl_str pins s σ H _ v vl vu lo hi sl Q I rx hsl pl pu ⟨z, rfl, big_of c, ?_⟩
    have e : cutS z lo hi = ⟨(Ny.cut z.cps.toList lo hi).toArray⟩ := by
      unfold cutS Ny.cut
      have el : z.cps.toList.length = z.length := by rw [Array.length_toList]; rfl
      rw [el]
      rfl
    rw [e]
    exact po.str w
  · exact po.elim

/-! ### built-ins -/
def rBl (K : PySem.W.Frag) (XA : Nat → Option Addr) (g : List D → R D) : List V → Hp → VK → Prop := fun xs H Q => ∃ W ρ F h ds, Wd K ρ F H h ∧ RdCs K ρ F H xs ds ∧ Po K XA W ρ F H (g ds h) (RdG K) Q
theorem RdCs.one_inv {K : PySem.W.Frag} {ρ : Rho} {F : Addr → Prop} {H : Hp} {vs : List V} {d : D} (r : RdCs K ρ F H vs [d]) : ∃ v, vs = [v] ∧ RdC K ρ F H v d := by
  cases r with
  | cons r t => cases t; exact ⟨_, rfl, r⟩
theorem RdCs.two_inv {K : PySem.W.Frag} {ρ : Rho} {F : Addr → Prop} {H : Hp} {vs : List V} {d e : D} (r : RdCs K ρ F H vs [d, e]) : ∃ v u, vs = [v, u] ∧ RdC K ρ F H v d ∧ RdC K ρ F H u e := by
  cases r with
  | cons r t =>
    obtain ⟨u, rfl, q⟩ := RdCs.one_inv t
    exact ⟨_, _, rfl, r, q⟩
/-- the items of a list, looked at -/
theorem lst_of {α : Type} {β : Type} {K : PySem.W.Frag} {W : XK} {ρ : Rho} {F : Addr → Prop} {H : Hp} {h : Hs} {x : V} {d : D} {f : List D → R α} {Rel : RelT β α} {Q : β → Hp → Prop} (w : Wd K ρ F H h) (r : RdC K ρ F H x d) (po : Po K XA W ρ F H (R.bind (lstR d) f h) Rel Q) :
    ∃ a vs xs, x = .ref a ∧ SqL K H a vs ∧ Rds K ρ F H vs xs ∧ Po K XA W ρ F H (f xs h) Rel Q := by
  unfold R.bind lstR at po
  cases d with
  | lst xs =>
    obtain ⟨a, vs, e, sq, q⟩ := r.lst_inv
    exact ⟨a, vs, xs, e, .of sq, q, po⟩
  | ro xs =>
    obtain ⟨a, vs, e, sq, q⟩ := r.ro_inv
    exact ⟨a, vs, xs, e, sq, q, po⟩
  | obj n =>
    obtain ⟨a, rfl, ea⟩ := r.obj_inv
    dsimp only at po
    cases e : h[n]? with
    | none => rw [e] at po; exact po.elim
    | some o =>
      rw [e] at po
      cases o with
      | lst xs =>
        obtain ⟨b', eb, vs, hb, q⟩ := w.obj _ _ e
        rw [ea] at eb
        cases eb
        exact ⟨a, vs, xs, rfl, .of hb, q, po⟩
      | dct _ _ => exact po.elim
      | ins _ _ => exact po.elim
  | _ => exact po.elim
theorem seq_of {α : Type} {β : Type} {K : PySem.W.Frag} {W : XK} {ρ : Rho} {F : Addr → Prop} {H : Hp} {h : Hs} {x : V} {d : D} {f : List D → R α} {Rel : RelT β α} {Q : β → Hp → Prop} (w : Wd K ρ F H h) (r : RdC K ρ F H x d) (po : Po K XA W ρ F H (R.bind (seqR d) f h) Rel Q) :
    ∃ a vs xs, x = .ref a ∧ ((SqL K H a vs) ∨ (SqT K H a vs ∧ d = .tup xs)) ∧ Rds K ρ F H vs xs ∧ Po K XA W ρ F H (f xs h) Rel Q := by
  cases d with
  | tup xs =>
    obtain ⟨a, vs, e, sq, q⟩ := r.tup_inv
    exact ⟨a, vs, xs, e, .inr ⟨sq, rfl⟩, q, po⟩
  | _ =>
    obtain ⟨a, vs, xs, e, sq, q, po⟩ := lst_of w r po
    exact ⟨a, vs, xs, e, .inl sq, q, po⟩
theorem bools_of {K : PySem.W.Frag} {ρ : Rho} {F : Addr → Prop} {H : Hp} : ∀ {vs : List V} {xs : List D} {bs : List Bool}, Rds K ρ F H vs xs → bools xs = some bs → vs = bs.map V.bl
  | _, _, _, .nil, e => by simp [bools] at e; subst e; rfl
  | _, _, bs, .cons r t, e => by
    cases r with
    | bl b =>
      rename_i ds
      unfold bools at e
      cases e1 : bools ds with
      | none => rw [e1] at e; cases e
      | some cs =>
        rw [e1] at e
        cases e
        rw [bools_of t e1]
        rfl
    | _ => simp [bools] at e
theorem ints_of {K : PySem.W.Frag} {ρ : Rho} {F : Addr → Prop} {H : Hp} : ∀ {vs : List V} {xs : List D} {bs : List Int}, Rds K ρ F H vs xs → intsOf xs = some bs → vs = bs.map V.int
  | _, _, _, .nil, e => by simp [intsOf] at e; subst e; rfl
  | _, _, bs, .cons r t, e => by
    cases r with
    | int b =>
      rename_i ds
      unfold intsOf at e
      cases e1 : intsOf ds with
      | none => rw [e1] at e; cases e
      | some cs =>
        rw [e1] at e
        cases e
        rw [ints_of t e1]
        rfl
    | _ => simp [intsOf] at e
theorem maxI_ok : ∀ (xs : List Int) (m : Int), (maxI m xs = m ∨ maxI m xs ∈ xs) ∧ m ≤ maxI m xs ∧ ∀ x ∈ xs, x ≤ maxI m xs
  | [], m => ⟨.inl rfl, Int.le_refl _, fun _ h => by cases h⟩
  | x :: xs, m => by
    unfold maxI
    obtain ⟨h1, h2, h3⟩ := maxI_ok xs (if x > m then x else m)
    have hm : m ≤ (if x > m then x else m) := by split <;> omega
    have hx : x ≤ (if x > m then x else m) := by split <;> omega
    refine ⟨?_, by omega, fun y hy => ?_⟩
    · rcases h1 with h1 | h1
      · rw [h1]
        split
        · exact .inr List.mem_cons_self
        · exact .inl rfl
      · exact .inr (List.mem_cons_of_mem _ h1)
    · rcases List.mem_cons.mp hy with rfl | hy
      · omega
      · exact h3 y hy
theorem minI_ok : ∀ (xs : List Int) (m : Int), (minI m xs = m ∨ minI m xs ∈ xs) ∧ minI m xs ≤ m ∧ ∀ x ∈ xs, minI m xs ≤ x
  | [], m => ⟨.inl rfl, Int.le_refl _, fun _ h => by cases h⟩
  | x :: xs, m => by
    unfold minI
    obtain ⟨h1, h2, h3⟩ := minI_ok xs (if x < m then x else m)
    have hm : (if x < m then x else m) ≤ m := by split <;> omega
    have hx : (if x < m then x else m) ≤ x := by split <;> omega
    refine ⟨?_, by omega, fun y hy => ?_⟩
    · rcases h1 with h1 | h1
      · rw [h1]
        split
        · exact .inr List.mem_cons_self
        · exact .inl rfl
      · exact .inr (List.mem_cons_of_mem _ h1)
    · rcases List.mem_cons.mp hy with rfl | hy
      · omega
      · exact h3 y hy
/-- the name by which a built-in is called, and what the name stands for -/
def Blt.name : Blt → Str
  | .len => "len"
  | .all => "all"
  | .any => "any"
  | .tuple => "tuple"
  | .list => "list"
  | .sorted => "sorted"
  | .int => "int"
  | .abs => "abs"
  | .min => "min"
  | .max => "max"
  | .sum => "sum"
  | .str => "str"
  | .sortedSet => "sorted"
  | .lenSet => "len"
  | .dict => "dict"
def Blt.val : Blt → Value
  | .len => .builtin "len"
  | .all => .builtin "all"
  | .any => .builtin "any"
  | .tuple => .type "tuple"
  | .list => .type "list"
  | .sorted => .builtin "sorted"
  | .int => .type "int"
  | .abs => .builtin "abs"
  | .min => .builtin "min"
  | .max => .builtin "max"
  | .sum => .builtin "sum"
  | .str => .type "str"
  | .sortedSet => .builtin "sorted"
  | .lenSet => .builtin "len"
  | .dict => .type "dict"
/-- what is sorted: the rule (proved in its own module) -/
def SortOk (X : Cx) (XA : Nat → Option Addr) : Prop := CallR X (.builtin "sorted") (rBl X.K XA (bltR .sorted))
theorem blt_ok (hc : X.calm = true) (hso : SortOk X XA) {b : Blt} (h1 : b ≠ .sortedSet) (h2 : b ≠ .lenSet) (h3 : b ≠ .dict) : CallR X b.val (rBl X.K XA (bltR b)) := by
  by_cases hsd : b = .sorted
  · subst hsd
    exact hso
  intro pins s σ H xs us Q I rx h
  obtain ⟨W, ρ, F, hs, ds, w, rr, po⟩ := h
  unfold bltR at po
  split at po
  · -- len
    obtain ⟨v, rfl, r⟩ := rr.one_inv
    unfold lenR at po
    split at po
    · cases r.str_inv
      obtain ⟨c, po⟩ := po.need
      exact call_len_str pins s σ H _ us Q I rx ⟨_, rfl, big_of c, po.int w⟩
    · exact po.elim
    · obtain ⟨a, vs, xs, rfl, sq, q, po⟩ := seq_of w r po
      refine call_len_seq pins s σ H _ us Q I rx ⟨a, vs, rfl, ?_, ?_⟩
      · rcases sq with sq | sq
        · exact .inl sq
        · exact .inr sq.1
      · have := po.int w
        rw [q.length]
        exact this
  · obtain ⟨v, rfl, r⟩ := rr.one_inv
    obtain ⟨a, vs, xs, rfl, sq, q, po⟩ := lst_of w r po
    obtain ⟨d, e, po⟩ := po.opt
    cases e1 : bools xs with
    | none => rw [e1] at e; cases e
    | some bs =>
      rw [e1] at e
      cases e
      rw [bools_of q e1] at sq
      exact cr_all hc pins s σ H _ us Q I rx ⟨a, bs, rfl, sq, po.val w rfl (.bl _)⟩
  · obtain ⟨v, rfl, r⟩ := rr.one_inv
    obtain ⟨a, vs, xs, rfl, sq, q, po⟩ := lst_of w r po
    obtain ⟨d, e, po⟩ := po.opt
    cases e1 : bools xs with
    | none => rw [e1] at e; cases e
    | some bs =>
      rw [e1] at e
      cases e
      rw [bools_of q e1] at sq
      exact cr_any hc pins s σ H _ us Q I rx ⟨a, bs, rfl, sq, po.val w rfl (.bl _)⟩
  · obtain ⟨v, rfl, r⟩ := rr.one_inv
    have r0 := r
    obtain ⟨a, vs, xs, rfl, sq, q, po⟩ := seq_of w r po
    refine call_tuple_of pins s σ H _ us Q I rx ⟨a, vs, rfl, ?_⟩
    rcases sq with sq | ⟨sq, rfl⟩
    · exact .inl ⟨sq, fun l h0 => po.newT w h0 q⟩
    · refine .inr ⟨sq, ?_⟩
      cases r0 with
      | rd r => exact po.val w rfl r
      | own n c => exact c.elim
  · obtain ⟨v, rfl, r⟩ := rr.one_inv
    obtain ⟨a, vs, xs, rfl, sq, q, po⟩ := seq_of w r po
    refine call_list_of pins s σ H _ us Q I rx ⟨a, vs, rfl, ?_, fun l h0 => po.newL w h0 q⟩
    rcases sq with sq | sq
    · exact .inl sq
    · exact .inr sq.1
  · exact absurd rfl hsd
  · exact absurd rfl h1
  · exact absurd rfl h3
  · exact absurd rfl h2
  · obtain ⟨v, rfl, r⟩ := rr.one_inv
    cases r.int_inv
    exact call_int1 pins s σ H _ us Q I rx (.inl ⟨_, rfl, po.int w⟩)
  · obtain ⟨v, rfl, r⟩ := rr.one_inv
    cases r.bl_inv
    exact call_int1 pins s σ H _ us Q I rx (.inr ⟨_, rfl, po.int w⟩)
  · obtain ⟨v, rfl, r⟩ := rr.one_inv
    cases r.int_inv
    exact call_abs pins s σ H _ us Q I rx ⟨_, rfl, po.int w⟩
  · obtain ⟨v, rfl, r⟩ := rr.one_inv
    obtain ⟨a, vs, xs, rfl, sq, q, po⟩ := lst_of w r po
    obtain ⟨d, e, po⟩ := po.opt
    cases e1 : intsOf xs with
    | none => rw [e1] at e; cases e
    | some bs =>
      rw [e1] at e
      cases e
      rw [ints_of q e1] at sq
      exact cr_sum hc pins s σ H _ us Q I rx ⟨a, bs, rfl, sq, po.int w⟩
  · obtain ⟨v, rfl, r⟩ := rr.one_inv
    cases r.int_inv
    obtain ⟨c, po⟩ := po.need
    exact call_str_int pins s σ H _ us Q I rx ⟨_, rfl, of_decide_eq_true c, po.str w⟩
  · obtain ⟨v, rfl, r⟩ := rr.one_inv
    cases r.str_inv
    exact SkE.call_str_str pins s σ H _ us Q I rx ⟨_, rfl, po.str w⟩
  · obtain ⟨v, v2, rfl, r, r2⟩ := rr.two_inv
    cases r.int_inv
    cases r2.int_inv
    exact call_max2 hc pins s σ H _ us Q I rx ⟨_, _, rfl, po.int w⟩
  · obtain ⟨v, v2, rfl, r, r2⟩ := rr.two_inv
    cases r.int_inv
    cases r2.int_inv
    exact call_min2 hc pins s σ H _ us Q I rx ⟨_, _, rfl, po.int w⟩
  · obtain ⟨v, rfl, r⟩ := rr.one_inv
    obtain ⟨a, vs, xs, rfl, sq, q, po⟩ := lst_of w r po
    obtain ⟨d, e, po⟩ := po.opt
    cases e1 : intsOf xs with
    | none => rw [e1] at e; cases e
    | some bs =>
      rw [e1] at e
      have e : headI maxI bs = some d := e
      cases bs with
      | nil => cases e
      | cons i is =>
      cases e
      rw [ints_of q e1] at sq
      obtain ⟨h1, h2, h3⟩ := maxI_ok is i
      refine cr_max hc pins s σ H _ us Q I rx ⟨a, i :: is, rfl, sq, by simp, fun m hm hall => ?_⟩
      have e : m = maxI i is := by
        have b1 : maxI i is ≤ m := hall _ (by
          rcases h1 with h1 | h1
          · rw [h1]; exact List.mem_cons_self
          · exact List.mem_cons_of_mem _ h1)
        have b2 : m ≤ maxI i is := by
          rcases List.mem_cons.mp hm with rfl | hm
          · exact h2
          · exact h3 m hm
        omega
      rw [e]
      exact po.int w
  · obtain ⟨v, rfl, r⟩ := rr.one_inv
    obtain ⟨a, vs, xs, rfl, sq, q, po⟩ := lst_of w r po
    obtain ⟨d, e, po⟩ := po.opt
    cases e1 : intsOf xs with
    | none => rw [e1] at e; cases e
    | some bs =>
      rw [e1] at e
      have e : headI minI bs = some d := e
      cases bs with
      | nil => cases e
      | cons i is =>
      cases e
      rw [ints_of q e1] at sq
      obtain ⟨h1, h2, h3⟩ := minI_ok is i
      refine cr_min hc pins s σ H _ us Q I rx ⟨a, i :: is, rfl, sq, by simp, fun m hm hall => ?_⟩
      have e : m = minI i is := by
        have b1 : m ≤ minI i is := hall _ (by
          rcases h1 with h1 | h1
          · rw [h1]; exact List.mem_cons_self
          · exact List.mem_cons_of_mem _ h1)
        have b2 : minI i is ≤ m := by
          rcases List.mem_cons.mp hm with rfl | hm
          · exact h2
          · exact h3 m hm
        omega
      rw [e]
      exact po.int w
  · exact po.elim
end
end Ny

set_option maxHeartbeats 2000000
/-! Ny: dict(pairs). -/
namespace Ny
open PySem PySem.Spec PyProof.Rows L2
def mergeG {κ : Type} [DecidableEq κ] (kvs more : List (κ × V)) : List (κ × V) := more.foldl (fun acc kv => putK acc kv.1 kv.2) kvs
theorem KT.mergeG {H : Hp} : ∀ {more : List (List Key × V)} {rs : List (List Key × Addr × Value)} {kvs : List (List Key × V)} {vs : List (List Key × Addr × Value)}, KT H more rs → KT H kvs vs → KT H (Ny.mergeG kvs more) (storedAllH vs rs)
  | _, _, _, _, .nil, q => q
  | _, _, kvs, vs, .cons (a := p) (b := r) h t, q => by
    have st : KT H (putK kvs p.1 p.2) (storedH vs r.1 r.2.1 r.2.2) := by
      rw [← h.1]
      exact L2.KT.put q p.1 h.2.1 h.2.2
    exact Ny.KT.mergeG (kvs := putK kvs p.1 p.2) (vs := storedH vs r.1 r.2.1 r.2.2) t st
theorem length_putG {κ : Type} [DecidableEq κ] (kvs : List (κ × V)) (k : κ) (v : V) : (putK kvs k v).length ≤ kvs.length + 1 := by
  unfold putK
  split
  · rw [List.length_map]; exact Nat.le_succ _
  · rw [List.length_append, List.length_singleton]; exact Nat.le_refl _
theorem length_mergeG {κ : Type} [DecidableEq κ] : ∀ (more kvs : List (κ × V)), (mergeG kvs more).length ≤ kvs.length + more.length
  | [], kvs => Nat.le_refl _
  | p :: more, kvs => by
    have h1 := length_mergeG more (putK kvs p.1 p.2)
    have h2 := length_putG kvs p.1 p.2
    rw [List.length_cons]
    show (mergeG (putK kvs p.1 p.2) more).length ≤ _
    omega
section
variable {X : Cx}
/-- a pair (key, value), the key a tuple, as it lies there -/
def PairT (H : Hp) (p : Addr) (kv : List Key × V) : Prop := ∃ b, H p = some (.tup [.ref b, kv.2]) ∧ H b = some (.tup (kv.1.map kV))
theorem pairsT_of {pins : List (Addr × Obj)} {σ : L2.St} {H : Hp} {s : Shared} (I : Inv X pins σ H s) : ∀ {ps : List Addr} {kvs : List (List Key × V)}, Paired (PairT H) ps kvs →
    ∃ prs : List (List Key × Addr × Value), KT H kvs prs ∧ prs.length = ps.length ∧ ∀ (j : Nat) (q : List Key × Addr × Value), prs[j]? = some q → ∃ b : Addr, ps[j]? = some b ∧ IsTup s.heap b #[.ref q.2.1, q.2.2] ∧ H q.2.1 = some (.tup (q.1.map kV))
  | _, _, .nil => ⟨[], .nil, rfl, fun j q e => by simp at e⟩
  | _, _, .cons (a := p) (b := kv) h t => by
    obtain ⟨prs, r, hl, hp⟩ := pairsT_of I t
    obtain ⟨b, h1, h2⟩ := h
    obtain ⟨its, rv, ht, _⟩ := I.tuple (.inl (.inl h1))
    obtain ⟨u, y, ei, ru, ry⟩ := vals2 rv
    subst ei
    obtain rfl : u = Value.ref b := ru
    refine ⟨(kv.1, b, y) :: prs, .cons ⟨rfl, h2, ry⟩ r, by rw [List.length_cons, List.length_cons, hl], fun j q e => ?_⟩
    cases j with
    | zero =>
      have e' : (kv.1, b, y) = q := Option.some.inj e
      subst e'
      exact ⟨p, rfl, ht, h2⟩
    | succ j =>
      obtain ⟨b', e1, e2, e3⟩ := hp j q (by simpa using e)
      exact ⟨b', by simpa using e1, e2, e3⟩
/-- dict(xs) of a list of pairs whose keys are tuples -/
theorem call_dictPT (hcalm : X.calm = true) (hu : X.A.units + 64 < cLine) : CallR X (.type "dict") (fun xs H Q => ∃ (a : Addr) (ps : List Addr) (kvs : List (List Key × V)), xs = [.ref a] ∧ SqL X.K H a (ps.map V.ref) ∧ Paired (PairT H) ps kvs ∧
    ∀ p, H p = none → Q (.ref p) (upd H p (.dT (mergeG [] kvs)))) := by
  intro pins s σ H xs us Q I r q
  obtain ⟨a, ps, kvs, ex, hq, hp, q⟩ := q
  subst ex
  obtain ⟨u, eu, rx⟩ := vals1 r
  subst eu
  cases rx
  obtain ⟨its, rv, pl, hz⟩ := I.list hq
  have ei := refs_at rv
  subst ei
  rw [List.length_map] at hz
  obtain ⟨prs, rel, hl, hpr⟩ := pairsT_of I hp
  obtain ⟨o, n, ho, hc, hd, hdat⟩ := pl
  have hlen2 : (prs.map fun q => ((Value.ref q.2.1, q.2.2) : Value × Value)).length = ps.length := by rw [List.length_map]; exact hl
  refine PySem.call_dict_pairsH (knd := tupleKind (mixKind X.prog X.w)) (ps := prs) (PairArg.list a (ps.map Value.ref).toArray (fun j => ps.getD j 0) (prs.map fun q => (Value.ref q.2.1, q.2.2))) (I.ok.hd hcalm) (tupleKind_room_in1 (A := X.A.in1) (show X.A.units + 1 + 1 < cLine by omega))
    ⟨⟨o, n, ho, hc, hd, hdat⟩, by rw [hlen2, List.size_toArray, List.length_map], fun j k v hj => ?_⟩ ⟨by rw [List.length_map], fun i key v hrel => ?_⟩ (fun h' hk x hx => ?_) (by rw [hlen2]; exact hz) fun h' tk hd' k => ?_
  · rw [List.getElem?_map] at hj
    cases e : prs[j]? with
    | none => rw [e] at hj; cases hj
    | some q0 =>
      rw [e] at hj
      cases hj
      obtain ⟨b, e1, e2, e3⟩ := hpr j q0 e
      have e4 : ps.getD j 0 = b := by rw [List.getD_eq_getElem?_getD, e1]; rfl
      show _ = some (Value.ref (ps.getD j 0)) ∧ PairAt s.heap (ps.getD j 0) _ _
      rw [e4]
      exact ⟨by simp [e1], .inl (show s.heap.IsTuple b #[.ref q0.2.1, q0.2.2] from e2)⟩
  · have hrel : (prs.map fun q => ((Value.ref q.2.1, q.2.2) : Value × Value))[i]? = some (key, v) := hrel
    rw [List.getElem?_map] at hrel
    cases e : prs[i]? with
    | none => rw [e] at hrel; cases hrel
    | some q0 =>
      rw [e] at hrel
      cases hrel
      exact ⟨q0.1, q0.2.1, rfl, rfl⟩
  · obtain ⟨j, hj⟩ := List.mem_iff_getElem?.mp hx
    obtain ⟨b, e1, e2, e3⟩ := hpr j x hj
    obtain ⟨ok, its2, n2, g1, g2, g3, g4⟩ := key_of (P := X.prog) (w := X.w) I.hok e3
    exact ⟨ok, its2, n2, hk _ _ (Nat.ne_of_lt (Heap.lt_size g1)) (by simp) g1, g2, g3, g4⟩
  · have hm : (s.heap.objs.size == sysModules) = false := beq_eq_false_iff_ne.mpr (Nat.ne_of_gt I.big)
    have hlen : (mergeG [] kvs).length ≤ sizeLine := by
      refine Nat.le_trans (length_mergeG kvs []) ?_
      rw [List.length_nil, Nat.zero_add, rel.length, hl]
      exact hz
    have h0 : H s.heap.objs.size = none := I.hok.fresh (Nat.le_refl _)
    have rel2 : KT (upd H s.heap.objs.size (.dT (mergeG [] kvs))) (mergeG [] kvs) (storedAllH [] prs) := L2.KT.keeps (KT.mergeG rel .nil) fun b ys e => by
      rw [upd_ne (fun z => by rw [z, h0] at e; cases e)]
      exact e
    obtain ⟨od, es, ep, d1, d2, d3, d4, d5, d6⟩ := hd'
    exact ⟨.ref s.heap.objs.size, upd H s.heap.objs.size (.dT (mergeG [] kvs)), I.laid (t' := tk) (fun b o e => k b o (by simp) e) (Nat.le_refl _) (show ObjOk X.prog X.w _ _ _ (.dT (mergeG [] kvs)) from ⟨hlen, hm, storedAllH [] prs, rel2, od, es, ep, d1, d2, d3, d4, d6⟩), rfl, q _ h0⟩
end
/-! ### as data -/
section
variable {K : PySem.W.Frag} {XA : Nat → Option Addr} {ρ : Rho} {F : Addr → Prop} {H : Hp}
theorem pairs_rd : ∀ {vs : List V} {xs : List D} {kvs : List (D × D)}, Rds K ρ F H vs xs → pairsV xs = some kvs →
    ∃ ps : List (Addr × V × V), vs = ps.map (fun p => V.ref p.1) ∧ Paired (fun p kv => H p.1 = some (.tup [p.2.1, p.2.2]) ∧ Rd K ρ F H p.2.1 kv.1 ∧ Rd K ρ F H p.2.2 kv.2) ps kvs
  | _, _, _, .nil, e => by cases e; exact ⟨[], rfl, .nil⟩
  | _, _, kvs, .cons (d := d) (ds := ds) r t, e => by
    cases r with
    | tup tt rs =>
      cases rs with
      | nil => cases e
      | cons r1 rs =>
        cases rs with
        | nil => cases e
        | cons r2 rs =>
          cases rs with
          | cons => cases e
          | nil =>
            rename_i a v1 k v2 d2
            have e : (pairsV ds).map ((k, d2) :: ·) = some kvs := e
            obtain ⟨r', e1, e2⟩ := Option.map_eq_some_iff.mp e
            subst e2
            obtain ⟨ps, q1, q2⟩ := pairs_rd t e1
            exact ⟨(a, v1, v2) :: ps, by rw [q1]; rfl, .cons ⟨tt.1, r1, r2⟩ q2⟩
    | _ => cases e
theorem pairs_K : ∀ {ps : List (Addr × V × V)} {kvs : List (D × D)}, Paired (fun p kv => H p.1 = some (.tup [p.2.1, p.2.2]) ∧ Rd K ρ F H p.2.1 kv.1 ∧ Rd K ρ F H p.2.2 kv.2) ps kvs → kvs.all (fun kv => keyTk false kv.1) = true →
    ∃ ws : List (Key × V), Paired (fun p kv => SqT K H p [kV kv.1, kv.2]) (ps.map (·.1)) ws ∧ PrK K ρ F H ws kvs
  | _, _, .nil, _ => ⟨[], .nil, .nil⟩
  | _, _, .cons (a := p) (b := kv) h t, e => by
    rw [List.all_cons] at e
    obtain ⟨e1, e2⟩ := Bool.and_eq_true_iff.mp e
    obtain ⟨ws, q1, q2⟩ := pairs_K t e2
    rcases keyTk_of e1 with ⟨z, _⟩ | ⟨_, k, ek⟩
    · cases z
    · obtain ⟨k0, d0⟩ := kv
      have ek : k0 = kD k := ek
      subst ek
      obtain ⟨h1, h2, h3⟩ := h
      have hv := kD_rd h2
      rw [hv] at h1
      exact ⟨(k, p.2.2) :: ws, .cons (.inl (.inl h1)) q1, .cons h3 q2⟩
theorem pairs_T : ∀ {ps : List (Addr × V × V)} {kvs : List (D × D)}, Paired (fun p kv => H p.1 = some (.tup [p.2.1, p.2.2]) ∧ Rd K ρ F H p.2.1 kv.1 ∧ Rd K ρ F H p.2.2 kv.2) ps kvs → kvs.all (fun kv => keyTk true kv.1) = true →
    ∃ ws : List (List Key × V), Paired (PairT H) (ps.map (·.1)) ws ∧ PrT K ρ F H ws kvs
  | _, _, .nil, _ => ⟨[], .nil, .nil⟩
  | _, _, .cons (a := p) (b := kv) h t, e => by
    rw [List.all_cons] at e
    obtain ⟨e1, e2⟩ := Bool.and_eq_true_iff.mp e
    obtain ⟨ws, q1, q2⟩ := pairs_T t e2
    rcases keyTk_of e1 with ⟨_, k, ek⟩ | ⟨z, _⟩
    · obtain ⟨k0, d0⟩ := kv
      have ek : k0 = .tup (k.map kD) := ek
      subst ek
      obtain ⟨h1, h2, h3⟩ := h
      obtain ⟨pa, v1, v2⟩ := p
      cases h2 with
      | tup tt rs =>
        have hv := kDs_rd rs
        subst hv
        exact ⟨(k, v2) :: ws, .cons ⟨_, h1, tt.1⟩ q1, .cons h3 q2⟩
    · cases z
theorem PrK.mergeG : ∀ {us : List (Key × V)} {ks : List (D × D)} {ws : List (Key × V)} {kvs : List (D × D)}, PrK K ρ F H us ks → PrK K ρ F H ws kvs → PrK K ρ F H (mergeK ws us) (mergeD kvs ks)
  | _, _, _, _, .nil, q => q
  | _, _, ws, kvs, .cons (k := k) (v := v) (d := d) r t, q => PrK.mergeG (ws := putK ws k v) (kvs := putD (kD k) d kvs) t (q.put r)
theorem PrT.mergeG : ∀ {us : List (List Key × V)} {ks : List (D × D)} {ws : List (List Key × V)} {kvs : List (D × D)}, PrT K ρ F H us ks → PrT K ρ F H ws kvs → PrT K ρ F H (Ny.mergeG ws us) (mergeD kvs ks)
  | _, _, _, _, .nil, q => q
  | _, _, ws, kvs, .cons (k := k) (v := v) (d := d) r t, q => PrT.mergeG (ws := putK ws k v) (kvs := putD (.tup (k.map kD)) d kvs) t (q.put r)
theorem Po.newD {W : XK} {Q : VK} {h : Hs} {p : Addr} {o : HO} {tk : Bool} {kvs : List (D × D)} (w : Wd K ρ F H h) (h0 : H p = none) (ho : ∀ vs, o ≠ .tup vs) (c : OwnC K ρ (fun b => F b ∨ b = p) (upd H p o) p (.dct tk kvs))
    (po : Po K XA W ρ F H (R.pure (D.dct tk kvs) h) (RdG K) Q) : Q (.ref p) (upd H p o) := by
  have e : orR F ρ = F := orR_self w.sub
  refine po (.ref p) ρ _ (xt_new h0) (by rw [e]; exact w.upd_new h0) ?_
  rw [e]
  exact .new (.own (not_F (w := w) h0) c) (w.new_in h0 ho) fun z => w.bs p z h0
end
section
variable {X : Cx} {XA : Nat → Option Addr}
theorem PrK.new {K : PySem.W.Frag} {ρ : Rho} {F : Addr → Prop} {H : Hp} {p : Addr} {o : HO} {ws : List (Key × V)} {kvs : List (D × D)} (r : PrK K ρ F H ws kvs) (h0 : H p = none) : PrK K ρ (fun b => F b ∨ b = p) (upd H p o) ws kvs :=
  r.mv (fun _ _ e => e) (fun a n q => q.elim id fun z => by rw [z] at n; exact absurd h0 n) fun a o' _ e => by
    rw [upd_ne (fun z => by rw [z, h0] at e; cases e)]
    exact e
theorem PrT.new {K : PySem.W.Frag} {ρ : Rho} {F : Addr → Prop} {H : Hp} {p : Addr} {o : HO} {ws : List (List Key × V)} {kvs : List (D × D)} (r : PrT K ρ F H ws kvs) (h0 : H p = none) : PrT K ρ (fun b => F b ∨ b = p) (upd H p o) ws kvs :=
  r.mv (fun _ _ e => e) (fun a n q => q.elim id fun z => by rw [z] at n; exact absurd h0 n) fun a o' _ e => by
    rw [upd_ne (fun z => by rw [z, h0] at e; cases e)]
    exact e
theorem dict_ok (hc : X.calm = true) (hu : X.A.units + 64 < cLine) : CallR X (.type "dict") (rBl X.K XA (bltR .dict)) := by
  intro pins s σ H xs us Q I rx h
  obtain ⟨W, ρ, F, hs, ds, w, rr, po⟩ := h
  cases rr with
  | nil => exact po.elim
  | cons r t =>
    cases t with
    | cons => exact po.elim
    | nil =>
      rename_i v d
      have po : Po X.K XA W ρ F H (R.bind (lstR d) (fun xs => R.ofOpt (dictV xs)) hs) (RdG X.K) Q := po
      obtain ⟨a, vs, ys, rfl, sq, q, po⟩ := lst_of w r po
      obtain ⟨dd, e, po⟩ := po.opt
      unfold dictV at e
      cases e1 : pairsV ys with
      | none => rw [e1] at e; cases e
      | some kvs =>
        rw [e1] at e
        obtain ⟨ps, hv, hp⟩ := pairs_rd q e1
        have hv2 : vs = (ps.map (·.1)).map V.ref := by rw [hv, List.map_map]; rfl
        subst hv2
        have e : (if kvs.all (fun kv => keyTk false kv.1) = true then some (D.dct false (mergeD [] kvs)) else if kvs.all (fun kv => keyTk true kv.1) = true then some (.dct true (mergeD [] kvs)) else none) = some dd := e
        split at e
        · rename_i hk
          cases e
          obtain ⟨ws, p1, p2⟩ := pairs_K hp hk
          refine call_dictP hc pins s σ H _ us Q I rx ⟨a, _, ws, rfl, sq, p1, fun p h0 => ?_⟩
          exact Po.newD (tk := false) (kvs := mergeD [] kvs) w h0 (fun vs z => by cases z) ⟨_, upd_same, (PrK.mergeG p2 .nil).new h0⟩ po
        · split at e
          · rename_i hk
            cases e
            obtain ⟨ws, p1, p2⟩ := pairs_T hp hk
            refine call_dictPT hc hu pins s σ H _ us Q I rx ⟨a, _, ws, rfl, sq, p1, fun p h0 => ?_⟩
            exact Po.newD (tk := true) (kvs := mergeD [] kvs) w h0 (fun vs z => by cases z) ⟨_, upd_same, (PrT.mergeG p2 .nil).new h0⟩ po
          · cases e
theorem blt_ok2 (hc : X.calm = true) (hu : X.A.units + 64 < cLine) (hso : SortOk X XA) {b : Blt} (h1 : b ≠ .sortedSet) (h2 : b ≠ .lenSet) : CallR X b.val (rBl X.K XA (bltR b)) := by
  by_cases h3 : b = .dict
  · subst h3
    exact dict_ok hc hu
  · exact blt_ok hc hso h1 h2 h3
end
end Ny

set_option maxHeartbeats 2000000
/-! Ny: sorted. -/
namespace Ny
open PySem PySem.Spec PyProof.Rows L2
theorem RelV.inj {v v' : V} {u : Value} (h : RelV v u) (h' : RelV v' u) : v = v' := by
  cases v <;> cases v' <;> first
    | rfl
    | (cases h; cases h'; done)
    | (obtain ⟨t, e⟩ := h; cases e; cases h'; done)
    | (obtain ⟨t, e⟩ := h; obtain ⟨t', e'⟩ := h'; rw [e] at e'; cases e'; rfl)
    | (obtain ⟨t, e⟩ := h; obtain ⟨t', e'⟩ := h'; rw [e] at e'; cases e'; done)
    | (have e : u = _ := h; have e' : u = _ := h'; rw [e] at e'; cases e'; rfl)
    | (have e : u = _ := h; obtain ⟨t', e'⟩ := h'; rw [e] at e'; cases e'; done)
    | (obtain ⟨t', e'⟩ := h; have e : u = _ := h'; rw [e] at e'; cases e'; done)
section
variable {X : Cx} {pins : List (Addr × Obj)} {σ : L2.St} {H : Hp} {s : Shared} {ρ : Rho} {F : Addr → Prop}
/-- the place of a value -/
noncomputable def ixOf (its : List Value) (v : Value) : Nat := open Classical in its.findIdx fun u => decide (u = v)
theorem ixOf_at {its : List Value} {v : Value} (h : v ∈ its) : its[ixOf its v]? = some v := by
  classical
  have hl : ixOf its v < its.length := List.findIdx_lt_length_of_exists ⟨v, h, by simp⟩
  have := List.findIdx_getElem (p := fun u => decide (u = v)) (w := hl)
  rw [List.getElem?_eq_getElem hl]
  have e := of_decide_eq_true this
  exact congrArg some e
noncomputable def decV (its : List Value) (vs : List V) (v : Value) : V := (vs[ixOf its v]?).getD .non
noncomputable def decD (its : List Value) (xs : List D) (v : Value) : D := (xs[ixOf its v]?).getD .non
theorem pair_ok {xs : List D} (hk : sameSort xs = true) {x y : D} (hx : x ∈ xs) (hy : y ∈ xs) : leafOk x = true ∧ leafOk y = true ∧ x.plain = true ∧ y.plain = true ∧ min x.dep y.dep ≤ 40 ∧ ∃ b, ltD x y = some b := by
  unfold sameSort at hk
  simp only [Bool.and_eq_true, List.all_eq_true] at hk
  obtain ⟨h1, h2, h3⟩ := hk
  have q := h3 x hx y hy
  unfold pairOk at q
  obtain ⟨q1, q2⟩ := Bool.and_eq_true_iff.mp q
  obtain ⟨c1, c2, c3⟩ := cmpOk_of q1
  exact ⟨h1 x hx, h1 y hy, c1, c2, c3, Option.isSome_iff_exists.mp q2⟩
/-- a value of the list, what it stands for -/
theorem dec_at {its : List Value} {vs : List V} {xs : List D} (rv : Vals vs its) (rd : Rds X.K ρ F H vs xs) {v : Value} (h : v ∈ its) : RelV (decV its vs v) v ∧ Rd X.K ρ F H (decV its vs v) (decD its xs v) ∧ decD its xs v ∈ xs := by
  have e := ixOf_at h
  have hl : ixOf its v < its.length := (List.getElem?_eq_some_iff.mp e).1
  have hl2 : ixOf its v < vs.length := by rw [rv.length]; exact hl
  have e2 : vs[ixOf its v]? = some vs[ixOf its v] := List.getElem?_eq_getElem hl2
  obtain ⟨d, ed, q⟩ := rd.getV e2
  obtain ⟨u, eu, ru⟩ := rv.get e2
  rw [e] at eu
  cases eu
  unfold decV decD
  rw [e2, ed]
  exact ⟨ru, q, List.mem_of_getElem? ed⟩
theorem dec_ix (I : Inv X pins σ H s) {its : List Value} {vs : List V} {xs : List D} (rv : Vals vs its) (rd : Rds X.K ρ F H vs xs) (hp : plainAll xs = true) {i : Nat} {v : Value} (h : its[i]? = some v) : xs[i]? = some (decD its xs v) ∧ vs[i]? = some (decV its vs v) := by
  have hm := List.mem_of_getElem? h
  obtain ⟨r1, q1, m1⟩ := dec_at rv rd hm
  have hl : i < vs.length := by rw [rv.length]; exact (List.getElem?_eq_some_iff.mp h).1
  have e2 : vs[i]? = some vs[i] := List.getElem?_eq_getElem hl
  obtain ⟨u, eu, ru⟩ := rv.get e2
  rw [h] at eu
  cases eu
  have ev : vs[i] = decV its vs v := RelV.inj ru r1
  obtain ⟨d, ed, q⟩ := rd.getV e2
  rw [ev] at q
  have p1 := plainAll_get hp ed
  obtain ⟨j, hj⟩ := List.mem_iff_getElem?.mp m1
  have p2 := plainAll_get hp hj
  rw [ed, Rd.fun_ I q q1 p1 p2, e2, ev]
  exact ⟨rfl, rfl⟩
theorem map_dec (I : Inv X pins σ H s) {its : List Value} {vs : List V} {xs : List D} (rv : Vals vs its) (rd : Rds X.K ρ F H vs xs) (hp : plainAll xs = true) : its.map (decD its xs) = xs := by
  refine List.ext_getElem? fun i => ?_
  rw [List.getElem?_map]
  cases e : its[i]? with
  | none =>
    have h1 := List.getElem?_eq_none_iff.mp e
    have h2 : xs.length ≤ i := by rw [← rd.length, rv.length]; exact h1
    rw [List.getElem?_eq_none h2]
    rfl
  | some v =>
    rw [(dec_ix I rv rd hp e).1]
    rfl
noncomputable def ltVv (its : List Value) (xs : List D) (v u : Value) : Bool := decide (enc (decD its xs v) < enc (decD its xs u))
theorem swo_ltVv (its : List Value) (xs : List D) : SrtO.Swo (ltVv its xs) := by
  refine ⟨fun x y h => ?_, fun x y z h1 h2 => ?_⟩
  · exact decide_eq_false (List.lt_asymm (of_decide_eq_true h))
  · have a := List.not_lt.mp (of_decide_eq_false h1)
    have b := List.not_lt.mp (of_decide_eq_false h2)
    exact decide_eq_false (List.not_lt.mpr (List.le_trans a b))
/-- the items of two tuples, one by one -/
theorem katlex_of (I : Inv X pins σ H s) {A : Around} {b fin : Bool} {Q : Bool → Shared → Prop} (hu : A.units + 60 < cLine) : ∀ {vs1 : List V} {xs : List D}, Rds X.K ρ F H vs1 xs → ∀ {vs2 : List V} {ys : List D} {us1 us2 : List Value} {i : Nat} {c : Bool}, Rds X.K ρ F H vs2 ys → Vals vs1 us1 → Vals vs2 us2 →
    plainAll xs = true → plainAll ys = true → min (depAll xs) (depAll ys) ≤ 40 → ltAll xs ys = some c → fin = decide (us1.length < us2.length) → (b = true → i = 0 → ∀ x y, xs.head? = some x → ys.head? = some y → tagD x = 1 ∨ tagD x = 2) → Q c s →
    PySem.W.KatLex X.prog X.w A b fin Q (us1.zip us2) i s
  | _, _, .nil, vs2, ys, us1, us2, i, c, r2, v1, v2, p1, p2, hd, e, hf, hb, hq => by
    cases v1
    cases ys with
    | nil =>
      cases r2
      cases v2
      simp only [ltAll, Option.some.injEq] at e
      subst e hf
      exact hq
    | cons y ys =>
      cases r2 with
      | cons r t =>
        cases v2
        simp only [ltAll, Option.some.injEq] at e
        subst e hf
        show Q (decide (0 < _ + 1)) s
        rw [decide_eq_true (Nat.succ_pos _)]
        exact hq
  | _, _, .cons (v := w1) (vs := ws1) (d := x) (ds := xs) q1 t1, vs2, ys, us1, us2, i, c, r2, v1, v2, p1, p2, hd, e, hf, hb, hq => by
    cases v1 with
    | cons a1 b1 =>
      cases ys with
      | nil =>
        cases r2
        cases v2
        simp only [ltAll, Option.some.injEq] at e
        subst e hf
        show Q (decide (_ + 1 < 0)) s
        rw [decide_eq_false (Nat.not_lt_zero _)]
        exact hq
      | cons y ys =>
        cases r2 with
        | cons q2 t2 =>
          cases v2 with
          | cons a2 b2 =>
            unfold plainAll at p1 p2
            obtain ⟨p11, p12⟩ := Bool.and_eq_true_iff.mp p1
            obtain ⟨p21, p22⟩ := Bool.and_eq_true_iff.mp p2
            have hd1 : min x.dep y.dep ≤ 40 ∧ min (depAll xs) (depAll ys) ≤ 40 := by
              unfold depAll at hd
              omega
            have eq := (rc_of I q1 (A := A) q2 a1 a2 p11 p21 (by omega)).2
            refine PySem.W.kat_cons (eq X.prog X.w _ _ ?_)
            unfold ltAll at e
            cases e1 : ltAll xs ys with
            | none => rw [e1] at e; cases e
            | some c1 =>
              rw [e1] at e
              have e : (if eqD x y = true then some c1 else ltD x y) = some c := e
              refine PySem.W.kat_go (fun ee => ?_) fun ee => ?_
              · rw [if_pos ee] at e
                cases e
                refine PySem.W.kat_yes (katlex_of I hu t1 t2 b1 b2 p12 p22 hd1.2 e1 ?_ (fun _ z => absurd z (Nat.succ_ne_zero i)) hq)
                rw [hf]
                simp
              · rw [if_neg (by rw [ee]; exact Bool.false_ne_true)] at e
                refine PySem.W.kat_no ?_
                by_cases hbi : b = true ∧ i = 0
                · obtain ⟨hb1, hi⟩ := hbi
                  subst hb1 hi
                  have ht := hb rfl rfl x y rfl rfl
                  show wpAny _ A (oneLt' true _ _) Q _ s
                  rcases ht with ht | ht
                  · cases x <;> first | cases ht | skip
                    cases y <;> first | (simp [ltD] at e; done) | skip
                    cases q1; cases q2
                    obtain ⟨t, rfl⟩ := a1
                    obtain ⟨t', rfl⟩ := a2
                    simp only [ltD, Option.some.injEq] at e
                    exact oneLt_int (by rw [e]; exact hq)
                  · cases x <;> first | cases ht | skip
                    cases y <;> first | (simp [ltD] at e; done) | skip
                    cases q1; cases q2
                    obtain ⟨t, rfl⟩ := a1
                    obtain ⟨t', rfl⟩ := a2
                    simp only [ltD, ltS, Option.some.injEq] at e
                    exact oneLt_str (by rw [e]; exact hq)
                · have eb : (b && i == 0) = false := by
                    cases b with
                    | false => rfl
                    | true =>
                      have : i ≠ 0 := fun z => hbi ⟨rfl, z⟩
                      simp [this]
                  rw [eb]
                  refine PySem.W.kat_one _ _ ?_
                  exact ltD_of I (Nat.le_refl _) q1 (A := A) q2 a1 a2 p11 p21 (by omega) e X.prog X.w _ _ hq
theorem plain_all {xs : List D} (hk : sameSort xs = true) : plainAll xs = true := by
  have : ∀ ys : List D, (∀ y ∈ ys, y.plain = true) → plainAll ys = true := by
    intro ys
    induction ys with
    | nil => intro _; rfl
    | cons y ys ih =>
      intro h
      unfold plainAll
      rw [h y (by simp), ih fun z hz => h z (by simp [hz])]
      rfl
  exact this xs fun y hy => (pair_ok hk hy hy).2.2.1
theorem kind_cases {xs : List D} (h : kindOk xs = true) (h2 : 2 ≤ xs.length) : (∀ x ∈ xs, tagD x = 1) ∨ (∀ x ∈ xs, tagD x = 2) ∨ (∃ t, t ≠ 0 ∧ ∀ x ∈ xs, fstTag x = t) ∨ ((∀ x ∈ xs, tagD x = 3) ∧ ∃ x ∈ xs, x = .tup []) := by
  match xs, h, h2 with
  | x :: y :: r, h, _ =>
    have h : ((((tagD x == 1 || tagD x == 2) && (x :: y :: r).all (fun z => tagD z == tagD x)) || (fstTag x != 0 && (x :: y :: r).all (fun z => fstTag z == fstTag x))) || ((x :: y :: r).all (fun z => tagD z == 3) && (x :: y :: r).any isNilT)) = true := h
    rcases Bool.or_eq_true_iff.mp h with h | h
    · rcases Bool.or_eq_true_iff.mp h with h | h
      · obtain ⟨h1, h2⟩ := Bool.and_eq_true_iff.mp h
        rcases Bool.or_eq_true_iff.mp h1 with h1 | h1
        · exact .inl fun z hz => (eq_of_beq (List.all_eq_true.mp h2 z hz)).trans (eq_of_beq h1)
        · exact .inr (.inl fun z hz => (eq_of_beq (List.all_eq_true.mp h2 z hz)).trans (eq_of_beq h1))
      · obtain ⟨h1, h2⟩ := Bool.and_eq_true_iff.mp h
        exact .inr (.inr (.inl ⟨fstTag x, by simpa using h1, fun z hz => eq_of_beq (List.all_eq_true.mp h2 z hz)⟩))
    · obtain ⟨h1, h2⟩ := Bool.and_eq_true_iff.mp h
      obtain ⟨z, hz, ez⟩ := List.any_eq_true.mp h2
      refine .inr (.inr (.inr ⟨fun z hz => eq_of_beq (List.all_eq_true.mp h1 z hz), z, hz, ?_⟩))
      unfold isNilT at ez
      split at ez
      · rfl
      · cases ez
theorem strs_of : ∀ {its : List Value}, (∀ v ∈ its, ∃ x t, v = Value.str x t) → ∃ ss, StrsAre its ss
  | [], _ => ⟨[], .nil⟩
  | v :: its, h => by
    obtain ⟨x, t, e⟩ := h v (by simp)
    obtain ⟨ss, q⟩ := strs_of (its := its) fun u hu => h u (by simp [hu])
    subst e
    exact ⟨x :: ss, .cons x t q⟩
theorem ints_of' : ∀ {its : List Value}, (∀ v ∈ its, ∃ x t, v = Value.int x t) → ∃ ss, IntsAre its ss
  | [], _ => ⟨[], .nil⟩
  | v :: its, h => by
    obtain ⟨x, t, e⟩ := h v (by simp)
    obtain ⟨ss, q⟩ := ints_of' (its := its) fun u hu => h u (by simp [hu])
    subst e
    exact ⟨x :: ss, .cons x t q⟩
def tyOfTag : Nat → String
  | 1 => "int"
  | 2 => "str"
  | _ => "tuple"
theorem ty_look (I : Inv X pins σ H s) {v : V} {d : D} {u : Value} (r : RelV v u) (q : Rd X.K ρ F H v d) (h : tagD d ≠ 0) (M : Model) : PySem.W.Looks M s.heap (typeOf u) (.type (tyOfTag (tagD d))) := by
  cases q with
  | int i => obtain ⟨t, rfl⟩ := r; exact PySem.W.Looks.now
  | str x => obtain ⟨t, rfl⟩ := r; exact PySem.W.Looks.now
  | tup t rs =>
    cases r
    obtain ⟨its, rv, ⟨o, ho, hc, n, hd⟩, _⟩ := I.tuple t.sq
    have z : PySem.W.Looks M s.heap (typeOf (.ref _)) o.cls := (PySem.W.Looks.ld ho).andThen .now
    rw [hc] at z
    exact z
  | _ => exact absurd rfl h
theorem firsts_tup (I : Inv X pins σ H s) {t : Nat} (ht : t ≠ 0) (M : Model) : ∀ {vs : List V} {xs : List D} {its : List Value}, Vals vs its → Rds X.K ρ F H vs xs → (∀ x ∈ xs, fstTag x = t) →
    ∃ fs, PySem.W.KatTups s.heap its fs ∧ fs.length = its.length ∧ ∀ f ∈ fs, PySem.W.Looks M s.heap (typeOf f) (.type (tyOfTag t))
  | _, _, _, .nil, .nil, _ => ⟨[], .nil, rfl, fun f hf => by simp at hf⟩
  | _, _, _, .cons r1 t1, .cons (d := d) q1 t2, h => by
    obtain ⟨fs, k1, k2, k3⟩ := firsts_tup I ht M t1 t2 fun x hx => h x (by simp [hx])
    have hd := h d (by simp)
    cases d with
    | tup xs =>
      cases xs with
      | nil => exact absurd hd.symm ht
      | cons x xs =>
        have hd : tagD x = t := hd
        cases q1 with
        | tup tt rs =>
          cases r1
          obtain ⟨its, rv, ⟨o, ho, hc, n, hdt⟩, _⟩ := I.tuple tt.sq
          cases rs with
          | cons q0 rs =>
            cases rv with
            | cons r0 rv =>
              refine ⟨_ :: fs, .cons ho hc hdt rfl k1, by rw [List.length_cons, List.length_cons, k2], fun f hf => ?_⟩
              rcases List.mem_cons.mp hf with e | hf
              · rw [e, ← hd]
                exact ty_look I r0 q0 (by rw [hd]; exact ht) M
              · exact k3 f hf
    | _ => exact absurd hd.symm ht
/-- the firsts of tuples, where some have none -/
theorem firsts_any (I : Inv X pins σ H s) (M : Model) {A : Around} {E : Value → Shared → Prop} : ∀ {vs : List V} {xs : List D} {its : List Value}, Vals vs its → Rds X.K ρ F H vs xs → (∀ x ∈ xs, tagD x = 3) →
    ∃ fs : List (Option Value), fs.length = its.length ∧ ((∃ x ∈ xs, x = .tup []) → none ∈ fs) ∧ (∀ v ∈ its, PySem.W.Looks M s.heap (typeOf v) (.type "tuple")) ∧ ∀ Q : List (Option Value) → Shared → Prop, Q fs s → wpAny M A (its.mapM firstOfTuple') Q E s
  | _, _, _, .nil, .nil, _ => ⟨[], rfl, (fun ⟨x, hx, _⟩ => by cases hx), (fun v hv => by cases hv), fun Q h => by rw [List.mapM_nil]; exact wpAny_pure h⟩
  | _, _, _, .cons r1 t1, .cons (d := d) (ds := ds) q1 t2, h => by
    obtain ⟨fs, k1, k2, k3, k4⟩ := firsts_any I M (A := A) (E := E) t1 t2 fun x hx => h x (by simp [hx])
    have hd := h d (by simp)
    cases q1 with
    | tup tt rs =>
      rename_i xs0
      cases r1
      obtain ⟨its0, rv, ⟨o, ho, hc, n, hdt⟩, _⟩ := I.tuple tt.sq
      have lk : PySem.W.Looks M s.heap (typeOf (.ref _)) o.cls := (PySem.W.Looks.ld ho).andThen .now
      refine ⟨its0.toArray[0]? :: fs, by simp [k1], ?_, fun v hv => ?_, fun Q hq => ?_⟩
      · rintro ⟨x, hx, e⟩
        rcases List.mem_cons.mp hx with e2 | hx
        · rw [e2] at e
          cases e
          cases rs
          cases rv
          simp
        · exact List.mem_cons_of_mem _ (k2 ⟨x, hx, e⟩)
      · rcases List.mem_cons.mp hv with e | hv
        · rw [e, ← hc]
          exact lk
        · exact k3 v hv
      · rw [List.mapM_cons]
        refine wpAny_bind ?_
        rw [PySem.W.kas_first_eq]
        refine wpAny_bind (PySem.W.Looks.here lk ?_)
        rw [hc, if_neg (by first | decide | simp)]
        refine wpAny_bind (listItems_at ho hdt (wpAny_pure ?_))
        exact wpAny_bind (k4 _ (wpAny_pure hq))
    | int => simp [tagD] at hd
    | str => simp [tagD] at hd
    | _ => simp [tagD] at hd
/-- tuples of which one is () -/
theorem kind_nil (I : Inv X pins σ H s) (M : Model) {A : Around} {E : Value → Shared → Prop} {vs : List V} {xs : List D} {its : List Value} (rv : Vals vs its) (rd : Rds X.K ρ F H vs xs) (h : ∀ x ∈ xs, tagD x = 3) (hn : ∃ x ∈ xs, x = .tup []) :
    ∃ b : Bool, ∀ Q : SortKind → Shared → Prop, Q (if b = true then general' else oneType') s → wpAny M A (keyKind' its.toArray) Q E s := by
  obtain ⟨fs, k1, k2, k3, k4⟩ := firsts_any I M (A := A) (E := E) rv rd h
  have hnone := k2 hn
  refine ⟨(fs.toArray[0]?.bind id).isSome, fun Q hq => ?_⟩
  rw [kat_kind_eq, List.mapM_toArray, map_eq_pure_bind]
  refine wpAny_bind (wpAny_bind (k4 _ (wpAny_pure ?_)))
  have hall : ¬ (fs.toArray.all fun x => x.isSome) = true := by
    intro z
    rw [List.all_toArray, List.all_eq_true] at z
    have := z none hnone
    cases this
  rw [if_neg hall]
  by_cases hb : (fs.toArray[0]?.bind id).isSome = true
  · rw [if_pos hb]
    rw [if_pos hb] at hq
    exact wpAny_pure hq
  · rw [if_neg hb]
    rw [if_neg hb] at hq
    rw [oneTypeOnly'_eq, List.mapM_toArray, map_eq_pure_bind]
    refine wpAny_bind (wpAny_bind (wpAny_bind (PySem.W.kas_mapM (r := Value.type "tuple") _ (fun v hv Q' hq => (k3 v hv).here hq) (wpAny_pure ?_))))
    have hall2 : ((its.map (fun _ => Value.type "tuple")).toArray.all fun x => x == Value.type "tuple") = true := by
      simp only [List.all_toArray, List.all_map, List.all_eq_true]
      intro _ _
      rfl
    obtain ⟨x0, hx0, _⟩ := hn
    have hl : 0 < its.length := by
      rw [← rv.length, rd.length]
      exact List.length_pos_of_mem hx0
    have h0 : (its.map (fun _ => Value.type "tuple")).toArray[0]? = some (Value.type "tuple") := by simp [hl]
    rw [h0]
    simp only [hall2, if_true]
    exact wpAny_pure (wpAny_pure hq)
/-- the call of tuple's own __lt__, as sorting makes it -/
theorem call_tuple_lt {A : Around} {prog : Program} {w : World} {E : Value → Shared → Prop} {Q : Value → Shared → Prop} {l b : Addr} {items items2 : Array Value} {e r : Nat → Bool} (hl : s.heap.IsTuple l items) (hb : s.heap.IsTuple b items2)
    (he : ∀ j (h1 : j < items.size) (h2 : j < items2.size), PySem.SeqAt.EqAt A.in1 s items[j] items2[j] (e j)) (hr : ∀ j (h1 : j < items.size) (h2 : j < items2.size), e j = false → PySem.SeqAt.RcLt A.in1 s items[j] items2[j] (r j))
    (h : Q (.bool (PySem.SeqAt.firstLt e r (decide (items.size < items2.size)) (List.range (min items.size items2.size)))) s) : wpAny (model prog w) A (call (.builtin "tuple.__lt__") [.ref l, .ref b]) Q E s := by
  obtain ⟨⟨cls, dd, data, sl⟩, ho, hc, n, hd⟩ := id hl
  obtain ⟨⟨cls2, dd2, data2, sl2⟩, ho2, hc2, n2, hd2⟩ := id hb
  simp only at hc hd hc2 hd2
  subst hc hd hc2 hd2
  exact PySem.call_meets PySem.F.slot_tuple_lt ⟨_, ho, rfl⟩ PySem.F.entry_tuple_lt (PySem.F.args_tuple_lt_2 _ _) (PySem.SeqAt.tuple_ltAt l b items items2 n n2 dd dd2 sl sl2 e r) ⟨ho, ho2, he, hr, h⟩
/-- two tuples, as sorting compares them where all are of one type -/
theorem oneLt_tup (I : Inv X pins σ H s) {A : Around} {E : Value → Shared → Prop} {Q : Bool → Shared → Prop} (hu : A.units + 50 < cLine) {v1 v2 : V} {d1 d2 : D} {u1 u2 : Value} {c : Bool} (q1 : Rd X.K ρ F H v1 d1) (q2 : Rd X.K ρ F H v2 d2) (r1 : RelV v1 u1) (r2 : RelV v2 u2)
    (p1 : d1.plain = true) (p2 : d2.plain = true) (hd : min d1.dep d2.dep ≤ 40) (t1 : tagD d1 = 3) (t2 : tagD d2 = 3) (h : ltD d1 d2 = some c) (hq : Q c s) : wpAny (model X.prog X.w) A (oneLt' true u1 u2) Q E s := by
  cases q1 <;> first | (simp [tagD] at t1; done) | skip
  cases q2 <;> first | (simp [tagD] at t2; done) | skip
  rename_i a vs xs t r a' vs' ys t' r'
  cases r1
  cases r2
  obtain ⟨its, rv, h0, _⟩ := I.tuple t.sq
  obtain ⟨its2, rv2, h1, _⟩ := I.tuple t'.sq
  simp only [ltD] at h
  unfold D.plain at p1 p2
  have hu' : A.units + min (depAll xs + 1) (depAll ys + 1) < cLine := by
    have : min (depAll xs + 1) (depAll ys + 1) ≤ 40 := by simpa only [D.dep] using hd
    omega
  have l1 : its.length = xs.length := by rw [← rv.length, r.length]
  have l2 : its2.length = ys.length := by rw [← rv2.length, r'.length]
  have item : ∀ (j : Nat) (u w : Value), its[j]? = some u → its2[j]? = some w → ∃ x y v v', xs[j]? = some x ∧ ys[j]? = some y ∧ Rd X.K ρ F H v x ∧ Rd X.K ρ F H v' y ∧ RelV v u ∧ RelV v' w := by
    intro j u w e1 e2
    have g1 : j < xs.length := by rw [← l1]; exact (List.getElem?_eq_some_iff.mp e1).1
    have g2 : j < ys.length := by rw [← l2]; exact (List.getElem?_eq_some_iff.mp e2).1
    obtain ⟨v, hv, qv⟩ := r.get (List.getElem?_eq_getElem g1)
    obtain ⟨v', hv', qv'⟩ := r'.get (List.getElem?_eq_getElem g2)
    obtain ⟨u', hu1, ru⟩ := rv.get hv
    obtain ⟨w', hw1, rw'⟩ := rv2.get hv'
    rw [e1] at hu1; cases hu1
    rw [e2] at hw1; cases hw1
    exact ⟨_, _, v, v', List.getElem?_eq_getElem g1, List.getElem?_eq_getElem g2, qv, qv', ru, rw'⟩
  rw [oneLt'_eq]
  simp only [if_true]
  refine wpAny_bind (wpAny_cRoomFor (by omega) ?_)
  obtain ⟨o, ho, hc, n, hdt⟩ := id h0
  refine wpAny_bind (wpAny_callSpecialIfBound?_slot (T := "tuple") ⟨o, ho, hc⟩ PySem.F.slot_tuple_lt (call_tuple_lt (e := fun j => eqD (dAt xs j) (dAt ys j)) (r := fun j => (ltD (dAt xs j) (dAt ys j)).getD false) h0 h1 (fun j g1 g2 => ?_) (fun j g1 g2 ne => ?_) ?_))
  · have e1 : its[j]? = some its.toArray[j] := by rw [List.getElem?_eq_getElem (by simpa using g1)]; simp
    have e2 : its2[j]? = some its2.toArray[j] := by rw [List.getElem?_eq_getElem (by simpa using g2)]; simp
    exact (rcs_of I r r' rv rv2 p1 p2 (fun x y h1 h2 => min_dep h1 h2 hu') j _ _ e1 e2).2
  · have e1 : its[j]? = some its.toArray[j] := by rw [List.getElem?_eq_getElem (by simpa using g1)]; simp
    have e2 : its2[j]? = some its2.toArray[j] := by rw [List.getElem?_eq_getElem (by simpa using g2)]; simp
    obtain ⟨x, y, v, v', hx, hy, qv, qv', ru, rw'⟩ := item j _ _ e1 e2
    rw [getD_of hx, getD_of hy] at ne ⊢
    obtain ⟨c, hc⟩ := ltAll_item h hx hy ne
    rw [hc]
    exact ltD_of I (Nat.le_refl _) qv qv' ru rw' (plainAll_get p1 hx) (plainAll_get p2 hy) (min_dep hx hy hu') hc
  · have e := ltAll_first h
    rw [List.size_toArray, List.size_toArray, l1, l2, e]
    exact wpAny_truthy_bool hq
theorem sortable (I : Inv X pins σ H s) {its : List Value} {vs : List V} {xs : List D} (rv : Vals vs its) (rd : Rds X.K ρ F H vs xs) (hk : sameSort xs = true) (h2 : 2 ≤ its.length) (hu : X.A.units + 64 < cLine) {h₁ : Heap} {a : Addr} (kk : ∀ b o, s.heap.get? b = some o → b ≠ a ∧ h₁.get? b = some o) :
    SrtO.SortableO X.prog X.w X.A.in1.in1 { s with heap := h₁ } a its (ltVv its xs) := by
  intro h' keep
  have I' : Inv X pins σ H { s with heap := h' } := I.kept (t' := s.toks) fun b o e => keep b o (kk b o e).1 (kk b o e).2
  have hu2 : X.A.in1.in1.units + 60 < cLine := by
    have e : X.A.in1.in1.units = X.A.units + 1 + 1 := rfl
    omega
  have hk0 := hk
  unfold sameSort at hk0
  simp only [Bool.and_eq_true] at hk0
  have hlen : 2 ≤ xs.length := by rw [← rd.length, rv.length]; exact h2
  obtain ⟨w1, w2, wr, ew⟩ : ∃ w1 w2 wr, its = w1 :: w2 :: wr := by
    match its, h2 with
    | w1 :: w2 :: wr, _ => exact ⟨w1, w2, wr, rfl⟩
  rcases kind_cases hk0.2.1 hlen with ht | ht | ⟨t, ht0, ht⟩ | ⟨ht, hnil⟩
  · have hv : ∀ v ∈ its, ∃ x t, v = Value.int x t ∧ decD its xs v = .int x := fun v hv => by
      obtain ⟨r, q, m⟩ := dec_at rv rd hv
      have z := ht _ m
      generalize decV its vs v = w at r q
      cases e : decD its xs v <;> (rw [e] at z q; first | cases z | skip)
      cases q
      obtain ⟨t, ev⟩ := r
      exact ⟨_, t, ev, rfl⟩
    obtain ⟨ss, hI⟩ := ints_of' fun v h => let ⟨x, t, e, _⟩ := hv v h; ⟨x, t, e⟩
    refine ⟨oneType', fun Q E hq => ?_, fun p q hp hq => ?_⟩
    · rw [ew] at hI ⊢
      rw [keyKind_ints hI]
      exact wpAny_pure hq
    · obtain ⟨x, t, e1, d1⟩ := hv _ hp
      obtain ⟨y, u, e2, d2⟩ := hv _ hq
      show wpAny _ _ (keyLt' oneType' p.1 q.1) _ _ _
      have el : SrtO.lt2 (ltVv its xs) p q = decide (x < y) := by
        show decide (enc (decD its xs p.1) < enc (decD its xs q.1)) = _
        rw [d1, d2]
        simp [enc, List.cons_lt_cons_iff, Int.lt_irrefl]
      rw [e1, e2, keyLt'_oneType]
      exact oneLt_int ⟨rfl, el.symm⟩
  · have hv : ∀ v ∈ its, ∃ x t, v = Value.str x t ∧ decD its xs v = .str x := fun v hv => by
      obtain ⟨r, q, m⟩ := dec_at rv rd hv
      have z := ht _ m
      generalize decV its vs v = w at r q
      cases e : decD its xs v <;> (rw [e] at z q; first | cases z | skip)
      cases q
      obtain ⟨t, ev⟩ := r
      exact ⟨_, t, ev, rfl⟩
    obtain ⟨ss, hI⟩ := strs_of fun v h => let ⟨x, t, e, _⟩ := hv v h; ⟨x, t, e⟩
    refine ⟨oneType', fun Q E hq => ?_, fun p q hp hq => ?_⟩
    · rw [ew] at hI ⊢
      rw [keyKind_strs hI]
      exact wpAny_pure hq
    · obtain ⟨x, t, e1, d1⟩ := hv _ hp
      obtain ⟨y, u, e2, d2⟩ := hv _ hq
      show wpAny _ _ (keyLt' oneType' p.1 q.1) _ _ _
      have el : SrtO.lt2 (ltVv its xs) p q = decide (x.cps.toList < y.cps.toList) := by
        show decide (enc (decD its xs p.1) < enc (decD its xs q.1)) = _
        rw [d1, d2]
        simp only [enc, List.cons_lt_cons_iff, Int.lt_irrefl, false_or, true_and]
        exact decide_eq_decide.mpr (codes_lt _ _)
      rw [e1, e2, keyLt'_oneType]
      exact oneLt_str ⟨rfl, el.symm⟩
  · obtain ⟨fs, k1, k2, k3⟩ := firsts_tup I' ht0 (model X.prog X.w) rv rd ht
    refine ⟨tuples' (Value.type (tyOfTag t) != Value.type "tuple"), fun Q E hq => ?_, fun p q hp hq => ?_⟩
    · exact PySem.W.kat_kind k1 (by omega) k3 (beq_self_eq_true _) hq
    · obtain ⟨r1, q1, m1⟩ := dec_at rv rd hp
      obtain ⟨r2, q2, m2⟩ := dec_at rv rd hq
      obtain ⟨l1, l2, p1, p2, hd, c, ec⟩ := pair_ok hk m1 m2
      have t1 := ht _ m1
      have t2 := ht _ m2
      have el : SrtO.lt2 (ltVv its xs) p q = c := by
        show decide (enc (decD its xs p.1) < enc (decD its xs q.1)) = c
        exact (ltD_enc l1 l2 ec).symm
      show wpAny _ _ (keyLt' (tuples' _) p.1 q.1) (fun r s' => s' = _ ∧ r = SrtO.lt2 (ltVv its xs) p q) _ _
      rw [el]
      generalize decV its vs p.1 = w1 at r1 q1
      generalize decV its vs q.1 = w2 at r2 q2
      generalize decD its xs p.1 = d1 at q1 l1 p1 hd ec t1
      generalize decD its xs q.1 = d2 at q2 l2 p2 hd ec t2
      cases d1 <;> first | (exact absurd t1.symm ht0) | skip
      cases d2 <;> first | (exact absurd t2.symm ht0) | skip
      rename_i ys1 ys2
      cases q1 with
      | tup tt1 rs1 =>
        cases q2 with
        | tup tt2 rs2 =>
          have e1 : p.1 = Value.ref _ := r1
          have e2 : q.1 = Value.ref _ := r2
          rw [e1, e2]
          obtain ⟨it1, rv1, ⟨o1, ho1, hc1, n1, hd1⟩, _⟩ := I'.tuple tt1.sq
          obtain ⟨it2, rv2, ⟨o2, ho2, hc2, n2, hd2⟩, _⟩ := I'.tuple tt2.sq
          refine PySem.W.kat_lt ho1 hd1 ho2 hd2 ?_
          have ec : ltAll ys1 ys2 = some c := ec
          have hdd : min (depAll ys1) (depAll ys2) ≤ 40 := by
            have : min (depAll ys1 + 1) (depAll ys2 + 1) ≤ 40 := hd
            omega
          refine katlex_of I' hu2 rs1 rs2 rv1 rv2 p1 p2 hdd ec (by simp) (fun hb _ x y hx hy => ?_) ⟨rfl, rfl⟩
          have ex : tagD x = t := by
            cases ys1 with
            | nil => cases hx
            | cons z zs =>
              cases hx
              exact t1
          rw [ex]
          have hne : tyOfTag t ≠ "tuple" := fun z => by
            rw [z] at hb
            simp at hb
          match t, ht0, hne with
          | 1, _, _ => exact .inl rfl
          | 2, _, _ => exact .inr rfl
          | n + 3, _, h => exact absurd rfl h
  · obtain ⟨b, kb⟩ := kind_nil I' (model X.prog X.w) (A := X.A.in1.in1) (E := fun _ _ => False) rv rd ht hnil
    refine ⟨if b = true then general' else oneType', fun Q E hq => wpAny_mono (kb _ hq) (fun _ _ z => z) fun _ _ z => z.elim, fun p q hp hq => ?_⟩
    obtain ⟨r1, q1, m1⟩ := dec_at rv rd hp
    obtain ⟨r2, q2, m2⟩ := dec_at rv rd hq
    obtain ⟨l1, l2, p1, p2, hd, c, ec⟩ := pair_ok hk m1 m2
    have el : SrtO.lt2 (ltVv its xs) p q = c := by
      show decide (enc (decD its xs p.1) < enc (decD its xs q.1)) = c
      exact (ltD_enc l1 l2 ec).symm
    show wpAny _ _ (keyLt' _ p.1 q.1) (fun r s' => s' = _ ∧ r = SrtO.lt2 (ltVv its xs) p q) _ _
    rw [el]
    cases b with
    | true =>
      show wpAny _ _ (oneLt' false p.1 q.1) _ _ _
      refine PySem.W.kat_one _ _ ?_
      exact ltD_of I' (Nat.le_refl _) q1 (A := X.A.in1.in1) q2 r1 r2 p1 p2 (by omega) ec X.prog X.w _ _ ⟨rfl, rfl⟩
    | false =>
      show wpAny _ _ (oneLt' true p.1 q.1) _ _ _
      exact oneLt_tup I' (by omega) q1 q2 r1 r2 p1 p2 hd (ht _ m1) (ht _ m2) ec ⟨rfl, rfl⟩
/-- the sorted list, as the evaluator has it -/
theorem sort_out (I : Inv X pins σ H s) {its : List Value} {vs : List V} {xs : List D} (rv : Vals vs its) (rd : Rds X.K ρ F H vs xs) (hk : sameSort xs = true) {out : List Value} (hs : SrtO.Srtd (ltVv its xs) out) (hp : out.Perm its) :
    Vals (out.map (decV its vs)) out ∧ Rds X.K ρ F H (out.map (decV its vs)) (sortD xs) := by
  have hpl := plain_all hk
  have hm : ∀ v ∈ out, v ∈ its := fun v hv => hp.mem_iff.mp hv
  have e : out.map (decD its xs) = sortD xs := by
    refine sortD_uniq (fun x hx => (pair_ok hk hx hx).1) ?_ ?_
    · have q := hp.map (decD its xs)
      rw [map_dec I rv rd hpl] at q
      exact q
    · exact List.pairwise_map.mpr (hs.imp fun {x y} h => of_decide_eq_false h)
  rw [← e]
  clear hs e hp
  induction out with
  | nil => exact ⟨.nil, .nil⟩
  | cons v out ih =>
    obtain ⟨r, q, _⟩ := dec_at rv rd (hm v (by simp))
    obtain ⟨i1, i2⟩ := ih fun u hu => hm u (by simp [hu])
    exact ⟨.cons r i1, .cons q i2⟩
theorem sort_lst (I : Inv X pins σ H s) {XA : Nat → Option Addr} {W : XK} {hs : Hs} {Q : VK} {a : Addr} {vs : List V} {xs : List D} (w : Wd X.K ρ F H hs) (sq : SqL X.K H a vs) (rd : Rds X.K ρ F H vs xs) (hu : X.A.units + 64 < cLine) (po : Po X.K XA W ρ F H (sortR xs hs) (RdG X.K) Q) :
    wpAny (model X.prog X.w) X.A (call (.builtin "sorted") [.ref a]) (EP X pins σ Q) X.xe s := by
  obtain ⟨hk, po⟩ := Po.need po
  have hk : sameSort xs = true := hk
  obtain ⟨its, rv, hl, hz⟩ := I.list sq
  refine SrtO.sorted_ord (swo_ltVv its xs) hl.isList (by rw [← rv.length]; exact hz) (fun h2 h₁ a' _ kk => sortable I rv rd hk h2 hu kk) fun out h1 h2 => ?_
  obtain ⟨v1, v2⟩ := sort_out I rv rd hk h1 h2.perm
  obtain ⟨ep, he'⟩ := PyProof.Rows.sortedAll_at s.heap its out.toArray
  have hlen : (out.map (decV its vs)).length ≤ sizeLine := by
    rw [List.length_map, h2.perm.length_eq, ← rv.length]
    exact hz
  have hf : H (s.heap.objs.size + 1) = none := I.hok.fresh (Nat.le_succ _)
  exact ⟨.ref _, upd H (s.heap.objs.size + 1) (.lst (out.map (decV its vs))), I.laid (t' := s.toks) (fun _ _ => PyProof.Rows.sortedAll_old) (Nat.le_succ _) ⟨hlen, out, ep, v1, he'⟩, rfl, po.newL w hf v2⟩
/-- sorted(d): the items as the walk tells them -/
theorem sort_src (I : Inv X pins σ H s) (hc : X.calm = true) {XA : Nat → Option Addr} {W : XK} {hs : Hs} {Q : VK} {r dd : Addr} {T : String} {n : Nat} {P : Nat → Value → Prop} {OK : Heap → Prop} (K0 : PySem.W.KdlSrc X.prog X.w T r dd n P OK) (hok : OK s.heap) {its : List Value} {vs : List V} {xs : List D}
    (hn : its.length ≤ sizeLine) (hn2 : n = its.length) (hits : ∀ acc : Array Value, ItemsOf P acc n → acc.toList = its) (w : Wd X.K ρ F H hs) (rv : Vals vs its) (rd : Rds X.K ρ F H vs xs) (hu : X.A.units + 64 < cLine) (po : Po X.K XA W ρ F H (sortR xs hs) (RdG X.K) Q) :
    wpAny (model X.prog X.w) X.A (call (.builtin "sorted") [.ref r]) (EP X pins σ Q) X.xe s := by
  obtain ⟨hk, po⟩ := Po.need po
  have hk : sameSort xs = true := hk
  refine Calls.call_function_entry PyProof.Rows.kind_sorted PyProof.Rows.plain_sorted PyProof.Rows.entry_sorted (PyProof.Rows.args_sorted1 _) ?_
  unfold Builtin.«sorted»
  refine wpAny_bind (m := checkCount "sorted" 1 1 _) (wpAny_pure ?_)
  refine wpAny_bind (PySem.W.kdu_collect (A := X.A.in1) K0 (I.ok.hd hc) hok (by omega) fun h' tk acc hk' hacc => ?_)
  rw [hits acc hacc]
  have I1 : Inv X pins σ H { s with heap := h', toks := tk } := I.kept hk'
  refine wpAny_bind (wpAny_newList ?_ hn)
  have hoL : (h'.push (seqObj "list" its.toArray 0)).get? h'.objs.size = some (seqObj "list" its.toArray 0) := Heap.get?_push_size _ rfl
  show wpAny _ _ _ _ _ { s with heap := h'.push (seqObj "list" its.toArray 0), toks := tk }
  have kk : ∀ b o, h'.get? b = some o → b ≠ h'.objs.size ∧ (h'.push (seqObj "list" its.toArray 0)).get? b = some o := fun b o e => ⟨Nat.ne_of_lt (Heap.lt_size e), Heap.get?_push_of_some _ e⟩
  refine wpAny_bind (wpAny_holding (wpAny_call_entry PyProof.Rows.slot_list_sort ⟨_, hoL, rfl⟩ PyProof.Rows.entry_list_sort
    (SrtO.list_sort_ord (s := { s with heap := h'.push (seqObj "list" its.toArray 0), toks := tk }) (swo_ltVv its xs) hoL hn (fun h2 => sortable I1 rv rd hk h2 hu kk) fun out h1 h2 => ⟨_, rfl, ?_⟩) (PyProof.Rows.args_list_sort _)))
  obtain ⟨v1, v2⟩ := sort_out I1 rv rd hk h1 h2.perm
  obtain ⟨e', he'⟩ := PyProof.Rows.sortedHeap_at (vs := its) (out := out.toArray) hoL
  have hlen : (out.map (decV its vs)).length ≤ sizeLine := by
    rw [List.length_map, h2.perm.length_eq]
    exact hn
  have hf : H h'.objs.size = none := I1.hok.fresh (Nat.le_refl _)
  refine wpAny_pure ⟨_, rfl, .ref h'.objs.size, upd H h'.objs.size (.lst (out.map (decV its vs))), I1.laid (t' := tk) (fun b u e => ?_) (Nat.le_refl _)
    (show ObjOk X.prog X.w _ _ _ (.lst (out.map (decV its vs))) from ⟨hlen, out, e', v1, he'⟩), rfl, po.newL w hf v2⟩
  have hb : b < h'.objs.size := Heap.lt_size e
  rw [PyProof.Rows.sortedHeap_old (Nat.ne_of_lt hb) (by rw [size_push']; exact Nat.lt_succ_of_lt hb)]
  exact Heap.get?_push_of_some _ e
/-- sorted(t), t a tuple -/
theorem sort_tup (I : Inv X pins σ H s) {XA : Nat → Option Addr} {W : XK} {hs : Hs} {Q : VK} {a : Addr} {vs : List V} {xs : List D} (w : Wd X.K ρ F H hs) (sq : SqT X.K H a vs) (rd : Rds X.K ρ F H vs xs) (hu : X.A.units + 64 < cLine) (po : Po X.K XA W ρ F H (sortR xs hs) (RdG X.K) Q) :
    wpAny (model X.prog X.w) X.A (call (.builtin "sorted") [.ref a]) (EP X pins σ Q) X.xe s := by
  obtain ⟨hk, po⟩ := Po.need po
  have hk : sameSort xs = true := hk
  obtain ⟨its, rv, ⟨o0, ho0, hc0, n0, hd0⟩, hz⟩ := I.tuple sq
  have hn : its.length ≤ sizeLine := by rw [← rv.length]; exact hz
  refine Calls.call_function_entry PyProof.Rows.kind_sorted PyProof.Rows.plain_sorted PyProof.Rows.entry_sorted (PyProof.Rows.args_sorted1 _) ?_
  unfold Builtin.«sorted»
  refine wpAny_bind (m := checkCount "sorted" 1 1 _) (wpAny_pure ?_)
  refine wpAny_bind (wpAny_collect_seq (A := X.A.in1) a (.inr rfl) ho0 hc0 hd0 (fun h' hk' => ?_) (by simpa using hn))
  rw [show its.toArray.toList = its by simp]
  have I1 : Inv X pins σ H { s with heap := h' } := I.kept (t' := s.toks) hk'
  refine wpAny_bind (wpAny_newList ?_ hn)
  have hoL : (h'.push (seqObj "list" its.toArray 0)).get? h'.objs.size = some (seqObj "list" its.toArray 0) := Heap.get?_push_size _ rfl
  show wpAny _ _ _ _ _ { s with heap := h'.push (seqObj "list" its.toArray 0) }
  have kk : ∀ b o, h'.get? b = some o → b ≠ h'.objs.size ∧ (h'.push (seqObj "list" its.toArray 0)).get? b = some o := fun b o e => ⟨Nat.ne_of_lt (Heap.lt_size e), Heap.get?_push_of_some _ e⟩
  refine wpAny_bind (wpAny_holding (wpAny_call_entry PyProof.Rows.slot_list_sort ⟨_, hoL, rfl⟩ PyProof.Rows.entry_list_sort
    (SrtO.list_sort_ord (s := { s with heap := h'.push (seqObj "list" its.toArray 0) }) (swo_ltVv its xs) hoL hn (fun h2 => sortable I1 rv rd hk h2 hu kk) fun out h1 h2 => ⟨_, rfl, ?_⟩) (PyProof.Rows.args_list_sort _)))
  obtain ⟨v1, v2⟩ := sort_out I1 rv rd hk h1 h2.perm
  obtain ⟨e', he'⟩ := PyProof.Rows.sortedHeap_at (vs := its) (out := out.toArray) hoL
  have hlen : (out.map (decV its vs)).length ≤ sizeLine := by
    rw [List.length_map, h2.perm.length_eq]
    exact hn
  have hf : H h'.objs.size = none := I1.hok.fresh (Nat.le_refl _)
  refine wpAny_pure ⟨_, rfl, .ref h'.objs.size, upd H h'.objs.size (.lst (out.map (decV its vs))), I1.laid (t' := s.toks) (fun b u e => ?_) (Nat.le_refl _)
    (show ObjOk X.prog X.w _ _ _ (.lst (out.map (decV its vs))) from ⟨hlen, out, e', v1, he'⟩), rfl, po.newL w hf v2⟩
  have hb : b < h'.objs.size := Heap.lt_size e
  rw [PyProof.Rows.sortedHeap_old (Nat.ne_of_lt hb) (by rw [size_push']; exact Nat.lt_succ_of_lt hb)]
  exact Heap.get?_push_of_some _ e
theorem key_rds : ∀ k : List Key, Rds X.K ρ F H (k.map kV) (k.map kD)
  | [] => .nil
  | x :: k => by
    refine .cons ?_ (key_rds k)
    cases x with
    | inl i => exact .int i
    | inr x => exact .str x
theorem prT_keys {hs : Hs} (w : Wd X.K ρ F H hs) : ∀ {ws : List (List Key × V)} {kvs : List (D × D)} {ks : List (List Key × Addr × Value)}, PrT X.K ρ F H ws kvs → KT H ws ks → Rds X.K ρ F H (ks.map fun x => V.ref x.2.1) (kvs.map (·.1))
  | _, _, _, .nil, r => by cases r; exact .nil
  | _, _, _, .cons q t, r => by
    cases r with
    | cons h r =>
      obtain ⟨h1, h2, _⟩ := h
      exact .cons (.tup ⟨h2, fun f => w.nt _ _ f h2⟩ (key_rds _)) (prT_keys w t r)
theorem prK_keys : ∀ {ws : List (Key × V)} {kvs : List (D × D)}, PrK X.K ρ F H ws kvs → Rds X.K ρ F H (ws.map fun p => kV p.1) (kvs.map (·.1))
  | _, _, .nil => .nil
  | _, _, .cons (k := k) r t => by
    refine .cons ?_ (prK_keys t)
    cases k with
    | inl i => exact .int i
    | inr x => exact .str x
theorem vals_keys {P : Program} {wl : World} : ∀ {ws : List (Key × V)} {vs : List (Key × Value)} {es : List DictEntry}, KV ws vs → Pairs (mixKind P wl) es vs → Vals (ws.map fun p => kV p.1) (es.map (·.key))
  | _, _, _, .nil, .nil => .nil
  | _, _, _, .cons h t, .cons h1 h2 t2 => by
    refine .cons ?_ (vals_keys t t2)
    obtain ⟨e, _⟩ := h
    have h1 : keyIs _ _ = true := h1
    rw [← e] at h1
    rcases keyIs_shape h1 with ⟨i, t, e1, e2⟩ | ⟨x, t, e1, e2⟩
    · show RelV (kV _) _
      rw [e1]
      exact ⟨t, e2⟩
    · show RelV (kV _) _
      rw [e1]
      exact ⟨t, e2⟩
theorem sort_ok {XA : Nat → Option Addr} (hc : X.calm = true) (hu : X.A.units + 64 < cLine) : SortOk X XA := by
  intro pins s σ H xs us Q I rx h
  obtain ⟨W, ρ, F, hs, ds, w, rr, po⟩ := h
  cases rr with
  | nil => exact po.elim
  | cons r t =>
    cases t with
    | cons r2 t2 => exact po.elim
    | nil =>
      rename_i v d
      obtain ⟨u, rfl, ru⟩ := rx.one
      have po : Po X.K XA W ρ F H (R.bind (keysR d) sortR hs) (RdG X.K) Q := po
      cases d with
      | dct tk kvs =>
        obtain ⟨a, e0, c⟩ := r.dct_inv
        subst e0
        cases ru
        cases tk with
        | false =>
            have po : Po X.K XA W ρ F H (sortR (kvs.map (·.1)) hs) (RdG X.K) Q := po
            obtain ⟨ws, ea, pr⟩ := c
            obtain ⟨z, hd, vs, kv, o, es, ep, ho, hx, hdat, hke, prs, hnd⟩ := (show ObjOk X.prog X.w H s.heap _ (.dK ws) from I.hok _ _ ea)
            have l1 : es.toList.length = vs.length := prs.length
            have l2 : ws.length = vs.length := Paired.length kv
            refine sort_src I hc (its := es.toList.map (·.key)) (vs := ws.map fun p => kV p.1) (kdl_raw hd hx hdat) ho (by rw [List.length_map]; omega) (by rw [List.length_map, Array.length_toList]) (fun acc' it => ?_) w (vals_keys kv prs) (prK_keys pr) hu po
            apply List.ext_getElem?
            intro j
            rw [List.getElem?_map]
            have hl : acc'.toList.length = es.toList.length := by rw [Array.length_toList, it.1, Array.length_toList]
            cases hj : acc'.toList[j]? with
            | none =>
              have h1 := List.getElem?_eq_none_iff.mp hj
              rw [List.getElem?_eq_none (by omega)]
              rfl
            | some v =>
              obtain ⟨en, hen, hv⟩ := it.2 j v (by rw [← Array.getElem?_toList]; exact hj)
              rw [Array.getElem?_toList, hen, hv]
              rfl
        | true =>
            have po : Po X.K XA W ρ F H (sortR (kvs.map (·.1)) hs) (RdG X.K) Q := po
            obtain ⟨ws, ea, pr⟩ := c
            obtain ⟨z, hd, ks, rel, o, es, ep, ho, hx, hdat, hes, hnd⟩ := (show ObjOk X.prog X.w H s.heap _ (.dT ws) from I.hok _ _ ea)
            have l1 : es.size = ks.length := size_of_entries hes
            have l2 : ws.length = ks.length := Paired.length rel
            refine sort_src I hc (its := ks.map fun x => Value.ref x.2.1) (vs := ks.map fun x => V.ref x.2.1) (kdl_raw hd hx hdat) ho (by rw [List.length_map]; omega) (by rw [List.length_map]; omega) (fun acc' it => ?_) w ?_ (prT_keys w pr rel) hu po
            · have hl : acc'.toList.length = ks.length := by rw [Array.length_toList, it.1]; exact l1
              apply List.ext_getElem?
              intro j
              rw [List.getElem?_map]
              cases hj : acc'.toList[j]? with
              | none =>
                have h1 := List.getElem?_eq_none_iff.mp hj
                rw [List.getElem?_eq_none (by omega)]
                all_goals rfl
              | some v =>
                obtain ⟨en, hen, hv⟩ := it.2 j v (by rw [← Array.getElem?_toList]; exact hj)
                have qe := entry_at hes j
                rw [hen] at qe
                cases hb : ks[j]? with
                | none =>
                  rw [hb] at qe
                  exact nomatch (show some en = none from qe)
                | some b =>
                  rw [hb] at qe
                  have e2 : en = entryOfKey (tupleKind (mixKind X.prog X.w)) b := Option.some.inj qe
                  rw [hv, e2]
                  all_goals rfl
            · have e : (ks.map fun x => Value.ref x.2.1) = (ks.map fun x => x.2.1).map Value.ref := by rw [List.map_map]; rfl
              have e' : (ks.map fun x => V.ref x.2.1) = (ks.map fun x => x.2.1).map V.ref := by rw [List.map_map]; rfl
              rw [e, e']
              exact vals_refs _
      | _ =>
        obtain ⟨a, vs, xs, rfl, sq, q, po⟩ := seq_of w r po
        cases ru
        rcases sq with sq | ⟨sq, e⟩
        · exact sort_lst I w sq q hu po
        · exact sort_tup I w sq q hu po
end
end Ny

set_option maxHeartbeats 1000000
/-! Ny: which small tree stands for which tree of the model's syntax (a check by evaluation). -/
namespace Ny
open PySem PySem.Spec PyProof.Rows L2

structure Ck where
  /-- the names of the def, by slot -/
  N : List Str
  /-- own defs: name, place, number of parameters, names of the parameters -/
  fn : List (Str × Nat × List Str) := []
  /-- the module's constants -/
  cst : List (Str × D) := []
  /-- the module's constant tuples (of ints and texts) -/
  tcst : List (Str × List D) := []
  /-- names that stand for built-ins -/
  blt : List Str := []
  /-- own defs that are called by names: name, place, parameters, how many values stand ahead of the names -/
  kw : List (Str × Nat × List Str × Nat) := []
  /-- own exception classes: name, place -/
  exc : List (Str × Nat) := []

def okName (x : Str) : Bool := !(x == ("__debug__" : Str)) && (!(x == ("__classdict__" : Str)) && !(x == ("__name__" : Str)))
def visB (sc : Scope) (x : Str) : Bool := match sc.names.lookup x with
  | some .local => true
  | some .cell => true
  | some .free => true
  | _ => false
def locB (ck : Ck) (sc : Scope) (x : Str) (i : Nat) : Bool := decide (ck.N[i]? = some x) && (visB sc x && okName x)
def gloB (sc : Scope) (x : Str) : Bool := decide (sc.names.lookup x = some .globalImplicit) && okName x
def bltB (ck : Ck) (sc : Scope) (x : Str) : Bool := ck.blt.contains x && gloB sc x
mutual
def sameD : D → D → Bool
  | .non, .non => true
  | .bl a, .bl b => a == b
  | .int a, .int b => decide (a = b)
  | .str a, .str b => decide (a = b)
  | .tup xs, .tup ys => sameDs xs ys
  | _, _ => false
def sameDs : List D → List D → Bool
  | [], [] => true
  | x :: xs, y :: ys => sameD x y && sameDs xs ys
  | _, _ => false
end
def constB : Const → D → Bool
  | .none, .non => true
  | .bool a, .bl b => a == b
  | .int a, .int b => decide (a = b)
  | .str a, .str b => decide (a = b)
  | _, _ => false
def notStar : Expr → Bool
  | .Starred .. => false
  | _ => true
def allPlain (es : List Expr) : Bool := es.all notStar
/-- a plain index -/
def plainIxB : Expr → Bool
  | .Slice .. => false
  | _ => true
def fnB (ck : Ck) (sc : Scope) (x : Str) (f : Nat) (n : Nat) : Bool := gloB sc x && ck.fn.any fun p => decide (p.1 = x) && (decide (p.2.1 = f) && decide (p.2.2.length = n))
/-- f(e, .., k = v, ..): the names are the rest of the parameters -/
def kwB (ck : Ck) (sc : Scope) (x : Str) (f n : Nat) (ks : List (Option Str)) : Bool := gloB sc x && ck.kw.any fun p => decide (p.1 = x) && (decide (p.2.1 = f) && (decide (p.2.2.2 = n) && (decide (n ≤ p.2.2.1.length) && decide (ks = (p.2.2.1.drop n).map some))))
def kwName : Keyword → Option Str
  | ⟨k, _, _⟩ => k
def takeN : Nat → NEs → NEs
  | 0, _ => .nil
  | n + 1, .cons e es => .cons e (takeN n es)
  | _ + 1, .nil => .nil
def dropN : Nat → NEs → NEs
  | 0, es => es
  | n + 1, .cons e es => dropN n es
  | _ + 1, .nil => .nil
def tyName : Ty → Str
  | .int => "int"
  | .bool => "bool"
  | .str => "str"
  | .tuple => "tuple"
  | .list => "list"
  | .dict => "dict"
/-- a test that is no 'not', no and | or, no conditional, no comparison -/
def plainTest : Expr → Bool
  | .UnaryOp .Not .. => false
  | .BoolOp .. => false
  | .IfExp .. => false
  | .Compare .. => false
  | _ => true
mutual
/-- the target's names must pass tb -/
def chkT : Nat → Ck → (Str → Bool) → Expr → NT → Bool
  | 0, _, _, _, _ => false
  | n + 1, ck, tb, e, t => match t with
    | .nm i => (match e with
      | .Name x _ => decide (ck.N[i]? = some x) && tb x
      | _ => false)
    | .tp ts => (match e with
      | .Tuple es _ _ => chkTs n ck tb es ts
      | _ => false)
def chkTs : Nat → Ck → (Str → Bool) → List Expr → NTs → Bool
  | 0, _, _, _, _ => false
  | n + 1, ck, tb, es, ts => match ts with
    | .nil => es.isEmpty
    | .cons t ts => (match es with
      | e :: es => chkT n ck tb e t && chkTs n ck tb es ts
      | [] => false)
end
mutual
/-- the target's slots are among vs -/
def ntIn : NT → List Nat → Bool
  | .nm i, vs => vs.contains i
  | .tp ts, vs => ntsIn ts vs
def ntsIn : NTs → List Nat → Bool
  | .nil, _ => true
  | .cons t ts, vs => ntIn t vs && ntsIn ts vs
end
/-- names that the block makes its own -/
def tbOf (scope : Scope) (x : Str) : Bool := match scope.names.lookup x with
  | some .local => true
  | some .cell => true
  | _ => false
def ownP (ck : Ck) (own : List Nat) : List (Str × Nat) := own.map fun i => ((ck.N[i]?).getD ⟨#[]⟩, i)

mutual
def chkE : Nat → Ck → Scope → Expr → NE → Bool
  | 0, _, _, _, _ => false
  | n + 1, ck, sc, e, ne => match ne with
    | .cst d => (match e with
      | .Constant c _ _ => constB c d
      | .Name x _ => gloB sc x && ck.cst.any fun p => decide (p.1 = x) && sameD p.2 d
      | _ => false)
    | .var i => (match e with
      | .Name x _ => locB ck sc x i
      | _ => false)
    | .tup es => (match e with
      | .Tuple xs _ _ => chkA n ck sc xs es
      | _ => false)
    | .lst es => (match e with
      | .List xs _ => chkA n ck sc xs es
      | _ => false)
    | .dct0 _ => (match e with
      | .Dict [] [] _ => true
      | _ => false)
    | .hlst es => (match e with
      | .List xs _ => chkA n ck sc xs es
      | _ => false)
    | .call f es => (match e with
      | .Call (.Name x _) (x1 :: xs) [] _ => fnB ck sc x f (xs.length + 1) && chkA n ck sc (x1 :: xs) es
      | .Call (.Name x _) [] [] _ => fnB ck sc x f 0 && chkA n ck sc [] es
      | .Call (.Name x _) [] ks _ => kwB ck sc x f 0 (ks.map kwName) && chkK n ck sc ks es
      | .Call (.Name x _) (x1 :: xs) ks _ => kwB ck sc x f (x1 :: xs).length (ks.map kwName) && (chkA n ck sc (x1 :: xs) (takeN (x1 :: xs).length es) && chkK n ck sc ks (dropN (x1 :: xs).length es))
      | _ => false)
    | .blt b es => (match e with
      | .Call (.Name x _) (x1 :: xs) [] _ => (match b with
        | .sortedSet => (match x1, xs, es with
          | .Call (.Name y _) [y1] [] _, [], .cons a .nil => decide (x = ("sorted" : Str)) && (decide (y = ("set" : Str)) && (bltB ck sc x && (bltB ck sc y && (notStar y1 && chkE n ck sc y1 a))))
          | _, _, _ => false)
        | .lenSet => (match x1, xs, es with
          | .Call (.Name y _) [y1] [] _, [], .cons a .nil => decide (x = ("len" : Str)) && (decide (y = ("set" : Str)) && (bltB ck sc x && (bltB ck sc y && (notStar y1 && chkE n ck sc y1 a))))
          | _, _, _ => false)
        | b => decide (x = b.name) && (bltB ck sc x && chkA n ck sc (x1 :: xs) es))
      | _ => false)
    | .isi a ts => (match e, ts with
      | .Call (.Name x _) [x1, .Name y _] [] _, [t] => decide (x = ("isinstance" : Str)) && (bltB ck sc x && (decide (y = tyName t) && (bltB ck sc y && (notStar x1 && chkE n ck sc x1 a))))
      | _, _ => false)
    | .bin op a b => (match e with
      | .BinOp l op' r _ => decide (op = op') && (chkE n ck sc l a && chkE n ck sc r b)
      | _ => false)
    | .un op a => (match e with
      | .UnaryOp op' x _ => decide (op = op') && (!decide (op = .Not) && chkE n ck sc x a)
      | _ => false)
    | .cmp op a b => (match e with
      | .Compare l [op'] [r] _ => decide (op = op') && (!behindInMarks op r && (chkE n ck sc l a && chkE n ck sc r b))
      | _ => false)
    | .inK neg a xs => (match e with
      | .Compare l [op'] [.Name x px] _ => decide (op' = if neg then .NotIn else .In) && ((gloB sc x && ck.tcst.any fun p => decide (p.1 = x) && sameDs p.2 xs) && (!behindInMarks (if neg then .NotIn else .In) (.Name x px) && chkE n ck sc l a))
      | _ => false)
    | .cmp2 op op2 a b c => (match e with
      | .Compare l [op', op2'] [r, r2] _ => decide (op = op') && (decide (op2 = op2') && (!behindInMarks op2 r2 && (chkE n ck sc l a && (chkE n ck sc r b && chkE n ck sc r2 c))))
      | _ => false)
    | .and a b => (match e with
      | .BoolOp .And (x :: y :: xs) pos => chkE n ck sc x a && chkBo n ck sc .And (y :: xs) b
      | _ => false)
    | .or a b => (match e with
      | .BoolOp .Or (x :: y :: xs) pos => chkE n ck sc x a && chkBo n ck sc .Or (y :: xs) b
      | _ => false)
    | .not a => (match e with
      | .UnaryOp .Not x _ => chkE n ck sc x a
      | _ => false)
    | .ite c a b => (match e with
      | .IfExp t x y _ => chkE n ck sc t c && (chkE n ck sc x a && chkE n ck sc y b)
      | _ => false)
    | .ix a i => (match e with
      | .Subscript x s _ => plainIxB s && (chkE n ck sc x a && chkE n ck sc s i)
      | _ => false)
    | .sl a lo hi => (match e with
      | .Subscript x (.Slice l u none _) _ => chkE n ck sc x a && (chkP n ck sc l lo && chkP n ck sc u hi)
      | _ => false)
    | .rev a => (match e with
      | .Subscript x (.Slice none none (some (.UnaryOp .USub (.Constant (.int i) _ _) _)) _) _ => decide (i = 1) && chkE n ck sc x a
      | _ => false)
    | .lc own t it cond elt => (match e with
      | .ListComp el [⟨tg, iter, ifs, i⟩] scope _ => decide (i = 0) && (blkC ck.N sc scope (ownP ck own) && (chkT n ck (tbOf scope) tg t && (ntIn t own && (notSet iter && (chkI n ck sc tg iter it &&
          (chkC n ck (relS scope sc) ifs cond && chkE n ck (relS scope sc) el elt))))))
      | _ => false)
    | _ => false
def chkA : Nat → Ck → Scope → List Expr → NEs → Bool
  | 0, _, _, _, _ => false
  | n + 1, ck, sc, es, nes => match nes with
    | .nil => es.isEmpty
    | .cons a as => (match es with
      | e :: es => notStar e && (chkE n ck sc e a && chkA n ck sc es as)
      | [] => false)
def chkK : Nat → Ck → Scope → List Keyword → NEs → Bool
  | 0, _, _, _, _ => false
  | n + 1, ck, sc, ks, nes => match nes with
    | .nil => ks.isEmpty
    | .cons a as => (match ks with
      | ⟨_, v, _⟩ :: ks => chkE n ck sc v a && chkK n ck sc ks as
      | [] => false)
def chkBo : Nat → Ck → Scope → BoolOp → List Expr → NE → Bool
  | 0, _, _, _, _, _ => false
  | n + 1, ck, sc, op, es, ne => match es with
    | [] => false
    | [e] => chkE n ck sc e ne
    | e :: f :: es => (match op, ne with
      | .And, .and a b => chkE n ck sc e a && chkBo n ck sc .And (f :: es) b
      | .Or, .or a b => chkE n ck sc e a && chkBo n ck sc .Or (f :: es) b
      | _, _ => false)
/-- a bound of a slice -/
def chkP : Nat → Ck → Scope → Option Expr → NE → Bool
  | 0, _, _, _, _ => false
  | n + 1, ck, sc, o, ne => match o with
    | none => (match ne with
      | .cst .non => true
      | _ => false)
    | some e => !isNonE ne && chkE n ck sc e ne
/-- a clause's tests: none or one -/
def chkC : Nat → Ck → Scope → List Expr → NE → Bool
  | 0, _, _, _, _ => false
  | n + 1, ck, sc, ifs, ne => match ifs with
    | [] => (match ne with
      | .cst (.bl true) => true
      | _ => false)
    | [c] => chkE n ck sc c ne
    | _ => false
/-- what is walked (tg: the target) -/
def chkI : Nat → Ck → Scope → Expr → Expr → NI → Bool
  | 0, _, _, _, _, _ => false
  | n + 1, ck, sc, tg, e, it => match it with
    | .seq a => chkE n ck sc e a
    | .rng1 a => (match e with
      | .Call (.Name x _) [x1] [] _ => decide (x = ("range" : Str)) && (bltB ck sc x && (notStar x1 && chkE n ck sc x1 a))
      | _ => false)
    | .rng2 a b => (match e with
      | .Call (.Name x _) [x1, x2] [] _ => decide (x = ("range" : Str)) && (bltB ck sc x && (notStar x1 && (notStar x2 && (chkE n ck sc x1 a && chkE n ck sc x2 b))))
      | _ => false)
    | .enum a => (match tg, e with
      | .Tuple _ _ _, .Call (.Name x _) [x1] [] _ => decide (x = ("enumerate" : Str)) && (bltB ck sc x && (notStar x1 && chkE n ck sc x1 a))
      | _, _ => false)
    | .zip a b => (match tg, e with
      | .Tuple _ _ _, .Call (.Name x _) [x1, x2] [] _ => decide (x = ("zip" : Str)) && (bltB ck sc x && (notStar x1 && (notStar x2 && (chkE n ck sc x1 a && chkE n ck sc x2 b))))
      | _, _ => false)
    | _ => false
/-- not a set display (the walk would be another) -/
def notSet : Expr → Bool
  | .Set .. => false
  | _ => true
end
end Ny

set_option maxHeartbeats 2000000
/-! Ny: the evaluator tells what the model's expressions do. -/
namespace Ny
open PySem PySem.Spec PyProof.Rows L2

theorem PE.imp {X : Cx} {e : Expr} {t t' : TE} (h : PE X e t) (i : ∀ σ H Q, t' σ H Q → t σ H Q) : PE X e t' := ⟨fun pins s σ H Q I q => h.run pins s σ H Q I (i _ _ _ q)⟩
theorem PT.imp {X : Cx} {e : Expr} {t t' : TT} (h : PT X e t) (i : ∀ σ H Q, t' σ H Q → t σ H Q) : PT X e t' := ⟨fun pins s σ H Q I q => h.run pins s σ H Q I (i _ _ _ q)⟩
theorem PW.imp {X : Cx} {e : Expr} {t t' : TT} (h : PW X e t) (i : ∀ σ H Q, t' σ H Q → t σ H Q) : PW X e t' := ⟨fun wh pins s σ H Q I q => h.run wh pins s σ H Q I (i _ _ _ q)⟩
theorem PA.imp {X : Cx} {e : List Expr} {t t' : TA} (h : PA X e t) (i : ∀ σ H Q, t' σ H Q → t σ H Q) : PA X e t' := ⟨fun pos pins s σ H Q I q => h.run pos pins s σ H Q I (i _ _ _ q)⟩
theorem PI.imp {X : Cx} {tg e : Expr} {t t' : TI} (h : PI X tg e t) (i : ∀ σ H Q, t' σ H Q → t σ H Q) : PI X tg e t' := ⟨fun pins s σ H Q I q => h.run pins s σ H Q I (i _ _ _ q)⟩

section
variable (K : PySem.W.Frag) (XA : Nat → Option Addr) (W : WX) {α β : Type}
/-- the reading of a piece of code that m tells -/
def tG (Rel : RelT β α) (m : Env → R α) : L2.St → Hp → (β → Hp → Prop) → Prop := fun σ H Q => ∃ ρ F h E, Wd K ρ F H h ∧ EnvR K XA ρ F H E σ ∧ Po K XA (fun c d H' => W c d σ H') ρ F H (m E h) Rel Q
abbrev RelTB : RelT Bool D := fun _ _ _ _ b d => d = .bl b
end
section
variable {K : PySem.W.Frag} {XA : Nat → Option Addr} {W : WX} {α β γ δ : Type} {Rel Rel1 : RelT β α} {Rel2 : RelT δ γ} {m m' : Env → R α}
theorem tG_mono {σ : L2.St} {H : Hp} {Q Q' : β → Hp → Prop} (h : tG K XA W Rel m σ H Q) (i : ∀ b H, Q b H → Q' b H) : tG K XA W Rel m σ H Q' := by
  obtain ⟨ρ, F, h, E, w, r, po⟩ := h
  exact ⟨ρ, F, h, E, w, r, po.mono (fun _ _ _ _ _ _ x => x) i⟩
theorem tG_rel {σ : L2.St} {H : Hp} {Q : β → Hp → Prop} {Rel' : RelT β α} (h : tG K XA W Rel m σ H Q) (i : ∀ ρ F H h b a, Rel' ρ F H h b a → Rel ρ F H h b a) : tG K XA W Rel' m σ H Q := by
  obtain ⟨ρ, F, h, E, w, r, po⟩ := h
  exact ⟨ρ, F, h, E, w, r, po.mono i (fun _ _ x => x)⟩
/-- first m, then the rest -/
theorem st1 {ρ : Rho} {F : Addr → Prop} {H : Hp} {h : Hs} {E : Env} {σ : L2.St} {f : α → R γ} {Q : δ → Hp → Prop} (w : Wd K ρ F H h) (r : EnvR K XA ρ F H E σ) (po : Po K XA (fun c d H' => W c d σ H') ρ F H (R.bind (m E) f h) Rel2 Q) :
    tG K XA W Rel1 m σ H fun x H1 => ∃ ρ1 F1 h1 a, Xt ρ H ρ1 H1 ∧ F1 = orR F ρ1 ∧ Wd K ρ1 F1 H1 h1 ∧ EnvR K XA ρ1 F1 H1 E σ ∧ Rel1 ρ1 F1 H1 h1 x a ∧ Po K XA (fun c d H' => W c d σ H') ρ1 F1 H1 (f a h1) Rel2 Q := by
  refine ⟨ρ, F, h, E, w, r, (Po.bind po).mono (fun _ _ _ _ _ _ x => x) fun b H1 ⟨ρ1, h1, a, x, w1, r1, po1⟩ => ?_⟩
  exact ⟨ρ1, _, h1, a, x, rfl, w1, r.xt x w.sub, r1, po1⟩
theorem st1n {ρ : Rho} {F : Addr → Prop} {H : Hp} {h : Hs} {E : Env} {σ : L2.St} {Q : β → Hp → Prop} (w : Wd K ρ F H h) (r : EnvR K XA ρ F H E σ) (po : Po K XA (fun c d H' => W c d σ H') ρ F H (m E h) Rel1 Q) :
    tG K XA W Rel1 m σ H Q := ⟨ρ, F, h, E, w, r, po⟩
end

/-- the promise of the def that C tells at place f -/
def spN (K : PySem.W.Frag) (XA : Nat → Option Addr) (np : Nat) (C : List D → R D) : Sp := fun vs H Q E => vs.length = np ∧ ∃ ρ F h ds, Wd K ρ F H h ∧ Rds K ρ F H vs ds ∧ Po K XA E ρ F H (C ds h) (lf (Rd K)) Q

/-- n values ahead, the rest by their names -/
def KwOk (fd : FuncData) (ps : List Str) (n : Nat) : Prop := ∀ (s : Shared) (us ws : List Value), us.length = n → us.length + ws.length = ps.length → BindsTo s fd ⟨us, (ps.drop n).zip ws⟩ (ps.zip (us ++ ws))
/-- sorted(set(e)), len(set(e)): the rules (proved in their own module) -/
def SetOk (X : Cx) (XA : Nat → Option Addr) : Prop := ∀ (W : WX) (e : Expr) (ma : Env → R D) (p1 p2 p3 p4 : Pos), Gl X "set" → X.mg "set" = none → notStar e = true → PE X e (tG X.K XA W (lf (RdC X.K)) ma) →
  (Gl X "sorted" → X.mg "sorted" = none → PE X (.Call (.Name "sorted" p1) [.Call (.Name "set" p2) [e] [] p3] [] p4) (tG X.K XA W (RdG X.K) fun E => R.bind (ma E) fun x => bltR .sortedSet [x])) ∧
  (Gl X "len" → X.mg "len" = none → PE X (.Call (.Name "len" p1) [.Call (.Name "set" p2) [e] [] p3] [] p4) (tG X.K XA W (RdG X.K) fun E => R.bind (ma E) fun x => bltR .lenSet [x]))
structure GoodQ (ck : Ck) (sc : Scope) (X : Cx) : Prop where
  scope : X.env.scope = sc
  names : X.N = ck.N
  nd : ck.N.Nodup
  blt : ∀ x, ck.blt.contains x = true → X.mg x = none
  cst : ∀ p ∈ ck.cst, ∃ u v, X.mg p.1 = some u ∧ RelV v u ∧ ∀ ρ F H, Rd X.K ρ F H v p.2
  tcst : ∀ p ∈ ck.tcst, ∃ a vs, X.mg p.1 = some (.ref a) ∧ KTup X.K a vs ∧ ∀ ρ F H, Rds X.K ρ F H vs p.2
structure Good (XA : Nat → Option Addr) (T : Tab) (C : Call) (k : Nat) (ck : Ck) (sc : Scope) (X : Cx) : Prop extends GoodQ ck sc X where
  calm : X.calm = true
  fns : ∀ p ∈ ck.fn, ∃ f fd, X.mg p.1 = some (.ref f) ∧ PySem.W.keepIn X.K (.ref f) = true ∧ Binds X.K fd p.2.2 [] ∧ FnOk X.prog X.w X.K X.mg X.base (L2.CX X.prog X.w) k f fd p.2.2 (spN X.K XA p.2.2.length (C p.2.1))
  kws : ∀ p ∈ ck.kw, ∃ f fd, X.mg p.1 = some (.ref f) ∧ PySem.W.keepIn X.K (.ref f) = true ∧ KwOk fd p.2.2.1 p.2.2.2 ∧ FnOk X.prog X.w X.K X.mg X.base (L2.CX X.prog X.w) k f fd p.2.2.1 (spN X.K XA p.2.2.1.length (C p.2.1))
  kar : ∀ p ∈ ck.kw, ∀ ds h, C p.2.1 ds h ≠ .bad → ds.length = p.2.2.1.length
  ar : ∀ p ∈ ck.fn, ∀ ds h, C p.2.1 ds h ≠ .bad → ds.length = p.2.2.length
  room : Room k X.A
  sorts : ∀ Y : Cx, Y.calm = true → Y.A.units + 64 < cLine → SortOk Y XA
  sets : ∀ Y : Cx, Y.calm = true → Y.A.units + 64 < cLine → SetOk Y XA

section
variable {XA : Nat → Option Addr} {T : Tab} {C : Call} {k : Nat} {ck : Ck} {sc : Scope} {X : Cx} {W : WX}
theorem vis_of {x : Str} (h : visB sc x = true) : Vis sc x := by
  unfold visB at h
  unfold Vis
  split at h
  · rename_i e; exact .inl e
  · rename_i e; exact .inr (.inl e)
  · rename_i e; exact .inr (.inr e)
  · cases h
theorem okName_of {x : Str} (h : okName x = true) : (x == ("__debug__" : Str)) = false ∧ (x == ("__classdict__" : Str)) = false ∧ x ≠ "__name__" := by
  unfold okName at h
  simp only [Bool.and_eq_true, Bool.not_eq_true'] at h
  exact ⟨h.1, h.2.1, by simpa using h.2.2⟩
theorem loc_of (g : GoodQ ck sc X) {x : Str} {i : Nat} (h : locB ck sc x i = true) : X.N[i]? = some x ∧ Vis X.env.scope x ∧ (x == ("__debug__" : Str)) = false ∧ (x == ("__classdict__" : Str)) = false := by
  unfold locB at h
  simp only [Bool.and_eq_true, decide_eq_true_eq] at h
  obtain ⟨h1, h2, h3⟩ := h
  rw [g.names, g.scope]
  exact ⟨h1, vis_of h2, (okName_of h3).1, (okName_of h3).2.1⟩
theorem glo_of (g : GoodQ ck sc X) {x : Str} (h : gloB sc x = true) : Gl X x ∧ (x == ("__debug__" : Str)) = false ∧ x ≠ "__name__" := by
  unfold gloB at h
  simp only [Bool.and_eq_true, decide_eq_true_eq] at h
  refine ⟨?_, (okName_of h.2).1, (okName_of h.2).2.2⟩
  show X.env.scope.names.lookup x = _
  rw [g.scope]
  exact h.1
theorem blt_of (g : GoodQ ck sc X) {x : Str} (h : bltB ck sc x = true) : Gl X x ∧ (x == ("__debug__" : Str)) = false ∧ x ≠ "__name__" ∧ X.mg x = none := by
  unfold bltB at h
  obtain ⟨h1, h2⟩ := Bool.and_eq_true_iff.mp h
  obtain ⟨a, b, c⟩ := glo_of g h2
  exact ⟨a, b, c, g.blt x h1⟩
mutual
theorem sameD_eq : ∀ {a b : D}, sameD a b = true → a = b
  | .non, b, h => by cases b <;> first | rfl | (simp [sameD] at h)
  | .bl x, b, h => by cases b <;> first | (simp [sameD] at h; rw [h]) | (simp [sameD] at h)
  | .int x, b, h => by cases b <;> first | (simp [sameD] at h; rw [h]) | (simp [sameD] at h)
  | .str x, b, h => by cases b <;> first | (simp [sameD] at h; rw [h]) | (simp [sameD] at h)
  | .tup xs, b, h => by
    cases b with
    | tup ys =>
      unfold sameD at h
      rw [sameDs_eq h]
    | _ => simp [sameD] at h
  | .lst xs, b, h => by cases b <;> simp [sameD] at h
  | .ro xs, b, h => by cases b <;> simp [sameD] at h
  | .dct _ xs, b, h => by cases b <;> simp [sameD] at h
  | .obj xs, b, h => by cases b <;> simp [sameD] at h
theorem sameDs_eq : ∀ {a b : List D}, sameDs a b = true → a = b
  | [], b, h => by cases b <;> first | rfl | (simp [sameDs] at h)
  | x :: xs, b, h => by
    cases b with
    | nil => simp [sameDs] at h
    | cons y ys =>
      unfold sameDs at h
      obtain ⟨h1, h2⟩ := Bool.and_eq_true_iff.mp h
      rw [sameD_eq h1, sameDs_eq h2]
end

/-! ### names, constants -/
theorem s_const {c : Const} {d : D} {j : Nat} {pos : Pos} (h : constB c d = true) : PE X (.Constant c j pos) (tG X.K XA W (RdG X.K) fun _ => R.pure d) := by
  have go : ∀ {v : V}, PE X (.Constant c j pos) (tC v) → moOf d = none → (∀ ρ F H, Rd X.K ρ F H v d) → PE X (.Constant c j pos) (tG X.K XA W (RdG X.K) fun _ => R.pure d) := fun {v} p nl q =>
    PE.imp p fun σ H Q ⟨ρ, F, h, E, w, r, po⟩ => po.now w (.old nl (q ρ F H))
  unfold constB at h
  split at h
  · exact go pe_non rfl fun _ _ _ => .non
  · have e := eq_of_beq h; subst e; exact go pe_bl rfl fun _ _ _ => .bl _
  · have e := of_decide_eq_true h; subst e; exact go pe_int rfl fun _ _ _ => .int _
  · have e := of_decide_eq_true h; subst e; exact go pe_str rfl fun _ _ _ => .str _
  · cases h
theorem s_gl (g : GoodQ ck sc X) {x : Str} {d : D} {pos : Pos} (h : (gloB sc x && ck.cst.any fun p => decide (p.1 = x) && sameD p.2 d) = true) : PE X (.Name x pos) (tG X.K XA W (lf (Rd X.K)) fun _ => R.pure d) := by
  obtain ⟨h1, h2⟩ := Bool.and_eq_true_iff.mp h
  obtain ⟨p, hp, h3⟩ := List.any_eq_true.mp h2
  simp only [Bool.and_eq_true, decide_eq_true_eq] at h3
  obtain ⟨e1, e2⟩ := h3
  obtain ⟨u, v, hm, rv, hd⟩ := g.cst p hp
  rw [e1] at hm
  obtain ⟨a, b, _⟩ := glo_of g h1
  refine PE.imp (pe_glob a hm rv b) fun σ H Q ⟨ρ, F, h, E, w, r, po⟩ => ?_
  refine po.now w ?_
  rw [← sameD_eq e2]
  exact hd ρ F H
theorem s_var (g : GoodQ ck sc X) {x : Str} {i : Nat} {pos : Pos} (h : locB ck sc x i = true) : PE X (.Name x pos) (tG X.K XA W (lf (Rd X.K)) fun E => R.ofOpt (getv E i)) := by
  obtain ⟨h1, h2, h3, h4⟩ := loc_of g h
  refine PE.imp (pe_var h1 h2 h3 h4) fun σ H Q ⟨ρ, F, h, E, w, r, po⟩ => ?_
  obtain ⟨d, e, po⟩ := po.opt
  obtain ⟨v, hv, q⟩ := r.val e
  exact ⟨v, hv, po.now w q⟩
theorem s_varC (g : GoodQ ck sc X) {x : Str} {i : Nat} {pos : Pos} (h : locB ck sc x i = true) : PE X (.Name x pos) (tG X.K XA W (lf (RdC X.K)) fun E => R.ofOpt (getc E i)) := by
  obtain ⟨h1, h2, h3, h4⟩ := loc_of g h
  refine PE.imp (pe_var h1 h2 h3 h4) fun σ H Q ⟨ρ, F, h, E, w, r, po⟩ => ?_
  obtain ⟨d, e, po⟩ := po.opt
  obtain ⟨v, hv, q⟩ := r.cont e
  exact ⟨v, hv, po.now w q⟩
theorem RdG.toRd {K : PySem.W.Frag} : ∀ ρ F H h v d, RdG K ρ F H h v d → lf (Rd K) ρ F H h v d := fun _ _ _ _ _ _ r => r.rd
theorem Rd.toC {K : PySem.W.Frag} : ∀ ρ F H h v d, lf (Rd K) ρ F H h v d → lf (RdC K) ρ F H h v d := fun _ _ _ _ _ _ r => .rd r

/-! ### the steps of each form: m tells the parts, the whole is their bind -/
section
variable {e a b c : Expr} {ma mb mc : Env → R D} {pos : Pos}
theorem s_bin {op : Operator} (ha : PE X a (tG X.K XA W (lf (RdC X.K)) ma)) (hb : PE X b (tG X.K XA W (lf (RdC X.K)) mb)) :
    PE X (.BinOp a op b pos) (tG X.K XA W (RdG X.K) fun E => R.bind (ma E) fun x => R.bind (mb E) fun y => opR op x y) := by
  refine PE.imp (pe_op (op_bin (XA := XA)) ha hb) fun σ H Q ⟨ρ, F, h, E, w, r, po⟩ => ?_
  refine tG_mono (st1 w r po) fun x H1 ⟨ρ1, F1, h1, d1, x1, e1, w1, r1, q1, po1⟩ => ?_
  refine tG_mono (st1 w1 r1 po1) fun y H2 ⟨ρ2, F2, h2, d2, x2, e2, w2, r2, q2, po2⟩ => ?_
  subst e2
  exact ⟨_, ρ2, _, h2, d1, d2, w2, q1.xt x2 w1.sub, q2, po2⟩
theorem s_cmp (g : Good XA T C k ck sc X) {op : CmpOp} (hm : behindInMarks op b = false) (ha : PE X a (tG X.K XA W (lf (RdC X.K)) ma)) (hb : PE X b (tG X.K XA W (lf (RdC X.K)) mb)) :
    PE X (.Compare a [op] [b] pos) (tG X.K XA W (RdG X.K) fun E => R.bind (ma E) fun x => R.bind (mb E) fun y => R.bind (cmpR op x y) fun c => R.pure (.bl c)) := by
  refine PE.imp (pe_cmpR (op_cmp (XA := XA) g.room.units) ha hb hm) fun σ H Q ⟨ρ, F, h, E, w, r, po⟩ => ?_
  refine tG_mono (st1 w r po) fun x H1 ⟨ρ1, F1, h1, d1, x1, e1, w1, r1, q1, po1⟩ => ?_
  refine tG_mono (st1 w1 r1 po1) fun y H2 ⟨ρ2, F2, h2, d2, x2, e2, w2, r2, q2, po2⟩ => ?_
  subst e2
  refine ⟨_, ρ2, _, h2, d1, d2, w2, q1.xt x2 w1.sub, q2, (Po.bind (Rel1 := RelB) po2).mono (fun _ _ _ _ _ _ x => x) fun c H3 ⟨ρ3, h3, c', x3, w3, ec, po3⟩ => ?_⟩
  subst ec
  exact po3.val w3 rfl (.bl _)
theorem s_cmpT (g : Good XA T C k ck sc X) {op : CmpOp} (hm : behindInMarks op b = false) (ha : PE X a (tG X.K XA W (lf (RdC X.K)) ma)) (hb : PE X b (tG X.K XA W (lf (RdC X.K)) mb)) :
    PT X (.Compare a [op] [b] pos) (tG X.K XA W RelTB fun E => R.bind (R.bind (ma E) fun x => R.bind (mb E) fun y => R.bind (cmpR op x y) fun c => R.pure (.bl c)) fun d => R.bind (truthR d) fun t => R.pure (.bl t)) := by
  refine PT.imp (pt_cmpR (op_cmp (XA := XA) g.room.units) ha hb hm) fun σ H Q ⟨ρ, F, h, E, w, r, po⟩ => ?_
  simp only [R.bind_assoc] at po
  show tG X.K XA W (lf (RdC X.K)) ma σ H fun x H1 => tG X.K XA W (lf (RdC X.K)) mb σ H1 fun y H2 => rNB X.K XA (cmpR op) x y H2 fun x H' => ∃ k, x = .bl k ∧ Q k H'
  refine tG_mono (st1 w r po) fun x H1 ⟨ρ1, F1, h1, d1, x1, e1, w1, r1, q1, po1⟩ => ?_
  refine tG_mono (st1 w1 r1 po1) fun y H2 ⟨ρ2, F2, h2, d2, x2, e2, w2, r2, q2, po2⟩ => ?_
  subst e2
  refine ⟨_, ρ2, _, h2, d1, d2, w2, q1.xt x2 w1.sub, q2, (Po.bind (Rel1 := RelB) po2).mono (fun _ _ _ _ _ _ x => x) fun c H3 ⟨ρ3, h3, c', x3, w3, ec, po3⟩ => ?_⟩
  subst ec
  exact ⟨c, rfl, Po.now (a := D.bl c) po3 w3 rfl⟩
theorem s_un {op : UnaryOp} (ha : PE X a (tG X.K XA W (lf (Rd X.K)) ma)) : PE X (.UnaryOp op a pos) (tG X.K XA W (RdG X.K) fun E => R.bind (ma E) (unR op)) := by
  refine PE.imp (pe_un (un_ok (XA := XA)) ha) fun σ H Q ⟨ρ, F, h, E, w, r, po⟩ => ?_
  refine tG_mono (st1 w r po) fun x H1 ⟨ρ1, F1, h1, d1, x1, e1, w1, r1, q1, po1⟩ => ?_
  exact ⟨_, ρ1, _, h1, d1, w1, .rd q1, po1⟩
theorem plainIx_of {s : Expr} (h : plainIxB s = true) : PlainIx s := by
  cases s with
  | Slice => simp [plainIxB] at h
  | _ => exact fun _ _ => rfl
theorem s_ix (hu : X.A.units + 64 < cLine) (hs : plainIxB b = true) (ha : PE X a (tG X.K XA W (lf (RdC X.K)) ma)) (hb : PE X b (tG X.K XA W (lf (Rd X.K)) mb)) :
    PE X (.Subscript a b pos) (tG X.K XA W (lf (Rd X.K)) fun E => R.bind (ma E) fun x => R.bind (mb E) fun y => ixR x y) := by
  refine PE.imp (pe_ix (ix_ok hu (XA := XA)) ha hb (plainIx_of hs)) fun σ H Q ⟨ρ, F, h, E, w, r, po⟩ => ?_
  refine tG_mono (st1 w r po) fun x H1 ⟨ρ1, F1, h1, d1, x1, e1, w1, r1, q1, po1⟩ => ?_
  refine tG_mono (st1 w1 r1 po1) fun y H2 ⟨ρ2, F2, h2, d2, x2, e2, w2, r2, q2, po2⟩ => ?_
  subst e2
  exact ⟨_, ρ2, _, h2, d1, d2, w2, q1.xt x2 w1.sub, .rd q2, po2⟩
/-- by truth: a generic test -/
theorem s_truth (he : plainTest a = true) (ha : PE X a (tG X.K XA W (lf (RdC X.K)) ma)) : PT X a (tG X.K XA W RelTB fun E => R.bind (ma E) fun d => R.bind (truthR d) fun t => R.pure (.bl t)) := by
  have hh : ∀ whole, isTrue a X.env whole = (do let v ← whole; standAt a.pos; holding [v] (PySem.truthy v)) := by
    intro whole
    cases a with
    | UnaryOp op x p => cases op <;> first | rfl | (simp [plainTest] at he)
    | BoolOp => simp [plainTest] at he
    | IfExp => simp [plainTest] at he
    | Compare => simp [plainTest] at he
    | _ => rfl
  refine PT.imp (pt_truthR ha (tr_ok (XA := XA)) hh) fun σ H Q ⟨ρ, F, h, E, w, r, po⟩ => ?_
  refine tG_mono (st1 w r po) fun x H1 ⟨ρ1, F1, h1, d1, x1, e1, w1, r1, q1, po1⟩ => ?_
  refine ⟨_, ρ1, _, h1, d1, w1, q1, (Po.bind (Rel1 := RelB) po1).mono (fun _ _ _ _ _ _ x => x) fun c H3 ⟨ρ3, h3, c', x3, w3, ec, po3⟩ => ?_⟩
  subst ec
  exact Po.now (a := D.bl c) po3 w3 rfl
theorem s_not (ha : PE X a (tG X.K XA W (lf (RdC X.K)) ma)) : PE X (.UnaryOp .Not a pos) (tG X.K XA W (RdG X.K) fun E => R.bind (ma E) fun d => R.bind (truthR d) fun c => R.pure (.bl (!c))) := by
  refine PE.imp (pe_notT ha) fun σ H Q ⟨ρ, F, h, E, w, r, po⟩ => ?_
  refine tG_mono (st1 w r po) fun x H1 ⟨ρ1, F1, h1, d1, x1, e1, w1, r1, q1, po1⟩ => ?_
  unfold R.bind truthR at po1
  cases e : truthy d1 h1 with
  | none => rw [e] at po1; exact po1.elim
  | some t =>
    rw [e] at po1
    exact ⟨t, truth_of w1 q1 e, Po.val (d := D.bl (!t)) w1 rfl (.bl _) po1⟩
theorem s_notT (ha : PT X a (tG X.K XA W RelTB ma)) : PT X (.UnaryOp .Not a pos) (tG X.K XA W RelTB fun E => R.bind (ma E) notD) := by
  refine PT.imp (pt_not ha) fun σ H Q ⟨ρ, F, h, E, w, r, po⟩ => ?_
  refine tG_mono (st1 w r po) fun x H1 ⟨ρ1, F1, h1, d1, x1, e1, w1, r1, q1, po1⟩ => ?_
  have q1 : d1 = .bl x := q1
  subst q1
  exact Po.now (a := D.bl (!x)) po1 w1 rfl
theorem s_and (ha : PE X a (tG X.K XA W (lf (Rd X.K)) ma)) {rest : List Expr} (hb : PE X (.BoolOp .And (b :: rest) pos) (tG X.K XA W (lf (Rd X.K)) mb)) :
    PE X (.BoolOp .And (a :: b :: rest) pos) (tG X.K XA W (lf (Rd X.K)) fun E => R.bind (ma E) fun d => R.bind (truthR d) fun c => match c with
      | true => mb E
      | false => R.pure d) := by
  refine PE.imp (pe_andT ha hb) fun σ H Q ⟨ρ, F, h, E, w, r, po⟩ => ?_
  refine tG_mono (st1 w r po) fun x H1 ⟨ρ1, F1, h1, d1, x1, e1, w1, r1, q1, po1⟩ => ?_
  unfold R.bind truthR at po1
  cases e : truthy d1 h1 with
  | none => rw [e] at po1; exact po1.elim
  | some t =>
    rw [e] at po1
    refine ⟨t, truth_of w1 (.rd q1) e, ?_⟩
    cases t with
    | true => exact st1n w1 r1 po1
    | false => exact Po.now (a := d1) po1 w1 q1
theorem s_or (ha : PE X a (tG X.K XA W (lf (Rd X.K)) ma)) {rest : List Expr} (hb : PE X (.BoolOp .Or (b :: rest) pos) (tG X.K XA W (lf (Rd X.K)) mb)) :
    PE X (.BoolOp .Or (a :: b :: rest) pos) (tG X.K XA W (lf (Rd X.K)) fun E => R.bind (ma E) fun d => R.bind (truthR d) fun c => match c with
      | true => R.pure d
      | false => mb E) := by
  refine PE.imp (pe_orT ha hb) fun σ H Q ⟨ρ, F, h, E, w, r, po⟩ => ?_
  refine tG_mono (st1 w r po) fun x H1 ⟨ρ1, F1, h1, d1, x1, e1, w1, r1, q1, po1⟩ => ?_
  unfold R.bind truthR at po1
  cases e : truthy d1 h1 with
  | none => rw [e] at po1; exact po1.elim
  | some t =>
    rw [e] at po1
    refine ⟨t, truth_of w1 (.rd q1) e, ?_⟩
    cases t with
    | true => exact Po.now (a := d1) po1 w1 q1
    | false => exact st1n w1 r1 po1
theorem s_andT (ha : PT X a (tG X.K XA W RelTB ma)) {rest : List Expr} (hb : PW X (.BoolOp .And (b :: rest) pos) (tG X.K XA W RelTB mb)) :
    PW X (.BoolOp .And (a :: b :: rest) pos) (tG X.K XA W RelTB fun E => R.bind (ma E) fun d => iteR d (mb E) (R.pure (.bl false))) := by
  refine PW.imp (pw_and ha hb) fun σ H Q ⟨ρ, F, h, E, w, r, po⟩ => ?_
  refine tG_mono (st1 w r po) fun x H1 ⟨ρ1, F1, h1, d1, x1, e1, w1, r1, q1, po1⟩ => ?_
  have q1 : d1 = .bl x := q1
  subst q1
  cases x with
  | true => exact st1n w1 r1 po1
  | false => exact Po.now (a := D.bl false) po1 w1 rfl
theorem s_orT (ha : PT X a (tG X.K XA W RelTB ma)) {rest : List Expr} (hb : PW X (.BoolOp .Or (b :: rest) pos) (tG X.K XA W RelTB mb)) :
    PW X (.BoolOp .Or (a :: b :: rest) pos) (tG X.K XA W RelTB fun E => R.bind (ma E) fun d => iteR d (R.pure (.bl true)) (mb E)) := by
  refine PW.imp (pw_or ha hb) fun σ H Q ⟨ρ, F, h, E, w, r, po⟩ => ?_
  refine tG_mono (st1 w r po) fun x H1 ⟨ρ1, F1, h1, d1, x1, e1, w1, r1, q1, po1⟩ => ?_
  have q1 : d1 = .bl x := q1
  subst q1
  cases x with
  | true => exact Po.now (a := D.bl true) po1 w1 rfl
  | false => exact st1n w1 r1 po1
theorem s_ite {Rel : RelT V D} (hc : PT X c (tG X.K XA W RelTB mc)) (ha : PE X a (tG X.K XA W Rel ma)) (hb : PE X b (tG X.K XA W Rel mb)) : PE X (.IfExp c a b pos) (tG X.K XA W Rel fun E => R.bind (mc E) fun d => iteR d (ma E) (mb E)) := by
  refine PE.imp (pe_ifExp hc ha hb) fun σ H Q ⟨ρ, F, h, E, w, r, po⟩ => ?_
  refine tG_mono (st1 w r po) fun x H1 ⟨ρ1, F1, h1, d1, x1, e1, w1, r1, q1, po1⟩ => ?_
  have q1 : d1 = .bl x := q1
  subst q1
  cases x with
  | true => exact st1n w1 r1 po1
  | false => exact st1n w1 r1 po1
end
end
end Ny

set_option maxHeartbeats 1000000
/-! Ny: a tuple turned round by [::-1]. -/
namespace Ny
open PySem PySem.Spec PyProof.Rows L2
section
variable {prog : Program} {w : World} {A : Around} {E : Value → Shared → Prop} {s : Shared}
theorem adjust_back (n : Nat) : Builtin.Slice.sliceAdjust none none (-1) (n : Int) = ((n : Int) - 1, -1) := rfl
theorem places_back (n : Nat) : Builtin.Slice.slicePlaces ((n : Int) - 1) (-1) (-1) = n := by
  unfold Builtin.Slice.slicePlaces
  have h1 : ¬ ((-1 : Int) > 0) := by omega
  simp only [h1, if_false]
  have e : (-(-1) : Int) = 1 := by omega
  rw [e, Int.ediv_one]
  split <;> omega
theorem sliceApplied_back {sl : Addr} {vl vu vs : Value} {n : Nat} {Q : Int × Int × Nat → Shared → Prop} (hs : s.heap.IsSliceOf sl vl vu vs) (pl : IsPart vl none) (pu : IsPart vu none) (ps : IsPart vs (some (-1)))
    (h : Q ((n : Int) - 1, -1, n) s) : wpAny (model prog w) A (Builtin.Slice.sliceApplied (.ref sl) (pure (n : Int))) Q E s := by
  obtain ⟨os, hos, hcs, hds⟩ := id hs
  unfold Builtin.Slice.sliceApplied Builtin.Slice.sliceFields
  refine wpAny_bind (wpAny_bind (wpAny_field hos hds (x := vl) rfl (wpAny_bind (wpAny_field hos hds (x := vu) rfl (wpAny_bind (wpAny_field hos hds (x := vs) rfl (wpAny_pure ?_)))))))
  refine wpAny_bind (HT.slicePart_ ps ?_)
  show wpAny _ _ (if ((-1 : Int) == 0) = true then _ else _) _ _ s
  rw [if_neg (by decide)]
  refine wpAny_bind (HT.slicePart_ pl (wpAny_bind (HT.slicePart_ pu (wpAny_bind (wpAny_pure ?_)))))
  show wpAny _ _ (match Builtin.Slice.sliceAdjust none none (-1) (n : Int) with | (lo, hi) => pure (lo, (-1 : Int), Builtin.Slice.slicePlaces lo hi (-1))) _ _ s
  rw [adjust_back n]
  show wpAny _ _ (pure ((n : Int) - 1, (-1 : Int), Builtin.Slice.slicePlaces ((n : Int) - 1) (-1) (-1))) _ _ s
  rw [places_back]
  exact wpAny_pure h
theorem fm_congr {α β : Type} {f g : α → Option β} : ∀ (l : List α), (∀ m ∈ l, f m = g m) → l.filterMap f = l.filterMap g
  | [], _ => rfl
  | a :: l, h => by
    rw [List.filterMap_cons, List.filterMap_cons, h a (by simp), fm_congr l fun m hm => h m (by simp [hm])]
theorem pick_back (xs : Array Value) : ((List.range xs.size).filterMap fun (m : Nat) => xs[(((xs.size : Int) - 1) + (m : Int) * (-1)).toNat]?).toArray = xs.toList.reverse.toArray := by
  congr 1
  rw [← PySem.W.krv_all xs, ← List.filterMap_reverse, ← PySem.W.krv_range, List.filterMap_map]
  refine fm_congr _ fun m hm => ?_
  have := List.mem_range.mp hm
  show xs[_]? = xs[_]?
  congr 1
  show ((xs.size : Int) - 1 + (m : Int) * (-1)).toNat = xs.size - 1 - m
  omega
theorem getItem_tuple_back {t sl : Addr} {items : Array Value} {vl vu vs : Value} {Q : Value → Shared → Prop} (ht : IsTup s.heap t items) (hs : s.heap.IsSliceOf sl vl vu vs) (pl : IsPart vl none) (pu : IsPart vu none) (ps : IsPart vs (some (-1)))
    (h : Q (.ref s.heap.objs.size) { s with heap := s.heap.push { cls := .type "tuple", data := .seq items.toList.reverse.toArray } })
    (hsz : items.size ≤ sizeLine) : wpAny (model prog w) A (getItem (.ref t) (.ref sl)) Q E s := by
  have hok : sizeOk (.seq items.toList.reverse.toArray) := by
    show items.toList.reverse.toArray.size ≤ sizeLine
    rw [List.size_toArray, List.length_reverse, Array.length_toList]
    exact hsz
  obtain ⟨os, hos, hcs, hds⟩ := id hs
  have hTs : s.TypeIs (.ref sl) "slice" := ⟨os, hos, hcs⟩
  unfold getItem
  try with_reducible refine wpAny_holding ?_
  first | refine wpAny_bind (wpAny_pure ?_) | skip
  refine wpAny_bind (wpAny_sequenceKey ht.typeIs (by decide) ?_)
  refine wpAny_bind (wpAny_callSpecial?_slot (name := Str.ofString "__getitem__") ht.typeIs PyProof.Rows.slot_tuple_getitem
    (wpAny_call_entry PyProof.Rows.slot_tuple_getitem ht.typeIs entry_tuple_getitem ?_ (args_tuple_getitem _ _)))
  show wpAny _ _ (Builtin.Tuple.tupleItemsOf (.ref t) >>= _) _ _ s
  refine wpAny_bind (tupleItemsOf_ ht ?_)
  refine wpAny_bind (wpAny_typeOf hTs ?_)
  rw [if_pos (by decide)]
  refine wpAny_bind (sliceApplied_back hs pl pu ps ?_)
  have hno : ¬ ((((items.size : Int) - 1) == 0 && (-1 : Int) == 1 && items.size == items.size) = true) := by
    intro q
    rw [Bool.and_eq_true, Bool.and_eq_true] at q
    exact absurd q.1.2 (by decide)
  show wpAny _ _ (if (((items.size : Int) - 1) == 0 && (-1 : Int) == 1 && items.size == items.size) = true then _ else _) _ _ s
  rw [if_neg hno, pick_back]
  first
    | exact wpAny_bind (m := Builtin.Tuple.tupleExact _) (wpAny_newObj_type (wpAny_pure ⟨_, rfl, wpAny_pure h⟩) hok)
    | exact wpAny_bind (m := Builtin.Tuple.tupleExact _) (wpAny_newObj_type (wpAny_bind (wpAny_pure (wpAny_pure ⟨_, rfl, wpAny_pure h⟩))) hok)
    | exact wpAny_bind (wpAny_bind (m := Builtin.Tuple.tupleExact _) (wpAny_newObj_type (wpAny_pure (wpAny_pure ⟨_, rfl, wpAny_pure h⟩)) hok))
    | exact wpAny_bind (wpAny_bind (m := Builtin.Tuple.tupleExact _) (wpAny_newObj_type (wpAny_pure ⟨_, rfl, wpAny_pure h⟩) hok))
end
def tRev (K : PySem.W.Frag) (te : TE) : TE := fun σ H Q => te σ H fun x H1 => ∃ a xs, x = .ref a ∧ ((SqL K H1 a xs ∧ ∀ p, H1 p = none → Q (.ref p) (upd H1 p (.lst xs.reverse))) ∨ (SqT K H1 a xs ∧ ∀ p, H1 p = none → Q (.ref p) (upd H1 p (.tup xs.reverse))))
theorem pe_rev {X : Cx} {e : Expr} {te : TE} {k : Nat} {p1 p2 p3 pos : Pos} (he : PE X e te) : PE X (.Subscript e (.Slice none none (some (.UnaryOp .USub (.Constant (.int 1) k p1) p2)) p3) pos) (tRev X.K te) := by
  refine ⟨fun pins s σ H Q I h => ?_⟩
  refine Subscript_ (thn (he.run pins s σ H _ I h) fun v s1 ⟨x, H1, I1, r1, q1⟩ => ?_)
  obtain ⟨a, xs, ex, hx⟩ := q1
  subst ex
  cases r1
  have hst : PO X (some (.UnaryOp .USub (.Constant (.int 1) k p1) p2)) (tPart (tUn (rU fun i => .int (-i)) (tC (.int 1)))) := po_some (pe_un un_neg pe_int)
  refine wpAny_Slice (thn (po_none.run pins s1 σ H1 (fun o H2 => o = none ∧ H2 = H1) I1 ⟨rfl, rfl⟩) fun vl s2 ⟨l, H2, I2, pl, el, e2⟩ => ?_)
  subst el e2
  refine thn (po_none.run pins s2 σ H2 (fun o H3 => o = none ∧ H3 = H2) I2 ⟨rfl, rfl⟩) fun vu s3 ⟨u, H3, I3, pu, eu, e3⟩ => ?_
  subst eu e3
  refine thn (hst.run pins s3 σ H3 (fun o H4 => o = some (-1) ∧ H4 = H3) I3 ⟨1, rfl, -1, rfl, rfl, rfl⟩) fun vs s4 ⟨o, H4, I4, ps, eo, e4⟩ => ?_
  subst eo e4
  have I5 : Inv X pins σ H4 { s4 with heap := s4.heap.push { cls := .type "slice", data := .fields #[vl, vu, vs] } } := I4.kept (t' := s4.toks) fun b ob q => Heap.get?_push_of_some _ q
  show wpAny (model X.prog X.w) X.A (subscriptTail e (.Slice none none (some (.UnaryOp .USub (.Constant (.int 1) k p1) p2)) p3) (.ref a) (.ref s4.heap.objs.size)) (EP X pins σ Q) X.xe { s4 with heap := s4.heap.push { cls := .type "slice", data := .fields #[vl, vu, vs] } }
  rcases hx with ⟨hx, q⟩ | ⟨hx, q⟩
  · obtain ⟨its, r, ht, hz⟩ := I5.list hx
    have hlen := r.length
    refine tail_any (ops := [.ref a, .ref s4.heap.objs.size]) ht.isList.typeIs (PySem.slot_list_getitem.lookup) ?_ (by with_unfolding_all rfl)
    refine wpAny_getItem_list_slice ht.isList (Heap.IsSliceOf.new _ vl vu vs) pl pu ps (by decide) ?_ (by rw [List.size_toArray]; omega)
    rw [PySem.W.krv_pick]
    refine ⟨.ref _, _, I5.laid (t' := s4.toks) (o := .lst xs.reverse) (fun b ob q => Heap.get?_push_of_some _ q) (Nat.le_refl _) ?_, rfl, q _ (I5.hok.fresh (Nat.le_refl _))⟩
    exact ⟨by rw [List.length_reverse]; exact hz, _, 0, r.reverse, Heap.get?_push_size _ rfl⟩
  · obtain ⟨its, r, ht, hz⟩ := I5.tuple hx
    have hlen := r.length
    refine tail_any (ops := [.ref a, .ref s4.heap.objs.size]) ht.typeIs (PyProof.Rows.slot_tuple_getitem.lookup) ?_ (by with_unfolding_all rfl)
    refine getItem_tuple_back ht (Heap.IsSliceOf.new _ vl vu vs) pl pu ps ?_ (by rw [List.size_toArray]; omega)
    refine ⟨.ref _, _, I5.laid (t' := s4.toks) (o := .tup xs.reverse) (fun b ob q => Heap.get?_push_of_some _ q) (Nat.le_refl _) ?_, rfl, q _ (I5.hok.fresh (Nat.le_refl _))⟩
    exact ⟨by rw [List.length_reverse]; exact hz, _, r.reverse, IsTup.new _ _⟩
end Ny

set_option maxHeartbeats 2000000
/-! Ny: displays, arguments, calls, built-ins. -/
namespace Ny
open PySem PySem.Spec PyProof.Rows L2
section
variable {XA : Nat → Option Addr} {T : Tab} {C : Call} {k : Nat} {ck : Ck} {sc : Scope} {X : Cx} {W : WX}
variable {e a b c : Expr} {ma mb mc : Env → R D} {pos : Pos} {es : List Expr} {ms : Env → R (List D)}

theorem Rds.reverse {K : PySem.W.Frag} {ρ : Rho} {F : Addr → Prop} {H : Hp} : ∀ {vs : List V} {ds : List D}, Rds K ρ F H vs ds → Rds K ρ F H vs.reverse ds.reverse
  | _, _, .nil => .nil
  | _, _, .cons r t => by
    rw [List.reverse_cons, List.reverse_cons]
    exact (Rds.reverse t).append (.cons r .nil)
/-! ### arguments -/
theorem star_of (h : notStar e = true) : starEach (e :: es) X.env = (false, eval e X.env) :: starEach es X.env := by
  cases e with
  | Starred => simp [notStar] at h
  | _ => rfl
theorem any_of_plain : ∀ {es : List Expr}, es.all notStar = true → (backTo pos (starEach es X.env)).any (·.1) = false
  | [], _ => rfl
  | e :: es, h => by
    rw [List.all_cons, Bool.and_eq_true] at h
    rw [star_of h.1]
    show (false || _) = false
    rw [Bool.false_or]
    exact any_of_plain h.2
theorem s_nil {Rel : RelT (List V) (List D)} (h : ∀ ρ F H h, Rel ρ F H h [] []) : PA X [] (tG X.K XA W Rel fun _ => R.pure []) :=
  PA.imp pa_nil fun σ H Q ⟨ρ, F, h', E, w, r, po⟩ => po.now w (h ρ F H h')
theorem s_cons (h : notStar e = true) (he : PE X e (tG X.K XA W (lf (Rd X.K)) ma)) (hs : PA X es (tG X.K XA W (lf (Rds X.K)) ms)) : PA X (e :: es) (tG X.K XA W (lf (Rds X.K)) fun E => R.bind (ma E) fun x => R.bind (ms E) fun xs => R.pure (x :: xs)) := by
  refine PA.imp (pa_cons he hs (star_of h)) fun σ H Q ⟨ρ, F, h, E, w, r, po⟩ => ?_
  refine tG_mono (st1 w r po) fun x H1 ⟨ρ1, F1, h1, d1, x1, e1, w1, r1, q1, po1⟩ => ?_
  refine tG_mono (st1 w1 r1 po1) fun y H2 ⟨ρ2, F2, h2, d2, x2, e2, w2, r2, q2, po2⟩ => ?_
  subst e2
  exact po2.now w2 (.cons (q1.xt x2 w1.sub) q2)
theorem s_consC (h : notStar e = true) (he : PE X e (tG X.K XA W (lf (RdC X.K)) ma)) (hs : PA X es (tG X.K XA W (lf (RdCs X.K)) ms)) : PA X (e :: es) (tG X.K XA W (lf (RdCs X.K)) fun E => R.bind (ma E) fun x => R.bind (ms E) fun xs => R.pure (x :: xs)) := by
  refine PA.imp (pa_cons he hs (star_of h)) fun σ H Q ⟨ρ, F, h, E, w, r, po⟩ => ?_
  refine tG_mono (st1 w r po) fun x H1 ⟨ρ1, F1, h1, d1, x1, e1, w1, r1, q1, po1⟩ => ?_
  refine tG_mono (st1 w1 r1 po1) fun y H2 ⟨ρ2, F2, h2, d2, x2, e2, w2, r2, q2, po2⟩ => ?_
  subst e2
  exact po2.now w2 (.cons (q1.xt x2 w1.sub) q2)
theorem s_tup {k : Nat} (hs : PA X es (tG X.K XA W (lf (Rds X.K)) ms)) : PE X (.Tuple es k pos) (tG X.K XA W (RdG X.K) fun E => R.bind (ms E) mkTup) := by
  refine PE.imp (pe_tup hs) fun σ H Q ⟨ρ, F, h, E, w, r, po⟩ => ?_
  refine tG_mono (st1 w r po) fun x H1 ⟨ρ1, F1, h1, d1, x1, e1, w1, r1, q1, po1⟩ => ?_
  obtain ⟨c, po1⟩ := Po.need po1
  exact ⟨by rw [q1.length]; exact big_of c, fun p h0 => po1.newT w1 h0 q1⟩
theorem s_lst (hs : PA X es (tG X.K XA W (lf (Rds X.K)) ms)) : PE X (.List es pos) (tG X.K XA W (RdG X.K) fun E => R.bind (ms E) mkLst) := by
  refine PE.imp (pe_lst hs) fun σ H Q ⟨ρ, F, h, E, w, r, po⟩ => ?_
  refine tG_mono (st1 w r po) fun x H1 ⟨ρ1, F1, h1, d1, x1, e1, w1, r1, q1, po1⟩ => ?_
  obtain ⟨c, po1⟩ := Po.need po1
  exact ⟨by rw [q1.length]; exact big_of c, fun p h0 => po1.newL w1 h0 q1⟩
theorem s_dct0E {tk : Bool} : PE X (.Dict [] [] pos) (tG X.K XA W (RdG X.K) fun _ => R.pure (.dct tk [])) := by
  cases tk with
  | true => exact PE.imp pe_dnewT fun σ H Q ⟨ρ, F, h, E, w, r, po⟩ a h0 => Po.newD (tk := true) (kvs := []) w h0 (fun vs z => by cases z) ⟨[], upd_same, .nil⟩ po
  | false => exact PE.imp pe_dnewK fun σ H Q ⟨ρ, F, h, E, w, r, po⟩ a h0 => Po.newD (tk := false) (kvs := []) w h0 (fun vs z => by cases z) ⟨[], upd_same, .nil⟩ po
/-! ### a list that others turn: an object -/
def addR (ρ : Rho) (n : Nat) (p : Addr) : Rho := ⟨fun m => if m = n then some p else ρ m, ρ.B⟩
theorem addR_old {ρ : Rho} {n m : Nat} {p a : Addr} (hn : ρ n = none) (h : ρ m = some a) : addR ρ n p m = some a := by
  show (if m = n then some p else ρ m) = some a
  rw [if_neg (fun z => by rw [z, hn] at h; cases h)]
  exact h
theorem addR_inv {ρ : Rho} {n m : Nat} {p a : Addr} (h : addR ρ n p m = some a) : (m = n ∧ a = p) ∨ (m ≠ n ∧ ρ m = some a) := by
  have h : (if m = n then some p else ρ m) = some a := h
  split at h
  · rename_i e; cases h; exact .inl ⟨e, rfl⟩
  · rename_i e; exact .inr ⟨e, h⟩
theorem addR_new {ρ : Rho} {n : Nat} {p : Addr} : addR ρ n p n = some p := by
  show (if n = n then some p else ρ n) = some p
  rw [if_pos rfl]
theorem xt_add {ρ : Rho} {H : Hp} {n : Nat} {p : Addr} {o : HO} (hn : ρ n = none) (h0 : H p = none) : Xt ρ H (addR ρ n p) (upd H p o) where
  rho := fun m a e => addR_old hn e
  bs := rfl
  new := fun a ⟨m, e⟩ => (addR_inv e).elim (fun z => .inr (z.2 ▸ h0)) fun z => .inl ⟨m, z.2⟩
  keep := fun a o' _ e => by
    rw [upd_ne (fun z => by rw [z, h0] at e; cases e)]
    exact e
theorem Wd.add {K : PySem.W.Frag} {ρ : Rho} {F : Addr → Prop} {H : Hp} {h : Hs} {p : Addr} {o : HO} {m : MO} (w : Wd K ρ F H h) (h0 : H p = none)
    (hm : MOk K (addR ρ h.length p) (orR F (addR ρ h.length p)) (upd H p o) p m) : Wd K (addR ρ h.length p) (orR F (addR ρ h.length p)) (upd H p o) (h ++ [m]) := by
  have hn : ρ h.length = none := w.fin _ (Nat.le_refl _)
  have x : Xt ρ H (addR ρ h.length p) (upd H p o) := xt_add hn h0
  have kp : ∀ a o', H a = some o' → upd H p o a = some o' := fun a o' e => by
    rw [upd_ne (fun z => by rw [z, h0] at e; cases e)]
    exact e
  have nr : ∀ n, ρ n ≠ some p := fun n e => w.trk p (w.sub p ⟨n, e⟩) h0
  refine ⟨fun n hn' => ?_, fun a b c e1 e2 => ?_, fun n q e => ?_, fun a q => .inr q, fun a q => ?_, fun a f => live_new (w.bs a f), fun a vs q => ?_⟩
  · rw [List.length_append, List.length_singleton] at hn'
    show (if n = h.length then some p else ρ n) = none
    rw [if_neg (by omega)]
    exact w.fin n (by omega)
  · rcases addR_inv e1 with ⟨z1, z2⟩ | ⟨z1, z2⟩ <;> rcases addR_inv e2 with ⟨y1, y2⟩ | ⟨y1, y2⟩
    · rw [z1, y1]
    · rw [z2] at y2; exact absurd y2 (nr _)
    · rw [y2] at z2; exact absurd z2 (nr _)
    · exact w.inj _ _ _ z2 y2
  · by_cases hl : n < h.length
    · rw [List.getElem?_append_left hl] at e
      obtain ⟨a, ea, mo⟩ := w.obj n q e
      exact ⟨a, addR_old hn ea, mo.mv x.rho (orR_of x w.sub) (fun a o' _ e => kp a o' e) fun o' e => kp a o' e⟩
    · have e3 : n = h.length := by
        have := (List.getElem?_eq_some_iff.mp e).1
        rw [List.length_append, List.length_singleton] at this
        omega
      subst e3
      rw [List.getElem?_append_right (Nat.le_refl _), Nat.sub_self] at e
      have e : some m = some q := e
      cases e
      exact ⟨p, addR_new, hm⟩
  · rcases q with q | ⟨n, e⟩
    · have := w.trk a q
      cases e : H a with
      | none => exact absurd e this
      | some o' => rw [kp a o' e]; simp
    · rcases addR_inv e with ⟨_, z⟩ | ⟨_, z⟩
      · rw [z, upd_same]; simp
      · have := w.trk a (w.sub a ⟨n, z⟩)
        cases e : H a with
        | none => exact absurd e this
        | some o' => rw [kp a o' e]; simp
  · have nP : upd H p o p ≠ some (.tup vs) := fun z => by
      cases m with
      | lst xs => obtain ⟨us, e, _⟩ := hm; rw [e] at z; cases z
      | dct _ _ => exact hm.elim
      | ins _ _ => exact hm.elim
    have old : ∀ a, F a → upd H p o a ≠ some (.tup vs) := fun a q => by
      rw [upd_ne (fun z => w.trk a q (by rw [z]; exact h0))]
      exact w.nt a vs q
    rcases q with q | ⟨n, e⟩
    · exact old a q
    · rcases addR_inv e with ⟨_, z⟩ | ⟨_, z⟩
      · rw [z]; exact nP
      · exact old a (w.sub a ⟨n, z⟩)
theorem Po.newO {K : PySem.W.Frag} {W : XK} {ρ : Rho} {F : Addr → Prop} {H : Hp} {h : Hs} {p : Addr} {vs : List V} {xs : List D} {Q : VK} (w : Wd K ρ F H h) (h0 : H p = none) (r : Rds K ρ F H vs xs)
    (po : Po K XA W ρ F H (allocR (.lst xs) h) (lf (Rd K)) Q) : Q (.ref p) (upd H p (.lst vs)) := by
  have hn : ρ h.length = none := w.fin _ (Nat.le_refl _)
  have x : Xt ρ H (addR ρ h.length p) (upd H p (.lst vs)) := xt_add hn h0
  refine po (.ref p) (addR ρ h.length p) _ x (w.add h0 ⟨vs, upd_same, r.xt x w.sub⟩) (.obj addR_new)
theorem s_hlst (hs : PA X es (tG X.K XA W (lf (Rds X.K)) ms)) : PE X (.List es pos) (tG X.K XA W (lf (Rd X.K)) fun E => R.bind (ms E) fun xs => R.need (big xs.length) (allocR (.lst xs))) := by
  refine PE.imp (pe_lst hs) fun σ H Q ⟨ρ, F, h, E, w, r, po⟩ => ?_
  refine tG_mono (st1 w r po) fun x H1 ⟨ρ1, F1, h1, d1, x1, e1, w1, r1, q1, po1⟩ => ?_
  obtain ⟨c, po1⟩ := Po.need po1
  exact ⟨by rw [q1.length]; exact big_of c, fun p h0 => Po.newO w1 h0 q1 po1⟩

/-! ### calls -/
theorem Po.notBad {K : PySem.W.Frag} {α β : Type} {W : XK} {ρ : Rho} {F : Addr → Prop} {H : Hp} {o : Out α} {Rel : RelT β α} {Q : β → Hp → Prop} (po : Po K XA W ρ F H o Rel Q) : o ≠ .bad := fun e => by
  rw [e] at po
  exact po
/-- what stands around lets the exceptions that W tells pass -/
def Pas (X : Cx) (W : WX) : Prop := ∀ σ, PassesAt (L2.CX X.prog X.w) X σ (WE W σ)
theorem fn_get (g : Good XA T C k ck sc X) {x : Str} {f n : Nat} (h : (ck.fn.any fun p => decide (p.1 = x) && (decide (p.2.1 = f) && decide (p.2.2.length = n))) = true) :
    ∃ p ∈ ck.fn, p.1 = x ∧ p.2.1 = f ∧ p.2.2.length = n := by
  obtain ⟨p, hp, h⟩ := List.any_eq_true.mp h
  simp only [Bool.and_eq_true, decide_eq_true_eq] at h
  exact ⟨p, hp, h.1, h.2.1, h.2.2⟩
theorem s_call (g : Good XA T C k ck sc X) (hx : Pas X W) {x : Str} {f : Nat} {pn : Pos} (h : fnB ck sc x f (es.length + 1) = true) (hns : ((e :: es).all notStar) = true)
    (ha : PA X (e :: es) (tG X.K XA W (lf (Rds X.K)) ms)) : PE X (.Call (.Name x pn) (e :: es) [] pos) (tG X.K XA W (lf (Rd X.K)) fun E => R.bind (ms E) (C f)) := by
  unfold fnB at h
  obtain ⟨h1, h2⟩ := Bool.and_eq_true_iff.mp h
  obtain ⟨p, hp, e1, e2, e3⟩ := fn_get g h2
  obtain ⟨fa, fd, hm, hk, hb, F⟩ := g.fns p hp
  obtain ⟨gl, db, _⟩ := glo_of g.toGoodQ h1
  subst e1 e2
  have hs := hns
  rw [List.all_cons, Bool.and_eq_true] at hs
  refine PE.imp (pe_callS (E := WE W) F g.room gl hm hk hb hx ha db (star_of hs.1) (any_of_plain hs.2)) fun σ H Q ⟨ρ, F, h, E, w, r, po⟩ => ?_
  refine tG_mono (st1 w r po) fun x H1 ⟨ρ1, F1, h1, d1, x1, e1, w1, r1, q1, po1⟩ => ?_
  refine ⟨?_, ρ1, F1, h1, d1, w1, q1, po1⟩
  rw [q1.length]
  exact g.ar p hp d1 h1 po1.notBad

theorem s_call0 (g : Good XA T C k ck sc X) (hx : Pas X W) {x : Str} {f : Nat} {pn : Pos} (h : fnB ck sc x f 0 = true) : PE X (.Call (.Name x pn) [] [] pos) (tG X.K XA W (lf (Rd X.K)) fun E => R.bind (R.pure []) (C f)) := by
  unfold fnB at h
  obtain ⟨h1, h2⟩ := Bool.and_eq_true_iff.mp h
  obtain ⟨p, hp, e1, e2, e3⟩ := fn_get g h2
  obtain ⟨fa, fd, hm, hk, hb, F⟩ := g.fns p hp
  obtain ⟨gl, db, _⟩ := glo_of g.toGoodQ h1
  subst e1 e2
  refine ⟨fun pins s σ H Q I hq => ?_⟩
  obtain ⟨ρ, F', h', E, w, r, po⟩ := hq
  refine wpAny_Call_Name_kw (ld_glob I gl hm ?_ db)
  have po1 : Po X.K XA (fun c d H' => W c d σ H') ρ F' H (C p.2.1 [] h') (lf (Rd X.K)) Q := po
  exact PySem.W.callWith_K0 I.kIn hk (run_fnS (us := []) (vs := []) F g.room hb (hx σ) I .nil ⟨e3.symm, ρ, F', h', [], w, .nil, po1⟩)

theorem run_kw {CX : CXT} {fd : FuncData} {f : Addr} {sp : Sp} {E : L2.St → XK} {ps : List Str} {n : Nat} {pins : List (Addr × Obj)} {σ : L2.St} {H : Hp} {s : Shared} {Q : VK} {us ws : List Value} {vs zs : List V} (F : FnOk X.prog X.w X.K X.mg X.base CX k f fd ps sp) (hr : Room k X.A)
    (hb : KwOk fd ps n) (hx : PassesAt CX X σ (E σ)) (I : Inv X pins σ H s) (r : Vals vs us) (r2 : Vals zs ws) (hn : us.length = n) (h : sp (vs ++ zs) H Q (E σ)) : wpAny (model X.prog X.w) X.A (call (.ref f) us ((ps.drop n).zip ws)) (EP X pins σ Q) X.xe s := by
  have rr := r.append r2
  have hl : us.length + ws.length = ps.length := by
    have := F.len _ _ _ _ h
    rw [rr.length, List.length_append] at this
    exact this
  refine wpAny_call (codeAny_mono (F.run X.A X.stack s H ⟨us, (ps.drop n).zip ws⟩ (us ++ ws) (vs ++ zs) Q (E σ) hr I.env0 (hb s us ws hn hl) rr h) fun r s' hq => ?_)
  cases r with
  | error e => exact hx pins H s e s' I hq
  | ok fl =>
    cases fl with
    | ret u => exact I.after hq
    | next => exact False.elim hq
    | brk => exact False.elim hq
    | cont => exact False.elim hq
theorem kw_names {pos : Pos} {env : PySem.Env} : ∀ {ks : List Keyword} {ns : List Str}, ks.map kwName = ns.map some →
    (backToKw pos (keywordEach ks env)).all (·.1.isSome) = true ∧ (backToKw pos (keywordEach ks env)).filterMap (·.1) = ns ∧ (backToKw pos (keywordEach ks env)).any (·.1.isNone) = false
  | [], ns, h => by
    cases ns with
    | nil => exact ⟨rfl, rfl, rfl⟩
    | cons => cases h
  | ⟨k, v, p⟩ :: ks, ns, h => by
    cases ns with
    | nil => cases h
    | cons n ns =>
      rw [List.map_cons, List.map_cons] at h
      obtain ⟨h1, h2⟩ := List.cons.inj h
      have h1 : k = some n := h1
      subst h1
      obtain ⟨a, b, c⟩ := kw_names (pos := pos) (env := env) h2
      refine ⟨?_, ?_, ?_⟩
      · show (true && _) = true
        rw [Bool.true_and]
        exact a
      · show n :: (backToKw pos (keywordEach ks env)).filterMap (·.1) = n :: ns
        rw [b]
      · show (false || _) = false
        rw [Bool.false_or]
        exact c
theorem evs_split {T : Tab} {C : Call} {E : Env} : ∀ (n : Nat) (es : NEs), evs T C es E = R.bind (evs T C (takeN n es) E) fun a => R.bind (evs T C (dropN n es) E) fun b => R.pure (a ++ b)
  | 0, es => by
    show evs T C es E = R.bind (R.pure []) _
    rw [show R.bind (R.pure ([] : List D)) (fun a => R.bind (evs T C (dropN 0 es) E) fun b => R.pure (a ++ b)) = R.bind (evs T C es E) fun b => R.pure b from rfl]
    exact (R.bind_pure _).symm
  | n + 1, .nil => rfl
  | n + 1, .cons e es => by
    show R.bind (ev T C e E false) (fun x => R.bind (evs T C es E) fun xs => R.pure (x :: xs)) = R.bind (R.bind (ev T C e E false) fun x => R.bind (evs T C (takeN n es) E) fun xs => R.pure (x :: xs)) fun a => R.bind (evs T C (dropN n es) E) fun b => R.pure (a ++ b)
    rw [evs_split n es, R.bind_assoc]
    congr 1
    funext x
    rw [R.bind_assoc, R.bind_assoc]
    congr 1
    funext a
    rw [R.bind_assoc]
    rfl
/-- f(k = v, ..) -/
theorem s_callK0 (g : Good XA T C k ck sc X) (hx : Pas X W) {x : Str} {f : Nat} {pn : Pos} {ks : List Keyword} {mk : Env → R (List D)} (h : kwB ck sc x f 0 (ks.map kwName) = true)
    (hk : PK X ks (tG X.K XA W (lf (Rds X.K)) mk)) : PE X (.Call (.Name x pn) [] ks pos) (tG X.K XA W (lf (Rd X.K)) fun E => R.bind (mk E) (C f)) := by
  unfold kwB at h
  obtain ⟨h1, h2⟩ := Bool.and_eq_true_iff.mp h
  obtain ⟨p, hp, h3⟩ := List.any_eq_true.mp h2
  simp only [Bool.and_eq_true, decide_eq_true_eq] at h3
  obtain ⟨e1, e2, e3, e4, e5⟩ := h3
  obtain ⟨fa, fd, hm, hkp, hb, F⟩ := g.kws p hp
  obtain ⟨gl, db, _⟩ := glo_of g.toGoodQ h1
  subst e1 e2
  rw [e3] at hb
  obtain ⟨n1, n2, n3⟩ := kw_names (pos := pos) (env := X.env) e5
  refine ⟨fun pins s σ H Q I hq => ?_⟩
  refine wpAny_Call_Name_kw (ld_glob I gl hm ?_ db)
  obtain ⟨ρ, F', h', E, w, r, po⟩ := hq
  have q : tG X.K XA W (lf (Rds X.K)) mk σ H fun zs H2 => spN X.K XA p.2.2.1.length (C p.2.1) ([] ++ zs) H2 Q (WE W σ) := by
    refine tG_mono (st1 (Rel2 := lf (Rd X.K)) w r po) fun x H1 ⟨ρ1, F1, h1, d1, x1, e1, w1, r1, q1, po1⟩ => ?_
    refine ⟨?_, ρ1, _, h1, _, w1, q1, po1⟩
    show x.length = _
    rw [q1.length]
    exact g.kar p hp _ h1 po1.notBad
  clear po r w
  refine PySem.W.callWith_KW0 (h₀ := X.base) I.ok.mod.kin hkp n1 (thn (hk.run pos pins s σ H _ I q) fun ws s2 ⟨zs, H2, I2, r2, q2⟩ => ⟨I2.kIn, ?_⟩) (by
    show (false || _) = false
    rw [Bool.false_or]
    exact n3)
  rw [n2]
  exact run_kw F g.room hb (hx σ) I2 .nil r2 rfl q2
/-- f(e, .., k = v, ..) -/
theorem s_callK (g : Good XA T C k ck sc X) (hx : Pas X W) {x : Str} {f : Nat} {pn : Pos} {ks : List Keyword} {mk : Env → R (List D)} (h : kwB ck sc x f (e :: es).length (ks.map kwName) = true) (hns : (e :: es).all notStar = true)
    (ha : PA X (e :: es) (tG X.K XA W (lf (Rds X.K)) ms)) (hk : PK X ks (tG X.K XA W (lf (Rds X.K)) mk)) : PE X (.Call (.Name x pn) (e :: es) ks pos) (tG X.K XA W (lf (Rd X.K)) fun E => R.bind (ms E) fun a => R.bind (mk E) fun b => R.need (a.length == (e :: es).length) (C f (a ++ b))) := by
  unfold kwB at h
  obtain ⟨h1, h2⟩ := Bool.and_eq_true_iff.mp h
  obtain ⟨p, hp, h3⟩ := List.any_eq_true.mp h2
  simp only [Bool.and_eq_true, decide_eq_true_eq] at h3
  obtain ⟨e1, e2, e3, e4, e5⟩ := h3
  obtain ⟨fa, fd, hm, hkp, hb, F⟩ := g.kws p hp
  obtain ⟨gl, db, _⟩ := glo_of g.toGoodQ h1
  subst e1 e2
  rw [e3] at hb
  obtain ⟨n1, n2, n3⟩ := kw_names (pos := pos) (env := X.env) e5
  refine ⟨fun pins s σ H Q I hq => ?_⟩
  refine wpAny_Call_Name_kw (ld_glob I gl hm ?_ db)
  obtain ⟨ρ, F', h', E, w, r, po⟩ := hq
  have q : tG X.K XA W (lf (Rds X.K)) ms σ H fun vs H1 => tG X.K XA W (lf (Rds X.K)) mk σ H1 fun zs H2 => vs.length = (e :: es).length ∧ spN X.K XA p.2.2.1.length (C p.2.1) (vs ++ zs) H2 Q (WE W σ) := by
    refine tG_mono (st1 (Rel2 := lf (Rd X.K)) w r po) fun x H1 ⟨ρ1, F1, h1, d1, x1, e1, w1, r1, q1, po1⟩ => ?_
    refine tG_mono (st1 (Rel2 := lf (Rd X.K)) w1 r1 po1) fun y H2 ⟨ρ2, F2, h2, d2, x2, e2, w2, r2, q2, po2⟩ => ?_
    subst e2
    obtain ⟨hl, po2⟩ := Po.need po2
    have qq : Rds X.K ρ2 _ H2 (x ++ y) (d1 ++ d2) := (q1.xt x2 w1.sub).append q2
    refine ⟨by rw [q1.length]; exact eq_of_beq hl, ?_, ρ2, _, h2, _, w2, qq, po2⟩
    rw [qq.length]
    exact g.kar p hp _ h2 po2.notBad
  clear po r w
  have hns2 := hns
  rw [List.all_cons, Bool.and_eq_true] at hns2
  refine PySem.W.callWith_KW (h₀ := X.base) I.ok.mod.kin hkp n1 (thn (ha.run pos pins s σ H _ I q) fun us s1 ⟨vs, H1, I1, r1, q1⟩ => ?_) (by
    rw [any_of_plain hns, n3]
    rfl) (star_of hns2.1)
  refine thn (hk.run pos pins s1 σ H1 _ I1 q1) fun ws s2 ⟨zs, H2, I2, r2, hl, q2⟩ => ⟨I2.kIn, ?_⟩
  rw [n2]
  exact run_kw F g.room hb (hx σ) I2 r1 r2 (r1.length.symm.trans hl) q2
/-- the keywords' values -/
theorem sk_nil {Rel : RelT (List V) (List D)} (h : ∀ ρ F H h, Rel ρ F H h [] []) : PK X [] (tG X.K XA W Rel fun _ => R.pure []) := by
  refine ⟨fun pos pins s σ H Q I q => pk_nil.run pos pins s σ H Q I ?_⟩
  obtain ⟨ρ, F, h', E, w, r, po⟩ := q
  exact po.now w (h ρ F H h')
theorem sk_cons {nm : Option Str} {kp : Pos} {ks : List Keyword} (he : PE X e (tG X.K XA W (lf (Rd X.K)) ma)) (hs : PK X ks (tG X.K XA W (lf (Rds X.K)) ms)) : PK X (⟨nm, e, kp⟩ :: ks) (tG X.K XA W (lf (Rds X.K)) fun E => R.bind (ma E) fun x => R.bind (ms E) fun xs => R.pure (x :: xs)) := by
  refine ⟨fun pos pins s σ H Q I q => (pk_cons he hs).run pos pins s σ H Q I ?_⟩
  obtain ⟨ρ, F, h, E, w, r, po⟩ := q
  refine tG_mono (st1 w r po) fun x H1 ⟨ρ1, F1, h1, d1, x1, e1, w1, r1, q1, po1⟩ => ?_
  refine tG_mono (st1 w1 r1 po1) fun y H2 ⟨ρ2, F2, h2, d2, x2, e2, w2, r2, q2, po2⟩ => ?_
  subst e2
  exact po2.now w2 (.cons (q1.xt x2 w1.sub) q2)
/-- how many arguments -/
def lenN : NEs → Nat
  | .nil => 0
  | .cons _ es => lenN es + 1
theorem evs_len {E : Env} : ∀ {es : NEs} {h h' : Hs} {ds : List D}, evs T C es E h = .ok ds h' → ds.length = lenN es
  | .nil, h, h', ds, e => by cases e; rfl
  | .cons a es, h, h', ds, e => by
    have e : R.bind (ev T C a E false) (fun x => R.bind (evs T C es E) fun xs => R.pure (x :: xs)) h = .ok ds h' := e
    unfold R.bind at e
    cases e1 : ev T C a E false h with
    | ok x h1 =>
      rw [e1] at e
      dsimp only at e
      cases e2 : evs T C es E h1 with
      | ok xs h2 =>
        rw [e2] at e
        cases e
        rw [List.length_cons, evs_len e2]
        rfl
      | exc => rw [e2] at e; cases e
      | bad => rw [e2] at e; cases e
    | exc => rw [e1] at e; cases e
    | bad => rw [e1] at e; cases e
theorem evs_need {E : Env} {α : Type} {es : NEs} {f g : List D → R α} (hn : ∀ a, a.length = lenN es → f a = g a) : R.bind (evs T C es E) f = R.bind (evs T C es E) g := by
  funext h
  unfold R.bind
  cases e : evs T C es E h with
  | ok xs h2 =>
    show f xs h2 = g xs h2
    rw [hn xs (evs_len e)]
  | exc => rfl
  | bad => rfl

/-! ### built-ins -/
theorem blt_boot (b : Blt) : (∃ id, b.val = .builtin id ∧ bootBuiltins b.name = some (.builtin id)) ∨ ∃ t, b.val = .type t ∧ bootBuiltins b.name = some (.type t) := by
  cases b <;> first
    | exact .inl ⟨_, rfl, by decide +kernel⟩
    | exact .inr ⟨_, rfl, by decide +kernel⟩
theorem s_blt (g : Good XA T C k ck sc X) {bl : Blt} (h1 : bl ≠ .sortedSet) (h2 : bl ≠ .lenSet) {x : Str} {pn : Pos} (hx : x = bl.name) (h : bltB ck sc x = true) (hns : ((e :: es).all notStar) = true)
    (ha : PA X (e :: es) (tG X.K XA W (lf (RdCs X.K)) ms)) : PE X (.Call (.Name x pn) (e :: es) [] pos) (tG X.K XA W (RdG X.K) fun E => R.bind (ms E) (bltR bl)) := by
  obtain ⟨gl, db, nn, hm⟩ := blt_of g.toGoodQ h
  have hs := hns
  rw [List.all_cons, Bool.and_eq_true] at hs
  have hb := blt_ok2 (X := X) (XA := XA) g.calm g.room.units (g.sorts X g.calm g.room.units) h1 h2
  subst hx
  rcases blt_boot bl with ⟨id, e1, e2⟩ | ⟨t, e1, e2⟩
  · rw [e1] at hb
    refine PE.imp (pe_callB hb gl hm e2 ha nn db (star_of hs.1) (any_of_plain hs.2)) fun σ H Q ⟨ρ, F, h, E, w, r, po⟩ => ?_
    refine tG_mono (st1 w r po) fun x H1 ⟨ρ1, F1, h1, d1, x1, e1, w1, r1, q1, po1⟩ => ?_
    exact ⟨_, ρ1, F1, h1, d1, w1, q1, po1⟩
  · rw [e1] at hb
    refine PE.imp (pe_callTy hb gl hm e2 ha nn db (star_of hs.1) (any_of_plain hs.2)) fun σ H Q ⟨ρ, F, h, E, w, r, po⟩ => ?_
    refine tG_mono (st1 w r po) fun x H1 ⟨ρ1, F1, h1, d1, x1, e1, w1, r1, q1, po1⟩ => ?_
    exact ⟨_, ρ1, F1, h1, d1, w1, q1, po1⟩
def Ty.ty : Ty → String
  | .int => "int"
  | .bool => "bool"
  | .str => "str"
  | .tuple => "tuple"
  | .list => "list"
  | .dict => "dict"
theorem ty_boot (t : Ty) : bootBuiltins (tyName t) = some (.type t.ty) := by
  cases t <;> decide +kernel
theorem isty_of {K : PySem.W.Frag} {ρ : Rho} {F : Addr → Prop} {H : Hp} {h : Hs} {v : V} {d : D} (t : Ty) (w : Wd K ρ F H h) (r : RdC K ρ F H v d) : ∃ a : String, TyX K H v (.type a) ∧ PySem.W.kitOne K (.type a) (.type t.ty) = some (isTy h d t) := by
  cases d with
  | non =>
    cases r.non_inv
    exact ⟨_, .base .non, kit_ty (by cases t <;> first | (show kitB _ _ = some true; decide +kernel) | (show kitB _ _ = some false; decide +kernel))⟩
  | bl b =>
    cases r.bl_inv
    exact ⟨_, .base (.bl b), kit_ty (by cases t <;> first | (show kitB _ _ = some true; decide +kernel) | (show kitB _ _ = some false; decide +kernel))⟩
  | int i =>
    cases r.int_inv
    exact ⟨_, .base (.int i), kit_ty (by cases t <;> first | (show kitB _ _ = some true; decide +kernel) | (show kitB _ _ = some false; decide +kernel))⟩
  | str x =>
    cases r.str_inv
    exact ⟨_, .base (.str x), kit_ty (by cases t <;> first | (show kitB _ _ = some true; decide +kernel) | (show kitB _ _ = some false; decide +kernel))⟩
  | tup xs =>
    obtain ⟨a, vs, rfl, sq, q⟩ := r.tup_inv
    refine ⟨"tuple", ?_, kit_ty (by cases t <;> first | (show kitB _ _ = some true; decide +kernel) | (show kitB _ _ = some false; decide +kernel))⟩
    rcases sq with (sq | ⟨o, sq⟩) | ⟨o, its, n, e1, e2, _⟩
    · exact .base (.tup sq)
    · exact .fTuple sq
    · exact .kTuple e1 e2
  | lst xs =>
    obtain ⟨a, vs, rfl, sq, q⟩ := r.lst_inv
    exact ⟨"list", .base (.lst sq), kit_ty (by cases t <;> first | (show kitB _ _ = some true; decide +kernel) | (show kitB _ _ = some false; decide +kernel))⟩
  | ro xs =>
    obtain ⟨a, vs, rfl, sq, q⟩ := r.ro_inv
    refine ⟨"list", ?_, kit_ty (by cases t <;> first | (show kitB _ _ = some true; decide +kernel) | (show kitB _ _ = some false; decide +kernel))⟩
    rcases sq with (sq | ⟨o, sq⟩) | ⟨o, its, n, e1, e2, _⟩
    · exact .base (.lst sq)
    · exact .base (.frz sq)
    · exact .kList e1 e2
  | dct tk kvs =>
    obtain ⟨a, rfl, c⟩ := r.dct_inv
    · refine ⟨"dict", ?_, kit_ty (by cases t <;> first | (show kitB _ _ = some true; decide +kernel) | (show kitB _ _ = some false; decide +kernel))⟩
      cases tk with
      | true => obtain ⟨ws, e, _⟩ := c; exact .base (.dT e)
      | false => obtain ⟨ws, e, _⟩ := c; exact .base (.dK e)
  | obj n =>
    obtain ⟨a, rfl, e⟩ := r.obj_inv
    cases e2 : h[n]? with
    | none =>
      have := w.fin n (by rwa [List.getElem?_eq_none_iff] at e2)
      rw [this] at e
      cases e
    | some o =>
      obtain ⟨a', e', mo⟩ := w.obj n o e2
      rw [e] at e'
      cases e'
      cases o with
      | lst xs =>
        obtain ⟨vs, z, _⟩ := mo
        refine ⟨"list", .base (.lst z), kit_ty ?_⟩
        have et : isTy h (.obj n) t = (match (some (MO.lst xs) : Option MO), t with
          | some (.lst _), .list => true
          | some (.dct _ _), .dict => true
          | _, _ => false) := by rw [← e2]; rfl
        rw [et]
        cases t <;> first | (show kitB _ _ = some true; decide +kernel) | (show kitB _ _ = some false; decide +kernel)
      | dct _ _ => exact mo.elim
      | ins _ _ => exact mo.elim
theorem s_isi (g : Good XA T C k ck sc X) {t : Ty} {y : Str} {pn py : Pos} (h : bltB ck sc "isinstance" = true) (hy : y = tyName t) (h2 : bltB ck sc y = true) (hs : notStar a = true) (ha : PE X a (tG X.K XA W (lf (RdC X.K)) ma)) :
    PE X (.Call (.Name "isinstance" pn) [a, .Name y py] [] pos) (tG X.K XA W (RdG X.K) fun E => R.bind (ma E) fun d => isiR d [t]) := by
  obtain ⟨gl, db, nn, hm⟩ := blt_of g.toGoodQ h
  obtain ⟨gl2, db2, nn2, hm2⟩ := blt_of g.toGoodQ h2
  subst hy
  have hty : PE X (.Name (tyName t) py) (tC (V.ty t.ty)) := pe_bltn gl2 hm2 (ty_boot t) rfl nn2 db2
  have hpa : PA X [a, .Name (tyName t) py] (tCons (tG X.K XA W (lf (RdC X.K)) ma) (tCons (tC (V.ty t.ty)) tNil)) := pa_cons ha (pa_cons hty pa_nil) (star_of hs)
  refine PE.imp (pe_callB call_isi gl hm (by decide +kernel) hpa nn db (star_of hs) (any_of_plain (by rfl))) fun σ H Q ⟨ρ, F, h, E, w, r, po⟩ => ?_
  refine tG_mono (st1 w r po) fun x H1 ⟨ρ1, F1, h1, d1, x1, e1, w1, r1, q1, po1⟩ => ?_
  obtain ⟨s, tx, kt⟩ := isty_of t w1 q1
  refine ⟨x, V.ty t.ty, .type s, .type t.ty, _, rfl, .ty _, tx, kt, ?_⟩
  have po1 : Po X.K XA _ ρ1 F1 H1 (R.pure (D.bl ([t].any fun t => isTy h1 d1 t)) h1) (RdG X.K) Q := po1
  rw [show ([t].any fun t => isTy h1 d1 t) = isTy h1 d1 t from Bool.or_false _] at po1
  exact po1.val w1 rfl (.bl _)

/-! ### a < b < c -/
theorem s_cmp2 (g : Good XA T C k ck sc X) {op op' : CmpOp} (hm : behindInMarks op' c = false) (ha : PE X a (tG X.K XA W (lf (RdC X.K)) ma)) (hb : PE X b (tG X.K XA W (lf (RdC X.K)) mb)) (hc : PE X c (tG X.K XA W (lf (RdC X.K)) mc)) :
    PE X (.Compare a [op, op'] [b, c] pos) (tG X.K XA W (RdG X.K) fun E => R.bind (ma E) fun x => R.bind (mb E) fun y => R.bind (cmpR op x y) fun k => match k with
      | true => R.bind (mc E) fun z => R.bind (cmpR op' y z) fun q => R.pure (.bl q)
      | false => R.pure (.bl false)) := by
  refine PE.imp (pe_chain (op_cmp (XA := XA) g.room.units) (op_cmp (XA := XA) g.room.units) ha hb hc hm) fun σ H Q ⟨ρ, F, h, E, w, r, po⟩ => ?_
  refine tG_mono (st1 w r po) fun x H1 ⟨ρ1, F1, h1, d1, x1, e1, w1, r1, q1, po1⟩ => ?_
  refine tG_mono (st1 w1 r1 po1) fun y H2 ⟨ρ2, F2, h2, d2, x2, e2, w2, r2, q2, po2⟩ => ?_
  subst e2
  refine ⟨_, ρ2, _, h2, d1, d2, w2, q1.xt x2 w1.sub, q2, (Po.bind (Rel1 := RelB) po2).mono (fun _ _ _ _ _ _ x => x) fun c H3 ⟨ρ3, h3, c', x3, w3, ec, po3⟩ => ?_⟩
  subst ec
  refine ⟨c, rfl, ?_⟩
  cases c with
  | false => exact po3.val w3 rfl (.bl _)
  | true =>
    have r3 := (r2.xt x3 w2.sub)
    refine tG_mono (st1 w3 r3 po3) fun z H4 ⟨ρ4, F4, h4, d4, x4, e4, w4, r4, q4, po4⟩ => ?_
    subst e4
    refine ⟨_, ρ4, _, h4, d2, d4, w4, (q2.xt x3 w2.sub).xt x4 w3.sub, q4, (Po.bind (Rel1 := RelB) po4).mono (fun _ _ _ _ _ _ x => x) fun c H5 ⟨ρ5, h5, c', x5, w5, ec, po5⟩ => ?_⟩
    subst ec
    exact po5.val w5 rfl (.bl _)
theorem s_cmp2T (g : Good XA T C k ck sc X) {op op' : CmpOp} (hm : behindInMarks op' c = false) (ha : PE X a (tG X.K XA W (lf (RdC X.K)) ma)) (hb : PE X b (tG X.K XA W (lf (RdC X.K)) mb)) (hc : PE X c (tG X.K XA W (lf (RdC X.K)) mc)) :
    PT X (.Compare a [op, op'] [b, c] pos) (tG X.K XA W RelTB fun E => R.bind (R.bind (ma E) fun x => R.bind (mb E) fun y => R.bind (cmpR op x y) fun k => match k with
      | true => R.bind (mc E) fun z => R.bind (cmpR op' y z) fun q => R.pure (.bl q)
      | false => R.pure (.bl false)) fun d => R.bind (truthR d) fun t => R.pure (.bl t)) := by
  refine PT.imp (pt_chain (op_cmp (XA := XA) g.room.units) (op_cmp (XA := XA) g.room.units) ha hb hc hm) fun σ H Q ⟨ρ, F, h, E, w, r, po⟩ => ?_
  simp only [R.bind_assoc] at po
  show tG X.K XA W (lf (RdC X.K)) ma σ H fun x H1 => tG X.K XA W (lf (RdC X.K)) mb σ H1 fun y H2 => rNB X.K XA (cmpR op) x y H2 fun z H3 => ∃ k, z = .bl k ∧
    (if k = true then tG X.K XA W (lf (RdC X.K)) mc σ H3 (fun w' H4 => rNB X.K XA (cmpR op') y w' H4 fun x H' => ∃ k, x = .bl k ∧ Q k H') else ∃ k, V.bl false = .bl k ∧ Q k H3)
  refine tG_mono (st1 w r po) fun x H1 ⟨ρ1, F1, h1, d1, x1, e1, w1, r1, q1, po1⟩ => ?_
  refine tG_mono (st1 w1 r1 po1) fun y H2 ⟨ρ2, F2, h2, d2, x2, e2, w2, r2, q2, po2⟩ => ?_
  subst e2
  refine ⟨_, ρ2, _, h2, d1, d2, w2, q1.xt x2 w1.sub, q2, (Po.bind (Rel1 := RelB) po2).mono (fun _ _ _ _ _ _ x => x) fun c H3 ⟨ρ3, h3, c', x3, w3, ec, po3⟩ => ?_⟩
  subst ec
  refine ⟨c, rfl, ?_⟩
  cases c with
  | false => exact ⟨false, rfl, Po.now (a := D.bl false) po3 w3 rfl⟩
  | true =>
    have r3 := (r2.xt x3 w2.sub)
    have po3 : Po X.K XA (fun c d H' => W c d σ H') ρ3 (orR (orR F1 ρ2) ρ3) H3 (R.bind (mc E) (fun z => R.bind (R.bind (cmpR op' d2 z) fun q => R.pure (.bl q)) fun d => R.bind (truthR d) fun t => R.pure (D.bl t)) h3) RelTB Q := by
      rw [← R.bind_assoc]
      exact po3
    refine tG_mono (st1 w3 r3 po3) fun z H4 ⟨ρ4, F4, h4, d4, x4, e4, w4, r4, q4, po4⟩ => ?_
    subst e4
    rw [R.bind_assoc] at po4
    refine ⟨_, ρ4, _, h4, d2, d4, w4, (q2.xt x3 w2.sub).xt x4 w3.sub, q4, (Po.bind (Rel1 := RelB) po4).mono (fun _ _ _ _ _ _ x => x) fun c H5 ⟨ρ5, h5, c', x5, w5, ec, po5⟩ => ?_⟩
    subst ec
    exact ⟨c, rfl, Po.now (a := D.bl c) po5 w5 rfl⟩

/-! ### slices -/
abbrev RelE {α : Type} : RelT α α := fun _ _ _ _ o d => d = o
theorem s_noPart : PO X none (tG X.K XA W RelE fun _ => R.bind (R.pure D.non) fun l => R.ofOpt (bndR (.cst .non) l)) :=
  ⟨fun pins s σ H Q I h => po_none.run pins s σ H Q I (let ⟨ρ, F, h', E, w, r, po⟩ := h; Po.now (a := (none : Option Int)) po w rfl)⟩
theorem s_part {ne : NE} (hn : isNonE ne = false) (ha : PE X a (tG X.K XA W (lf (Rd X.K)) ma)) : PO X (some a) (tG X.K XA W RelE fun E => R.bind (ma E) fun l => R.ofOpt (bndR ne l)) := by
  refine ⟨fun pins s σ H Q I h => (po_some ha).run pins s σ H Q I ?_⟩
  obtain ⟨ρ, F, h', E, w, r, po⟩ := h
  refine tG_mono (st1 w r po) fun x H1 ⟨ρ1, F1, h1, d1, x1, e1, w1, r1, q1, po1⟩ => ?_
  obtain ⟨o, eo, po1⟩ := po1.opt
  unfold bndR at eo
  rw [hn] at eo
  cases d1 with
  | int i =>
    cases q1
    cases eo
    exact ⟨i, rfl, Po.now (a := some i) po1 w1 rfl⟩
  | _ => cases eo
theorem s_slice {lo hi : Option Expr} {ml mh : Env → R (Option Int)} {p2 : Pos} (ha : PE X a (tG X.K XA W (lf (RdC X.K)) ma)) (hl : PO X lo (tG X.K XA W RelE ml)) (hh : PO X hi (tG X.K XA W RelE mh)) :
    PE X (.Subscript a (.Slice lo hi none p2) pos) (tG X.K XA W (RdG X.K) fun E => R.bind (ma E) fun o => R.bind (ml E) fun l => R.bind (mh E) fun u => slR o l u) := by
  refine PE.imp (pe_slice (sl_ok (XA := XA)) ha hl hh) fun σ H Q ⟨ρ, F, h, E, w, r, po⟩ => ?_
  refine tG_mono (st1 w r po) fun x H1 ⟨ρ1, F1, h1, d1, x1, e1, w1, r1, q1, po1⟩ => ?_
  refine tG_mono (st1 w1 r1 po1) fun l H2 ⟨ρ2, F2, h2, l', x2, e2, w2, r2, q2, po2⟩ => ?_
  refine tG_mono (st1 w2 r2 po2) fun u H3 ⟨ρ3, F3, h3, u', x3, e3, w3, r3, q3, po3⟩ => ?_
  subst e2 e3 q2 q3
  exact ⟨_, ρ3, _, h3, d1, w3, (q1.xt x2 w1.sub).xt x3 w2.sub, po3⟩
theorem s_rev {j : Nat} {p1 p2 p3 : Pos} (ha : PE X a (tG X.K XA W (lf (RdC X.K)) ma)) : PE X (.Subscript a (.Slice none none (some (.UnaryOp .USub (.Constant (.int 1) j p1) p2)) p3) pos) (tG X.K XA W (RdG X.K) fun E => R.bind (ma E) revR) := by
  refine PE.imp (pe_rev ha) fun σ H Q ⟨ρ, F, h, E, w, r, po⟩ => ?_
  refine tG_mono (st1 w r po) fun x H1 ⟨ρ1, F1, h1, d1, x1, e1, w1, r1, q1, po1⟩ => ?_
  unfold revR at po1
  split at po1
  · obtain ⟨a, vs, rfl, sq, q⟩ := q1.lst_inv
    exact ⟨a, vs, rfl, .inl ⟨.of sq, fun p h0 => po1.newL w1 h0 q.reverse⟩⟩
  · obtain ⟨a, vs, rfl, sq, q⟩ := q1.tup_inv
    exact ⟨a, vs, rfl, .inr ⟨sq, fun p h0 => po1.newT w1 h0 q.reverse⟩⟩
  · exact po1.elim
end
end Ny

set_option maxHeartbeats 2000000
/-! Ny: in, not in, of a constant tuple of the module. -/
namespace Ny
open PySem PySem.Spec PyProof.Rows L2 PySem.SeqAt
def rInK (K : PySem.W.Frag) (XA : Nat → Option Addr) (neg : Bool) (xs : List D) : R2 := fun x y H Q => ∃ W ρ F h d1, Wd K ρ F H h ∧ RdC K ρ F H x d1 ∧ SeqC K ρ F H y xs ∧ Po K XA W ρ F H (inSeq d1 xs h) RelB (fun c H' => Q (.bl (ntB neg c)) H')
section
variable {XA : Nat → Option Addr} {T : Tab} {C : Call} {k : Nat} {ck : Ck} {sc : Scope} {X : Cx} {W : WX}
theorem op_inK (hu : X.A.units + 64 < cLine) {neg : Bool} {xs : List D} : OpR X (compareOp (if neg then .NotIn else .In)) (rInK X.K XA neg xs) := by
  intro pins s σ H x y v u Q I rx ry h
  obtain ⟨W, ρ, F, hs, d1, w, r1, sc, po⟩ := h
  unfold inSeq at po
  cases e0 : (d1.plain && cmpAll d1 xs) with
  | false => rw [e0] at po; exact po.elim
  | true =>
    rw [e0] at po
    obtain ⟨e1, e⟩ := Bool.and_eq_true_iff.mp e0
    have po : Po X.K XA W ρ F H (R.pure (hasD d1 xs) hs) RelB (fun c H' => Q (.bl (ntB neg c)) H') := po
    exact in_seq I sc r1 ry rx e1 e hu neg ⟨.bl _, H, I, rfl, po.bool w⟩
theorem seqC_K {K : PySem.W.Frag} {ρ : Rho} {F : Addr → Prop} {H : Hp} {a : Addr} {vs : List V} {xs : List D} (kt : KTup K a vs) (r : Rds K ρ F H vs xs) : SeqC K ρ F H (.ref a) xs := ⟨a, vs, rfl, .inl (.inr kt), r⟩
section
variable {neg : Bool} {l : Expr} {x : Str} {px pos : Pos} {xs : List D} {ma : Env → R D}
theorem s_inK (g : Good XA T C k ck sc X) (h : (gloB sc x && ck.tcst.any fun p => decide (p.1 = x) && sameDs p.2 xs) = true)
    (ha : PE X l (tG X.K XA W (lf (RdC X.K)) ma)) (hm : behindInMarks (if neg then .NotIn else .In) (.Name x px) = false) :
    PE X (.Compare l [if neg then .NotIn else .In] [.Name x px] pos) (tG X.K XA W (RdG X.K) fun E => R.bind (ma E) fun d => R.bind (inSeq d xs) fun c => R.pure (.bl (ntB neg c))) := by
  obtain ⟨h1, h2⟩ := Bool.and_eq_true_iff.mp h
  obtain ⟨p, hp, h3⟩ := List.any_eq_true.mp h2
  simp only [Bool.and_eq_true, decide_eq_true_eq] at h3
  obtain ⟨e1, e2⟩ := h3
  obtain ⟨a, vs, hmg, kt, hr⟩ := g.tcst p hp
  rw [e1] at hmg
  obtain ⟨gl, db, _⟩ := glo_of g.toGoodQ h1
  refine PE.imp (pe_cmpR (op_inK (XA := XA) (xs := xs) g.room.units) ha (pe_glob gl hmg (show L2.RelV (V.ref a) (Value.ref a) from rfl) db) hm) fun σ H Q ⟨ρ, F, h, E, w, r, po⟩ => ?_
  refine tG_mono (st1 w r po) fun x H1 ⟨ρ1, F1, h1, d1, x1, e1, w1, r1, q1, po1⟩ => ?_
  have q := hr ρ1 F1 H1
  rw [sameDs_eq e2] at q
  refine ⟨_, ρ1, F1, h1, d1, w1, q1, seqC_K kt q, (Po.bind (Rel1 := RelB) po1).mono (fun _ _ _ _ _ _ x => x) fun c H3 ⟨ρ3, h3, c', x3, w3, ec, po3⟩ => ?_⟩
  subst ec
  exact Po.val (d := D.bl _) w3 rfl (.bl _) po3
theorem s_inKT (g : Good XA T C k ck sc X) (h : (gloB sc x && ck.tcst.any fun p => decide (p.1 = x) && sameDs p.2 xs) = true)
    (ha : PE X l (tG X.K XA W (lf (RdC X.K)) ma)) (hm : behindInMarks (if neg then .NotIn else .In) (.Name x px) = false) :
    PT X (.Compare l [if neg then .NotIn else .In] [.Name x px] pos) (tG X.K XA W RelTB fun E => R.bind (R.bind (ma E) fun d => R.bind (inSeq d xs) fun c => R.pure (.bl (ntB neg c))) fun d => R.bind (truthR d) fun t => R.pure (.bl t)) := by
  obtain ⟨h1, h2⟩ := Bool.and_eq_true_iff.mp h
  obtain ⟨p, hp, h3⟩ := List.any_eq_true.mp h2
  simp only [Bool.and_eq_true, decide_eq_true_eq] at h3
  obtain ⟨e1, e2⟩ := h3
  obtain ⟨a, vs, hmg, kt, hr⟩ := g.tcst p hp
  rw [e1] at hmg
  obtain ⟨gl, db, _⟩ := glo_of g.toGoodQ h1
  refine PT.imp (pt_cmpR (op_inK (XA := XA) (xs := xs) g.room.units) ha (pe_glob gl hmg (show L2.RelV (V.ref a) (Value.ref a) from rfl) db) hm) fun σ H Q ⟨ρ, F, h, E, w, r, po⟩ => ?_
  simp only [R.bind_assoc] at po
  show tG X.K XA W (lf (RdC X.K)) ma σ H fun x H1 => rInK X.K XA neg xs x (V.ref a) H1 fun x H' => ∃ k, x = .bl k ∧ Q k H'
  refine tG_mono (st1 w r po) fun x H1 ⟨ρ1, F1, h1, d1, x1, e1, w1, r1, q1, po1⟩ => ?_
  have q := hr ρ1 F1 H1
  rw [sameDs_eq e2] at q
  refine ⟨_, ρ1, F1, h1, d1, w1, q1, seqC_K kt q, (Po.bind (Rel1 := RelB) po1).mono (fun _ _ _ _ _ _ x => x) fun c H3 ⟨ρ3, h3, c', x3, w3, ec, po3⟩ => ?_⟩
  subst ec
  exact ⟨_, rfl, Po.now (a := D.bl (ntB neg c)) po3 w3 rfl⟩
end
end
end Ny

set_option maxHeartbeats 2000000
/-! Ny: targets; what is walked. -/
namespace Ny
open PySem PySem.Spec PyProof.Rows L2

/-! ### targets -/
section
variable {K : PySem.W.Frag} {XA : Nat → Option Addr} {ρ : Rho} {F : Addr → Prop} {H : Hp} {E : Env} {σ : L2.St}
theorem SlotR.val {v : V} {d : D} (r : Rd K ρ F H v d) : SlotR K XA ρ F H (.val d) (some v) := r
theorem EnvR.setVal (r : EnvR K XA ρ F H E σ) {i : Nat} {v : V} {d : D} (q : Rd K ρ F H v d) : EnvR K XA ρ F H (E.set i (.val d)) (σ.set i (some v)) := by
  refine ⟨by rw [List.length_set, List.length_set]; exact r.len, fun j s u h1 h2 => ?_, fun j l d1 d2 a h1 h2 h3 h4 => ?_⟩
  · by_cases e : i = j
    · subst e
      have hl : i < E.length := by
        have := (List.getElem?_eq_some_iff.mp h1).1
        rwa [List.length_set] at this
      rw [List.getElem?_set_self hl] at h1
      rw [List.getElem?_set_self (by rw [← r.len]; exact hl)] at h2
      cases h1
      cases h2
      exact q
    · rw [List.getElem?_set_ne e] at h1 h2
      exact r.at_ j s u h1 h2
  · have f : ∀ {j : Nat} {d1 : D}, (E.set i (.val d))[j]? = some (.own d1) → i ≠ j ∧ E[j]? = some (.own d1) := fun {j d1} h => by
      by_cases e : i = j
      · subst e
        have hl : i < E.length := by
          have := (List.getElem?_eq_some_iff.mp h).1
          rwa [List.length_set] at this
        rw [List.getElem?_set_self hl] at h
        cases h
      · rw [List.getElem?_set_ne e] at h
        exact ⟨e, h⟩
    obtain ⟨n1, g1⟩ := f h1
    obtain ⟨n2, g2⟩ := f h2
    rw [List.getElem?_set_ne n1] at h3
    rw [List.getElem?_set_ne n2] at h4
    exact r.inj j l d1 d2 a g1 g2 h3 h4
theorem wipe_set {σ : L2.St} {i : Nat} {v : Option V} : ∀ {vs : List Nat}, i ∈ vs → wipe (σ.set i v) vs = wipe σ vs
  | [], h => by simp at h
  | j :: vs, h => by
    unfold wipe
    by_cases hi : i ∈ vs
    · rw [wipe_set hi]
    · have e : i = j := by
        rcases List.mem_cons.mp h with e | e
        · exact e
        · exact absurd e hi
      subst e
      have : ∀ {vs : List Nat}, i ∉ vs → wipe (σ.set i v) vs = (wipe σ vs).set i v := fun {vs} => by
        induction vs with
        | nil => intro _; rfl
        | cons l vs ih =>
          intro hn
          simp only [List.mem_cons, not_or] at hn
          unfold wipe
          rw [ih hn.2, List.set_comm _ _ hn.1]
      rw [this hi, List.set_set]
end
/-- d goes to the target t -/
def gT (K : PySem.W.Frag) (XA : Nat → Option Addr) (t : NT) : TG := fun v σ H Q => ∃ ρ F E d E', Rd K ρ F H v d ∧ EnvR K XA ρ F H E σ ∧ bindT t d E = some E' ∧
  ∀ σ', EnvR K XA ρ F H E' σ' → (∀ vs, ntIn t vs = true → wipe σ' vs = wipe σ vs) → Q σ' H
def gTs (K : PySem.W.Frag) (XA : Nat → Option Addr) (ts : NTs) : TGs := fun vs σ H Q => ∃ ρ F E ds E', Rds K ρ F H vs ds ∧ EnvR K XA ρ F H E σ ∧ bindTs ts ds E = some E' ∧
  ∀ σ', EnvR K XA ρ F H E' σ' → (∀ us, ntsIn ts us = true → wipe σ' us = wipe σ us) → Q σ' H
theorem PG.imp {X : Cx} {e : Expr} {t t' : TG} (h : PG X e t) (i : ∀ v σ H Q, t' v σ H Q → t v σ H Q) : PG X e t' := ⟨fun pins s σ H v u Q I r q => h.run pins s σ H v u Q I r (i _ _ _ _ q)⟩
theorem PGs.imp {X : Cx} {e : List Expr} {t t' : TGs} (h : PGs X e t) (i : ∀ v σ H Q, t' v σ H Q → t v σ H Q) : PGs X e t' := ⟨fun pins s σ H v u Q I r q => h.run pins s σ H v u Q I r (i _ _ _ _ q)⟩
section
variable {X : Cx} {XA : Nat → Option Addr} {ck : Ck} {tb : Str → Bool}
theorem chkTs_each : ∀ {n : Nat} {es : List Expr} {ts : NTs} (env : PySem.Env), chkTs n ck tb es ts = true → (assignEach es env).map (·.2) = es.map (fun e => assign e env) ∧ (assignEach es env).findIdx? (·.1) = none
  | 0, _, _, _, h => by simp [chkTs] at h
  | n + 1, es, ts, env, h => by
    unfold chkTs at h
    cases ts with
    | nil =>
      have e : es = [] := List.isEmpty_iff.mp h
      subst e
      exact ⟨rfl, rfl⟩
    | cons t ts =>
      cases es with
      | nil => cases h
      | cons e es =>
        obtain ⟨h1, h2⟩ := Bool.and_eq_true_iff.mp h
        obtain ⟨i1, i2⟩ := chkTs_each env h2
        cases n with
        | zero => simp [chkT] at h1
        | succ n =>
          unfold chkT at h1
          have key : assignEach (e :: es) env = (false, assign e env) :: assignEach es env := by
            cases t with
            | nm i => cases e <;> first | rfl | cases h1
            | tp ts => cases e <;> first | rfl | cases h1
          rw [key]
          refine ⟨by rw [List.map_cons, List.map_cons, i1], ?_⟩
          rw [List.findIdx?_cons, i2]
          rfl
theorem bindTs_len : ∀ {ts : NTs} {ds : List D} {E E' : Env} {n : Nat} {es : List Expr}, bindTs ts ds E = some E' → chkTs n ck tb es ts = true → ds.length = es.length
  | .nil, ds, E, E', n, es, h, c => by
    unfold bindTs at h
    cases n with
    | zero => simp [chkTs] at c
    | succ n =>
      unfold chkTs at c
      have e : es = [] := List.isEmpty_iff.mp c
      subst e
      cases ds with
      | nil => rfl
      | cons d ds => cases h
  | .cons t ts, ds, E, E', n, es, h, c => by
    unfold bindTs at h
    cases n with
    | zero => simp [chkTs] at c
    | succ n =>
      unfold chkTs at c
      cases es with
      | nil => cases c
      | cons e es =>
        obtain ⟨c1, c2⟩ := Bool.and_eq_true_iff.mp c
        cases ds with
        | nil => cases h
        | cons d ds =>
          cases e2 : bindT t d E with
          | none =>
            simp only [e2] at h
            cases h
          | some E1 =>
            simp only [e2] at h
            rw [List.length_cons, List.length_cons, bindTs_len h c2]
mutual
theorem s_tgt (hc : X.calm = true) (hN : X.N = ck.N) (nd : ck.N.Nodup) (ht : ∀ x, tb x = true → Loc X.env.scope x ∧ (X.fn x = true ∨ X.env.scope.names.lookup x = some .local)) : ∀ {n : Nat} {e : Expr} {t : NT}, chkT n ck tb e t = true → PG X e (gT X.K XA t)
  | 0, _, _, h => by simp [chkT] at h
  | n + 1, e, t, h => by
    unfold chkT at h
    cases t with
    | nm i =>
      cases e with
      | Name x pos =>
        obtain ⟨h1, h2⟩ := Bool.and_eq_true_iff.mp h
        obtain ⟨l, f⟩ := ht x h2
        refine PG.imp (pg_name (by rw [hN]; exact nd) (by rw [hN]; exact of_decide_eq_true h1) l f) fun v σ H Q ⟨ρ, F, E, d, E', r, q, e, k⟩ => ?_
        unfold bindT at e
        cases e
        refine k _ (q.setVal r) fun vs hv => ?_
        unfold ntIn at hv
        exact wipe_set (List.contains_iff_mem.mp hv)
      | _ => cases h
    | tp ts =>
      cases e with
      | Tuple es k pos =>
        have h : chkTs n ck tb es ts = true := h
        obtain ⟨a1, a2⟩ := chkTs_each X.env h
        have al : (assignEach es X.env).length = es.length := by
          have := congrArg List.length a1
          rwa [List.length_map, List.length_map] at this
        refine PG.imp (pg_tup hc (s_tgts hc hN nd ht h) al a2) fun v σ H Q ⟨ρ, F, E, d, E', r, q, e, k⟩ => ?_
        unfold bindT at e
        cases d with
        | tup ds =>
          cases r with
          | tup tt rs =>
            refine ⟨_, _, rfl, tt.sq, ?_, ρ, F, E, ds, E', rs, q, e, fun σ' q' w => k σ' q' fun us hu => w us (by unfold ntIn at hu; exact hu)⟩
            rw [rs.length]
            exact bindTs_len e h
        | _ => cases e
      | _ => cases h
theorem s_tgts (hc : X.calm = true) (hN : X.N = ck.N) (nd : ck.N.Nodup) (ht : ∀ x, tb x = true → Loc X.env.scope x ∧ (X.fn x = true ∨ X.env.scope.names.lookup x = some .local)) : ∀ {n : Nat} {es : List Expr} {ts : NTs}, chkTs n ck tb es ts = true → PGs X es (gTs X.K XA ts)
  | 0, _, _, h => by simp [chkTs] at h
  | n + 1, es, ts, h => by
    have h0 := h
    unfold chkTs at h
    cases ts with
    | nil =>
      have e : es = [] := List.isEmpty_iff.mp h
      subst e
      refine PGs.imp pgs_nil fun vs σ H Q ⟨ρ, F, E, ds, E', r, q, e, k⟩ => ?_
      unfold bindTs at e
      cases ds with
      | nil =>
        cases r
        cases e
        exact ⟨rfl, k σ q fun _ _ => rfl⟩
      | cons => cases e
    | cons t ts =>
      cases es with
      | nil => cases h
      | cons e es =>
        obtain ⟨h1, h2⟩ := Bool.and_eq_true_iff.mp h
        have a0 := (chkTs_each X.env h0).1
        have a1 := (chkTs_each X.env h2).1
        refine PGs.imp (pgs_cons (s_tgt hc hN nd ht h1) (s_tgts hc hN nd ht h2) (by rw [a0, a1]; rfl)) fun vs σ H Q ⟨ρ, F, E, ds, E', r, q, e, k⟩ => ?_
        unfold bindTs at e
        cases ds with
        | nil => cases e
        | cons d ds =>
          cases r with
          | cons r rs =>
            cases e2 : bindT t d E with
            | none =>
              simp only [e2] at e
              cases e
            | some E1 =>
              simp only [e2] at e
              refine ⟨_, _, rfl, ρ, F, E, d, E1, r, q, e2, fun σ1 q1 w1 => ⟨ρ, F, E1, ds, E', rs, q1, e, fun σ2 q2 w2 => k σ2 q2 fun us hu => ?_⟩⟩
              unfold ntsIn at hu
              obtain ⟨u1, u2⟩ := Bool.and_eq_true_iff.mp hu
              rw [w2 us u2, w1 us u1]
end
end

/-! ### what is walked -/
def mset (c : Bool) (ρ : Rho) (F : Addr → Prop) : Addr → Prop := match c with
  | true => ρ.has
  | false => F
/-- the iterator J tells these, whatever is turned meanwhile of what M says -/
structure ItR (K : PySem.W.Frag) (ρ : Rho) (F M : Addr → Prop) (H : Hp) (J : It) (ds : List D) : Prop where
  go : ∀ (i : Nat) (d : D) (ρ' : Rho) (F' : Addr → Prop) (H' : Hp), ds[i]? = some d → (∀ n a, ρ n = some a → ρ' n = some a) → (∀ a, H a ≠ none → F' a → F a) → (∀ a, F' a → H' a ≠ none) → (∀ a o, ¬ M a → H a = some o → H' a = some o) →
    J.go i H' ∧ ∀ x H'', J.yld i H' x H'' → (∀ a o, H' a = some o → H'' a = some o) ∧ Rd K ρ' F' H'' x d
  stop : ∀ (i : Nat) (H' : Hp), ds.length ≤ i → (∀ a o, ¬ M a → H a = some o → H' a = some o) → J.stop i H'
def RelI (K : PySem.W.Frag) (c : Bool) : RelT It (List D) := fun ρ F H _ J ds => ItR K ρ F (mset c ρ F) H J ds
section
variable {K : PySem.W.Frag} {ρ : Rho} {F M : Addr → Prop} {H : Hp}
theorem sqL_keep {a : Addr} {vs : List V} (h : SqL K H a vs) (n : ¬ M a) {H' : Hp} (k : ∀ a o, ¬ M a → H a = some o → H' a = some o) : SqL K H' a vs := by
  rcases h with (h | ⟨o, h⟩) | h
  · exact .inl (.inl (k _ _ n h))
  · exact .inl (.inr ⟨o, k _ _ n h⟩)
  · exact .inr h
theorem sqT_keep {a : Addr} {vs : List V} (h : SqT K H a vs) (n : ¬ M a) {H' : Hp} (k : ∀ a o, ¬ M a → H a = some o → H' a = some o) : SqT K H' a vs := by
  rcases h with (h | ⟨o, h⟩) | h
  · exact .inl (.inl (k _ _ n h))
  · exact .inl (.inr ⟨o, k _ _ n h⟩)
  · exact .inr h
/-- a list, a tuple stays: by its being none of M, or the written part's -/
theorem ItR.list {a : Addr} {vs : List V} {xs : List D} (hM : ∀ a, M a → F a) (h : ∀ H', (∀ a o, ¬ M a → H a = some o → H' a = some o) → SqL K H' a vs) (r : Rds K ρ F H vs xs) : ItR K ρ F M H (Itl K a) xs where
  go := fun i d ρ' F' H' hd hr hf _ hk => by
    obtain ⟨v, hv, rv⟩ := r.get hd
    refine ⟨⟨vs, v, h H' hk, hv⟩, fun x H'' y => ?_⟩
    obtain ⟨e, y⟩ := y
    subst e
    refine ⟨fun _ _ e => e, ?_⟩
    have e := y vs (h _ hk)
    rw [hv] at e
    cases e
    exact rv.mv hr hf fun a o n e => hk a o (fun m => n (hM a m)) e
  stop := fun i H' hi hk => ⟨vs, h H' hk, by rw [r.length]; exact hi⟩
theorem ItR.tup {a : Addr} {vs : List V} {xs : List D} (hM : ∀ a, M a → F a) (h : ∀ H', (∀ a o, ¬ M a → H a = some o → H' a = some o) → SqT K H' a vs) (r : Rds K ρ F H vs xs) : ItR K ρ F M H (Itt K a) xs where
  go := fun i d ρ' F' H' hd hr hf _ hk => by
    obtain ⟨v, hv, rv⟩ := r.get hd
    refine ⟨⟨vs, v, h H' hk, hv⟩, fun x H'' y => ?_⟩
    obtain ⟨e, y⟩ := y
    subst e
    refine ⟨fun _ _ e => e, ?_⟩
    have e := y vs (h _ hk)
    rw [hv] at e
    cases e
    exact rv.mv hr hf fun a o n e => hk a o (fun m => n (hM a m)) e
  stop := fun i H' hi hk => ⟨vs, h H' hk, by rw [r.length]; exact hi⟩
theorem rngD_len : ∀ (n : Nat) (lo : Int), (rngD lo n).length = n
  | 0, _ => rfl
  | n + 1, lo => by unfold rngD; rw [List.length_cons, rngD_len n]
theorem rngD_get : ∀ {n : Nat} {lo : Int} {i : Nat} {d : D}, (rngD lo n)[i]? = some d → i < n ∧ d = .int (lo + i)
  | 0, _, _, _, h => by simp [rngD] at h
  | n + 1, lo, 0, d, h => by
    unfold rngD at h
    rw [List.getElem?_cons_zero] at h
    cases h
    exact ⟨Nat.succ_pos _, by simp⟩
  | n + 1, lo, i + 1, d, h => by
    unfold rngD at h
    rw [List.getElem?_cons_succ] at h
    obtain ⟨h1, h2⟩ := rngD_get h
    refine ⟨Nat.succ_lt_succ h1, ?_⟩
    rw [h2]
    congr 1
    omega
theorem ItR.rng {lo : Int} {n : Nat} : ItR K ρ F M H (Itr lo n) (rngD lo n) where
  go := fun i d ρ' F' H' hd _ _ _ _ => by
    obtain ⟨h1, h2⟩ := rngD_get hd
    refine ⟨h1, fun x H'' y => ?_⟩
    obtain ⟨e, y⟩ := y
    subst e y h2
    exact ⟨fun _ _ e => e, .int _⟩
  stop := fun i H' hi _ => by rw [rngD_len] at hi; exact hi
theorem ItR.str {x : Str} : ItR K ρ F M H (Its x) (x.cps.toList.map fun c => .str ⟨#[c]⟩) where
  go := fun i d ρ' F' H' hd _ _ _ _ => by
    rw [List.getElem?_map] at hd
    have hi : i < x.cps.size := by
      cases e : x.cps.toList[i]? with
      | none => rw [e] at hd; cases hd
      | some c =>
        have := (List.getElem?_eq_some_iff.mp e).1
        simpa using this
    refine ⟨hi, fun y H'' yl => ?_⟩
    obtain ⟨e, c, hc, ev⟩ := yl
    subst e ev
    refine ⟨fun _ _ e => e, ?_⟩
    have e2 : x.cps.toList[i]? = some c := by rw [Array.getElem?_toList]; exact hc
    rw [e2] at hd
    cases hd
    exact .str _
  stop := fun i H' hi _ => by
    rw [List.length_map, Array.length_toList] at hi
    exact hi
end
def iAny (K : PySem.W.Frag) (tl : TE) : TI := fun σ H R => tl σ H fun x H1 => (∃ a, x = .ref a ∧ (∃ xs, SqL K H1 a xs) ∧ R (Itl K a) H1) ∨ (∃ a, x = .ref a ∧ (∃ xs, SqT K H1 a xs) ∧ R (Itt K a) H1) ∨ ∃ y, x = .str y ∧ R (Its y) H1
section
variable {X : Cx} {tg : Expr}
theorem pi_any {l : Expr} {tl : TE} (hl : PE X l tl) : PI X tg l (iAny X.K tl) := by
  refine ⟨fun pins s σ H R I h => ?_⟩
  refine thn (hl.run pins s σ H _ I h) fun v s1 ⟨x, H1, I1, r1, q1⟩ => ?_
  rcases q1 with ⟨a, e, ⟨xs, hq⟩, q⟩ | ⟨a, e, ⟨xs, hq⟩, q⟩ | ⟨y, e, q⟩
  · subst e
    cases r1
    obtain ⟨its, rv, p, hz⟩ := I1.list hq
    refine wpAny_pyIter_list p.isList ?_
    refine ⟨s1.heap.objs.size, [s1.heap.objs.size], _, _, H1, rfl, I1.kept (t' := s1.toks) fun b o e => Heap.get?_push_of_some _ e, turn_list a _, ⟨_, Heap.get?_push_size _ rfl, rfl, rfl⟩, fun b hb => ?_, q⟩
    have e : b = s1.heap.objs.size := by simpa using hb
    subst e
    exact I1.fpOk (Nat.le_refl _) (I1.hok.fresh (Nat.le_refl _))
  · subst e
    cases r1
    obtain ⟨its, rv, p, hz⟩ := I1.tuple hq
    refine wpAny_pyIter_tuple (show s1.heap.IsTuple a its.toArray from p) ?_
    refine ⟨s1.heap.objs.size, [s1.heap.objs.size], _, _, H1, rfl, I1.kept (t' := s1.toks) fun b o e => Heap.get?_push_of_some _ e, turn_tuple a _, ⟨_, Heap.get?_push_size _ rfl, rfl, rfl⟩, fun b hb => ?_, q⟩
    have e : b = s1.heap.objs.size := by simpa using hb
    subst e
    exact I1.fpOk (Nat.le_refl _) (I1.hok.fresh (Nat.le_refl _))
  · subst e
    obtain ⟨t, rfl⟩ := r1
    cases ha : y.cps.all (· < 128)
    · exact wpAny_pyIter_wide ha (pi_one (tk := s1.toks) I1 _ (turn_str _ y t "str_iterator" (.inr rfl)) ⟨_, Heap.get?_push_size _ rfl, rfl, rfl⟩ q)
    · exact wpAny_pyIter_ascii ha (pi_one (tk := s1.toks) I1 _ (turn_str _ y t "str_ascii_iterator" (.inl rfl)) ⟨_, Heap.get?_push_size _ rfl, rfl, rfl⟩ q)
end
end Ny

set_option maxHeartbeats 2000000
/-! Ny: enumerate of a tuple. -/
namespace PySem
open Sem (wp)
open AutoSeq1 (wpAny_loadPart')
theorem meets_enumerate_newTn (l : Addr) (items : Array Value) (n : Nat) (dct : Option Addr) (sl : Array (Option Value)) :
    Meets (Builtin.«enumerate.__new__» ⟨[.type "enumerate", .ref l], []⟩) (fun _ R s => s.heap.get? l = some { cls := .type "tuple", dict := dct, data := .seq items n, slots := sl } ∧
      R (.ok (.ret (.ref (s.heap.push { cls := .type "tuple_iterator", data := .fields #[.ref l, .int 0 0] }).objs.size)))
        { s with heap := (s.heap.push { cls := .type "tuple_iterator", data := .fields #[.ref l, .int 0 0] }).push { cls := .type "enumerate", data := .fields #[.none, .bool false, .ref s.heap.objs.size, rawInt 0, .none, .none] } }) :=
  .of_wp fun prog w A R s h => by
    obtain ⟨hp, g, d, tk, os⟩ := s; obtain ⟨hl, h⟩ := h
    have hsub := sub_enumerate
    have hL : Heap.IsTuple (Shared.heap ⟨hp, g, d, tk, os⟩) l items := ⟨_, hl, rfl, n, rfl⟩
    wp_walk using wpAny_loadPart' hl
    refine wpAny_stack_any fun st => wpAny_pure ?_
    split
    · rename_i c _ _ _ _ _
      cases (c == Value.type "enumerate")
      · wp_walk using wpAny_loadPart' hl, wpAny_pyIter_tuple hL
        exact ⟨_, rfl, h⟩
      · wp_walk using wpAny_loadPart' hl, wpAny_pyIter_tuple hL
        exact ⟨_, rfl, h⟩
    · wp_walk using wpAny_loadPart' hl, wpAny_pyIter_tuple hL
      exact ⟨_, rfl, h⟩
section
variable {prog : Program} {w : World} {A : Around} {E : Value → Shared → Prop} {s : Shared}
theorem call_enumerate_tup {l : Addr} {items : Array Value} {Q : Value → Shared → Prop} (hL : s.heap.IsTuple l items)
    (h : ∀ h', IsEnum h' (s.heap.objs.size + 1) s.heap.objs.size 0 .none → h'.IsTupleIter s.heap.objs.size l 0 → h'.objs.size = s.heap.objs.size + 2 →
      (∀ b o, s.heap.get? b = some o → h'.get? b = some o) → Q (.ref (s.heap.objs.size + 1)) { s with heap := h' }) :
    wpAny (model prog w) A (call (.type "enumerate") [.ref l]) Q E s := by
  obtain ⟨⟨c, dct, dt, sl⟩, hl, hc, n, hd⟩ := hL
  replace hc : c = .type "tuple" := hc
  replace hd : dt = .seq items n := hd
  subst hc hd
  refine callType_new F.called_enumerate (by decide) (F.typeCall_enumerate_1 _) (F.newCall_enumerate_1 _) (fun obj => F.args_object_init_2 obj _) F.entry_enumerate_new
    (meets_enumerate_newTn l items n dct sl) ⟨hl, ?_⟩
  have hz : (s.heap.push { cls := .type "tuple_iterator", data := .fields #[.ref l, .int 0 0] }).objs.size = s.heap.objs.size + 1 := Heap.size_push ..
  show _ ∧ _
  rw [hz]
  have he : IsEnum ((s.heap.push { cls := .type "tuple_iterator", data := .fields #[.ref l, .int 0 0] }).push
      { cls := .type "enumerate", data := .fields #[.none, .bool false, .ref s.heap.objs.size, rawInt 0, .none, .none] }) (s.heap.objs.size + 1) s.heap.objs.size 0 .none := by
    have := Heap.get?_push_size (s.heap.push { cls := .type "tuple_iterator", data := .fields #[.ref l, .int 0 0] })
      (o := { cls := .type "enumerate", data := .fields #[.none, .bool false, .ref s.heap.objs.size, rawInt 0, .none, .none] }) rfl
    rw [hz] at this; exact this
  refine ⟨⟨_, he, rfl⟩, h _ he ⟨_, Heap.get?_push_of_some _ (Heap.get?_push_size _ rfl), rfl, rfl⟩ (by rw [Heap.size_push, hz]) fun b o x => Heap.get?_push_of_some _ (Heap.get?_push_of_some _ x)⟩
end
theorem drawsTup {prog : Program} {w : World} {A : Around} (hh : A.handled = none) (it t : Addr) (hne : t ≠ it) (items : Array Value) :
    Draws prog w A it [it, t] items.size (fun i v => items[i]? = some v) (fun i h => h.IsTupleIter it t i ∧ h.IsTuple t items) where
  live := fun _ _ st => let ⟨o, ho, _⟩ := st.1; ⟨o, ho⟩
  frame := fun _ _ _ st hk => ⟨st.1.at fun o e => hk it (by simp) o e, st.2.at fun o e => hk t (by simp) o e⟩
  item := fun i s Q E hi st hQ => by
    refine RZ.nextOf_tuple_item st.1 st.2 (x := items[i]) (by simp [hi]) fun h' hit' hs' => ?_
    exact hQ _ h' s.toks (by simp [hi]) ⟨hit', st.2.extBut hs'.extBut hne⟩ hs'
  done := fun s Q E st hE => RZ.nextOf_tuple_end hh st.1 st.2 (by simp) hE
end PySem
namespace Ny
open PySem PySem.Spec PyProof.Rows L2
/-- the tuple at a, each item in a new pair -/
def IteT (K : PySem.W.Frag) (a : Addr) : It :=
  ⟨fun i H => ∃ (xs : List V) (x : V), SqT K H a xs ∧ xs[i]? = some x, fun i H v H' => ∃ T x, v = .ref T ∧ H T = none ∧ H' = upd H T (.tup [.int (i : Nat), x]) ∧ ∀ xs, SqT K H a xs → xs[i]? = some x, fun i H => ∃ xs : List V, SqT K H a xs ∧ xs.length ≤ i⟩
theorem turn_enumT {P : Program} {w : World} {K : PySem.W.Frag} {elts : List Expr} {kk : Nat} {tpos : Pos} (a e it : Addr) :
    Turn P w K (.Tuple elts kk tpos) (IteT K a) [e, it] e (fun i h => (∃ old, IsEnum h e it ((i : Nat) : Int) old) ∧ h.IsTupleIter it a i ∧ e ≠ it ∧ a ≠ it ∧ a ≠ e) where
  mem := by simp
  obj := fun i h st b hb => by
    obtain ⟨⟨old, he⟩, ⟨o, ho, hc, hd⟩, _⟩ := st
    have e' : b = e ∨ b = it := by simpa using hb
    rcases e' with z | z
    · rw [z]; exact ⟨_, he, fun v q => nomatch q⟩
    · rw [z]; exact ⟨o, ho, fun v q => by rw [hd] at q; cases q⟩
  keep := fun i h h' st k => let ⟨⟨old, he⟩, hi, hne⟩ := st; ⟨⟨old, k e (by simp) _ he⟩, hi.at fun o q => k it (by simp) o q, hne⟩
  item := by
    intro X hP hw hK hc i pins s σ H E I hf st hg
    subst hP hw hK
    obtain ⟨⟨old, he⟩, hit, hne, hai, hae⟩ := st
    obtain ⟨xs, x, hq, hx⟩ := hg
    obtain ⟨its, rv, p, hz⟩ := I.tuple hq
    obtain ⟨u, hu, ru⟩ := rv.get hx
    have hel : e < s.heap.objs.size := Heap.lt_size he
    have hil : it < s.heap.objs.size := by obtain ⟨_, q, _⟩ := hit; exact Heap.lt_size q
    have hlt : i < its.toArray.size := by
      have := (List.getElem?_eq_some_iff.mp hu).1
      simpa using this
    refine wpAny_pyNext_enum_itemD (drawsTup (A := X.A.in1) (show X.A.in1.handled = none from I.ok.hd hc) it a hai its.toArray) he ⟨hit, (show s.heap.IsTuple a its.toArray from p)⟩ hlt hne (by simp [hne, Ne.symm hae]) fun u' h' tk hu' ho hit' hT hsz hk => ?_
    have eu : u' = u := by
      have e1 : its[i]? = some u' := by simpa using hu'
      rw [hu] at e1
      exact (Option.some.inj e1).symm
    subst eu
    refine ⟨_, rfl, wpAny_letOwnedTupleGo_enum (s := { s with heap := h', toks := tk + 1 }) ho fun h'' he' sb => ?_⟩
    have hT2 : h''.get? s.heap.objs.size = some { cls := .type "tuple", data := .seq #[.int i tk, u'] } := (sb.2 _ (Nat.ne_of_gt hel)).trans hT
    have new : ObjOk X.prog X.w (upd H s.heap.objs.size (.tup [.int (i : Nat), x])) h'' s.heap.objs.size (.tup [.int (i : Nat), x]) :=
      ⟨by show 2 ≤ sizeLine; decide, [.int i tk, u'], .cons ⟨_, rfl⟩ (.cons ru .nil), ⟨_, hT2, rfl, _, rfl⟩⟩
    have I1 : Inv X pins σ (upd H s.heap.objs.size (.tup [.int (i : Nat), x])) { s with heap := h'', toks := tk + 1 } :=
      I.turnedNew (ch := [e, it]) (fun b ob hb q => (sb.2 b (fun z => hb (by simp [z]))).trans (hk b ob (fun z => hb (by simp [z])) (fun z => hb (by simp [z])) q)) hf (Nat.le_refl _) new
    refine ⟨.ref s.heap.objs.size, _, I1, rfl, ⟨_, x, rfl, I.hok.fresh (Nat.le_refl _), rfl, fun ys hy => by rw [I.tuple_inj hy hq]; exact hx⟩, ⟨⟨u', ?_⟩, hit'.1.at fun o q => (sb.2 it (Ne.symm hne)).trans q, hne, hai, hae⟩, fun b hb => ?_⟩
    · have e1 : ((i + 1 : Nat) : Int) = (i : Int) + 1 := by omega
      rw [e1]; exact he'
    · have hb' : b < s.heap.objs.size := by
        have e' : b = e ∨ b = it := by simpa using hb
        rcases e' with z | z
        · rw [z]; exact hel
        · rw [z]; exact hil
      rw [upd_ne (Nat.ne_of_lt hb')]
      exact (hf b hb).1
  done := by
    intro X hP hw hK hc i pins s σ H E I hf st hg
    subst hP hw hK
    obtain ⟨⟨old, he⟩, hit, hne, hai, hae⟩ := st
    obtain ⟨xs, hq, hx⟩ := hg
    obtain ⟨its, rv, p, hz⟩ := I.tuple hq
    obtain ⟨f0, f1, f2, f3, f4, f5⟩ := hf it (by simp)
    have hl := rv.length
    have hT : s.TypeIs (.ref e) "enumerate" := ⟨_, he, rfl⟩
    unfold pyNext
    refine wpAny_bind (wpAny_attempt (wpAny_callSpecial?_slot (name := Str.ofString "__next__") hT PySem.F.slot_enumerate_next
      (wpAny_call_entry PySem.F.slot_enumerate_next hT PySem.F.entry_enumerate_next ?_ (PySem.F.args_enumerate_next_1 _))))
    show wpAny _ _ (field (.ref e) 2 >>= _) _ _ _
    refine wpAny_bind (wpAny_field he rfl (x := .ref it) rfl ?_)
    refine wpAny_bind (RZ.nextOf_tuple_end (I.ok.hd hc) hit (show s.heap.IsTuple a its.toArray from p) (by simp; omega) fun h' x eb hx' => ?_)
    obtain ⟨o, ho, hc'⟩ := hx'
    refine wpAny_bind (wpAny_isInstance (T := "StopIteration") (b := true) ⟨o, ho, hc'⟩ isSubtype_stop ?_)
    exact wpAny_pure ⟨rfl, I.turned (t' := s.toks) (fun b o hb q => eb b o hb q) f0 f1 f3 f4 f5⟩
  self := fun A i s Q E st h => let ⟨⟨_, he⟩, _⟩ := st; wpAny_pyIter_enum he h
def iEnumA (K : PySem.W.Frag) (ta : TA) : TI := fun σ H R => ta σ H fun vs H1 => ∃ a xs, vs = [.ref a] ∧ ((SqL K H1 a xs ∧ R (Ite K a) H1) ∨ (SqT K H1 a xs ∧ R (IteT K a) H1))
theorem pi_enumA {X : Cx} {e : Expr} {ta : TA} {p pos tpos : Pos} {elts : List Expr} {kk : Nat} (hg : Gl X "enumerate") (hm : X.mg "enumerate" = none) (ha : PA X [e] ta) (hs : starEach [e] X.env = [(false, eval e X.env)] := by rfl) :
    PI X (.Tuple elts kk tpos) (.Call (.Name "enumerate" p) [e] [] pos) (iEnumA X.K ta) := by
  refine ⟨fun pins s σ H R I h => ?_⟩
  refine Call_ (ld_blt I hg hm boot_enumerate (PyProof.Rows.callWith_type1 (thn (ha.run pos pins s σ H _ I h) fun us s1 ⟨vs, H1, I1, r1, q1⟩ => ?_) hs rfl))
  obtain ⟨a, xs, ex, q1⟩ := q1
  subst ex
  cases r1 with
  | cons r rr =>
    cases rr
    cases r
    have fp : ∀ b ∈ [s1.heap.objs.size + 1, s1.heap.objs.size], FpOk X pins H1 b := fun b hb => by
      have e' : b = s1.heap.objs.size + 1 ∨ b = s1.heap.objs.size := by simpa using hb
      have hle : s1.heap.objs.size ≤ b := by
        rcases e' with z | z
        · rw [z]; exact Nat.le_add_right _ _
        · rw [z]; exact Nat.le_refl _
      exact I1.fpOk hle (I1.hok.fresh hle)
    rcases q1 with ⟨hq, q⟩ | ⟨hq, q⟩
    · obtain ⟨its, rv, p', hz⟩ := I1.list hq
      refine call_enumerate_list p'.isList fun h' he hit hsz hk => wpAny_pyIter_enum he ?_
      have I2 : Inv X pins σ H1 { s1 with heap := h' } := I1.kept (t' := s1.toks) hk
      exact ⟨s1.heap.objs.size + 1, [s1.heap.objs.size + 1, s1.heap.objs.size], _, _, H1, rfl, I2, turn_enum a (s1.heap.objs.size + 1) s1.heap.objs.size, ⟨⟨.none, he⟩, hit, Nat.succ_ne_self _⟩, fp, q⟩
    · obtain ⟨its, rv, p', hz⟩ := I1.tuple hq
      have la : a < s1.heap.objs.size := by obtain ⟨o, ho, _⟩ := id p'; exact Heap.lt_size ho
      refine call_enumerate_tup (show s1.heap.IsTuple a its.toArray from p') fun h' he hit hsz hk => wpAny_pyIter_enum he ?_
      have I2 : Inv X pins σ H1 { s1 with heap := h' } := I1.kept (t' := s1.toks) hk
      exact ⟨s1.heap.objs.size + 1, [s1.heap.objs.size + 1, s1.heap.objs.size], _, _, H1, rfl, I2, turn_enumT a (s1.heap.objs.size + 1) s1.heap.objs.size, ⟨⟨.none, he⟩, hit, Nat.succ_ne_self _, Nat.ne_of_lt la, Nat.ne_of_lt (Nat.lt_succ_of_lt la)⟩, fp, q⟩
end Ny

set_option maxHeartbeats 2000000
/-! Ny: what is walked, as code; list comprehensions. -/
namespace Ny
open PySem PySem.Spec PyProof.Rows L2

/-! ### what is walked, as code -/
def RelIn (K : PySem.W.Frag) (c : Bool) : RelT V D := match c with
  | true => lf (RdC K)
  | false => lf (Rd K)
section
variable {XA : Nat → Option Addr} {T : Tab} {C : Call} {k : Nat} {ck : Ck} {sc : Scope} {X : Cx} {W : WX}
variable {e a b c : Expr} {ma mb mc : Env → R D} {pos : Pos} {es : List Expr} {ms : Env → R (List D)} {tg : Expr}
theorem mset_sub {ρ : Rho} {F : Addr → Prop} {c : Bool} (hs : ∀ a, ρ.has a → F a) : ∀ a, mset c ρ F a → F a := by
  cases c
  · exact fun _ h => h
  · exact hs
theorem mset_not {ρ : Rho} {F : Addr → Prop} {c : Bool} {a : Addr} (hs : ∀ a, ρ.has a → F a) (h : ¬ F a) : ¬ mset c ρ F a := fun m => h (mset_sub hs a m)
theorem seq_it {K : PySem.W.Frag} {ρ : Rho} {F : Addr → Prop} {H : Hp} {h : Hs} {c : Bool} {x : V} {d : D} {xs : List D} (w : Wd K ρ F H h) (q : RelIn K c ρ F H h x d) (e : itemsV d = some xs) :
    (∃ a, x = .ref a ∧ (∃ xs, SqL K H a xs) ∧ ItR K ρ F (mset c ρ F) H (Itl K a) xs) ∨ (∃ a, x = .ref a ∧ (∃ xs, SqT K H a xs) ∧ ItR K ρ F (mset c ρ F) H (Itt K a) xs) ∨ ∃ y, x = .str y ∧ ItR K ρ F (mset c ρ F) H (Its y) xs := by
  have base : ∀ {x : V} {d : D} {xs : List D}, itemsV d = some xs → Rd K ρ F H x d → (∃ a, x = .ref a ∧ (∃ xs, SqL K H a xs) ∧ ItR K ρ F (mset c ρ F) H (Itl K a) xs) ∨ (∃ a, x = .ref a ∧ (∃ xs, SqT K H a xs) ∧ ItR K ρ F (mset c ρ F) H (Itt K a) xs) ∨ ∃ y, x = .str y ∧ ItR K ρ F (mset c ρ F) H (Its y) xs := fun {x d xs} e r => by
    cases r with
    | tup t r =>
      cases e
      refine .inr (.inl ⟨_, rfl, ⟨_, t.sq⟩, ItR.tup (mset_sub w.sub) (fun H' k => ?_) r⟩)
      exact sqT_keep t.sq (mset_not w.sub t.2) k
    | lst t r =>
      cases e
      exact .inl ⟨_, rfl, ⟨_, t.sq⟩, ItR.list (mset_sub w.sub) (fun H' k => sqL_keep t.sq (mset_not w.sub t.2) k) r⟩
    | ro t r =>
      cases e
      refine .inl ⟨_, rfl, ⟨_, t.sq⟩, ItR.list (mset_sub w.sub) (fun H' k => ?_) r⟩
      rcases t with ⟨t, n⟩ | t
      · exact sqL_keep (.inl t) (mset_not w.sub n) k
      · exact .inr t
    | str y =>
      have e : (if Nat.ble y.length sizeLine then some (y.cps.toList.map fun c => D.str ⟨#[c]⟩) else none) = some xs := e
      split at e <;> cases e
      exact .inr (.inr ⟨_, rfl, ItR.str⟩)
    | non => cases e
    | bl => cases e
    | int => cases e
    | obj => cases e
    | dT => cases e
    | dK => cases e
  cases c with
  | false => exact base e q
  | true =>
    have q : RdC K ρ F H x d := q
    cases q with
    | rd r => exact base e r
    | own n c =>
      cases d with
      | lst ys =>
        cases e
        obtain ⟨vs, e1, r⟩ := c
        exact .inl ⟨_, rfl, ⟨_, .of e1⟩, ItR.list w.sub (fun H' k => sqL_keep (.of e1) n k) r⟩
      | dct tk kvs => cases e
      | _ => exact c.elim
theorem s_seq {c : Bool} (he : PE X e (tG X.K XA W (RelIn X.K c) ma)) : PI X tg e (tG X.K XA W (RelI X.K c) fun E => R.bind (ma E) itemsVR) := by
  refine PI.imp (pi_any he) fun σ H Q ⟨ρ, F, h, E, w, r, po⟩ => ?_
  refine tG_mono (st1 w r po) fun x H1 ⟨ρ1, F1, h1, d1, x1, e1, w1, r1, q1, po1⟩ => ?_
  obtain ⟨xs, e, po1⟩ := Po.opt po1
  rcases seq_it w1 q1 e with ⟨a, h1, h2, h3⟩ | ⟨a, h1, h2, h3⟩ | ⟨y, h1, h3⟩
  · exact .inl ⟨a, h1, h2, Po.now (a := xs) po1 w1 h3⟩
  · exact .inr (.inl ⟨a, h1, h2, Po.now (a := xs) po1 w1 h3⟩)
  · exact .inr (.inr ⟨y, h1, Po.now (a := xs) po1 w1 h3⟩)
theorem rng_of {K : PySem.W.Frag} {W : XK} {ρ : Rho} {F : Addr → Prop} {H : Hp} {h : Hs} {Rel : RelT It (List D)} {Q : It → Hp → Prop} {i j : Int} (po : Po K XA W ρ F H (rngR (.int i) (.int j) h) Rel Q) :
    (-(2 ^ 62) ≤ i ∧ i < 2 ^ 62 ∧ -(2 ^ 62) ≤ j ∧ j < 2 ^ 62) ∧ Po K XA W ρ F H (R.pure (rngD i (j - i).toNat) h) Rel Q := by
  obtain ⟨c, po⟩ := Po.need po
  simp only [Bool.and_eq_true, decide_eq_true_eq] at c
  exact ⟨c, po⟩
theorem s_rng1 (g : Good XA T C k ck sc X) {c : Bool} {pn : Pos} (h : bltB ck sc "range" = true) (hs : notStar a = true) (ha : PE X a (tG X.K XA W (lf (Rd X.K)) ma)) :
    PI X tg (.Call (.Name "range" pn) [a] [] pos) (tG X.K XA W (RelI X.K c) fun E => R.bind (ma E) fun x => rngR (.int 0) x) := by
  obtain ⟨gl, db, nn, hm⟩ := blt_of g.toGoodQ h
  refine PI.imp (pi_range1 gl hm (pa_cons ha pa_nil (star_of hs)) (star_of hs)) fun σ H Q ⟨ρ, F, h, E, w, r, po⟩ => ?_
  refine tG_mono (st1 w r po) fun x H1 ⟨ρ1, F1, h1, d1, x1, e1, w1, r1, q1, po1⟩ => ?_
  cases d1 with
  | int j =>
    cases q1
    obtain ⟨hb, po1⟩ := rng_of po1
    refine ⟨j, rfl, hb.2.2.1, hb.2.2.2, Po.now (a := rngD 0 (j - 0).toNat) po1 w1 ?_⟩
    have e : (j - 0).toNat = j.toNat := by rw [Int.sub_zero]
    rw [e]
    exact ItR.rng
  | _ => exact po1.elim
theorem s_rng2 (g : Good XA T C k ck sc X) {c : Bool} {pn : Pos} (h : bltB ck sc "range" = true) (hs : notStar a = true) (hs2 : notStar b = true) (ha : PE X a (tG X.K XA W (lf (Rd X.K)) ma)) (hb : PE X b (tG X.K XA W (lf (Rd X.K)) mb)) :
    PI X tg (.Call (.Name "range" pn) [a, b] [] pos) (tG X.K XA W (RelI X.K c) fun E => R.bind (ma E) fun x => R.bind (mb E) fun y => rngR x y) := by
  obtain ⟨gl, db, nn, hm⟩ := blt_of g.toGoodQ h
  refine PI.imp (pi_range2 gl hm (pa_cons ha (pa_cons hb pa_nil (star_of hs2)) (star_of hs)) (by rw [star_of hs, star_of hs2]; rfl) (star_of hs2)) fun σ H Q ⟨ρ, F, h, E, w, r, po⟩ => ?_
  refine tG_mono (st1 w r po) fun x H1 ⟨ρ1, F1, h1, d1, x1, e1, w1, r1, q1, po1⟩ => ?_
  refine tG_mono (st1 w1 r1 po1) fun y H2 ⟨ρ2, F2, h2, d2, x2, e2, w2, r2, q2, po2⟩ => ?_
  cases d1 with
  | int i =>
    cases d2 with
    | int j =>
      cases q1
      cases q2
      obtain ⟨hb, po2⟩ := rng_of po2
      exact ⟨i, j, rfl, hb, Po.now (a := rngD i (j - i).toNat) po2 w2 ItR.rng⟩
    | _ => exact po2.elim
  | _ => exact po2.elim
end

/-! ### moves of worlds and frames -/
section
variable {K : PySem.W.Frag} {XA : Nat → Option Addr} {ρ ρ' : Rho} {F F' : Addr → Prop} {H H' : Hp} {h : Hs} {E : Env} {σ : L2.St}
theorem MOk.less {a : Addr} {m : MO} (x : MOk K ρ F H a m) (hf : ∀ a, F' a → F a) : MOk K ρ F' H a m := x.mv (fun _ _ e => e) (fun a _ q => hf a q) (fun _ _ _ e => e) fun _ e => e
theorem Wd.less (w : Wd K ρ F H h) (hf : ∀ a, F' a → F a) (hs : ∀ a, ρ.has a → F' a) : Wd K ρ F' H h :=
  ⟨w.fin, w.inj, fun n o e => let ⟨a, ea, m⟩ := w.obj n o e; ⟨a, ea, m.less hf⟩, hs, fun a f => w.trk a (hf a f), w.bs, fun a vs f => w.nt a vs (hf a f)⟩
theorem live_ext (kp : ∀ a o, H a = some o → H' a = some o) {a : Addr} (n : H a ≠ none) : H' a ≠ none := by
  cases e : H a with
  | none => exact absurd e n
  | some o => rw [kp a o e]; simp
theorem Wd.ext (w : Wd K ρ F H h) (kp : ∀ a o, H a = some o → H' a = some o) : Wd K ρ F H' h := by
  refine ⟨w.fin, w.inj, fun n m e => ?_, w.sub, fun a f => ?_, fun a f => live_ext kp (w.bs a f), fun a vs f => ?_⟩
  · obtain ⟨a, ea, mo⟩ := w.obj n m e
    exact ⟨a, ea, mo.mv (fun _ _ e => e) (fun a _ q => q) (fun a o _ e => kp a o e) (fun o e => kp a o e)⟩
  · have := w.trk a f
    cases e : H a with
    | none => exact absurd e this
    | some o' => rw [kp a o' e]; simp
  · have := w.trk a f
    cases e : H a with
    | none => exact absurd e this
    | some o' =>
      rw [kp a o' e, ← e]
      exact w.nt a vs f
/-- what is none of the objects is turned -/
theorem Wd.turn {a : Addr} {o : HO} (w : Wd K ρ F H h) (n : ¬ ρ.has a) (f : F a) (ho : ∀ vs, o ≠ .tup vs) : Wd K ρ F (upd H a o) h := by
  refine ⟨w.fin, w.inj, fun m q e => ?_, w.sub, fun b fb => ?_, fun b fb => live_new (w.bs b fb), fun b vs fb => ?_⟩
  · obtain ⟨b, eb, mo⟩ := w.obj m q e
    have hne : b ≠ a := fun z => n ⟨m, by rw [← z]; exact eb⟩
    exact ⟨b, eb, mo.mv (fun _ _ e => e) (fun a _ q => q) (fun c o' nc e => by rw [upd_ne (fun z => nc (by rw [z]; exact f))]; exact e) fun o' e => by rw [upd_ne hne]; exact e⟩
  · by_cases e : b = a
    · subst e; rw [upd_same]; simp
    · rw [upd_ne e]; exact w.trk b fb
  · by_cases e : b = a
    · subst e; rw [upd_same]; exact fun z => ho vs (Option.some.inj z)
    · rw [upd_ne e]; exact w.nt b vs fb
theorem EnvR.mv (r : EnvR K XA ρ F H E σ) (hs : ∀ a, ρ.has a → F a) (hr : ∀ n a, ρ n = some a → ρ' n = some a) (hn : ∀ a, ρ'.has a → ρ.has a ∨ H a = none) (hf : ∀ a, H a ≠ none → F' a → F a) (hf2 : ∀ a, F a → F' a)
    (hk : ∀ a o, ¬ ρ.has a → H a = some o → H' a = some o) : EnvR K XA ρ' F' H' E σ := by
  have hk' : ∀ a o, ¬ F a → H a = some o → H' a = some o := fun a o n e => hk a o (fun q => n (hs a q)) e
  refine ⟨r.len, fun i s v h1 h2 => ?_, r.inj⟩
  have q := r.at_ i s v h1 h2
  cases s with
  | no => trivial
  | exn e => cases v <;> trivial
  | val d =>
    cases v with
    | none => exact q.elim
    | some v => exact Rd.mv hr hf hk' (show Rd K ρ F H v d from q)
  | own d =>
    cases v with
    | none => exact q.elim
    | some v =>
      obtain ⟨a, e1, f, n, c⟩ := q
      exact ⟨a, e1, hf2 a f, (fun z => (hn _ z).elim n fun z => absurd z c.some), c.mv hr hf hk' fun o e => hk _ _ n e⟩
theorem EnvR.ext (r : EnvR K XA ρ F H E σ) (hs : ∀ a, ρ.has a → F a) (kp : ∀ a o, H a = some o → H' a = some o) : EnvR K XA ρ F H' E σ :=
  r.mv hs (fun _ _ e => e) (fun _ q => .inl q) (fun _ _ q => q) (fun _ q => q) fun a o _ e => kp a o e
theorem EnvR.setNo (r : EnvR K XA ρ F H E σ) {i : Nat} {v : Option V} : EnvR K XA ρ F H (E.set i .no) (σ.set i v) := by
  refine ⟨by rw [List.length_set, List.length_set]; exact r.len, fun j s u h1 h2 => ?_, fun j l d1 d2 a h1 h2 h3 h4 => ?_⟩
  · by_cases e : i = j
    · subst e
      have hl : i < E.length := by
        have := (List.getElem?_eq_some_iff.mp h1).1
        rwa [List.length_set] at this
      rw [List.getElem?_set_self hl] at h1
      cases h1
      trivial
    · rw [List.getElem?_set_ne e] at h1 h2
      exact r.at_ j s u h1 h2
  · have f : ∀ {j : Nat} {d1 : D}, (E.set i .no)[j]? = some (.own d1) → i ≠ j ∧ E[j]? = some (.own d1) := fun {j d1} h => by
      by_cases e : i = j
      · subst e
        have hl : i < E.length := by
          have := (List.getElem?_eq_some_iff.mp h).1
          rwa [List.length_set] at this
        rw [List.getElem?_set_self hl] at h
        cases h
      · rw [List.getElem?_set_ne e] at h
        exact ⟨e, h⟩
    obtain ⟨n1, g1⟩ := f h1
    obtain ⟨n2, g2⟩ := f h2
    rw [List.getElem?_set_ne n1] at h3
    rw [List.getElem?_set_ne n2] at h4
    exact r.inj j l d1 d2 a g1 g2 h3 h4
theorem EnvR.wipe (r : EnvR K XA ρ F H E σ) : ∀ (vs : List Nat), EnvR K XA ρ F H (wipeE E vs) (L2.wipe σ vs)
  | [] => r
  | v :: vs => (EnvR.wipe r vs).setNo
theorem wipe_idem {σ : L2.St} : ∀ {vs us : List Nat}, (∀ v ∈ vs, v ∈ us) → L2.wipe (L2.wipe σ vs) us = L2.wipe σ us
  | [], _, _ => rfl
  | v :: vs, us, h => by
    show L2.wipe ((L2.wipe σ vs).set v none) us = _
    rw [wipe_set (h v (by simp)), wipe_idem fun v hv => h v (by simp [hv])]
end

/-! ### [elt for target in iter if cond] -/
def RelO (K : PySem.W.Frag) : RelT (Option V) (Option D) := fun ρ F H _ v d => match v, d with
  | some v, some d => Rd K ρ F H v d
  | none, none => True
  | _, _ => False
abbrev WF : WX := fun _ _ _ _ => False
theorem lcR_ok {f : D → R (Option D)} : ∀ {xs : List D} {h : Hs}, lcR f xs h ≠ .bad → ∃ r h', lcR f xs h = .ok r h'
  | [], h, _ => ⟨[], h, rfl⟩
  | x :: xs, h, n => by
    have e : lcR f (x :: xs) h = R.bind (R.nox (f x)) (fun o => R.bind (lcR f xs) fun r => R.pure (match o with
      | some d => d :: r
      | none => r)) h := rfl
    unfold R.bind R.nox at e
    cases e1 : f x h with
    | ok o h1 =>
      simp only [e1] at e
      cases e2 : lcR f xs h1 with
      | ok r h2 =>
        simp only [e2] at e
        exact ⟨_, _, e⟩
      | exc ex h2 =>
        exfalso
        obtain ⟨r, h', z⟩ := lcR_ok (f := f) (xs := xs) (h := h1) (by rw [e2]; intro z; cases z)
        rw [e2] at z
        cases z
      | bad =>
        simp only [e2] at e
        exact absurd e n
    | exc ex h1 =>
      simp only [e1] at e
      exact absurd e n
    | bad =>
      simp only [e1] at e
      exact absurd e n
theorem lcR_cons {f : D → R (Option D)} {x : D} {xs : List D} {h h' : Hs} {r : List D} (e : lcR f (x :: xs) h = .ok r h') : ∃ o h1 r', f x h = .ok o h1 ∧ lcR f xs h1 = .ok r' h' ∧ r = (match o with
    | some d => d :: r'
    | none => r') := by
  have e0 : lcR f (x :: xs) h = R.bind (R.nox (f x)) (fun o => R.bind (lcR f xs) fun r => R.pure (match o with
      | some d => d :: r
      | none => r)) h := rfl
  rw [e0] at e
  unfold R.bind R.nox at e
  cases e1 : f x h with
  | ok o h1 =>
    simp only [e1] at e
    cases e2 : lcR f xs h1 with
    | ok r2 h2 =>
      simp only [e2] at e
      cases e
      exact ⟨o, h1, r2, rfl, e2, rfl⟩
    | exc ex h2 => simp only [e2] at e; cases e
    | bad => simp only [e2] at e; cases e
  | exc ex h1 => simp only [e1] at e; cases e
  | bad => simp only [e1] at e; cases e
section
variable {XA : Nat → Option Addr} {T : Tab} {C : Call} {k : Nat} {ck : Ck} {sc : Scope} {X : Cx} {W : WX}
theorem lc_imp {K : PySem.W.Frag} {ow : List Nat} {t : NT} {mi : Env → R (List D)} {mc me : Env → R D} (hti : ntIn t ow = true) (σ : L2.St) (H : Hp) (Q : VK)
    (hq : tG K XA W (RdG K) (fun E => R.bind (mi E) fun xs => R.bind (lcR (fun x => bindR t x (wipeE E ow) fun E' => R.bind (mc E') fun d => iteR d (R.bind (me E') fun y => R.pure (some y)) (R.pure none)) xs) mkLst) σ H Q) :
    tLc (tG K XA W (RelI K true) mi) (gT K XA t) (tG K XA WF RelTB mc) (tG K XA WF (lf (Rd K)) me) ow σ H Q := by
  obtain ⟨ρ, F, h, E, w, r, po⟩ := hq
  refine tG_mono (st1 w r po) fun J H1 ⟨ρ1, F1, h1, xs, x1, e1, w1, r1, q1, po1⟩ => ?_
  intro D0 hD
  generalize hf : (fun x => bindR t x (wipeE E ow) fun E' => R.bind (mc E') fun d => iteR d (R.bind (me E') fun y => R.pure (some y)) (R.pure none)) = f at po1
  have hnb : lcR f xs h1 ≠ .bad := fun z => by
    unfold R.bind at po1
    rw [z] at po1
    exact po1
  obtain ⟨all, hE, eall⟩ := lcR_ok hnb
  have po2 : Po K XA (fun c d H' => W c d σ H') ρ1 F1 H1 (mkLst all hE) (RdG K) Q := by
    unfold R.bind at po1
    rw [eall] at po1
    exact po1
  obtain ⟨hbig, po2⟩ := Po.need po2
  have hbig := big_of hbig
  have hFD : ¬ F1 D0 := fun z => w1.trk D0 z hD
  have hρD : ¬ ρ1.has D0 := fun z => hFD (w1.sub D0 z)
  -- the invariant
  let Fb : Rho → Addr → Prop := fun ρ' b => orR F1 ρ' b ∨ b = D0
  let Iv : Nat → Hp → Prop := fun i H' => ∃ ρ' h' acc accD rest, Xt ρ1 H1 ρ' H' ∧ ¬ ρ'.has D0 ∧ H' D0 = some (.lst acc) ∧ Wd K ρ' (Fb ρ') H' h' ∧ Rds K ρ' (Fb ρ') H' acc accD ∧ lcR f (xs.drop i) h' = .ok rest hE ∧ accD ++ rest = all
  refine ⟨fun i m H' => m = xs.length - i ∧ i ≤ xs.length ∧ Iv i H', ⟨xs.length, by simp, Nat.zero_le _, ρ1, h1, [], [], all, xt_new hD, hρD, upd_same, ?_, .nil, eall, rfl⟩, ?_⟩
  · have w2 := w1.upd_new (o := .lst []) hD
    refine ⟨w2.fin, w2.inj, fun n o e => ?_, fun a q => .inl (.inr q), fun a q => ?_, w2.bs, fun a vs q => ?_⟩
    · obtain ⟨a, ea, mo⟩ := w1.obj n o e
      refine ⟨a, ea, mo.mv (fun _ _ e => e) (fun b hb q => ?_) (fun b o' _ e => ?_) fun o' e => ?_⟩
      · rcases q with (q | q) | q
        · exact q
        · exact w1.sub b q
        · rw [q] at hb; exact absurd hD hb
      · rw [upd_ne (fun z => by rw [z, hD] at e; cases e)]; exact e
      · rw [upd_ne (fun z => by rw [z, hD] at e; cases e)]; exact e
    · rcases q with (q | q) | q
      · exact w2.trk a q
      · exact w2.trk a (w1.sub a q)
      · rw [q, upd_same]; simp
    · rcases q with (q | q) | q
      · exact w2.nt a vs q
      · exact w2.nt a vs (w1.sub a q)
      · rw [q, upd_same]; intro z; cases z
  rintro i m H' ⟨rfl, hil, ρ', h', acc, accD, rest, xt, nD, eD, wd, rs, el, ea⟩
  by_cases hlt : i < xs.length
  · -- a turn
    have hd : xs[i]? = some xs[i] := List.getElem?_eq_getElem hlt
    rw [List.drop_eq_getElem_cons hlt] at el
    obtain ⟨o, h2, rest', ef, el2, er⟩ := lcR_cons el
    have hfF : ∀ a, H1 a ≠ none → Fb ρ' a → F1 a := fun a n q => by
      rcases q with (q | q) | q
      · exact q
      · exact (xt.new a q).elim (w1.sub a) fun z => absurd z n
      · rw [q] at n; exact absurd hD n
    obtain ⟨hgo, hy⟩ := q1.go i xs[i] ρ' (Fb ρ') H' hd xt.rho hfF (fun a q => wd.trk a q) fun a o n e => xt.keep a o n e
    refine .inr ⟨hgo, Iv (i + 1), fun H'' iv => ⟨xs.length - (i + 1), by omega, rfl, hlt, iv⟩, fun x H2 y => ?_⟩
    obtain ⟨kp, rx⟩ := hy x H2 y
    have w2 : Wd K ρ' (Fb ρ') H2 h' := wd.ext kp
    have rE : EnvR K XA ρ' (Fb ρ') H2 (wipeE E ow) (L2.wipe σ ow) := by
      have z : EnvR K XA ρ' (Fb ρ') H' E σ := r1.mv w1.sub xt.rho xt.new hfF (fun a q => .inl (.inl q)) xt.keep
      exact (z.ext wd.sub kp).wipe ow
    subst hf
    have ef : bindR t xs[i] (wipeE E ow) (fun E' => R.bind (mc E') fun d => iteR d (R.bind (me E') fun y => R.pure (some y)) (R.pure none)) h' = .ok o h2 := ef
    unfold bindR at ef
    cases eb : bindT t xs[i] (wipeE E ow) with
    | none => rw [eb] at ef; cases ef
    | some E1 =>
      rw [eb] at ef
      have ef : R.bind (mc E1) (fun d => iteR d (R.bind (me E1) fun y => R.pure (some y)) (R.pure none)) h' = .ok o h2 := ef
      refine ⟨ρ', Fb ρ', wipeE E ow, xs[i], E1, rx, rE, eb, fun σ2 r2 sh => ⟨?_, ?_⟩⟩
      · rw [sh ow hti, wipe_idem fun _ h => h]
      have po3 : Po K XA (fun c d H' => WF c d σ2 H') ρ' (Fb ρ') H2 (R.bind (mc E1) (fun d => iteR d (R.bind (me E1) fun y => R.pure (some y)) (R.pure none)) h') (RelO K)
          (fun ov H4 => ∃ ρ4, Xt ρ' H2 ρ4 H4 ∧ Wd K ρ4 (orR (Fb ρ') ρ4) H4 h2 ∧ RelO K ρ4 (orR (Fb ρ') ρ4) H4 h2 ov o) := by
        rw [ef]
        exact fun b ρ4 H4 x w r => ⟨ρ4, x, w, r⟩
      -- behind a turn
      have fin : ∀ {ρ4 : Rho} {H4 : Hp} {more : List V} {moreD : List D}, Xt ρ' H2 ρ4 H4 → Wd K ρ4 (orR (Fb ρ') ρ4) H4 h2 → Rds K ρ4 (orR (Fb ρ') ρ4) H4 more moreD → rest = moreD ++ rest' → H4 D0 = some (.lst acc) ∧ Iv (i + 1) (upd H4 D0 (.lst (acc ++ more))) ∧
          (more = [] → Iv (i + 1) H4) := fun {ρ4 H4 more moreD} x4 w4 rm em => by
        have eD2 : H2 D0 = some (.lst acc) := kp _ _ eD
        have eD4 : H4 D0 = some (.lst acc) := x4.keep _ _ nD eD2
        have nD4 : ¬ ρ4.has D0 := fun z => (x4.new _ z).elim nD fun z => by rw [eD2] at z; cases z
        have xe : Xt ρ' H' ρ' H2 := ⟨fun _ _ e => e, rfl, fun _ q => .inl q, fun a o _ e => kp a o e⟩
        have x5 : Xt ρ1 H1 ρ4 H4 := (xt.trans xe).trans x4
        have hF : ∀ a, Fb ρ4 a → orR (Fb ρ') ρ4 a := fun a q => by
          rcases q with (q | q) | q
          · exact .inl (.inl (.inl q))
          · exact .inr q
          · exact .inl (.inr q)
        have hF2 : ∀ a, orR (Fb ρ') ρ4 a → Fb ρ4 a := fun a q => by
          rcases q with ((q | q) | q) | q
          · exact .inl (.inl q)
          · exact .inl (.inr (Rho.has_mono x4.rho q))
          · exact .inr q
          · exact .inl (.inr q)
        have w5 : Wd K ρ4 (Fb ρ4) H4 h2 := w4.less hF fun a q => .inl (.inr q)
        have rs2 : Rds K ρ4 (Fb ρ4) H4 acc accD := by
          have z : Rds K ρ' (Fb ρ') H2 acc accD := rs.mv (fun _ _ e => e) (fun _ _ q => q) fun a o _ e => kp a o e
          exact (z.xt x4 w2.sub).less hF
        have all2 : (accD ++ moreD) ++ rest' = all := by
          rw [List.append_assoc, ← em]
          exact ea
        refine ⟨eD4, ⟨ρ4, h2, acc ++ more, accD ++ moreD, rest', ?_, nD4, upd_same, w5.turn nD4 (.inr rfl) (fun _ z => (by cases z)), ?_, el2, all2⟩, fun hm => ?_⟩
        · refine ⟨x5.rho, x5.bs, x5.new, fun a o n e => ?_⟩
          rw [upd_ne (fun z => by rw [z, hD] at e; cases e)]
          exact x5.keep a o n e
        · refine (rs2.append (rm.less hF)).mv (fun _ _ e => e) (fun _ _ q => q) fun a o n e => ?_
          rw [upd_ne (fun z => n (.inr z))]
          exact e
        · subst hm
          have em2 : moreD = [] := by
            have := rm.length
            cases moreD with
            | nil => rfl
            | cons => simp at this
          subst em2
          exact ⟨ρ4, h2, acc, accD, rest', x5, nD4, eD4, w5, rs2, el2, by rw [List.append_nil] at all2; exact all2⟩
      refine tG_mono (st1 (Rel1 := RelTB) w2 r2 po3) fun b H3 ⟨ρ3, F3, h3, d3, x3, e3, w3, r3, q3, po4⟩ => ?_
      have q3 : d3 = .bl b := q3
      subst q3
      cases b with
      | false =>
        rw [if_neg Bool.false_ne_true]
        have po4 : Po K XA _ ρ3 F3 H3 (R.pure none h3) (RelO K) _ := po4
        obtain ⟨ρ4, x4, w4, q4⟩ := Po.now (b := none) po4 w3 trivial
        have eo : o = none := by
          cases o with
          | none => rfl
          | some d => exact q4.elim
        subst eo
        exact (fin x4 w4 (more := []) (moreD := []) .nil (by simpa using er)).2.2 rfl
      | true =>
        rw [if_pos rfl]
        have po4 : Po K XA _ ρ3 F3 H3 (R.bind (me E1) (fun y => R.pure (some y)) h3) (RelO K) _ := po4
        refine tG_mono (st1 (Rel1 := lf (Rd K)) w3 r3 po4) fun v H4 ⟨ρ5, F5, h5, d5, x5, e5, w5, r5, q5, po5⟩ => ?_
        obtain ⟨ρ4, x4, w4, q4⟩ := Po.now (b := some v) po5 w5 q5
        cases o with
        | none => exact q4.elim
        | some d =>
          have q4 : Rd K ρ4 (orR (Fb ρ') ρ4) H4 v d := q4
          have z := fin x4 w4 (more := [v]) (moreD := [d]) (.cons q4 .nil) (by simpa using er)
          refine ⟨acc, z.1, ?_, z.2.1⟩
          have l1 := congrArg List.length ea
          rw [List.length_append, er] at l1
          have l2 := rs.length
          simp only [List.length_cons] at l1
          omega
  · have e : i = xs.length := by omega
    subst e
    refine .inl ⟨q1.stop _ H' (Nat.le_refl _) fun a o n e => xt.keep a o n e, ?_⟩
    rw [List.drop_length] at el
    have el : (Out.ok ([] : List D) h') = .ok rest hE := el
    cases el
    rw [List.append_nil] at ea
    subst ea
    have nF : ¬ orR F1 ρ' D0 := fun z => z.elim hFD nD
    exact po2 (.ref D0) ρ' H' xt (wd.less (fun _ q => .inl q) fun a q => .inr q) (.new (.lst eD nF rs) wd fun z => w1.bs D0 (xt.bs ▸ z) hD)
theorem s_lc {elt tg iter : Expr} {ifs : List Expr} {scope : Scope} {own : List (Str × Nat)} {ow : List Nat} {pos : Pos} {t : NT} {mi : Env → R (List D)} {mc me : Env → R D} (hc : X.calm = true) (hN : X.N.Nodup)
    (hi : PI X tg iter (tG X.K XA W (RelI X.K true) mi)) (ok : BlkOk X.N X.env.scope scope own) (how : own.map (·.2) = ow) (hti : ntIn t ow = true)
    (hg : ∀ (s : Shared) (H : Hp) (C : Addr) (cl : List (Str × Addr)) (fp : List Addr), PG (X.blk s H scope (compEnvC scope cl C X.env) fp) tg (gT X.K XA t))
    (ht : ∀ (s : Shared) (H : Hp) (C : Addr) (cl : List (Str × Addr)) (fp : List Addr), PTs (X.blk s H scope (compEnvC scope cl C X.env) fp) ifs (tG X.K XA WF RelTB mc))
    (he : ∀ (s : Shared) (H : Hp) (C : Addr) (cl : List (Str × Addr)) (fp : List Addr), PE (X.blk s H scope (compEnvC scope cl C X.env) fp) elt (tG X.K XA WF (lf (Rd X.K)) me)) (hs : ∀ x, foldedSetIterable iter X.env x = pure x) :
    PE X (.ListComp elt [⟨tg, iter, ifs, 0⟩] scope pos) (tG X.K XA W (RdG X.K) fun E => R.bind (mi E) fun xs => R.bind (lcR (fun x => bindR t x (wipeE E ow) fun E' => R.bind (mc E') fun d => iteR d (R.bind (me E') fun y => R.pure (some y)) (R.pure none)) xs) mkLst) := by
  subst how
  exact PE.imp (pe_lc hc hN hi ok hg ht he hs) fun σ H Q q => lc_imp hti σ H Q q
end
end Ny

set_option maxHeartbeats 2000000
/-! Ny: enumerate, zip, as code. -/
namespace Ny
open PySem PySem.Spec PyProof.Rows L2
section
variable {K : PySem.W.Frag} {ρ : Rho} {F M : Addr → Prop} {H : Hp}
theorem enumD_get : ∀ {xs : List D} {lo : Int} {i : Nat} {d : D}, (enumD lo xs)[i]? = some d → ∃ x, xs[i]? = some x ∧ d = .tup [.int (lo + i), x]
  | [], _, _, _, h => by simp [enumD] at h
  | x :: xs, lo, 0, d, h => by
    unfold enumD at h
    rw [List.getElem?_cons_zero] at h
    cases h
    exact ⟨x, rfl, by simp⟩
  | x :: xs, lo, i + 1, d, h => by
    unfold enumD at h
    rw [List.getElem?_cons_succ] at h
    obtain ⟨y, e, h2⟩ := enumD_get h
    refine ⟨y, by rw [List.getElem?_cons_succ]; exact e, ?_⟩
    rw [h2]
    congr 3
    omega
theorem enumD_len : ∀ (xs : List D) (lo : Int), (enumD lo xs).length = xs.length
  | [], _ => rfl
  | x :: xs, lo => by unfold enumD; rw [List.length_cons, List.length_cons, enumD_len xs]
theorem zipD_get : ∀ {xs ys : List D} {i : Nat} {d : D}, (zipD xs ys)[i]? = some d → ∃ x y, xs[i]? = some x ∧ ys[i]? = some y ∧ d = .tup [x, y]
  | [], _, _, _, h => by simp [zipD] at h
  | _ :: _, [], _, _, h => by simp [zipD] at h
  | x :: xs, y :: ys, 0, d, h => by
    unfold zipD at h
    rw [List.getElem?_cons_zero] at h
    cases h
    exact ⟨x, y, rfl, rfl, rfl⟩
  | x :: xs, y :: ys, i + 1, d, h => by
    unfold zipD at h
    rw [List.getElem?_cons_succ] at h
    obtain ⟨a, b, e1, e2, h2⟩ := zipD_get h
    exact ⟨a, b, by rw [List.getElem?_cons_succ]; exact e1, by rw [List.getElem?_cons_succ]; exact e2, h2⟩
theorem zipD_len : ∀ (xs ys : List D), (zipD xs ys).length = min xs.length ys.length
  | [], _ => by simp [zipD]
  | _ :: _, [] => by simp [zipD]
  | x :: xs, y :: ys => by unfold zipD; rw [List.length_cons, List.length_cons, List.length_cons, zipD_len xs ys]; omega
theorem pair_rd {ρ' : Rho} {F' : Addr → Prop} {H' : Hp} {T : Addr} {x y : V} {d e : D} (hT : H' T = none) (hl : ∀ a, F' a → H' a ≠ none) (r1 : Rd K ρ' F' (upd H' T (.tup [x, y])) x d) (r2 : Rd K ρ' F' (upd H' T (.tup [x, y])) y e) :
    Rd K ρ' F' (upd H' T (.tup [x, y])) (.ref T) (.tup [d, e]) := .tup ⟨upd_same, fun z => hl T z hT⟩ (.cons r1 (.cons r2 .nil))
theorem upd_new {H' : Hp} {T : Addr} {o : HO} (hT : H' T = none) : ∀ a o', H' a = some o' → upd H' T o a = some o' := fun a o' e => by
  rw [upd_ne (fun z => by rw [z, hT] at e; cases e)]
  exact e
theorem ItR.enum {J : It} {a : Addr} {vs : List V} {xs : List D} (hM : ∀ a, M a → F a) (r : Rds K ρ F H vs xs)
    (hgo : ∀ i H' v, vs[i]? = some v → (∀ a o, ¬ M a → H a = some o → H' a = some o) → J.go i H' ∧ ∀ x H'', J.yld i H' x H'' → ∃ T, x = .ref T ∧ H' T = none ∧ H'' = upd H' T (.tup [.int (i : Nat), v]))
    (hst : ∀ i H', vs.length ≤ i → (∀ a o, ¬ M a → H a = some o → H' a = some o) → J.stop i H') : ItR K ρ F M H J (enumD 0 xs) where
  go := fun i d ρ' F' H' hd hr hf hl hk => by
    obtain ⟨x0, h0, ed⟩ := enumD_get hd
    subst ed
    obtain ⟨v, hv, rv⟩ := r.get h0
    obtain ⟨g1, g2⟩ := hgo i H' v hv hk
    refine ⟨g1, fun x H'' y => ?_⟩
    obtain ⟨T, e1, hT, e2⟩ := g2 x H'' y
    subst e1 e2
    refine ⟨upd_new hT, ?_⟩
    have e : (0 : Int) + (i : Int) = ((i : Nat) : Int) := by omega
    rw [e]
    exact pair_rd hT hl (.int _) (rv.mv hr hf fun a o n e => upd_new hT a o (hk a o (fun m => n (hM a m)) e))
  stop := fun i H' hi hk => hst i H' (by rw [enumD_len] at hi; rw [r.length]; exact hi) hk
theorem ItR.zip {J : It} {vs us : List V} {xs ys : List D} (hM : ∀ a, M a → F a) (r : Rds K ρ F H vs xs) (q : Rds K ρ F H us ys)
    (hgo : ∀ i H' v u, vs[i]? = some v → us[i]? = some u → (∀ a o, ¬ M a → H a = some o → H' a = some o) → J.go i H' ∧ ∀ x H'', J.yld i H' x H'' → ∃ T, x = .ref T ∧ H' T = none ∧ H'' = upd H' T (.tup [v, u]))
    (hst : ∀ i H', (vs.length ≤ i ∨ us.length ≤ i) → (∀ a o, ¬ M a → H a = some o → H' a = some o) → J.stop i H') : ItR K ρ F M H J (zipD xs ys) where
  go := fun i d ρ' F' H' hd hr hf hl hk => by
    obtain ⟨x0, y0, h0, h1, ed⟩ := zipD_get hd
    subst ed
    obtain ⟨v, hv, rv⟩ := r.get h0
    obtain ⟨u, hu, ru⟩ := q.get h1
    obtain ⟨g1, g2⟩ := hgo i H' v u hv hu hk
    refine ⟨g1, fun x H'' y => ?_⟩
    obtain ⟨T, e1, hT, e2⟩ := g2 x H'' y
    subst e1 e2
    refine ⟨upd_new hT, ?_⟩
    exact pair_rd hT hl (rv.mv hr hf fun a o n e => upd_new hT a o (hk a o (fun m => n (hM a m)) e)) (ru.mv hr hf fun a o n e => upd_new hT a o (hk a o (fun m => n (hM a m)) e))
  stop := fun i H' hi hk => hst i H' (by rw [zipD_len] at hi; rw [r.length, q.length]; omega) hk
/-- a tuple or a list, however the heap is turned meanwhile -/
theorem seqV_at {h : Hs} {c : Bool} {x : V} {d : D} {xs : List D} (w : Wd K ρ F H h) (q : RelIn K c ρ F H h x d) (e : seqV d = some xs) :
    ∃ a vs, x = .ref a ∧ Rds K ρ F H vs xs ∧ ((d = .tup xs ∧ ∀ H', (∀ a o, ¬ mset c ρ F a → H a = some o → H' a = some o) → SqT K H' a vs) ∨ ((∀ ys, d ≠ .tup ys) ∧ ∀ H', (∀ a o, ¬ mset c ρ F a → H a = some o → H' a = some o) → SqL K H' a vs)) := by
  have base : ∀ {x : V} {d : D} {xs : List D}, seqV d = some xs → Rd K ρ F H x d → ∃ a vs, x = .ref a ∧ Rds K ρ F H vs xs ∧ ((d = .tup xs ∧ ∀ H', (∀ a o, ¬ mset c ρ F a → H a = some o → H' a = some o) → SqT K H' a vs) ∨ ((∀ ys, d ≠ .tup ys) ∧ ∀ H', (∀ a o, ¬ mset c ρ F a → H a = some o → H' a = some o) → SqL K H' a vs)) := fun {x d xs} e r => by
    cases r with
    | tup t r =>
      cases e
      refine ⟨_, _, rfl, r, .inl ⟨rfl, fun H' k => ?_⟩⟩
      exact sqT_keep t.sq (mset_not w.sub t.2) k
    | lst t r =>
      cases e
      exact ⟨_, _, rfl, r, .inr ⟨fun ys z => (by cases z), fun H' k => sqL_keep t.sq (mset_not w.sub t.2) k⟩⟩
    | ro t r =>
      cases e
      refine ⟨_, _, rfl, r, .inr ⟨fun ys z => (by cases z), fun H' k => ?_⟩⟩
      rcases t with ⟨t, n⟩ | t
      · exact sqL_keep (.inl t) (mset_not w.sub n) k
      · exact .inr t
    | _ => cases e
  cases c with
  | false => exact base e q
  | true =>
    have q : RdC K ρ F H x d := q
    cases q with
    | rd r => exact base e r
    | own n c =>
      cases d with
      | lst ys =>
        cases e
        obtain ⟨vs, e1, r⟩ := c
        exact ⟨_, _, rfl, r, .inr ⟨fun ys z => (by cases z), fun H' k => sqL_keep (.of e1) n k⟩⟩
      | dct tk kvs => cases e
      | _ => exact c.elim
theorem zipV_of {x y : D} {zs : List D} (h : zipV x y = some zs) : ∃ xs ys, seqV x = some xs ∧ seqV y = some ys ∧ zs = zipD xs ys ∧ ((x = .tup xs ∧ y = .tup ys) ∨ ((∀ ws, x ≠ .tup ws) ∧ ∀ ws, y ≠ .tup ws)) := by
  by_cases hx : ∃ xs, x = .tup xs
  · obtain ⟨xs, rfl⟩ := hx
    cases y with
    | tup ys => cases h; exact ⟨_, _, rfl, rfl, rfl, .inl ⟨rfl, rfl⟩⟩
    | _ => cases h
  · by_cases hy : ∃ ys, y = .tup ys
    · obtain ⟨ys, rfl⟩ := hy
      cases x <;> first
        | exact absurd ⟨_, rfl⟩ hx
        | cases h
    · have h : ((seqV x).bind fun xs => (seqV y).map fun ys => zipD xs ys) = some zs := by
        cases x <;> first
          | exact absurd ⟨_, rfl⟩ hx
          | (cases y <;> first
            | exact absurd ⟨_, rfl⟩ hy
            | exact h)
      cases e1 : seqV x with
      | none => rw [e1] at h; cases h
      | some xs =>
        rw [e1] at h
        cases e2 : seqV y with
        | none => rw [e2] at h; cases h
        | some ys =>
          rw [e2] at h
          cases h
          exact ⟨xs, ys, rfl, rfl, rfl, .inr ⟨fun ws z => hx ⟨ws, z⟩, fun ws z => hy ⟨ws, z⟩⟩⟩
end
section
variable {XA : Nat → Option Addr} {T : Tab} {C : Call} {k : Nat} {ck : Ck} {sc : Scope} {X : Cx} {W : WX}
variable {e a b c : Expr} {ma mb mc : Env → R D} {pos tpos : Pos} {elts : List Expr} {kk : Nat}
theorem s_enum (g : Good XA T C k ck sc X) {c : Bool} {pn : Pos} (h : bltB ck sc "enumerate" = true) (hs : notStar a = true) (ha : PE X a (tG X.K XA W (RelIn X.K c) ma)) :
    PI X (.Tuple elts kk tpos) (.Call (.Name "enumerate" pn) [a] [] pos) (tG X.K XA W (RelI X.K c) fun E => R.bind (ma E) fun d => R.bind (R.ofOpt (seqV d)) fun xs => R.pure (enumD 0 xs)) := by
  obtain ⟨gl, db, nn, hm⟩ := blt_of g.toGoodQ h
  refine PI.imp (pi_enumA gl hm (pa_cons ha pa_nil (star_of hs)) (star_of hs)) fun σ H Q ⟨ρ, F, h, E, w, r, po⟩ => ?_
  refine tG_mono (st1 w r po) fun x H1 ⟨ρ1, F1, h1, d1, x1, e1, w1, r1, q1, po1⟩ => ?_
  cases e : seqV d1 with
  | none => rw [e] at po1; exact po1.elim
  | some xs =>
  rw [e] at po1
  have po1 : Po X.K XA (fun c d H' => W c d σ H') ρ1 F1 H1 (R.pure (enumD 0 xs) h1) (RelI X.K c) Q := po1
  obtain ⟨p, vs, ex, rs, hq⟩ := seqV_at w1 q1 e
  subst ex
  rcases hq with ⟨_, hq⟩ | ⟨_, hq⟩
  · refine ⟨p, vs, rfl, .inr ⟨hq _ fun _ _ _ e => e, Po.now (a := enumD 0 xs) po1 w1 (ItR.enum (a := p) (mset_sub w1.sub) rs (fun i H' v hv hk => ⟨⟨vs, v, hq H' hk, hv⟩, fun x H'' y => ?_⟩) fun i H' hi hk => ⟨vs, hq H' hk, hi⟩)⟩⟩
    obtain ⟨T', x', e1, hT, e2, f⟩ := y
    have := f vs (hq H' hk)
    rw [hv] at this
    cases this
    exact ⟨T', e1, hT, e2⟩
  · refine ⟨p, vs, rfl, .inl ⟨hq _ fun _ _ _ e => e, Po.now (a := enumD 0 xs) po1 w1 (ItR.enum (a := p) (mset_sub w1.sub) rs (fun i H' v hv hk => ⟨⟨vs, v, hq H' hk, hv⟩, fun x H'' y => ?_⟩) fun i H' hi hk => ⟨vs, hq H' hk, hi⟩)⟩⟩
    obtain ⟨T', x', e1, hT, e2, f⟩ := y
    have := f vs (hq H' hk)
    rw [hv] at this
    cases this
    exact ⟨T', e1, hT, e2⟩
theorem RelIn.xt {K : PySem.W.Frag} {c : Bool} {ρ ρ' : Rho} {F : Addr → Prop} {H H' : Hp} {h h' : Hs} {v : V} {d : D} (x : Xt ρ H ρ' H') (hs : ∀ a, ρ.has a → F a) (r : RelIn K c ρ F H h v d) : RelIn K c ρ' (orR F ρ') H' h' v d := by
  cases c with
  | false => exact Rd.xt x hs r
  | true => exact RdC.xt x hs r
theorem s_zip (g : Good XA T C k ck sc X) {c : Bool} {pn : Pos} (h : bltB ck sc "zip" = true) (hs : notStar a = true) (hs2 : notStar b = true) (ha : PE X a (tG X.K XA W (RelIn X.K c) ma)) (hb : PE X b (tG X.K XA W (RelIn X.K c) mb)) :
    PI X (.Tuple elts kk tpos) (.Call (.Name "zip" pn) [a, b] [] pos) (tG X.K XA W (RelI X.K c) fun E => R.bind (ma E) fun x => R.bind (mb E) fun y => R.ofOpt (zipV x y)) := by
  obtain ⟨gl, db, nn, hm⟩ := blt_of g.toGoodQ h
  refine PI.imp (RZ.pi_zipA gl hm (pa_cons ha (pa_cons hb pa_nil (star_of hs2)) (star_of hs)) (star_of hs) (any_of_plain (es := [b]) (by rw [List.all_cons, hs2]; rfl))) fun σ H Q ⟨ρ, F, h, E, w, r, po⟩ => ?_
  refine tG_mono (st1 w r po) fun x H1 ⟨ρ1, F1, h1, d1, x1, e1, w1, r1, q1, po1⟩ => ?_
  refine tG_mono (st1 w1 r1 po1) fun y H2 ⟨ρ2, F2, h2, d2, x2, e2, w2, r2, q2, po2⟩ => ?_
  subst e2
  obtain ⟨zs, e, po2⟩ := Po.opt (o := zipV d1 d2) po2
  obtain ⟨xs, ys, s1, s2, ez, kind⟩ := zipV_of e
  subst ez
  have q1' := RelIn.xt (c := c) (h' := h2) x2 w1.sub q1
  obtain ⟨p, vs, ex, rs, hq⟩ := seqV_at w2 q1' s1
  obtain ⟨p2, us, ey, rs2, hq2⟩ := seqV_at w2 q2 s2
  subst ex ey
  rcases kind with ⟨k1, k2⟩ | ⟨k1, k2⟩
  · have hq : ∀ H', _ → SqT X.K H' p vs := hq.elim (fun z => z.2) fun z => absurd k1 (z.1 _)
    have hq2 : ∀ H', _ → SqT X.K H' p2 us := hq2.elim (fun z => z.2) fun z => absurd k2 (z.1 _)
    refine ⟨p, p2, vs, us, rfl, .inr ⟨hq _ fun _ _ _ e => e, hq2 _ fun _ _ _ e => e, Po.now (a := zipD xs ys) po2 w2 (ItR.zip (mset_sub w2.sub) rs rs2 (fun i H' v u hv hu hk => ⟨⟨vs, us, v, u, hq H' hk, hq2 H' hk, hv, hu⟩, fun x H'' y => ?_⟩) fun i H' hi hk => ⟨vs, us, hq H' hk, hq2 H' hk, hi⟩)⟩⟩
    obtain ⟨T', x', y', e1, hT, e2, f, f2⟩ := y
    have t1 := f vs (hq H' hk)
    have t2 := f2 us (hq2 H' hk)
    rw [hv] at t1
    rw [hu] at t2
    cases t1
    cases t2
    exact ⟨T', e1, hT, e2⟩
  · have hq : ∀ H', _ → SqL X.K H' p vs := hq.elim (fun z => absurd z.1 (k1 _)) fun z => z.2
    have hq2 : ∀ H', _ → SqL X.K H' p2 us := hq2.elim (fun z => absurd z.1 (k2 _)) fun z => z.2
    refine ⟨p, p2, vs, us, rfl, .inl ⟨hq _ fun _ _ _ e => e, hq2 _ fun _ _ _ e => e, Po.now (a := zipD xs ys) po2 w2 (ItR.zip (mset_sub w2.sub) rs rs2 (fun i H' v u hv hu hk => ⟨⟨vs, us, v, u, hq H' hk, hq2 H' hk, hv, hu⟩, fun x H'' y => ?_⟩) fun i H' hi hk => ⟨vs, us, hq H' hk, hq2 H' hk, hi⟩)⟩⟩
    obtain ⟨T', x', y', e1, hT, e2, f, f2⟩ := y
    have t1 := f vs (hq H' hk)
    have t2 := f2 us (hq2 H' hk)
    rw [hv] at t1
    rw [hu] at t2
    cases t1
    cases t2
    exact ⟨T', e1, hT, e2⟩
end
end Ny

set_option maxHeartbeats 4000000
/-! Ny: every expression that the check takes. -/
namespace Ny
open PySem PySem.Spec PyProof.Rows L2

/-- its value, where it is a list, is a new one -/
def freshB : NE → Bool
  | .cst _ => true
  | .tup _ => true
  | .lst _ => true
  | .dct0 _ => true
  | .blt _ _ => true
  | .isi _ _ => true
  | .bin _ _ _ => true
  | .un _ _ => true
  | .cmp _ _ _ => true
  | .cmp2 _ _ _ _ _ => true
  | .inK _ _ _ => true
  | .not _ => true
  | .sl _ _ _ => true
  | .rev _ => true
  | .lc _ _ _ _ _ => true
  | .lc2 _ _ _ _ _ _ _ _ _ => true
  | .ite _ a b => freshB a && freshB b
  | _ => false
section
variable {XA : Nat → Option Addr} {T : Tab} {C : Call} {k : Nat} {ck : Ck}
theorem pt_ifExp {X : Cx} {c a b : Expr} {tc ta tb : TT} {pos : Pos} (hc : PT X c tc) (ha : PT X a ta) (hb : PT X b tb) : PT X (.IfExp c a b pos) (fun σ H Q => tc σ H fun d H1 => if d = true then ta σ H1 Q else tb σ H1 Q) := by
  refine ⟨fun pins s σ H Q I h => ?_⟩
  refine isTrue_IfExp (thn (hc.run pins s σ H _ I h) fun d s1 ⟨H1, I1, q1⟩ => ?_)
  cases d with
  | true => exact ha.run pins s1 σ H1 Q I1 q1
  | false => exact hb.run pins s1 σ H1 Q I1 q1
theorem s_iteT {X : Cx} {W : WX} {c a b : Expr} {mc ma mb : Env → R D} {pos : Pos} (hc : PT X c (tG X.K XA W RelTB mc)) (ha : PT X a (tG X.K XA W RelTB ma)) (hb : PT X b (tG X.K XA W RelTB mb)) : PT X (.IfExp c a b pos) (tG X.K XA W RelTB fun E => R.bind (mc E) fun d => iteR d (ma E) (mb E)) := by
  refine PT.imp (pt_ifExp hc ha hb) fun σ H Q ⟨ρ, F, h, E, w, r, po⟩ => ?_
  refine tG_mono (st1 w r po) fun x H1 ⟨ρ1, F1, h1, d1, x1, e1, w1, r1, q1, po1⟩ => ?_
  have q1 : d1 = .bl x := q1
  subst q1
  cases x with
  | true => exact st1n w1 r1 po1
  | false => exact st1n w1 r1 po1

structure OkE (XA : Nat → Option Addr) (T : Tab) (C : Call) (X : Cx) (W : WX) (e : Expr) (ne : NE) : Prop where
  V : PE X e (tG X.K XA W (lf (Rd X.K)) fun E => ev T C ne E false)
  G : freshB ne = true → PE X e (tG X.K XA W (RdG X.K) fun E => ev T C ne E false)
  Cn : PE X e (tG X.K XA W (lf (RdC X.K)) fun E => contOr ne E (ev T C ne E false))
  Tt : PT X e (tG X.K XA W RelTB fun E => ev T C ne E true)
theorem PE.rel {X : Cx} {W : WX} {e : Expr} {m : Env → R D} {Rel Rel' : RelT V D} (h : PE X e (tG X.K XA W Rel' m)) (i : ∀ ρ F H h b a, Rel' ρ F H h b a → Rel ρ F H h b a) : PE X e (tG X.K XA W Rel m) := PE.imp h fun _ _ _ q => tG_rel q i
def notVar : NE → Bool
  | .var _ => false
  | _ => true
theorem contOr_of {ne : NE} (h : notVar ne = true) (E : Env) (m : R D) : contOr ne E m = m := by
  cases ne <;> first | rfl | cases h
/-- a plain form -/
theorem OkE.plain {X : Cx} {W : WX} {e : Expr} {ne : NE} {m : Env → R D} (hp : plainTest e = true) (hv : notVar ne = true) (h0 : ∀ E, ev T C ne E false = m E) (h1 : ∀ E, ev T C ne E true = R.bind (m E) fun d => R.bind (truthR d) fun b => R.pure (.bl b))
    (v : PE X e (tG X.K XA W (lf (Rd X.K)) m)) (g : freshB ne = true → PE X e (tG X.K XA W (RdG X.K) m)) : OkE XA T C X W e ne := by
  have e0 : (fun E => ev T C ne E false) = m := funext h0
  refine ⟨by rw [e0]; exact v, fun f => by rw [e0]; exact g f, ?_, ?_⟩
  · have : (fun E => contOr ne E (ev T C ne E false)) = m := funext fun E => by rw [contOr_of hv, h0]
    rw [this]
    exact PE.rel v Rd.toC
  · have : (fun E => ev T C ne E true) = fun E => R.bind (m E) fun d => R.bind (truthR d) fun b => R.pure (.bl b) := funext h1
    rw [this]
    exact s_truth hp (PE.rel v Rd.toC)
theorem OkE.fresh {X : Cx} {W : WX} {e : Expr} {ne : NE} {m : Env → R D} (hp : plainTest e = true) (hv : notVar ne = true) (h0 : ∀ E, ev T C ne E false = m E) (h1 : ∀ E, ev T C ne E true = R.bind (m E) fun d => R.bind (truthR d) fun b => R.pure (.bl b))
    (g : PE X e (tG X.K XA W (RdG X.K) m)) : OkE XA T C X W e ne := .plain hp hv h0 h1 (PE.rel g RdG.toRd) fun _ => g
theorem sameD_nolist {a b : D} (h : sameD a b = true) : moOf b = none := by
  cases b <;> first | rfl | (cases a <;> simp [sameD] at h)

/-- the check up to n -/
structure AllN (XA : Nat → Option Addr) (T : Tab) (C : Call) (k : Nat) (ck : Ck) (n : Nat) : Prop where
  fE : ∀ {sc : Scope} {X : Cx} {W : WX} {e : Expr} {ne : NE}, Good XA T C k ck sc X → Pas X W → chkE n ck sc e ne = true → OkE XA T C X W e ne
  fA : ∀ {sc : Scope} {X : Cx} {W : WX} {es : List Expr} {nes : NEs}, Good XA T C k ck sc X → Pas X W → chkA n ck sc es nes = true → es.all notStar = true ∧ PA X es (tG X.K XA W (lf (Rds X.K)) fun E => evs T C nes E) ∧ PA X es (tG X.K XA W (lf (RdCs X.K)) fun E => evcs T C nes E)
  fK : ∀ {sc : Scope} {X : Cx} {W : WX} {ks : List Keyword} {nes : NEs}, Good XA T C k ck sc X → Pas X W → chkK n ck sc ks nes = true → PK X ks (tG X.K XA W (lf (Rds X.K)) fun E => evs T C nes E)
  fBv : ∀ {sc : Scope} {X : Cx} {W : WX} {op : BoolOp} {e : Expr} {es : List Expr} {ne : NE} {pos : Pos}, Good XA T C k ck sc X → Pas X W → chkBo n ck sc op (e :: es) ne = true → PE X (.BoolOp op (e :: es) pos) (tG X.K XA W (lf (Rd X.K)) fun E => ev T C ne E false)
  fBt : ∀ {sc : Scope} {X : Cx} {W : WX} {op : BoolOp} {e : Expr} {es : List Expr} {ne : NE} {pos : Pos}, Good XA T C k ck sc X → Pas X W → chkBo n ck sc op (e :: es) ne = true → PW X (.BoolOp op (e :: es) pos) (tG X.K XA W RelTB fun E => ev T C ne E true)
  fP : ∀ {sc : Scope} {X : Cx} {W : WX} {o : Option Expr} {ne : NE}, Good XA T C k ck sc X → Pas X W → chkP n ck sc o ne = true → PO X o (tG X.K XA W RelE fun E => R.bind (ev T C ne E false) fun l => R.ofOpt (bndR ne l))
  fC : ∀ {sc : Scope} {X : Cx} {W : WX} {ifs : List Expr} {ne : NE}, Good XA T C k ck sc X → Pas X W → chkC n ck sc ifs ne = true → PTs X ifs (tG X.K XA W RelTB fun E => ev T C ne E true)
  fI : ∀ {sc : Scope} {X : Cx} {W : WX} {tg e : Expr} {it : NI} {c : Bool}, Good XA T C k ck sc X → Pas X W → chkI n ck sc tg e it = true → PI X tg e (tG X.K XA W (RelI X.K c) fun E => evi T C it E c)
/-- in a comprehension's block -/
theorem Good.blk {sc scope : Scope} {X : Cx} (g : Good XA T C k ck sc X) (s : Shared) (H : Hp) (Cc : Addr) (cl : List (Str × Addr)) (fp : List Addr) : Good XA T C k ck (relS scope sc) (X.blk s H scope (compEnvC scope cl Cc X.env) fp) where
  toGoodQ := ⟨by
    have := g.scope
    subst this
    rfl, g.names, g.nd, g.blt, g.cst, g.tcst⟩
  calm := g.calm
  fns := g.fns
  kws := g.kws
  kar := g.kar
  ar := g.ar
  room := g.room
  sorts := g.sorts
  sets := g.sets
theorem pasF {X : Cx} : Pas X WF := fun σ => passAt L2.takes0 σ
theorem tb_blk {sc scope : Scope} {X : Cx} (hsc : X.env.scope = sc) (s : Shared) (H : Hp) (Cc : Addr) (cl : List (Str × Addr)) (fp : List Addr) : ∀ x, tbOf scope x = true →
    Loc (X.blk s H scope (compEnvC scope cl Cc X.env) fp).env.scope x ∧ ((X.blk s H scope (compEnvC scope cl Cc X.env) fp).fn x = true ∨ (X.blk s H scope (compEnvC scope cl Cc X.env) fp).env.scope.names.lookup x = some .local) := by
  intro x h
  subst hsc
  have e : (X.blk s H scope (compEnvC scope cl Cc X.env) fp).env.scope = relS scope X.env.scope := rfl
  rw [e]
  unfold tbOf at h
  cases hl : scope.names.lookup x with
  | none => rw [hl] at h; cases h
  | some kd =>
    rw [hl] at h
    have key : kd ≠ .free → (relS scope X.env.scope).names.lookup x = some kd := fun hk => lookup_relS_keep hk hl
    cases kd with
    | «local» => exact ⟨.inl (key (by intro z; cases z)), .inr (key (by intro z; cases z))⟩
    | cell =>
      refine ⟨.inr (key (by intro z; cases z)), .inl ?_⟩
      show (scope.names.lookup x == some .cell) = true
      rw [hl]
      rfl
    | _ => cases h
theorem notSet_of {e : Expr} {env : PySem.Env} (h : notSet e = true) : ∀ x, foldedSetIterable e env x = pure x := by
  intro x
  cases e <;> first | rfl | (simp [notSet] at h)
theorem stepA {n : Nat} (ih : AllN XA T C k ck n) {sc : Scope} {X : Cx} {W : WX} {es : List Expr} {nes : NEs} (g : Good XA T C k ck sc X) (hx : Pas X W) (h : chkA (n + 1) ck sc es nes = true) :
    es.all notStar = true ∧ PA X es (tG X.K XA W (lf (Rds X.K)) fun E => evs T C nes E) ∧ PA X es (tG X.K XA W (lf (RdCs X.K)) fun E => evcs T C nes E) := by
  unfold chkA at h
  cases nes with
  | nil =>
    have e : es = [] := List.isEmpty_iff.mp h
    subst e
    exact ⟨rfl, s_nil fun _ _ _ _ => .nil, s_nil fun _ _ _ _ => .nil⟩
  | cons a as =>
    cases es with
    | nil => cases h
    | cons e es =>
      have h : (notStar e && (chkE n ck sc e a && chkA n ck sc es as)) = true := h
      simp only [Bool.and_eq_true] at h
      obtain ⟨h1, h2, h3⟩ := h
      obtain ⟨i1, i2, i3⟩ := ih.fA g hx h3
      refine ⟨by rw [List.all_cons, h1, i1]; rfl, s_cons h1 (ih.fE g hx h2).V i2, s_consC h1 (ih.fE g hx h2).Cn i3⟩
theorem stepK {n : Nat} (ih : AllN XA T C k ck n) {sc : Scope} {X : Cx} {W : WX} {ks : List Keyword} {nes : NEs} (g : Good XA T C k ck sc X) (hx : Pas X W) (h : chkK (n + 1) ck sc ks nes = true) :
    PK X ks (tG X.K XA W (lf (Rds X.K)) fun E => evs T C nes E) := by
  unfold chkK at h
  cases nes with
  | nil =>
    have e : ks = [] := List.isEmpty_iff.mp h
    subst e
    exact sk_nil fun _ _ _ _ => .nil
  | cons a as =>
    cases ks with
    | nil => cases h
    | cons kw ks =>
      obtain ⟨nm, v, kp⟩ := kw
      have h : (chkE n ck sc v a && chkK n ck sc ks as) = true := h
      obtain ⟨h1, h2⟩ := Bool.and_eq_true_iff.mp h
      exact sk_cons (ih.fE g hx h1).V (ih.fK g hx h2)
theorem chkA_len : ∀ {n : Nat} {ck : Ck} {sc : Scope} {es : List Expr} {nes : NEs}, chkA n ck sc es nes = true → lenN nes = es.length
  | 0, _, _, _, _, h => by cases h
  | n + 1, ck, sc, es, nes, h => by
    unfold chkA at h
    cases nes with
    | nil =>
      have e : es = [] := List.isEmpty_iff.mp h
      subst e
      rfl
    | cons a as =>
      cases es with
      | nil => cases h
      | cons e es =>
        have h : (notStar e && (chkE n ck sc e a && chkA n ck sc es as)) = true := h
        simp only [Bool.and_eq_true] at h
        show lenN as + 1 = es.length + 1
        rw [chkA_len h.2.2]
theorem stepBv {n : Nat} (ih : AllN XA T C k ck n) {sc : Scope} {X : Cx} {W : WX} {op : BoolOp} {e : Expr} {es : List Expr} {ne : NE} {pos : Pos} (g : Good XA T C k ck sc X) (hx : Pas X W) (h : chkBo (n + 1) ck sc op (e :: es) ne = true) :
    PE X (.BoolOp op (e :: es) pos) (tG X.K XA W (lf (Rd X.K)) fun E => ev T C ne E false) := by
  unfold chkBo at h
  cases es with
  | nil => exact pe_one (ih.fE g hx h).V
  | cons f es =>
    simp only at h
    cases op with
    | And =>
      cases ne <;> first | cases h | skip
      rename_i a b
      obtain ⟨h1, h2⟩ := Bool.and_eq_true_iff.mp h
      exact s_and (ih.fE g hx h1).V (ih.fBv g hx h2)
    | Or =>
      cases ne <;> first | cases h | skip
      rename_i a b
      obtain ⟨h1, h2⟩ := Bool.and_eq_true_iff.mp h
      exact s_or (ih.fE g hx h1).V (ih.fBv g hx h2)
theorem stepBt {n : Nat} (ih : AllN XA T C k ck n) {sc : Scope} {X : Cx} {W : WX} {op : BoolOp} {e : Expr} {es : List Expr} {ne : NE} {pos : Pos} (g : Good XA T C k ck sc X) (hx : Pas X W) (h : chkBo (n + 1) ck sc op (e :: es) ne = true) :
    PW X (.BoolOp op (e :: es) pos) (tG X.K XA W RelTB fun E => ev T C ne E true) := by
  unfold chkBo at h
  cases es with
  | nil =>
    cases op with
    | And => exact pw_and1 (ih.fE g hx h).Tt
    | Or => exact pw_or1 (ih.fE g hx h).Tt
  | cons f es =>
    simp only at h
    cases op with
    | And =>
      cases ne <;> first | cases h | skip
      rename_i a b
      obtain ⟨h1, h2⟩ := Bool.and_eq_true_iff.mp h
      exact s_andT (ih.fE g hx h1).Tt (ih.fBt g hx h2)
    | Or =>
      cases ne <;> first | cases h | skip
      rename_i a b
      obtain ⟨h1, h2⟩ := Bool.and_eq_true_iff.mp h
      exact s_orT (ih.fE g hx h1).Tt (ih.fBt g hx h2)
theorem stepP {n : Nat} (ih : AllN XA T C k ck n) {sc : Scope} {X : Cx} {W : WX} {o : Option Expr} {ne : NE} (g : Good XA T C k ck sc X) (hx : Pas X W) (h : chkP (n + 1) ck sc o ne = true) :
    PO X o (tG X.K XA W RelE fun E => R.bind (ev T C ne E false) fun l => R.ofOpt (bndR ne l)) := by
  unfold chkP at h
  cases o with
  | none =>
    cases ne <;> first | cases h | skip
    rename_i d
    cases d <;> first | cases h | skip
    exact s_noPart
  | some e =>
    obtain ⟨h1, h2⟩ := Bool.and_eq_true_iff.mp h
    exact s_part (by simpa using h1) (ih.fE g hx h2).V
theorem stepC {n : Nat} (ih : AllN XA T C k ck n) {sc : Scope} {X : Cx} {W : WX} {ifs : List Expr} {ne : NE} (g : Good XA T C k ck sc X) (hx : Pas X W) (h : chkC (n + 1) ck sc ifs ne = true) : PTs X ifs (tG X.K XA W RelTB fun E => ev T C ne E true) := by
  unfold chkC at h
  cases ifs with
  | nil =>
    cases ne <;> first | cases h | skip
    rename_i d
    cases d <;> first | cases h | skip
    rename_i b
    cases b <;> first | cases h | skip
    refine ⟨fun pins s σ H Q I q => pts_nil.run pins s σ H Q I ?_⟩
    obtain ⟨ρ, F, h', E, w, r, po⟩ := q
    exact Po.now (a := D.bl true) po w rfl
  | cons c cs =>
    cases cs with
    | nil => exact pts_one (ih.fE g hx h).Tt
    | cons => cases h
theorem stepI {n : Nat} (ih : AllN XA T C k ck n) {sc : Scope} {X : Cx} {W : WX} {tg e : Expr} {it : NI} {c : Bool} (g : Good XA T C k ck sc X) (hx : Pas X W) (h : chkI (n + 1) ck sc tg e it = true) : PI X tg e (tG X.K XA W (RelI X.K c) fun E => evi T C it E c) := by
  unfold chkI at h
  cases it with
  | seq a =>
    have o := ih.fE g hx h
    cases c with
    | true => exact s_seq (c := true) o.Cn
    | false => exact s_seq (c := false) o.V
  | rng1 a =>
    simp only at h
    split at h <;> first | cases h | skip
    simp only [Bool.and_eq_true, decide_eq_true_eq] at h
    obtain ⟨h1, h2, h3, h4⟩ := h
    subst h1
    exact s_rng1 g h2 h3 (ih.fE g hx h4).V
  | rng2 a b =>
    simp only at h
    split at h <;> first | cases h | skip
    simp only [Bool.and_eq_true, decide_eq_true_eq] at h
    obtain ⟨h1, h2, h3, h4, h5, h6⟩ := h
    subst h1
    exact s_rng2 g h2 h3 h4 (ih.fE g hx h5).V (ih.fE g hx h6).V
  | enum a =>
    simp only at h
    split at h <;> first | cases h | skip
    simp only [Bool.and_eq_true, decide_eq_true_eq] at h
    obtain ⟨h1, h2, h3, h4⟩ := h
    subst h1
    have o := ih.fE (W := W) g hx h4
    cases c with
    | true => exact s_enum (c := true) g h2 h3 o.Cn
    | false => exact s_enum (c := false) g h2 h3 o.V
  | zip a b =>
    simp only at h
    split at h <;> first | cases h | skip
    simp only [Bool.and_eq_true, decide_eq_true_eq] at h
    obtain ⟨h1, h2, h3, h4, h5, h6⟩ := h
    subst h1
    have o := ih.fE (W := W) g hx h5
    have o2 := ih.fE (W := W) g hx h6
    cases c with
    | true => exact s_zip (c := true) g h2 h3 h4 o.Cn o2.Cn
    | false => exact s_zip (c := false) g h2 h3 h4 o.V o2.V
  | _ => cases h
theorem ev_andF {a b : NE} {E : Env} : ev T C (.and a b) E false = R.bind (ev T C a E false) fun d => R.bind (truthR d) fun c => match c with
      | true => ev T C b E false
      | false => R.pure d := rfl
theorem stepE {n : Nat} (ih : AllN XA T C k ck n) {sc : Scope} {X : Cx} {W : WX} {e : Expr} {ne : NE} (g : Good XA T C k ck sc X) (hx : Pas X W) (h : chkE (n + 1) ck sc e ne = true) : OkE XA T C X W e ne := by
  unfold chkE at h
  cases ne with
  | cst d =>
    simp only at h
    split at h
    · exact .fresh rfl rfl (fun _ => rfl) (fun _ => rfl) (s_const h)
    · have v := s_gl (pos := by assumption) (XA := XA) (W := W) g.toGoodQ h
      refine .plain rfl rfl (fun _ => rfl) (fun _ => rfl) v fun _ => PE.imp v fun σ H Q q => ?_
      obtain ⟨h1, h2⟩ := Bool.and_eq_true_iff.mp h
      obtain ⟨p, hp, h3⟩ := List.any_eq_true.mp h2
      obtain ⟨_, h4⟩ := Bool.and_eq_true_iff.mp h3
      obtain ⟨ρ, F, h', E, w, r, po⟩ := q
      refine ⟨ρ, F, h', E, w, r, ?_⟩
      exact fun b ρ' H' x w' r' => po b ρ' H' x w' (.old (sameD_nolist h4) r')
    · cases h
  | var i =>
    simp only at h
    split at h
    · refine ⟨s_var g.toGoodQ h, (fun f => by cases f), s_varC g.toGoodQ h, ?_⟩
      exact s_truth (ma := fun E => R.ofOpt (getc E i)) rfl (s_varC g.toGoodQ h)
    · cases h
  | tup es =>
    simp only at h
    split at h
    · exact .fresh rfl rfl (fun _ => rfl) (fun _ => rfl) (s_tup (ih.fA g hx h).2.1)
    · cases h
  | lst es =>
    simp only at h
    split at h
    · exact .fresh rfl rfl (fun _ => rfl) (fun _ => rfl) (s_lst (ih.fA g hx h).2.1)
    · cases h
  | hlst es =>
    simp only at h
    split at h
    · exact .plain rfl rfl (fun _ => rfl) (fun _ => rfl) (s_hlst (ih.fA g hx h).2.1) fun f => by cases f
    · cases h
  | dct0 tk =>
    simp only at h
    split at h
    · exact .fresh rfl rfl (fun _ => rfl) (fun _ => rfl) s_dct0E
    · cases h
  | call f es =>
    simp only at h
    split at h
    · obtain ⟨h1, h2⟩ := Bool.and_eq_true_iff.mp h
      have a := ih.fA g hx h2
      exact .plain rfl rfl (fun _ => rfl) (fun _ => rfl) (s_call g hx h1 a.1 a.2.1) fun f => by cases f
    · obtain ⟨h1, h2⟩ := Bool.and_eq_true_iff.mp h
      cases es with
      | nil => exact .plain rfl rfl (fun _ => rfl) (fun _ => rfl) (s_call0 g hx h1) fun f => by cases f
      | cons a as => cases n <;> cases h2
    · obtain ⟨h1, h2⟩ := Bool.and_eq_true_iff.mp h
      exact .plain rfl rfl (fun _ => rfl) (fun _ => rfl) (s_callK0 g hx h1 (ih.fK g hx h2)) fun f => by cases f
    · simp only [Bool.and_eq_true] at h
      obtain ⟨h1, h2, h3⟩ := h
      rename_i x1 xs _ _ _
      have a := ih.fA g hx h2
      have e1 : ∀ E, R.bind (evs T C es E) (C f) = R.bind (evs T C (takeN (x1 :: xs).length es) E) fun a => R.bind (evs T C (dropN (x1 :: xs).length es) E) fun b => R.need (a.length == (x1 :: xs).length) (C f (a ++ b)) := fun E => by
        rw [evs_split _ es, R.bind_assoc]
        refine evs_need fun a ha => ?_
        rw [R.bind_assoc, ha, chkA_len h2, beq_self_eq_true]
        rfl
      have e2 : ∀ E, ev T C (.call f es) E false = _ := fun E => e1 E
      exact .plain rfl rfl e1 (fun E => by
        show R.bind (R.bind (evs T C es E) (C f)) _ = _
        rw [e1]) (s_callK g hx h1 a.1 a.2.1 (ih.fK g hx h3)) fun f => by cases f
    · cases h
  | blt bl es =>
    simp only at h
    split at h
    · rename_i x pn x1 xs pos
      have gen : ∀ {h1 : bl ≠ .sortedSet} {h2 : bl ≠ .lenSet}, (decide (x = bl.name) && (bltB ck sc x && chkA n ck sc (x1 :: xs) es)) = true → OkE XA T C X W (.Call (.Name x pn) (x1 :: xs) [] pos) (.blt bl es) := fun {h1 h2} h => by
        simp only [Bool.and_eq_true, decide_eq_true_eq] at h
        obtain ⟨e1, e2, e3⟩ := h
        have a := ih.fA g hx e3
        exact .fresh rfl rfl (fun _ => rfl) (fun _ => rfl) (s_blt g h1 h2 e1 e2 a.1 a.2.2)
      cases bl <;> first
        | exact gen (h1 := by intro z; cases z) (h2 := by intro z; cases z) h
        | skip
      · simp only at h
        split at h <;> first | cases h | skip
        simp only [Bool.and_eq_true, decide_eq_true_eq] at h
        obtain ⟨e1, e2, e3, e4, e5, e6⟩ := h
        subst e1 e2
        rename_i a
        obtain ⟨gl, db, nn, hm⟩ := blt_of g.toGoodQ e3
        obtain ⟨gl2, db2, nn2, hm2⟩ := blt_of g.toGoodQ e4
        refine .fresh rfl rfl (fun E => ?_) (fun E => ?_) ((g.sets X g.calm g.room.units W _ _ _ _ _ _ gl2 hm2 e5 (ih.fE g hx e6).Cn).1 gl hm)
        · show R.bind (R.bind (contOr a E (ev T C a E false)) fun x => R.bind (R.pure []) fun xs => R.pure (x :: xs)) (bltR .sortedSet) = _
          rw [R.bind_assoc]
          rfl
        · show R.bind (R.bind (R.bind (contOr a E (ev T C a E false)) fun x => R.bind (R.pure []) fun xs => R.pure (x :: xs)) (bltR .sortedSet)) _ = _
          rw [R.bind_assoc (m := contOr a E (ev T C a E false))]
          rfl
      · simp only at h
        split at h <;> first | cases h | skip
        simp only [Bool.and_eq_true, decide_eq_true_eq] at h
        obtain ⟨e1, e2, e3, e4, e5, e6⟩ := h
        subst e1 e2
        rename_i a
        obtain ⟨gl, db, nn, hm⟩ := blt_of g.toGoodQ e3
        obtain ⟨gl2, db2, nn2, hm2⟩ := blt_of g.toGoodQ e4
        refine .fresh rfl rfl (fun E => ?_) (fun E => ?_) ((g.sets X g.calm g.room.units W _ _ _ _ _ _ gl2 hm2 e5 (ih.fE g hx e6).Cn).2 gl hm)
        · show R.bind (R.bind (contOr a E (ev T C a E false)) fun x => R.bind (R.pure []) fun xs => R.pure (x :: xs)) (bltR .lenSet) = _
          rw [R.bind_assoc]
          rfl
        · show R.bind (R.bind (R.bind (contOr a E (ev T C a E false)) fun x => R.bind (R.pure []) fun xs => R.pure (x :: xs)) (bltR .lenSet)) _ = _
          rw [R.bind_assoc (m := contOr a E (ev T C a E false))]
          rfl
    · cases h
  | isi a ts =>
    simp only at h
    split at h
    · simp only [Bool.and_eq_true, decide_eq_true_eq] at h
      obtain ⟨e1, e2, e3, e4, e5, e6⟩ := h
      subst e1
      exact .fresh rfl rfl (fun _ => rfl) (fun _ => rfl) (s_isi g e2 e3 e4 e5 (ih.fE g hx e6).Cn)
    · cases h
  | bin op a b =>
    simp only at h
    split at h
    · simp only [Bool.and_eq_true, decide_eq_true_eq] at h
      obtain ⟨e1, e2, e3⟩ := h
      subst e1
      exact .fresh rfl rfl (fun _ => rfl) (fun _ => rfl) (s_bin (ih.fE g hx e2).Cn (ih.fE g hx e3).Cn)
    · cases h
  | un op a =>
    simp only at h
    split at h
    · simp only [Bool.and_eq_true, decide_eq_true_eq, Bool.not_eq_true', decide_eq_false_iff_not] at h
      obtain ⟨e1, e2, e3⟩ := h
      subst e1
      refine .fresh ?_ rfl (fun _ => rfl) (fun _ => rfl) (s_un (ih.fE g hx e3).V)
      cases op <;> first | rfl | exact absurd rfl e2
    · cases h
  | cmp op a b =>
    simp only at h
    split at h
    · simp only [Bool.and_eq_true, decide_eq_true_eq, Bool.not_eq_true'] at h
      obtain ⟨e1, e2, e3, e4⟩ := h
      subst e1
      have v := s_cmp (op := op) (pos := by assumption) g e2 (ih.fE g hx e3).Cn (ih.fE g hx e4).Cn (W := W)
      exact ⟨PE.rel v RdG.toRd, fun _ => v, PE.rel v fun _ _ _ _ _ _ r => .rd r.rd, s_cmpT g e2 (ih.fE g hx e3).Cn (ih.fE g hx e4).Cn⟩
    · cases h
  | inK neg a xs =>
    simp only at h
    split at h
    · simp only [Bool.and_eq_true, decide_eq_true_eq, Bool.not_eq_true'] at h
      obtain ⟨e1, e2, e3, e4⟩ := h
      subst e1
      have e2' := Bool.and_eq_true_iff.mpr e2
      have v := s_inK (neg := neg) (pos := by assumption) g e2' (ih.fE g hx e4).Cn e3 (W := W)
      exact ⟨PE.rel v RdG.toRd, fun _ => v, PE.rel v fun _ _ _ _ _ _ r => .rd r.rd, s_inKT g e2' (ih.fE g hx e4).Cn e3⟩
    · cases h
  | cmp2 op op2 a b c =>
    simp only at h
    split at h
    · simp only [Bool.and_eq_true, decide_eq_true_eq, Bool.not_eq_true'] at h
      obtain ⟨e1, e2, e3, e4, e5, e6⟩ := h
      subst e1 e2
      have v := s_cmp2 (op := op) (op' := op2) (pos := by assumption) g e3 (ih.fE g hx e4).Cn (ih.fE g hx e5).Cn (ih.fE g hx e6).Cn (W := W)
      exact ⟨PE.rel v RdG.toRd, fun _ => v, PE.rel v fun _ _ _ _ _ _ r => .rd r.rd, s_cmp2T g e3 (ih.fE g hx e4).Cn (ih.fE g hx e5).Cn (ih.fE g hx e6).Cn⟩
    · cases h
  | and a b =>
    simp only at h
    split at h
    · obtain ⟨h1, h2⟩ := Bool.and_eq_true_iff.mp h
      have v := s_and (pos := by assumption) (ih.fE (W := W) g hx h1).V (ih.fBv g hx h2)
      exact ⟨v, (fun f => by cases f), PE.rel v Rd.toC, (s_andT (ih.fE g hx h1).Tt (ih.fBt g hx h2)).pt⟩
    · cases h
  | or a b =>
    simp only at h
    split at h
    · obtain ⟨h1, h2⟩ := Bool.and_eq_true_iff.mp h
      have v := s_or (pos := by assumption) (ih.fE (W := W) g hx h1).V (ih.fBv g hx h2)
      exact ⟨v, (fun f => by cases f), PE.rel v Rd.toC, (s_orT (ih.fE g hx h1).Tt (ih.fBt g hx h2)).pt⟩
    · cases h
  | not a =>
    simp only at h
    split at h
    · have v := s_not (pos := by assumption) (ih.fE (W := W) g hx h).Cn
      exact ⟨PE.rel v RdG.toRd, fun _ => v, PE.rel v fun _ _ _ _ _ _ r => .rd r.rd, s_notT (ih.fE g hx h).Tt⟩
    · cases h
  | ite c a b =>
    simp only at h
    split at h
    · simp only [Bool.and_eq_true] at h
      obtain ⟨h1, h2, h3⟩ := h
      have ic := ih.fE (W := W) g hx h1
      have ia := ih.fE (W := W) g hx h2
      have ib := ih.fE (W := W) g hx h3
      have v := s_ite (pos := by assumption) ic.Tt ia.V ib.V
      refine ⟨v, fun f => ?_, PE.rel v Rd.toC, s_iteT ic.Tt ia.Tt ib.Tt⟩
      obtain ⟨f1, f2⟩ := Bool.and_eq_true_iff.mp (show (freshB a && freshB b) = true from f)
      exact s_ite ic.Tt (ia.G f1) (ib.G f2)
    · cases h
  | ix a i =>
    simp only at h
    split at h
    · simp only [Bool.and_eq_true] at h
      obtain ⟨h1, h2, h3⟩ := h
      exact .plain rfl rfl (fun _ => rfl) (fun _ => rfl) (s_ix g.room.units h1 (ih.fE g hx h2).Cn (ih.fE g hx h3).V) fun f => by cases f
    · cases h
  | sl a lo hi =>
    simp only at h
    split at h
    · simp only [Bool.and_eq_true] at h
      obtain ⟨h1, h2, h3⟩ := h
      exact .fresh rfl rfl (fun _ => rfl) (fun _ => rfl) (s_slice (ih.fE g hx h1).Cn (ih.fP g hx h2) (ih.fP g hx h3))
    · cases h
  | rev a =>
    simp only at h
    split at h
    · simp only [Bool.and_eq_true, decide_eq_true_eq] at h
      obtain ⟨h1, h2⟩ := h
      subst h1
      exact .fresh rfl rfl (fun _ => rfl) (fun _ => rfl) (s_rev (ih.fE g hx h2).Cn)
    · cases h
  | lc own t it cond elt =>
    simp only at h
    split at h
    · simp only [Bool.and_eq_true, decide_eq_true_eq] at h
      obtain ⟨h1, h2, h3, h4, h5, h6, h7, h8⟩ := h
      subst h1
      rename_i el tg iter ifs scope pos
      have how : (ownP ck own).map (·.2) = own := by
        unfold ownP
        rw [List.map_map]
        exact List.map_id _
      have ok : BlkOk X.N X.env.scope scope (ownP ck own) := by
        rw [g.names, g.scope]
        exact blkOk_by h2
      have hc : chkC n ck (relS scope sc) ifs cond = true := h7
      refine .fresh rfl rfl (fun _ => rfl) (fun _ => rfl) (s_lc g.calm (by rw [g.names]; exact g.nd) (ih.fI g hx h6) ok how h4 (fun s H Cc cl fp => ?_) (fun s H Cc cl fp => ?_) (fun s H Cc cl fp => ?_) (notSet_of h5))
      · exact s_tgt (X := X.blk s H scope (compEnvC scope cl Cc X.env) fp) g.calm g.names g.nd (tb_blk g.scope s H Cc cl fp) h3
      · exact ih.fC (g.blk s H Cc cl fp) pasF h7
      · exact (ih.fE (g.blk s H Cc cl fp) pasF h8).V
    · cases h
  | _ => cases h
theorem allN : ∀ n, AllN XA T C k ck n
  | 0 => ⟨fun _ _ h => by simp [chkE] at h, fun _ _ h => by simp [chkA] at h, fun _ _ h => by simp [chkK] at h, fun _ _ h => by simp [chkBo] at h, fun _ _ h => by simp [chkBo] at h, fun _ _ h => by simp [chkP] at h, fun _ _ h => by simp [chkC] at h, fun _ _ h => by simp [chkI] at h⟩
  | n + 1 => ⟨stepE (allN n), stepA (allN n), stepK (allN n), stepBv (allN n), stepBt (allN n), stepP (allN n), stepC (allN n), stepI (allN n)⟩
end
end Ny

set_option maxHeartbeats 2000000
/-! Ny: the frame through statements. -/
namespace Ny
open PySem PySem.Spec PyProof.Rows L2

theorem PS.imp {X : Cx} {st : Stmt} {t t' : TS} (h : PS X st t) (i : ∀ D σ H, t' D σ H → t D σ H) : PS X st t' := ⟨fun pins s σ H D I q => h.run pins s σ H D I (i _ _ _ q)⟩
theorem PSs.imp {X : Cx} {st : List Stmt} {t t' : TS} (h : PSs X st t) (i : ∀ D σ H, t' D σ H → t D σ H) : PSs X st t' := ⟨fun pins s σ H D I q => h.run pins s σ H D I (i _ _ _ q)⟩

/-! ### where the call began, how it stands -/
structure Base where
  ρ : Rho
  F : Addr → Prop
  H : Hp
structure Fr (K : PySem.W.Frag) (XA : Nat → Option Addr) (B : Base) (ρ : Rho) (F : Addr → Prop) (H : Hp) (h : Hs) (E : Env) (σ : L2.St) : Prop where
  wd : Wd K ρ F H h
  env : EnvR K XA ρ F H E σ
  rho : ∀ n a, B.ρ n = some a → ρ n = some a
  new : ∀ a, ρ.has a → B.ρ.has a ∨ B.H a = none
  keep : ∀ a o, ¬ B.ρ.has a → B.H a = some o → H a = some o
  own : ∀ (i : Nat) (d : D) (a : Addr), E[i]? = some (.own d) → σ[i]? = some (some (.ref a)) → B.H a = none
  sup : ∀ a, B.F a → F a
  t0 : ∀ a, B.F a → B.H a ≠ none
/-- from one state of the frame to another -/
structure Fs (ρ : Rho) (F : Addr → Prop) (H : Hp) (ρ' : Rho) (F' : Addr → Prop) (H' : Hp) : Prop where
  rho : ∀ n a, ρ n = some a → ρ' n = some a
  new : ∀ a, ρ'.has a → ρ.has a ∨ H a = none
  keep : ∀ a o, ¬ F a → H a = some o → H' a = some o
  old : ∀ a, H a ≠ none → F' a → F a
  live : ∀ a, H a ≠ none → H' a ≠ none
section
variable {K : PySem.W.Frag} {XA : Nat → Option Addr} {B : Base} {ρ ρ' ρ1 ρ2 : Rho} {F F' F1 F2 : Addr → Prop} {H H' H1 H2 : Hp} {h h' h1 : Hs} {E E' : Env} {σ σ' : L2.St}
theorem Fs.refl : Fs ρ F H ρ F H := ⟨fun _ _ e => e, fun _ q => .inl q, fun _ _ _ e => e, fun _ _ q => q, fun _ q => q⟩
theorem Fs.trans (x : Fs ρ F H ρ1 F1 H1) (y : Fs ρ1 F1 H1 ρ2 F2 H2) : Fs ρ F H ρ2 F2 H2 where
  rho := fun n a e => y.rho n a (x.rho n a e)
  new := fun a q => (y.new a q).elim (x.new a) fun z => .inr (by
    cases e : H a with
    | none => rfl
    | some o => exact absurd z (x.live a (by rw [e]; simp)))
  keep := fun a o n e => y.keep a o (fun q => n (x.old a (by rw [e]; simp) q)) (x.keep a o n e)
  old := fun a n q => x.old a n (y.old a (x.live a n) q)
  live := fun a n => y.live a (x.live a n)
theorem Fs.of_xt (w : Wd K ρ F H h) (w' : Wd K ρ' (orR F ρ') H' h') (x : Xt ρ H ρ' H') : Fs ρ F H ρ' (orR F ρ') H' where
  rho := x.rho
  new := x.new
  keep := fun a o n e => x.keep a o (fun q => n (w.sub a q)) e
  old := fun a n q => orR_of x w.sub a n q
  live := fun a n => by
    by_cases z : ρ.has a
    · exact w'.trk a (.inr (Rho.has_mono x.rho z))
    · cases e : H a with
      | none => exact absurd e n
      | some o => rw [x.keep a o z e]; simp
theorem Fr.xt (f : Fr K XA B ρ F H h E σ) (x : Xt ρ H ρ' H') (w : Wd K ρ' (orR F ρ') H' h') : Fr K XA B ρ' (orR F ρ') H' h' E σ where
  wd := w
  env := f.env.xt x f.wd.sub
  rho := fun n a e => x.rho n a (f.rho n a e)
  new := fun a q => (x.new a q).elim (f.new a) fun z => by
    by_cases hr : B.ρ.has a
    · exact .inl hr
    · right
      cases e : B.H a with
      | none => rfl
      | some o => rw [f.keep a o hr e] at z; cases z
  keep := fun a o n e => by
    have e1 := f.keep a o n e
    refine x.keep a o (fun q => ?_) e1
    rcases f.new a q with z | z
    · exact n z
    · rw [e] at z; cases z
  own := f.own
  sup := fun a q => .inl (f.sup a q)
  t0 := f.t0
/-- another note of what was before -/
def reB (ρ : Rho) (Bs : Addr → Prop) : Rho := ⟨ρ.at_, Bs⟩
theorem reB_rd {Bs : Addr → Prop} {v : V} {d : D} (r : Rd K ρ F H v d) : Rd K (reB ρ Bs) F H v d := r.mv (ρ := ρ) (ρ' := reB ρ Bs) (fun _ _ e => e) (fun _ _ q => q) fun _ _ _ e => e
theorem reB_wd {Bs : Addr → Prop} (w : Wd K ρ F H h) (hb : ∀ a, Bs a → H a ≠ none) : Wd K (reB ρ Bs) F H h :=
  ⟨w.fin, w.inj, fun n o e => let ⟨a, ea, m⟩ := w.obj n o e; ⟨a, ea, m.mv (ρ := ρ) (ρ' := reB ρ Bs) (fun _ _ e => e) (fun _ _ q => q) (fun _ _ _ e => e) fun _ e => e⟩, w.sub, w.trk, hb, w.nt⟩
theorem reB_env {Bs : Addr → Prop} (r : EnvR K XA ρ F H E σ) (hs : ∀ a, ρ.has a → F a) : EnvR K XA (reB ρ Bs) F H E σ := r.mv hs (fun _ _ e => e) (fun _ q => .inl q) (fun _ _ q => q) (fun _ q => q) fun _ _ _ e => e
theorem reB_ex {Bs : Addr → Prop} {e : Ex} {c : Value} {dd : Option Addr} (x : ExR K XA ρ F H e c dd) : ExR K XA (reB ρ Bs) F H e c dd := by
  obtain ⟨Cc, e1, e2, e3⟩ := x
  refine ⟨Cc, e1, e2, ?_⟩
  cases hf : e.fs with
  | nil => rw [hf] at e3; exact e3
  | cons f fs =>
    rw [hf] at e3
    obtain ⟨d, vs, a1, a2, a3, a4, a5⟩ := e3
    exact ⟨d, vs, a1, a2, a3, a4, a5.mv (ρ := ρ) (ρ' := reB ρ Bs) (fun _ _ e => e) (fun _ _ q => q) fun _ _ _ e => e⟩
theorem Fr.reB {Bs : Addr → Prop} (f : Fr K XA B ρ F H h E σ) (hb : ∀ a, Bs a → H a ≠ none) : Fr K XA B (Ny.reB ρ Bs) F H h E σ :=
  ⟨reB_wd f.wd hb, reB_env f.env f.wd.sub, f.rho, f.new, f.keep, f.own, f.sup, f.t0⟩
/-- a list, a dict of the frame's own is given away -/
theorem Fr.giveX (f : Fr K XA B ρ F H h E σ) {i : Nat} {x : D} (e : E[i]? = some (.own x)) : ∃ F', Fr K XA B ρ F' H h (E.set i (.val x)) σ ∧ ∀ a, F' a → F a := by
  have hi : i < E.length := (List.getElem?_eq_some_iff.mp e).1
  have hi2 : i < σ.length := by rw [← f.env.len]; exact hi
  have hs : σ[i]? = some σ[i] := List.getElem?_eq_getElem hi2
  have q := f.env.at_ i _ _ e hs
  cases ev : σ[i] with
  | none => rw [ev] at q; exact q.elim
  | some v =>
    rw [ev] at q hs
    obtain ⟨a, e1, fa, na, c0⟩ := q
    subst e1
    have h0 := f.own i _ a e hs
    refine ⟨fun b => F b ∧ b ≠ a, ?_, fun b q => q.1⟩
    have sub' : ∀ b, ρ.has b → F b ∧ b ≠ a := fun b hb => ⟨f.wd.sub b hb, fun z => na (z ▸ hb)⟩
    have ne : ∀ {j : Nat} {d : D}, (E.set i (.val x))[j]? = some (.own d) → i ≠ j ∧ E[j]? = some (.own d) := fun {j d} hj => by
      by_cases z : i = j
      · subst z
        rw [List.getElem?_set_self hi] at hj
        cases hj
      · rw [List.getElem?_set_ne z] at hj
        exact ⟨z, hj⟩
    refine ⟨f.wd.less (fun b q => q.1) sub', ⟨by rw [List.length_set]; exact f.env.len, fun j s u h1 h2 => ?_, fun j l d1 d2 b g1 g2 g3 g4 => ?_⟩, f.rho, f.new, f.keep, fun j d b g1 g2 => ?_, fun b q => ⟨f.sup b q, fun z => f.t0 b q (by rw [z]; exact h0)⟩, f.t0⟩
    · by_cases z : i = j
      · subst z
        rw [List.getElem?_set_self hi] at h1
        cases h1
        rw [hs] at h2
        cases h2
        exact own_rd c0 (fun b q => q.1) fun q => q.2 rfl
      · rw [List.getElem?_set_ne z] at h1
        have q := f.env.at_ j s u h1 h2
        cases s with
        | no => trivial
        | exn e => cases u <;> trivial
        | val d =>
          cases u with
          | none => exact q.elim
          | some u => exact Rd.less (fun b q => q.1) (show Rd K ρ F H u d from q)
        | own d =>
          cases u with
          | none => exact q.elim
          | some u =>
            obtain ⟨b, e1, fb, nb, c⟩ := q
            subst e1
            refine ⟨b, rfl, ⟨fb, fun y => z ?_⟩, nb, c.mv (fun _ _ e => e) (fun _ _ q => q.1) (fun _ _ _ e => e) fun _ e => e⟩
            subst y
            exact f.env.inj i j _ _ _ e h1 hs h2
    · obtain ⟨n1, y1⟩ := ne g1
      obtain ⟨n2, y2⟩ := ne g2
      exact f.env.inj j l d1 d2 b y1 y2 g3 g4
    · exact f.own j d b (ne g1).2 g2
theorem Fr.give1 (f : Fr K XA B ρ F H h E σ) {i : Nat} {xs : List D} (e : E[i]? = some (.own (.lst xs))) : ∃ F', Fr K XA B ρ F' H h (E.set i (.val (.lst xs))) σ ∧ ∀ a, F' a → F a := f.giveX e
theorem Fr.giveD (f : Fr K XA B ρ F H h E σ) {i : Nat} {tk : Bool} {kvs : List (D × D)} (e : E[i]? = some (.own (.dct tk kvs))) : ∃ F', Fr K XA B ρ F' H h (E.set i (.val (.dct tk kvs))) σ ∧ ∀ a, F' a → F a := f.giveX e
theorem Fs.less (hf : ∀ a, F' a → F a) : Fs ρ F H ρ F' H := ⟨fun _ _ e => e, fun _ q => .inl q, fun _ _ _ e => e, fun a _ q => hf a q, fun _ q => q⟩
theorem Fr.freeze : ∀ {fr : List Nat} {F : Addr → Prop} {E : Env}, Fr K XA B ρ F H h E σ → ∃ F', Fr K XA B ρ F' H h (Ny.freeze E fr) σ ∧ ∀ a, F' a → F a
  | [], F, E, f => ⟨F, f, fun _ q => q⟩
  | i :: r, F, E, f => by
    unfold Ny.freeze
    split
    · rename_i xs e
      obtain ⟨F1, f1, l1⟩ := f.give1 e
      obtain ⟨F2, f2, l2⟩ := Fr.freeze (fr := r) f1
      exact ⟨F2, f2, fun a q => l1 a (l2 a q)⟩
    · rename_i tk kvs e
      obtain ⟨F1, f1, l1⟩ := f.giveD e
      obtain ⟨F2, f2, l2⟩ := Fr.freeze (fr := r) f1
      exact ⟨F2, f2, fun a q => l1 a (l2 a q)⟩
    · exact Fr.freeze f
end

/-! ### what is wanted behind a statement -/
section
variable (K : PySem.W.Frag) (XA : Nat → Option Addr) (W : WX)
def Pq (D : Ends) (B : Base) (ρ : Rho) (F : Addr → Prop) (H : Hp) (o : SO) : Prop := match o with
  | .fl .nx E h => ∀ σ ρ' F' H', Fr K XA B ρ' F' H' h E σ → Fs ρ F H ρ' F' H' → D.nx σ H'
  | .fl .bk E h => ∀ σ ρ' F' H', Fr K XA B ρ' F' H' h E σ → Fs ρ F H ρ' F' H' → D.bk σ H'
  | .fl .ct E h => ∀ σ ρ' F' H', Fr K XA B ρ' F' H' h E σ → Fs ρ F H ρ' F' H' → D.ct σ H'
  | .fl (.rt d) E h => ∀ v σ ρ' F' H', Fr K XA B ρ' F' H' h E σ → Fs ρ F H ρ' F' H' → Rd K ρ' F' H' v d → D.rt v H'
  | .exc e E h => ∀ cls dd σ ρ' F' H', Fr K XA B ρ' F' H' h E σ → Fs ρ F H ρ' F' H' → ExR K XA ρ' F' H' e cls dd → W cls dd σ H'
  | .bad => False
def tS (m : Env → S) : TS := fun D σ H => ∃ B ρ F h E, Fr K XA B ρ F H h E σ ∧ Pq K XA W D B ρ F H (m E h)
end
section
variable {K : PySem.W.Frag} {XA : Nat → Option Addr} {W : WX} {D D' : Ends} {B : Base} {ρ ρ' ρ1 : Rho} {F F' F1 : Addr → Prop} {H H' H1 : Hp} {h h' h1 : Hs} {E E' : Env} {σ σ' : L2.St}
theorem Pq.re {o : SO} (p : Pq K XA W D B ρ F H o) (x : Fs ρ F H ρ' F' H') : Pq K XA W D B ρ' F' H' o := by
  cases o with
  | fl f E h =>
    cases f with
    | nx => exact fun σ ρ2 F2 H2 fr y => p σ ρ2 F2 H2 fr (x.trans y)
    | bk => exact fun σ ρ2 F2 H2 fr y => p σ ρ2 F2 H2 fr (x.trans y)
    | ct => exact fun σ ρ2 F2 H2 fr y => p σ ρ2 F2 H2 fr (x.trans y)
    | rt d => exact fun v σ ρ2 F2 H2 fr y => p v σ ρ2 F2 H2 fr (x.trans y)
  | exc e E h => exact fun c dd σ ρ2 F2 H2 fr y => p c dd σ ρ2 F2 H2 fr (x.trans y)
  | bad => exact p
/-- an expression, then the rest -/
theorem ev1 {α β : Type} {m : R α} {k : α → S} {Rel : RelT β α} (f : Fr K XA B ρ F H h E σ) (p : Pq K XA W D B ρ F H (S.ev m E k h)) :
    Po K XA (fun c d H' => W c d σ H') ρ F H (m h) Rel fun b H1 => ∃ ρ1 F1 h1 a, Fr K XA B ρ1 F1 H1 h1 E σ ∧ Fs ρ F H ρ1 F1 H1 ∧ Rel ρ1 F1 H1 h1 b a ∧ Pq K XA W D B ρ1 F1 H1 (k a h1) := by
  unfold S.ev at p
  cases e : m h with
  | ok a h1 =>
    rw [e] at p
    exact fun b ρ1 H1 x w r => ⟨ρ1, _, h1, a, f.xt x w, .of_xt f.wd w x, r, Pq.re p (.of_xt f.wd w x)⟩
  | exc ex h1 =>
    rw [e] at p
    exact fun c dd ρ1 H1 x w r => p c dd σ ρ1 _ H1 (f.xt x w) (.of_xt f.wd w x) r
  | bad =>
    rw [e] at p
    exact p
theorem ev2 {α β : Type} {m : Env → R α} {k : α → S} {Rel : RelT β α} (f : Fr K XA B ρ F H h E σ) (p : Pq K XA W D B ρ F H (S.ev (m E) E k h)) :
    tG K XA W Rel m σ H fun b H1 => ∃ ρ1 F1 h1 a, Fr K XA B ρ1 F1 H1 h1 E σ ∧ Fs ρ F H ρ1 F1 H1 ∧ Rel ρ1 F1 H1 h1 b a ∧ Pq K XA W D B ρ1 F1 H1 (k a h1) :=
  ⟨ρ, F, h, E, f.wd, f.env, ev1 f p⟩
/-- m, then k -/
theorem Pq.andThen {m : S} {k : Env → S} (p : Pq K XA W D B ρ F H (S.andThen m k h)) : Pq K XA W { D with nx := tS K XA W k D } B ρ F H (m h) := by
  unfold S.andThen at p
  cases e : m h with
  | fl f E h1 =>
    rw [e] at p
    cases f with
    | nx => exact fun σ ρ' F' H' fr x => ⟨B, ρ', F', h1, E, fr, Pq.re p x⟩
    | bk => exact p
    | ct => exact p
    | rt d => exact p
  | exc ex E h1 => rw [e] at p; exact p
  | bad => rw [e] at p; exact p
/-- a walk's turn, then the rest -/
theorem Pq.turn {m : S} {k : Env → S} {N : L2.St → Hp → Prop} (p : Pq K XA W D B ρ F H (S.turn m k h))
    (hN : ∀ σ ρ' F' H' h' E', Fr K XA B ρ' F' H' h' E' σ → Fs ρ F H ρ' F' H' → Pq K XA W D B ρ' F' H' (k E' h') → N σ H') : Pq K XA W { D with nx := N, ct := N, bk := D.nx } B ρ F H (m h) := by
  unfold S.turn at p
  cases e : m h with
  | fl f E h1 =>
    rw [e] at p
    cases f with
    | nx => exact fun σ ρ' F' H' fr x => hN σ ρ' F' H' h1 E fr x (Pq.re p x)
    | ct => exact fun σ ρ' F' H' fr x => hN σ ρ' F' H' h1 E fr x (Pq.re p x)
    | bk => exact p
    | rt d => exact p
  | exc ex E h1 => rw [e] at p; exact p
  | bad => rw [e] at p; exact p
theorem Pq.nx (f : Fr K XA B ρ F H h E σ) (p : Pq K XA W D B ρ F H (.fl .nx E h)) : D.nx σ H := p σ ρ F H f .refl
end

/-! ### the frame's turns -/
section
variable {K : PySem.W.Frag} {XA : Nat → Option Addr} {B : Base} {ρ : Rho} {F : Addr → Prop} {H : Hp} {h : Hs} {E E' : Env} {σ σ' : L2.St}
mutual
def ntL : NT → List Nat
  | .nm i => [i]
  | .tp ts => ntsL ts
def ntsL : NTs → List Nat
  | .nil => []
  | .cons t ts => ntL t ++ ntsL ts
end
mutual
theorem ntIn_of : ∀ {t : NT} {us : List Nat}, (∀ i ∈ ntL t, i ∈ us) → ntIn t us = true
  | .nm i, us, h => by
    unfold ntIn
    exact List.contains_iff_mem.mpr (h i (by simp [ntL]))
  | .tp ts, us, h => by
    unfold ntIn
    exact ntsIn_of fun i hi => h i (by unfold ntL; exact hi)
theorem ntsIn_of : ∀ {ts : NTs} {us : List Nat}, (∀ i ∈ ntsL ts, i ∈ us) → ntsIn ts us = true
  | .nil, _, _ => rfl
  | .cons t ts, us, h => by
    unfold ntsIn
    rw [ntIn_of fun i hi => h i (by unfold ntsL; exact List.mem_append_left _ hi), ntsIn_of fun i hi => h i (by unfold ntsL; exact List.mem_append_right _ hi)]
    rfl
end
mutual
theorem bindT_own : ∀ {t : NT} {d : D} {E E' : Env} {i : Nat} {q : D}, bindT t d E = some E' → E'[i]? = some (.own q) → i ∉ ntL t ∧ E[i]? = some (.own q)
  | .nm j, d, E, E', i, q, e, h => by
    unfold bindT at e
    cases e
    by_cases z : j = i
    · subst z
      have hl : j < E.length := by
        have := (List.getElem?_eq_some_iff.mp h).1
        rwa [List.length_set] at this
      rw [List.getElem?_set_self hl] at h
      cases h
    · rw [List.getElem?_set_ne z] at h
      exact ⟨by unfold ntL; simp; exact fun y => z y.symm, h⟩
  | .tp ts, d, E, E', i, q, e, h => by
    unfold bindT at e
    cases d with
    | tup xs => exact bindTs_own (ts := ts) e h
    | _ => cases e
theorem bindTs_own : ∀ {ts : NTs} {ds : List D} {E E' : Env} {i : Nat} {q : D}, bindTs ts ds E = some E' → E'[i]? = some (.own q) → i ∉ ntsL ts ∧ E[i]? = some (.own q)
  | .nil, ds, E, E', i, q, e, h => by
    unfold bindTs at e
    cases ds with
    | nil => cases e; exact ⟨by unfold ntsL; simp, h⟩
    | cons => cases e
  | .cons t ts, ds, E, E', i, q, e, h => by
    unfold bindTs at e
    cases ds with
    | nil => cases e
    | cons d ds =>
      cases e2 : bindT t d E with
      | none => simp only [e2] at e; cases e
      | some E1 =>
        simp only [e2] at e
        obtain ⟨a1, a2⟩ := bindTs_own e h
        obtain ⟨b1, b2⟩ := bindT_own e2 a2
        exact ⟨by unfold ntsL; simp; exact ⟨b1, a1⟩, b2⟩
end
theorem wipe_at {σ : L2.St} {i : Nat} : ∀ {vs : List Nat}, i ∉ vs → (L2.wipe σ vs)[i]? = σ[i]?
  | [], _ => rfl
  | v :: vs, h => by
    simp only [List.mem_cons, not_or] at h
    show ((L2.wipe σ vs).set v none)[i]? = _
    rw [List.getElem?_set_ne (Ne.symm h.1), wipe_at h.2]
/-- behind a target -/
theorem Fr.bind (f : Fr K XA B ρ F H h E σ) {t : NT} {d : D} (e : bindT t d E = some E') (r : EnvR K XA ρ F H E' σ') (sh : ∀ vs, ntIn t vs = true → L2.wipe σ' vs = L2.wipe σ vs) : Fr K XA B ρ F H h E' σ' :=
  ⟨f.wd, r, f.rho, f.new, f.keep, fun i d a e1 e2 => by
    obtain ⟨n, e3⟩ := bindT_own e e1
    have z := congrArg (fun l : L2.St => l[i]?) (sh (ntL t) (ntIn_of fun i hi => hi))
    simp only [wipe_at n] at z
    exact f.own i d a e3 (by rw [← z]; exact e2), f.sup, f.t0⟩
/-- a new list, a new dict, known to nobody -/
def RelNew (K : PySem.W.Frag) : RelT V D := fun ρ F H h v d => ∃ a, v = .ref a ∧ ¬ F a ∧ ¬ ρ.B a ∧ OwnC K ρ (fun b => F b ∨ b = a) H a d ∧ Wd K ρ (fun b => F b ∨ b = a) H h
theorem RdG.new_of {ρ : Rho} {v : V} {d : D} (hd : moOf d ≠ none) (r : RdG K ρ F H h v d) : RelNew K ρ F H h v d := by
  cases r with
  | old n _ => exact absurd n hd
  | new r w n =>
    cases r with
    | own nf c => exact ⟨_, rfl, nf, n, c, w⟩
theorem EnvR.setOwn {a : Addr} {d : D} (r : EnvR K XA ρ F H E σ) (hn : ∀ (i : Nat) (q : D), E[i]? = some (Slot.own q) → σ[i]? ≠ some (some (V.ref a))) {i : Nat} (fa : F a) (na : ¬ ρ.has a) (c : OwnC K ρ F H a d) : EnvR K XA ρ F H (E.set i (.own d)) (σ.set i (some (.ref a))) := by
  refine ⟨by rw [List.length_set, List.length_set]; exact r.len, fun j s u h1 h2 => ?_, fun j l d1 d2 b h1 h2 h3 h4 => ?_⟩
  · by_cases e : i = j
    · subst e
      have hl : i < E.length := by
        have := (List.getElem?_eq_some_iff.mp h1).1
        rwa [List.length_set] at this
      rw [List.getElem?_set_self hl] at h1
      rw [List.getElem?_set_self (by rw [← r.len]; exact hl)] at h2
      cases h1
      cases h2
      exact ⟨a, rfl, fa, na, c⟩
    · rw [List.getElem?_set_ne e] at h1 h2
      exact r.at_ j s u h1 h2
  · have g : ∀ {j : Nat} {d1 : D}, (E.set i (.own d))[j]? = some (.own d1) → (σ.set i (some (.ref a)))[j]? = some (some (.ref b)) → (i = j ∧ b = a) ∨ (i ≠ j ∧ E[j]? = some (.own d1) ∧ σ[j]? = some (some (.ref b))) := fun {j d1} h1 h3 => by
      by_cases e : i = j
      · subst e
        have hl : i < E.length := by
          have := (List.getElem?_eq_some_iff.mp h1).1
          rwa [List.length_set] at this
        rw [List.getElem?_set_self (by rw [← r.len]; exact hl)] at h3
        cases h3
        exact .inl ⟨rfl, rfl⟩
      · rw [List.getElem?_set_ne e] at h1 h3
        exact .inr ⟨e, h1, h3⟩
    rcases g h1 h3 with ⟨a1, a2⟩ | ⟨a1, a2, a3⟩ <;> rcases g h2 h4 with ⟨b1, b2⟩ | ⟨b1, b2, b3⟩
    · rw [← a1, ← b1]
    · subst a2; exact absurd b3 (hn l _ b2)
    · subst b2; exact absurd a3 (hn j _ a2)
    · exact r.inj j l d1 d2 b a2 b2 a3 b3
/-- what the slot i owns is turned -/
theorem Fr.turn (f : Fr K XA B ρ F H h E σ) {i : Nat} {a : Addr} {d d' : D} {o : HO} (e : E[i]? = some (.own d)) (e2 : σ[i]? = some (some (.ref a))) (c : OwnC K ρ F (upd H a o) a d') :
    Fr K XA B ρ F (upd H a o) h (E.set i (.own d')) σ ∧ Fs ρ F H ρ F (upd H a o) := by
  have hi : i < E.length := (List.getElem?_eq_some_iff.mp e).1
  have hi2 : i < σ.length := by rw [← f.env.len]; exact hi
  obtain ⟨b, eb, fa, na, c0⟩ := f.env.at_ i _ _ e e2
  cases eb
  have hk : ∀ b o', ¬ F b → H b = some o' → upd H a o b = some o' := fun b o' n e => by
    rw [upd_ne (show b ≠ a from fun z => n (by rw [z]; exact fa))]
    exact e
  have live : ∀ b, H b ≠ none → upd H a o b ≠ none := fun b n => live_new n
  have hset : σ.set i (some (.ref a)) = σ := by
    have : σ[i]? = some σ[i] := List.getElem?_eq_getElem hi2
    rw [this] at e2
    have e3 : σ[i] = some (V.ref a) := Option.some.inj e2
    rw [← e3, List.set_getElem_self]
  have r2 : EnvR K XA ρ F (upd H a o) (E.set i (.own d')) (σ.set i (some (.ref a))) := by
    have r0 : EnvR K XA ρ F (upd H a o) (E.set i .no) (σ.set i (some (.ref a))) := by
      have r1 : EnvR K XA ρ F H (E.set i .no) (σ.set i (some (.ref a))) := f.env.setNo
      refine ⟨r1.len, fun j s u h1 h2 => ?_, r1.inj⟩
      have q := r1.at_ j s u h1 h2
      cases s with
      | no => trivial
      | exn e => cases u <;> trivial
      | val d =>
        cases u with
        | none => exact q.elim
        | some u => exact Rd.mv (fun _ _ e => e) (fun _ _ q => q) hk (show Rd K ρ F H u d from q)
      | own d =>
        cases u with
        | none => exact q.elim
        | some u =>
          obtain ⟨b, e1, fb, nb, c⟩ := q
          subst e1
          refine ⟨b, rfl, fb, nb, c.mv (fun _ _ e => e) (fun _ _ q => q) hk fun o' e' => ?_⟩
          have hne : b ≠ a := fun z => by
            subst z
            have hij : i ≠ j := fun y => by
              subst y
              rw [List.getElem?_set_self hi] at h1
              cases h1
            rw [List.getElem?_set_ne hij] at h1 h2
            exact hij (f.env.inj i j _ _ _ e h1 e2 h2)
          rw [upd_ne hne]
          exact e'
    have hn : ∀ (j : Nat) (q : D), (E.set i Slot.no)[j]? = some (Slot.own q) → (σ.set i (some (V.ref a)))[j]? ≠ some (some (V.ref a)) := fun j q h1 h2 => by
      have hij : i ≠ j := fun y => by
        subst y
        rw [List.getElem?_set_self hi] at h1
        cases h1
      rw [List.getElem?_set_ne hij] at h1 h2
      exact hij (f.env.inj i j _ _ _ e h1 e2 h2)
    have := r0.setOwn hn (i := i) fa na c
    rwa [List.set_set, List.set_set] at this
  rw [hset] at r2
  have hot : ∀ vs, o ≠ .tup vs := fun vs z => by
    subst z
    cases d' with
    | lst xs => obtain ⟨us, e, _⟩ := c; rw [upd_same] at e; cases e
    | dct tk kvs =>
      cases tk with
      | true => obtain ⟨us, e, _⟩ := c; rw [upd_same] at e; cases e
      | false => obtain ⟨us, e, _⟩ := c; rw [upd_same] at e; cases e
    | _ => exact c.elim
  refine ⟨⟨f.wd.turn na fa hot, r2, f.rho, f.new, fun b o' n eb => ?_, fun j d1 b h1 h2 => ?_, f.sup, f.t0⟩, fun _ _ e => e, fun _ q => .inl q, hk, fun _ _ q => q, live⟩
  · have h0 := f.own i d a e e2
    rw [upd_ne (fun z => by rw [z, h0] at eb; cases eb)]
    exact f.keep b o' n eb
  · by_cases z : i = j
    · subst z
      rw [e2] at h2
      cases h2
      exact f.own i d _ e e2
    · rw [List.getElem?_set_ne z] at h1
      exact f.own j d1 b h1 h2
/-- a list among the objects is turned -/
theorem Fr.turnO (f : Fr K XA B ρ F H h E σ) {n : Nat} {a : Addr} {m : MO} {o : HO} {m0 : MO} (e0 : h[n]? = some m0) (e : ρ n = some a) (hm : MOk K ρ F (upd H a o) a m) :
    Fr K XA B ρ F (upd H a o) (h.set n m) E σ ∧ Fs ρ F H ρ F (upd H a o) := by
  have fa : F a := f.wd.sub a ⟨n, e⟩
  have hk : ∀ b o', ¬ F b → H b = some o' → upd H a o b = some o' := fun b o' n e => by
    rw [upd_ne (show b ≠ a from fun z => n (by rw [z]; exact fa))]
    exact e
  have hl : n < h.length := (List.getElem?_eq_some_iff.mp e0).1
  refine ⟨⟨⟨fun k hk => f.wd.fin k (by rw [List.length_set] at hk; exact hk), f.wd.inj, fun k q ek => ?_, f.wd.sub, fun b q => live_new (f.wd.trk b q), fun b q => live_new (f.wd.bs b q), fun b vs q => ?_⟩, ?_, f.rho, f.new, fun b o' nb eb => ?_, f.own, f.sup, f.t0⟩, fun _ _ e => e, fun _ q => .inl q, hk, fun _ _ q => q, fun b q => live_new q⟩
  · by_cases z : n = k
    · subst z
      rw [List.getElem?_set_self hl] at ek
      cases ek
      exact ⟨a, e, hm⟩
    · rw [List.getElem?_set_ne z] at ek
      obtain ⟨b, eb, mo⟩ := f.wd.obj k q ek
      have hne : b ≠ a := fun y => z (f.wd.inj n k a e (y ▸ eb))
      exact ⟨b, eb, mo.mv (fun _ _ e => e) (fun _ _ q => q) hk fun o' e' => by rw [upd_ne hne]; exact e'⟩
  · by_cases z : b = a
    · subst z
      cases m with
      | lst xs => obtain ⟨us, e, _⟩ := hm; rw [e]; intro y; cases y
      | dct _ _ => exact hm.elim
      | ins _ _ => exact hm.elim
    · rw [upd_ne z]; exact f.wd.nt b vs q
  · refine ⟨f.env.len, fun j s u h1 h2 => ?_, f.env.inj⟩
    have q := f.env.at_ j s u h1 h2
    cases s with
    | no => trivial
    | exn e => cases u <;> trivial
    | val d =>
      cases u with
      | none => exact q.elim
      | some u => exact Rd.mv (fun _ _ e => e) (fun _ _ q => q) hk (show Rd K ρ F H u d from q)
    | own d =>
      cases u with
      | none => exact q.elim
      | some u =>
        obtain ⟨b, e1, fb, nb, c⟩ := q
        subst e1
        exact ⟨b, rfl, fb, nb, c.mv (fun _ _ e => e) (fun _ _ q => q) hk fun o' e' => by rw [upd_ne (show b ≠ a from fun z => nb (by rw [z]; exact ⟨n, e⟩))]; exact e'⟩
  · rcases f.new a ⟨n, e⟩ with z | z
    · rw [upd_ne (show b ≠ a from fun y => nb (by rw [y]; exact z))]
      exact f.keep b o' nb eb
    · rw [upd_ne (fun y => by rw [y, z] at eb; cases eb)]
      exact f.keep b o' nb eb
/-- a new list for the slot i -/
theorem Fr.setNew {ρ1 : Rho} {F1 : Addr → Prop} {H1 : Hp} {h1 : Hs} {v : V} {d : D} {i : Nat} (f : Fr K XA B ρ F H h E σ) (hB : ρ1.B = fun a => H a ≠ none) (f1 : Fr K XA B ρ1 F1 H1 h1 E σ) (x : Fs ρ F H ρ1 F1 H1) (r : RelNew K ρ1 F1 H1 h1 v d) (hdF : ∀ a, F a → F1 a) (hkr : ∀ a o, ¬ ρ.has a → H a = some o → H1 a = some o) :
    ∃ F2, Fr K XA B ρ1 F2 H1 h1 (E.set i (.own d)) (σ.set i (some v)) ∧ Fs ρ F H ρ1 F2 H1 := by
  obtain ⟨a, rfl, nF, nB, c, w⟩ := r
  have hHa : H a = none := by
    cases e : H a with
    | none => rfl
    | some o => exact absurd (show ρ1.B a by rw [hB]; show H a ≠ none; rw [e]; simp) nB
  have hB0 : B.H a = none := by
    cases e : B.H a with
    | none => rfl
    | some o =>
      by_cases z : B.ρ.has a
      · obtain ⟨n, en⟩ := z
        exact absurd hHa (f.wd.trk a (f.wd.sub a ⟨n, f.rho n a en⟩))
      · rw [f.keep a o z e] at hHa; cases hHa
  have na : ¬ ρ1.has a := fun z => nF (f1.wd.sub a z)
  have r1 : EnvR K XA ρ1 (fun b => F1 b ∨ b = a) H1 E σ := f.env.mv f.wd.sub x.rho x.new (fun b n q => q.elim (x.old b n) fun z => by rw [z] at n; exact absurd hHa n) (fun b q => .inl (hdF b q)) hkr
  have hn : ∀ (j : Nat) (q : D), E[j]? = some (Slot.own q) → σ[j]? ≠ some (some (V.ref a)) := fun j q h1 h2 => by
    obtain ⟨b, eb, fb, nb, cb⟩ := f.env.at_ j _ _ h1 h2
    cases eb
    exact absurd hHa cb.some
  refine ⟨_, ⟨w, r1.setOwn hn (.inr rfl) na c, f1.rho, f1.new, f1.keep, fun j d1 b g1 g2 => ?_, fun b q => .inl (f1.sup b q), f1.t0⟩, x.rho, x.new, x.keep, fun b n q => q.elim (x.old b n) fun z => (by rw [z] at n; exact absurd hHa n), x.live⟩
  by_cases z : i = j
  · subst z
    have hl : i < E.length := by
      have := (List.getElem?_eq_some_iff.mp g1).1
      rwa [List.length_set] at this
    rw [List.getElem?_set_self (by rw [← f.env.len]; exact hl)] at g2
    cases g2
    exact hB0
  · rw [List.getElem?_set_ne z] at g1 g2
    exact f.own j d1 b g1 g2
end
end Ny

set_option maxHeartbeats 2000000
/-! Ny: the statements, one by one. -/
namespace Ny
open PySem PySem.Spec PyProof.Rows L2

/-! ### what a check of a statement looks at -/
def setB (ck : Ck) (sc : Scope) (x : Str) (i : Nat) : Bool := decide (ck.N[i]? = some x) && tbOf sc x
/-- no comprehension -/
def noComp : Expr → Bool
  | .ListComp .. => false
  | .SetComp .. => false
  | .DictComp .. => false
  | _ => true
/-- a name that a pair of stores may turn round -/
def swName (sc : Scope) (l : Nat) : Expr → Bool
  | .Name id pos => decide (sc.names.lookup id = some .local) && pos.line == l
  | _ => false
/-- the stores are not turned round -/
def noSwap (sc : Scope) : Expr → Expr → Bool
  | .Tuple ts _ _, .Tuple vs _ _ => !(ts.length == 2 || ts.length == 3) || (vs.length != ts.length || (!(ts.all (swName sc ((ts.head?.map (·.pos.line)).getD 0))) || vs.all (foldedForSure 8)))
  | .Name .., _ => true
  | .Tuple .., _ => true
  | _, _ => false
def parB (sc : Scope) (x y : Str) (px py : Pos) (a b : Expr) : Bool := decide (sc.kind = .function) && (notStar a && (notStar b && (decide (sc.names.lookup x = some .local) && (decide (sc.names.lookup y = some .local) && (px.line == py.line && (!(x == y) &&
  (!([a, b].all (foldedForSure 8)) && !([a, b].all (constantsAlone 8)))))))))
section
variable {X : Cx} {sc : Scope}
theorem noComp_of {e : Expr} {tg : Option Expr} {l : Nat} {env : PySem.Env} (h : noComp e = true) : swapsWith e tg l env = pure false := by
  cases e <;> first | rfl | cases h
theorem fm_len {α β : Type} {f : α → Option β} : ∀ {l : List α}, (l.filterMap f).length = l.length → ∀ x ∈ l, (f x).isSome = true
  | [], _, x, hx => by simp at hx
  | a :: l, h, x, hx => by
    have le := List.length_filterMap_le f l
    rw [List.filterMap_cons] at h
    cases e : f a with
    | none =>
      simp only [e, List.length_cons] at h
      omega
    | some b =>
      simp only [e, List.length_cons] at h
      rcases List.mem_cons.mp hx with z | z
      · rw [z, e]; rfl
      · exact fm_len (by omega) x z
theorem noSwap_of {tg v : Expr} (hsc : X.env.scope = sc) (h : noSwap sc tg v = true) : swappedStores [tg] v X.env = pure none := by
  cases tg with
  | Name x p => rfl
  | Tuple ts k p =>
    cases v with
    | Tuple vs k2 p2 =>
      unfold noSwap at h
      unfold swappedStores
      simp only
      split
      · rfl
      · rename_i c1
        split
        · rfl
        · split
          · rfl
          · rename_i c3
            cases hf : vs.all (foldedForSure 8) with
            | true => rfl
            | false =>
            exfalso
            have h : (!(ts.length == 2 || ts.length == 3) || (vs.length != ts.length || (!(ts.all (swName sc ((ts.head?.map (·.pos.line)).getD 0))) || vs.all (foldedForSure 8)))) = true := h
            rw [hf, Bool.or_false] at h
            simp only [Bool.or_eq_true, not_or] at c1 c3 h
            have hne : ¬ (ts.all (swName sc ((ts.head?.map (·.pos.line)).getD 0))) = true := fun z => by
              rcases h with h | h | h
              · exact c1.1.1 h
              · exact c1.1.2 h
              · rw [z] at h; cases h
            have z := c3.1
            rw [bne_iff_ne, Classical.not_not] at z
            refine hne (List.all_eq_true.mpr fun e he => ?_)
            have q := fm_len z e he
            cases e with
            | Name id pos =>
              simp only at q
              split at q
              · rename_i c
                obtain ⟨c1, c2⟩ := Bool.and_eq_true_iff.mp c
                unfold swName
                have c1 : X.env.scope.names.lookup id = some .local := eq_of_beq c1
                rw [hsc] at c1
                show (decide (sc.names.lookup id = some .local) && pos.line == (Option.map (fun x => x.pos.line) ts.head?).getD 0) = true
                rw [c1, c2]
                rfl
              · cases q
            | _ => simp at q
    | _ => rfl
  | _ => cases h
theorem par_of {x y : Str} {px py pt pt2 : Pos} {a b : Expr} {kt k2 : Nat} (hsc : X.env.scope = sc) (h : parB sc x y px py a b = true) :
    swappedStores [.Tuple [.Name x px, .Name y py] kt pt] (.Tuple [a, b] k2 pt2) X.env = pure (some [x, y]) := by
  unfold parB at h
  simp only [Bool.and_eq_true, decide_eq_true_eq, Bool.not_eq_true'] at h
  obtain ⟨h1, h2, h3, h4, h5, h6, h7, h8, h9⟩ := h
  have hb : X.env.blockKind = .function := by
    unfold Env.blockKind
    rw [hsc, h1]
    rfl
  have k1 : X.env.kindOf x = some .local := by
    show X.env.scope.names.lookup x = _
    rw [hsc]; exact h4
  have k2 : X.env.kindOf y = some .local := by
    show X.env.scope.names.lookup y = _
    rw [hsc]; exact h5
  have hs : ([a, b].any fun | .Starred .. => true | _ => false) = false := by
    clear h8 h9
    cases a <;> first | cases h2 | skip
    all_goals (cases b <;> first | rfl | cases h3)
  have hxy : (y == x) = false := by
    cases e : (y == x) with
    | false => rfl
    | true =>
      have := eq_of_beq e
      rw [this, beq_self_eq_true] at h7
      cases h7
  have hn : ([Expr.Name x px, Expr.Name y py].filterMap fun
      | .Name id pos => if X.env.kindOf id == some .local && pos.line == px.line then some id else none
      | _ => none) = [x, y] := by
    have l2 : (py.line == px.line) = true := by
      rw [eq_of_beq h6]
      exact beq_self_eq_true _
    simp only [List.filterMap_cons, k1, k2, l2, beq_self_eq_true, Bool.and_self, if_true, List.filterMap_nil]
  have hd : ([x, y].eraseDups.length != [x, y].length) = false := by
    have : [x, y].eraseDups = [x, y] := by
      simp [List.eraseDups_cons, hxy]
    rw [this]
    rfl
  unfold swappedStores
  simp only
  split
  · rename_i c
    exfalso
    rw [hb] at c
    exact absurd c (show ¬ ((!((2 : Nat) == 2 || (2 : Nat) == 3) || (2 : Nat) != 2 || ScopeKind.function != ScopeKind.function) = true) by decide)
  · split
    · rename_i c
      exact absurd (hs.symm.trans c) Bool.false_ne_true
    · have hn2 := hn
      split
      · rename_i c
        exfalso
        have c2 : ((([Expr.Name x px, Expr.Name y py].filterMap fun
          | .Name id pos => if X.env.kindOf id == some .local && pos.line == px.line then some id else none
          | _ => none).length != 2) || (([Expr.Name x px, Expr.Name y py].filterMap fun
          | .Name id pos => if X.env.kindOf id == some .local && pos.line == px.line then some id else none
          | _ => none).eraseDups.length != ([Expr.Name x px, Expr.Name y py].filterMap fun
          | .Name id pos => if X.env.kindOf id == some .local && pos.line == px.line then some id else none
          | _ => none).length)) = true := c
        rw [hn, hd] at c2
        exact absurd c2 (show ¬ (((2 : Nat) != 2 || false) = true) by decide)
      · split
        · rename_i c
          exact absurd (h8.symm.trans c) Bool.false_ne_true
        · split
          · rename_i c
            exact absurd (h9.symm.trans c) Bool.false_ne_true
          · exact congrArg (fun l => (pure (some l) : Sem (Option (List Str)))) hn
end

structure GoodS (XA : Nat → Option Addr) (T : Tab) (XT : XTab) (C : Call) (k : Nat) (ck : Ck) (sc : Scope) (X : Cx) (W : WX) : Prop extends Good XA T C k ck sc X where
  po : PassesOwn (model X.prog X.w) X.A X.env X.xe
  tk : Takes X W
  hs : X.stack = X.env :: X.outer
  hf : X.env.frame = some X.env.locals
  fnT : ∀ x, X.fn x = true
  exc : ∀ p ∈ ck.exc, ∃ (Cc : Addr) (bmB : List Value) (Bb newId initId : String), ExcBaseFacts Bb newId initId bmB ∧ PySem.W.excIn X.K Cc bmB newId = true ∧ X.mg p.1 = some (.ref Cc) ∧ PySem.W.keepIn X.K (.ref Cc) = true ∧ Raises X (.ref Cc) ∧ XA p.2 = some Cc ∧ XT.fields[p.2]? = some []
  below : ∀ (c : Nat) (Cc : Addr), XA c = some Cc → ∀ p ∈ ck.exc, ∀ Cc', XA p.2 = some Cc' → PySem.W.exmOne X.K (.ref Cc) (.ref Cc') = some (XT.below c p.2)
section
variable {XA : Nat → Option Addr} {T : Tab} {XT : XTab} {C : Call} {k : Nat} {ck : Ck} {sc : Scope} {X : Cx} {W : WX}
theorem GoodS.pas (g : GoodS XA T XT C k ck sc X W) : Pas X W := fun σ => passAt g.tk σ
theorem GoodS.tr (g : GoodS XA T XT C k ck sc X W) {W' : WX} {pn : List (Addr × Obj)} {xe : Value → Shared → Prop} (tk : Takes (X.tr pn xe) W') (po : PassesOwn (model X.prog X.w) X.A X.env xe) : GoodS XA T XT C k ck sc (X.tr pn xe) W' where
  toGood := ⟨⟨g.scope, g.names, g.nd, g.blt, g.cst, g.tcst⟩, g.calm, g.fns, g.kws, g.kar, g.ar, g.room, g.sorts, g.sets⟩
  po := po
  tk := tk
  hs := g.hs
  hf := g.hf
  fnT := g.fnT
  exc := fun p hp => by
    obtain ⟨Cc, bmB, Bb, n1, n2, a1, a2, a3, a4, a5, a6, a7⟩ := g.exc p hp
    exact ⟨Cc, bmB, Bb, n1, n2, a1, a2, a3, a4, a5, a6, a7⟩
  below := g.below
theorem tb_of (g : GoodQ ck sc X) (fnT : ∀ x, X.fn x = true) {x : Str} (h : tbOf sc x = true) : Loc X.env.scope x ∧ (X.fn x = true ∨ X.env.scope.names.lookup x = some .local) := by
  refine ⟨?_, .inl (fnT x)⟩
  unfold tbOf at h
  rw [g.scope]
  split at h
  · rename_i e; exact .inl e
  · rename_i e; exact .inr e
  · cases h
theorem vis_loc {sc : Scope} {x : Str} (h : Loc sc x) : Vis sc x := h.elim .inl fun z => .inr (.inl z)
abbrev OkS (K : PySem.W.Frag) (XA : Nat → Option Addr) (W : WX) (X : Cx) (st : Stmt) (m : Env → S) : Prop := PS X st (tS K XA W m)

theorem t_pass {pos : Pos} : PS X (.Pass pos) (tS X.K XA W fun E => S.done .nx E) := PS.imp ps_pass fun D σ H ⟨B, ρ, F, h, E, f, p⟩ => Pq.nx f p
theorem t_doc {x j pos pos'} : PS X (.Expr (.Constant (.str x) j pos) pos') (tS X.K XA W fun E => S.done .nx E) := PS.imp ps_doc fun D σ H ⟨B, ρ, F, h, E, f, p⟩ => Pq.nx f p
theorem t_brk {pos : Pos} : PS X (.Break pos) (tS X.K XA W fun E => S.done .bk E) := PS.imp ps_break fun D σ H ⟨B, ρ, F, h, E, f, p⟩ => p σ ρ F H f .refl
theorem t_cont {pos : Pos} : PS X (.Continue pos) (tS X.K XA W fun E => S.done .ct E) := PS.imp ps_continue fun D σ H ⟨B, ρ, F, h, E, f, p⟩ => p σ ρ F H f .refl
theorem t_retN {pos : Pos} : PS X (.Return none pos) (tS X.K XA W fun E => S.done (.rt .non) E) := PS.imp ps_retN fun D σ H ⟨B, ρ, F, h, E, f, p⟩ => p .non σ ρ F H f .refl .non
variable {e : Expr} {m : Env → R D} {pos : Pos} {fr : List Nat}
theorem t_ret (he : PE X e (tG X.K XA W (lf (Rd X.K)) m)) : PS X (.Return (some e) pos) (tS X.K XA W fun E => S.ev (m (freeze E fr)) (freeze E fr) fun d => S.done (.rt d) (freeze E fr)) := by
  refine PS.imp (ps_ret he) fun D σ H ⟨B, ρ, F, h, E, f, p⟩ => ?_
  obtain ⟨F', f', lF⟩ := f.freeze (fr := fr)
  refine tG_mono (ev2 f' (p.re (.less lF))) fun v H1 ⟨ρ1, F1, h1, d, f1, x1, r, p1⟩ => ?_
  exact p1 v σ ρ1 F1 H1 f1 .refl r
theorem t_expr (he : PE X e (tG X.K XA W (lf (Rd X.K)) m)) (hn : noComp e = true) : PS X (.Expr e pos) (tS X.K XA W fun E => S.ev (m E) E fun _ => S.done .nx E) := by
  refine PS.imp (ps_expr he (noComp_of hn)) fun D σ H ⟨B, ρ, F, h, E, f, p⟩ => ?_
  refine tG_mono (ev2 f p) fun v H1 ⟨ρ1, F1, h1, d, f1, x1, r, p1⟩ => ?_
  exact Pq.nx f1 p1
theorem t_asg (g : GoodQ ck sc X) {tg : Expr} {t : NT} (he : PE X e (tG X.K XA W (lf (Rd X.K)) m)) (hg : PG X tg (gT X.K XA t)) (hn : noComp e = true) (hw : noSwap sc tg e = true) (ha : (assignEach [tg] X.env).map (·.2) = [assign tg X.env]) :
    PS X (.Assign [tg] e pos) (tS X.K XA W fun E => S.ev (m (freeze E fr)) (freeze E fr) fun d => S.ofOpt (bindT t d (freeze E fr)) (S.done .nx)) := by
  refine PS.imp (ps_asg he hg (noComp_of hn) (noSwap_of g.scope hw) ha) fun D σ H ⟨B, ρ, F, h, E, f, p⟩ => ?_
  obtain ⟨F', f', lF⟩ := f.freeze (fr := fr)
  refine tG_mono (ev2 f' (p.re (.less lF))) fun v H1 ⟨ρ1, F1, h1, d, f1, x1, r, p1⟩ => ?_
  cases e1 : bindT t d (freeze E fr) with
  | none => rw [e1] at p1; exact p1.elim
  | some E1 =>
    rw [e1] at p1
    exact ⟨ρ1, F1, freeze E fr, d, E1, r, f1.env, e1, fun σ2 r2 sh => Pq.nx (f1.bind e1 r2 sh) p1⟩
/-- from the notes of the beginning -/
theorem Fr.note {K : PySem.W.Frag} {B : Base} {ρ : Rho} {F : Addr → Prop} {H : Hp} {h : Hs} {E : Env} {σ : L2.St} (f : Fr K XA B ρ F H h E σ) : Fr K XA B (Ny.reB ρ fun a => H a ≠ none) F H h E σ := f.reB fun a n => n
theorem Fs.reB {ρ ρ' : Rho} {F F' : Addr → Prop} {H H' : Hp} {Bs : Addr → Prop} (x : Fs ρ F H ρ' F' H') : Fs (Ny.reB ρ Bs) F H ρ' F' H' := ⟨x.rho, x.new, x.keep, x.old, x.live⟩
/-- as ev2, with the notes set -/
theorem ev2N {K : PySem.W.Frag} {D : Ends} {B : Base} {ρ : Rho} {F : Addr → Prop} {H : Hp} {h : Hs} {E : Env} {σ : L2.St} {α β : Type} {m : Env → R α} {k : α → S} {Rel : RelT β α} (f : Fr K XA B ρ F H h E σ) (p : Pq K XA W D B ρ F H (S.ev (m E) E k h)) :
    tG K XA W Rel m σ H fun b H1 => ∃ ρ1 F1 h1 a, Fr K XA B ρ1 F1 H1 h1 E σ ∧ Fs ρ F H ρ1 F1 H1 ∧ Rel ρ1 F1 H1 h1 b a ∧ Pq K XA W D B ρ F H (k a h1) ∧ (ρ1.B = fun a => H a ≠ none) ∧ (∀ a, F a → F1 a) ∧ (∀ a o, ¬ ρ.has a → H a = some o → H1 a = some o) := by
  have f0 := f.note
  refine ⟨_, F, h, E, f0.wd, f0.env, ?_⟩
  unfold S.ev at p
  cases e : m E h with
  | ok a h1 =>
    rw [e] at p
    exact fun b ρ1 H1 x w r => ⟨ρ1, _, h1, a, f0.xt x w, ⟨x.rho, x.new, fun a o n e => x.keep a o (fun q => n (f.wd.sub a q)) e, fun a n q => orR_of x f0.wd.sub a n q, (Fs.of_xt f0.wd w x).live⟩, r, p, x.bs, fun a q => .inl q, x.keep⟩
  | exc ex h1 =>
    rw [e] at p
    exact fun c dd ρ1 H1 x w r => p c dd σ ρ1 _ H1 (f0.xt x w) ⟨x.rho, x.new, fun a o n e => x.keep a o (fun q => n (f.wd.sub a q)) e, fun a n q => orR_of x f0.wd.sub a n q, (Fs.of_xt f0.wd w x).live⟩ r
  | bad =>
    rw [e] at p
    exact p
theorem moOf_eq {d : D} {o : MO} (h : moOf d = some o) : (∃ xs, d = .lst xs ∧ o = .lst xs) ∨ ∃ tk kvs, d = .dct tk kvs ∧ o = .dct tk kvs := by
  cases d <;> first | cases h | skip
  · exact .inl ⟨_, rfl, rfl⟩
  · exact .inr ⟨_, _, rfl, rfl⟩
def asgOwn (i : Nat) (m : Env → R D) (fr : List Nat) : Env → S := fun E => S.ev (m (freeze E fr)) (freeze E fr) (ownK i (freeze E fr))
theorem own_fin {K : PySem.W.Frag} {De : Ends} {B : Base} {ρ : Rho} {F : Addr → Prop} {H H1 : Hp} {h : Hs} {E : Env} {σ : L2.St} {i : Nat} {Rel : RelT V D} (hrel : ∀ ρ F H h v d o, Rel ρ F H h v d → moOf d = some o → RelNew K ρ F H h v d) (f : Fr K XA B ρ F H h E σ) {v : V}
    (q : ∃ ρ1 F1 h1 a, Fr K XA B ρ1 F1 H1 h1 E σ ∧ Fs ρ F H ρ1 F1 H1 ∧ Rel ρ1 F1 H1 h1 v a ∧ Pq K XA W De B ρ F H (ownK i E a h1) ∧ (ρ1.B = fun a => H a ≠ none) ∧ (∀ a, F a → F1 a) ∧ (∀ a o, ¬ ρ.has a → H a = some o → H1 a = some o)) : De.nx (σ.set i (some v)) H1 := by
  obtain ⟨ρ1, F1, h1, d, f1, x1, r, p1, eB, hF, hk⟩ := q
  unfold ownK at p1
  cases e1 : moOf d with
  | none =>
    rw [e1] at p1
    exact p1.elim
  | some o =>
    rw [e1] at p1
    obtain ⟨F2, f2, x2⟩ := f.setNew (i := i) eB f1 x1 (hrel _ _ _ _ _ _ o r e1) hF hk
    exact p1 _ ρ1 F2 H1 f2 x2
theorem own_relG {K : PySem.W.Frag} : ∀ (ρ : Rho) (F : Addr → Prop) (H : Hp) (h : Hs) (v : V) (d : D) (o : MO), RdG K ρ F H h v d → moOf d = some o → RelNew K ρ F H h v d := fun ρ F H h v d o r e => by
  exact r.new_of (by rw [e]; nofun)
/-- name = a new list -/
theorem t_own (g : GoodQ ck sc X) {x : Str} {i : Nat} {px : Pos} (fnT : ∀ x, X.fn x = true) (hb : setB ck sc x i = true) (hn : noComp e = true) (he : PE X e (tG X.K XA W (RdG X.K) m)) : PS X (.Assign [.Name x px] e pos) (tS X.K XA W (asgOwn i m fr)) := by
  obtain ⟨h1, h2⟩ := Bool.and_eq_true_iff.mp hb
  obtain ⟨l, _⟩ := tb_of g fnT h2
  refine PS.imp (ps_set (by rw [g.names]; exact g.nd) (by rw [g.names]; exact of_decide_eq_true h1) l he (noComp_of hn) (.inl (fnT x))) fun D σ H ⟨B, ρ, F, h, E, f, p⟩ => ?_
  obtain ⟨F', f', lF⟩ := f.freeze (fr := fr)
  exact tG_mono (ev2N (m := m) f' (p.re (.less lF))) fun v H1 q => own_fin own_relG f' q
def emptyHO (tk : Bool) : HO := match tk with
  | true => .dT []
  | false => .dK []
/-- name = {} -/
theorem s_dct0 {tk : Bool} {De : Ends} {σ : L2.St} {H : Hp} {i : Nat} {B : Base} {ρ : Rho} {F : Addr → Prop} {h : Hs} {E : Env} (f : Fr X.K XA B ρ F H h E σ) (p : Pq X.K XA W De B ρ F H (.fl .nx (E.set i (.own (.dct tk []))) h)) {a : Addr} (h0 : H a = none) :
    De.nx (σ.set i (some (.ref a))) (upd H a (emptyHO tk)) := by
  have f0 := f.note
  have w2 := f0.wd.upd_new (o := (emptyHO tk)) h0
  have x2 := xt_new (ρ := Ny.reB ρ fun a => H a ≠ none) (o := (emptyHO tk)) h0
  have eo : orR F (Ny.reB ρ fun a => H a ≠ none) = F := orR_self f.wd.sub
  have f1 := f0.xt x2 (h' := h) (by rw [eo]; exact w2)
  rw [eo] at f1
  have hx : Fs ρ F H (Ny.reB ρ fun a => H a ≠ none) F (upd H a (emptyHO tk)) := ⟨fun _ _ e => e, fun _ q => .inl q, fun b o n e => x2.keep b o (fun z => n (f.wd.sub b z)) e, fun _ _ q => q, fun b n => live_new n⟩
  obtain ⟨F2, f2, y2⟩ := f.setNew (i := i) (v := .ref a) (d := .dct tk []) rfl f1 hx ⟨a, rfl, fun z => f.wd.trk a z h0, fun z => z h0, (by cases tk with | true => exact ⟨[], upd_same, .nil⟩ | false => exact ⟨[], upd_same, .nil⟩), f0.wd.new_in h0 (by cases tk <;> (intro vs z; cases z))⟩ (fun _ q => q) x2.keep
  · exact p _ _ F2 _ f2 y2
theorem t_dct0 (g : GoodQ ck sc X) {x : Str} {i : Nat} {px p2 : Pos} (tk : Bool) (fnT : ∀ x, X.fn x = true) (hb : setB ck sc x i = true) : PS X (.Assign [.Name x px] (.Dict [] [] p2) pos) (tS X.K XA W (asgOwn i (fun _ => R.pure (.dct tk [])) fr)) := by
  obtain ⟨h1, h2⟩ := Bool.and_eq_true_iff.mp hb
  obtain ⟨l, _⟩ := tb_of g fnT h2
  cases tk with
  | true =>
    refine PS.imp (ps_set (by rw [g.names]; exact g.nd) (by rw [g.names]; exact of_decide_eq_true h1) l pe_dnewT (by rfl) (.inl (fnT x))) fun D σ H ⟨B, ρ, F, h, E, f, p⟩ => ?_
    obtain ⟨F', f', lF⟩ := f.freeze (fr := fr)
    exact fun a h0 => s_dct0 (tk := true) f' (Pq.re p (.less lF)) h0
  | false =>
    refine PS.imp (ps_set (by rw [g.names]; exact g.nd) (by rw [g.names]; exact of_decide_eq_true h1) l pe_dnewK (by rfl) (.inl (fnT x))) fun D σ H ⟨B, ρ, F, h, E, f, p⟩ => ?_
    obtain ⟨F', f', lF⟩ := f.freeze (fr := fr)
    exact fun a h0 => s_dct0 (tk := false) f' (Pq.re p (.less lF)) h0
end
end Ny

set_option maxHeartbeats 2000000
/-! Ny: the statements, the second part. -/
namespace Ny
open PySem PySem.Spec PyProof.Rows L2
section
variable {XA : Nat → Option Addr} {T : Tab} {XT : XTab} {C : Call} {k : Nat} {ck : Ck} {sc : Scope} {X : Cx} {W : WX}
variable {e : Expr} {m : Env → R D} {pos : Pos} {fr : List Nat}
theorem Rd.fs {K : PySem.W.Frag} {ρ ρ' : Rho} {F F' : Addr → Prop} {H H' : Hp} {v : V} {d : D} (r : Rd K ρ F H v d) (x : Fs ρ F H ρ' F' H') : Rd K ρ' F' H' v d := r.mv x.rho x.old x.keep
/-- a, b = x, y, turned round -/
theorem t_par (g : GoodS XA T XT C k ck sc X W) {x y : Str} {i j : Nat} {px py pt pt2 : Pos} {kt k2 : Nat} {a b : Expr} {ma mb : Env → R D} (hi : setB ck sc x i = true) (hj : setB ck sc y j = true) (hij : i ≠ j) (hp : parB sc x y px py a b = true)
    (ha : PE X a (tG X.K XA W (lf (Rd X.K)) ma)) (hb : PE X b (tG X.K XA W (lf (Rd X.K)) mb)) :
    PS X (.Assign [.Tuple [.Name x px, .Name y py] kt pt] (.Tuple [a, b] k2 pt2) pos) (tS X.K XA W fun E => S.ev (ma (freeze E fr)) (freeze E fr) fun u => S.ev (mb (freeze E fr)) (freeze E fr) fun v => S.done .nx (((freeze E fr).set i (.val u)).set j (.val v))) := by
  obtain ⟨i1, i2⟩ := Bool.and_eq_true_iff.mp hi
  obtain ⟨j1, j2⟩ := Bool.and_eq_true_iff.mp hj
  have hp0 := hp
  unfold parB at hp0
  simp only [Bool.and_eq_true, decide_eq_true_eq] at hp0
  obtain ⟨_, n1, n2, l1, l2, _⟩ := hp0
  refine PS.imp (ps_par g.calm (by rw [g.names]; exact g.nd) (by rw [g.names]; exact of_decide_eq_true i1) (by rw [g.names]; exact of_decide_eq_true j1) hij (by rw [g.scope]; exact l1) (by rw [g.scope]; exact l2)
    (pa_cons ha (pa_cons hb pa_nil (star_of n2)) (star_of n1)) (par_of g.scope hp)) fun De σ H ⟨B, ρ, F, h, E, f, p⟩ => ?_
  obtain ⟨F', f', lF⟩ := f.freeze (fr := fr)
  refine tG_mono (ev2 f' (p.re (.less lF))) fun v H1 ⟨ρ1, F1, h1, d1, f1, x1, r1, p1⟩ => ?_
  refine tG_mono (ev2 f1 p1) fun w H2 ⟨ρ2, F2, h2, d2, f2, x2, r2, p2⟩ => ?_
  refine ⟨v, w, rfl, ?_⟩
  have q1 : Rd X.K ρ2 F2 H2 v d1 := r1.fs x2
  have e1 : EnvR X.K XA ρ2 F2 H2 (((freeze E fr).set i (.val d1)).set j (.val d2)) ((σ.set i (some v)).set j (some w)) := (f2.env.setVal q1).setVal r2
  have b1 : bindT (.nm i) d1 (freeze E fr) = some ((freeze E fr).set i (.val d1)) := rfl
  have b2 : bindT (.nm j) d2 ((freeze E fr).set i (.val d1)) = some (((freeze E fr).set i (.val d1)).set j (.val d2)) := rfl
  have g1 := f2.bind b1 (f2.env.setVal q1) fun vs hv => wipe_set (List.contains_iff_mem.mp (by unfold ntIn at hv; exact hv))
  have g2 := g1.bind b2 e1 fun vs hv => wipe_set (List.contains_iff_mem.mp (by unfold ntIn at hv; exact hv))
  exact Pq.nx g2 p2
/-- op= on ints -/
def okAug : Operator → Bool
  | .Add => true
  | .Sub => true
  | .BitAnd => true
  | .BitOr => true
  | _ => false
def rAug (K : PySem.W.Frag) (op : Operator) : TIp := fun x y H Q => ∃ i j : Int, x = .int i ∧ y = .int j ∧ ∀ z, (∀ h, iopR op (.int i) (.int j) h = .ok (.int z) h) → Q (.int z) H
theorem ip_aug {op : Operator} (h : okAug op = true) : PIp X op (rAug X.K op) := by
  intro pins s σ H x y v u Q I r1 r2 hq
  obtain ⟨i, j, rfl, rfl, q⟩ := hq
  cases op <;> first | cases h | skip
  · exact iop_add pins s σ H _ _ v u Q I r1 r2 ⟨i, j, rfl, rfl, q _ fun _ => rfl⟩
  · exact iop_sub pins s σ H _ _ v u Q I r1 r2 ⟨i, j, rfl, rfl, q _ fun _ => rfl⟩
  · exact iop_or pins s σ H _ _ v u Q I r1 r2 ⟨i, j, rfl, rfl, q _ fun _ => rfl⟩
  · exact iop_and pins s σ H _ _ v u Q I r1 r2 ⟨i, j, rfl, rfl, q _ fun _ => rfl⟩
theorem iop_ok {op : Operator} (ho : okAug op = true) {d1 d2 : D} {h h' : Hs} {d : D} (e : iopR op d1 d2 h = .ok d h') : ∃ i j z : Int, d1 = .int i ∧ d2 = .int j ∧ d = .int z ∧ h' = h ∧ ∀ h, iopR op (.int i) (.int j) h = .ok (.int z) h := by
  unfold iopR at e
  split at e
  · rename_i i j
    cases op <;> first | cases ho | skip
    all_goals
      have e : Out.ok _ h = Out.ok d h' := e
      cases e
      exact ⟨i, j, _, rfl, rfl, rfl, rfl, fun _ => rfl⟩
  · cases e
theorem iop_nobad {op : Operator} (ho : okAug op = true) {d1 d2 : D} {h : Hs} (e : iopR op d1 d2 h ≠ .bad) : ∃ d, iopR op d1 d2 h = .ok d h := by
  cases d1 <;> first | exact absurd rfl e | skip
  cases d2 <;> first | exact absurd rfl e | skip
  cases op <;> first | cases ho | skip
  all_goals exact ⟨_, rfl⟩
theorem t_aug (g : GoodS XA T XT C k ck sc X W) {x : Str} {i : Nat} {px : Pos} {op : Operator} (hi : setB ck sc x i = true) (ho : okAug op = true) (he : PE X e (tG X.K XA W (lf (Rd X.K)) m)) :
    PS X (.AugAssign (.Name x px) op e pos) (tS X.K XA W fun E => S.ev (R.bind (R.ofOpt (getv E i)) fun x => R.bind (m E) fun y => iopR op x y) E fun d => S.done .nx (E.set i (.val d))) := by
  obtain ⟨i1, i2⟩ := Bool.and_eq_true_iff.mp hi
  obtain ⟨l, _⟩ := tb_of g.toGoodQ g.fnT i2
  refine PS.imp (ps_aug (by rw [g.names]; exact g.nd) (by rw [g.names]; exact of_decide_eq_true i1) l he (ip_aug ho) (.inl (g.fnT x))) fun De σ H ⟨B, ρ, F, h, E, f, p⟩ => ?_
  have p : Pq X.K XA W De B ρ F H (S.ev (R.bind (R.ofOpt (getv E i)) fun x => R.bind (m E) fun y => iopR op x y) E (fun d => S.done .nx (E.set i (.val d))) h) := p
  cases eg : getv E i with
  | none =>
    rw [eg] at p
    exact p.elim
  | some d0 =>
    obtain ⟨v, hv, q⟩ := f.env.val eg
    refine ⟨v, hv, ?_⟩
    have p : Pq X.K XA W De B ρ F H (S.ev (R.bind (m E) fun y => iopR op d0 y) E (fun d => S.done .nx (E.set i (.val d))) h) := by
      have e0 : R.bind (R.ofOpt (getv E i)) (fun x => R.bind (m E) fun y => iopR op x y) = R.bind (m E) fun y => iopR op d0 y := by rw [eg]; rfl
      rw [e0] at p
      exact p
    have e1 : (S.ev (R.bind (m E) fun y => iopR op d0 y) E (fun d => S.done .nx (E.set i (.val d)))) = S.ev (m E) E fun y => S.ev (iopR op d0 y) E fun d => S.done .nx (E.set i (.val d)) := by
      funext h
      unfold S.ev R.bind
      cases m E h <;> rfl
    rw [e1] at p
    refine tG_mono (ev2 f p) fun w H1 ⟨ρ1, F1, h1, d1, f1, x1, r1, p1⟩ => ?_
    have q1 : Rd X.K ρ1 F1 H1 v d0 := q.fs x1
    have nb : iopR op d0 d1 h1 ≠ .bad := fun z => by
      unfold S.ev at p1
      rw [z] at p1
      exact p1
    obtain ⟨d, ed⟩ := iop_nobad ho nb
    obtain ⟨a, b, z, rfl, rfl, rfl, _, ez⟩ := iop_ok ho ed
    cases q1
    cases r1
    refine ⟨a, b, rfl, rfl, fun z' hz' => ?_⟩
    have e2 := hz' h1
    rw [ez h1] at e2
    cases e2
    unfold S.ev at p1
    rw [ez h1] at p1
    have b1 : bindT (.nm i) (.int z) E = some (E.set i (.val (.int z))) := rfl
    exact Pq.nx (f1.bind b1 (f1.env.setVal (.int z)) fun vs hv => wipe_set (List.contains_iff_mem.mp (by unfold ntIn at hv; exact hv))) p1

/-! ### lists, dicts that are turned -/
theorem turn_lst {K : PySem.W.Frag} {De : Ends} {B : Base} {ρ : Rho} {F : Addr → Prop} {H : Hp} {h : Hs} {E : Env} {σ : L2.St} {i : Nat} {g : MO → Option MO} (f : Fr K XA B ρ F H h E σ) (p : Pq K XA W De B ρ F H (turnS E i g h)) (hd : ∀ tk kvs, E[i]? ≠ some (.own (.dct tk kvs)))
    (hg : ∀ m m', g m = some m' → (∃ tk kvs, m = .dct tk kvs) ∨ ∃ xs ys, m = .lst xs ∧ m' = .lst ys) :
    ∃ a vs xs ys, σ[i]? = some (some (.ref a)) ∧ H a = some (.lst vs) ∧ Rds K ρ F H vs xs ∧ g (.lst xs) = some (.lst ys) ∧ F a ∧ ∀ us, Rds K ρ F (upd H a (.lst us)) us ys → De.nx σ (upd H a (.lst us)) := by
  unfold turnS at p
  cases e : E[i]? with
  | none => rw [e] at p; exact p.elim
  | some sl =>
  rw [e] at p
  cases sl with
  | no => exact p.elim
  | exn => exact p.elim
  | own d =>
    cases eg : (moOf d).bind g with
    | none => simp only [eg] at p; exact p.elim
    | some o =>
      simp only [eg] at p
      cases em : moOf d with
      | none => rw [em] at eg; cases eg
      | some m0 =>
        rw [em] at eg
        have eg : g m0 = some o := eg
        rcases moOf_eq em with ⟨xs, e1, e2⟩ | ⟨tk, kvs, e1, e2⟩
        · subst e1 e2
          rcases hg _ _ eg with ⟨tk, kvs, z⟩ | ⟨xs', ys, z1, z2⟩
          · cases z
          · cases z1
            subst z2
            have hi2 : i < σ.length := by rw [← f.env.len]; exact (List.getElem?_eq_some_iff.mp e).1
            have hs : σ[i]? = some σ[i] := List.getElem?_eq_getElem hi2
            have q := f.env.at_ i _ _ e hs
            cases ev : σ[i] with
            | none => rw [ev] at q; exact q.elim
            | some v =>
              rw [ev] at q hs
              obtain ⟨a, e1, fa, na, vs, ea, rs⟩ := q
              subst e1
              refine ⟨a, vs, xs, ys, hs, ea, rs, eg, fa, fun us ru => ?_⟩
              obtain ⟨f2, x2⟩ := f.turn (o := .lst us) (d' := .lst ys) e hs ⟨us, upd_same, ru⟩
              exact p _ _ _ _ f2 x2
        · subst e1
          exact absurd e (hd tk kvs)
  | val d =>
    cases d <;> first | exact p.elim | skip
    rename_i n
    obtain ⟨v, hv, rv⟩ := f.env.val (show getv E i = some (.obj n) by unfold getv; rw [e])
    cases rv with
    | obj er =>
      cases eh : (h[n]?).bind g with
      | none => simp only [eh] at p; exact p.elim
      | some o =>
        simp only [eh] at p
        cases em : h[n]? with
        | none => rw [em] at eh; cases eh
        | some m0 =>
          rw [em] at eh
          have eg : g m0 = some o := eh
          obtain ⟨a', ea', mo⟩ := f.wd.obj n m0 em
          rw [er] at ea'
          cases ea'
          cases m0 with
          | lst xs =>
            rcases hg _ _ eg with ⟨tk, kvs, z⟩ | ⟨xs', ys, z1, z2⟩
            · cases z
            · cases z1
              subst z2
              obtain ⟨vs, ea, rs⟩ := mo
              refine ⟨_, vs, xs, ys, hv, ea, rs, eg, f.wd.sub _ ⟨n, er⟩, fun us ru => ?_⟩
              obtain ⟨f2, x2⟩ := f.turnO (m := .lst ys) (o := .lst us) em er ⟨us, upd_same, ru⟩
              exact p _ _ _ _ f2 x2
          | dct _ _ => exact mo.elim
          | ins _ _ => exact mo.elim
theorem up_own {K : PySem.W.Frag} {ρ : Rho} {F : Addr → Prop} {H : Hp} {a : Addr} {o : HO} {vs : List V} {xs : List D} (fa : F a) (r : Rds K ρ F H vs xs) : Rds K ρ F (upd H a o) vs xs :=
  r.mv (fun _ _ e => e) (fun _ _ q => q) fun b o' n e => by
    rw [upd_ne (show b ≠ a from fun z => n (by rw [z]; exact fa))]
    exact e
theorem up_own1 {K : PySem.W.Frag} {ρ : Rho} {F : Addr → Prop} {H : Hp} {a : Addr} {o : HO} {v : V} {x : D} (fa : F a) (r : Rd K ρ F H v x) : Rd K ρ F (upd H a o) v x :=
  r.mv (fun _ _ e => e) (fun _ _ q => q) fun b o' n e => by
    rw [upd_ne (show b ≠ a from fun z => n (by rw [z]; exact fa))]
    exact e
/-- the list stands there while the argument is worked out -/
theorem lst_there {K : PySem.W.Frag} {De : Ends} {B : Base} {ρ : Rho} {F : Addr → Prop} {H : Hp} {h : Hs} {E : Env} {σ : L2.St} {i : Nat} {Q : Prop} (f : Fr K XA B ρ F H h E σ) (hs : (∃ xs, E[i]? = some (.own (.lst xs))) ∨ ∃ n, E[i]? = some (.val (.obj n)) ∧ ∃ xs, h[n]? = some (.lst xs)) :
    ∃ a vs, σ[i]? = some (some (.ref a)) ∧ H a = some (.lst vs) := by
  rcases hs with ⟨xs, e⟩ | ⟨n, e, xs, eh⟩
  · have hi2 : i < σ.length := by rw [← f.env.len]; exact (List.getElem?_eq_some_iff.mp e).1
    have hs : σ[i]? = some σ[i] := List.getElem?_eq_getElem hi2
    have q := f.env.at_ i _ _ e hs
    cases ev : σ[i] with
    | none => rw [ev] at q; exact q.elim
    | some v =>
      rw [ev] at q hs
      obtain ⟨a, e1, fa, na, vs, ea, rs⟩ := q
      subst e1
      exact ⟨a, vs, hs, ea⟩
  · obtain ⟨v, hv, rv⟩ := f.env.val (show getv E i = some (.obj n) by unfold getv; rw [e])
    cases rv with
    | obj er =>
      obtain ⟨a', ea', vs, ea, rs⟩ := f.wd.obj n _ eh
      rw [er] at ea'
      cases ea'
      exact ⟨_, vs, hv, ea⟩
theorem lstAt_of {E : Env} {i : Nat} {h : Hs} (e : lstAt E i h = true) : (∃ xs, E[i]? = some (.own (.lst xs))) ∨ ∃ n, E[i]? = some (.val (.obj n)) ∧ ∃ xs, h[n]? = some (.lst xs) := by
  unfold lstAt at e
  cases e1 : E[i]? with
  | none => rw [e1] at e; cases e
  | some sl =>
    rw [e1] at e
    cases sl with
    | no => cases e
    | exn => cases e
    | own d =>
      cases d <;> first | cases e | skip
      exact .inl ⟨_, rfl⟩
    | val d =>
      cases d <;> first | cases e | skip
      rename_i n
      have e : (match h[n]? with
        | some (.lst _) => true
        | _ => false) = true := e
      cases e2 : h[n]? with
      | none => rw [e2] at e; cases e
      | some o =>
        rw [e2] at e
        cases o <;> first | cases e | skip
        exact .inr ⟨n, rfl, _, e2⟩
/-- name.append(e) -/
theorem t_app (g : GoodS XA T XT C k ck sc X W) {x : Str} {i : Nat} {px ap cp : Pos} (hi : locB ck sc x i = true) (hs : notStar e = true) (hl : (ap.endLine == cp.line) = true) (he : PE X e (tG X.K XA W (lf (Rd X.K)) m)) :
    PS X (.Expr (.Call (.Attribute (.Name x px) "append" ap) [e] [] cp) pos) (tS X.K XA W fun E => S.chk (lstAt (freeze E fr) i) (S.ev (m (freeze E fr)) (freeze E fr) fun v => turnS (freeze E fr) i (appMO v))) := by
  obtain ⟨h1, h2, h3, h4⟩ := loc_of g.toGoodQ hi
  refine PS.imp (ps_expr (pe_bm PySem.F.plainAttrs_list PySem.F.slot_list_append PySem.F.type_list_append mt_append (pe_var h1 h2 h3 h4) (pa_cons he pa_nil (star_of hs)) (by rfl) ?_ hl (star_of hs) (by rfl)) (by rfl)) fun De σ H ⟨B, ρ, F, h, E, f, p⟩ => ?_
  · have e1 : starEach [e] X.env = [(false, eval e X.env)] := star_of hs
    show ((backTo cp (starEach [e] X.env)).all (fun x => !x.1) && _ && _) = true
    rw [e1]
    rfl
  obtain ⟨F', f', lF⟩ := f.freeze (fr := fr)
  have p := p.re (.less lF)
  have p : Pq X.K XA W De B ρ F' H (S.chk (lstAt (freeze E fr) i) (S.ev (m (freeze E fr)) (freeze E fr) fun v => turnS (freeze E fr) i (appMO v)) h) := p
  unfold S.chk at p
  cases ec : lstAt (freeze E fr) i h with
  | false => rw [ec] at p; exact p.elim
  | true =>
    rw [ec] at p
    obtain ⟨a, vs0, hv, ea⟩ := lst_there (De := De) (Q := True) f' (lstAt_of ec)
    refine ⟨_, hv, .inl ⟨rfl, vs0, .of ea⟩, ?_⟩
    refine tG_mono (ev2 f' p) fun v H1 ⟨ρ1, F1, h1, d1, f1, x1, r1, p1⟩ => ?_
    have hgp : ∀ m m', appMO d1 m = some m' → (∃ tk kvs, m = .dct tk kvs) ∨ ∃ xs ys, m = .lst xs ∧ m' = .lst ys := fun m m' e => by
      cases m with
      | lst xs =>
        have e : (if decide (xs.length < sizeLine) then some (MO.lst (xs ++ [d1])) else none) = some m' := e
        split at e <;> cases e
        exact .inr ⟨_, _, rfl, rfl⟩
      | dct tk kvs => exact .inl ⟨_, _, rfl⟩
      | ins _ _ => cases e
    have hnd : ∀ tk kvs, (freeze E fr)[i]? ≠ some (.own (.dct tk kvs)) := fun tk kvs z => by
      rcases lstAt_of ec with ⟨xs, q⟩ | ⟨n, q, _⟩ <;> rw [q] at z <;> cases z
    obtain ⟨b, vs, xs, ys, hb, eb, rs, eg, fb, fin⟩ := turn_lst f1 p1 hnd hgp
    rw [hv] at hb
    cases hb
    have eg : (if decide (xs.length < sizeLine) then some (MO.lst (xs ++ [d1])) else none) = some (.lst ys) := eg
    split at eg <;> cases eg
    rename_i hz
    refine ⟨_, vs, v, rfl, rfl, eb, by rw [rs.length]; exact of_decide_eq_true hz, ?_⟩
    exact fin _ ((up_own fb rs).append (.cons (up_own1 fb r1) .nil))
/-! ### x[k] = v -/
theorem psetO {X : Cx} {t u : TSet} (h1 : PSet X t) (h2 : PSet X u) : PSet X (fun o i v H Q => t o i v H Q ∨ u o i v H Q) := by
  intro pins s σ H o i v ov iv w Q I r1 r2 r3 h
  rcases h with h | h
  · exact h1 pins s σ H o i v ov iv w Q I r1 r2 r3 h
  · exact h2 pins s σ H o i v ov iv w Q I r1 r2 r3 h
/-- a key as it is worked out: a tuple is one that was just laid -/
def RelKey (K : PySem.W.Frag) (b : Bool) : RelT V D := fun ρ F H _ v d => Rd K ρ F H v d ∧ (b = true → ∀ ds, d = .tup ds → ∃ a vs, v = .ref a ∧ H a = some (.tup vs) ∧ ¬ F a ∧ Rds K ρ F H vs ds)
theorem s_tupN {es : List Expr} {ms : Env → R (List D)} {k : Nat} (hs : PA X es (tG X.K XA W (lf (Rds X.K)) ms)) : PE X (.Tuple es k pos) (tG X.K XA W (RelKey X.K true) fun E => R.bind (ms E) mkTup) := by
  refine PE.imp (pe_tup hs) fun σ H Q ⟨ρ, F, h, E, w, r, po⟩ => ?_
  refine tG_mono (st1 w r po) fun x H1 ⟨ρ1, F1, h1, d1, x1, e1, w1, r1, q1, po1⟩ => ?_
  obtain ⟨c, po1⟩ := Po.need po1
  have q1 : Rds X.K ρ1 F1 H1 x d1 := q1
  refine ⟨by rw [q1.length]; exact big_of c, fun p h0 => ?_⟩
  have e : orR F1 ρ1 = F1 := orR_self w1.sub
  refine po1 (.ref p) ρ1 _ (xt_new h0) (by rw [e]; exact w1.upd_new h0) ?_
  rw [e]
  have q2 : Rds X.K ρ1 F1 (upd H1 p (.tup x)) x d1 := (q1.upd_new h0).less fun _ q => .inl q
  exact ⟨.tup ⟨upd_same, not_F (w := w1) h0⟩ q2, fun _ ds e => by cases e; exact ⟨p, x, rfl, upd_same, not_F (w := w1) h0, q2⟩⟩
theorem turn_dct {K : PySem.W.Frag} {De : Ends} {B : Base} {ρ : Rho} {F : Addr → Prop} {H : Hp} {h : Hs} {E : Env} {σ : L2.St} {i : Nat} {tk b : Bool} {kvs : List (D × D)} {q v : D} (f : Fr K XA B ρ F H h E σ) (e : E[i]? = some (.own (.dct tk kvs))) (p : Pq K XA W De B ρ F H (turnS E i (putMO b q v) h)) :
    (keyTk tk q && ((b || !tk) && decide (kvs.length < sizeLine))) = true ∧ ∃ a, σ[i]? = some (some (.ref a)) ∧ F a ∧ OwnC K ρ F H a (.dct tk kvs) ∧ ∀ o, OwnC K ρ F (upd H a o) a (.dct tk (putD q v kvs)) → De.nx σ (upd H a o) := by
  unfold turnS at p
  rw [e] at p
  have p : Pq K XA W De B ρ F H ((match (if keyTk tk q && ((b || !tk) && decide (kvs.length < sizeLine)) then some (MO.dct tk (putD q v kvs)) else none) with
    | some o => S.done .nx (E.set i (.own (ofMO o)))
    | none => S.bad) h) := p
  cases c : (keyTk tk q && ((b || !tk) && decide (kvs.length < sizeLine))) with
  | false =>
    rw [c] at p
    exact p.elim
  | true =>
    rw [c] at p
    refine ⟨rfl, ?_⟩
    have hi2 : i < σ.length := by rw [← f.env.len]; exact (List.getElem?_eq_some_iff.mp e).1
    have hs : σ[i]? = some σ[i] := List.getElem?_eq_getElem hi2
    have q := f.env.at_ i _ _ e hs
    cases ev : σ[i] with
    | none => rw [ev] at q; exact q.elim
    | some v =>
      rw [ev] at q hs
      obtain ⟨a, e1, fa, na, c⟩ := q
      subst e1
      refine ⟨a, hs, fa, c, fun o co => ?_⟩
      obtain ⟨f2, x2⟩ := f.turn (o := o) e hs co
      exact p _ _ _ _ f2 x2
theorem up_keep {K : PySem.W.Frag} {ρ : Rho} {F : Addr → Prop} {H : Hp} {a : Addr} {o : HO} (fa : F a) : (∀ b o', ¬ F b → H b = some o' → upd H a o b = some o') := fun b o' n e => by
  rw [upd_ne (show b ≠ a from fun z => n (by rw [z]; exact fa))]
  exact e
theorem noComp_sole {t e : Expr} {l : Nat} {env : PySem.Env} (h : noComp e = true) : swapsWithSole [t] e l env = pure false := noComp_of (tg := some t) h
/-- name[k] = v -/
theorem t_setI (g : GoodS XA T XT C k ck sc X W) {x : Str} {i : Nat} {px p2 : Pos} {ke : Expr} {mk : Env → R D} {b : Bool} (hi : locB ck sc x i = true) (hn : noComp e = true) (hp : plainIxB ke = true) (he : PE X e (tG X.K XA W (lf (Rd X.K)) m)) (hk : PE X ke (tG X.K XA W (RelKey X.K b) mk)) :
    PS X (.Assign [.Subscript (.Name x px) ke p2] e pos) (tS X.K XA W fun E => S.chk (fun _ => hasAt E i) (S.ev (m E) E fun v => S.ev (mk E) E fun q => turnS E i (putMO b q v))) := by
  obtain ⟨h1, h2, h3, h4⟩ := loc_of g.toGoodQ hi
  have hu : X.A.units + 1 < cLine := by have := g.room.units; omega
  refine PS.imp (ps_asg he (pg_sub (pe_var h1 h2 h3 h4) hk (psetO set_list (set_dict hu)) (by cases ke <;> first | (intro _; rfl) | cases hp)) (noComp_sole hn) (by rfl) (by rfl)) fun De σ H ⟨B, ρ, F, h, E, f, p⟩ => ?_
  have p : Pq X.K XA W De B ρ F H (S.chk (fun _ => hasAt E i) (S.ev (m E) E fun v => S.ev (mk E) E fun q => turnS E i (putMO b q v)) h) := p
  unfold S.chk at p
  cases ec : hasAt E i with
  | false => rw [ec] at p; exact p.elim
  | true =>
  rw [ec] at p
  refine tG_mono (ev2 f p) fun v H1 ⟨ρ1, F1, h1, d1, f1, x1, r1, p1⟩ => ?_
  -- the name's value
  have hv : ∀ {a : Addr}, σ[i]? = some (some (.ref a)) → tG X.K XA W (RelKey X.K b) mk σ H1 (fun iv H2 => rSetL (.ref a) iv v H2 (fun H3 => De.nx σ H3) ∨ rSetD (.ref a) iv v H2 fun H3 => De.nx σ H3) := fun {a} ha => by
    refine tG_mono (ev2 f1 p1) fun w H2 ⟨ρ2, F2, h2, d2, f2, x2, r2, p2⟩ => ?_
    obtain ⟨rk, rt⟩ := r2
    have q1 : Rd X.K ρ2 F2 H2 v d1 := r1.fs x2
    by_cases hd : ∃ tk kvs, E[i]? = some (.own (.dct tk kvs))
    · obtain ⟨tk, kvs, e⟩ := hd
      obtain ⟨c, a', ha', fa, oc, fin⟩ := turn_dct f2 e p2
      rw [ha] at ha'
      cases ha'
      simp only [Bool.and_eq_true, decide_eq_true_eq] at c
      obtain ⟨c1, c2, c3⟩ := c
      right
      cases tk with
      | true =>
        obtain ⟨ws, ea, pr⟩ := oc
        have hb : b = true := by simpa using c2
        cases d2 <;> first | cases c1 | skip
        rename_i ds
        obtain ⟨q, vs, ew, eq, nq, rs⟩ := rt hb ds rfl
        obtain ⟨ks, k1, k2⟩ := keys_of rs c1
        subst ew
        refine ⟨a, _, rfl, DPut.t ea (by rw [eq, k1]) (by rw [pr.len]; exact c3), fin _ ⟨_, upd_same, ?_⟩⟩
        rw [k2]
        exact (pr.put q1).mv (fun _ _ e => e) (fun _ _ q => q) (up_keep (K := X.K) (ρ := ρ2) fa)
      | false =>
        obtain ⟨ws, ea, pr⟩ := oc
        cases d2 <;> first | cases c1 | skip
        · rename_i j
          cases rk
          refine ⟨a, _, rfl, DPut.k (k := .inl j) ea (by rw [pr.len]; exact c3), fin _ ⟨_, upd_same, ?_⟩⟩
          exact (PrK.put (k := .inl j) q1 pr).mv (fun _ _ e => e) (fun _ _ q => q) (up_keep (K := X.K) (ρ := ρ2) fa)
        · rename_i j
          cases rk
          refine ⟨a, _, rfl, DPut.k (k := .inr j) ea (by rw [pr.len]; exact c3), fin _ ⟨_, upd_same, ?_⟩⟩
          exact (PrK.put (k := .inr j) q1 pr).mv (fun _ _ e => e) (fun _ _ q => q) (up_keep (K := X.K) (ρ := ρ2) fa)
    · have hd' : ∀ tk kvs, E[i]? ≠ some (.own (.dct tk kvs)) := fun tk kvs z => hd ⟨tk, kvs, z⟩
      have hgp : ∀ m m', putMO b d2 d1 m = some m' → (∃ tk kvs, m = .dct tk kvs) ∨ ∃ xs ys, m = .lst xs ∧ m' = .lst ys := fun m m' e => by
        cases m with
        | lst xs =>
          right
          cases d2 <;> first | cases e | skip
          rename_i j
          have e : (setAt xs j d1).map MO.lst = some m' := e
          cases e2 : setAt xs j d1 with
          | none => rw [e2] at e; cases e
          | some ys => rw [e2] at e; cases e; exact ⟨_, _, rfl, rfl⟩
        | dct tk kvs => exact .inl ⟨_, _, rfl⟩
        | ins _ _ => cases e
      obtain ⟨a', vs, xs, ys, ha', ea, rs, eg, fa, fin⟩ := turn_lst f2 p2 hd' hgp
      rw [ha] at ha'
      cases ha'
      left
      cases d2 <;> first | cases eg | skip
      rename_i j
      cases rk
      have eg : (setAt xs j d1).map MO.lst = some (.lst ys) := eg
      unfold setAt at eg
      cases e2 : ixPos xs.length j with
      | none => rw [e2] at eg; cases eg
      | some n =>
        rw [e2] at eg
        cases eg
        refine ⟨a, vs, j, n, rfl, rfl, ea, by rw [rs.length, ← ixPos_eq]; exact e2, ?_⟩
        exact fin _ ((up_own fa rs).set n (up_own1 fa q1))
  -- the name stands for something
  have hex : ∃ a, σ[i]? = some (some (V.ref a)) := by
    unfold hasAt at ec
    cases e1 : E[i]? with
    | none => rw [e1] at ec; cases ec
    | some sl =>
      rw [e1] at ec
      cases sl with
      | no => cases ec
      | exn => cases ec
      | own d =>
        have hi2 : i < σ.length := by rw [← f.env.len]; exact (List.getElem?_eq_some_iff.mp e1).1
        have hs : σ[i]? = some σ[i] := List.getElem?_eq_getElem hi2
        have q := f.env.at_ i _ _ e1 hs
        cases ev : σ[i] with
        | none => rw [ev] at q; exact q.elim
        | some v =>
          rw [ev] at q hs
          obtain ⟨a, e2, _⟩ := q
          subst e2
          exact ⟨a, hs⟩
      | val d =>
        cases d <;> first | cases ec | skip
        rename_i n
        obtain ⟨v, hv', rv⟩ := f.env.val (show getv E i = some (.obj n) by unfold getv; rw [e1])
        cases rv with
        | obj er => exact ⟨_, hv'⟩
  obtain ⟨a, ha⟩ := hex
  exact ⟨.ref a, ha, hv ha⟩
end
end Ny

set_option maxHeartbeats 2000000
/-! Ny: a, b = x, y, where one or both are new things of one's own. -/
namespace Ny
open PySem PySem.Spec PyProof.Rows L2
section
variable {K : PySem.W.Frag} {XA : Nat → Option Addr} {B : Base} {ρ : Rho} {F : Addr → Prop} {H : Hp} {h : Hs} {E : Env} {σ : L2.St}
/-- what a side of the pair is: a thing of one's own, a value -/
def Side (K : PySem.W.Frag) (B : Base) (ρ : Rho) (F : Addr → Prop) (H : Hp) (E : Env) (σ : L2.St) : Bool → V → D → Prop
  | true, v, d => ∃ a, v = .ref a ∧ F a ∧ ¬ ρ.has a ∧ OwnC K ρ F H a d ∧ B.H a = none ∧ ∀ (j : Nat) (q : D), E[j]? = some (Slot.own q) → σ[j]? ≠ some (some (V.ref a))
  | false, v, d => Rd K ρ F H v d
theorem Fr.putSide {o : Bool} {v : V} {d : D} {i : Nat} (f : Fr K XA B ρ F H h E σ) (s : Side K B ρ F H E σ o v d) : Fr K XA B ρ F H h (E.set i (slotOf o d)) (σ.set i (some v)) := by
  cases o with
  | true =>
    obtain ⟨a, rfl, fa, na, c, b0, hn⟩ := s
    refine ⟨f.wd, f.env.setOwn hn fa na c, f.rho, f.new, f.keep, fun j d1 b g1 g2 => ?_, f.sup, f.t0⟩
    by_cases z : i = j
    · subst z
      have g1 : (E.set i (.own d))[i]? = some (Slot.own d1) := g1
      have hl : i < E.length := by
        have := (List.getElem?_eq_some_iff.mp g1).1
        rwa [List.length_set] at this
      rw [List.getElem?_set_self (by rw [← f.env.len]; exact hl)] at g2
      cases g2
      exact b0
    · rw [List.getElem?_set_ne z] at g1 g2
      exact f.own j d1 b g1 g2
  | false =>
    have s : Rd K ρ F H v d := s
    have b1 : bindT (.nm i) d E = some (E.set i (.val d)) := rfl
    exact f.bind b1 (f.env.setVal s) fun vs hv => wipe_set (List.contains_iff_mem.mp (by unfold ntIn at hv; exact hv))
/-- the other side, when the first stands in its slot -/
theorem Side.other {o o' : Bool} {v v' : V} {d d' : D} {i : Nat} (s : Side K B ρ F H E σ o v d) (s' : Side K B ρ F H E σ o' v' d') (hl : E.length = σ.length) (hne : o = true → o' = true → v ≠ v') : Side K B ρ F H (E.set i (slotOf o d)) (σ.set i (some v)) o' v' d' := by
  cases o' with
  | false => exact s'
  | true =>
    obtain ⟨a, rfl, fa, na, c, b0, hn⟩ := s'
    refine ⟨a, rfl, fa, na, c, b0, fun j q h1 h2 => ?_⟩
    by_cases z : i = j
    · subst z
      cases o with
      | true =>
        have hi : i < E.length := by
          have := (List.getElem?_eq_some_iff.mp h1).1
          rwa [List.length_set] at this
        rw [List.getElem?_set_self (by rw [← hl]; exact hi)] at h2
        exact hne rfl rfl (Option.some.inj (Option.some.inj h2))
      | false =>
        have hi : i < E.length := by
          have := (List.getElem?_eq_some_iff.mp h1).1
          rwa [List.length_set] at this
        rw [List.getElem?_set_self hi] at h1
        cases h1
    · rw [List.getElem?_set_ne z] at h1 h2
      exact hn j q h1 h2
def RelS (K : PySem.W.Frag) : Bool → RelT V D
  | true => RdG K
  | false => lf (Rd K)
/-- a side was worked out: it is held from here on -/
theorem Fr.hold {ρ1 : Rho} {F1 : Addr → Prop} {H1 : Hp} {h1 : Hs} {o : Bool} {v : V} {d : D} (f : Fr K XA B ρ F H h E σ) (hB : ρ1.B = fun a => H a ≠ none) (f1 : Fr K XA B ρ1 F1 H1 h1 E σ) (x : Fs ρ F H ρ1 F1 H1) (r : RelS K o ρ1 F1 H1 h1 v d) (hd : ownOk o d = true) (hdF : ∀ a, F a → F1 a) (hkr : ∀ a o, ¬ ρ.has a → H a = some o → H1 a = some o) :
    ∃ F2, Fr K XA B ρ1 F2 H1 h1 E σ ∧ Fs ρ F H ρ1 F2 H1 ∧ Side K B ρ1 F2 H1 E σ o v d ∧ (∀ a, F1 a → F2 a) ∧ (o = true → ∃ a, v = .ref a ∧ H a = none) := by
  cases o with
  | false => exact ⟨F1, f1, x, r, fun _ q => q, fun z => by cases z⟩
  | true =>
    have r : RdG K ρ1 F1 H1 h1 v d := r
    have hd : (moOf d).isSome = true := hd
    have hm : moOf d ≠ none := fun z => by rw [z] at hd; cases hd
    obtain ⟨a, rfl, nF, nB, c, w⟩ := r.new_of hm
    have hHa : H a = none := by
      cases e : H a with
      | none => rfl
      | some o => exact absurd (show ρ1.B a by rw [hB]; show H a ≠ none; rw [e]; simp) nB
    have hB0 : B.H a = none := by
      cases e : B.H a with
      | none => rfl
      | some o =>
        by_cases z : B.ρ.has a
        · obtain ⟨n, en⟩ := z
          exact absurd hHa (f.wd.trk a (f.wd.sub a ⟨n, f.rho n a en⟩))
        · rw [f.keep a o z e] at hHa; cases hHa
    have na : ¬ ρ1.has a := fun z => nF (f1.wd.sub a z)
    have r1 : EnvR K XA ρ1 (fun b => F1 b ∨ b = a) H1 E σ := f.env.mv f.wd.sub x.rho x.new (fun b n q => q.elim (x.old b n) fun z => by rw [z] at n; exact absurd hHa n) (fun b q => .inl (hdF b q)) hkr
    have hn : ∀ (j : Nat) (q : D), E[j]? = some (Slot.own q) → σ[j]? ≠ some (some (V.ref a)) := fun j q h1 h2 => by
      obtain ⟨b, eb, fb, nb, cb⟩ := f.env.at_ j _ _ h1 h2
      cases eb
      exact absurd hHa cb.some
    exact ⟨_, ⟨w, r1, f1.rho, f1.new, f1.keep, f1.own, fun b q => .inl (f1.sup b q), f1.t0⟩, ⟨x.rho, x.new, x.keep, fun b n q => q.elim (x.old b n) fun z => (by rw [z] at n; exact absurd hHa n), x.live⟩, ⟨a, rfl, .inr rfl, na, c, hB0, hn⟩, fun b q => .inl q, fun _ => ⟨a, rfl, hHa⟩⟩
/-- a side that is held stays -/
theorem Side.mv {ρ' : Rho} {F' : Addr → Prop} {H' : Hp} {o : Bool} {v : V} {d : D} (s : Side K B ρ F H E σ o v d) (x : Fs ρ F H ρ' F' H') (hF : ∀ a, F a → F' a) (hk : ∀ a o, ¬ ρ.has a → H a = some o → H' a = some o) : Side K B ρ' F' H' E σ o v d := by
  cases o with
  | false => exact Rd.fs s x
  | true =>
    obtain ⟨a, rfl, fa, na, c, b0, hn⟩ := s
    exact ⟨a, rfl, hF a fa, fun z => (x.new a z).elim na fun y => c.some y, c.mv x.rho x.old x.keep (fun o e => hk a o na e), b0, hn⟩
end
section
variable {XA : Nat → Option Addr} {T : Tab} {XT : XTab} {C : Call} {k : Nat} {ck : Ck} {sc : Scope} {X : Cx} {W : WX}
variable {pos : Pos} {fr : List Nat}
theorem chk_of {De : Ends} {B : Base} {ρ : Rho} {F : Addr → Prop} {H : Hp} {h : Hs} {b : Bool} {m : S} {K : PySem.W.Frag} (p : Pq K XA W De B ρ F H (S.chk (fun _ => b) m h)) : b = true ∧ Pq K XA W De B ρ F H (m h) := by
  unfold S.chk at p
  cases b with
  | false => exact p.elim
  | true => exact ⟨rfl, p⟩
theorem t_par2 (g : GoodS XA T XT C k ck sc X W) {x y : Str} {i j : Nat} {oi oj : Bool} {px py pt pt2 : Pos} {kt k2 : Nat} {a b : Expr} {ma mb : Env → R D} (hi : setB ck sc x i = true) (hj : setB ck sc y j = true) (hij : i ≠ j) (hp : parB sc x y px py a b = true)
    (ha : PE X a (tG X.K XA W (RelS X.K oi) ma)) (hb : PE X b (tG X.K XA W (RelS X.K oj) mb)) :
    PS X (.Assign [.Tuple [.Name x px, .Name y py] kt pt] (.Tuple [a, b] k2 pt2) pos) (tS X.K XA W fun E => S.ev (ma (freeze E fr)) (freeze E fr) fun u => S.chk (fun _ => ownOk oi u) (S.ev (mb (freeze E fr)) (freeze E fr) fun v => S.chk (fun _ => ownOk oj v) (S.done .nx (((freeze E fr).set i (slotOf oi u)).set j (slotOf oj v))))) := by
  obtain ⟨i1, i2⟩ := Bool.and_eq_true_iff.mp hi
  obtain ⟨j1, j2⟩ := Bool.and_eq_true_iff.mp hj
  have hp0 := hp
  unfold parB at hp0
  simp only [Bool.and_eq_true, decide_eq_true_eq] at hp0
  obtain ⟨_, n1, n2, l1, l2, _⟩ := hp0
  refine PS.imp (ps_par g.calm (by rw [g.names]; exact g.nd) (by rw [g.names]; exact of_decide_eq_true i1) (by rw [g.names]; exact of_decide_eq_true j1) hij (by rw [g.scope]; exact l1) (by rw [g.scope]; exact l2)
    (pa_cons ha (pa_cons hb pa_nil (star_of n2)) (star_of n1)) (par_of g.scope hp)) fun De σ H ⟨B, ρ, F, h, E, f, p⟩ => ?_
  obtain ⟨F', f', lF⟩ := f.freeze (fr := fr)
  refine tG_mono (ev2N (m := ma) f' (p.re (.less lF))) fun v H1 ⟨ρ1, F1, h1, d1, f1, x1, r1, p1, eB1, hF1, hk1⟩ => ?_
  obtain ⟨c1, p1⟩ := chk_of p1
  obtain ⟨F2, g1, y1, s1, hF2, _⟩ := f'.hold eB1 f1 x1 r1 c1 hF1 hk1
  refine tG_mono (ev2N (m := mb) g1 (p1.re y1)) fun w H2 ⟨ρ2, F3, h2, d2, f2, x2, r2, p2, eB2, hF3, hk2⟩ => ?_
  obtain ⟨c2, p2⟩ := chk_of p2
  obtain ⟨F4, g2, y2, s2, hF4, n2⟩ := g1.hold eB2 f2 x2 r2 c2 hF3 hk2
  refine ⟨v, w, rfl, ?_⟩
  have s1' : Side X.K B ρ2 F4 H2 (freeze E fr) σ oi v d1 := s1.mv y2 (fun a q => hF4 a (hF3 a q)) hk2
  have hne : oi = true → oj = true → v ≠ w := fun e1 e2 z => by
    subst e1
    obtain ⟨a2, ea, ha2⟩ := n2 e2
    obtain ⟨a1, eb, _, _, oc, _⟩ := s1
    rw [eb, ea] at z
    cases z
    exact oc.some ha2
  have f3 := (g2.putSide (i := i) s1').putSide (i := j) (s1'.other s2 g2.env.len hne)
  exact Pq.nx f3 (p2.re y2)
end
end Ny

set_option maxHeartbeats 2000000
/-! Ny: the statements, the third part: if, for, raise, try, blocks. -/
namespace Ny
open PySem PySem.Spec PyProof.Rows L2
section
variable {XA : Nat → Option Addr} {T : Tab} {XT : XTab} {C : Call} {k : Nat} {ck : Ck} {sc : Scope} {X : Cx} {W : WX}
variable {e : Expr} {m : Env → R D} {pos : Pos} {fr : List Nat}
theorem b_nil : PSs X [] (tS X.K XA W fun E => S.done .nx E) := PSs.imp pss_nil fun De σ H ⟨B, ρ, F, h, E, f, p⟩ => Pq.nx f p
theorem b_cons {st : Stmt} {ss : List Stmt} {m1 m2 : Env → S} (h1 : PS X st (tS X.K XA W m1)) (h2 : PSs X ss (tS X.K XA W m2)) : PSs X (st :: ss) (tS X.K XA W fun E => S.andThen (m1 E) m2) :=
  PSs.imp (pss_cons h1 h2) fun De σ H ⟨B, ρ, F, h, E, f, p⟩ => ⟨B, ρ, F, h, E, f, Pq.andThen p⟩
theorem t_if {c : Expr} {a b : List Stmt} {mc : Env → R D} {ma mb : Env → S} (hc : PT X c (tG X.K XA W RelTB mc)) (ha : PSs X a (tS X.K XA W ma)) (hb : PSs X b (tS X.K XA W mb)) : PS X (.If c a b pos) (tS X.K XA W fun E => S.ev (mc E) E fun d => S.ite d (ma E) (mb E)) := by
  refine PS.imp (ps_if hc ha hb) fun De σ H ⟨B, ρ, F, h, E, f, p⟩ => ?_
  refine tG_mono (ev2 f p) fun v H1 ⟨ρ1, F1, h1, d, f1, x1, r, p1⟩ => ?_
  have r : d = .bl v := r
  subst r
  cases v with
  | true => exact ⟨B, ρ1, F1, h1, E, f1, p1⟩
  | false => exact ⟨B, ρ1, F1, h1, E, f1, p1⟩
theorem Fr.ext {K : PySem.W.Frag} {B : Base} {ρ : Rho} {F : Addr → Prop} {H H' : Hp} {h : Hs} {E : Env} {σ : L2.St} (f : Fr K XA B ρ F H h E σ) (kp : ∀ a o, H a = some o → H' a = some o) : Fr K XA B ρ F H' h E σ :=
  ⟨f.wd.ext kp, f.env.ext f.wd.sub kp, f.rho, f.new, fun a o n e => kp a o (f.keep a o n e), f.own, f.sup, f.t0⟩
theorem t_for (g : GoodS XA T XT C k ck sc X W) {tg iter : Expr} {body : List Stmt} {t : NT} {mi : Env → R (List D)} {mb : Env → S} (hi : PI X tg iter (tG X.K XA W (RelI X.K false) mi)) (hg : PG X tg (gT X.K XA t)) (hb : PSs X body (tS X.K XA W mb)) (hs : notSet iter = true) :
    PS X (.For tg iter body [] pos) (tS X.K XA W fun E => S.ev (mi (freeze E fr)) (freeze E fr) fun xs => S.forS (fun x σ1 => S.ofOpt (bindT t x σ1) mb) xs (freeze E fr)) := by
  refine PS.imp (ps_for g.po g.calm hi hg hb (notSet_of hs)) fun De σ H ⟨B, ρ, F, h, E, f, p⟩ => ?_
  obtain ⟨F', f', lF⟩ := f.freeze (fr := fr)
  refine tG_mono (ev2 f' (p.re (.less lF))) fun J H1 ⟨ρ1, F1, h1, xs, f1, x1, q1, p1⟩ => ?_
  have q1 : ItR X.K ρ1 F1 F1 H1 J xs := q1
  let Iv : Nat → L2.St → Hp → Prop := fun i σ' H' => ∃ ρ' F' h' E', Fr X.K XA B ρ' F' H' h' E' σ' ∧ Fs ρ1 F1 H1 ρ' F' H' ∧ Pq X.K XA W De B ρ' F' H' (S.forS (fun x σ1 => S.ofOpt (bindT t x σ1) mb) (xs.drop i) E' h')
  refine ⟨fun i m σ' H' => m = xs.length - i ∧ i ≤ xs.length ∧ Iv i σ' H', ⟨xs.length, by simp, Nat.zero_le _, ρ1, F1, h1, freeze E fr, f1, .refl, p1⟩, ?_⟩
  rintro i m σ' H' ⟨rfl, hil, ρ', F2, h', E', f2, x2, p2⟩
  by_cases hlt : i < xs.length
  · rw [List.drop_eq_getElem_cons hlt] at p2
    obtain ⟨hgo, hy⟩ := q1.go i xs[i] ρ' F2 H' (List.getElem?_eq_getElem hlt) x2.rho x2.old f2.wd.trk x2.keep
    refine .inr ⟨hgo, Iv (i + 1), fun σ3 H3 iv => ⟨xs.length - (i + 1), by omega, rfl, hlt, iv⟩, fun x H2 y => ?_⟩
    obtain ⟨kp, rx⟩ := hy x H2 y
    have f3 := f2.ext kp
    have x3 : Fs ρ' F2 H' ρ' F2 H2 := ⟨fun _ _ e => e, fun _ q => .inl q, fun a o _ e => kp a o e, fun _ _ q => q, fun a n => live_ext kp n⟩
    have p3 : Pq X.K XA W De B ρ' F2 H2 (S.turn (S.ofOpt (bindT t xs[i] E') mb) (S.forS (fun x σ1 => S.ofOpt (bindT t x σ1) mb) (xs.drop (i + 1))) h') := Pq.re p2 x3
    have p4 := p3.turn (N := Iv (i + 1)) fun σ4 ρ4 F4 H4 h4 E4 f4 x4 p5 => ⟨ρ4, F4, h4, E4, f4, (x2.trans x3).trans x4, p5⟩
    cases eb : bindT t xs[i] E' with
    | none => rw [eb] at p4; exact p4.elim
    | some E2 =>
      rw [eb] at p4
      exact ⟨ρ', F2, E', xs[i], E2, rx, f3.env, eb, fun σ5 r5 sh => ⟨B, ρ', F2, h', E2, f3.bind eb r5 sh, p4⟩⟩
  · have e : i = xs.length := by omega
    subst e
    rw [List.drop_length] at p2
    exact .inl ⟨q1.stop _ H' (Nat.le_refl _) x2.keep, Pq.nx f2 p2⟩
/-! ### raise, try -/
def excB (ck : Ck) (sc : Scope) (x : Str) (c : Nat) : Bool := gloB sc x && ck.exc.any fun p => decide (p.1 = x) && decide (p.2 = c)
theorem exc_get {x : Str} {c : Nat} (h : excB ck sc x c = true) : gloB sc x = true ∧ ∃ p ∈ ck.exc, p.1 = x ∧ p.2 = c := by
  obtain ⟨h1, h2⟩ := Bool.and_eq_true_iff.mp h
  obtain ⟨p, hp, h3⟩ := List.any_eq_true.mp h2
  simp only [Bool.and_eq_true, decide_eq_true_eq] at h3
  exact ⟨h1, p, hp, h3.1, h3.2⟩
theorem t_raise (g : GoodS XA T XT C k ck sc X W) {x msg : Str} {c j : Nat} {p1 p2 p3 : Pos} (h : excB ck sc x c = true) :
    PS X (.Raise (some (.Call (.Name x p1) [.Constant (.str msg) j p2] [] p3)) none pos) (tS X.K XA W fun E => S.ev (R.bind (R.pure (.str msg)) fun x => R.bind (R.pure []) fun xs => R.pure (x :: xs)) E fun vs => match XT.made c vs with
      | some e => fun h => .exc e E h
      | none => S.bad) := by
  obtain ⟨h1, p, hp, e1, e2⟩ := exc_get h
  subst e1 e2
  obtain ⟨Cc, bmB, Bb, n1, n2, a1, a2, a3, a4, a5, a6, a7⟩ := g.exc p hp
  obtain ⟨gl, db, _⟩ := glo_of g.toGoodQ h1
  refine PS.imp (ps_raise g.calm g.tk (pmk_own a1 a2 a3 a4 a5 gl db)) fun De σ H ⟨B, ρ, F, h, E, f, q⟩ => ?_
  have em : XT.made p.2 [.str msg] = some ⟨p.2, []⟩ := by
    unfold XTab.made
    rw [a7]
  have q : Pq X.K XA W De B ρ F H ((match XT.made p.2 [.str msg] with
      | some e => fun h => SO.exc e E h
      | none => S.bad) h) := q
  rw [em] at q
  exact q _ none σ ρ F H f .refl ⟨Cc, a6, rfl, rfl⟩
mutual
/-- small expressions of an except clause -/
def chkQ : Nat → Ck → Scope → Expr → NE → Bool
  | 0, _, _, _, _ => false
  | n + 1, ck, sc, e, ne => match ne with
    | .cst d => (match e with
      | .Constant c _ _ => constB c d
      | .Name x _ => gloB sc x && ck.cst.any fun p => decide (p.1 = x) && sameD p.2 d
      | _ => false)
    | .var i => (match e with
      | .Name x _ => locB ck sc x i
      | _ => false)
    | .tup es => (match e with
      | .Tuple xs _ _ => chkQs n ck sc xs es
      | _ => false)
    | _ => false
def chkQs : Nat → Ck → Scope → List Expr → NEs → Bool
  | 0, _, _, _, _ => false
  | n + 1, ck, sc, es, nes => match nes with
    | .nil => es.isEmpty
    | .cons a as => (match es with
      | e :: es => notStar e && (chkQ n ck sc e a && chkQs n ck sc es as)
      | [] => false)
end
mutual
theorem q_ok {W : WX} (g : GoodQ ck sc X) : ∀ {n : Nat} {e : Expr} {ne : NE}, chkQ n ck sc e ne = true → PE X e (tG X.K XA W (lf (Rd X.K)) fun E => ev T C ne E false)
  | 0, _, _, h => by simp [chkQ] at h
  | n + 1, e, ne, h => by
    unfold chkQ at h
    cases ne with
    | cst d =>
      simp only at h
      split at h
      · exact PE.rel (s_const h) RdG.toRd
      · exact s_gl g h
      · cases h
    | var i =>
      simp only at h
      split at h
      · exact s_var g h
      · cases h
    | tup es =>
      simp only at h
      split at h
      · exact PE.rel (s_tup (q_oks g h)) RdG.toRd
      · cases h
    | _ => cases h
theorem q_oks {W : WX} (g : GoodQ ck sc X) : ∀ {n : Nat} {es : List Expr} {nes : NEs}, chkQs n ck sc es nes = true → PA X es (tG X.K XA W (lf (Rds X.K)) fun E => evs T C nes E)
  | 0, _, _, h => by simp [chkQs] at h
  | n + 1, es, nes, h => by
    unfold chkQs at h
    cases nes with
    | nil =>
      have e : es = [] := List.isEmpty_iff.mp h
      subst e
      exact s_nil fun _ _ _ _ => .nil
    | cons a as =>
      cases es with
      | nil => cases h
      | cons e es =>
        have h : (notStar e && (chkQ n ck sc e a && chkQs n ck sc es as)) = true := h
        simp only [Bool.and_eq_true] at h
        obtain ⟨h1, h2, h3⟩ := h
        exact s_cons h1 (q_ok g h2) (q_oks g h3)
end
def isTupX : Expr → Bool
  | .Tuple .. => true
  | _ => false
/-- name = e, return e, of an except clause -/
def chkQS (n : Nat) (ck : Ck) (sc : Scope) (st : Stmt) (ns : NS) : Bool := match ns with
  | .asg [] (.nm i) e => (match st with
    | .Assign [.Name x _] v _ => setB ck sc x i && (noComp v && chkQ n ck sc v e)
    | _ => false)
  | .ret [] e => (match st with
    | .Return (some v) _ => chkQ n ck sc v e
    | _ => false)
  | .pass => (match st with
    | .Pass _ => true
    | _ => false)
  | _ => false
def chkQB (n : Nat) (ck : Ck) (sc : Scope) : List Stmt → NSs → Bool
  | [], .nil => true
  | st :: sts, .cons s ss => chkQS n ck sc st s && chkQB n ck sc sts ss
  | _, _ => false
theorem qs_ok {W : WX} (g : GoodQ ck sc X) (fnT : ∀ x, X.fn x = true) {n : Nat} {st : Stmt} {ns : NS} (h : chkQS n ck sc st ns = true) : PS X st (tS X.K XA W fun E => run T XT C ns E) := by
  unfold chkQS at h
  split at h
  · rename_i i e
    split at h
    · rename_i x px v pos
      simp only [Bool.and_eq_true] at h
      obtain ⟨h1, h2, h3⟩ := h
      obtain ⟨i1, i2⟩ := Bool.and_eq_true_iff.mp h1
      obtain ⟨l, f⟩ := tb_of g fnT i2
      have pg : PG X (.Name x px) (gT X.K XA (.nm i)) := PG.imp (pg_name (by rw [g.names]; exact g.nd) (by rw [g.names]; exact of_decide_eq_true i1) l f) fun v σ H Q ⟨ρ, F, E, d, E', r, q, e, k⟩ => by
        unfold bindT at e
        cases e
        exact k _ (q.setVal r) fun vs hv => wipe_set (List.contains_iff_mem.mp (by unfold ntIn at hv; exact hv))
      exact t_asg (fr := []) g (q_ok g h3) pg h2 rfl rfl
    · cases h
  · split at h
    · exact t_ret (fr := []) (q_ok g h)
    · cases h
  · split at h
    · exact t_pass
    · cases h
  · cases h
theorem qb_ok {W : WX} (g : GoodQ ck sc X) (fnT : ∀ x, X.fn x = true) {n : Nat} : ∀ {sts : List Stmt} {ss : NSs}, chkQB n ck sc sts ss = true → PSs X sts (tS X.K XA W fun E => runs T XT C ss E)
  | [], .nil, _ => b_nil
  | [], .cons _ _, h => by simp [chkQB] at h
  | _ :: _, .nil, h => by simp [chkQB] at h
  | st :: sts, .cons s ss, h => by
    unfold chkQB at h
    obtain ⟨h1, h2⟩ := Bool.and_eq_true_iff.mp h
    exact b_cons (qs_ok g fnT h1) (qb_ok g fnT h2)
def chkHs (n : Nat) (ck : Ck) (sc : Scope) : List ExceptHandler → NHs → Bool
  | [], .nil => true
  | hd :: hds, .cons c nm suite hs => (match hd, nm with
    | .ExceptHandler (some (.Name x _)) none (b0 :: su) _, none => excB ck sc x c && chkQB n ck sc (b0 :: su) suite
    | _, _ => false) && chkHs n ck sc hds hs
  | _, _ => false
theorem hs_ok (g : GoodS XA T XT C k ck sc X W) {n : Nat} : ∀ {hds : List ExceptHandler} {hs : NHs}, chkHs n ck sc hds hs = true → ∃ l : List (Value × (Addr → Value → Option Addr → TS)), HdsOk X hds l ∧
    ∀ (De : Ends) (B : Base) (ρ : Rho) (F : Addr → Prop) (H : Hp) (ex : Ex) (E : Env) (h : Hs), Pq X.K XA W De B ρ F H (runh T XT C hs ex E h) → ∀ cls dd σ ρ' F' H', Fr X.K XA B ρ' F' H' h E σ → Fs ρ F H ρ' F' H' → ExR X.K XA ρ' F' H' ex cls dd → wMany X.K W De l cls dd σ H'
  | [], .nil, _ => ⟨[], .nil, fun De B ρ F H ex E h p cls dd σ ρ' F' H' f x r => p cls dd σ ρ' F' H' f x r⟩
  | [], .cons _ _ _ _, h => by simp [chkHs] at h
  | _ :: _, .nil, h => by simp [chkHs] at h
  | hd :: hds, .cons c nm suite hs, h => by
    unfold chkHs at h
    obtain ⟨h1, h2⟩ := Bool.and_eq_true_iff.mp h
    obtain ⟨l, hl, hw⟩ := hs_ok g h2
    split at h1
    · rename_i x px b0 su p5
      obtain ⟨h3, h4⟩ := Bool.and_eq_true_iff.mp h1
      obtain ⟨hg, p, hp, e1, e2⟩ := exc_get h3
      subst e1 e2
      obtain ⟨Cc, bmB, Bb, n1, n2, a1, a2, a3, a4, a5, a6, a7⟩ := g.exc p hp
      obtain ⟨gl, db, _⟩ := glo_of g.toGoodQ hg
      refine ⟨(.ref Cc, fun a cls d => tS X.K XA WF fun E => runs T XT C suite E) :: l, .cons ⟨gl, db, .inl a3⟩ (fun a oe cls d pn _ _ => ?_) hl, ?_⟩
      · exact qb_ok (X := X.suite a ((a, oe) :: pn)) ⟨g.scope, g.names, g.nd, g.blt, g.cst, g.tcst⟩ g.fnT h4
      · intro De B ρ F H ex E h q cls dd σ ρ' F' H' f xx r
        obtain ⟨C0, r1, r2, r3⟩ := id r
        subst r2
        refine ⟨XT.below ex.cls p.2, g.below _ _ r1 p hp _ a6, fun eb a h0 => ?_, fun eb => ?_⟩
        · have q : Pq X.K XA W De B ρ F H ((match XT.below ex.cls p.2 with
            | true => S.nox (runs T XT C suite E)
            | false => runh T XT C hs ex E) h) := q
          rw [eb] at q
          have q : Pq X.K XA WF De B ρ F H (runs T XT C suite E h) := by
            have q : Pq X.K XA W De B ρ F H (match runs T XT C suite E h with
              | .exc _ _ _ => .bad
              | o => o) := q
            cases e : runs T XT C suite E h with
            | fl fl E' h' =>
              rw [e] at q
              cases fl <;> exact q
            | exc ex E' h' => rw [e] at q; exact q.elim
            | bad => rw [e] at q; exact q.elim
          exact ⟨B, ρ', F', h, E, f, q.re xx⟩
        · have q : Pq X.K XA W De B ρ F H ((match XT.below ex.cls p.2 with
            | true => S.nox (runs T XT C suite E)
            | false => runh T XT C hs ex E) h) := q
          rw [eb] at q
          exact hw De B ρ F H ex E h q _ dd σ ρ' F' H' f xx r
    · cases h1
theorem t_try (g : GoodS XA T XT C k ck sc X W) {n : Nat} {body : List Stmt} {hd : ExceptHandler} {hds : List ExceptHandler} {hs : NHs} {mb : Env → S} (hh : chkHs n ck sc (hd :: hds) hs = true)
    (hb : ∀ (W' : WX) (pn : List (Addr × Obj)) (xe : Value → Shared → Prop), Takes (X.tr pn xe) W' → PassesOwn (model X.prog X.w) X.A X.env xe → PSs (X.tr pn xe) body (tS X.K XA W' mb)) :
    PS X (.Try body (hd :: hds) [] [] pos) (tS X.K XA W fun E => fun h => match mb E h with
      | .exc e E' h' => runh T XT C hs e E' h'
      | o => o) := by
  obtain ⟨l, hl, hw⟩ := hs_ok g hh
  refine PS.imp (ps_try_many g.hs g.hf g.tk hb hl) fun De σ H ⟨B, ρ, F, h, E, f, p⟩ => ⟨B, ρ, F, h, E, f, ?_⟩
  have p : Pq X.K XA W De B ρ F H (match mb E h with
      | .exc e E' h' => runh T XT C hs e E' h'
      | o => o) := p
  cases e : mb E h with
  | fl fl E' h' =>
    rw [e] at p
    cases fl <;> exact p
  | exc ex E' h' =>
    rw [e] at p
    exact fun cls dd σ' ρ' F' H' f' x' r' => hw De B ρ F H ex E' h' p cls dd σ' ρ' F' H' f' x' r'
  | bad => rw [e] at p; exact p.elim
end
end Ny

set_option maxHeartbeats 4000000
/-! Ny: every statement that the check takes. -/
namespace Ny
open PySem PySem.Spec PyProof.Rows L2

/-- a comprehension that goes to the name x on its line: stored within, or (the name captured) behind -/
def lcSw (sc : Scope) (x : Str) (px p2 : Pos) (scope : Scope) : Bool := decide (sc.kind = .function) && (decide (sc.names.lookup x = some .local) && ((px.line == p2.line) && !(scope.names.any fun (n, k) => n == x && (k == .local || k == .cell))))
def lcCell (sc : Scope) (x : Str) : Bool := decide (sc.names.lookup x = some .cell)
mutual
def chkS : Nat → Ck → Scope → Stmt → NS → Bool
  | 0, _, _, _, _ => false
  | n + 1, ck, sc, st, ns => match ns with
    | .pass => (match st with
      | .Pass _ => true
      | .Expr (.Constant (.str _) _ _) _ => true
      | _ => false)
    | .brk => (match st with
      | .Break _ => true
      | _ => false)
    | .cont => (match st with
      | .Continue _ => true
      | _ => false)
    | .retN => (match st with
      | .Return none _ => true
      | _ => false)
    | .ret _ e => (match st with
      | .Return (some v) _ => chkE n ck sc v e
      | _ => false)
    | .asg _ t e => (match st with
      | .Assign [tg] v _ => (match v with
        | .ListComp _ _ scope p2 => (match t, tg with
          | .nm i, .Name x px => setB ck sc x i && ((lcSw sc x px p2 scope || lcCell sc x) && chkE n ck sc v e)
          | _, _ => false)
        | v => noComp v && (noSwap sc tg v && (chkT n ck (tbOf sc) tg t && chkE n ck sc v e)))
      | _ => false)
    | .own _ i e => (match st with
      | .Assign [.Name x px] v _ => setB ck sc x i && (match e with
        | .dct0 _ => (match v with
          | .Dict [] [] _ => true
          | _ => false)
        | e => freshB e && (chkE n ck sc v e && (match v with
          | .ListComp _ _ scope p2 => lcSw sc x px p2 scope || lcCell sc x
          | v => noComp v)))
      | _ => false)
    | .par _ i j a b => (match st with
      | .Assign [.Tuple [.Name x px, .Name y py] _ _] (.Tuple [u, v] _ _) _ => setB ck sc x i && (setB ck sc y j && (!decide (i = j) && (parB sc x y px py u v && (chkE n ck sc u a && chkE n ck sc v b))))
      | _ => false)
    | .par2 _ i oi j oj a b => (match st with
      | .Assign [.Tuple [.Name x px, .Name y py] _ _] (.Tuple [u, v] _ _) _ => setB ck sc x i && (setB ck sc y j && (!decide (i = j) && (parB sc x y px py u v && ((!oi || freshB a) && ((!oj || freshB b) && (chkE n ck sc u a && chkE n ck sc v b))))))
      | _ => false)
    | .aug i op e => (match st with
      | .AugAssign (.Name x _) op' v _ => decide (op' = op) && (setB ck sc x i && (okAug op && chkE n ck sc v e))
      | _ => false)
    | .setI i q e => (match st with
      | .Assign [.Subscript (.Name x _) ke _] v _ => locB ck sc x i && (noComp v && (plainIxB ke && (chkE n ck sc v e && chkE n ck sc ke q)))
      | _ => false)
    | .app _ i e => (match st with
      | .Expr (.Call (.Attribute (.Name x _) m ap) [a] [] cp) _ => decide (m = ("append" : Str)) && (locB ck sc x i && (notStar a && ((ap.endLine == cp.line) && chkE n ck sc a e)))
      | _ => false)
    | .ife c a b => (match st with
      | .If t u v _ => chkE n ck sc t c && (chkB n ck sc u a && chkB n ck sc v b)
      | _ => false)
    | .for_ _ t it body => (match st with
      | .For tg iter bd [] _ => chkT n ck (tbOf sc) tg t && (notSet iter && (chkI n ck sc tg iter it && chkB n ck sc bd body))
      | _ => false)
    | .expr e => (match st with
      | .Expr v _ => noComp v && chkE n ck sc v e
      | _ => false)
    | .raise c es => (match st, es with
      | .Raise (some (.Call (.Name x _) [.Constant (.str m) _ _] [] _)) none _, .cons (.cst (.str m')) .nil => decide (m = m') && excB ck sc x c
      | _, _ => false)
    | .try_ body hs => (match st with
      | .Try bd (h :: hds) [] [] _ => chkHs n ck sc (h :: hds) hs && chkB n ck sc bd body
      | _ => false)
    | _ => false
def chkB : Nat → Ck → Scope → List Stmt → NSs → Bool
  | 0, _, _, _, _ => false
  | n + 1, ck, sc, sts, nss => match nss with
    | .nil => sts.isEmpty
    | .cons s ss => (match sts with
      | st :: sts => chkS n ck sc st s && chkB n ck sc sts ss
      | [] => false)
end
section
variable {XA : Nat → Option Addr} {T : Tab} {XT : XTab} {C : Call} {k : Nat} {ck : Ck}
/-- the parts of a comprehension -/
structure LcP (XA : Nat → Option Addr) (T : Tab) (C : Call) (ck : Ck) (X : Cx) (W : WX) (el tg iter : Expr) (ifs : List Expr) (scope : Scope) (own : List Nat) (t : NT) (it : NI) (cond elt : NE) : Prop where
  ok : BlkOk X.N X.env.scope scope (ownP ck own)
  ti : ntIn t own = true
  ns : notSet iter = true
  i : PI X tg iter (tG X.K XA W (RelI X.K true) fun E => evi T C it E true)
  g : ∀ (s : Shared) (H : Hp) (Cc : Addr) (cl : List (Str × Addr)) (fp : List Addr), PG (X.blk s H scope (compEnvC scope cl Cc X.env) fp) tg (gT X.K XA t)
  c : ∀ (s : Shared) (H : Hp) (Cc : Addr) (cl : List (Str × Addr)) (fp : List Addr), PTs (X.blk s H scope (compEnvC scope cl Cc X.env) fp) ifs (tG X.K XA WF RelTB fun E => ev T C cond E true)
  e : ∀ (s : Shared) (H : Hp) (Cc : Addr) (cl : List (Str × Addr)) (fp : List Addr), PE (X.blk s H scope (compEnvC scope cl Cc X.env) fp) el (tG X.K XA WF (lf (Rd X.K)) fun E => ev T C elt E false)
theorem how_of {ck : Ck} {own : List Nat} : (ownP ck own).map (·.2) = own := by
  unfold ownP
  rw [List.map_map]
  exact List.map_id _
theorem lc_parts {sc : Scope} {X : Cx} {W : WX} {n : Nat} {el : Expr} {gens : List Comprehension} {scope : Scope} {p2 : Pos} {e : NE} (g : Good XA T C k ck sc X) (hx : Pas X W) (h : chkE n ck sc (.ListComp el gens scope p2) e = true) :
    ∃ tg iter ifs own t it cond elt, gens = [⟨tg, iter, ifs, 0⟩] ∧ e = .lc own t it cond elt ∧ LcP XA T C ck X W el tg iter ifs scope own t it cond elt := by
  cases n with
  | zero => simp [chkE] at h
  | succ n =>
    unfold chkE at h
    cases e <;> first | cases h | skip
    all_goals simp only at h
    all_goals first | (cases h; done) | skip
    rename_i own t it cond elt
    cases gens with
    | nil => cases h
    | cons g0 gr =>
      cases gr with
      | cons => obtain ⟨a1, a2, a3, a4⟩ := g0; cases h
      | nil =>
    obtain ⟨tg, iter, ifs, i⟩ := g0
    simp only [Bool.and_eq_true, decide_eq_true_eq] at h
    obtain ⟨h1, h2, h3, h4, h5, h6, h7, h8⟩ := h
    subst h1
    refine ⟨_, _, _, own, t, it, cond, elt, rfl, rfl, ?_, h4, h5, (allN n).fI g hx h6, fun s H Cc cl fp => ?_, fun s H Cc cl fp => ?_, fun s H Cc cl fp => ?_⟩
    · rw [g.names, g.scope]
      exact blkOk_by h2
    · exact s_tgt (X := X.blk s H _ (compEnvC _ cl Cc X.env) fp) g.calm g.names g.nd (tb_blk g.scope s H Cc cl fp) h3
    · exact (allN n).fC (g.blk s H Cc cl fp) pasF h7
    · exact ((allN n).fE (g.blk s H Cc cl fp) pasF h8).V
theorem sw_false {elt : Expr} {gs : List Comprehension} {scope sc : Scope} {p2 px : Pos} {x : Str} {l : Nat} {X : Cx} (hsc : X.env.scope = sc) (h : lcCell sc x = true) : swapsWith (.ListComp elt gs scope p2) (some (.Name x px)) l X.env = pure false := by
  have h : sc.names.lookup x = some .cell := of_decide_eq_true h
  have ky : X.env.kindOf x = some .cell := by
    show X.env.scope.names.lookup x = _
    rw [hsc]
    exact h
  unfold swapsWith
  simp only [ky]
  rw [show ((some NameKind.cell == some NameKind.local) = false) from rfl, Bool.and_false, Bool.false_and, Bool.false_and]
/-- name = [..] -/
theorem lc_ps {sc : Scope} {X : Cx} {W : WX} {el tg iter : Expr} {ifs : List Expr} {scope : Scope} {own : List Nat} {t : NT} {it : NI} {cond elt : NE} {x : Str} {px p2 pos : Pos} {i : Nat} (g : Good XA T C k ck sc X) (fnT : ∀ x, X.fn x = true) (hb : setB ck sc x i = true)
    (hs : (lcSw sc x px p2 scope || lcCell sc x) = true) (P : LcP XA T C ck X W el tg iter ifs scope own t it cond elt) :
    PS X (.Assign [.Name x px] (.ListComp el [⟨tg, iter, ifs, 0⟩] scope p2) pos) (tAsg (tG X.K XA W (RdG X.K) fun E => ev T C (.lc own t it cond elt) E false) (gName i)) := by
  obtain ⟨h1, h2⟩ := Bool.and_eq_true_iff.mp hb
  have hN : X.N.Nodup := by rw [g.names]; exact g.nd
  have hi : X.N[i]? = some x := by rw [g.names]; exact of_decide_eq_true h1
  obtain ⟨l, _⟩ := tb_of g.toGoodQ fnT h2
  rcases Bool.or_eq_true_iff.mp hs with hs | hs
  · unfold lcSw at hs
    simp only [Bool.and_eq_true, decide_eq_true_eq, Bool.not_eq_true'] at hs
    obtain ⟨s1, s2, s3, s4⟩ := hs
    refine PS.imp (ps_setLc g.calm hN hi (by rw [g.scope]; exact s2) (sw_true (by rw [g.scope]; exact s1) (by rw [g.scope]; exact s2) s3 s4) P.i P.ok P.g P.c P.e (notSet_of P.ns)) fun De σ H q => ?_
    show tLc _ _ _ _ ((ownP ck own).map (·.2)) σ H _
    rw [how_of]
    exact lc_imp P.ti σ H _ q
  · refine ps_set hN hi l ?_ (sw_false g.scope hs) (.inl (fnT x))
    exact s_lc g.calm hN P.i P.ok how_of P.ti P.g P.c P.e (notSet_of P.ns)
structure AllS (XA : Nat → Option Addr) (T : Tab) (XT : XTab) (C : Call) (k : Nat) (ck : Ck) (n : Nat) : Prop where
  S : ∀ {sc : Scope} {X : Cx} {W : WX} {st : Stmt} {ns : NS}, GoodS XA T XT C k ck sc X W → chkS n ck sc st ns = true → PS X st (tS X.K XA W fun E => run T XT C ns E)
  B : ∀ {sc : Scope} {X : Cx} {W : WX} {sts : List Stmt} {nss : NSs}, GoodS XA T XT C k ck sc X W → chkB n ck sc sts nss = true → PSs X sts (tS X.K XA W fun E => runs T XT C nss E)
theorem stepB {n : Nat} (ih : AllS XA T XT C k ck n) {sc : Scope} {X : Cx} {W : WX} {sts : List Stmt} {nss : NSs} (g : GoodS XA T XT C k ck sc X W) (h : chkB (n + 1) ck sc sts nss = true) : PSs X sts (tS X.K XA W fun E => runs T XT C nss E) := by
  unfold chkB at h
  cases nss with
  | nil =>
    have e : sts = [] := List.isEmpty_iff.mp h
    subst e
    exact b_nil
  | cons s ss =>
    cases sts with
    | nil => cases h
    | cons st sts =>
      obtain ⟨h1, h2⟩ := Bool.and_eq_true_iff.mp h
      exact b_cons (ih.S g h1) (ih.B g h2)
theorem stepS {n : Nat} (ih : AllS XA T XT C k ck n) {sc : Scope} {X : Cx} {W : WX} {st : Stmt} {ns : NS} (g : GoodS XA T XT C k ck sc X W) (h : chkS (n + 1) ck sc st ns = true) : PS X st (tS X.K XA W fun E => run T XT C ns E) := by
  have hx := g.pas
  have gq := g.toGoodQ
  have g0 := g.toGood
  have hN : X.N.Nodup := by rw [g.names]; exact g.nd
  unfold chkS at h
  cases ns with
  | pass =>
    simp only at h
    split at h
    · exact t_pass
    · exact t_doc
    · cases h
  | brk =>
    simp only at h
    split at h
    · exact t_brk
    · cases h
  | cont =>
    simp only at h
    split at h
    · exact t_cont
    · cases h
  | retN =>
    simp only at h
    split at h
    · exact t_retN
    · cases h
  | ret fr e =>
    simp only at h
    split at h
    · exact t_ret (fr := fr) ((allN n).fE g0 hx h).V
    · cases h
  | asg fr t e =>
    simp only at h
    split at h
    · rename_i tg v pos
      split at h
      · rename_i el gens scope p2
        split at h
        · rename_i i x px
          simp only [Bool.and_eq_true] at h
          obtain ⟨h1, h2, h3⟩ := h
          obtain ⟨tg', iter, ifs, own, t, it, cond, elt, rfl, rfl, P⟩ := lc_parts g0 hx h3
          refine PS.imp (lc_ps g0 g.fnT h1 h2 P) fun De σ H ⟨B, ρ, F, h, E, f, p⟩ => ?_
          obtain ⟨F', f', lF⟩ := f.freeze (fr := fr)
          refine tG_mono (ev2 f' (p.re (.less lF))) fun v H1 ⟨ρ1, F1, h1, d, f1, x1, r, p1⟩ => ?_
          have b1 : bindT (.nm i) d (freeze E fr) = some ((freeze E fr).set i (.val d)) := rfl
          exact Pq.nx (f1.bind b1 (f1.env.setVal r.rd) fun vs hv => wipe_set (List.contains_iff_mem.mp (by unfold ntIn at hv; exact hv))) p1
        · cases h
      · simp only [Bool.and_eq_true] at h
        obtain ⟨h1, h2, h3, h4⟩ := h
        refine t_asg (fr := fr) gq ((allN n).fE g0 hx h4).V (s_tgt g.calm g.names g.nd (fun x hx => tb_of gq g.fnT hx) h3) h1 h2 ?_
        cases n with
        | zero => simp [chkT] at h3
        | succ n =>
          unfold chkT at h3
          cases t with
          | nm i => cases tg <;> first | rfl | cases h3
          | tp ts => cases tg <;> first | rfl | cases h3
    · cases h
  | own fr i e =>
    simp only at h
    split at h
    · rename_i x px v pos
      obtain ⟨h1, h2⟩ := Bool.and_eq_true_iff.mp h
      split at h2
      · split at h2
        · exact t_dct0 (fr := fr) gq _ g.fnT h1
        · cases h2
      · simp only [Bool.and_eq_true] at h2
        obtain ⟨h3, h4, h5⟩ := h2
        split at h5
        · rename_i el gens scope p2
          obtain ⟨tg', iter, ifs, own, t, it, cond, elt, rfl, rfl, P⟩ := lc_parts g0 hx h4
          refine PS.imp (lc_ps g0 g.fnT h1 h5 P) fun De σ H ⟨B, ρ, F, h, E, f, p⟩ => ?_
          obtain ⟨F', f', lF⟩ := f.freeze (fr := fr)
          exact tG_mono (ev2N (m := fun E => ev T C (.lc own t it cond elt) E false) f' (p.re (.less lF))) fun v H1 q => own_fin own_relG f' q
        · exact t_own (fr := fr) gq g.fnT h1 h5 (((allN n).fE g0 hx h4).G h3)
    · cases h
  | par fr i j a b =>
    simp only at h
    split at h
    · simp only [Bool.and_eq_true, Bool.not_eq_true', decide_eq_false_iff_not] at h
      obtain ⟨h1, h2, h3, h4, h5, h6⟩ := h
      exact t_par (fr := fr) g h1 h2 h3 h4 ((allN n).fE g0 hx h5).V ((allN n).fE g0 hx h6).V
    · cases h
  | par2 fr i oi j oj a b =>
    simp only at h
    split at h
    · simp only [Bool.and_eq_true, Bool.not_eq_true', decide_eq_false_iff_not] at h
      obtain ⟨h1, h2, h3, h4, h5, h6, h7, h8⟩ := h
      have sd : ∀ {o : Bool} {u : Expr} {a : NE}, (!o || freshB a) = true → chkE n ck sc u a = true → PE X u (tG X.K XA W (RelS X.K o) fun E => ev T C a E false) := fun {o u a} hf hc => by
        cases o with
        | true => exact ((allN n).fE g0 hx hc).G (by simpa using hf)
        | false => exact ((allN n).fE g0 hx hc).V
      exact t_par2 (fr := fr) g h1 h2 h3 h4 (sd h5 h7) (sd h6 h8)
    · cases h
  | aug i op e =>
    simp only at h
    split at h
    · simp only [Bool.and_eq_true, decide_eq_true_eq] at h
      obtain ⟨h1, h2, h3, h4⟩ := h
      subst h1
      exact t_aug g h2 h3 ((allN n).fE g0 hx h4).V
    · cases h
  | setI i q e =>
    simp only at h
    split at h
    · simp only [Bool.and_eq_true] at h
      obtain ⟨h1, h2, h3, h4, h5⟩ := h
      have he := ((allN n).fE (W := W) g0 hx h4).V
      exact t_setI (b := true) g h1 h2 h3 he (PE.rel ((allN n).fE g0 hx h5).V fun _ _ _ _ _ _ r => ⟨r, fun _ ds e => by
        subst e
        cases r with
        | tup t rs => exact ⟨_, _, rfl, t.1, t.2, rs⟩⟩)
    · cases h
  | app fr i e =>
    simp only at h
    split at h
    · simp only [Bool.and_eq_true, decide_eq_true_eq] at h
      obtain ⟨h1, h2, h3, h4, h5⟩ := h
      subst h1
      exact t_app (fr := fr) g h2 h3 h4 ((allN n).fE g0 hx h5).V
    · cases h
  | ife c a b =>
    simp only at h
    split at h
    · simp only [Bool.and_eq_true] at h
      obtain ⟨h1, h2, h3⟩ := h
      exact t_if ((allN n).fE g0 hx h1).Tt (ih.B g h2) (ih.B g h3)
    · cases h
  | for_ fr t it body =>
    simp only at h
    split at h
    · simp only [Bool.and_eq_true] at h
      obtain ⟨h1, h2, h3, h4⟩ := h
      exact t_for (fr := fr) g ((allN n).fI g0 hx h3) (s_tgt g.calm g.names g.nd (fun x hx => tb_of gq g.fnT hx) h1) (ih.B g h4) h2
    · cases h
  | expr e =>
    simp only at h
    split at h
    · obtain ⟨h1, h2⟩ := Bool.and_eq_true_iff.mp h
      exact t_expr ((allN n).fE g0 hx h2).V h1
    · cases h
  | raise c es =>
    simp only at h
    split at h
    · simp only [Bool.and_eq_true, decide_eq_true_eq] at h
      obtain ⟨h1, h2⟩ := h
      subst h1
      exact t_raise g h2
    · cases h
  | try_ body hs =>
    simp only at h
    split at h
    · obtain ⟨h1, h2⟩ := Bool.and_eq_true_iff.mp h
      exact t_try g h1 fun W' pn xe tk po => ih.B (g.tr tk po) h2
    · cases h
  | _ => cases h
theorem allS : ∀ n, AllS XA T XT C k ck n
  | 0 => ⟨fun _ h => by simp [chkS] at h, fun _ h => by simp [chkB] at h⟩
  | n + 1 => ⟨stepS (allS n), stepB (allS n)⟩
end
end Ny

set_option maxHeartbeats 2000000
/-! Ny: the defs of a program. -/
namespace Ny
open PySem PySem.Spec PyProof.Rows L2

structure DefE where
  x : Str
  st : Stmt
  N : List Str
  ps : List Str
  body : NSs
def DefE.fn (d : DefE) : Fn := ⟨d.ps.length, d.N.length, d.body⟩
structure Pg where
  defs : List DefE
  cst : List (Str × D) := []
  tcst : List (Str × List D) := []
  blt : List Str := []
  exc : List (Str × Nat) := []
  T : Tab := {}
  /-- defs that are called by names: place, how many values stand ahead -/
  kws : List (Nat × Nat) := []
  XT : XTab
def Pg.fns (P : Pg) : List Fn := P.defs.map DefE.fn
def fnTab : Nat → List DefE → List (Str × Nat × List Str)
  | _, [] => []
  | i, d :: ds => (d.x, i, d.ps) :: fnTab (i + 1) ds
def kwTab (ds : List DefE) (ks : List (Nat × Nat)) : List (Str × Nat × List Str × Nat) := ks.filterMap fun q => ds[q.1]?.map fun d => (d.x, q.1, d.ps, q.2)
theorem fnTab_mem : ∀ {ds : List DefE} {i : Nat} {q : Str × Nat × List Str}, q ∈ fnTab i ds → ∃ j d, ds[j]? = some d ∧ q = (d.x, i + j, d.ps)
  | [], _, _, h => by simp [fnTab] at h
  | d :: ds, i, q, h => by
    unfold fnTab at h
    rcases List.mem_cons.mp h with h | h
    · exact ⟨0, d, rfl, h⟩
    · obtain ⟨j, d', e, eq⟩ := fnTab_mem h
      exact ⟨j + 1, d', e, by rw [eq, Nat.add_assoc, Nat.add_comm 1 j]⟩
theorem kwTab_mem {ds : List DefE} {ks : List (Nat × Nat)} {p : Str × Nat × List Str × Nat} (h : p ∈ kwTab ds ks) : ∃ d, (p.2.1, p.2.2.2) ∈ ks ∧ ds[p.2.1]? = some d ∧ p.1 = d.x ∧ p.2.2.1 = d.ps := by
  obtain ⟨q, hq, e⟩ := List.mem_filterMap.mp h
  obtain ⟨d, e1, e2⟩ := Option.map_eq_some_iff.mp e
  subst e2
  exact ⟨d, hq, e1, rfl, rfl⟩
def Pg.ck (P : Pg) (d : DefE) : Ck := { N := d.N, fn := fnTab 0 P.defs, cst := P.cst, tcst := P.tcst, kw := kwTab P.defs P.kws, blt := P.blt, exc := P.exc }
def fnKind : Scope → Bool := fun sc => match sc.kind with
  | .function => true
  | _ => false
/-- the scope of a def -/
def fsB (N ps : List Str) (sc : Scope) : Bool := fnKind sc && (!sc.isCoroutine && (!sc.isGenerator && (decide N.Nodup && (decide (N.take ps.length = ps) && ((ps.all fun x => tbOf sc x) && (sc.names.all fun y => match y.2 with
  | .free => false
  | _ => true))))))
theorem fsB_ok {N ps : List Str} {sc : Scope} (h : fsB N ps sc = true) : FnScope N ps sc := by
  unfold fsB at h
  simp only [Bool.and_eq_true, Bool.not_eq_true', decide_eq_true_eq] at h
  obtain ⟨h1, h2, h3, h4, h5, h6, h7⟩ := h
  refine ⟨?_, h2, h3, h4, h5, fun x hx => ?_, fun y hy e => ?_⟩
  · unfold fnKind at h1
    split at h1
    · assumption
    · cases h1
  · have q := List.all_eq_true.mp h6 x hx
    unfold tbOf at q
    split at q
    · rename_i e; exact .inl e
    · rename_i e; exact .inr e
    · cases q
  · have q := List.all_eq_true.mp h7 y hy
    rw [e] at q
    cases q
def chkD (n : Nat) (P : Pg) (d : DefE) : Bool := fsB d.N d.ps (defScope d.st) && chkB n (P.ck d) (defScope d.st) (defBody d.st) d.body
abbrev FnF (K : PySem.W.Frag) (x : Str) (st : Stmt) (f : Addr) (fd : FuncData) : Prop := FunD K x x (defArgs st) (defBody st) (defScope st) [] [] f fd
structure PgOk (P : Pg) (K : PySem.W.Frag) (mg : Str → Option Value) (XA : Nat → Option Addr) : Prop where
  blt : ∀ x, P.blt.contains x = true → mg x = none
  cst : ∀ p ∈ P.cst, ∃ u v, mg p.1 = some u ∧ RelV v u ∧ ∀ ρ F H, Rd K ρ F H v p.2
  tcst : ∀ p ∈ P.tcst, ∃ a vs, mg p.1 = some (.ref a) ∧ KTup K a vs ∧ ∀ ρ F H, Rds K ρ F H vs p.2
  defs : ∀ (i : Nat) (d : DefE), P.defs[i]? = some d → ∃ f fd, mg d.x = some (.ref f) ∧ FnF K d.x d.st f fd ∧ Binds K fd d.ps []
  kws : ∀ q ∈ P.kws, ∀ d, P.defs[q.1]? = some d → ∀ f fd, FnF K d.x d.st f fd → KwOk fd d.ps q.2
  exc : ∀ p ∈ P.exc, ∃ (Cc : Addr) (bmB : List Value) (Bb newId initId : String), ExcBaseFacts Bb newId initId bmB ∧ PySem.W.excIn K Cc bmB newId = true ∧ mg p.1 = some (.ref Cc) ∧ PySem.W.keepIn K (.ref Cc) = true ∧
    PySem.W.subIn K (.ref Cc) (.type "BaseException") = some true ∧ PySem.W.typeIn K (.ref Cc) = some (.type "type") ∧ XA p.2 = some Cc ∧ P.XT.fields[p.2]? = some []
  below : ∀ (c : Nat) (Cc : Addr), XA c = some Cc → ∀ p ∈ P.exc, ∀ Cc', XA p.2 = some Cc' → PySem.W.exmOne K (.ref Cc) (.ref Cc') = some (P.XT.below c p.2)
  sorts : ∀ Y : Cx, Y.calm = true → Y.A.units + 64 < cLine → SortOk Y XA
  sets : ∀ Y : Cx, Y.calm = true → Y.A.units + 64 < cLine → SetOk Y XA
section
variable {P : Pg} {Pr : Program} {w : World} {K : PySem.W.Frag} {mg : Str → Option Value} {base : Heap} {XA : Nat → Option Addr} {n : Nat}
theorem callN_succ {k i : Nat} {d : DefE} (h : P.defs[i]? = some d) (ds : List D) : callN P.T P.XT P.fns (k + 1) i ds = R.need (ds.length == d.ps.length) (callF P.T P.XT (callN P.T P.XT P.fns k) d.fn ds) := by
  have e : P.fns[i]? = some d.fn := by
    unfold Pg.fns
    rw [List.getElem?_map, h]
    rfl
  show (match P.fns[i]? with
    | some fn => R.need (ds.length == fn.np) (callF P.T P.XT (callN P.T P.XT P.fns k) fn ds)
    | none => R.bad) = _
  rw [e]
  rfl
theorem callN_len {k i : Nat} {d : DefE} (h : P.defs[i]? = some d) {ds : List D} {hs : Hs} (e : callN P.T P.XT P.fns k i ds hs ≠ .bad) : ds.length = d.ps.length := by
  cases k with
  | zero => exact absurd rfl e
  | succ k =>
    rw [callN_succ h] at e
    cases c : (ds.length == d.ps.length) with
    | false => rw [c] at e; exact absurd rfl e
    | true => exact eq_of_beq c
/-- behind a call -/
theorem fin_xt {B : Base} {ρ' : Rho} {F' : Addr → Prop} {H' : Hp} {h' : Hs} {E : Env} {σ : L2.St} (f : Fr K XA B ρ' F' H' h' E σ) (hb : ∀ a, B.ρ.B a → B.H a ≠ none) (hl : ∀ a, B.H a ≠ none → H' a ≠ none) :
    Xt B.ρ B.H (Ny.reB ρ' B.ρ.B) H' ∧ Wd K (Ny.reB ρ' B.ρ.B) (orR B.F (Ny.reB ρ' B.ρ.B)) H' h' ∧ ∀ a, orR B.F (Ny.reB ρ' B.ρ.B) a → F' a := by
  have hF : ∀ a, orR B.F (Ny.reB ρ' B.ρ.B) a → F' a := fun a q => q.elim (f.sup a) (f.wd.sub a)
  refine ⟨⟨f.rho, rfl, f.new, f.keep⟩, ?_, hF⟩
  exact (reB_wd (Bs := B.ρ.B) f.wd fun a q => hl a (hb a q)).less hF fun a q => .inr q
theorem start_env {ρ : Rho} {F : Addr → Prop} {H : Hp} : ∀ {vs : List V} {ds : List D} (n : Nat), Rds K ρ F H vs ds → EnvR K XA ρ F H (ds.map Slot.val ++ List.replicate n Slot.no) (vs.map some ++ List.replicate n none) := by
  intro vs ds n r
  have hl := r.length
  refine ⟨by simp [hl], fun i s v h1 h2 => ?_, fun i j d d' a h1 h2 h3 h4 => ?_⟩
  · by_cases hi : i < ds.length
    · rw [List.getElem?_append_left (by simpa using hi), List.getElem?_map] at h1
      rw [List.getElem?_append_left (by rw [List.length_map, hl]; exact hi), List.getElem?_map] at h2
      cases e : ds[i]? with
      | none => rw [e] at h1; cases h1
      | some d =>
        rw [e] at h1
        obtain ⟨u, eu, ru⟩ := r.get e
        rw [eu] at h2
        cases h1
        cases h2
        exact ru
    · rw [List.getElem?_append_right (by simpa using hi)] at h1
      rw [List.getElem?_replicate] at h1
      split at h1
      · cases h1; trivial
      · cases h1
  · exfalso
    by_cases hi : i < ds.length
    · rw [List.getElem?_append_left (by simpa using hi), List.getElem?_map] at h1
      cases e : ds[i]? with
      | none => rw [e] at h1; cases h1
      | some d => rw [e] at h1; cases h1
    · rw [List.getElem?_append_right (by simpa using hi), List.getElem?_replicate] at h1
      split at h1 <;> cases h1
theorem start_own {ds : List D} {n i : Nat} {d : D} : (ds.map Slot.val ++ List.replicate n Slot.no)[i]? ≠ some (.own d) := by
  intro h1
  by_cases hi : i < ds.length
  · rw [List.getElem?_append_left (by simpa using hi), List.getElem?_map] at h1
    cases e : ds[i]? with
    | none => rw [e] at h1; cases h1
    | some d => rw [e] at h1; cases h1
  · rw [List.getElem?_append_right (by simpa using hi), List.getElem?_replicate] at h1
    split at h1 <;> cases h1
/-- each def keeps its promise, k calls deep -/
theorem progOk (O : PgOk P K mg XA) (hc : ∀ d ∈ P.defs, chkD n P d = true) : ∀ (k i : Nat) (d : DefE) (f : Addr) (fd : FuncData), P.defs[i]? = some d → FnF K d.x d.st f fd →
    FnOk Pr w K mg base (L2.CX Pr w) k f fd d.ps (spN K XA d.ps.length (callN P.T P.XT P.fns k i))
  | 0, i, d, f, fd, hi, F => ⟨fun vs H Q E q => q.1, fun A outer s H args us vs Q E hr e0 b r q => by
    obtain ⟨_, ρ, F', h, ds, w, rs, po⟩ := q
    exact po.elim⟩
  | k + 1, i, d, f, fd, hi, F => by
    have hck := hc d (List.mem_of_getElem? hi)
    unfold chkD at hck
    obtain ⟨c1, c2⟩ := Bool.and_eq_true_iff.mp hck
    have S := fsB_ok c1
    refine FunD.ok F S (fun vs H Q E q => q.1) fun cdv A outer s H vs Q E hr q => ?_
    obtain ⟨hl, ρ, F', h, ds, wd, rs, po⟩ := q
    let Xc := cxOf (L2.CX Pr w) Pr w K mg base d.N d.x (defScope d.st) f cdv A outer s H E
    have tk : Takes Xc (fun c dd _ H => E c dd H) := takes_of rfl rfl rfl rfl
    have g : GoodS XA P.T P.XT (callN P.T P.XT P.fns k) k (P.ck d) (defScope d.st) Xc (fun c dd _ H => E c dd H) := {
      scope := rfl
      names := rfl
      nd := S.nd
      blt := O.blt
      cst := O.cst
      tcst := O.tcst
      calm := rfl
      fns := fun p hp => by
        obtain ⟨j, d', ej, eq⟩ := fnTab_mem hp
        subst eq
        obtain ⟨f', fd', m', F2, b'⟩ := O.defs j d' ej
        rw [Nat.zero_add]
        exact ⟨f', fd', m', F2.kp, b', progOk O hc k j d' f' fd' ej F2⟩
      kws := fun p hp => by
        obtain ⟨d', hq, ej, e1, e2⟩ := kwTab_mem hp
        obtain ⟨f', fd', m', F2, _⟩ := O.defs p.2.1 d' ej
        have F3 : FnOk Pr w K mg base (L2.CX Pr w) k f' fd' d'.ps (spN K XA d'.ps.length (callN P.T P.XT P.fns k p.2.1)) := progOk O hc k p.2.1 d' f' fd' ej F2
        rw [e2]
        exact ⟨f', fd', by rw [e1]; exact m', F2.kp, O.kws _ hq d' ej f' fd' F2, F3⟩
      kar := fun p hp ds h e => by
        obtain ⟨d', hq, ej, e1, e2⟩ := kwTab_mem hp
        rw [e2]
        exact callN_len ej e
      ar := fun p hp ds h e => by
        obtain ⟨j, d', ej, eq⟩ := fnTab_mem hp
        subst eq
        rw [Nat.zero_add] at e
        exact callN_len ej e
      room := hr
      sorts := O.sorts
      sets := O.sets
      po := passes_of rfl
      tk := tk
      hs := rfl
      hf := rfl
      fnT := fun _ => rfl
      exc := fun p hp => by
        obtain ⟨Cc, bmB, Bb, n1, n2, a1, a2, a3, a4, a5, a6, a7, a8⟩ := O.exc p hp
        exact ⟨Cc, bmB, Bb, n1, n2, a1, a2, a3, a4, raises_own a5 a6, a7, a8⟩
      below := O.below }
    refine ⟨_, (allS n).B g c2, ⟨⟨ρ, F', H⟩, ρ, F', h, startE d.N.length ds, ?_, ?_⟩⟩
    · have el : d.N.length - vs.length = d.N.length - ds.length := by rw [rs.length]
      refine ⟨wd, ?_, fun _ _ e => e, fun _ q => .inl q, fun _ _ _ e => e, fun i d a e => absurd e start_own, fun _ q => q, wd.trk⟩
      unfold startE L2.start
      rw [el]
      exact start_env _ rs
    · rw [callN_succ hi] at po
      obtain ⟨_, po⟩ := Po.need po
      unfold callF at po
      have efn : d.fn.n = d.N.length := rfl
      have ebd : d.fn.body = d.body := rfl
      rw [efn, ebd] at po
      show Pq K XA (fun c dd _ H => E c dd H) _ _ _ _ _ (runs P.T P.XT (callN P.T P.XT P.fns k) d.body (startE d.N.length ds) h)
      cases e : runs P.T P.XT (callN P.T P.XT P.fns k) d.body (startE d.N.length ds) h with
      | fl fl E' h' =>
        rw [e] at po
        cases fl with
        | nx =>
          intro σ ρ2 F2 H2 fr x
          obtain ⟨x1, w1, lF⟩ := fin_xt fr wd.bs x.live
          exact po .non _ _ x1 w1 .non
        | bk => exact po.elim
        | ct => exact po.elim
        | rt dv =>
          intro v σ ρ2 F2 H2 fr x r
          obtain ⟨x1, w1, lF⟩ := fin_xt fr wd.bs x.live
          exact po v _ _ x1 w1 ((reB_rd r).less lF)
      | exc ex E' h' =>
        rw [e] at po
        intro cls dd σ ρ2 F2 H2 fr x r
        obtain ⟨x1, w1, lF⟩ := fin_xt fr wd.bs x.live
        refine po cls dd _ _ x1 w1 ?_
        obtain ⟨Cc, e1, e2, e3⟩ := reB_ex (Bs := ρ.B) r
        refine ⟨Cc, e1, e2, ?_⟩
        cases hf : ex.fs with
        | nil => rw [hf] at e3; exact e3
        | cons a as =>
          rw [hf] at e3
          obtain ⟨d0, vs0, b1, b2, b3, b4, b5⟩ := e3
          exact ⟨d0, vs0, b1, b2, fun z => b3 (lF _ z), b4, b5.less lF⟩
      | bad => rw [e] at po; exact po.elim
end
end Ny

set_option maxHeartbeats 2000000
/-! Ny: the end of a law. -/
namespace Ny
open PySem PySem.Spec PyProof.Rows L2
/-- as walk_ofE, the script's bits told -/
theorem walk_ofEB {l : PySem.W.OpenLaw} {n k : Nat} {q : Program} {loose : List Str} {XP : (Str → Option Value) → Heap → Prop} {YP : World → Heap → Prop} {d : DefRec} {CX : World → CXT} {x : Str}
    (hn : l.most = some n) (hn2 : n ≤ sizeLine) (hdf : d.params.defaults = []) (hr : Room k callerA)
    (F : ∀ (w : World) (mg : Str → Option Value) (fa : Addr) (h : Heap), YP w h → h.Ns mainGlobals mg → mg d.name = some (.ref fa) →
      ∃ (K : PySem.W.Frag) (fd : FuncData) (sp : Sp), K.In h ∧ (∀ (s : Shared) (u : Value), BindsTo s fd ⟨[u], []⟩ [(x, u)]) ∧
        (∀ (H : Hp) (a : Addr) (ns : List Int), ns.length ≤ n → (∀ z ∈ ns, Builtin.Int.intBits z ≤ 1048576) → Only H → SqL K H a (ns.map V.int) → sp [.ref a] H (fun v _ => v = .bl true) fun _ _ _ => False) ∧
        ∀ base : Heap, K.In base → base.Ns mainGlobals mg → FnOk l.prog w K mg base (CX w) k fa fd [x] sp)
    (hCX : ∀ (w : World) (H : Hp) (s : Shared) (e : Value) (s' : Shared), CX w [] H s (fun _ _ _ => False) e s' → False) :
    PySem.W.WalkO q loose XP YP l.row.toRowW d [] (fun f vs => PySem.call f vs) := by
  refine Att.attach_callB hn hdf fun w s₀ s₁ mg mb fa o pm cd doc a vs ns G Y ho hd hcd hmg hobj hints hlen hbits hg => ?_
  obtain ⟨K, fd, sp, KX, hb, hsp, hF⟩ := F w mg fa _ Y G.T.g hmg
  exact law_call KX G.T.g G.T.b G.T.builtins G.T.nolimit hg hobj hints (Nat.le_trans hlen hn2) hr hF hb (fun H hO hS => hsp H a ns hlen hbits hO hS) fun H e s' => hCX w H s₁ e s'

/-! ### a hook that looks at constant tuples, too -/
def obsN1 (fa : List He.Fa) (fn : List He.DefD) (ex : PySem.W.Frag → Bool) (K : PySem.W.Frag) : He.AlD × Bool := (He.obsD fa fn K, ex K)
def obsN (n : Nat) (fa : List He.Fa) (fn : List He.DefD) (ex : PySem.W.Frag → Bool) (g : Addr → Option Obj) : He.AlD × Bool := obsN1 fa fn ex (He.frG g (He.asD g n))
def hookN (n : Nat) (fa : List He.Fa) (fn : List He.DefD) (ex : PySem.W.Frag → Bool) : PySem.W.Hook where
  α := He.AlD × Bool
  obs := fun s => obsN n fa fn ex s.heap.get?
  val := fun _ => (He.valD fn, true)
  says := fun _ h => ∃ K : PySem.W.Frag, K.In h ∧ He.SaysD fa fn K ∧ ex K = true
  of := fun _ _ e => ⟨_, He.frG_in, (Prod.mk.inj e).1, (Prod.mk.inj e).2⟩
  keeps := fun _ _ _ ⟨K, hK, c⟩ k => ⟨K, PySem.W.Frag.In.keeps hK k, c⟩
theorem obsN_eq {n : Nat} {fa : List He.Fa} {fn : List He.DefD} {ex : PySem.W.Frag → Bool} {g : Addr → Option Obj} {s : Shared} (h : ∀ a, g a = s.heap.get? a) : obsN n fa fn ex g = (hookN n fa fn ex).obs s := by
  have e : g = s.heap.get? := funext h
  rw [e] <;> rfl
def valB : Value → D → Bool
  | .int i _, .int j => decide (i = j)
  | .str x _, .str y => decide (x = y)
  | _, _ => false
def valsB : List Value → List D → Bool
  | [], [] => true
  | v :: vs, d :: ds => valB v d && valsB vs ds
  | _, _ => false
theorem valsB_ok {K : PySem.W.Frag} : ∀ {us : List Value} {ds : List D}, valsB us ds = true → ∃ vs, Vals vs us ∧ ∀ ρ F H, Rds K ρ F H vs ds
  | [], [], _ => ⟨[], .nil, fun _ _ _ => .nil⟩
  | [], _ :: _, h => by cases h
  | _ :: _, [], h => by cases h
  | u :: us, d :: ds, h => by
    obtain ⟨h1, h2⟩ := Bool.and_eq_true_iff.mp h
    obtain ⟨vs, r, q⟩ := valsB_ok (K := K) h2
    unfold valB at h1
    split at h1
    · rename_i i t j
      have e := of_decide_eq_true h1
      subst e
      exact ⟨.int i :: vs, .cons ⟨t, rfl⟩ r, fun ρ F H => .cons (.int i) (q ρ F H)⟩
    · rename_i i t j
      have e := of_decide_eq_true h1
      subst e
      exact ⟨.str i :: vs, .cons ⟨t, rfl⟩ r, fun ρ F H => .cons (.str i) (q ρ F H)⟩
    · cases h1
def tupB (K : PySem.W.Frag) (a : Addr) (xs : List D) : Bool := match K.lookup a with
  | some o => (match o.data with
    | .seq its n => decide (o.cls = .type "tuple") && (decide (its.size ≤ sizeLine) && valsB its.toList xs)
    | _ => false)
  | none => false
theorem tupB_ok {K : PySem.W.Frag} {a : Addr} {xs : List D} (h : tupB K a xs = true) : ∃ vs, KTup K a vs ∧ ∀ ρ F H, Rds K ρ F H vs xs := by
  unfold tupB at h
  split at h
  · rename_i o e
    split at h
    · rename_i its n e2
      simp only [Bool.and_eq_true, decide_eq_true_eq] at h
      obtain ⟨h1, h2, h3⟩ := h
      obtain ⟨vs, r, q⟩ := valsB_ok (K := K) h3
      exact ⟨vs, ⟨o, its, n, e, h1, e2, h2, r⟩, q⟩
    · cases h
  · cases h
def exOf (P : Pg) (K : PySem.W.Frag) : Bool := P.tcst.all fun p => match PySem.W.nsIn K mainGlobals p.1 with
  | some (some (.ref a)) => tupB K a p.2
  | _ => false
/-! ### facts of the heap -/
def cstFa (p : Str × D) : List He.Fa := match p.2 with
  | .int i => [.int p.1 i]
  | .str z => [.str p.1 z]
  | _ => []
def faOf (P : Pg) : List He.Fa := P.defs.map (fun d => .glo d.x) ++ (P.blt.map .free ++ (P.cst.flatMap cstFa ++ (P.exc.map (fun p => .exc p.1) ++ (P.exc.map (fun p => .glo p.1) ++ P.exc.flatMap fun p => P.exc.map fun q => .exm p.1 q.1 (P.XT.below p.2 q.2)))))
def dOf (d : DefE) : He.DefD := ⟨(d.x, none), d.x, d.x, defArgs d.st, defBody d.st, defScope d.st, [], []⟩
def fnsOf (P : Pg) : List He.DefD := P.defs.map dOf
def exAt (P : Pg) (c : Nat) : Option Str := (P.exc.find? fun p => p.2 == c).map (·.1)
def XAof (P : Pg) (K : PySem.W.Frag) : Nat → Option Addr := fun c => (exAt P c).map (He.ga K)
/-- what is to be looked at once: constants of the two sorts, classes by place -/
def pgB (P : Pg) : Bool := (P.cst.all fun p => match p.2 with
  | .int _ => true
  | .str _ => true
  | _ => false) && (P.exc.all fun p => decide (exAt P p.2 = some p.1) && decide (P.XT.fields[p.2]? = some []))
section
variable {P : Pg} {K : PySem.W.Frag} {h : Heap} {mg : Str → Option Value}
theorem fact_of (c : He.SaysD (faOf P) (fnsOf P) K) {f : He.Fa} (hf : f ∈ faOf P) : f.ok K = true := by
  obtain ⟨i, hi⟩ := List.mem_iff_getElem?.mp hf
  exact c.fact i hi
theorem pgOk_of (X : K.In h) (G : h.Ns mainGlobals mg) (c : He.SaysD (faOf P) (fnsOf P) K) (cx : exOf P K = true) (hb : pgB P = true)
    (hbd : ∀ (i : Nat) (d : DefE), P.defs[i]? = some d → ∀ (f : Addr) (fd : FuncData), FnF K d.x d.st f fd → Binds K fd d.ps [])
    (hkw : ∀ q ∈ P.kws, ∀ d, P.defs[q.1]? = some d → ∀ (f : Addr) (fd : FuncData), FnF K d.x d.st f fd → KwOk fd d.ps q.2)
    (sorts : ∀ Y : Cx, Y.calm = true → Y.A.units + 64 < cLine → SortOk Y (XAof P K)) (sets : ∀ Y : Cx, Y.calm = true → Y.A.units + 64 < cLine → SetOk Y (XAof P K)) : PgOk P K mg (XAof P K) := by
  obtain ⟨b1, b2⟩ := Bool.and_eq_true_iff.mp hb
  have exO : ∀ p ∈ P.exc, XAof P K p.2 = some (He.ga K p.1) ∧ P.XT.fields[p.2]? = some [] := fun p hp => by
    have q := List.all_eq_true.mp b2 p hp
    simp only [Bool.and_eq_true, decide_eq_true_eq] at q
    refine ⟨?_, q.2⟩
    unfold XAof
    rw [q.1]
    rfl
  refine ⟨fun x hx => ?_, fun p hp => ?_, fun p hp => ?_, fun i d hi => ?_, hkw, fun p hp => ?_, fun cx Cc hc p hp Cc' hc' => ?_, sorts, sets⟩
  · refine He.free_ok X G (fact_of c (f := .free x) ?_)
    have : x ∈ P.blt := List.contains_iff_mem.mp hx
    exact List.mem_append_right _ (List.mem_append_left _ (List.mem_map_of_mem this))
  · have q := List.all_eq_true.mp b1 p hp
    have hm : ∀ f ∈ cstFa p, f.ok K = true := fun f hf => fact_of c (List.mem_append_right _ (List.mem_append_right _ (List.mem_append_left _ (List.mem_flatMap.mpr ⟨p, hp, hf⟩))))
    obtain ⟨x, d⟩ := p
    cases d <;> first | cases q | skip
    · rename_i j
      obtain ⟨t, e⟩ := He.int_ok X G (hm (.int x j) (by simp [cstFa]))
      exact ⟨_, .int j, e, ⟨t, rfl⟩, fun _ _ _ => .int j⟩
    · rename_i j
      obtain ⟨t, e⟩ := He.str_ok X G (hm (.str x j) (by simp [cstFa]))
      exact ⟨_, .str j, e, ⟨t, rfl⟩, fun _ _ _ => .str j⟩
  · have q := List.all_eq_true.mp cx p hp
    cases e : PySem.W.nsIn K mainGlobals p.1 with
    | none => rw [e] at q; cases q
    | some r =>
      rw [e] at q
      cases r with
      | none => cases q
      | some u =>
        cases u <;> first | cases q | skip
        rename_i a
        obtain ⟨vs, h1, h2⟩ := tupB_ok q
        exact ⟨a, vs, PySem.W.mg_of X G e, h1, h2⟩
  · have e : (fnsOf P)[i]? = some (dOf d) := by
      unfold fnsOf
      rw [List.getElem?_map, hi]
      rfl
    obtain ⟨fd, F⟩ := c.def_ i e
    have hg := He.glo_ok X G (fact_of c (f := .glo d.x) (List.mem_append_left _ (List.mem_map_of_mem (f := fun d : DefE => He.Fa.glo d.x) (List.mem_of_getElem? hi))))
    exact ⟨_, fd, hg, F, hbd i d hi _ fd F⟩
  · obtain ⟨a1, a2, a3, a4⟩ := He.exc_ok (fact_of c (f := .exc p.1) (List.mem_append_right _ (List.mem_append_right _ (List.mem_append_right _ (List.mem_append_left _ (List.mem_map_of_mem (f := fun p : Str × Nat => He.Fa.exc p.1) hp))))))
    have hg := He.glo_ok X G (fact_of c (f := .glo p.1) (List.mem_append_right _ (List.mem_append_right _ (List.mem_append_right _ (List.mem_append_right _ (List.mem_append_left _ (List.mem_map_of_mem (f := fun p : Str × Nat => He.Fa.glo p.1) hp)))))))
    exact ⟨He.ga K p.1, He.veBase, _, _, _, PySem.F.excBase_ValueError, a1, hg, a2, a3, a4, (exO p hp).1, (exO p hp).2⟩
  · unfold XAof at hc
    cases e : exAt P cx with
    | none => rw [e] at hc; cases hc
    | some x =>
      rw [e] at hc
      have hc : He.ga K x = Cc := Option.some.inj hc
      subst hc
      rw [(exO p hp).1] at hc'
      cases hc'
      unfold exAt at e
      cases e2 : P.exc.find? (fun p => p.2 == cx) with
      | none => rw [e2] at e; cases e
      | some q =>
        rw [e2] at e
        have e : q.1 = x := Option.some.inj e
        have hq := List.mem_of_find?_eq_some e2
        have hq2 : q.2 = cx := eq_of_beq (List.find?_some (p := fun p : Str × Nat => p.2 == cx) e2)
        subst e hq2
        refine He.exm_ok (fact_of c (f := .exm q.1 p.1 (P.XT.below q.2 p.2)) ?_)
        refine List.mem_append_right _ (List.mem_append_right _ (List.mem_append_right _ (List.mem_append_right _ (List.mem_append_right _ ?_))))
        exact List.mem_flatMap.mpr ⟨q, hq, List.mem_map_of_mem (f := fun q' : Str × Nat => He.Fa.exm q.1 q'.1 (P.XT.below q.2 q'.2)) hp⟩
end
/-- at the script -/
def rho0 : Rho := ⟨fun _ => none, fun _ => False⟩
theorem wd0 {K : PySem.W.Frag} {H : Hp} : Wd K rho0 (fun _ => False) H [] := ⟨fun _ _ => rfl, fun _ _ _ e => (by cases e), fun n o e => (by simp at e), fun a ⟨n, e⟩ => (by cases e), fun _ z => z.elim, fun _ z => z.elim, fun _ _ z => z.elim⟩
theorem ints_rd {K : PySem.W.Frag} {ρ : Rho} {F : Addr → Prop} {H : Hp} : ∀ ns : List Int, Rds K ρ F H (ns.map V.int) (ns.map D.int)
  | [] => .nil
  | n :: ns => .cons (.int n) (ints_rd ns)
/-- the promise of a law's def at the script -/
theorem law_sp {K : PySem.W.Frag} {XA : Nat → Option Addr} {f : List D → R D} {H : Hp} {a : Addr} {ns : List Int} {h' : Hs} (hS : SqL K H a (ns.map V.int)) (e : f [.ro (ns.map D.int)] [] = .ok (.bl true) h') : spN K XA 1 f [.ref a] H (fun v _ => v = .bl true) fun _ _ _ => False := by
  have r : Rd K rho0 (fun _ => False) H (.ref a) (.ro (ns.map D.int)) := .ro (by
    rcases hS with hS | hS
    · exact .inl ⟨hS, fun z => z⟩
    · exact .inr hS) (ints_rd ns)
  refine ⟨rfl, rho0, fun _ => False, [], _, wd0, .cons r .nil, ?_⟩
  rw [e]
  intro b ρ' H' _ _ r
  cases r
  rfl
end Ny

set_option maxHeartbeats 200000
/-! Ny: sets of texts, of ints and of nested tuples: made from a list or a tuple, then counted or sorted. -/
namespace Ny
open PySem L2 PySem.Spec PyProof.Rows

abbrev NK : Type := NestedKey

section
variable {P : Program} {w : World} {E : Value → Shared → Prop}
theorem all_mem {h : Heap} : ∀ {ks : List NK} {vs : List Value}, NestedAll h ks vs → ∀ v ∈ vs, ∃ k, NestedIs h k v ∧ k.depth ≤ NestedKey.depthAll ks
  | [], _, r, v, hv => by cases r; cases hv
  | k :: ks, _, r, v, hv => by
    cases r with
    | cons r1 r2 =>
      simp only [NestedKey.depthAll]
      rcases List.mem_cons.mp hv with e | hv
      · rw [e]; exact ⟨k, r1, by omega⟩
      · obtain ⟨k', h1, h2⟩ := all_mem r2 v hv
        exact ⟨k', h1, by omega⟩
/-- a key is of no class statement -/
theorem ofClass_key : ∀ (n : Nat) (k : NK) (v : Value) (s : Shared) (A : Around) (Q : Bool → Shared → Prop), NestedIs s.heap k v → k.depth ≤ n → Q false s → wpAny (model P w) A (ofAClassStatement n v) Q E s := by
  intro n
  induction n with
  | zero =>
    intro k v s A Q hk hn h
    cases hk with
    | tup _ _ _ _ => simp [NestedKey.depth] at hn
    | _ => exact wpAny_of_eq (a := false) rfl h
  | succ n ih =>
    intro k v s A Q hk hn h
    cases hk with
    | @tup a o vs m ks ho hc hd hi =>
      have hT : s.TypeIs (.ref a) "tuple" := ⟨o, ho, hc⟩
      unfold ofAClassStatement
      refine wpAny_bind (wpAny_typeOf hT ?_)
      dsimp only
      have e : (("tuple" : String) == "tuple") = true := by decide
      simp only [e, if_true, Bool.not_true, Bool.false_eq_true, if_false]
      try refine wpAny_bind (wpAny_pure ?_)
      try simp only [Bool.not_true, Bool.false_eq_true, if_false]
      show wpAny _ _ (seqItems? (.ref a) >>= _) _ _ s
      refine wpAny_bind (wpAny_seqItems ho hd ?_)
      dsimp only
      refine wpAny_bind ?_
      show wpAny _ _ (forIn vs _ _) _ _ s
      rw [← Array.forIn_toList]
      simp only [NestedKey.depth] at hn
      refine wpAny_forIn_list _ (fun rest r s' => r.1 = none ∧ s' = s ∧ ∀ v ∈ rest, ∃ k, NestedIs s.heap k v ∧ k.depth ≤ n) _ ?_ ?_ _ _ ⟨rfl, rfl, fun v hv => ?_⟩
      · rintro v rest r s' ⟨hr, rfl, hall⟩
        obtain ⟨k', h1, h2⟩ := hall v List.mem_cons_self
        refine wpAny_bind (ih k' v s' A _ h1 h2 ?_)
        simp only [Bool.false_eq_true, if_false]
        exact wpAny_pure ⟨rfl, rfl, fun u hu' => hall u (List.mem_cons_of_mem _ hu')⟩
      · rintro ⟨r1, r2⟩ s' ⟨hr, rfl, _⟩
        simp only at hr
        subst hr
        exact wpAny_pure h
      · obtain ⟨k', h1, h2⟩ := all_mem hi v hv
        exact ⟨k', h1, by omega⟩
    | _ => exact wpAny_of_eq (a := false) rfl h
/-- is its hash by value? some answer -/
theorem hashBy_key : ∀ (n : Nat) (k : NK) (v : Value) (s : Shared) (A : Around) (Q : Bool → Shared → Prop), NestedIs s.heap k v → (∀ b, Q b s) → wpAny (model P w) A (hashByValue n v) Q E s := by
  intro n
  induction n with
  | zero =>
    intro k v s A Q hk h
    cases hk with
    | none => exact wpAny_of_eq (a := true) rfl (h _)
    | bool _ => exact wpAny_of_eq (a := true) rfl (h _)
    | int _ _ => exact wpAny_of_eq (a := true) rfl (h _)
    | text _ _ => exact wpAny_of_eq (a := false) rfl (h _)
    | tup _ _ _ _ => exact wpAny_of_eq (a := false) rfl (h _)
  | succ n ih =>
    intro k v s A Q hk h
    cases hk with
    | none => exact wpAny_of_eq (a := true) rfl (h _)
    | bool _ => exact wpAny_of_eq (a := true) rfl (h _)
    | int _ _ => exact wpAny_of_eq (a := true) rfl (h _)
    | text _ _ => exact wpAny_of_eq (a := false) rfl (h _)
    | @tup a o vs m ks ho hc hd hi =>
      have hT : s.TypeIs (.ref a) "tuple" := ⟨o, ho, hc⟩
      unfold hashByValue
      refine wpAny_bind (wpAny_specialOf hT F.slot_tuple_hash.lookup ?_)
      show wpAny _ _ (seqItems? (.ref a) >>= _) _ _ s
      refine wpAny_bind (wpAny_seqItems ho hd ?_)
      refine wpAny_bind ?_
      show wpAny _ _ (forIn vs _ _) _ _ s
      rw [← Array.forIn_toList]
      refine wpAny_forIn_list _ (fun rest r s' => r.1 = none ∧ s' = s ∧ ∀ v ∈ rest, ∃ k, NestedIs s.heap k v) _ ?_ ?_ _ _ ⟨rfl, rfl, fun v hv => ?_⟩
      · rintro v rest r s' ⟨hr, rfl, hall⟩
        obtain ⟨k', h1⟩ := hall v List.mem_cons_self
        refine wpAny_bind (ih k' v s' A _ h1 fun b => ?_)
        cases b
        · simp only [Bool.not_false, if_true]
          exact wpAny_pure (wpAny_pure (h _))
        · simp only [Bool.not_true, Bool.false_eq_true, if_false]
          exact wpAny_pure ⟨rfl, rfl, fun u hu' => hall u (List.mem_cons_of_mem _ hu')⟩
      · rintro ⟨r1, r2⟩ s' ⟨hr, rfl, _⟩
        simp only at hr
        subst hr
        exact wpAny_pure (h _)
      · obtain ⟨k', h1, _⟩ := all_mem hi v hv
        exact ⟨k', h1⟩
/-- a search among tuples shows nothing -/
theorem seen_key {s : Shared} {A : Around} {k : NK} {b : Addr} {Q : Bool → Shared → Prop} (hk : NestedIs s.heap k (.ref b)) (hd : k.depth ≤ 8) {ys : List Value} (hy : ∀ y ∈ ys, ∃ k' c, y = Value.ref c ∧ NestedIs s.heap k' (.ref c) ∧ k'.depth ≤ 8) (h : Q false s) :
    wpAny (model P w) A (searchCouldBeSeen (.ref b) ys) Q E s := by
  unfold searchCouldBeSeen
  refine wpAny_bind ?_
  refine wpAny_forIn_list _ (fun rest r s' => r.1 = none ∧ s' = s ∧ ∀ y ∈ rest, ∃ k' c, y = Value.ref c ∧ NestedIs s.heap k' (.ref c) ∧ k'.depth ≤ 8) _ ?_ ?_ _ _ ⟨rfl, rfl, hy⟩
  · rintro v rest r s' ⟨hr, rfl, hall⟩
    obtain ⟨k', c, rfl, hc, hcd⟩ := hall v List.mem_cons_self
    have rest' : ∀ y ∈ rest, ∃ k' c, y = Value.ref c ∧ NestedIs s'.heap k' (.ref c) ∧ k'.depth ≤ 8 := fun u hu' => hall u (List.mem_cons_of_mem _ hu')
    dsimp only
    by_cases hv : (b == c || (carriedByValue (.ref b) && carriedByValue (.ref c))) = true
    · refine wp_if_pos hv ?_
      exact wpAny_pure ⟨rfl, rfl, rest'⟩
    · refine wp_if_neg hv ?_
      refine wpAny_bind (quiet_key k _ 8 s' hk hd A _ _ ?_)
      simp only [Bool.not_true, Bool.false_eq_true, if_false]
      refine wpAny_bind (quiet_key k' _ 8 s' hc hcd A _ _ ?_)
      simp only [Bool.not_true, Bool.false_eq_true, if_false]
      refine wpAny_bind (ofClass_key 8 k _ s' A _ hk hd ?_)
      simp only [Bool.false_eq_true, if_false]
      refine wpAny_bind (ofClass_key 8 k' _ s' A _ hc hcd ?_)
      simp only [Bool.false_eq_true, if_false]
      exact wpAny_pure ⟨rfl, rfl, rest'⟩
  · rintro ⟨r1, r2⟩ s' ⟨hr, rfl, _⟩
    simp only at hr
    subst hr
    exact wpAny_pure h
end

/-! ### what a set is -/
def kRows (w : World) (L : List (Value × NK)) : List (Int × Value) := L.map fun p => (p.2.hash w, p.1)
def kHs (w : World) (L : List (Value × NK)) : List Int := L.map fun p => p.2.hash w
/-- a kind of members: which, how many, what of the table -/
structure Kd where
  Ok : Heap → Value → NK → Prop
  N : Nat
  Ex : SetTable → List Int → Prop
structure SetK (w : World) (κ : Kd) (h : Heap) (a : Addr) (L : List (Value × NK)) (es : Array (Int × Value)) (ep : Nat) (t : SetTable) : Prop where
  ob : ∃ o, h.get? a = some o ∧ o.ExactSet ∧ o.data = .set es ep t
  rows : es.toList = kRows w L
  nd : (L.map (·.2)).Nodup
  ok : ∀ p ∈ L, κ.Ok h p.1 p.2
  led : w.params.followText "set-order" = true ∨ t.led = true
  ris : Ris t.place.toList
  fit : t.fits es.size = true
  few : L.length < κ.N
  ex : κ.Ex t (kHs w L)
/-- ints and texts -/
def kdA : Kd where
  Ok := fun _ v k => (∃ i t, v = .int i t ∧ k = .num i) ∨ ∃ x t, v = .str x t ∧ k = .text x
  N := 4000
  Ex := fun _ _ => True
/-- tuples -/
def kdB : Kd where
  Ok := fun h v k => ∃ a, v = .ref a ∧ NestedIs h k v ∧ k.depth ≤ 8
  N := 77
  Ex := fun t hs => TabOk t hs ∧ hs.length * 5 < t.mask * 3
/-- how a member is added -/
def AddOk (P : Program) (w : World) (κ : Kd) : Prop := ∀ {A : Around} {E : Value → Shared → Prop} {s : Shared} {a : Addr} {L : List (Value × NK)} {es : Array (Int × Value)} {ep : Nat} {t : SetTable} {x : Value} {k : NK} {Q : Bool → Shared → Prop},
  SetK w κ s.heap a L es ep t → κ.Ok s.heap x k → A.units + 8 < cLine → L.length + 1 < κ.N →
  (∀ b h' L' es' ep' t', Heap.SameBut a s.heap h' → SetK w κ h' a L' es' ep' t' → (k ∈ L.map (·.2) → L' = L) → (k ∉ L.map (·.2) → L'.Perm ((x, k) :: L)) → Q b { s with heap := h' }) →
  wpAny (model P w) A (setAddHashed a x (k.hash w)) Q E s

section
variable {P : Program} {w : World} {A : Around} {E : Value → Shared → Prop} {s : Shared} {κ : Kd} {a : Addr} {L : List (Value × NK)} {es : Array (Int × Value)} {ep : Nat} {t : SetTable}
theorem SetK.size (R : SetK w κ s.heap a L es ep t) : es.size = L.length := by
  have h := congrArg List.length R.rows
  unfold kRows at h
  rw [Array.length_toList, List.length_map] at h
  exact h
theorem SetK.entry (R : SetK w κ s.heap a L es ep t) {i : Nat} {p : Value × NK} (h : L[i]? = some p) : es[i]? = some (p.2.hash w, p.1) := by
  rw [← Array.getElem?_toList, R.rows]
  unfold kRows
  rw [List.getElem?_map, h] <;> rfl
theorem kRows_put (L : List (Value × NK)) (p : Nat) (x : Value) (k : NK) : kRows w (L.take p ++ (x, k) :: L.drop p) = (kRows w L).take p ++ (k.hash w, x) :: (kRows w L).drop p := by
  unfold kRows
  rw [List.map_append, List.map_cons, List.map_take, List.map_drop]
theorem kHs_len (L : List (Value × NK)) : (kHs w L).length = L.length := List.length_map _
theorem SetK.gw (R : SetK w kdB s.heap a L es ep t) : ¬ t.gaveWay = true := by
  unfold SetTable.gaveWay
  rw [mask_odd R.ex.1.mok]
  decide
/-- a key isn't the set -/
theorem key_same {h h' : Heap} {k : NK} {v : Value} {a : Addr} {o : Obj} {es : Array (Int × Value)} {ep : Nat} {t : SetTable} (hb : NestedIs h k v) (ho : h.get? a = some o) (hd : o.data = .set es ep t) (hs : Heap.SameBut a h h') : NestedIs h' k v :=
  NestedIs.at (fun b o' vs n h1 h2 => by
    refine (hs.2 b fun e => ?_).trans h1
    rw [e, ho] at h1
    have e1 : o = o' := Option.some.inj h1
    rw [← e1, hd] at h2
    exact nomatch h2) k v hb
theorem okB_same {h h' : Heap} {k : NK} {v : Value} {a : Addr} {o : Obj} {es : Array (Int × Value)} {ep : Nat} {t : SetTable} (hb : kdB.Ok h v k) (ho : h.get? a = some o) (hd : o.data = .set es ep t) (hs : Heap.SameBut a h h') : kdB.Ok h' v k :=
  let ⟨b, e, h1, h2⟩ := hb
  ⟨b, e, key_same h1 ho hd hs, h2⟩

/-- THE SEARCH: from the c-th step of the way on -/
theorem searchK (R : SetK w kdB s.heap a L es ep t) {x : Addr} {k : NK} (hx : NestedIs s.heap k (.ref x)) (hxd : k.depth ≤ 8) (hu : A.units + 8 < cLine) {K : Nat} (hKf : K < 10 * SetTable.turns t.mask)
    (hK : way t.mask (k.hash w) K ∉ t.place.toList) (hKb : ∀ c, c < K → way t.mask (k.hash w) c ∈ t.place.toList) {Q : SetFound → Shared → Prop}
    (hin : k ∈ L.map (·.2) → Q (.there none) s) (hout : k ∉ L.map (·.2) → Q (.free (way t.mask (k.hash w) K) false) s) :
    ∀ (f c : Nat) (stand : Option SetTable.Probe), stand.getD (t.probeStart (k.hash w)) = nth t.mask (runAt t.mask (SetTable.bits (k.hash w) % (t.mask + 1)) (SetTable.bits (k.hash w))) c → c ≤ K → K - c < f →
      (∀ (i : Nat) p, L[i]? = some p → p.2 = k → ∃ c', c ≤ c' ∧ c' < K ∧ t.place.toList[i]? = some (way t.mask (k.hash w) c')) →
      wpAny (model P w) A (setSearchFrom a (.ref x) (k.hash w) true f stand) Q E s
  | 0, c, stand, _, _, hf, _ => absurd hf (Nat.not_lt_zero _)
  | f + 1, c, stand, hst, hc, hf, hre => by
    obtain ⟨o, ho, hex, hd⟩ := R.ob
    have T := R.ex.1
    rw [setSearchFrom_succ]
    refine wpAny_bind (wpAny_setState_of ho hd R.fit ?_)
    dsimp only
    refine wp_if_neg R.gw ?_
    try refine wpAny_bind (wpAny_pure ?_)
    have hnd : (nth t.mask (runAt t.mask (SetTable.bits (k.hash w) % (t.mask + 1)) (SetTable.bits (k.hash w))) c).dummy = none := by
      have key : ∀ (n : Nat) (p : SetTable.Probe), p.dummy = none → (nth t.mask p n).dummy = none := by
        intro n
        induction n with
        | zero => intro p h; exact h
        | succ n ih =>
          intro p h
          refine ih (adv t.mask p) ?_
          unfold adv
          split <;> exact h
      exact key c _ rfl
    have sh : ∀ q, nth t.mask (nth t.mask (runAt t.mask (SetTable.bits (k.hash w) % (t.mask + 1)) (SetTable.bits (k.hash w))) c) q = nth t.mask (runAt t.mask (SetTable.bits (k.hash w) % (t.mask + 1)) (SetTable.bits (k.hash w))) (c + q) := fun q => (nth_add t.mask c _ q).symm
    have e1 : ∀ q, (nth t.mask (nth t.mask (runAt t.mask (SetTable.bits (k.hash w) % (t.mask + 1)) (SetTable.bits (k.hash w))) c) q).j = way t.mask (k.hash w) (c + q) := fun q => congrArg SetTable.Probe.j (sh q)
    have spec := go_spec t T.ris T.dm (fun i => (es[i]?.map (·.1)).getD 0) (k.hash w) (10 * SetTable.turns t.mask) (K - c) _ hnd (by omega)
      (fun q hq => by rw [e1]; exact hKb (c + q) (by omega)) (by rw [e1, show c + (K - c) = K by omega]; exact hK)
    have hashAt : ∀ (i : Nat) p, L[i]? = some p → (fun i => (es[i]?.map (·.1)).getD 0) i = p.2.hash w := fun i p hp => by
      show (es[i]?.map (·.1)).getD 0 = _
      rw [R.entry hp] <;> rfl
    rcases spec with ⟨q, i, hq, hi, hh, hno, hpr⟩ | ⟨hno, hpr⟩
    · have hpr' : t.probe (fun i => (es[i]?.map (·.1)).getD 0) (k.hash w) (stand.getD (t.probeStart (k.hash w))) = some (.candidate (way t.mask (k.hash w) (c + q)) i (nth t.mask (runAt t.mask (SetTable.bits (k.hash w) % (t.mask + 1)) (SetTable.bits (k.hash w))) (c + (q + 1)))) := by
        rw [hst, ← e1, ← sh]
        exact hpr
      rw [hpr']
      dsimp only
      rw [e1] at hi
      have hil : i < L.length := by
        have h1 : i < t.place.toList.length := (List.getElem?_eq_some_iff.mp hi).1
        have h2 := T.sz
        rw [kHs_len] at h2
        rw [Array.length_toList] at h1
        omega
      have hp : L[i]? = some L[i] := List.getElem?_eq_getElem hil
      generalize hpe : L[i] = p at hp
      have hmem : p ∈ L := List.mem_of_getElem? hp
      obtain ⟨pa, pe, hpt, hpd⟩ := R.ok p hmem
      have rest : wpAny (model P w) A (searchRest a (.ref x) (k.hash w) true f es t (way t.mask (k.hash w) (c + q)) i (nth t.mask (runAt t.mask (SetTable.bits (k.hash w) % (t.mask + 1)) (SetTable.bits (k.hash w))) (c + (q + 1)))) Q E s := by
        unfold searchRest
        rw [R.entry hp]
        dsimp only
        refine wpAny_bind (wpAny_holding (eqAt_key p.2 k A s _ _ hpt hx (by omega) _ _ _ _ ?_))
        rw [← NestedKey.decide_eq]
        refine wpAny_bind (wpAny_setState_of ho hd R.fit ?_)
        dsimp only
        by_cases hkk : p.2 = k
        · refine wp_if_pos (by simp [hkk]) ?_
          refine wpAny_pure (hin ?_)
          exact List.mem_map.mpr ⟨p, hmem, hkk⟩
        · refine wp_if_neg (by simp [hkk]) ?_
          try refine wpAny_bind (wpAny_pure ?_)
          rw [sameMem]
          dsimp only
          have hsl : t.slot (way t.mask (k.hash w) (c + q)) = .live i := slot_live T.ris hi
          simp only [if_true, hsl, R.entry hp]
          rw [pe]
          refine wpAny_bind (wpAny_isSame_ref_self (wpAny_bind (wpAny_pure ?_)))
          simp only [if_true]
          refine wp_if_neg (by simp [hkk]) ?_
          refine searchK R hx hxd hu hKf hK hKb hin hout f (c + (q + 1)) _ rfl (by omega) (by omega) fun i0 p0 h0 hk0 => ?_
          obtain ⟨c', a1, a2, a3⟩ := hre i0 p0 h0 hk0
          refine ⟨c', ?_, a2, a3⟩
          rcases Nat.lt_or_ge c' (c + q) with z | z
          · exfalso
            refine hno (c' - c) i0 (by omega) (by rw [e1, show c + (c' - c) = c' by omega]; exact a3) ?_
            exact (hashAt i0 p0 h0).trans (congrArg (NestedKey.hash w) hk0)
          · rcases Nat.lt_or_ge (c + q) c' with y | y
            · omega
            · exfalso
              have ec : c' = c + q := Nat.le_antisymm y z
              rw [ec] at a3
              have s0 := slot_live T.ris a3
              rw [hsl] at s0
              injection s0 with s0
              rw [← s0, hp] at h0
              exact hkk ((congrArg Prod.snd (Option.some.inj h0)).trans hk0)
      by_cases hl : t.led = true
      · refine wp_if_neg (by simp [hl]) ?_
        try refine wpAny_bind (wpAny_pure ?_)
        exact rest
      · refine wp_if_pos (by simp [hl]) ?_
        refine wpAny_bind (seen_key hx hxd (fun y hy => ?_) ?_)
        · obtain ⟨e, he, ee⟩ := List.mem_map.mp hy
          have he1 : e ∈ es ∧ e.1 = k.hash w := by simpa using he
          have he2 : e ∈ es.toList := by simpa using he1.1
          rw [R.rows] at he2
          obtain ⟨p2, hp2, e2⟩ := List.mem_map.mp he2
          obtain ⟨pa2, pe2, h1, h2⟩ := R.ok p2 hp2
          refine ⟨p2.2, pa2, ?_, by rw [← pe2]; exact h1, h2⟩
          rw [← ee, ← e2, ← pe2]
        · refine wp_if_neg (by decide) ?_
          try refine wpAny_bind (wpAny_pure ?_)
          exact rest
    · have hpr' : t.probe (fun i => (es[i]?.map (·.1)).getD 0) (k.hash w) (stand.getD (t.probeStart (k.hash w))) = some (.empty (way t.mask (k.hash w) K) none) := by
        have e2 : way t.mask (k.hash w) K = (nth t.mask (nth t.mask (runAt t.mask (SetTable.bits (k.hash w) % (t.mask + 1)) (SetTable.bits (k.hash w))) c) (K - c)).j := by
          rw [e1, show c + (K - c) = K by omega]
        rw [hst, e2]
        exact hpr
      rw [hpr']
      dsimp only
      refine wpAny_pure (hout fun hm => ?_)
      obtain ⟨p0, h0, hk0⟩ := List.mem_map.mp hm
      obtain ⟨i0, hi0, e0⟩ := List.getElem_of_mem h0
      have h00 : L[i0]? = some p0 := by rw [List.getElem?_eq_getElem hi0, e0]
      obtain ⟨c', a1, a2, a3⟩ := hre i0 p0 h00 hk0
      refine hno (c' - c) i0 (by omega) (by rw [e1, show c + (c' - c) = c' by omega]; exact a3) ?_
      exact (hashAt i0 p0 h00).trans (congrArg (NestedKey.hash w) hk0)
/-- the search as adding asks for it -/
theorem searchK_at (R : SetK w kdB s.heap a L es ep t) {x : Addr} {k : NK} (hx : NestedIs s.heap k (.ref x)) (hxd : k.depth ≤ 8) (hu : A.units + 8 < cLine) {Q : SetFound → Shared → Prop}
    (hin : k ∈ L.map (·.2) → Q (.there none) s)
    (hout : ∀ K, k ∉ L.map (·.2) → way t.mask (k.hash w) K ∉ t.place.toList → (∀ c, c < K → way t.mask (k.hash w) c ∈ t.place.toList) → Q (.free (way t.mask (k.hash w) K) false) s) :
    wpAny (model P w) A (setSearch a (.ref x) (k.hash w) true) Q E s := by
  have T := R.ex.1
  have hroom := R.ex.2
  rw [kHs_len] at hroom
  obtain ⟨K, hKf, hK, hKb⟩ := T.first (by rw [kHs_len]; omega) (k.hash w)
  have hbig : K < 100000 := by
    have : 10 * SetTable.turns t.mask ≤ 1420 := by
      unfold SetTable.turns
      rcases T.mok with e | e | e <;> omega
    omega
  unfold setSearch
  refine searchK R hx hxd hu hKf hK hKb hin (fun hn => hout K hn hK hKb) 100000 0 none rfl (Nat.zero_le _) (by omega) fun i p hp hk => ?_
  have hi : (kHs w L)[i]? = some (k.hash w) := by unfold kHs; rw [List.getElem?_map, hp, ← hk] <;> rfl
  have hil : i < t.place.toList.length := by
    have h1 : i < L.length := (List.getElem?_eq_some_iff.mp hp).1
    have h2 := T.sz
    rw [kHs_len] at h2
    rw [Array.length_toList]
    omega
  have hj := List.getElem?_eq_getElem hil
  obtain ⟨c, hc, e⟩ := T.before hK hi hj
  exact ⟨c, Nat.zero_le _, hc, by rw [hj, e]⟩

theorem order_kRows (L : List (Value × NK)) (es : Array (Int × Value)) (order : Array Nat) (hr : es.toList = kRows w L) (hp : order.toList.Perm (List.range L.length)) :
    ∃ L2, (order.filterMap (es[·]?)).toList = kRows w L2 ∧ L2.Perm L ∧ kHs w L2 = order.toList.map fun i => (es.map (·.1)).getD i 0 := by
  have hsz : es.size = L.length := by
    have h := congrArg List.length hr
    unfold kRows at h
    rw [Array.length_toList, List.length_map] at h
    exact h
  have ent : ∀ i (h : i < L.length), es[i]? = some ((L[i]).2.hash w, (L[i]).1) := fun i h => by
    rw [← Array.getElem?_toList, hr]
    unfold kRows
    rw [List.getElem?_map, List.getElem?_eq_getElem h] <;> rfl
  have key : ∀ l : List Nat, (∀ i ∈ l, i < L.length) → ∃ L2 : List (Value × NK), l.filterMap (fun i => es[i]?) = kRows w L2 ∧ L2 = l.filterMap (fun i => L[i]?) ∧ kHs w L2 = l.map fun i => (es.map (·.1)).getD i 0 := by
    intro l
    induction l with
    | nil => intro _; exact ⟨[], rfl, rfl, rfl⟩
    | cons i l ih =>
      intro hl
      have hi := hl i List.mem_cons_self
      obtain ⟨L2, e1, e2, e3⟩ := ih fun j hj => hl j (List.mem_cons_of_mem _ hj)
      refine ⟨L[i] :: L2, ?_, ?_, ?_⟩
      · rw [List.filterMap_cons_some (ent i hi), e1] <;> rfl
      · rw [List.filterMap_cons_some (List.getElem?_eq_getElem hi), e2]
      · have e4 : (es.map (·.1)).getD i 0 = (L[i]).2.hash w := by
          have e5 : (es.map (·.1))[i]? = some ((L[i]).2.hash w) := by rw [Array.getElem?_map, ent i hi] <;> rfl
          simp [Array.getD_eq_getD_getElem?, e5]
        rw [List.map_cons, ← e3, e4] <;> rfl
  obtain ⟨L2, e1, e2, e3⟩ := key order.toList fun i hi => List.mem_range.mp (hp.mem_iff.mp hi)
  refine ⟨L2, by first | (rw [Array.toList_filterMap]; exact e1) | simpa using e1, ?_, e3⟩
  have h1 : L2.Perm ((List.range L.length).filterMap fun i => L[i]?) := by
    rw [e2]
    exact hp.filterMap _
  have h2 : (List.range L.length).filterMap (fun i => L[i]?) = L := by
    have key2 : ∀ n, n ≤ L.length → (List.range n).filterMap (fun i => L[i]?) = L.take n := by
      intro n
      induction n with
      | zero => intro _; rfl
      | succ n ih =>
        intro hn
        have hlt : n < L.length := hn
        rw [List.range_succ, List.filterMap_append, ih (Nat.le_of_lt hlt), List.take_succ, List.getElem?_eq_getElem hlt]
        rw [List.filterMap_cons_some (List.getElem?_eq_getElem hlt)] <;> rfl
    rw [key2 L.length (Nat.le_refl _), List.take_length]
  rw [h2] at h1
  exact h1
end
end Ny

set_option maxHeartbeats 3200000
/-! Ny: sets, the rest: adding, making, sorting, counting. -/
namespace Ny
open PySem L2 PySem.Spec PyProof.Rows

theorem perm_unmap {α β : Type} {f : α → β} {l₁ l₂ : List β} (p : l₁.Perm l₂) : ∀ m : List α, l₂ = m.map f → ∃ m' : List α, m'.Perm m ∧ l₁ = m'.map f := by
  induction p with
  | nil => intro m e; exact ⟨[], by cases m <;> first | rfl | (simp at e) , rfl⟩
  | cons x _ ih =>
    intro m e
    cases m with
    | nil => simp at e
    | cons y m =>
      simp only [List.map_cons, List.cons.injEq] at e
      obtain ⟨m', p', e'⟩ := ih m e.2
      exact ⟨y :: m', p'.cons y, by rw [List.map_cons, e', e.1]⟩
  | swap x y l =>
    intro m e
    match m, e with
    | a :: b :: m, e =>
      simp only [List.map_cons, List.cons.injEq] at e
      exact ⟨b :: a :: m, List.Perm.swap a b m, by rw [List.map_cons, List.map_cons, e.1, e.2.1, e.2.2]⟩
  | trans _ _ ih1 ih2 =>
    intro m e
    obtain ⟨m2, p2, e2⟩ := ih2 m e
    obtain ⟨m1, p1, e1⟩ := ih1 m2 e2
    exact ⟨m1, p1.trans p2, e1⟩

/-! ### ints and texts -/
def nkK : Key → NK
  | .inl i => .num i
  | .inr x => .text x
theorem nkK_inj {a b : Key} (h : nkK a = nkK b) : a = b := by
  cases a <;> cases b <;> simp [nkK] at h <;> rw [h]
theorem nkK_hash (w : World) (k : Key) : (nkK k).hash w = keyH w k := by cases k <;> rfl
theorem okA_key {h : Heap} {v : Value} {k : NK} (o : kdA.Ok h v k) : ∃ q, k = nkK q ∧ keyIs q v = true ∧ v.scannable = true := by
  rcases o with ⟨i, t, rfl, rfl⟩ | ⟨x, t, rfl, rfl⟩
  · exact ⟨.inl i, rfl, by simp [keyIs, Value.isInt], rfl⟩
  · exact ⟨.inr x, rfl, by simp [keyIs, Value.isStrOf], rfl⟩
section
variable {P : Program} {w : World} {A : Around} {E : Value → Shared → Prop} {s : Shared} {a : Addr} {L : List (Value × NK)} {es : Array (Int × Value)} {ep : Nat} {t : SetTable}
theorem rows_elems (hr : es.toList = kRows w L) (ok : ∀ p ∈ L, kdA.Ok s.heap p.1 p.2) : ElemsOf (mixKind P w) es.toList := fun e he => by
  rw [hr] at he
  obtain ⟨p, hp, rfl⟩ := List.mem_map.mp he
  obtain ⟨q, e1, e2, e3⟩ := okA_key (ok p hp)
  exact ⟨⟨q, e2, by show p.2.hash w = _; rw [e1, nkK_hash]; rfl⟩, e3⟩
theorem rows_mem (hr : es.toList = kRows w L) (ok : ∀ p ∈ L, kdA.Ok s.heap p.1 p.2) (q : Key) : nkK q ∈ L.map (·.2) ↔ ∃ e ∈ es.toList, (mixKind P w).is q e.2 = true := by
  rw [hr]
  constructor
  · intro h
    obtain ⟨p, hp, e⟩ := List.mem_map.mp h
    obtain ⟨q', e1, e2, _⟩ := okA_key (ok p hp)
    have : q = q' := nkK_inj (by rw [← e, e1])
    exact ⟨_, List.mem_map.mpr ⟨p, hp, rfl⟩, by rw [this]; exact e2⟩
  · rintro ⟨e, he, h⟩
    obtain ⟨p, hp, rfl⟩ := List.mem_map.mp he
    obtain ⟨q', e1, e2, _⟩ := okA_key (ok p hp)
    have : q = q' := (mixKind P w).inj p.1 q q' h e2
    exact List.mem_map.mpr ⟨p, hp, by rw [e1, this]⟩
theorem okA_same {h h' : Heap} {v : Value} {k : NK} (o : kdA.Ok h v k) : kdA.Ok h' v k := o
/-- the end of adding: the table is written, or laid anew -/
theorem addA_tail {g : Bool → Sem Unit} (hg : ∀ (b : Bool) (s₁ : Shared) (Q' : Unit → Shared → Prop), Q' () s₁ → wpAny (model P w) A (g b) Q' E s₁)
    {o : Obj} (ho : s.heap.get? a = some o) (hex : o.ExactSet) (hd : o.data = .set es ep t)
    {es1 : Array (Int × Value)} {t2 : SetTable} {L1 : List (Value × NK)} (r1 : es1.toList = kRows w L1) (nd1 : (L1.map (·.2)).Nodup) (ok1 : ∀ p ∈ L1, kdA.Ok s.heap p.1 p.2)
    (hb1 : L1.length < 4000) (hf2 : t2.fits es1.size = true) (hr : Ris t2.place.toList) (hl : w.params.followText "set-order" = true ∨ t2.led = true) {wasDummy : Bool} {R : Option Bool → Shared → Prop}
    (hR : ∀ h' L' es' ep' t', Heap.SameBut a s.heap h' → SetK w kdA h' a L' es' ep' t' → L'.Perm L1 → R (some true) { s with heap := h' }) :
    wpAny (model P w) A (do
        storeSet a es1 t2
        if (!wasDummy && t2.tooFull) = true then do
            g (relayAll t2 es1 (SetTable.grown es1.size)).2.2
            storeSet a (relayAll t2 es1 (SetTable.grown es1.size)).1 (relayAll t2 es1 (SetTable.grown es1.size)).2.1
            pure (some true)
          else pure (some true)) R E s := by
  have sz1 : es1.size = L1.length := by
    have h := congrArg List.length r1
    unfold kRows at h
    rw [Array.length_toList, List.length_map] at h
    exact h
  have hbs : es1.size < scanBound := by unfold scanBound; omega
  refine wpAny_bind (wpAny_storeSet_of ho hd ?_ (fits_of_scanBound hbs))
  have ho1 := store_at (es' := es1) (t' := t2) ho hd
  have sb1 := Heap.SameBut.update s.heap a (Obj.putSet es1 t2)
  split
  · have pm := relayAll_perm t2 es1 (SetTable.grown es1.size)
    have hf3 := relayAll_fits t2 es1 (SetTable.grown es1.size)
    have hr3 := relayAll_ris t2 es1 (SetTable.grown es1.size)
    have hl3 := relayAll_led t2 es1 (SetTable.grown es1.size)
    generalize relayAll t2 es1 (SetTable.grown es1.size) = Z at pm hf3 hr3 hl3 ⊢
    obtain ⟨es2, t3, gave⟩ := Z
    dsimp only at pm hf3 hr3 hl3 ⊢
    obtain ⟨L2, p2, r2⟩ := perm_unmap pm L1 r1
    have hsz : es2.size = es1.size := by rw [← Array.length_toList, pm.length_eq, Array.length_toList]
    refine wpAny_bind (hg _ _ _ ?_)
    refine wpAny_bind (wpAny_storeSet_of ho1 rfl ?_ (fits_of_scanBound (by rw [hsz]; exact hbs)))
    have ho2 := store_at (es' := es2) (t' := t3) ho1 rfl
    refine wpAny_pure (hR _ L2 es2 _ t3 (sb1.trans (Heap.SameBut.update _ a _)) ⟨⟨_, ho2, hex, rfl⟩, r2, (p2.map (·.2)).nodup_iff.mpr nd1, fun p hp => ok1 p (p2.mem_iff.mp hp), hl.imp id fun z => by rw [hl3]; exact z, hr3, hf3, by rw [p2.length_eq]; exact hb1, trivial⟩ p2)
  · exact wpAny_pure (hR _ L1 es1 _ t2 sb1 ⟨⟨_, ho1, hex, rfl⟩, r1, nd1, ok1, hl, hr, hf2, hb1, trivial⟩ (List.Perm.refl _))
/-- adding an int, a text -/
theorem addA : AddOk P w kdA := by
  intro A E s a L es ep t x k Q R okx hu hfew hQ
  obtain ⟨o, ho, hex, hd⟩ := R.ob
  obtain ⟨q, rfl, hkey, hsc⟩ := okA_key okx
  have hkey : (mixKind P w).is q x = true := hkey
  have hel : ElemsOf (mixKind P w) es.toList := rows_elems R.rows R.ok
  have hsl := R.size
  have hb : es.size < scanBound := by have := R.few; have e : kdA.N = 4000 := rfl; unfold scanBound; omega
  rw [nkK_hash, show keyH w q = (mixKind P w).hash q from rfl]
  unfold setAddHashed setAddHashedIn
  refine wpAny_holding (wpAny_bind (wpAny_setState_of ho hd R.fit ?_))
  dsimp only
  rw [byScan_of hsc hb hel]
  simp only [↓reduceIte]
  unfold setAddByScan
  refine wpAny_bind ?_
  refine wpAny_bind (wpAny_rule ?_)
  refine wpAny_bind (wpAny_setScan_of hkey ho hd R.fit hel ?_)
  cases hfi : List.findIdx? (fun e => (mixKind P w).is q e.2) es.toList with
  | some j =>
    dsimp only
    obtain ⟨hj, pj, _⟩ := List.findIdx?_eq_some_iff_getElem.mp hfi
    have hin : nkK q ∈ L.map (·.2) := (rows_mem (P := P) R.rows R.ok q).mpr ⟨es.toList[j], List.getElem_mem hj, pj⟩
    refine wpAny_pure (wpAny_pure ?_)
    exact hQ false s.heap L es ep t (Heap.SameBut.refl a s.heap) R (fun _ => rfl) fun z => absurd hin z
  | none =>
    dsimp only
    have hnk : nkK q ∉ L.map (·.2) := fun z => by
      obtain ⟨e, he, h⟩ := (rows_mem (P := P) R.rows R.ok q).mp z
      have c := List.findIdx?_eq_none_iff.mp hfi e he
      rw [h] at c
      cases c
    have hgw : ∀ (b : Bool) {s₁ : Shared} {Q' : Unit → Shared → Prop}, Q' () s₁ → wpAny (model P w) A (match b with | true => rule "set.scan.the-table-gave-way" | false => pure ()) Q' E s₁ :=
      fun b s₁ Q' h => by cases b <;> first | exact wpAny_pure h | exact wpAny_rule h
    have pm := layNew_perm t es ((mixKind P w).hash q) x
    have hf1 := layNew_fits t es ((mixKind P w).hash q) x
    have hr1 := layNew_ris t es ((mixKind P w).hash q) x R.ris
    have hl1 := layNew_led t es ((mixKind P w).hash q) x
    generalize layNew t es ((mixKind P w).hash q) x = Z at pm hf1 hr1 hl1 ⊢
    obtain ⟨es1, t1, wasDummy, gave⟩ := Z
    dsimp only at pm hf1 hr1 hl1 ⊢
    rw [Array.toList_push] at pm
    have pc : es1.toList.Perm (((mixKind P w).hash q, x) :: es.toList) := pm.trans (List.perm_append_singleton _ _)
    have er : ((mixKind P w).hash q, x) :: es.toList = ((x, nkK q) :: L).map fun p => (p.2.hash w, p.1) := by
      rw [List.map_cons, R.rows, nkK_hash]
      rfl
    obtain ⟨L1, p1, r1⟩ := perm_unmap pc ((x, nkK q) :: L) er
    have ok1 : ∀ p ∈ L1, kdA.Ok s.heap p.1 p.2 := fun p hp => by
      rcases List.mem_cons.mp (p1.mem_iff.mp hp) with z | z
      · rw [z]; exact okx
      · exact R.ok p z
    have nd1 : (L1.map (·.2)).Nodup := (p1.map (·.2)).nodup_iff.mpr (List.nodup_cons.mpr ⟨hnk, R.nd⟩)
    have hb1 : L1.length < 4000 := by rw [p1.length_eq, List.length_cons]; exact hfew
    have hled : w.params.followText "set-order" = true ∨ t1.led = true := R.led.imp id fun z => by rw [hl1]; exact z
    have fin : ∀ h' L' es' ep' t', Heap.SameBut a s.heap h' → SetK w kdA h' a L' es' ep' t' → L'.Perm L1 → Q true { s with heap := h' } := fun h' L' es' ep' t' sb r p =>
      hQ true h' L' es' ep' t' sb r (fun z => absurd z hnk) fun _ => p.trans p1
    refine wpAny_bind (hgw _ ?_)
    split
    · refine wpAny_bind ?_
      rw [hashByValue_scannable 8 hsc]
      refine wpAny_pure ?_
      refine addA_tail ?_ ho hex hd r1 nd1 ok1 hb1 ?_ ?_ ?_ ?_
      · intro b s₁ Q' h; cases b <;> first | exact wpAny_pure h | exact wpAny_rule h
      · first | (split <;> first | exact hf1 | exact SetTable.fits_plain_off hf1) | exact hf1
      · first | (split <;> exact hr1) | exact hr1
      · first | (split <;> exact hled) | exact hled
      · intro h' L' es' ep' t' sb r p; dsimp only; exact wpAny_pure (fin h' L' es' ep' t' sb r p)
    · refine wpAny_bind (wpAny_pure ?_)
      simp only [↓reduceIte]
      refine addA_tail ?_ ho hex hd r1 nd1 ok1 hb1 hf1 hr1 hled ?_
      · intro b s₁ Q' h; cases b <;> first | exact wpAny_pure h | exact wpAny_rule h
      · intro h' L' es' ep' t' sb r p; dsimp only; exact wpAny_pure (fin h' L' es' ep' t' sb r p)
/-- a new layout -/
theorem relayB {o : Obj} (ho : s.heap.get? a = some o) (hex : o.ExactSet) (hd : o.data = .set es ep t) (hrows : es.toList = kRows w L) (hsz : t.place.size = es.size) (hdm : t.dummies = #[]) (hfl : es.size ≤ t.mask)
    (nd : (L.map (·.2)).Nodup) (ok : ∀ p ∈ L, kdB.Ok s.heap p.1 p.2) (ld : w.params.followText "set-order" = true ∨ t.led = true) (few : L.length < 77) {wanted M : Nat}
    (hw : SetTable.sizeAbove wanted - 1 = M) (hM : MaskOk M) (hw2 : SetTable.sizeAbove wanted ≤ 128) (hn : L.length * 5 < M * 3) {Q : Unit → Shared → Prop}
    (hQ : ∀ h' L' es' ep' t', Heap.SameBut a s.heap h' → SetK w kdB h' a L' es' ep' t' → L'.Perm L → Q () { s with heap := h' }) : wpAny (model P w) A (setRelay a wanted) Q E s := by
  have hsl : es.size = L.length := by
    have h := congrArg List.length hrows
    unfold kRows at h
    rw [Array.length_toList, List.length_map] at h
    exact h
  have hfits : t.fits es.size = true := by
    unfold SetTable.fits SetTable.fill
    rw [hdm, Bool.and_eq_true, beq_iff_eq, decide_eq_true_eq]
    show t.place.size = es.size ∧ t.place.size + 0 ≤ t.mask
    omega
  have hM2 : M = 7 ∨ M = 31 ∨ M = 127 := hM
  obtain ⟨t', order, e, hp, T, em, el, ep', ed⟩ := relaid_ok t (hs := es.map (·.1)) (wanted := wanted) hw hM (by rw [Array.size_map, hsl]; omega)
  rw [Array.size_map, hsl] at hp
  obtain ⟨L2, r1, r2, r3⟩ := order_kRows L es order hrows hp
  rw [← r3] at T
  have hs2 : (order.filterMap (es[·]?)).size = es.size := by
    have h := congrArg List.length r1
    unfold kRows at h
    rw [Array.length_toList, List.length_map, r2.length_eq] at h
    rw [h, hsl]
  rw [setRelay_eq]
  refine wpAny_bind (wpAny_setState_of ho hd hfits ?_)
  dsimp only
  refine wp_if_neg (by rw [sizeLine_eq]; omega) ?_
  try refine wpAny_bind (wpAny_pure ?_)
  rw [e]
  dsimp only
  refine wpAny_bind ?_
  refine wp_if_neg (by rw [hs2]; simp) ?_
  try refine wpAny_bind (wpAny_pure ?_)
  refine wpAny_pure ?_
  dsimp only
  refine wpAny_storeSet_of ho hd ?_ (by rw [hs2, hsl, sizeLine_eq]; omega)
  have sb : Heap.SameBut a s.heap (s.heap.update a (Obj.putSet (order.filterMap (es[·]?)) t')) := Heap.SameBut.update ..
  refine hQ _ L2 (order.filterMap (es[·]?)) (ep + 1) t' sb ?_ r2
  have hfit2 : t'.fits (order.filterMap (es[·]?)).size = true := by
    unfold SetTable.fits SetTable.fill
    rw [T.dm, Bool.and_eq_true, beq_iff_eq, decide_eq_true_eq]
    have h := T.sz
    rw [kHs_len, r2.length_eq] at h
    rw [hs2, hsl, em]
    show t'.place.size = L.length ∧ t'.place.size + 0 ≤ M
    omega
  refine ⟨⟨_, store_at ho hd, ⟨hex.1, hex.2.1, hex.2.2⟩, rfl⟩, r1, (r2.map (·.2)).nodup_iff.mpr nd, fun p hpm => okB_same (ok p (r2.mem_iff.mp hpm)) ho hd sb, by rw [el]; exact ld, T.ris, hfit2, by rw [r2.length_eq]; exact few, T, ?_⟩
  rw [kHs_len, r2.length_eq, em]
  exact hn
/-- adding a tuple -/
theorem addB : AddOk P w kdB := by
  intro A E s a L es ep t x k Q R okx hu hfew hQ
  obtain ⟨o, ho, hex, hd⟩ := R.ob
  obtain ⟨xa, rfl, hx, hxd⟩ := okx
  have hfew : L.length + 1 < 77 := hfew
  have hsl := R.size
  have T := R.ex.1
  have hroom := R.ex.2
  rw [kHs_len] at hroom
  unfold setAddHashed
  refine wpAny_holding ?_
  rw [show (100000 : Nat) = 99999 + 1 from rfl, setAddHashedIn_succ]
  refine wpAny_bind (wpAny_setState_of ho hd R.fit ?_)
  dsimp only
  refine wp_if_neg (by simp [byScan, Value.scannable]) ?_
  try refine wpAny_bind (wpAny_pure ?_)
  refine wpAny_bind (searchK_at R hx hxd hu (fun hm => ?_) fun K hm hK hb => ?_)
  · dsimp only
    exact wpAny_pure (hQ false s.heap L es ep t (Heap.SameBut.refl a s.heap) R (fun _ => rfl) fun z => absurd hm z)
  · dsimp only
    refine wpAny_bind (wpAny_setState_of ho hd R.fit ?_)
    dsimp only
    obtain ⟨q1, q2, q3, q4, q5, q6, q7, q8, q9⟩ := T.put hK hb
    generalize hpt : t.put (way t.mask (k.hash w) K) = pt at q1 q3 q4 q5 q6 q7 q8 q9 ⊢
    obtain ⟨t1, p⟩ := pt
    dsimp only at q1 q3 q4 q5 q6 q7 q8 q9 ⊢
    subst q1
    have hin : (SetTable.insertAt es (SetTable.below t.place (way t.mask (k.hash w) K)) (k.hash w, Value.ref xa)).toList = kRows w (L.take (SetTable.below t.place (way t.mask (k.hash w) K)) ++ (Value.ref xa, k) :: L.drop (SetTable.below t.place (way t.mask (k.hash w) K))) := by
      rw [SetTable.toList_insertAt, kRows_put, R.rows]
    generalize hpp : SetTable.below t.place (way t.mask (k.hash w) K) = p at q2 q3 hin ⊢
    have pm := put_perm L p (Value.ref xa, k)
    have hlen : (L.take p ++ (Value.ref xa, k) :: L.drop p).length = L.length + 1 := pm.length_eq
    have hhs : kHs w (L.take p ++ (Value.ref xa, k) :: L.drop p) = (kHs w L).take p ++ k.hash w :: (kHs w L).drop p := by
      unfold kHs
      rw [List.map_append, List.map_cons, List.map_take, List.map_drop]
    rw [← hhs] at q3
    have nd1 : ((L.take p ++ (Value.ref xa, k) :: L.drop p).map (·.2)).Nodup := by
      refine (pm.map (·.2)).nodup_iff.mpr ?_
      rw [List.map_cons]
      exact List.nodup_cons.mpr ⟨hm, R.nd⟩
    have hes : (SetTable.insertAt es p (k.hash w, Value.ref xa)).size = L.length + 1 := by
      have h := congrArg List.length hin
      unfold kRows at h
      rw [Array.length_toList, List.length_map, hlen] at h
      exact h
    generalize SetTable.insertAt es p (k.hash w, Value.ref xa) = es1 at hin hes ⊢
    generalize L.take p ++ (Value.ref xa, k) :: L.drop p = L1 at pm hlen q3 nd1 hin
    have behind : ∀ bv : Bool, ∀ (t2 : SetTable), t2 = (if bv = true then t1 else { t1 with plain := false }) →
        wpAny (model P w) A (do
          storeSet a es1 t2
          if (!false && t2.tooFull) = true then setRelay a (SetTable.grown (es.size + 1))
          pure true) Q E s := fun bv t2 et => by
      have et2 : t2.place = t1.place ∧ t2.dummies = t1.dummies ∧ t2.mask = t1.mask ∧ t2.led = t1.led ∧ t2.tooFull = t1.tooFull ∧ TabOk t2 (kHs w L1) := by
        subst et
        cases bv
        · exact ⟨rfl, rfl, rfl, rfl, rfl, ⟨q3.ris, q3.dm, q3.sz, q3.mok, q3.bd, q3.reach⟩⟩
        · exact ⟨rfl, rfl, rfl, rfl, rfl, q3⟩
      obtain ⟨f1, f2, f3, f4, f5, T2⟩ := et2
      clear et
      refine wpAny_bind (wpAny_storeSet_of ho hd ?_ (by rw [hes, sizeLine_eq]; omega))
      have sb : Heap.SameBut a s.heap (s.heap.update a (Obj.putSet es1 t2)) := Heap.SameBut.update ..
      have ho1 := store_at (es' := es1) (t' := t2) ho hd
      generalize s.heap.update a (Obj.putSet es1 t2) = h1 at sb ho1 ⊢
      have ok1 : ∀ p ∈ L1, kdB.Ok h1 p.1 p.2 := fun p hp => by
        rcases List.mem_cons.mp (pm.mem_iff.mp hp) with e | hp
        · rw [e]; exact okB_same ⟨xa, rfl, hx, hxd⟩ ho hd sb
        · exact okB_same (R.ok p hp) ho hd sb
      have ld1 : w.params.followText "set-order" = true ∨ t2.led = true := by rw [f4, q5]; exact R.led
      have hsz1 : t2.place.size = es1.size := by
        have h := T2.sz
        rw [kHs_len, hlen] at h
        rw [h, hes]
      have hfit2 : t2.fits es1.size = true := by
        unfold SetTable.fits SetTable.fill
        rw [T2.dm, Bool.and_eq_true, beq_iff_eq, decide_eq_true_eq]
        rw [hes] at hsz1
        rw [f3, q4]
        show t2.place.size = es1.size ∧ t2.place.size + 0 ≤ t.mask
        rcases T.mok with e | e | e <;> omega
      by_cases hf : t2.tooFull = true
      · first
          | (refine wpAny_bind ?_; refine wp_if_pos (by simp [hf]) ?_)
          | (refine wp_if_pos (by simp [hf]) ?_; refine wpAny_bind ?_)
        have hfull : (L.length + 1) * 5 ≥ t1.mask * 3 := by
          have h := hf
          rw [f5] at h
          unfold SetTable.tooFull at h
          rw [decide_eq_true_eq, q9, kHs_len] at h
          exact h
        rw [hsl]
        have cases2 : (t.mask = 7 ∧ L.length = 4) ∨ (t.mask = 31 ∧ L.length = 18) := by
          rcases T.mok with e | e | e
          · left; rw [q4, e] at hfull; rw [e] at hroom; exact ⟨e, by omega⟩
          · right; rw [q4, e] at hfull; rw [e] at hroom; exact ⟨e, by omega⟩
          · exfalso; rw [q4, e] at hfull; omega
        have go : ∀ M, SetTable.sizeAbove (SetTable.grown (L.length + 1)) - 1 = M → MaskOk M → SetTable.sizeAbove (SetTable.grown (L.length + 1)) ≤ 128 → (L.length + 1) * 5 < M * 3 →
            wpAny (model P w) A (setRelay a (SetTable.grown (L.length + 1))) (fun _ s' => wpAny (model P w) A (pure true) Q E s') E { s with heap := h1 } := fun M h1' h2' h3' h4' => by
          refine relayB (s := { s with heap := h1 }) ho1 ⟨hex.1, hex.2.1, hex.2.2⟩ rfl hin hsz1 T2.dm (by rw [hes, f3, q4]; rcases cases2 with ⟨e, e2⟩ | ⟨e, e2⟩ <;> omega) nd1 ok1 ld1 (by rw [hlen]; exact hfew) h1' h2' h3' (by rw [hlen]; exact h4') ?_
          intro h2 L2 es2 ep2 t3 sb2 R2 pm2
          refine wpAny_pure (hQ true h2 L2 es2 ep2 t3 (sb.trans sb2) R2 (fun z => absurd z hm) fun _ => pm2.trans pm)
        rcases cases2 with ⟨_, e2⟩ | ⟨_, e2⟩
        · refine go 31 (by rw [e2, size_20]) (.inr (.inl rfl)) (by rw [e2, size_20]; decide) (by omega)
        · refine go 127 (by rw [e2, size_76]) (.inr (.inr rfl)) (by rw [e2, size_76]; decide) (by omega)
      · first
          | refine wp_if_neg (by simp [hf]) ?_
          | (refine wpAny_bind ?_; refine wp_if_neg (by simp [hf]) ?_; refine wpAny_pure ?_)
        refine wpAny_pure (hQ true h1 L1 es1 (ep + 1) t2 sb ⟨⟨_, ho1, ⟨hex.1, hex.2.1, hex.2.2⟩, rfl⟩, hin, nd1, ok1, ld1, T2.ris, hfit2, by rw [hlen]; exact hfew, T2, ?_⟩ (fun z => absurd z hm) fun _ => pm)
        have h := hf
        rw [f5] at h
        unfold SetTable.tooFull at h
        rw [decide_eq_true_eq, q9, kHs_len] at h
        rw [kHs_len, hlen, f3]
        omega
    by_cases hp : t1.plain = true
    · first
        | (refine wpAny_bind ?_; refine wp_if_pos hp ?_; refine hashBy_key 8 k _ s A _ hx fun bv => ?_)
        | refine wp_if_pos hp (wpAny_bind (hashBy_key 8 k _ s A _ hx fun bv => ?_))
      exact behind bv _ rfl
    · first
        | (refine wpAny_bind ?_; refine wp_if_neg hp ?_; refine wpAny_pure ?_)
        | (refine wp_if_neg hp ?_; refine wpAny_bind (wpAny_pure ?_))
      exact behind true _ rfl
end
end Ny

set_option maxHeartbeats 3200000
/-! Ny: set(xs), sorted(set(xs)), len(set(xs)). -/
namespace Ny
open PySem L2 PySem.Spec PyProof.Rows

/-- what the set has got from the first i items -/
structure GotK (ks : List (Value × NK)) (i : Nat) (L : List (Value × NK)) : Prop where
  sub : ∀ p ∈ L, p ∈ ks.take i
  all : ∀ p ∈ ks.take i, p.2 ∈ L.map (·.2)
theorem GotK.zero (ks : List (Value × NK)) : GotK ks 0 [] := ⟨fun p h => (by cases h), fun p h => (by simp at h)⟩
theorem GotK.same {ks L : List (Value × NK)} {i : Nat} {x : Value × NK} (g : GotK ks i L) (h : ks[i]? = some x) (hm : x.2 ∈ L.map (·.2)) : GotK ks (i + 1) L := by
  refine ⟨fun p hp => ?_, fun p hp => ?_⟩
  · rw [take_next h]
    exact List.mem_append_left _ (g.sub p hp)
  · rw [take_next h] at hp
    rcases List.mem_append.mp hp with z | z
    · exact g.all p z
    · rw [List.mem_singleton.mp z]; exact hm
theorem GotK.more {ks L L' : List (Value × NK)} {i : Nat} {x : Value × NK} (g : GotK ks i L) (h : ks[i]? = some x) (pm : L'.Perm (x :: L)) : GotK ks (i + 1) L' := by
  refine ⟨fun p hp => ?_, fun p hp => ?_⟩
  · rw [take_next h]
    rcases List.mem_cons.mp (pm.mem_iff.mp hp) with e | z
    · rw [e]; exact List.mem_append_right _ (List.mem_singleton.mpr rfl)
    · exact List.mem_append_left _ (g.sub p z)
  · rw [(pm.map (·.2)).mem_iff, List.map_cons]
    rw [take_next h] at hp
    rcases List.mem_append.mp hp with z | z
    · exact List.mem_cons_of_mem _ (g.all p z)
    · rw [List.mem_singleton.mp z]; exact List.mem_cons_self
/-- a kind of members that can be put into a set -/
structure KdOk (P : Program) (w : World) (κ : Kd) : Prop where
  add : AddOk P w κ
  nest : ∀ h v k, κ.Ok h v k → NestedIs h k v ∧ k.depth ≤ 8
  keep : ∀ h h' v k, κ.Ok h v k → (∀ c o, h.get? c = some o → h'.get? c = some o) → κ.Ok h' v k
  ex0 : ∀ led, κ.Ex (.fresh 0 0 led) []
  pos : 0 < κ.N
  few : κ.N ≤ 4000
section
variable {P : Program} {w : World} {A : Around} {E : Value → Shared → Prop} {s : Shared} {κ : Kd}
theorem kdA_ok : KdOk P w kdA where
  add := addA
  nest := fun h v k o => by
    rcases o with ⟨i, t, rfl, rfl⟩ | ⟨x, t, rfl, rfl⟩
    · exact ⟨.int i t, by simp [NestedKey.depth]⟩
    · exact ⟨.text x t, by simp [NestedKey.depth]⟩
  keep := fun _ _ _ _ o _ => o
  ex0 := fun _ => trivial
  pos := by show 0 < 4000; decide
  few := Nat.le_refl _
theorem kdB_ok : KdOk P w kdB where
  add := addB
  nest := fun h v k ⟨a, _, o, d⟩ => ⟨o, d⟩
  keep := fun h h' v k ⟨a, e, o, d⟩ hk => ⟨a, e, NestedIs.at (fun b o' vs n h1 _ => hk b o' h1) k v o, d⟩
  ex0 := fun led => ⟨⟨List.Pairwise.nil, rfl, rfl, .inl rfl, fun x hx => (by cases hx), fun i h j hi => (by simp at hi)⟩, by show 0 * 5 < 7 * 3; decide⟩
  pos := by show 0 < 77; decide
  few := by show 77 ≤ 4000; decide
theorem SetK.keep {h h' : Heap} {a : Addr} {L : List (Value × NK)} {es : Array (Int × Value)} {ep : Nat} {t : SetTable} (R : SetK w κ h a L es ep t) (ha : ∀ o, h.get? a = some o → h'.get? a = some o) (ht : ∀ p ∈ L, κ.Ok h' p.1 p.2) : SetK w κ h' a L es ep t := by
  obtain ⟨o, ho, r⟩ := R.ob
  exact ⟨⟨o, ha o ho, r⟩, R.rows, R.nd, ht, R.led, R.ris, R.fit, R.few, R.ex⟩
/-- a new set -/
theorem setK_fresh (O : KdOk P w κ) {h : Heap} {a : Addr} (ho : h.get? a = some { cls := .type "set", dict := none, data := .set #[] 0 (.fresh 0 0 (!w.params.followText "set-order")) }) : SetK w κ h a [] #[] 0 (.fresh 0 0 (!w.params.followText "set-order")) where
  ob := ⟨_, ho, ⟨rfl, rfl, rfl⟩, rfl⟩
  rows := rfl
  nd := List.nodup_nil
  ok := fun p hp => (by cases hp)
  led := by
    show _ ∨ (!w.params.followText "set-order") = true
    cases w.params.followText "set-order"
    · exact .inr rfl
    · exact .inl rfl
  ris := List.Pairwise.nil
  fit := rfl
  few := O.pos
  ex := O.ex0 _
/-- set.update's loop -/
theorem set_update_K (O : KdOk P w κ) {I : Addr} {fp wr : List Addr} {G : Array GenState → Array GenState → Prop} {n : Nat} {Pv : Nat → Value → Prop} {St : Nat → Shared → Prop} {R : Result → Shared → Prop}
    (W : WalksS P w A.in1 I fp wr G n Pv St) (S : Addr) (hSf : S ∉ fp) (ks : List (Value × NK)) (hn : n = ks.length) (hfew : ∀ L : List (Value × NK), (L.map (·.2)).Nodup → (∀ p ∈ L, p ∈ ks) → L.length + 1 < κ.N) (hval : ∀ i v, Pv i v → ∃ p, ks[i]? = some p ∧ v = p.1)
    (h0 : Heap) (hk : ∀ p ∈ ks, κ.Ok h0 p.1 p.2) (hS0 : h0.get? S = none) (hw0 : ∀ b ∈ wr, h0.get? b = none) (hu : A.units + 20 < cLine) :
    ∀ (k i : Nat) (s : Shared), n - i = k → i ≤ n → St i s → (∀ b o, h0.get? b = some o → s.heap.get? b = some o) → (∃ L es ep t, SetK w κ s.heap S L es ep t ∧ GotK ks i L) →
      (∀ s' L es ep t, Moved (S :: wr) G s s' → SetK w κ s'.heap S L es ep t → GotK ks n L → (∀ b o, h0.get? b = some o → s'.heap.get? b = some o) → R (.ok (.ret .none)) s') →
      codeAny (model P w) A (.builtin "set.update.loop" ⟨[.ref S, .ref I], []⟩) R s := by
  have hSw : S ∉ wr := fun h => hSf (W.sub _ h)
  have hsub : ∀ b ∈ wr, b ∈ S :: wr := fun b hb => List.mem_cons_of_mem _ hb
  have keepM : ∀ {s s' : Shared}, Moved wr G s s' → (∀ b o, h0.get? b = some o → s.heap.get? b = some o) → ∀ b o, h0.get? b = some o → s'.heap.get? b = some o := fun hm hkp b o e =>
    hm.heap b o (fun hb => by rw [hw0 b hb] at e; cases e) (hkp b o e)
  have hu1 : A.in1.units = A.units + 1 := rfl
  intro k
  induction k with
  | zero =>
    intro i s hk' hi hst hkp ⟨L, es, ep, t, hS, g⟩ hR
    have hin : i = n := by omega
    subst hin
    refine codeAny_builtin F.entry_set_update_loop ?_
    rw [Around.under_plainId F.plain_set_update_loop _]
    show wpAny _ A.in1 (pyNext (.ref I) >>= _) _ _ s
    refine wpAny_bind (W.done s _ _ hst fun s' hm => ?_)
    show wpAny _ A.in1 (ret Value.none) _ _ s'
    have hkp' := keepM hm hkp
    have sub : ∀ p ∈ L, p ∈ ks := fun p hp => List.mem_of_mem_take (g.sub p hp)
    exact wpAny_pure (hR s' L es ep t (hm.mono hsub) (hS.keep (fun o e => hm.heap S o hSw e) fun p hp => O.keep _ _ _ _ (hk p (sub p hp)) hkp') g hkp')
  | succ k ih =>
    intro i s hk' hi hst hkp ⟨L, es, ep, t, hS, g⟩ hR
    have hlt : i < n := by omega
    refine codeAny_builtin F.entry_set_update_loop ?_
    rw [Around.under_plainId F.plain_set_update_loop _]
    show wpAny _ A.in1 (pyNext (.ref I) >>= _) _ _ s
    refine wpAny_bind (W.item i s _ _ hlt hst fun v s' hP hst' hm => ?_)
    obtain ⟨p, hp, rfl⟩ := hval i v hP
    have hkp' := keepM hm hkp
    have sub : ∀ p ∈ L, p ∈ ks := fun p hp => List.mem_of_mem_take (g.sub p hp)
    have hS' : SetK w κ s'.heap S L es ep t := hS.keep (fun o e => hm.heap S o hSw e) fun q hq => O.keep _ _ _ _ (hk q (sub q hq)) hkp'
    have hx : κ.Ok s'.heap p.1 p.2 := O.keep _ _ _ _ (hk p (List.mem_of_getElem? hp)) hkp'
    obtain ⟨hx1, hx2⟩ := O.nest _ _ _ hx
    show wpAny _ A.in1 (holding [p.1] (setAdd S p.1) >>= _) _ _ s'
    refine wpAny_bind (wpAny_holding ?_)
    unfold setAdd
    refine wpAny_holding ?_
    refine wpAny_bind (pyHash_key p.2 p.1 _ s' _ hx1 (by omega) ?_)
    refine O.add (s := { s' with toks := s'.toks + p.2.draws }) hS' hx (by omega) (hfew L hS'.nd sub) fun b h' L' es' ep' t' hsb hS2 c1 c2 => ?_
    have g' : GotK ks (i + 1) L' := by
      rcases Classical.em (p.2 ∈ L.map (·.2)) with c | c
      · rw [c1 c]; exact g.same hp c
      · exact g.more hp (c2 c)
    have hkp2 : ∀ b o, h0.get? b = some o → h'.get? b = some o := fun b o e => (hsb.2 b (fun z => by rw [z, hS0] at e; cases e)).trans (hkp' b o e)
    refine wpAny_pure ⟨plainId_quiet F.plain_set_update_loop _, ih (i + 1) _ (by omega) hlt (W.frame _ s' _ _ hst' (Nat.le_add_right _ _) fun b hb o e => ?_) hkp2 ⟨L', es', ep', t', hS2, g'⟩ fun s'' L2 es2 ep2 t2 hm'' hS'' g'' hkp'' => ?_⟩
    · rw [hsb.2 b (fun h : b = S => hSf (by rw [← h]; exact hb))]; exact e
    · refine hR s'' L2 es2 ep2 t2 (Moved.trans W.gtrans ((hm.mono hsub).then_heap (Nat.le_add_right _ _) fun b o hb e => ?_) hm'') hS'' g'' hkp''
      rw [hsb.2 b (fun h : b = S => hb (by rw [h]; exact List.mem_cons_self))]; exact e

/-- set(xs), xs a list -/
theorem call_set_list (O : KdOk P w κ) {l : Addr} {items : Array Value} (ks : List (Value × NK)) {Q : Value → Shared → Prop} (hh : A.handled = none) (hl : s.heap.IsList l items) (hit : items.toList = ks.map fun p => p.1)
    (hk : ∀ p ∈ ks, κ.Ok s.heap p.1 p.2) (hfew : ∀ L : List (Value × NK), (L.map (·.2)).Nodup → (∀ p ∈ L, p ∈ ks) → L.length + 1 < κ.N) (hu : A.units + 30 < cLine)
    (h : ∀ (h' : Heap) (tk : Nat) L es ep t, SetK w κ h' s.heap.objs.size L es ep t → GotK ks ks.length L → (∀ b o, s.heap.get? b = some o → h'.get? b = some o) → Q (.ref s.heap.objs.size) { s with heap := h', toks := tk }) :
    wpAny (model P w) A (call (.type "set") [.ref l]) Q E s := by
  have hisz : items.size = ks.length := by
    have q := congrArg List.length hit
    rw [Array.length_toList, List.length_map] at q
    exact q
  obtain ⟨c, tl, hmro⟩ := F.called_set.mro
  have hmade := F.called_set.made
  have hsub := F.called_set.sub
  refine wpAny_call (codeAny_of_tree ?_)
  show wpAny _ _ (callAny (.type "set") _) _ _ _
  refine wpAny_pure ⟨Code.quiet_builtin _ (by decide +kernel), codeAny_builtin F.entry_type_call ?_⟩
  rw [Around.under_plain (weight_type_call_type "set" [.ref l] []) rfl]
  have h1 := F.called_set.notType
  have h2 := F.called_set.canCreate
  have hct := F.typeCall_set_1 (.ref l)
  repeat (any_goals (first | assumption | wp_step))
  refine codeAny_mono (code_set_led1 (.ref l) (E := E) (Q₁ := fun obj s₁ => obj = .ref s.heap.objs.size ∧ s₁ = { s with heap := s.heap.push { cls := .type "set", dict := none, data := .set #[] 0 (.fresh 0 0 (!w.params.followText "set-order")) } }) ⟨rfl, rfl⟩) fun r s₁ hr => ?_
  cases r with
  | error e => exact hr
  | ok fl =>
    cases fl with
    | ret obj =>
      obtain ⟨rfl, rfl⟩ := hr
      have hS : (s.heap.push { cls := .type "set", dict := none, data := .set #[] 0 (.fresh 0 0 (!w.params.followText "set-order")) }).get? s.heap.objs.size = some { cls := .type "set", dict := none, data := .set #[] 0 (.fresh 0 0 (!w.params.followText "set-order")) } := Heap.get?_push_size _ rfl
      have hT : Shared.TypeIs { s with heap := s.heap.push { cls := .type "set", dict := none, data := .set #[] 0 (.fresh 0 0 (!w.params.followText "set-order")) } } (.ref s.heap.objs.size) "set" := ⟨_, hS, rfl⟩
      have hli := F.called_set.init.lookup
      have hbi := F.called_set.init.bind (.ref s.heap.objs.size)
      repeat (any_goals (first | assumption | wp_step))
      refine codeAny_mono (codeAny_call_builtin (R := wants (fun r s₂ => r = .none ∧ ∃ h' tk L es ep t, s₂ = { s with heap := h', toks := tk } ∧ SetK w κ h' s.heap.objs.size L es ep t ∧ GotK ks ks.length L ∧
          (∀ b o, s.heap.get? b = some o → h'.get? b = some o)) E) F.called_set.init.plain F.entry_set_init (check_set_init_1 hT ?_)) fun r₂ s₂ hr₂ => ?_
      · obtain ⟨ol, hol, hcl, nl, hdl⟩ := hl
        obtain ⟨ocls, odict, odata, oslots⟩ := ol
        simp only at hcl hdl
        subst hcl; subst hdl
        have hol' : (s.heap.push { cls := .type "set", dict := none, data := .set #[] 0 (.fresh 0 0 (!w.params.followText "set-order")) }).get? l = some { cls := .type "list", dict := odict, data := .seq items nl, slots := oslots } := Heap.get?_push_of_some _ hol
        have hsls := F.sub_list_set
        have hslf := F.sub_list_frozenset
        have hne : (Value.type "list" == Value.type "dict") = false := by decide
        have hl1 : (s.heap.push { cls := .type "set", dict := none, data := .set #[] 0 (.fresh 0 0 (!w.params.followText "set-order")) }).IsList l items := ⟨_, hol', rfl, nl, rfl⟩
        unfold Builtin.«set.__init__» noKeywords Builtin.Frozenset.updateFrom
        generalize hPI : pyIter = PI
        wp_walk
        subst hPI
        refine wpAny_pyIter_list hl1 ?_
        refine wpAny_bind (wpAny_runValue ?_)
        have hlS : l < s.heap.objs.size := Heap.lt_size hol
        have hh3 : A.in1.in1.in1.handled = none := by simp [hh]
        have hz1 : (s.heap.push { cls := .type "set", dict := none, data := .set #[] 0 (.fresh 0 0 (!w.params.followText "set-order")) }).objs.size = s.heap.objs.size + 1 := Heap.size_push ..
        have hneI : l ≠ (s.heap.push { cls := .type "set", dict := none, data := .set #[] 0 (.fresh 0 0 (!w.params.followText "set-order")) }).objs.size := by
          rw [Heap.size_push]; exact Nat.ne_of_lt (Nat.lt_succ_of_lt hlS)
        have hSf : s.heap.objs.size ∉ [(s.heap.push { cls := .type "set", dict := none, data := .set #[] 0 (.fresh 0 0 (!w.params.followText "set-order")) }).objs.size, l] := by
          rw [Heap.size_push]; simp only [List.mem_cons, List.mem_singleton, List.not_mem_nil, or_false, not_or]
          exact ⟨Nat.ne_of_lt (Nat.lt_succ_self _), Nat.ne_of_gt hlS⟩
        have hval : ∀ (i : Nat) (v : Value), items[i]? = some v → ∃ p, ks[i]? = some p ∧ v = p.1 := fun i v hv => by
          have q : items.toList[i]? = some v := by rw [Array.getElem?_toList]; exact hv
          rw [hit, List.getElem?_map] at q
          cases hq : ks[i]? with
          | none => rw [hq] at q; cases q
          | some p =>
            rw [hq] at q
            exact ⟨p, rfl, (Option.some.inj q).symm⟩
        have none_of : ∀ b, s.heap.objs.size ≤ b → s.heap.get? b = none := fun b hb => by
          cases q : s.heap.get? b with
          | none => rfl
          | some o => exact absurd (Nat.lt_of_lt_of_le (Heap.lt_size q) hb) (Nat.lt_irrefl _)
        have hu3 : A.in1.in1.in1.units = A.units + 3 := rfl
        refine set_update_K O ((Walks.list hh3 _ l hneI items).toS) s.heap.objs.size
          hSf ks hisz hfew hval s.heap hk (none_of _ (Nat.le_refl _)) (fun b hb => none_of b (by
            rw [List.mem_singleton.mp hb, Heap.size_push]
            exact Nat.le_succ _)) (show A.units + 2 + 20 < cLine by omega) (items.size - 0) 0 _ (by omega) (Nat.zero_le _)
          ⟨⟨_, Heap.get?_push_size _ rfl, rfl, rfl⟩, (hl1.push _)⟩ (fun b o e => Heap.get?_push_of_some _ (Heap.get?_push_of_some _ e)) ?hS0 ?hR
        case hS0 =>
          have hget : ((s.heap.push { cls := .type "set", dict := none, data := .set #[] 0 (.fresh 0 0 (!w.params.followText "set-order")) }).push { cls := .type "list_iterator", data := .fields #[.ref l, .int 0 0] }).get? s.heap.objs.size
              = some { cls := .type "set", dict := none, data := .set #[] 0 (.fresh 0 0 (!w.params.followText "set-order")) } := Heap.get?_push_of_some _ hS
          exact ⟨[], #[], 0, _, setK_fresh O hget, GotK.zero ks⟩
        case hR =>
          intro s' L es ep t hm hS' g' hkp
          obtain ⟨h', g2, d', tk', os'⟩ := s'
          have eg : g2 = s.gens := hm.gens
          have ed : d' = s.drawn := hm.drawn
          have eo : os' = s.os := hm.os
          subst eg; subst ed; subst eo
          show wpAny _ _ _ _ _ _
          refine wpAny_pure ?_
          show wpAny _ _ (ret Value.none) _ _ _
          rw [hisz] at g'
          exact wpAny_pure ⟨rfl, h', tk', L, es, ep, t, rfl, hS', g', hkp⟩
      · cases r₂ with
        | error e => exact hr₂
        | ok fl₂ =>
          cases fl₂ with
          | ret r =>
            obtain ⟨rfl, h', tk, L, es, ep, t, rfl, hS', g', hk'⟩ := hr₂
            repeat (any_goals (first | assumption | wp_step))
            exact h _ _ _ _ _ _ hS' g' hk'
          | _ => exact hr₂.elim
    | _ => exact hr.elim

/-- set(xs), xs a tuple -/
theorem call_set_tuple (O : KdOk P w κ) {l : Addr} {items : Array Value} (ks : List (Value × NK)) {Q : Value → Shared → Prop} (hh : A.handled = none) (hl : s.heap.IsTuple l items) (hit : items.toList = ks.map fun p => p.1)
    (hk : ∀ p ∈ ks, κ.Ok s.heap p.1 p.2) (hfew : ∀ L : List (Value × NK), (L.map (·.2)).Nodup → (∀ p ∈ L, p ∈ ks) → L.length + 1 < κ.N) (hu : A.units + 30 < cLine)
    (h : ∀ (h' : Heap) (tk : Nat) L es ep t, SetK w κ h' s.heap.objs.size L es ep t → GotK ks ks.length L → (∀ b o, s.heap.get? b = some o → h'.get? b = some o) → Q (.ref s.heap.objs.size) { s with heap := h', toks := tk }) :
    wpAny (model P w) A (call (.type "set") [.ref l]) Q E s := by
  have hisz : items.size = ks.length := by
    have q := congrArg List.length hit
    rw [Array.length_toList, List.length_map] at q
    exact q
  obtain ⟨c, tl, hmro⟩ := F.called_set.mro
  have hmade := F.called_set.made
  have hsub := F.called_set.sub
  refine wpAny_call (codeAny_of_tree ?_)
  show wpAny _ _ (callAny (.type "set") _) _ _ _
  refine wpAny_pure ⟨Code.quiet_builtin _ (by decide +kernel), codeAny_builtin F.entry_type_call ?_⟩
  rw [Around.under_plain (weight_type_call_type "set" [.ref l] []) rfl]
  have h1 := F.called_set.notType
  have h2 := F.called_set.canCreate
  have hct := F.typeCall_set_1 (.ref l)
  repeat (any_goals (first | assumption | wp_step))
  refine codeAny_mono (code_set_led1 (.ref l) (E := E) (Q₁ := fun obj s₁ => obj = .ref s.heap.objs.size ∧ s₁ = { s with heap := s.heap.push { cls := .type "set", dict := none, data := .set #[] 0 (.fresh 0 0 (!w.params.followText "set-order")) } }) ⟨rfl, rfl⟩) fun r s₁ hr => ?_
  cases r with
  | error e => exact hr
  | ok fl =>
    cases fl with
    | ret obj =>
      obtain ⟨rfl, rfl⟩ := hr
      have hS : (s.heap.push { cls := .type "set", dict := none, data := .set #[] 0 (.fresh 0 0 (!w.params.followText "set-order")) }).get? s.heap.objs.size = some { cls := .type "set", dict := none, data := .set #[] 0 (.fresh 0 0 (!w.params.followText "set-order")) } := Heap.get?_push_size _ rfl
      have hT : Shared.TypeIs { s with heap := s.heap.push { cls := .type "set", dict := none, data := .set #[] 0 (.fresh 0 0 (!w.params.followText "set-order")) } } (.ref s.heap.objs.size) "set" := ⟨_, hS, rfl⟩
      have hli := F.called_set.init.lookup
      have hbi := F.called_set.init.bind (.ref s.heap.objs.size)
      repeat (any_goals (first | assumption | wp_step))
      refine codeAny_mono (codeAny_call_builtin (R := wants (fun r s₂ => r = .none ∧ ∃ h' tk L es ep t, s₂ = { s with heap := h', toks := tk } ∧ SetK w κ h' s.heap.objs.size L es ep t ∧ GotK ks ks.length L ∧
          (∀ b o, s.heap.get? b = some o → h'.get? b = some o)) E) F.called_set.init.plain F.entry_set_init (check_set_init_1 hT ?_)) fun r₂ s₂ hr₂ => ?_
      · obtain ⟨ol, hol, hcl, nl, hdl⟩ := hl
        obtain ⟨ocls, odict, odata, oslots⟩ := ol
        simp only at hcl hdl
        subst hcl; subst hdl
        have hol' : (s.heap.push { cls := .type "set", dict := none, data := .set #[] 0 (.fresh 0 0 (!w.params.followText "set-order")) }).get? l = some { cls := .type "tuple", dict := odict, data := .seq items nl, slots := oslots } := Heap.get?_push_of_some _ hol
        have hsls := F.sub_tuple_set
        have hslf := F.sub_tuple_frozenset
        have hne : (Value.type "tuple" == Value.type "dict") = false := by decide
        have hl1 : (s.heap.push { cls := .type "set", dict := none, data := .set #[] 0 (.fresh 0 0 (!w.params.followText "set-order")) }).IsTuple l items := ⟨_, hol', rfl, nl, rfl⟩
        unfold Builtin.«set.__init__» noKeywords Builtin.Frozenset.updateFrom
        generalize hPI : pyIter = PI
        wp_walk
        subst hPI
        refine wpAny_pyIter_tuple hl1 ?_
        refine wpAny_bind (wpAny_runValue ?_)
        have hlS : l < s.heap.objs.size := Heap.lt_size hol
        have hh3 : A.in1.in1.in1.handled = none := by simp [hh]
        have hz1 : (s.heap.push { cls := .type "set", dict := none, data := .set #[] 0 (.fresh 0 0 (!w.params.followText "set-order")) }).objs.size = s.heap.objs.size + 1 := Heap.size_push ..
        have hneI : l ≠ (s.heap.push { cls := .type "set", dict := none, data := .set #[] 0 (.fresh 0 0 (!w.params.followText "set-order")) }).objs.size := by
          rw [Heap.size_push]; exact Nat.ne_of_lt (Nat.lt_succ_of_lt hlS)
        have hSf : s.heap.objs.size ∉ [(s.heap.push { cls := .type "set", dict := none, data := .set #[] 0 (.fresh 0 0 (!w.params.followText "set-order")) }).objs.size, l] := by
          rw [Heap.size_push]; simp only [List.mem_cons, List.mem_singleton, List.not_mem_nil, or_false, not_or]
          exact ⟨Nat.ne_of_lt (Nat.lt_succ_self _), Nat.ne_of_gt hlS⟩
        have hval : ∀ (i : Nat) (v : Value), items[i]? = some v → ∃ p, ks[i]? = some p ∧ v = p.1 := fun i v hv => by
          have q : items.toList[i]? = some v := by rw [Array.getElem?_toList]; exact hv
          rw [hit, List.getElem?_map] at q
          cases hq : ks[i]? with
          | none => rw [hq] at q; cases q
          | some p =>
            rw [hq] at q
            exact ⟨p, rfl, (Option.some.inj q).symm⟩
        have none_of : ∀ b, s.heap.objs.size ≤ b → s.heap.get? b = none := fun b hb => by
          cases q : s.heap.get? b with
          | none => rfl
          | some o => exact absurd (Nat.lt_of_lt_of_le (Heap.lt_size q) hb) (Nat.lt_irrefl _)
        have hu3 : A.in1.in1.in1.units = A.units + 3 := rfl
        refine set_update_K O ((Walks.tuple hh3 _ l hneI items).toS) s.heap.objs.size
          hSf ks hisz hfew hval s.heap hk (none_of _ (Nat.le_refl _)) (fun b hb => none_of b (by
            rw [List.mem_singleton.mp hb, Heap.size_push]
            exact Nat.le_succ _)) (show A.units + 2 + 20 < cLine by omega) (items.size - 0) 0 _ (by omega) (Nat.zero_le _)
          ⟨⟨_, Heap.get?_push_size _ rfl, rfl, rfl⟩, (hl1.push _)⟩ (fun b o e => Heap.get?_push_of_some _ (Heap.get?_push_of_some _ e)) ?hS0 ?hR
        case hS0 =>
          have hget : ((s.heap.push { cls := .type "set", dict := none, data := .set #[] 0 (.fresh 0 0 (!w.params.followText "set-order")) }).push { cls := .type "tuple_iterator", data := .fields #[.ref l, .int 0 0] }).get? s.heap.objs.size
              = some { cls := .type "set", dict := none, data := .set #[] 0 (.fresh 0 0 (!w.params.followText "set-order")) } := Heap.get?_push_of_some _ hS
          exact ⟨[], #[], 0, _, setK_fresh O hget, GotK.zero ks⟩
        case hR =>
          intro s' L es ep t hm hS' g' hkp
          obtain ⟨h', g2, d', tk', os'⟩ := s'
          have eg : g2 = s.gens := hm.gens
          have ed : d' = s.drawn := hm.drawn
          have eo : os' = s.os := hm.os
          subst eg; subst ed; subst eo
          show wpAny _ _ _ _ _ _
          refine wpAny_pure ?_
          show wpAny _ _ (ret Value.none) _ _ _
          rw [hisz] at g'
          exact wpAny_pure ⟨rfl, h', tk', L, es, ep, t, rfl, hS', g', hkp⟩
      · cases r₂ with
        | error e => exact hr₂
        | ok fl₂ =>
          cases fl₂ with
          | ret r =>
            obtain ⟨rfl, h', tk, L, es, ep, t, rfl, hS', g', hk'⟩ := hr₂
            repeat (any_goals (first | assumption | wp_step))
            exact h _ _ _ _ _ _ hS' g' hk'
          | _ => exact hr₂.elim
    | _ => exact hr.elim
end
end Ny

set_option maxHeartbeats 3200000
/-! Ny: sorted(set(xs)), len(set(xs)). -/
namespace Ny
open PySem L2 PySem.Spec PyProof.Rows

mutual
def nkD : D → NK
  | .int i => .num i
  | .str x => .text x
  | .tup xs => .tup (nkDs xs)
  | _ => .none
def nkDs : List D → List NK
  | [] => []
  | x :: xs => nkD x :: nkDs xs
end
mutual
theorem nkD_inj : ∀ {x y : D}, leafOk x = true → leafOk y = true → nkD x = nkD y → x = y
  | .int i, y, _, h, e => by cases y <;> first | (simp [leafOk] at h; done) | (simp [nkD] at e; done) | (simp [nkD] at e; rw [e])
  | .str s, y, _, h, e => by cases y <;> first | (simp [leafOk] at h; done) | (simp [nkD] at e; done) | (simp [nkD] at e; rw [e])
  | .tup xs, y, h1, h, e => by
    cases y with
    | tup ys =>
      simp only [nkD, NestedKey.tup.injEq] at e
      rw [nkDs_inj (by simpa [leafOk] using h1) (by simpa [leafOk] using h) e]
    | _ => first | (simp [leafOk] at h; done) | (simp [nkD] at e; done)
  | .non, _, h, _, _ => by simp [leafOk] at h
  | .bl _, _, h, _, _ => by simp [leafOk] at h
  | .lst _, _, h, _, _ => by simp [leafOk] at h
  | .ro _, _, h, _, _ => by simp [leafOk] at h
  | .dct _ _, _, h, _, _ => by simp [leafOk] at h
  | .obj _, _, h, _, _ => by simp [leafOk] at h
theorem nkDs_inj : ∀ {xs ys : List D}, leafsOk xs = true → leafsOk ys = true → nkDs xs = nkDs ys → xs = ys
  | [], ys, _, _, e => by cases ys <;> first | rfl | (simp [nkDs] at e)
  | x :: xs, ys, h1, h2, e => by
    cases ys with
    | nil => simp [nkDs] at e
    | cons y ys =>
      simp only [leafsOk, Bool.and_eq_true] at h1 h2
      simp only [nkDs, List.cons.injEq] at e
      rw [nkD_inj h1.1 h2.1 e.1, nkDs_inj h1.2 h2.2 e.2]
end
mutual
theorem nkD_depth : ∀ {x : D}, leafOk x = true → (nkD x).depth = x.dep
  | .int i, _ => by simp [nkD, NestedKey.depth, D.dep]
  | .str s, _ => by simp [nkD, NestedKey.depth, D.dep]
  | .tup xs, h => by
    have := nkDs_depth (xs := xs) (by simpa [leafOk] using h)
    simp [nkD, NestedKey.depth, D.dep, this]
  | .non, h => by simp [leafOk] at h
  | .bl _, h => by simp [leafOk] at h
  | .lst _, h => by simp [leafOk] at h
  | .ro _, h => by simp [leafOk] at h
  | .dct _ _, h => by simp [leafOk] at h
  | .obj _, h => by simp [leafOk] at h
theorem nkDs_depth : ∀ {xs : List D}, leafsOk xs = true → NestedKey.depthAll (nkDs xs) = depAll xs
  | [], _ => rfl
  | x :: xs, h => by
    simp only [leafsOk, Bool.and_eq_true] at h
    simp only [nkDs, NestedKey.depthAll, depAll, nkD_depth h.1, nkDs_depth h.2]
end
section
variable {X : Cx} {pins : List (Addr × Obj)} {σ : L2.St} {H : Hp} {s : Shared} {ρ : Rho} {F : Addr → Prop}
mutual
theorem nested_of (I : Inv X pins σ H s) : ∀ {d : D} {v : V} {u : Value}, leafOk d = true → Rd X.K ρ F H v d → RelV v u → NestedIs s.heap (nkD d) u
  | .int i, _, _, _, r, ru => by
    cases r
    obtain ⟨t, rfl⟩ := ru
    exact .int i t
  | .str x, _, _, _, r, ru => by
    cases r
    obtain ⟨t, rfl⟩ := ru
    exact .text x t
  | .tup xs, _, _, h, r, ru => by
    cases r with
    | tup t rs =>
      cases ru
      obtain ⟨its, rv, ⟨o, ho, hc, n, hd⟩, _⟩ := I.tuple t.sq
      exact .tup ho hc hd (nesteds_of I (by simpa [leafOk] using h) rs (by simpa using rv))
  | .non, _, _, h, _, _ => by simp [leafOk] at h
  | .bl _, _, _, h, _, _ => by simp [leafOk] at h
  | .lst _, _, _, h, _, _ => by simp [leafOk] at h
  | .ro _, _, _, h, _, _ => by simp [leafOk] at h
  | .dct _ _, _, _, h, _, _ => by simp [leafOk] at h
  | .obj _, _, _, h, _, _ => by simp [leafOk] at h
theorem nesteds_of (I : Inv X pins σ H s) : ∀ {ds : List D} {vs : List V} {us : List Value}, leafsOk ds = true → Rds X.K ρ F H vs ds → Vals vs us → NestedAll s.heap (nkDs ds) us
  | [], _, _, _, r, ru => by
    cases r
    cases ru
    exact .nil
  | d :: ds, _, _, h, r, ru => by
    simp only [leafsOk, Bool.and_eq_true] at h
    cases r with
    | cons r rs =>
      cases ru with
      | cons ru rus => exact .cons (nested_of I h.1 r ru) (nesteds_of I h.2 rs rus)
end
end
theorem nd_len {α : Type} : ∀ {l m : List α}, l.Nodup → (∀ x ∈ l, x ∈ m) → l.length ≤ m.length
  | [], m, _, _ => Nat.zero_le _
  | x :: l, m, hn, h => by
    obtain ⟨h1, h2⟩ := List.nodup_cons.mp hn
    obtain ⟨a, b, rfl⟩ := List.append_of_mem (h x (by simp))
    have := nd_len (l := l) (m := a ++ b) h2 fun y hy => by
      have := h y (by simp [hy])
      rcases List.mem_append.mp this with z | z
      · exact List.mem_append_left _ z
      · rcases List.mem_cons.mp z with e | z
        · rw [e] at hy; exact absurd hy h1
        · exact List.mem_append_right _ z
    simp only [List.length_cons, List.length_append] at this ⊢
    omega
/-! ### what sorting asks for stays by turning the row -/
theorem isNilT_iff {z : D} : isNilT z = true ↔ z = .tup [] := by
  constructor
  · intro h
    unfold isNilT at h
    split at h
    · rfl
    · cases h
  · rintro rfl
    rfl
theorem kindOk_iff {xs : List D} : kindOk xs = true ↔ xs.length ≤ 1 ∨ (∃ t, (t = 1 ∨ t = 2) ∧ ∀ z ∈ xs, tagD z = t) ∨ (∃ t, t ≠ 0 ∧ ∀ z ∈ xs, fstTag z = t) ∨ ((∀ z ∈ xs, tagD z = 3) ∧ ∃ z ∈ xs, z = .tup []) := by
  match xs with
  | [] => simp [kindOk]
  | [x] => simp [kindOk]
  | x :: y :: r =>
    show ((((tagD x == 1 || tagD x == 2) && (x :: y :: r).all fun z => tagD z == tagD x) || (fstTag x != 0 && (x :: y :: r).all fun z => fstTag z == fstTag x)) || ((x :: y :: r).all (fun z => tagD z == 3) && (x :: y :: r).any isNilT)) = true ↔ _
    rw [Bool.or_eq_true, Bool.or_eq_true, Bool.and_eq_true, Bool.and_eq_true, Bool.and_eq_true, List.all_eq_true, List.all_eq_true, List.all_eq_true, List.any_eq_true, Bool.or_eq_true]
    simp only [beq_iff_eq, bne_iff_ne, isNilT_iff]
    constructor
    · rintro ((⟨h1, h2⟩ | ⟨h1, h2⟩) | ⟨h1, h2⟩)
      · exact .inr (.inl ⟨_, h1, h2⟩)
      · exact .inr (.inr (.inl ⟨_, h1, h2⟩))
      · exact .inr (.inr (.inr ⟨h1, h2⟩))
    · rintro (h | ⟨t, h1, h2⟩ | ⟨t, h1, h2⟩ | h)
      · simp at h
      · left
        left
        have e := h2 x (by simp)
        rw [e]
        exact ⟨h1, h2⟩
      · left
        right
        have e := h2 x (by simp)
        rw [e]
        exact ⟨h1, h2⟩
      · right
        exact h
theorem sameSort_perm {xs ys : List D} (p : ys.Perm xs) (h : sameSort xs = true) : sameSort ys = true := by
  unfold sameSort at *
  simp only [Bool.and_eq_true, List.all_eq_true] at *
  obtain ⟨h1, h2, h3⟩ := h
  refine ⟨fun z hz => h1 z (p.mem_iff.mp hz), ?_, fun x hx y hy => h3 x (p.mem_iff.mp hx) y (p.mem_iff.mp hy)⟩
  rw [kindOk_iff] at *
  rw [p.length_eq]
  exact h2.imp id (Or.imp (fun ⟨t, a, b⟩ => ⟨t, a, fun z hz => b z (p.mem_iff.mp hz)⟩) (Or.imp (fun ⟨t, a, b⟩ => ⟨t, a, fun z hz => b z (p.mem_iff.mp hz)⟩) fun ⟨a, z, hz, b⟩ => ⟨fun z hz => a z (p.mem_iff.mp hz), z, p.mem_iff.mpr hz, b⟩))
theorem sortD_permEq {xs ys : List D} (h : ∀ x ∈ xs, leafOk x = true) (p : ys.Perm xs) : sortD ys = sortD xs := sortD_uniq h ((sortD_perm ys).trans p) (sortD_sorted ys)
theorem addD_mem' {acc : List D} {x y : D} (hx : leafOk x = true) (ha : ∀ z ∈ acc, leafOk z = true) : y ∈ addD acc x ↔ y ∈ acc ∨ y = x := by
  unfold addD
  by_cases h : hasD x acc = true
  · rw [if_pos h]
    refine ⟨.inl, fun q => q.elim id fun e => ?_⟩
    unfold hasD at h
    obtain ⟨z, hz, he⟩ := List.any_eq_true.mp h
    rw [eqD_enc (ha z hz) hx, decide_eq_true_eq] at he
    rw [e, ← enc_inj (ha z hz) hx he]
    exact hz
  · rw [if_neg h]
    simp
theorem dedup_go' : ∀ (xs acc : List D), (∀ z ∈ xs, leafOk z = true) → (∀ z ∈ acc, leafOk z = true) → acc.Nodup → (∀ y, y ∈ xs.foldl addD acc ↔ y ∈ acc ∨ y ∈ xs) ∧ (xs.foldl addD acc).Nodup
  | [], acc, _, _, hn => ⟨fun y => by simp, hn⟩
  | x :: xs, acc, hx, ha, hn => by
    have h0 := hx x (by simp)
    have ha' : ∀ z ∈ addD acc x, leafOk z = true := fun z hz => by
      rcases (addD_mem' h0 ha).mp hz with q | q
      · exact ha z q
      · rw [q]; exact h0
    have hn' : (addD acc x).Nodup := by
      unfold addD
      split
      · exact hn
      · rename_i h
        rw [List.nodup_append]
        refine ⟨hn, by simp, fun a hb b hx2 e => h ?_⟩
        rw [List.mem_singleton] at hx2
        subst e
        unfold hasD
        rw [List.any_eq_true]
        exact ⟨a, hb, by rw [eqD_enc (ha a hb) h0, hx2, decide_eq_true rfl]⟩
    obtain ⟨h1, h2⟩ := dedup_go' xs (addD acc x) (fun z hz => hx z (List.mem_cons_of_mem _ hz)) ha' hn'
    refine ⟨fun y => ?_, h2⟩
    rw [List.foldl_cons, h1 y, addD_mem' h0 ha, List.mem_cons, or_assoc]
theorem dedup_mem' {xs : List D} (h : ∀ z ∈ xs, leafOk z = true) (y : D) : y ∈ dedup xs ↔ y ∈ xs := by
  unfold dedup
  rw [(dedup_go' xs [] h (by simp) (by simp)).1 y]
  simp
theorem dedup_nodup' {xs : List D} (h : ∀ z ∈ xs, leafOk z = true) : (dedup xs).Nodup := (dedup_go' xs [] h (by simp) (by simp)).2
theorem keyT_leaf {d : D} (h : keyT d = true) : leafOk d = true ∧ d.dep ≤ 8 ∧ ∃ xs, d = .tup xs := by
  cases d with
  | tup xs =>
    simp only [keyT, Bool.and_eq_true, decide_eq_true_eq] at h
    refine ⟨by simpa [leafOk] using h.1, ?_, xs, rfl⟩
    simp only [D.dep]
    omega
  | _ => cases h
theorem setOk_leaf {xs : List D} (h : setOk xs = true) : ∀ z ∈ xs, leafOk z = true := by
  unfold setOk at h
  simp only [Bool.and_eq_true, Bool.or_eq_true, List.all_eq_true] at h
  intro z hz
  rcases h.2 with h | h
  · have := h z hz
    cases z <;> first | rfl | (cases this)
  · exact (keyT_leaf (h.1 z hz)).1
end Ny

set_option maxHeartbeats 3200000
/-! Ny: the rules of sorted(set(xs)), len(set(xs)). -/
namespace Ny
open PySem L2 PySem.Spec PyProof.Rows
/-- the members that are put in, and their keys -/
def ksOf (its : List Value) (xs : List D) : List (Value × NK) := (its.zip xs).map fun p => (p.1, nkD p.2)
theorem ksOf_fst : ∀ {its : List Value} {xs : List D}, its.length = xs.length → its = (ksOf its xs).map fun p => p.1
  | [], [], _ => rfl
  | v :: its, x :: xs, h => by
    have := ksOf_fst (its := its) (xs := xs) (by simpa using h)
    unfold ksOf at *
    simp only [List.zip_cons_cons, List.map_cons]
    rw [← this]
  | [], _ :: _, h => by simp at h
  | _ :: _, [], h => by simp at h
theorem ksOf_snd : ∀ {its : List Value} {xs : List D}, its.length = xs.length → (ksOf its xs).map (·.2) = xs.map nkD
  | [], [], _ => rfl
  | v :: its, x :: xs, h => by
    have := ksOf_snd (its := its) (xs := xs) (by simpa using h)
    unfold ksOf at *
    simp only [List.zip_cons_cons, List.map_cons]
    rw [← this]
  | [], _ :: _, h => by simp at h
  | _ :: _, [], h => by simp at h
section
variable {X : Cx} {pins : List (Addr × Obj)} {σ : L2.St} {H : Hp} {s : Shared} {ρ : Rho} {F : Addr → Prop}
theorem ks_len : ∀ {its : List Value} {vs : List V} {xs : List D}, Vals vs its → Rds X.K ρ F H vs xs → its.length = xs.length
  | _, _, _, .nil, .nil => rfl
  | _, _, _, .cons _ a, .cons _ b => by rw [List.length_cons, List.length_cons, ks_len a b]
theorem ks_mem : ∀ {its : List Value} {vs : List V} {xs : List D}, Vals vs its → Rds X.K ρ F H vs xs → ∀ p ∈ ksOf its xs, ∃ v d, d ∈ xs ∧ RelV v p.1 ∧ Rd X.K ρ F H v d ∧ nkD d = p.2
  | _, _, _, .nil, .nil, p, hp => by cases hp
  | _, _, _, .cons r1 t1, .cons (d := d) q1 t2, p, hp => by
    rcases List.mem_cons.mp (show p ∈ _ :: ksOf _ _ from hp) with e | hp
    · subst e
      exact ⟨_, d, by simp, r1, q1, rfl⟩
    · obtain ⟨v, d', h1, h2⟩ := ks_mem t1 t2 p hp
      exact ⟨v, d', by simp [h1], h2⟩
/-- some of them, in some sequence -/
theorem ks_pick {its : List Value} {vs : List V} {xs : List D} (rv : Vals vs its) (rd : Rds X.K ρ F H vs xs) : ∀ M : List (Value × NK), (∀ p ∈ M, p ∈ ksOf its xs) →
    ∃ vs' xs', Vals vs' (M.map fun p => p.1) ∧ Rds X.K ρ F H vs' xs' ∧ xs'.map nkD = M.map (·.2) ∧ ∀ x ∈ xs', x ∈ xs
  | [], _ => ⟨[], [], .nil, .nil, rfl, by simp⟩
  | p :: M, h => by
    obtain ⟨v, d, h1, h2, h3, h4⟩ := ks_mem rv rd p (h p (by simp))
    obtain ⟨vs', xs', e1, e2, e3, e4⟩ := ks_pick rv rd M fun q hq => h q (by simp [hq])
    refine ⟨v :: vs', d :: xs', .cons h2 e1, .cons h3 e2, by rw [List.map_cons, List.map_cons, e3, h4], fun x hx => ?_⟩
    rcases List.mem_cons.mp hx with z | z
    · rw [z]; exact h1
    · exact e4 x z
theorem key1_okA {h : Heap} {v : V} {d : D} {u : Value} (hk : key1 d = true) (r : Rd X.K ρ F H v d) (ru : RelV v u) : kdA.Ok h u (nkD d) := by
  cases d with
  | int i =>
    cases r
    obtain ⟨t, rfl⟩ := ru
    exact .inl ⟨i, t, rfl, rfl⟩
  | str x =>
    cases r
    obtain ⟨t, rfl⟩ := ru
    exact .inr ⟨x, t, rfl, rfl⟩
  | _ => cases hk
theorem keyT_okB (I : Inv X pins σ H s) {v : V} {d : D} {u : Value} (hk : keyT d = true) (r : Rd X.K ρ F H v d) (ru : RelV v u) : kdB.Ok s.heap u (nkD d) := by
  obtain ⟨h1, h2, xs, rfl⟩ := keyT_leaf hk
  have n := nested_of I h1 r ru
  cases r with
  | tup t rs =>
    cases ru
    exact ⟨_, rfl, n, by rw [nkD_depth h1]; exact h2⟩
/-- which sort of set it is -/
theorem set_kind (I : Inv X pins σ H s) {its : List Value} {vs : List V} {xs : List D} (rv : Vals vs its) (rd : Rds X.K ρ F H vs xs) (ok : setOk xs = true) :
    ∃ κ, KdOk X.prog X.w κ ∧ (∀ p ∈ ksOf its xs, κ.Ok s.heap p.1 p.2) ∧ ∀ L : List (Value × NK), (L.map (·.2)).Nodup → (∀ p ∈ L, p ∈ ksOf its xs) → L.length + 1 < κ.N := by
  have lf := setOk_leaf ok
  have key : ∀ L : List (Value × NK), (L.map (·.2)).Nodup → (∀ p ∈ L, p ∈ ksOf its xs) → L.length ≤ (dedup xs).length := fun L hn hs => by
    have h1 := nd_len hn (m := (dedup xs).map nkD) fun k hk => by
      obtain ⟨p, hp, rfl⟩ := List.mem_map.mp hk
      obtain ⟨v, d, h1, _, _, h4⟩ := ks_mem rv rd p (hs p hp)
      exact List.mem_map.mpr ⟨d, (dedup_mem' lf d).mpr h1, h4⟩
    simpa using h1
  unfold setOk at ok
  simp only [Bool.and_eq_true, Bool.or_eq_true, decide_eq_true_eq] at ok
  obtain ⟨hl, ok⟩ := ok
  rcases ok with ok | ⟨ok, hd⟩
  · refine ⟨kdA, kdA_ok, fun p hp => ?_, fun L hn hs => ?_⟩
    · obtain ⟨v, d, h1, h2, h3, h4⟩ := ks_mem rv rd p hp
      rw [← h4]
      exact key1_okA (List.all_eq_true.mp ok d h1) h3 h2
    · have h1 := key L hn hs
      have h2 : (dedup xs).length ≤ xs.length := nd_len (dedup_nodup' lf) fun d hd => (dedup_mem' lf d).mp hd
      have e : kdA.N = 4000 := rfl
      omega
  · refine ⟨kdB, kdB_ok, fun p hp => ?_, fun L hn hs => ?_⟩
    · obtain ⟨v, d, h1, h2, h3, h4⟩ := ks_mem rv rd p hp
      rw [← h4]
      exact keyT_okB I (List.all_eq_true.mp ok d h1) h3 h2
    · have h1 := key L hn hs
      have e : kdB.N = 77 := rfl
      omega
/-- set(xs) -/
theorem set_made (hc : X.calm = true) (hu : X.A.units + 64 < cLine) (I : Inv X pins σ H s) {a : Addr} {vs : List V} {xs : List D} (sq : SqL X.K H a vs ∨ SqT X.K H a vs) (rd : Rds X.K ρ F H vs xs) (ok : setOk xs = true) {E : Value → Shared → Prop} {Q : Value → Shared → Prop}
    (h : ∀ (κ : Kd) (its : List Value) (h' : Heap) (tk : Nat) L es ep t, KdOk X.prog X.w κ → Vals vs its → SetK X.w κ h' s.heap.objs.size L es ep t → GotK (ksOf its xs) (ksOf its xs).length L → (∀ b o, s.heap.get? b = some o → h'.get? b = some o) → Q (.ref s.heap.objs.size) { s with heap := h', toks := tk }) :
    wpAny (model X.prog X.w) X.A (call (.type "set") [.ref a]) Q E s := by
  rcases sq with sq | sq
  · obtain ⟨its, rv, hl, hz⟩ := I.list sq
    obtain ⟨κ, O, hk, hf⟩ := set_kind I rv rd ok
    exact call_set_list O (ksOf its xs) (I.ok.hd hc) hl.isList (by simpa using ksOf_fst (ks_len rv rd)) hk hf (by omega) fun h' tk L es ep t R g k => h κ its h' tk L es ep t O rv R g k
  · obtain ⟨its, rv, ⟨o, ho, hcl, n, hd⟩, hz⟩ := I.tuple sq
    obtain ⟨κ, O, hk, hf⟩ := set_kind I rv rd ok
    exact call_set_tuple O (ksOf its xs) (I.ok.hd hc) (show s.heap.IsTuple a its.toArray from ⟨o, ho, hcl, n, hd⟩) (by simpa using ksOf_fst (ks_len rv rd)) hk hf (by omega) fun h' tk L es ep t R g k => h κ its h' tk L es ep t O rv R g k
/-- what the set has is what the row has, each once -/
theorem got_perm {its : List Value} {vs : List V} {xs xs' : List D} {κ : Kd} {w : World} {h' : Heap} {a : Addr} {L : List (Value × NK)} {es : Array (Int × Value)} {ep : Nat} {t : SetTable} (rv : Vals vs its) (rd : Rds X.K ρ F H vs xs) (lf : ∀ z ∈ xs, leafOk z = true)
    (R : SetK w κ h' a L es ep t) (g : GotK (ksOf its xs) (ksOf its xs).length L) (e : (xs'.map nkD).Perm (L.map (·.2))) (hs : ∀ x ∈ xs', x ∈ xs) : xs'.Perm (dedup xs) := by
  have n1 : xs'.Nodup := nodup_of_map (e.nodup_iff.mpr R.nd)
  refine (List.perm_ext_iff_of_nodup n1 (dedup_nodup' lf)).mpr fun d => ?_
  rw [dedup_mem' lf]
  refine ⟨hs d, fun hd => ?_⟩
  have h1 : nkD d ∈ (ksOf its xs).map (·.2) := by rw [ksOf_snd (ks_len rv rd)]; exact List.mem_map_of_mem hd
  obtain ⟨p, hp, ep⟩ := List.mem_map.mp h1
  have h2 := g.all p (by rw [List.take_length]; exact hp)
  rw [ep] at h2
  obtain ⟨d', hd', e'⟩ := List.mem_map.mp (e.mem_iff.mpr h2)
  rw [← nkD_inj (lf d' (hs d' hd')) (lf d hd) e']
  exact hd'
end
end Ny

set_option maxHeartbeats 3200000
namespace Ny
open PySem L2 PySem.Spec PyProof.Rows
section
variable {X : Cx} {pins : List (Addr × Obj)} {σ : L2.St} {H : Hp} {s : Shared} {ρ : Rho} {F : Addr → Prop}
theorem rows_vals {w : World} {κ : Kd} {h : Heap} {a : Addr} {L : List (Value × NK)} {es : Array (Int × Value)} {ep : Nat} {t : SetTable} (R : SetK w κ h a L es ep t) : es.toList.map (·.2) = L.map fun p => p.1 := by
  rw [R.rows]
  unfold kRows
  rw [List.map_map]
  rfl
theorem set_size {P : Program} {w : World} {κ : Kd} (O : KdOk P w κ) {h : Heap} {a : Addr} {L : List (Value × NK)} {es : Array (Int × Value)} {ep : Nat} {t : SetTable} (R : SetK w κ h a L es ep t) : es.size = L.length ∧ L.length < 4000 := by
  have h1 := congrArg List.length R.rows
  unfold kRows at h1
  rw [Array.length_toList, List.length_map] at h1
  exact ⟨h1, Nat.lt_of_lt_of_le R.few O.few⟩
/-- sorted(set) -/
theorem sorted_K (hc : X.calm = true) (hu : X.A.units + 64 < cLine) (I : Inv X pins σ H s) {XA : Nat → Option Addr} {W : XK} {hs : Hs} {Q : VK} {vs : List V} {xs : List D} (w : Wd X.K ρ F H hs) (rd : Rds X.K ρ F H vs xs)
    {κ : Kd} {its : List Value} {h' : Heap} {tk : Nat} {a : Addr} {L : List (Value × NK)} {es : Array (Int × Value)} {ep : Nat} {t : SetTable} (O : KdOk X.prog X.w κ) (rv : Vals vs its) (R : SetK X.w κ h' a L es ep t) (g : GotK (ksOf its xs) (ksOf its xs).length L)
    (k : ∀ b o, s.heap.get? b = some o → h'.get? b = some o) (hsz : s.heap.objs.size ≤ h'.objs.size) (lf : ∀ z ∈ xs, leafOk z = true) (po : Po X.K XA W ρ F H (sortR (dedup xs) hs) (RdG X.K) Q) :
    wpAny (model X.prog X.w) X.A (call (.builtin "sorted") [.ref a]) (EP X pins σ Q) X.xe { s with heap := h', toks := tk } := by
  obtain ⟨hk, po⟩ := Po.need po
  have hk : sameSort (dedup xs) = true := hk
  obtain ⟨o, ho, hex, hd⟩ := R.ob
  obtain ⟨z1, z2⟩ := set_size O R
  refine Calls.call_function_entry PyProof.Rows.kind_sorted PyProof.Rows.plain_sorted PyProof.Rows.entry_sorted (PyProof.Rows.args_sorted1 _) ?_
  unfold Builtin.«sorted»
  refine wpAny_bind (m := checkCount "sorted" 1 1 _) (wpAny_pure ?_)
  refine wpAny_bind (collect_set (s := { s with heap := h', toks := tk }) (A := X.A.in1) (I.ok.hd hc) ⟨o, ho, hex.1, hd⟩ R.fit (by unfold scanBound; omega) R.ris R.led fun s2 outv k2 hz2 g2 o2 pm => ?_)
  rw [rows_vals R] at pm
  obtain ⟨L1, p1, e1⟩ := perm_unmap pm L rfl
  subst e1
  obtain ⟨vs', xs', rv', rd', e3, e4⟩ := ks_pick rv rd L1 fun p hp => List.mem_of_mem_take (g.sub p (p1.mem_iff.mp hp))
  have px : xs'.Perm (dedup xs) := got_perm rv rd lf R g (by rw [e3]; exact p1.map _) e4
  have hk' : sameSort xs' = true := sameSort_perm px hk
  have lfd : ∀ z ∈ dedup xs, leafOk z = true := fun z hz => lf z ((dedup_mem' lf z).mp hz)
  have es' : sortD xs' = sortD (dedup xs) := sortD_permEq lfd px
  have hlen0 : (L1.map fun p => p.1).length ≤ sizeLine := by rw [List.length_map, p1.length_eq, sizeLine_eq]; omega
  generalize hits : (L1.map fun p => p.1) = its' at rv' hlen0
  refine wpAny_bind (wpAny_newList ?_ hlen0)
  have hoL : (s2.heap.push (seqObj "list" its'.toArray 0)).get? s2.heap.objs.size = some (seqObj "list" its'.toArray 0) := Heap.get?_push_size _ rfl
  have hz2 : h'.objs.size ≤ s2.heap.objs.size := hz2
  have ks : ∀ b o, s.heap.get? b = some o → s2.heap.get? b = some o := fun b o e => k2 b o (k b o e)
  have kk : ∀ b o, s.heap.get? b = some o → b ≠ s2.heap.objs.size ∧ (s2.heap.push (seqObj "list" its'.toArray 0)).get? b = some o := fun b o e => ⟨Nat.ne_of_lt (Heap.lt_size (ks b o e)), Heap.get?_push_of_some _ (ks b o e)⟩
  refine wpAny_bind (wpAny_holding (wpAny_call_entry (s := { s2 with heap := s2.heap.push (seqObj "list" its'.toArray 0) }) PyProof.Rows.slot_list_sort ⟨_, hoL, rfl⟩ PyProof.Rows.entry_list_sort
    (SrtO.list_sort_ord (s := { s2 with heap := s2.heap.push (seqObj "list" its'.toArray 0) }) (swo_ltVv its' xs') hoL hlen0 (fun h2 => ?_) fun out h1 h2 => ⟨_, rfl, ?_⟩) (PyProof.Rows.args_list_sort _)))
  · have I2 : Inv X pins σ H s2 := I.call' (ch := []) o2 (Un.kept ks) (I.hok.kept ks) (by rw [show _ = s.gens from g2]; exact I.bare) fun _ z => nomatch z
    exact sortable I2 rv' rd' hk' h2 hu fun b o e => ⟨Nat.ne_of_lt (Heap.lt_size e), Heap.get?_push_of_some _ e⟩
  obtain ⟨v1, v2⟩ := sort_out I rv' rd' hk' h1 h2.perm
  rw [es'] at v2
  obtain ⟨e', he'⟩ := PyProof.Rows.sortedHeap_at (vs := its') (out := out.toArray) hoL
  have hlen : (out.map (decV its' vs')).length ≤ sizeLine := by
    rw [List.length_map, h2.perm.length_eq]
    exact hlen0
  have hle : s.heap.objs.size ≤ s2.heap.objs.size := Nat.le_trans hsz hz2
  have hf : H s2.heap.objs.size = none := I.hok.fresh hle
  have keep : ∀ b u, s.heap.get? b = some u → (sortedHeap (s2.heap.push (seqObj "list" its'.toArray 0)) s2.heap.objs.size its' out.toArray).get? b = some u := fun b u e => by
    have hb : b < s2.heap.objs.size := Heap.lt_size (ks b u e)
    rw [PyProof.Rows.sortedHeap_old (Nat.ne_of_lt hb) (by rw [size_push']; exact Nat.lt_succ_of_lt hb)]
    exact Heap.get?_push_of_some _ (ks b u e)
  refine wpAny_pure ⟨_, rfl, .ref s2.heap.objs.size, upd H s2.heap.objs.size (.lst (out.map (decV its' vs'))), ?_, rfl, po.newL w hf v2⟩
  exact I.call' (ch := []) o2 (Un.laid keep hle hf) (I.hok.laid keep hle ⟨hlen, out, e', v1, he'⟩) (by rw [show _ = s.gens from g2]; exact I.bare) fun _ z => nomatch z
/-- sorted(set(e)), len(set(e)) -/
theorem set_ok {XA : Nat → Option Addr} (hc : X.calm = true) (hu : X.A.units + 64 < cLine) : SetOk X XA := by
  intro W e ma p1 p2 p3 p4 hgs hms hns he
  have na : starEach [e] X.env = (false, eval e X.env) :: starEach [] X.env := by
    cases e <;> first | rfl | (simp [notStar] at hns)
  constructor
  · intro hg hm
    refine ⟨fun pins s σ H Q I h => ?_⟩
    obtain ⟨ρ, F, hh, E, w, r, po⟩ := h
    refine Call_ (ld_blt I hg hm PyProof.Rows.boot_sorted ?_)
    refine PyProof.Rows.callWith_builtin1 (PyProof.Rows.args_cons ?_ rfl) rfl rfl
    refine Call_ (ld_blt I hgs hms PyProof.Rows.boot_set ?_)
    refine PyProof.Rows.callWith_type1 (PyProof.Rows.args_cons (thn (he.run pins s σ H _ I (st1 w r po)) fun v s1 ⟨x, H1, I1, r1, q1⟩ => PyProof.Rows.args_nil ?_) na) na rfl
    obtain ⟨ρ1, F1, h1, d, _, eF, w1, r1', rx, po1⟩ := q1
    have po1 : Po X.K XA _ ρ1 F1 H1 (R.bind (seqR d) (fun xs => R.need (setOk xs) (sortR (dedup xs))) h1) (RdG X.K) Q := po1
    obtain ⟨a, vs, xs, rfl, sq, rd, po2⟩ := seq_of w1 rx po1
    cases r1
    obtain ⟨ok, po2⟩ := Po.need po2
    refine set_made hc hu I1 (sq.imp id fun z => z.1) rd ok fun κ its h' tk L es ep t O rv R g k => ?_
    refine PyProof.Rows.args_nil ?_
    exact sorted_K hc hu I1 w1 rd O rv R g k (by
      have ⟨o, ho, _⟩ := R.ob
      exact Nat.le_of_lt (Heap.lt_size ho)) (setOk_leaf ok) po2
  · intro hg hm
    refine ⟨fun pins s σ H Q I h => ?_⟩
    obtain ⟨ρ, F, hh, E, w, r, po⟩ := h
    refine Call_ (ld_blt I hg hm PySem.boot_len ?_)
    refine PyProof.Rows.callWith_builtin1 (PyProof.Rows.args_cons ?_ rfl) rfl rfl
    refine Call_ (ld_blt I hgs hms PyProof.Rows.boot_set ?_)
    refine PyProof.Rows.callWith_type1 (PyProof.Rows.args_cons (thn (he.run pins s σ H _ I (st1 w r po)) fun v s1 ⟨x, H1, I1, r1, q1⟩ => PyProof.Rows.args_nil ?_) na) na rfl
    obtain ⟨ρ1, F1, h1, d, _, eF, w1, r1', rx, po1⟩ := q1
    have po1 : Po X.K XA _ ρ1 F1 H1 (R.bind (seqR d) (fun xs => R.need (setOk xs) (R.pure (.int (dedup xs).length))) h1) (RdG X.K) Q := po1
    obtain ⟨a, vs, xs, rfl, sq, rd, po2⟩ := seq_of w1 rx po1
    cases r1
    obtain ⟨ok, po2⟩ := Po.need po2
    refine set_made hc hu I1 (sq.imp id fun z => z.1) rd ok fun κ its h' tk L es ep t O rv R g k => ?_
    refine PyProof.Rows.args_nil ?_
    obtain ⟨o, ho, hex, hd⟩ := R.ob
    obtain ⟨z1, z2⟩ := set_size O R
    have I2 : Inv X pins σ H1 { s1 with heap := h', toks := tk } := I1.kept k
    have el : L.length = (dedup xs).length := by
      obtain ⟨vs', xs', rv', rd', e3, e4⟩ := ks_pick rv rd L fun p hp => List.mem_of_mem_take (g.sub p hp)
      have px := got_perm rv rd (setOk_leaf ok) R g (xs' := xs') (by rw [e3]) e4
      rw [← px.length_eq]
      have := congrArg List.length e3
      rw [List.length_map, List.length_map] at this
      exact this.symm
    refine call_len_set ho hex hd R.fit (by omega) ⟨.int (dedup xs).length, H1, I2.tok _, ⟨_, by rw [z1, el]⟩, po2.int w1⟩
end
end Ny

set_option maxHeartbeats 200000
/-! Pl: rules to reckon with the evaluator, in plain Lean. -/
namespace Ny
open PySem

/-! ### R -/
@[simp] theorem R.bind_ite {α β : Type} (c : Prop) [Decidable c] (m n : R α) (f : α → R β) : R.bind (if c then m else n) f = if c then R.bind m f else R.bind n f := by split <;> rfl
@[simp] theorem R.ofOpt_none' {α : Type} : (R.ofOpt none : R α) = R.bad := (rfl)
@[simp] theorem R.bad_bind {α β : Type} (f : α → R β) : R.bind (R.bad : R α) f = R.bad := (rfl)
@[simp] theorem R.nox_ite {α : Type} (c : Prop) [Decidable c] (m n : R α) : R.nox (if c then m else n) = if c then R.nox m else R.nox n := by split <;> rfl
theorem R.need_of {α : Type} {c : Bool} (h : c = true) (m : R α) : R.need c m = m := by rw [h]; rfl
@[simp] theorem R.ite_pure {α : Type} (c : Prop) [Decidable c] (a b : α) : (if c then R.pure a else R.pure b) = R.pure (if c then a else b) := by split <;> rfl
@[simp] theorem iteR_bl {α : Type} (b : Bool) (m n : R α) : iteR (.bl b) m n = if b = true then m else n := by cases b <;> rfl
@[simp] theorem notD_bl (b : Bool) : notD (.bl b) = R.pure (.bl (!b)) := (rfl)
@[simp] theorem tstR_false (m : R D) : tstR false m = m := (rfl)
@[simp] theorem tstR_true (m : R D) : tstR true m = R.bind m fun d => R.bind (truthR d) fun b => R.pure (.bl b) := (rfl)

/-! ### truth -/
@[simp] theorem truthR_non : truthR .non = R.pure false := (rfl)
@[simp] theorem truthR_bl (b : Bool) : truthR (.bl b) = R.pure b := (rfl)
@[simp] theorem truthR_int (i : Int) : truthR (.int i) = R.pure (i != 0) := (rfl)
@[simp] theorem truthR_tup (xs : List D) : truthR (.tup xs) = R.pure (!xs.isEmpty) := (rfl)
@[simp] theorem truthR_lst (xs : List D) : truthR (.lst xs) = R.pure (!xs.isEmpty) := (rfl)

/-! ### what is no object -/
def D.isObj : D → Bool
  | .obj _ => true
  | _ => false
@[simp] def isTyD : D → Ty → Bool
  | .bl _, .bool => true
  | .bl _, .int => true
  | .int _, .int => true
  | .str _, .str => true
  | .tup _, .tuple => true
  | .lst _, .list => true
  | .ro _, .list => true
  | .dct _ _, .dict => true
  | _, _ => false
theorem isTy_eq {d : D} (h : d.isObj = false) (hs : Hs) (t : Ty) : isTy hs d t = isTyD d t := by
  cases d <;> first | (cases h; done) | (cases t <;> rfl)
theorem isiR_eq {d : D} (h : d.isObj = false) (ts : List Ty) : isiR d ts = R.pure (.bl (ts.any (isTyD d))) := by
  funext hs
  unfold isiR R.pure
  simp only [isTy_eq h]
@[simp] theorem isiR_non (ts : List Ty) : isiR .non ts = R.pure (.bl (ts.any (isTyD .non))) := isiR_eq rfl ts
@[simp] theorem isiR_bl (b : Bool) (ts : List Ty) : isiR (.bl b) ts = R.pure (.bl (ts.any (isTyD (.bl b)))) := isiR_eq rfl ts
@[simp] theorem isiR_int (b : Int) (ts : List Ty) : isiR (.int b) ts = R.pure (.bl (ts.any (isTyD (.int b)))) := isiR_eq rfl ts
@[simp] theorem isiR_str (b : Str) (ts : List Ty) : isiR (.str b) ts = R.pure (.bl (ts.any (isTyD (.str b)))) := isiR_eq rfl ts
@[simp] theorem isiR_tup (b : List D) (ts : List Ty) : isiR (.tup b) ts = R.pure (.bl (ts.any (isTyD (.tup b)))) := isiR_eq rfl ts
@[simp] theorem isiR_lst (b : List D) (ts : List Ty) : isiR (.lst b) ts = R.pure (.bl (ts.any (isTyD (.lst b)))) := isiR_eq rfl ts
@[simp] theorem isiR_ro (b : List D) (ts : List Ty) : isiR (.ro b) ts = R.pure (.bl (ts.any (isTyD (.ro b)))) := isiR_eq rfl ts
@[simp] theorem isiR_dct (k : Bool) (b : List (D × D)) (ts : List Ty) : isiR (.dct k b) ts = R.pure (.bl (ts.any (isTyD (.dct k b)))) := isiR_eq rfl ts
theorem isiR_plain {d : D} (h : d.plain = true) (ts : List Ty) : isiR d ts = R.pure (.bl (ts.any (isTyD d))) := isiR_eq (by cases d <;> first | rfl | (simp [D.plain] at h)) ts

/-! ### the frame -/
@[simp] theorem getv_zero_val (d : D) (σ : Env) : getv (.val d :: σ) 0 = some d := (rfl)
@[simp] theorem getc_zero_val (d : D) (σ : Env) : getc (.val d :: σ) 0 = some d := (rfl)
@[simp] theorem getc_zero_own (d : D) (σ : Env) : getc (.own d :: σ) 0 = some d := (rfl)
@[simp] theorem getv_succ (s : Slot) (σ : Env) (i : Nat) : getv (s :: σ) (i + 1) = getv σ i := (rfl)
@[simp] theorem getc_succ (s : Slot) (σ : Env) (i : Nat) : getc (s :: σ) (i + 1) = getc σ i := (rfl)
@[simp] theorem bindT_nm (i : Nat) (d : D) (σ : Env) : bindT (.nm i) d σ = some (σ.set i (.val d)) := (rfl)
@[simp] theorem bindT_tp (ts : NTs) (xs : List D) (σ : Env) : bindT (.tp ts) (.tup xs) σ = bindTs ts xs σ := (rfl)
@[simp] theorem bindTs_nil (σ : Env) : bindTs .nil [] σ = some σ := (rfl)
@[simp] theorem bindTs_cons (t : NT) (ts : NTs) (x : D) (xs : List D) (σ : Env) : bindTs (.cons t ts) (x :: xs) σ = (bindT t x σ).bind (bindTs ts xs) := by
  show (match bindT t x σ with
    | some σ' => bindTs ts xs σ'
    | none => none) = _
  cases bindT t x σ <;> rfl
@[simp] theorem wipeE_nil (σ : Env) : wipeE σ [] = σ := (rfl)
@[simp] theorem wipeE_cons (σ : Env) (i : Nat) (r : List Nat) : wipeE σ (i :: r) = (wipeE σ r).set i .no := (rfl)
@[simp] theorem bindR_eq {α : Type} (t : NT) (d : D) (σ : Env) (k : Env → R α) : bindR t d σ k = R.bind (R.ofOpt (bindT t d σ)) k := by
  unfold bindR
  cases bindT t d σ <;> rfl
@[simp] theorem freeze_nil (σ : Env) : freeze σ [] = σ := (rfl)

/-! ### expressions -/
section
variable (T : Tab) (C : Call) (σ : Env)
@[simp] theorem contOr_var (i : Nat) (m : R D) : contOr (.var i) σ m = R.ofOpt (getc σ i) := (rfl)
@[simp] theorem contOr_cst (d : D) (m : R D) : contOr (.cst d) σ m = m := (rfl)
@[simp] theorem contOr_tup (es : NEs) (m : R D) : contOr (.tup es) σ m = m := (rfl)
@[simp] theorem contOr_lst (es : NEs) (m : R D) : contOr (.lst es) σ m = m := (rfl)
@[simp] theorem contOr_call (f : Nat) (es : NEs) (m : R D) : contOr (.call f es) σ m = m := (rfl)
@[simp] theorem contOr_blt (f : Blt) (es : NEs) (m : R D) : contOr (.blt f es) σ m = m := (rfl)
@[simp] theorem contOr_isi (a : NE) (ts : List Ty) (m : R D) : contOr (.isi a ts) σ m = m := (rfl)
@[simp] theorem contOr_bin (op : Operator) (a b : NE) (m : R D) : contOr (.bin op a b) σ m = m := (rfl)
@[simp] theorem contOr_un (op : UnaryOp) (a : NE) (m : R D) : contOr (.un op a) σ m = m := (rfl)
@[simp] theorem contOr_cmp (op : CmpOp) (a b : NE) (m : R D) : contOr (.cmp op a b) σ m = m := (rfl)
@[simp] theorem contOr_cmp2 (op op' : CmpOp) (a b c : NE) (m : R D) : contOr (.cmp2 op op' a b c) σ m = m := (rfl)
@[simp] theorem contOr_and (a b : NE) (m : R D) : contOr (.and a b) σ m = m := (rfl)
@[simp] theorem contOr_or (a b : NE) (m : R D) : contOr (.or a b) σ m = m := (rfl)
@[simp] theorem contOr_not (a : NE) (m : R D) : contOr (.not a) σ m = m := (rfl)
@[simp] theorem contOr_ite (a b c : NE) (m : R D) : contOr (.ite a b c) σ m = m := (rfl)
@[simp] theorem contOr_ix (a b : NE) (m : R D) : contOr (.ix a b) σ m = m := (rfl)
@[simp] theorem contOr_sl (a b c : NE) (m : R D) : contOr (.sl a b c) σ m = m := (rfl)
@[simp] theorem contOr_rev (a : NE) (m : R D) : contOr (.rev a) σ m = m := (rfl)
@[simp] theorem contOr_lc (own : List Nat) (t : NT) (it : NI) (c e : NE) (m : R D) : contOr (.lc own t it c e) σ m = m := (rfl)
@[simp] theorem contIf_true (a : NE) (m : R D) : contIf true a σ m = contOr a σ m := (rfl)
@[simp] theorem contIf_false (a : NE) (m : R D) : contIf false a σ m = m := (rfl)

@[simp] theorem ev_cst (d : D) (t : Bool) : ev T C (.cst d) σ t = tstR t (R.pure d) := (rfl)
@[simp] theorem ev_var_f (i : Nat) : ev T C (.var i) σ false = R.ofOpt (getv σ i) := (rfl)
@[simp] theorem ev_var_t (i : Nat) : ev T C (.var i) σ true = R.bind (R.ofOpt (getc σ i)) fun d => R.bind (truthR d) fun b => R.pure (.bl b) := (rfl)
@[simp] theorem ev_tup (es : NEs) (t : Bool) : ev T C (.tup es) σ t = tstR t (R.bind (evs T C es σ) mkTup) := (rfl)
@[simp] theorem ev_lst (es : NEs) (t : Bool) : ev T C (.lst es) σ t = tstR t (R.bind (evs T C es σ) mkLst) := (rfl)
@[simp] theorem ev_hlst (es : NEs) (t : Bool) : ev T C (.hlst es) σ t = tstR t (R.bind (evs T C es σ) fun xs => R.need (big xs.length) (allocR (.lst xs))) := (rfl)
@[simp] theorem ev_dct0 (tk t : Bool) : ev T C (.dct0 tk) σ t = tstR t (R.pure (.dct tk [])) := (rfl)
@[simp] theorem ev_call (f : Nat) (es : NEs) (t : Bool) : ev T C (.call f es) σ t = tstR t (R.bind (evs T C es σ) (C f)) := (rfl)
@[simp] theorem ev_blt (b : Blt) (es : NEs) (t : Bool) : ev T C (.blt b es) σ t = tstR t (R.bind (evcs T C es σ) (bltR b)) := (rfl)
@[simp] theorem ev_isi (e : NE) (ts : List Ty) (t : Bool) : ev T C (.isi e ts) σ t = tstR t (R.bind (contOr e σ (ev T C e σ false)) fun d => isiR d ts) := (rfl)
@[simp] theorem ev_bin (op : Operator) (a b : NE) (t : Bool) : ev T C (.bin op a b) σ t = tstR t (R.bind (contOr a σ (ev T C a σ false)) fun x => R.bind (contOr b σ (ev T C b σ false)) fun y => opR op x y) := (rfl)
@[simp] theorem ev_un (op : UnaryOp) (a : NE) (t : Bool) : ev T C (.un op a) σ t = tstR t (R.bind (ev T C a σ false) (unR op)) := (rfl)
@[simp] theorem ev_cmp (op : CmpOp) (a b : NE) (t : Bool) : ev T C (.cmp op a b) σ t = tstR t (R.bind (contOr a σ (ev T C a σ false)) fun x => R.bind (contOr b σ (ev T C b σ false)) fun y => R.bind (cmpR op x y) fun c => R.pure (.bl c)) := (rfl)
@[simp] theorem ev_cmp2 (op op' : CmpOp) (a b c : NE) (t : Bool) : ev T C (.cmp2 op op' a b c) σ t = tstR t (R.bind (contOr a σ (ev T C a σ false)) fun x => R.bind (contOr b σ (ev T C b σ false)) fun y => R.bind (cmpR op x y) fun k =>
    if k = true then R.bind (contOr c σ (ev T C c σ false)) fun z => R.bind (cmpR op' y z) fun q => R.pure (.bl q) else R.pure (.bl false)) := by
  show tstR t _ = _
  congr 2
  funext x
  congr 1
  funext y
  congr 1
  funext k
  cases k <;> rfl
@[simp] theorem ev_and_t (a b : NE) : ev T C (.and a b) σ true = R.bind (ev T C a σ true) fun d => iteR d (ev T C b σ true) (R.pure (.bl false)) := (rfl)
@[simp] theorem ev_and_f (a b : NE) : ev T C (.and a b) σ false = R.bind (ev T C a σ false) fun d => R.bind (truthR d) fun c => if c = true then ev T C b σ false else R.pure d := by
  show R.bind _ _ = _
  congr 1
  funext d
  congr 1
  funext c
  cases c <;> rfl
@[simp] theorem ev_or_t (a b : NE) : ev T C (.or a b) σ true = R.bind (ev T C a σ true) fun d => iteR d (R.pure (.bl true)) (ev T C b σ true) := (rfl)
@[simp] theorem ev_or_f (a b : NE) : ev T C (.or a b) σ false = R.bind (ev T C a σ false) fun d => R.bind (truthR d) fun c => if c = true then R.pure d else ev T C b σ false := by
  show R.bind _ _ = _
  congr 1
  funext d
  congr 1
  funext c
  cases c <;> rfl
@[simp] theorem ev_not_t (a : NE) : ev T C (.not a) σ true = R.bind (ev T C a σ true) notD := (rfl)
@[simp] theorem ev_not_f (a : NE) : ev T C (.not a) σ false = R.bind (contOr a σ (ev T C a σ false)) fun d => R.bind (truthR d) fun c => R.pure (.bl (!c)) := (rfl)
@[simp] theorem ev_ite (c a b : NE) (t : Bool) : ev T C (.ite c a b) σ t = R.bind (ev T C c σ true) fun d => iteR d (ev T C a σ t) (ev T C b σ t) := (rfl)
@[simp] theorem ev_ix (a i : NE) (t : Bool) : ev T C (.ix a i) σ t = tstR t (R.bind (contOr a σ (ev T C a σ false)) fun o => R.bind (ev T C i σ false) fun k => ixR o k) := (rfl)
@[simp] theorem ev_sl (a lo hi : NE) (t : Bool) : ev T C (.sl a lo hi) σ t = tstR t (R.bind (contOr a σ (ev T C a σ false)) fun o => R.bind (R.bind (ev T C lo σ false) fun l => R.ofOpt (bndR lo l)) fun l => R.bind (R.bind (ev T C hi σ false) fun u => R.ofOpt (bndR hi u)) fun u => slR o l u) := (rfl)
@[simp] theorem ev_rev (a : NE) (t : Bool) : ev T C (.rev a) σ t = tstR t (R.bind (contOr a σ (ev T C a σ false)) revR) := (rfl)
@[simp] theorem ev_lc (own : List Nat) (tg : NT) (it : NI) (cond elt : NE) (t : Bool) : ev T C (.lc own tg it cond elt) σ t = tstR t (R.bind (evi T C it σ true) fun xs => R.bind (lcR (fun x => bindR tg x (wipeE σ own) fun σ' => R.bind (ev T C cond σ' true) fun d => iteR d (R.bind (ev T C elt σ' false) fun y => R.pure (some y)) (R.pure none)) xs) mkLst) := (rfl)
@[simp] theorem evs_nil : evs T C .nil σ = R.pure [] := (rfl)
@[simp] theorem evs_cons (e : NE) (es : NEs) : evs T C (.cons e es) σ = R.bind (ev T C e σ false) fun x => R.bind (evs T C es σ) fun xs => R.pure (x :: xs) := (rfl)
@[simp] theorem evcs_nil : evcs T C .nil σ = R.pure [] := (rfl)
@[simp] theorem evcs_cons (e : NE) (es : NEs) : evcs T C (.cons e es) σ = R.bind (contOr e σ (ev T C e σ false)) fun x => R.bind (evcs T C es σ) fun xs => R.pure (x :: xs) := (rfl)
@[simp] theorem evi_seq (e : NE) (c : Bool) : evi T C (.seq e) σ c = R.bind (contIf c e σ (ev T C e σ false)) itemsVR := (rfl)
@[simp] theorem evi_rng1 (a : NE) (c : Bool) : evi T C (.rng1 a) σ c = R.bind (ev T C a σ false) fun x => rngR (.int 0) x := (rfl)
@[simp] theorem evi_rng2 (a b : NE) (c : Bool) : evi T C (.rng2 a b) σ c = R.bind (ev T C a σ false) fun x => R.bind (ev T C b σ false) fun y => rngR x y := (rfl)
@[simp] theorem evi_enum (e : NE) (c : Bool) : evi T C (.enum e) σ c = R.bind (contIf c e σ (ev T C e σ false)) fun d => R.bind (R.ofOpt (seqV d)) fun xs => R.pure (enumD 0 xs) := (rfl)
@[simp] theorem evi_zip (a b : NE) (c : Bool) : evi T C (.zip a b) σ c = R.bind (contIf c a σ (ev T C a σ false)) fun x => R.bind (contIf c b σ (ev T C b σ false)) fun y => R.ofOpt (zipV x y) := (rfl)
end

/-! ### items -/
@[simp] theorem itemsVR_tup (xs : List D) : itemsVR (.tup xs) = R.pure xs := (rfl)
@[simp] theorem itemsVR_lst (xs : List D) : itemsVR (.lst xs) = R.pure xs := (rfl)
@[simp] theorem itemsVR_ro (xs : List D) : itemsVR (.ro xs) = R.pure xs := (rfl)
/-- a small number of items: what all the bounds of the model allow -/
def few (n : Nat) : Prop := n ≤ 1000000
theorem big_few {n : Nat} (h : few n) : big n = true := by
  unfold few at h
  unfold big
  exact Nat.ble_eq.mpr (Nat.le_trans h (by decide))
@[simp] theorem mkTup_few {xs : List D} (h : few xs.length) : mkTup xs = R.pure (.tup xs) := R.need_of (big_few h) _
@[simp] theorem mkLst_few {xs : List D} (h : few xs.length) : mkLst xs = R.pure (.lst xs) := R.need_of (big_few h) _
@[simp] theorem itemsVR_str {x : Str} (h : few x.length) : itemsVR (.str x) = R.pure (x.cps.toList.map fun c => .str ⟨#[c]⟩) := by
  have := big_few h
  unfold big at this
  show R.ofOpt (if x.length.ble sizeLine = true then some _ else none) = _
  rw [if_pos this]
  rfl

/-! ### comprehensions, over lists of anything -/
def lcG {α : Type} (f : α → R (Option D)) : List α → R (List D)
  | [] => R.pure []
  | x :: xs => R.bind (R.nox (f x)) fun o => R.bind (lcG f xs) fun r => R.pure (match o with
    | some d => d :: r
    | none => r)
@[simp] theorem lcR_lcG (f : D → R (Option D)) : ∀ xs, lcR f xs = lcG f xs
  | [] => rfl
  | x :: xs => by
    show R.bind _ _ = R.bind _ _
    rw [lcR_lcG f xs]
    try congr 1
@[simp] theorem lcG_map {α β : Type} (e : β → α) (f : α → R (Option D)) : ∀ xs, lcG f (xs.map e) = lcG (fun x => f (e x)) xs
  | [] => rfl
  | x :: xs => by
    show R.bind _ _ = R.bind _ _
    rw [← lcG_map e f xs]
theorem lcG_congr {α : Type} {f g : α → R (Option D)} : ∀ {xs : List α}, (∀ x ∈ xs, f x = g x) → lcG f xs = lcG g xs
  | [], _ => rfl
  | x :: xs, h => by
    show R.bind _ _ = R.bind _ _
    rw [h x List.mem_cons_self, lcG_congr fun y hy => h y (List.mem_cons_of_mem _ hy)]
theorem lcG_pure {α : Type} (g : α → Option D) : ∀ xs : List α, lcG (fun x => R.pure (g x)) xs = R.pure (xs.filterMap g)
  | [] => rfl
  | x :: xs => by
    show R.bind _ _ = _
    rw [lcG_pure g xs]
    simp only [R.nox_pure, R.pure_bind]
    cases e : g x with
    | none => rw [List.filterMap_cons_none e]
    | some d => rw [List.filterMap_cons_some e]
theorem lcG_of {α : Type} {f : α → R (Option D)} (g : α → Option D) {xs : List α} (h : ∀ x ∈ xs, f x = R.pure (g x)) : lcG f xs = R.pure (xs.filterMap g) := (lcG_congr h).trans (lcG_pure g xs)
theorem filterMap_some {α β : Type} (f : α → β) : ∀ xs : List α, xs.filterMap (fun x => some (f x)) = xs.map f
  | [] => rfl
  | x :: xs => by
    rw [List.filterMap_cons_some (f := fun x => some (f x)) (b := f x) rfl, filterMap_some f xs]
    rfl
theorem filterMap_if {α β : Type} (c : α → Bool) (f : α → β) : ∀ xs : List α, xs.filterMap (fun x => if c x = true then some (f x) else none) = (xs.filter c).map f
  | [] => rfl
  | x :: xs => by
    cases h : c x
    · rw [List.filterMap_cons_none (by simp [h]), filterMap_if c f xs, List.filter_cons_of_neg (by simp [h])]
    · rw [List.filterMap_cons_some (b := f x) (by simp [h]), filterMap_if c f xs, List.filter_cons_of_pos h]; rfl

/-! ### statements -/
namespace S
def exc (e : Ex) (σ : Env) : S := fun h => .exc e σ h
/-- the end of a def -/
def fin (m : S) : R D := fun h => match m h with
  | .fl (.rt d) _ h' => .ok d h'
  | .fl .nx _ h' => .ok .non h'
  | .exc e _ h' => .exc e h'
  | _ => .bad
variable {α : Type}
@[simp] theorem ev_pure (a : α) (σ : Env) (k : α → S) : S.ev (R.pure a) σ k = k a := (rfl)
@[simp] theorem ev_raise (e : Ex) (σ : Env) (k : α → S) : S.ev (R.raise e) σ k = exc e σ := (rfl)
@[simp] theorem ev_ite' (c : Prop) [Decidable c] (m n : R α) (σ : Env) (k : α → S) : S.ev (if c then m else n) σ k = if c then S.ev m σ k else S.ev n σ k := by split <;> rfl
@[simp] theorem ev_bind {β : Type} (m : R β) (f : β → R α) (σ : Env) (k : α → S) : S.ev (R.bind m f) σ k = S.ev m σ fun b => S.ev (f b) σ k := by
  funext h
  unfold S.ev R.bind
  cases m h <;> rfl
@[simp] theorem ite_bl (b : Bool) (x y : S) : S.ite (.bl b) x y = if b = true then x else y := by cases b <;> rfl
@[simp] theorem ofOpt_some (σ : Env) (k : Env → S) : S.ofOpt (some σ) k = k σ := (rfl)
@[simp] theorem andThen_nx (σ : Env) (k : Env → S) : S.andThen (done .nx σ) k = k σ := (rfl)
@[simp] theorem andThen_rt (d : D) (σ : Env) (k : Env → S) : S.andThen (done (.rt d) σ) k = done (.rt d) σ := (rfl)
@[simp] theorem andThen_bk (σ : Env) (k : Env → S) : S.andThen (done .bk σ) k = done .bk σ := (rfl)
@[simp] theorem andThen_ct (σ : Env) (k : Env → S) : S.andThen (done .ct σ) k = done .ct σ := (rfl)
@[simp] theorem andThen_exc (e : Ex) (σ : Env) (k : Env → S) : S.andThen (exc e σ) k = exc e σ := (rfl)
@[simp] theorem andThen_ite (c : Prop) [Decidable c] (m n : S) (k : Env → S) : S.andThen (if c then m else n) k = if c then S.andThen m k else S.andThen n k := by split <;> rfl
@[simp] theorem andThen_ev (m : R α) (σ : Env) (f : α → S) (k : Env → S) : S.andThen (S.ev m σ f) k = S.ev m σ fun a => S.andThen (f a) k := by
  funext h
  unfold S.andThen S.ev
  cases m h <;> rfl
@[simp] theorem fin_rt (d : D) (σ : Env) : fin (done (.rt d) σ) = R.pure d := (rfl)
@[simp] theorem fin_nx (σ : Env) : fin (done .nx σ) = R.pure .non := (rfl)
@[simp] theorem fin_exc (e : Ex) (σ : Env) : fin (exc e σ) = R.raise e := (rfl)
@[simp] theorem fin_ite (c : Prop) [Decidable c] (m n : S) : fin (if c then m else n) = if c then fin m else fin n := by split <;> rfl
@[simp] theorem fin_ev (m : R α) (σ : Env) (f : α → S) : fin (S.ev m σ f) = R.bind m fun a => fin (f a) := by
  funext h
  unfold fin S.ev R.bind
  cases m h <;> rfl
@[simp] theorem turn_nx (σ : Env) (k : Env → S) : S.turn (done .nx σ) k = k σ := (rfl)
@[simp] theorem turn_ct (σ : Env) (k : Env → S) : S.turn (done .ct σ) k = k σ := (rfl)
@[simp] theorem turn_bk (σ : Env) (k : Env → S) : S.turn (done .bk σ) k = done .nx σ := (rfl)
@[simp] theorem turn_rt (d : D) (σ : Env) (k : Env → S) : S.turn (done (.rt d) σ) k = done (.rt d) σ := (rfl)
@[simp] theorem turn_exc (e : Ex) (σ : Env) (k : Env → S) : S.turn (exc e σ) k = exc e σ := (rfl)
@[simp] theorem turn_ite (c : Prop) [Decidable c] (m n : S) (k : Env → S) : S.turn (if c then m else n) k = if c then S.turn m k else S.turn n k := by split <;> rfl
@[simp] theorem forS_nil (b : D → Env → S) (σ : Env) : S.forS b [] σ = done .nx σ := (rfl)
theorem forS_cons (b : D → Env → S) (x : D) (xs : List D) (σ : Env) : S.forS b (x :: xs) σ = S.turn (b x σ) (S.forS b xs) := rfl
end S
section
variable (T : Tab) (X : XTab) (C : Call) (σ : Env)
@[simp] theorem runs_nil : runs T X C .nil σ = S.done .nx σ := (rfl)
@[simp] theorem runs_cons (s : NS) (ss : NSs) : runs T X C (.cons s ss) σ = S.andThen (run T X C s σ) fun σ' => runs T X C ss σ' := (rfl)
@[simp] theorem run_pass : run T X C .pass σ = S.done .nx σ := (rfl)
@[simp] theorem run_brk : run T X C .brk σ = S.done .bk σ := (rfl)
@[simp] theorem run_cont : run T X C .cont σ = S.done .ct σ := (rfl)
@[simp] theorem run_retN : run T X C .retN σ = S.done (.rt .non) σ := (rfl)
@[simp] theorem run_ret (fr : List Nat) (e : NE) : run T X C (.ret fr e) σ = S.ev (ev T C e (freeze σ fr) false) (freeze σ fr) fun d => S.done (.rt d) (freeze σ fr) := (rfl)
@[simp] theorem run_asg (fr : List Nat) (t : NT) (e : NE) : run T X C (.asg fr t e) σ = S.ev (ev T C e (freeze σ fr) false) (freeze σ fr) fun d => S.ofOpt (bindT t d (freeze σ fr)) (S.done .nx) := (rfl)
@[simp] theorem run_own (fr : List Nat) (i : Nat) (e : NE) : run T X C (.own fr i e) σ = S.ev (ev T C e (freeze σ fr) false) (freeze σ fr) (ownK i (freeze σ fr)) := (rfl)
@[simp] theorem run_par (fr : List Nat) (i j : Nat) (a b : NE) : run T X C (.par fr i j a b) σ = S.ev (ev T C a (freeze σ fr) false) (freeze σ fr) fun x => S.ev (ev T C b (freeze σ fr) false) (freeze σ fr) fun y => S.done .nx (((freeze σ fr).set i (.val x)).set j (.val y)) := (rfl)
@[simp] theorem run_aug (i : Nat) (op : Operator) (e : NE) : run T X C (.aug i op e) σ = S.ev (R.bind (R.ofOpt (getv σ i)) fun x => R.bind (ev T C e σ false) fun y => iopR op x y) σ fun d => S.done .nx (σ.set i (.val d)) := (rfl)
@[simp] theorem run_setI (i : Nat) (k e : NE) : run T X C (.setI i k e) σ = S.chk (fun _ => hasAt σ i) (S.ev (ev T C e σ false) σ fun v => S.ev (ev T C k σ false) σ fun q => turnS σ i (putMO true q v)) := (rfl)
@[simp] theorem run_app (fr : List Nat) (i : Nat) (e : NE) : run T X C (.app fr i e) σ = S.chk (lstAt (freeze σ fr) i) (S.ev (ev T C e (freeze σ fr) false) (freeze σ fr) fun v => turnS (freeze σ fr) i (appMO v)) := (rfl)
@[simp] theorem run_ife (c : NE) (a b : NSs) : run T X C (.ife c a b) σ = S.ev (ev T C c σ true) σ fun d => S.ite d (runs T X C a σ) (runs T X C b σ) := (rfl)
@[simp] theorem run_for (fr : List Nat) (t : NT) (it : NI) (body : NSs) : run T X C (.for_ fr t it body) σ = S.ev (evi T C it (freeze σ fr) false) (freeze σ fr) fun xs => S.forS (fun x σ1 => S.ofOpt (bindT t x σ1) fun σ2 => runs T X C body σ2) xs (freeze σ fr) := (rfl)
@[simp] theorem run_whl (n : Nat) (c : NE) (body : NSs) : run T X C (.whl n c body) σ = S.whileS (fun σ1 => ev T C c σ1 true) (fun σ1 => runs T X C body σ1) n σ := (rfl)
@[simp] theorem run_expr (e : NE) : run T X C (.expr e) σ = S.ev (ev T C e σ false) σ fun _ => S.done .nx σ := (rfl)
@[simp] theorem run_raise (c : Nat) (es : NEs) : run T X C (.raise c es) σ = S.ev (evs T C es σ) σ fun vs => match X.made c vs with
    | some e => S.exc e σ
    | none => S.bad := rfl
theorem callN_at {fns : List Fn} {k f : Nat} {vs : List D} (fn : Fn) (h : fns[f]? = some fn) (hl : vs.length = fn.np) : callN T X fns (k + 1) f vs = S.fin (runs T X (callN T X fns k) fn.body (startE fn.n vs)) := by
  show (match fns[f]? with
    | some fn => R.need (vs.length == fn.np) (callF T X (callN T X fns k) fn vs)
    | none => R.bad) = _
  rw [h]
  show R.need (vs.length == fn.np) _ = _
  rw [R.need_of (by simp [hl])]
  rfl
end

/-! ### reading -/
@[simp] theorem evOpt_some {α β : Type} (a : α) (f : α → R β) : R.bind (R.ofOpt (some a)) f = f a := (rfl)
@[simp] theorem ixR_tup (xs : List D) (i : Int) : ixR (.tup xs) (.int i) = atD xs i := (rfl)
@[simp] theorem ixR_lst (xs : List D) (i : Int) : ixR (.lst xs) (.int i) = atD xs i := (rfl)
@[simp] theorem ixR_str (x : Str) (i : Int) : ixR (.str x) (.int i) = chAt x i := (rfl)
theorem atD_nat {xs : List D} {j : Nat} {x : D} (h : xs[j]? = some x) : atD xs (j : Int) = R.pure x := by
  have hj : j < xs.length := (List.getElem?_eq_some_iff.mp h).1
  unfold atD ixPos
  rw [if_pos (by omega), if_pos (by omega)]
  simp [h]
@[simp] theorem atD_zero (x : D) (xs : List D) : atD (x :: xs) 0 = R.pure x := atD_nat (j := 0) rfl
@[simp] theorem atD_one (x y : D) (xs : List D) : atD (x :: y :: xs) 1 = R.pure y := atD_nat (j := 1) rfl
@[simp] theorem atD_two (x y z : D) (xs : List D) : atD (x :: y :: z :: xs) 2 = R.pure z := atD_nat (j := 2) rfl
theorem chAt_nat {x : Str} {j : Nat} {c : Nat} (hf : few x.length) (h : x.cps.toList[j]? = some c) : chAt x (j : Int) = R.pure (.str ⟨#[c]⟩) := by
  have hj : j < x.cps.toList.length := (List.getElem?_eq_some_iff.mp h).1
  have hl : x.length = x.cps.toList.length := rfl
  unfold chAt ixPos
  rw [R.need_of (big_few hf), if_pos (by omega), if_pos (by omega)]
  show R.ofOpt (Option.map _ (x.cps.toList[((j : Int).toNat)]?)) = _
  rw [Int.toNat_natCast, h]
  rfl

/-! ### comparing -/
@[simp] theorem cmpR_eq (a b : D) : cmpR .Eq a b = R.need (cmpOk a b) (R.pure (eqD a b)) := (rfl)
@[simp] theorem cmpR_ne (a b : D) : cmpR .NotEq a b = R.need (cmpOk a b) (R.pure (!eqD a b)) := (rfl)
@[simp] theorem cmpR_lt (a b : D) : cmpR .Lt a b = R.need (cmpOk a b) (R.ofOpt (ltD a b)) := (rfl)
@[simp] theorem cmpR_in (a b : D) : cmpR .In a b = inR a b := (rfl)
@[simp] theorem cmpR_notin (a b : D) : cmpR .NotIn a b = R.bind (inR a b) fun c => R.pure (!c) := (rfl)
@[simp] theorem cmpR_is (a b : D) : cmpR .Is a b = isR a b := (rfl)
@[simp] theorem cmpR_isnot (a b : D) : cmpR .IsNot a b = R.bind (isR a b) fun c => R.pure (!c) := (rfl)
@[simp] theorem cmpR_gt_int (a b : Int) : cmpR .Gt (.int a) (.int b) = R.pure (decide (b < a)) := (rfl)
@[simp] theorem cmpR_le_int (a b : Int) : cmpR .LtE (.int a) (.int b) = R.pure (decide (a ≤ b)) := (rfl)
@[simp] theorem cmpR_ge_int (a b : Int) : cmpR .GtE (.int a) (.int b) = R.pure (decide (b ≤ a)) := (rfl)
theorem cmpOk_pl {a b : D} (ha : a.plain = true) (hb : b.plain = true) (hd : a.dep ≤ 40) : cmpOk a b = true := by
  unfold cmpOk
  rw [ha, hb]
  simp only [Bool.true_and, decide_eq_true_eq]
  omega
@[simp] theorem plain_non : D.plain .non = true := (rfl)
@[simp] theorem plain_bl (b : Bool) : D.plain (.bl b) = true := (rfl)
@[simp] theorem plain_int (b : Int) : D.plain (.int b) = true := (rfl)
@[simp] theorem plain_str (b : Str) : D.plain (.str b) = true := (rfl)
@[simp] theorem plain_tup (xs : List D) : D.plain (.tup xs) = plainAll xs := by unfold D.plain; rfl
@[simp] theorem plain_lst (xs : List D) : D.plain (.lst xs) = plainAll xs := by rw [D.plain]
@[simp] theorem plainAll_nil : plainAll [] = true := (rfl)
@[simp] theorem plainAll_cons (x : D) (xs : List D) : plainAll (x :: xs) = (x.plain && plainAll xs) := (rfl)
theorem plainAll_iff : ∀ {xs : List D}, plainAll xs = true ↔ ∀ x ∈ xs, x.plain = true
  | [] => by simp
  | x :: xs => by rw [plainAll_cons, Bool.and_eq_true, plainAll_iff]; simp
@[simp] theorem dep_non : D.dep .non = 0 := (rfl)
@[simp] theorem dep_bl (b : Bool) : D.dep (.bl b) = 0 := (rfl)
@[simp] theorem dep_int (b : Int) : D.dep (.int b) = 0 := (rfl)
@[simp] theorem dep_str (b : Str) : D.dep (.str b) = 0 := (rfl)
@[simp] theorem dep_tup (xs : List D) : D.dep (.tup xs) = depAll xs + 1 := by rw [D.dep]
@[simp] theorem dep_lst (xs : List D) : D.dep (.lst xs) = depAll xs + 1 := by rw [D.dep]
@[simp] theorem depAll_nil : depAll [] = 0 := (rfl)
@[simp] theorem depAll_cons (x : D) (xs : List D) : depAll (x :: xs) = max x.dep (depAll xs) := (rfl)
theorem depAll_le {n : Nat} : ∀ {xs : List D}, depAll xs ≤ n ↔ ∀ x ∈ xs, x.dep ≤ n
  | [] => by simp
  | x :: xs => by rw [depAll_cons, Nat.max_le, depAll_le]; simp
theorem cmpAll_iff (x : D) : ∀ {ys : List D}, cmpAll x ys = true ↔ ∀ y ∈ ys, cmpOk y x = true
  | [] => by simp [cmpAll]
  | y :: ys => by unfold cmpAll; rw [Bool.and_eq_true, cmpAll_iff x]; simp
/-- x in xs, x not deep -/
theorem inSeq_of {x : D} {xs : List D} (hx : x.plain = true) (hd : x.dep ≤ 40) (h : plainAll xs = true) : inSeq x xs = R.pure (hasD x xs) := by
  unfold inSeq
  refine R.need_of ?_ _
  rw [hx, Bool.true_and, cmpAll_iff]
  intro y hy
  have := plainAll_iff.mp h y hy
  unfold cmpOk
  rw [hx, this]
  simp only [Bool.true_and, decide_eq_true_eq]
  omega
@[simp] theorem inR_tup (x : D) (xs : List D) : inR x (.tup xs) = inSeq x xs := (rfl)
@[simp] theorem inR_lst (x : D) (xs : List D) : inR x (.lst xs) = inSeq x xs := (rfl)
@[simp] theorem inR_str (x y : Str) : inR (.str x) (.str y) = R.pure (inStr x y) := (rfl)
@[simp] theorem eqD_non : eqD .non .non = true := (rfl)
@[simp] theorem eqD_bl (a b : Bool) : eqD (.bl a) (.bl b) = (a == b) := (rfl)
@[simp] theorem eqD_int (a b : Int) : eqD (.int a) (.int b) = (a == b) := (rfl)
@[simp] theorem eqD_str (a b : Str) : eqD (.str a) (.str b) = (a == b) := (rfl)
@[simp] theorem eqD_tup (a b : List D) : eqD (.tup a) (.tup b) = eqAll a b := by rw [eqD]
@[simp] theorem eqD_lst (a b : List D) : eqD (.lst a) (.lst b) = eqAll a b := by rw [eqD]
@[simp] theorem eqAll_nil : eqAll [] [] = true := (rfl)
@[simp] theorem eqAll_cons (x y : D) (xs ys : List D) : eqAll (x :: xs) (y :: ys) = (eqD x y && eqAll xs ys) := (rfl)
@[simp] theorem eqAll_nc (y : D) (ys : List D) : eqAll [] (y :: ys) = false := (rfl)
@[simp] theorem eqAll_cn (y : D) (ys : List D) : eqAll (y :: ys) [] = false := (rfl)

/-! ### built-ins -/
@[simp] theorem blt_len_tup (xs : List D) : bltR .len [.tup xs] = R.pure (.int xs.length) := (rfl)
@[simp] theorem blt_len_lst (xs : List D) : bltR .len [.lst xs] = R.pure (.int xs.length) := (rfl)
@[simp] theorem blt_len_ro (xs : List D) : bltR .len [.ro xs] = R.pure (.int xs.length) := (rfl)
@[simp] theorem blt_len_str {x : Str} (h : few x.length) : bltR .len [.str x] = R.pure (.int x.length) := R.need_of (big_few h) _
@[simp] theorem blt_tuple_lst (xs : List D) : bltR .tuple [.lst xs] = R.pure (.tup xs) := (rfl)
@[simp] theorem blt_tuple_tup (xs : List D) : bltR .tuple [.tup xs] = R.pure (.tup xs) := (rfl)
@[simp] theorem blt_list_lst (xs : List D) : bltR .list [.lst xs] = R.pure (.lst xs) := (rfl)
@[simp] theorem blt_list_tup (xs : List D) : bltR .list [.tup xs] = R.pure (.lst xs) := (rfl)
theorem bools_map {α : Type} (f : α → Bool) : ∀ xs : List α, bools (xs.map fun x => .bl (f x)) = some (xs.map f)
  | [] => rfl
  | x :: xs => by
    show (bools (xs.map fun x => .bl (f x))).map _ = _
    rw [bools_map f xs]
    rfl
/-- as List.all, List.any, but left alone by simp -/
def allB {α : Type} (f : α → Bool) (xs : List α) : Bool := xs.all f
def anyB {α : Type} (f : α → Bool) (xs : List α) : Bool := xs.any f
theorem allB_iff {α : Type} {f : α → Bool} {xs : List α} : allB f xs = true ↔ ∀ x ∈ xs, f x = true := List.all_eq_true
theorem anyB_iff {α : Type} {f : α → Bool} {xs : List α} : anyB f xs = true ↔ ∃ x ∈ xs, f x = true := List.any_eq_true
theorem allB_congr {α : Type} {f g : α → Bool} {xs : List α} (h : ∀ x ∈ xs, f x = g x) : allB f xs = allB g xs := by
  refine Bool.eq_iff_iff.mpr ?_
  rw [allB_iff, allB_iff]
  exact ⟨fun a x hx => by rw [← h x hx]; exact a x hx, fun a x hx => by rw [h x hx]; exact a x hx⟩
theorem anyB_congr {α : Type} {f g : α → Bool} {xs : List α} (h : ∀ x ∈ xs, f x = g x) : anyB f xs = anyB g xs := by
  refine Bool.eq_iff_iff.mpr ?_
  rw [anyB_iff, anyB_iff]
  exact ⟨fun ⟨x, hx, a⟩ => ⟨x, hx, by rw [← h x hx]; exact a⟩, fun ⟨x, hx, a⟩ => ⟨x, hx, by rw [h x hx]; exact a⟩⟩
@[simp] theorem blt_all_map {α : Type} (f : α → Bool) (xs : List α) : bltR .all [.lst (xs.map fun x => .bl (f x))] = R.pure (.bl (allB f xs)) := by
  show R.ofOpt ((bools (xs.map fun x => D.bl (f x))).map fun bs => D.bl (bs.all id)) = _
  rw [bools_map]
  show R.pure (D.bl _) = _
  rw [List.all_map]
  rfl
@[simp] theorem blt_any_map {α : Type} (f : α → Bool) (xs : List α) : bltR .any [.lst (xs.map fun x => .bl (f x))] = R.pure (.bl (anyB f xs)) := by
  show R.ofOpt ((bools (xs.map fun x => D.bl (f x))).map fun bs => D.bl (bs.any id)) = _
  rw [bools_map]
  show R.pure (D.bl _) = _
  rw [List.any_map]
  rfl
end Ny
namespace Ny
open PySem
/-! ### more forms -/
@[simp] theorem ite_blD (c : Prop) [Decidable c] (a b : Bool) : (if c then D.bl a else D.bl b) = D.bl (if c then a else b) := by split <;> rfl
@[simp] theorem truthR_ite (c : Prop) [Decidable c] (a b : D) : truthR (if c then a else b) = if c then truthR a else truthR b := by split <;> rfl
@[simp] theorem iteR_iteD {α : Type} (c : Prop) [Decidable c] (a b : D) (m n : R α) : iteR (if c then a else b) m n = if c then iteR a m n else iteR b m n := by split <;> rfl
/-! fine data: nothing that is turned, texts and rows of a sane length -/
mutual
def fineD : D → Bool
  | .non => true
  | .bl _ => true
  | .int _ => true
  | .str x => decide (x.length ≤ 1000000)
  | .tup xs => decide (xs.length ≤ 1000000) && fineAll xs
  | .lst xs => decide (xs.length ≤ 1000000) && fineAll xs
  | _ => false
def fineAll : List D → Bool
  | [] => true
  | x :: xs => fineD x && fineAll xs
end
@[simp] theorem fineD_non : fineD .non = true := (rfl)
@[simp] theorem fineD_bl (b : Bool) : fineD (.bl b) = true := (rfl)
@[simp] theorem fineD_int (i : Int) : fineD (.int i) = true := (rfl)
@[simp] theorem fineD_str (x : Str) : fineD (.str x) = decide (x.length ≤ 1000000) := (rfl)
@[simp] theorem fineD_tup (xs : List D) : fineD (.tup xs) = (decide (xs.length ≤ 1000000) && fineAll xs) := by rw [fineD]
@[simp] theorem fineD_lst (xs : List D) : fineD (.lst xs) = (decide (xs.length ≤ 1000000) && fineAll xs) := by rw [fineD]
@[simp] theorem fineAll_nil : fineAll [] = true := (rfl)
@[simp] theorem fineAll_cons (x : D) (xs : List D) : fineAll (x :: xs) = (fineD x && fineAll xs) := (rfl)
theorem fineAll_iff : ∀ {xs : List D}, fineAll xs = true ↔ ∀ x ∈ xs, fineD x = true
  | [] => by simp
  | x :: xs => by rw [fineAll_cons, Bool.and_eq_true, fineAll_iff]; simp
mutual
theorem fine_plain : ∀ {d : D}, fineD d = true → d.plain = true
  | .non, _ => rfl
  | .bl _, _ => rfl
  | .int _, _ => rfl
  | .str _, _ => rfl
  | .tup xs, h => by rw [plain_tup]; rw [fineD_tup, Bool.and_eq_true] at h; exact fine_plainAll h.2
  | .lst xs, h => by rw [plain_lst]; rw [fineD_lst, Bool.and_eq_true] at h; exact fine_plainAll h.2
  | .ro _, h => by simp [fineD] at h
  | .dct _ _, h => by simp [fineD] at h
  | .obj _, h => by simp [fineD] at h
theorem fine_plainAll : ∀ {xs : List D}, fineAll xs = true → plainAll xs = true
  | [], _ => rfl
  | x :: xs, h => by
    rw [fineAll_cons, Bool.and_eq_true] at h
    rw [plainAll_cons, fine_plain h.1, fine_plainAll h.2]
    rfl
end
theorem fine_str {x : Str} (h : fineD (.str x) = true) : few x.length := by unfold few; simpa using h
theorem isiR_fine {d : D} (h : fineD d = true) (ts : List Ty) : isiR d ts = R.pure (.bl (ts.any (isTyD d))) := isiR_plain (fine_plain h) ts

/-! ### ranges -/
theorem rngD_eq (lo : Int) : ∀ n : Nat, rngD lo n = (List.range n).map fun i : Nat => D.int (lo + i)
  | 0 => rfl
  | n + 1 => by
    show D.int lo :: rngD (lo + 1) n = _
    rw [rngD_eq (lo + 1) n, List.range_succ_eq_map, List.map_cons, List.map_map]
    congr 1
    · simp
    · refine List.map_congr_left fun i _ => ?_
      show D.int (lo + 1 + i) = D.int (lo + (i.succ : Nat))
      congr 1
      omega
theorem rngR_eq {a b : Int} (ha : -1000000000 ≤ a ∧ a ≤ 1000000000) (hb : -1000000000 ≤ b ∧ b ≤ 1000000000) : rngR (.int a) (.int b) = R.pure ((List.range (b - a).toNat).map fun i : Nat => D.int (a + i)) := by
  unfold rngR
  rw [← rngD_eq]
  refine R.need_of ?_ _
  simp only [Bool.and_eq_true, decide_eq_true_eq]
  refine ⟨?_, ?_, ?_, ?_⟩ <;> omega
theorem rng0_eq {n : Nat} (h : few n) : rngR (.int 0) (.int n) = R.pure ((List.range n).map fun i : Nat => D.int i) := by
  unfold few at h
  rw [rngR_eq (by omega) (by omega)]
  simp

/-! ### ascending rows -/
def ascD : List D → Bool
  | x :: y :: r => ltB x y && ascD (y :: r)
  | _ => true
/-- neighbours can be compared -/
def nearOk : List D → Bool
  | x :: y :: r => pairOk x y && nearOk (y :: r)
  | _ => true
theorem nearOk_at : ∀ {xs : List D} (i : Nat), nearOk xs = true → i + 1 < xs.length → ∃ x y, xs[i]? = some x ∧ xs[i + 1]? = some y ∧ pairOk x y = true
  | [], i, _, h => by simp at h
  | [x], i, _, h => by simp at h
  | x :: y :: r, 0, hn, h => ⟨x, y, rfl, rfl, by unfold nearOk at hn; simp at hn; exact hn.1⟩
  | x :: y :: r, i + 1, hn, h => by
    unfold nearOk at hn
    simp at hn
    obtain ⟨a, b, h1, h2, h3⟩ := nearOk_at i hn.2 (by simpa using h)
    exact ⟨a, b, h1, h2, h3⟩
theorem asc_all : ∀ (xs : List D), (List.range (xs.length - 1)).all (fun i => ltB (xs[i]?.getD .non) (xs[i + 1]?.getD .non)) = ascD xs
  | [] => rfl
  | [x] => rfl
  | x :: y :: r => by
    have ih := asc_all (y :: r)
    unfold ascD
    rw [← ih]
    simp only [List.length_cons, Nat.add_sub_cancel]
    rw [List.range_succ_eq_map]
    simp [List.all_map]
    rfl
theorem pairOk_nearOk : ∀ {xs : List D}, (∀ x ∈ xs, ∀ y ∈ xs, pairOk x y = true) → nearOk xs = true
  | [], _ => rfl
  | [x], _ => rfl
  | x :: y :: r, h => by
    unfold nearOk
    rw [h x (by simp) y (by simp), pairOk_nearOk fun a ha b hb => h a (List.mem_cons_of_mem _ ha) b (List.mem_cons_of_mem _ hb)]
    rfl
/-! ### texts -/
@[simp] theorem inStr_one (c : Nat) (y : Str) : inStr ⟨#[c]⟩ y = decide (c ∈ y.cps.toList) := StrLaws.found_one y c
def lettersL : List Nat := List.range' 97 26
def signsL : List Nat := lettersL ++ List.range' 48 10
theorem letters_eq : (Str.ofString "abcdefghijklmnopqrstuvwxyz").cps.toList = lettersL := by decide +kernel
theorem signs_eq : (Str.ofString "abcdefghijklmnopqrstuvwxyz0123456789").cps.toList = signsL := by decide +kernel
/-- a word, by its characters -/
def isWordL (l : List Nat) : Bool := match l with
  | [] => false
  | c :: r => decide (r.length < 8) && (decide (c ∈ lettersL) && allB (fun x => decide (x ∈ signsL)) (c :: r))
def isWordS (x : Str) : Bool := isWordL x.cps.toList
def isWordD : D → Bool
  | .str x => isWordS x
  | _ => false
def isLotD : D → Bool
  | .tup xs => allB isWordD xs && ascD xs
  | _ => false
theorem pairOk_str (x y : Str) : pairOk (.str x) (.str y) = true := by
  unfold pairOk cmpOk
  simp [ltD]
@[simp] theorem ltB_str (x y : Str) : ltB (.str x) (.str y) = ltS x y := (rfl)
end Ny
namespace Ny
open PySem
/-! ### operators, more forms -/
@[simp] theorem opR_add_int (i j : Int) : opR .Add (.int i) (.int j) = R.pure (.int (i + j)) := (rfl)
@[simp] theorem opR_sub_int (i j : Int) : opR .Sub (.int i) (.int j) = R.pure (.int (i - j)) := (rfl)
theorem opR_mul_int {i j : Int} (h : mulOk i j = true) : opR .Mult (.int i) (.int j) = R.pure (.int (i * j)) := R.need_of h _
theorem opR_mod_int {i j : Int} (h : 0 < j) : opR .Mod (.int i) (.int j) = R.pure (.int (i % j)) := R.need_of (by simpa using h) _
theorem opR_div_int {i j : Int} (h : 0 < j) (h2 : j < 1073741824) : opR .FloorDiv (.int i) (.int j) = R.pure (.int (i / j)) := R.need_of (by simp [h, h2]) _
@[simp] theorem opR_add_str {x y : Str} (h : few (x.length + y.length)) : opR .Add (.str x) (.str y) = R.pure (.str (x ++ y)) := R.need_of (big_few h) _
@[simp] theorem opR_add_tup {x y : List D} (h : few (x.length + y.length)) : opR .Add (.tup x) (.tup y) = R.pure (.tup (x ++ y)) := R.need_of (big_few h) _
@[simp] theorem opR_add_lst {x y : List D} (h : few (x.length + y.length)) : opR .Add (.lst x) (.lst y) = R.pure (.lst (x ++ y)) := R.need_of (big_few h) _
@[simp] theorem opR_add_ro {x y : List D} (h : few (x.length + y.length)) : opR .Add (.lst x) (.ro y) = R.pure (.lst (x ++ y)) := R.need_of (big_few h) _
@[simp] theorem lcG_some {α : Type} (f : α → D) (xs : List α) : lcG (fun x => R.pure (some (f x))) xs = R.pure (xs.map f) := by rw [lcG_pure, filterMap_some]
theorem lcG_if {α : Type} (c : α → Bool) (f : α → D) (xs : List α) : lcG (fun x => R.pure (if c x = true then some (f x) else none)) xs = R.pure ((xs.filter c).map f) := by rw [lcG_pure, filterMap_if]
@[simp] theorem lcG_ifP {α : Type} (c : α → Prop) [DecidablePred c] (f : α → D) (xs : List α) : lcG (fun x => R.pure (if c x then some (f x) else none)) xs = R.pure ((xs.filter fun x => decide (c x)).map f) := by
  have := lcG_if (fun x => decide (c x)) f xs
  simpa using this
@[simp] theorem lcG_ifN {α : Type} (c : α → Prop) [DecidablePred c] (f : α → D) (xs : List α) : lcG (fun x => R.pure (if c x then none else some (f x))) xs = R.pure ((xs.filter fun x => !decide (c x)).map f) := by
  have := lcG_if (fun x => !decide (c x)) f xs
  rw [← this]
  congr 1
  funext x
  by_cases h : c x <;> simp [h]
@[simp] theorem few_filter {α : Type} {c : α → Bool} {xs : List α} (h : few xs.length) : few (xs.filter c).length := Nat.le_trans (List.length_filter_le c xs) h
theorem few_le {m n : Nat} (h : few n) (h2 : m ≤ n) : few m := Nat.le_trans h2 h
@[simp] theorem few_lit {n : Nat} (h : n ≤ 1000000) : few n := h
@[simp] theorem tyAny_tuple (d : D) : ([Ty.tuple].any (isTyD d)) = isTyD d .tuple := by simp
end Ny

namespace Ny
open PySem
/-! ### comprehensions as arguments -/
theorem lcG_eq {α : Type} {f : α → R (Option D)} (g : α → D) {xs : List α} (h : ∀ x ∈ xs, f x = R.pure (some (g x))) : lcG f xs = R.pure (xs.map g) := by rw [lcG_congr h, lcG_some]
theorem lcG_flt {α : Type} {f : α → R (Option D)} (c : α → Bool) (g : α → D) {xs : List α} (h : ∀ x ∈ xs, f x = R.pure (if c x = true then some (g x) else none)) : lcG f xs = R.pure ((xs.filter c).map g) := by rw [lcG_congr h, lcG_if]
@[simp] theorem natCast_beq (a b : Nat) : ((a : Int) == (b : Int)) = (a == b) := by
  refine Bool.eq_iff_iff.mpr ?_
  simp only [beq_iff_eq]
  omega
@[simp] theorem mkLst_nil : mkLst [] = R.pure (.lst []) := (rfl)
@[simp] theorem mkTup_nil : mkTup [] = R.pure (.tup []) := (rfl)
end Ny

set_option maxHeartbeats 200000
/-! Pl: what is wanted behind a run that turns objects. -/
namespace Ny
open PySem
/-- (an existence: nothing that a unifier could reckon out) -/
def R.wp {α : Type} (m : R α) (Q : α → Hs → Prop) (h : Hs) : Prop := ∃ a h', m h = .ok a h' ∧ Q a h'
def S.wp (m : S) (Q : Fl → Env → Hs → Prop) (h : Hs) : Prop := ∃ f σ h', m h = .fl f σ h' ∧ Q f σ h'
theorem R.wp_ok {α : Type} {m : R α} {Q : α → Hs → Prop} {h h' : Hs} {a : α} (e : m h = .ok a h') : R.wp m Q h = Q a h' := by
  refine propext ⟨fun ⟨a', h'', e', q⟩ => ?_, fun q => ⟨a, h', e, q⟩⟩
  rw [e] at e'
  cases e'
  exact q
theorem R.wp_no {α : Type} {m : R α} {Q : α → Hs → Prop} {h : Hs} (e : ∀ a h', m h ≠ .ok a h') : R.wp m Q h = False := propext ⟨fun ⟨a, h', e', _⟩ => e a h' e', False.elim⟩
theorem S.wp_fl {m : S} {Q : Fl → Env → Hs → Prop} {h h' : Hs} {f : Fl} {σ : Env} (e : m h = .fl f σ h') : S.wp m Q h = Q f σ h' := by
  refine propext ⟨fun ⟨f', σ', h'', e', q⟩ => ?_, fun q => ⟨f, σ, h', e, q⟩⟩
  rw [e] at e'
  cases e'
  exact q
theorem S.wp_no {m : S} {Q : Fl → Env → Hs → Prop} {h : Hs} (e : ∀ f σ h', m h ≠ .fl f σ h') : S.wp m Q h = False := propext ⟨fun ⟨f, σ, h', e', _⟩ => e f σ h' e', False.elim⟩
/-- .. of a def's body -/
def finQ (Q : D → Hs → Prop) : Fl → Env → Hs → Prop := fun f _ h => match f with
  | .rt d => Q d h
  | .nx => Q .non h
  | _ => False
def seqQ (k : Env → S) (Q : Fl → Env → Hs → Prop) : Fl → Env → Hs → Prop := fun f σ h => match f with
  | .nx => S.wp (k σ) Q h
  | f => Q f σ h
def turnQ (k : Env → S) (Q : Fl → Env → Hs → Prop) : Fl → Env → Hs → Prop := fun f σ h => match f with
  | .nx => S.wp (k σ) Q h
  | .ct => S.wp (k σ) Q h
  | .bk => Q .nx σ h
  | f => Q f σ h
section
variable {α β : Type}
@[simp] theorem R.wp_pure (a : α) (Q : α → Hs → Prop) (h : Hs) : R.wp (R.pure a) Q h = Q a h := R.wp_ok rfl
@[simp] theorem R.wp_bind (m : R α) (f : α → R β) (Q : β → Hs → Prop) (h : Hs) : R.wp (R.bind m f) Q h = R.wp m (fun a h' => R.wp (f a) Q h') h := by
  cases e : m h with
  | ok a h' =>
    rw [R.wp_ok (m := m) e]
    have e2 : R.bind m f h = f a h' := by unfold R.bind; rw [e]
    unfold R.wp
    rw [e2]
  | exc x h' =>
    have e2 : R.bind m f h = .exc x h' := by unfold R.bind; rw [e]
    rw [R.wp_no (m := m) (by rw [e]; nofun), R.wp_no (by rw [e2]; nofun)]
  | bad =>
    have e2 : R.bind m f h = .bad := by unfold R.bind; rw [e]
    rw [R.wp_no (m := m) (by rw [e]; nofun), R.wp_no (by rw [e2]; nofun)]
@[simp] theorem R.wp_ite (c : Prop) [Decidable c] (m n : R α) (Q : α → Hs → Prop) (h : Hs) : R.wp (if c then m else n) Q h = if c then R.wp m Q h else R.wp n Q h := by split <;> rfl
theorem R.wp_need (c : Bool) (m : R α) (Q : α → Hs → Prop) (h : Hs) : R.wp (R.need c m) Q h = (c = true ∧ R.wp m Q h) := by
  cases c
  · rw [R.wp_no (by intro a h' e; cases e)]
    simp
  · simp
theorem R.wp_of {m : R α} {Q : α → Hs → Prop} {h h' : Hs} {a : α} (e : m h = .ok a h') (q : Q a h') : R.wp m Q h := ⟨a, h', e, q⟩
theorem R.wp_out {m : R α} {Q : α → Hs → Prop} {h : Hs} (q : R.wp m Q h) : ∃ a h', m h = .ok a h' ∧ Q a h' := q
theorem R.wp_mono {m : R α} {Q Q' : α → Hs → Prop} {h : Hs} (q : R.wp m Q h) (i : ∀ a h', Q a h' → Q' a h') : R.wp m Q' h :=
  let ⟨a, h', e, q⟩ := q
  ⟨a, h', e, i a h' q⟩
theorem R.wp_nox {m : R α} {Q : α → Hs → Prop} {h : Hs} (q : R.wp m Q h) : R.wp (R.nox m) Q h := by
  obtain ⟨a, h', e, q⟩ := R.wp_out q
  refine R.wp_of (a := a) (h' := h') ?_ q
  unfold R.nox
  rw [e]
theorem S.wp_mono {m : S} {Q Q' : Fl → Env → Hs → Prop} {h : Hs} (q : S.wp m Q h) (i : ∀ f σ h', Q f σ h' → Q' f σ h') : S.wp m Q' h :=
  let ⟨f, σ, h', e, q⟩ := q
  ⟨f, σ, h', e, i f σ h' q⟩
@[simp] theorem S.wp_done (f : Fl) (σ : Env) (Q : Fl → Env → Hs → Prop) (h : Hs) : S.wp (S.done f σ) Q h = Q f σ h := S.wp_fl rfl
@[simp] theorem S.wp_ev (m : R α) (σ : Env) (k : α → S) (Q : Fl → Env → Hs → Prop) (h : Hs) : S.wp (S.ev m σ k) Q h = R.wp m (fun a h' => S.wp (k a) Q h') h := by
  cases e : m h with
  | ok a h' =>
    rw [R.wp_ok (m := m) e]
    have e2 : S.ev m σ k h = k a h' := by unfold S.ev; rw [e]
    unfold S.wp
    rw [e2]
  | exc x h' =>
    have e2 : S.ev m σ k h = .exc x σ h' := by unfold S.ev; rw [e]
    rw [R.wp_no (m := m) (by rw [e]; nofun), S.wp_no (by rw [e2]; nofun)]
  | bad =>
    have e2 : S.ev m σ k h = .bad := by unfold S.ev; rw [e]
    rw [R.wp_no (m := m) (by rw [e]; nofun), S.wp_no (by rw [e2]; nofun)]
@[simp] theorem S.wp_ite (c : Prop) [Decidable c] (m n : S) (Q : Fl → Env → Hs → Prop) (h : Hs) : S.wp (if c then m else n) Q h = if c then S.wp m Q h else S.wp n Q h := by split <;> rfl
theorem S.wp_case {m m' : S} {Q Q' : Fl → Env → Hs → Prop} {h : Hs} (h1 : ∀ f σ h', m h = .fl f σ h' → S.wp m' Q' h = Q f σ h') (h2 : (∀ f σ h', m h ≠ .fl f σ h') → ∀ f σ h', m' h ≠ .fl f σ h') : S.wp m' Q' h = S.wp m Q h := by
  cases e : m h with
  | fl f σ h' => rw [h1 f σ h' e, S.wp_fl e]
  | exc _ _ _ => rw [S.wp_no (h2 (by rw [e]; nofun)), S.wp_no (by rw [e]; nofun)]
  | bad => rw [S.wp_no (h2 (by rw [e]; nofun)), S.wp_no (by rw [e]; nofun)]
@[simp] theorem S.wp_andThen (m : S) (k : Env → S) (Q : Fl → Env → Hs → Prop) (h : Hs) : S.wp (S.andThen m k) Q h = S.wp m (seqQ k Q) h := by
  refine S.wp_case (fun f σ h' e => ?_) fun n f σ h' e => ?_
  · have e2 : S.andThen m k h = S.andThen (fun _ => .fl f σ h') k h := by unfold S.andThen; rw [e]
    unfold S.wp
    rw [e2]
    cases f <;> first | rfl | exact S.wp_fl (m := fun _ => .fl _ σ h') (h := h) rfl
  · unfold S.andThen at e
    split at e
    · rename_i e'; exact n _ _ _ e'
    · exact n _ _ _ e
@[simp] theorem S.wp_turn (m : S) (k : Env → S) (Q : Fl → Env → Hs → Prop) (h : Hs) : S.wp (S.turn m k) Q h = S.wp m (turnQ k Q) h := by
  refine S.wp_case (fun f σ h' e => ?_) fun n f σ h' e => ?_
  · have e2 : S.turn m k h = S.turn (fun _ => .fl f σ h') k h := by unfold S.turn; rw [e]
    unfold S.wp
    rw [e2]
    cases f <;> first | rfl | exact S.wp_fl (m := fun _ => .fl _ σ h') (h := h) rfl
  · unfold S.turn at e
    split at e
    · rename_i e'; exact n _ _ _ e'
    · rename_i e'; exact n _ _ _ e'
    · rename_i e'; exact n _ _ _ e'
    · exact n _ _ _ e
@[simp] theorem S.wp_fin (m : S) (Q : D → Hs → Prop) (h : Hs) : R.wp (S.fin m) Q h = S.wp m (finQ Q) h := by
  cases e : m h with
  | fl f σ h' =>
    rw [S.wp_fl e]
    have e2 : S.fin m h = S.fin (fun _ => .fl f σ h') h := by unfold S.fin; rw [e]
    unfold R.wp
    rw [e2]
    cases f with
    | nx => exact R.wp_ok (m := fun _ => .ok D.non h') (h := h) rfl
    | rt d => exact R.wp_ok (m := fun _ => .ok d h') (h := h) rfl
    | bk => exact R.wp_no (m := fun _ => .bad) (h := h) nofun
    | ct => exact R.wp_no (m := fun _ => .bad) (h := h) nofun
  | exc x σ h' =>
    have e2 : S.fin m h = .exc x h' := by unfold S.fin; rw [e]
    rw [S.wp_no (m := m) (by rw [e]; nofun), R.wp_no (by rw [e2]; nofun)]
  | bad =>
    have e2 : S.fin m h = .bad := by unfold S.fin; rw [e]
    rw [S.wp_no (m := m) (by rw [e]; nofun), R.wp_no (by rw [e2]; nofun)]
theorem S.wp_chk {c : Hs → Bool} {m : S} {Q : Fl → Env → Hs → Prop} {h : Hs} (e : c h = true) : S.wp (S.chk c m) Q h = S.wp m Q h := by unfold S.wp S.chk; rw [e]
@[simp] theorem seqQ_nx (k : Env → S) (Q : Fl → Env → Hs → Prop) (σ : Env) (h : Hs) : seqQ k Q .nx σ h = S.wp (k σ) Q h := (rfl)
@[simp] theorem seqQ_rt (k : Env → S) (Q : Fl → Env → Hs → Prop) (d : D) (σ : Env) (h : Hs) : seqQ k Q (.rt d) σ h = Q (.rt d) σ h := (rfl)
@[simp] theorem seqQ_bk (k : Env → S) (Q : Fl → Env → Hs → Prop) (σ : Env) (h : Hs) : seqQ k Q .bk σ h = Q .bk σ h := (rfl)
@[simp] theorem seqQ_ct (k : Env → S) (Q : Fl → Env → Hs → Prop) (σ : Env) (h : Hs) : seqQ k Q .ct σ h = Q .ct σ h := (rfl)
@[simp] theorem turnQ_nx (k : Env → S) (Q : Fl → Env → Hs → Prop) (σ : Env) (h : Hs) : turnQ k Q .nx σ h = S.wp (k σ) Q h := (rfl)
@[simp] theorem turnQ_ct (k : Env → S) (Q : Fl → Env → Hs → Prop) (σ : Env) (h : Hs) : turnQ k Q .ct σ h = S.wp (k σ) Q h := (rfl)
@[simp] theorem turnQ_bk (k : Env → S) (Q : Fl → Env → Hs → Prop) (σ : Env) (h : Hs) : turnQ k Q .bk σ h = Q .nx σ h := (rfl)
@[simp] theorem turnQ_rt (k : Env → S) (Q : Fl → Env → Hs → Prop) (d : D) (σ : Env) (h : Hs) : turnQ k Q (.rt d) σ h = Q (.rt d) σ h := (rfl)
@[simp] theorem finQ_rt (Q : D → Hs → Prop) (d : D) (σ : Env) (h : Hs) : finQ Q (.rt d) σ h = Q d h := (rfl)
@[simp] theorem finQ_nx (Q : D → Hs → Prop) (σ : Env) (h : Hs) : finQ Q .nx σ h = Q .non h := (rfl)
/-- behind a turn: on with N, or out of the loop -/
def loopQ (N : Env → Hs → Prop) (Q : Fl → Env → Hs → Prop) : Fl → Env → Hs → Prop := fun f σ h => match f with
  | .nx => N σ h
  | .ct => N σ h
  | .bk => Q .nx σ h
  | .rt d => Q (.rt d) σ h
@[simp] theorem loopQ_nx (N : Env → Hs → Prop) (Q : Fl → Env → Hs → Prop) (σ : Env) (h : Hs) : loopQ N Q .nx σ h = N σ h := (rfl)
@[simp] theorem loopQ_ct (N : Env → Hs → Prop) (Q : Fl → Env → Hs → Prop) (σ : Env) (h : Hs) : loopQ N Q .ct σ h = N σ h := (rfl)
@[simp] theorem loopQ_bk (N : Env → Hs → Prop) (Q : Fl → Env → Hs → Prop) (σ : Env) (h : Hs) : loopQ N Q .bk σ h = Q .nx σ h := (rfl)
@[simp] theorem loopQ_rt (N : Env → Hs → Prop) (Q : Fl → Env → Hs → Prop) (d : D) (σ : Env) (h : Hs) : loopQ N Q (.rt d) σ h = Q (.rt d) σ h := (rfl)
/-- a for, by what holds between the turns; a turn goes on, or ends as it should -/
theorem S.wp_for {b : D → Env → S} {Q : Fl → Env → Hs → Prop} (I : List D → Env → Hs → Prop) :
    ∀ {xs : List D} {σ : Env} {h : Hs}, I xs σ h → (∀ x r σ h, I (x :: r) σ h → S.wp (b x σ) (loopQ (I r) Q) h) → (∀ σ h, I [] σ h → Q .nx σ h) → S.wp (S.forS b xs σ) Q h
  | [], σ, h, i, _, e => by rw [S.forS_nil, S.wp_done]; exact e σ h i
  | x :: xs, σ, h, i, t, e => by
    rw [S.forS_cons, S.wp_turn]
    refine S.wp_mono (t x xs σ h i) fun f σ' h' q => ?_
    cases f with
    | nx => exact S.wp_for I q t e
    | ct => exact S.wp_for I q t e
    | bk => exact q
    | rt d => exact q
/-- .. with the number of the turn -/
theorem S.wp_forN {b : D → Env → S} {Q : Fl → Env → Hs → Prop} {xs : List D} {σ : Env} {h : Hs} (I : Nat → Env → Hs → Prop) (i0 : I 0 σ h)
    (t : ∀ (i : Nat) (x : D) (σ : Env) (h : Hs), xs[i]? = some x → I i σ h → S.wp (b x σ) (loopQ (I (i + 1)) Q) h) (e : ∀ σ h, I xs.length σ h → Q .nx σ h) : S.wp (S.forS b xs σ) Q h := by
  refine S.wp_for (fun r σ h => ∃ i, i ≤ xs.length ∧ r = xs.drop i ∧ I i σ h) ⟨0, Nat.zero_le _, rfl, i0⟩ ?_ ?_
  · rintro x r σ h ⟨i, hi, er, q⟩
    have hx : xs[i]? = some x := by
      have := congrArg (fun l => l[0]?) er
      simp only [List.getElem?_cons_zero, List.getElem?_drop, Nat.add_zero] at this
      exact this.symm
    have hr : r = xs.drop (i + 1) := by
      have := congrArg List.tail er
      simp only [List.tail_cons, List.tail_drop] at this
      exact this
    have hl : i + 1 ≤ xs.length := (List.getElem?_eq_some_iff.mp hx).1
    refine S.wp_mono (t i x σ h hx q) fun f σ' h' q => ?_
    cases f with
    | nx => exact ⟨i + 1, hl, hr, q⟩
    | ct => exact ⟨i + 1, hl, hr, q⟩
    | bk => exact q
    | rt d => exact q
  · rintro σ h ⟨i, hi, er, q⟩
    have : i = xs.length := by
      have := congrArg List.length er
      simp only [List.length_nil, List.length_drop] at this
      omega
    subst this
    exact e σ h q
/-- a comprehension, by what holds between the turns -/
theorem R.wp_lc {f : α → R (Option D)} {Q : List D → Hs → Prop} (I : List α → List D → Hs → Prop) :
    ∀ {xs : List α} {ys : List D} {h : Hs}, I xs ys h → (∀ x r ys h, I (x :: r) ys h → R.wp (f x) (fun o h' => I r (ys ++ o.toList) h') h) → (∀ ys' h', I [] (ys ++ ys') h' → Q ys' h') → R.wp (lcG f xs) Q h
  | [], ys, h, i, _, e => by
    show R.wp (R.pure []) Q h
    rw [R.wp_pure]
    exact e [] h (by rw [List.append_nil]; exact i)
  | x :: xs, ys, h, i, t, e => by
    show R.wp (R.bind _ _) _ _
    rw [R.wp_bind]
    refine R.wp_mono (R.wp_nox (t x xs ys h i)) fun o h' q => ?_
    rw [R.wp_bind]
    refine R.wp_lc I q t fun ys' h' q' => ?_
    rw [R.wp_pure]
    cases o with
    | none => exact e _ _ (by simpa using q')
    | some d => exact e _ _ (by simpa using q')
end
/-! ### try -/
def S.tryC (m : S) (f : Ex → Env → S) : S := fun h => match m h with
  | .exc e σ' h' => f e σ' h'
  | o => o
section
variable (T : Tab) (X : XTab) (C : Call) (σ : Env)
@[simp] theorem run_try (b : NSs) (hs : NHs) : run T X C (.try_ b hs) σ = S.tryC (runs T X C b σ) fun e σ' => runh T X C hs e σ' := (rfl)
@[simp] theorem tryC_done (f : Fl) (k : Ex → Env → S) : S.tryC (S.done f σ) k = S.done f σ := (rfl)
@[simp] theorem tryC_exc (e : Ex) (k : Ex → Env → S) : S.tryC (S.exc e σ) k = k e σ := (rfl)
@[simp] theorem tryC_ite (c : Prop) [Decidable c] (m n : S) (k : Ex → Env → S) : S.tryC (if c then m else n) k = if c then S.tryC m k else S.tryC n k := by split <;> rfl
@[simp] theorem runh_nil (e : Ex) : runh T X C .nil e σ = S.exc e σ := (rfl)
@[simp] theorem runh_cons (c : Nat) (suite : NSs) (hs : NHs) (e : Ex) : runh T X C (.cons c none suite hs) e σ = if X.below e.cls c = true then S.nox (runs T X C suite σ) else runh T X C hs e σ := by
  show (match X.below e.cls c with
    | true => S.nox (runs T X C suite σ)
    | false => runh T X C hs e σ) = _
  cases X.below e.cls c <;> rfl
@[simp] theorem nox_done (f : Fl) : S.nox (S.done f σ) = S.done f σ := (rfl)
end
/-! ### objects -/
theorem wp_ix_obj {n : Nat} {h : Hs} {xs : List D} (e : h[n]? = some (.lst xs)) (i : Int) (Q : D → Hs → Prop) : R.wp (ixR (.obj n) (.int i)) Q h = R.wp (atD xs i) Q h := by
  have : ixR (.obj n) (.int i) h = atD xs i h := by
    show (match h[n]? with
      | some (.lst xs) => onInt (.int i) (atD xs) h
      | _ => .bad) = _
    rw [e]
    rfl
  unfold R.wp
  rw [this]
theorem wp_turn_obj {σ : Env} {i n : Nat} {f : MO → Option MO} {h : Hs} {o o' : MO} (hσ : σ[i]? = some (.val (.obj n))) (e : h[n]? = some o) (ef : f o = some o') (Q : Fl → Env → Hs → Prop) : S.wp (turnS σ i f) Q h = Q .nx σ (h.set n o') := by
  have : turnS σ i f h = .fl .nx σ (h.set n o') := by
    unfold turnS
    rw [hσ]
    show (match (h[n]?).bind f with
      | some o => SO.fl .nx σ (h.set n o)
      | none => .bad) = _
    rw [e]
    show (match f o with
      | some o => SO.fl .nx σ (h.set n o)
      | none => .bad) = _
    rw [ef]
  exact S.wp_fl this
/-- x = .., a list or dict of the frame's own -/
theorem turn_own {σ : Env} {i : Nat} {f : MO → Option MO} {d : D} {o o' : MO} (hσ : σ[i]? = some (.own d)) (e : moOf d = some o) (ef : f o = some o') : turnS σ i f = S.done .nx (σ.set i (.own (ofMO o'))) := by
  unfold turnS
  rw [hσ]
  show (match (moOf d).bind f with
    | some o => S.done .nx (σ.set i (.own (ofMO o)))
    | none => S.bad) = _
  rw [e]
  show (match f o with
    | some o => S.done .nx (σ.set i (.own (ofMO o)))
    | none => S.bad) = _
  rw [ef]
theorem chk_true {c : Hs → Bool} (h : ∀ hs, c hs = true) (m : S) : S.chk c m = m := by
  funext hs
  unfold S.chk
  rw [h hs]
@[simp] theorem ownK_lst (i : Nat) (σ : Env) (xs : List D) : ownK i σ (.lst xs) = S.done .nx (σ.set i (.own (.lst xs))) := (rfl)
@[simp] theorem ownK_dct (i : Nat) (σ : Env) (tk : Bool) (kvs : List (D × D)) : ownK i σ (.dct tk kvs) = S.done .nx (σ.set i (.own (.dct tk kvs))) := (rfl)
@[simp] theorem wp_alloc (o : MO) (Q : D → Hs → Prop) (h : Hs) : R.wp (allocR o) Q h = Q (.obj h.length) (h ++ [o]) := R.wp_ok rfl
@[simp] theorem blt_int (i : Int) : bltR .int [.int i] = R.pure (.int i) := (rfl)
theorem chk_app_own {σ : Env} {i : Nat} {xs : List D} (hσ : σ[i]? = some (.own (.lst xs))) (hl : few xs.length) (v : D) : S.chk (lstAt σ i) (turnS σ i (appMO v)) = S.done .nx (σ.set i (.own (.lst (xs ++ [v])))) := by
  rw [chk_true (fun hs => by unfold lstAt; rw [hσ]), turn_own (o := .lst xs) (o' := .lst (xs ++ [v])) hσ rfl]
  · rfl
  · exact if_pos (decide_eq_true (Nat.lt_of_le_of_lt hl (by decide)))
end Ny

set_option maxHeartbeats 200000
/-! Pl: words, lots, nets, as data. -/
namespace Ny
open PySem
@[simp] abbrev tL (l : List Str) : D := .tup (l.map .str)
@[simp] abbrev pD (p : Str × Str) : D := .tup [.str p.1, .str p.2]
@[simp] abbrev tP (l : List (Str × Str)) : D := .tup (l.map fun p => .tup [.str p.1, .str p.2])
abbrev Net : Type := List Str × List (Str × Str)
@[simp] abbrev nD (n : Net) : D := .tup [tL n.1, tP n.2]
def ltP (p q : Str × Str) : Bool := ltB (pD p) (pD q)

theorem str_inj {x y : Str} : D.str x = D.str y ↔ x = y := by simp
theorem hasD_str (x : Str) (l : List Str) : hasD (.str x) (l.map .str) = decide (x ∈ l) := by
  unfold hasD
  induction l with
  | nil => rfl
  | cons y l ih =>
    simp only [List.map_cons, List.any_cons, ih, eqD_str]
    refine Bool.eq_iff_iff.mpr ?_
    simp only [Bool.or_eq_true, beq_iff_eq, decide_eq_true_eq, List.mem_cons]
    exact ⟨fun h => h.imp Eq.symm id, fun h => h.imp Eq.symm id⟩
theorem hasD_pair (x y : Str) (l : List (Str × Str)) : hasD (.tup [.str x, .str y]) (l.map fun p => .tup [.str p.1, .str p.2]) = decide ((x, y) ∈ l) := by
  unfold hasD
  induction l with
  | nil => rfl
  | cons p l ih =>
    obtain ⟨a, b⟩ := p
    simp only [List.map_cons, List.any_cons, ih, eqD_tup, eqAll_cons, eqD_str, eqAll_nil]
    refine Bool.eq_iff_iff.mpr ?_
    simp only [Bool.or_eq_true, Bool.and_eq_true, beq_iff_eq, decide_eq_true_eq, List.mem_cons, Prod.mk.injEq, and_true]
    exact ⟨fun h => h.imp (fun h => ⟨h.1.symm, h.2.symm⟩) id, fun h => h.imp (fun h => ⟨h.1.symm, h.2.symm⟩) id⟩
theorem plain_strs (l : List Str) : plainAll (l.map .str) = true := plainAll_iff.mpr fun x hx => by
  obtain ⟨s, _, rfl⟩ := List.mem_map.mp hx
  rfl
theorem plain_pairs (l : List (Str × Str)) : plainAll (l.map fun p => D.tup [.str p.1, .str p.2]) = true := plainAll_iff.mpr fun x hx => by
  obtain ⟨s, _, rfl⟩ := List.mem_map.mp hx
  rfl
@[simp] theorem inSeq_str (x : Str) (l : List Str) : inSeq (.str x) (l.map .str) = R.pure (decide (x ∈ l)) := by
  rw [inSeq_of rfl (by simp) (plain_strs l), hasD_str]
@[simp] theorem inSeq_pair (x y : Str) (l : List (Str × Str)) : inSeq (.tup [.str x, .str y]) (l.map fun p => .tup [.str p.1, .str p.2]) = R.pure (decide ((x, y) ∈ l)) := by
  rw [inSeq_of rfl (by simp) (plain_pairs l), hasD_pair]
theorem cmpOk_strL (x : Str) {d : D} (h : d.plain = true) : cmpOk (.str x) d = true := by unfold cmpOk; rw [h]; simp
theorem cmpOk_strR (x : Str) {d : D} (h : d.plain = true) : cmpOk d (.str x) = true := by unfold cmpOk; rw [h]; simp
theorem cmpOk_intL (x : Int) {d : D} (h : d.plain = true) : cmpOk (.int x) d = true := by unfold cmpOk; rw [h]; simp
@[simp] theorem cmpOk_ss (x y : Str) : cmpOk (.str x) (.str y) = true := cmpOk_strL x rfl
@[simp] theorem cmpOk_ii (x y : Int) : cmpOk (.int x) (.int y) = true := cmpOk_intL x rfl
@[simp] theorem cmpOk_bb (x y : Bool) : cmpOk (.bl x) (.bl y) = true := by simp [cmpOk]

theorem inSeq_strF {α : Type} (x : Str) (f : α → Str) (l : List α) : inSeq (.str x) (l.map fun y => .str (f y)) = R.pure (decide (∃ y ∈ l, f y = x)) := by
  have := inSeq_str x (l.map f)
  rw [List.map_map] at this
  refine this.trans ?_
  simp
/-! ### the order -/
theorem ltS_irr (x : Str) : ltS x x = false := by unfold ltS; simp [List.lt_irrefl]
theorem ltS_trans {x y z : Str} (h1 : ltS x y = true) (h2 : ltS y z = true) : ltS x z = true := by
  unfold ltS at *
  rw [decide_eq_true_eq] at *
  exact List.lt_trans h1 h2
theorem ltS_enc (x y : Str) : ltS x y = decide (enc (.str x) < enc (.str y)) := ltD_enc (x := .str x) (y := .str y) rfl rfl rfl
theorem ltP_some (p q : Str × Str) : ∃ b, ltD (pD p) (pD q) = some b := by
  simp only [ltD, ltAll]
  by_cases h1 : eqD (.str p.1) (.str q.1) = true <;> by_cases h2 : eqD (.str p.2) (.str q.2) = true <;> simp [h1, h2]
theorem ltP_enc (p q : Str × Str) : ltP p q = decide (enc (pD p) < enc (pD q)) := by
  obtain ⟨b, h⟩ := ltP_some p q
  unfold ltP ltB
  rw [h]
  exact ltD_enc rfl rfl h
theorem pairOk_pair (p q : Str × Str) : pairOk (pD p) (pD q) = true := by
  unfold pairOk
  obtain ⟨b, h⟩ := ltP_some p q
  rw [h]
  simp [cmpOk]
/-- a row of data, each less than all behind it -/
def Asc (xs : List D) : Prop := xs.Pairwise fun x y => enc x < enc y
theorem ascD_map {α : Type} {e : α → D} {lt : α → α → Bool} (hl : ∀ x y, ltB (e x) (e y) = lt x y) (ht : ∀ x y z, lt x y = true → lt y z = true → lt x z = true) :
    ∀ (l : List α), ascD (l.map e) = true ↔ l.Pairwise fun x y => lt x y = true
  | [] => by simp [ascD]
  | [x] => by simp [ascD]
  | x :: y :: r => by
    have ih := ascD_map hl ht (y :: r)
    simp only [List.map_cons, ascD, Bool.and_eq_true, hl] at ih ⊢
    rw [ih, List.pairwise_cons (a := x)]
    constructor
    · rintro ⟨h1, h2⟩
      refine ⟨fun z hz => ?_, h2⟩
      rcases List.mem_cons.mp hz with e | hz
      · rw [e]; exact h1
      · exact ht _ _ _ h1 ((List.pairwise_cons.mp h2).1 z hz)
    · rintro ⟨h1, h2⟩
      exact ⟨h1 y (by simp), h2⟩
theorem ascD_strs (l : List Str) : ascD (l.map .str) = true ↔ l.Pairwise fun x y => ltS x y = true := ascD_map (lt := ltS) (fun _ _ => rfl) (fun _ _ _ => ltS_trans) l
theorem ltP_trans (p q r : Str × Str) (h1 : ltP p q = true) (h2 : ltP q r = true) : ltP p r = true := by
  rw [ltP_enc, decide_eq_true_eq] at *
  exact List.lt_trans h1 h2
theorem ascD_pairs (l : List (Str × Str)) : ascD (l.map fun p => D.tup [.str p.1, .str p.2]) = true ↔ l.Pairwise fun x y => ltP x y = true := ascD_map (lt := ltP) (fun _ _ => rfl) ltP_trans l
theorem asc_strs {l : List Str} (h : l.Pairwise fun x y => ltS x y = true) : Asc (l.map .str) := by
  unfold Asc
  rw [List.pairwise_map]
  exact h.imp fun {a b} h => by rw [ltS_enc, decide_eq_true_eq] at h; exact h
theorem asc_pairs {l : List (Str × Str)} (h : l.Pairwise fun x y => ltP x y = true) : Asc (l.map fun p => D.tup [.str p.1, .str p.2]) := by
  unfold Asc
  rw [List.pairwise_map]
  exact h.imp fun {a b} h => by rw [ltP_enc, decide_eq_true_eq] at h; exact h

/-! ### sorted(set(..)) -/
def sset (xs : List D) : List D := sortD (dedup xs)
theorem addD_mem {acc : List D} {x y : D} (hx : leafOk x = true) (ha : ∀ z ∈ acc, leafOk z = true) : y ∈ addD acc x ↔ y ∈ acc ∨ y = x := by
  unfold addD
  by_cases h : hasD x acc = true
  · rw [if_pos h]
    refine ⟨.inl, fun q => q.elim id fun e => ?_⟩
    unfold hasD at h
    obtain ⟨z, hz, he⟩ := List.any_eq_true.mp h
    rw [eqD_enc (ha z hz) hx, decide_eq_true_eq] at he
    rw [e, ← enc_inj (ha z hz) hx he]
    exact hz
  · rw [if_neg h]
    simp
theorem dedup_go : ∀ (xs acc : List D), (∀ z ∈ xs, leafOk z = true) → (∀ z ∈ acc, leafOk z = true) → acc.Nodup → (∀ y, y ∈ xs.foldl addD acc ↔ y ∈ acc ∨ y ∈ xs) ∧ (xs.foldl addD acc).Nodup
  | [], acc, _, _, hn => ⟨fun y => by simp, hn⟩
  | x :: xs, acc, hx, ha, hn => by
    have h0 := hx x (by simp)
    have ha' : ∀ z ∈ addD acc x, leafOk z = true := fun z hz => by
      rcases (addD_mem h0 ha).mp hz with q | q
      · exact ha z q
      · rw [q]; exact h0
    have hn' : (addD acc x).Nodup := by
      unfold addD
      split
      · exact hn
      · rename_i h
        rw [List.nodup_append]
        refine ⟨hn, by simp, fun a b hb hx2 e => h ?_⟩
        rw [List.mem_singleton] at hx2
        subst e
        unfold hasD
        rw [List.any_eq_true]
        exact ⟨a, b, by rw [eqD_enc (ha a b) h0, hx2, decide_eq_true rfl]⟩
    obtain ⟨h1, h2⟩ := dedup_go xs (addD acc x) (fun z hz => hx z (List.mem_cons_of_mem _ hz)) ha' hn'
    refine ⟨fun y => ?_, h2⟩
    rw [List.foldl_cons, h1 y, addD_mem h0 ha, List.mem_cons, or_assoc]
theorem dedup_mem {xs : List D} (h : ∀ z ∈ xs, leafOk z = true) (y : D) : y ∈ dedup xs ↔ y ∈ xs := by
  unfold dedup
  rw [(dedup_go xs [] h (by simp) (by simp)).1 y]
  simp
theorem dedup_nodup {xs : List D} (h : ∀ z ∈ xs, leafOk z = true) : (dedup xs).Nodup := (dedup_go xs [] h (by simp) (by simp)).2
theorem addD_len (acc : List D) (x : D) : (addD acc x).length ≤ acc.length + 1 := by
  unfold addD
  split
  · omega
  · simp
theorem foldl_addD_len : ∀ (xs acc : List D), (xs.foldl addD acc).length ≤ acc.length + xs.length
  | [], acc => by simp
  | x :: xs, acc => by
    have h1 := foldl_addD_len xs (addD acc x)
    have h2 := addD_len acc x
    simp only [List.foldl_cons, List.length_cons]
    omega
theorem dedup_len (xs : List D) : (dedup xs).length ≤ xs.length := by
  have := foldl_addD_len xs []
  rw [List.length_nil, Nat.zero_add] at this
  exact this
theorem sset_mem {xs : List D} (h : ∀ z ∈ xs, leafOk z = true) (y : D) : y ∈ sset xs ↔ y ∈ xs := by
  unfold sset
  rw [(sortD_perm _).mem_iff, dedup_mem h]
theorem sset_asc {xs : List D} (h : ∀ z ∈ xs, leafOk z = true) : Asc (sset xs) := by
  have hl : ∀ z ∈ dedup xs, leafOk z = true := fun z hz => h z ((dedup_mem h z).mp hz)
  have h1 : (sset xs).Nodup := (sortD_perm (dedup xs)).nodup_iff.mpr (dedup_nodup h)
  have h2 := sortD_sorted (dedup xs)
  unfold Asc
  unfold List.Nodup at h1
  refine (h1.and h2).imp_of_mem fun {a b} ha hb q => ?_
  have ha := (sset_mem h a).mp ha
  have hb := (sset_mem h b).mp hb
  rcases List.le_iff_lt_or_eq.mp (List.not_lt.mp q.2) with z | z
  · exact z
  · exact absurd (enc_inj (h a ha) (h b hb) z) q.1
theorem asc_uniq {xs ys : List D} (h1 : Asc xs) (h2 : Asc ys) (hm : ∀ d, d ∈ xs ↔ d ∈ ys) : xs = ys := by
  have n1 : xs.Nodup := h1.imp fun {a b} q e => by rw [e] at q; exact List.lt_irrefl _ q
  have n2 : ys.Nodup := h2.imp fun {a b} q e => by rw [e] at q; exact List.lt_irrefl _ q
  have p : xs.Perm ys := (List.perm_ext_iff_of_nodup n1 n2).mpr hm
  refine List.Perm.eq_of_pairwise (le := fun a b => enc a < enc b) (fun a b _ _ h1 h2 => ?_) h1 h2 p
  exact absurd (List.lt_trans h1 h2) (List.lt_irrefl _)
theorem sset_eq {xs ys : List D} (h : ∀ z ∈ xs, leafOk z = true) (ha : Asc ys) (hm : ∀ d, d ∈ ys ↔ d ∈ xs) : sset xs = ys :=
  asc_uniq (sset_asc h) ha fun d => by rw [sset_mem h, hm]
theorem leaf_strs (l : List Str) : ∀ z ∈ l.map D.str, leafOk z = true := fun z hz => by
  obtain ⟨s, _, rfl⟩ := List.mem_map.mp hz
  rfl
theorem leaf_pairs (l : List (Str × Str)) : ∀ z ∈ l.map (fun p => D.tup [.str p.1, .str p.2]), leafOk z = true := fun z hz => by
  obtain ⟨s, _, rfl⟩ := List.mem_map.mp hz
  rfl
/-- the lot of some words -/
theorem sset_strs {l m : List Str} (ha : m.Pairwise fun x y => ltS x y = true) (hm : ∀ x, x ∈ m ↔ x ∈ l) : sset (l.map .str) = m.map .str :=
  sset_eq (leaf_strs l) (asc_strs ha) fun d => by
    simp only [List.mem_map]
    exact ⟨fun ⟨a, h, e⟩ => ⟨a, (hm a).mp h, e⟩, fun ⟨a, h, e⟩ => ⟨a, (hm a).mpr h, e⟩⟩
/-- what a row of words becomes -/
theorem sset_strs_ex (l : List Str) : ∃ m : List Str, sset (l.map .str) = m.map .str ∧ (m.Pairwise fun x y => ltS x y = true) ∧ ∀ x, x ∈ m ↔ x ∈ l := by
  have h1 := sset_asc (leaf_strs l)
  have h2 := sset_mem (leaf_strs l)
  have key : ∀ ys : List D, (∀ y ∈ ys, y ∈ l.map D.str) → ∃ m : List Str, ys = m.map .str := by
    intro ys
    induction ys with
    | nil => intro _; exact ⟨[], rfl⟩
    | cons y ys ih =>
      intro h
      obtain ⟨m, e⟩ := ih fun z hz => h z (List.mem_cons_of_mem _ hz)
      obtain ⟨s, _, es⟩ := List.mem_map.mp (h y (by simp))
      exact ⟨s :: m, by rw [e, ← es]; rfl⟩
  obtain ⟨m, e⟩ := key (sset (l.map .str)) fun y hy => (h2 y).mp hy
  refine ⟨m, e, ?_, fun x => ?_⟩
  · rw [e] at h1
    unfold Asc at h1
    rw [List.pairwise_map] at h1
    exact h1.imp fun {a b} q => by rw [ltS_enc]; exact decide_eq_true q
  · have := h2 (.str x)
    rw [e] at this
    simpa using this
theorem sset_pairs {l m : List (Str × Str)} (ha : m.Pairwise fun x y => ltP x y = true) (hm : ∀ x, x ∈ m ↔ x ∈ l) : sset (l.map fun p => D.tup [.str p.1, .str p.2]) = m.map fun p => D.tup [.str p.1, .str p.2] :=
  sset_eq (leaf_pairs l) (asc_pairs ha) fun d => by
    simp only [List.mem_map]
    exact ⟨fun ⟨a, h, e⟩ => ⟨a, (hm a).mp h, e⟩, fun ⟨a, h, e⟩ => ⟨a, (hm a).mpr h, e⟩⟩
theorem sset_pairs_ex (l : List (Str × Str)) : ∃ m : List (Str × Str), sset (l.map fun p => D.tup [.str p.1, .str p.2]) = (m.map fun p => D.tup [.str p.1, .str p.2]) ∧ (m.Pairwise fun x y => ltP x y = true) ∧ ∀ x, x ∈ m ↔ x ∈ l := by
  have h1 := sset_asc (leaf_pairs l)
  have h2 := sset_mem (leaf_pairs l)
  have key : ∀ ys : List D, (∀ y ∈ ys, y ∈ l.map fun p => D.tup [.str p.1, .str p.2]) → ∃ m : List (Str × Str), ys = m.map fun p => D.tup [.str p.1, .str p.2] := by
    intro ys
    induction ys with
    | nil => intro _; exact ⟨[], rfl⟩
    | cons y ys ih =>
      intro h
      obtain ⟨m, e⟩ := ih fun z hz => h z (List.mem_cons_of_mem _ hz)
      obtain ⟨s, _, es⟩ := List.mem_map.mp (h y (by simp))
      exact ⟨s :: m, by rw [e, ← es]; rfl⟩
  obtain ⟨m, e⟩ := key (sset (l.map fun p => D.tup [.str p.1, .str p.2])) fun y hy => (h2 y).mp hy
  refine ⟨m, e, ?_, fun x => ?_⟩
  · rw [e] at h1
    unfold Asc at h1
    rw [List.pairwise_map] at h1
    exact h1.imp fun {a b} q => by rw [ltP_enc]; exact decide_eq_true q
  · have := h2 (pD x)
    rw [e] at this
    obtain ⟨a, b⟩ := x
    simpa using this
/-! ### what sorted(..) and sorted(set(..)) ask for -/
theorem kindOk_tag {n : Nat} (hn : n = 1 ∨ n = 2) {ys : List D} (h : ∀ y ∈ ys, tagD y = n) : kindOk ys = true := kindOk_iff.mpr (.inr (.inl ⟨n, hn, h⟩))
theorem kindOk_fst {n : Nat} (hn : n ≠ 0) {ys : List D} (h : ∀ y ∈ ys, fstTag y = n) : kindOk ys = true := kindOk_iff.mpr (.inr (.inr (.inl ⟨n, hn, h⟩)))
theorem sameSort_S {ys : List D} (h : ∀ y ∈ ys, ∃ s, y = .str s) : sameSort ys = true := by
  unfold sameSort
  simp only [Bool.and_eq_true, List.all_eq_true]
  refine ⟨fun y hy => ?_, kindOk_tag (n := 2) (.inr rfl) fun y hy => ?_, fun x hx y hy => ?_⟩
  · obtain ⟨s, rfl⟩ := h y hy; rfl
  · obtain ⟨s, rfl⟩ := h y hy; rfl
  · obtain ⟨s, rfl⟩ := h x hx
    obtain ⟨t, rfl⟩ := h y hy
    exact pairOk_str s t
theorem sameSort_P {ys : List D} (h : ∀ y ∈ ys, ∃ p : Str × Str, y = pD p) : sameSort ys = true := by
  unfold sameSort
  simp only [Bool.and_eq_true, List.all_eq_true]
  refine ⟨fun y hy => ?_, kindOk_fst (n := 2) (by decide) fun y hy => ?_, fun x hx y hy => ?_⟩
  · obtain ⟨s, rfl⟩ := h y hy; rfl
  · obtain ⟨s, rfl⟩ := h y hy; rfl
  · obtain ⟨s, rfl⟩ := h x hx
    obtain ⟨t, rfl⟩ := h y hy
    exact pairOk_pair s t
theorem blt_sset {xs : List D} (h1 : setOk xs = true) (h2 : sameSort (dedup xs) = true) : bltR .sortedSet [.lst xs] = R.pure (.lst (sset xs)) := by
  show R.need (setOk xs) (sortR (dedup xs)) = _
  rw [R.need_of h1]
  exact R.need_of h2 _
theorem blt_ssetT {xs : List D} (h1 : setOk xs = true) (h2 : sameSort (dedup xs) = true) : bltR .sortedSet [.tup xs] = R.pure (.lst (sset xs)) := by
  show R.need (setOk xs) (sortR (dedup xs)) = _
  rw [R.need_of h1]
  exact R.need_of h2 _
theorem setOk_S {xs : List D} (h : ∀ y ∈ xs, ∃ s, y = .str s) (hl : xs.length ≤ 3900) : setOk xs = true ∧ sameSort (dedup xs) = true := by
  have hf : ∀ y ∈ xs, leafOk y = true := fun y hy => by obtain ⟨s, rfl⟩ := h y hy; rfl
  constructor
  · unfold setOk
    rw [decide_eq_true hl, Bool.true_and, Bool.or_eq_true]
    left
    rw [List.all_eq_true]
    intro y hy
    obtain ⟨s, rfl⟩ := h y hy
    rfl
  · exact sameSort_S fun y hy => h y ((dedup_mem hf y).mp hy)
theorem setOk_P {xs : List D} (h : ∀ y ∈ xs, ∃ p : Str × Str, y = pD p) (hl : xs.length ≤ 3900) (hd : (dedup xs).length ≤ 75) : setOk xs = true ∧ sameSort (dedup xs) = true := by
  have hf : ∀ y ∈ xs, leafOk y = true := fun y hy => by obtain ⟨s, rfl⟩ := h y hy; rfl
  constructor
  · unfold setOk
    rw [decide_eq_true hl, Bool.true_and, Bool.or_eq_true]
    right
    rw [decide_eq_true hd, Bool.and_true, List.all_eq_true]
    intro y hy
    obtain ⟨s, rfl⟩ := h y hy
    rfl
  · exact sameSort_P fun y hy => h y ((dedup_mem hf y).mp hy)
/-- sorted(set(..)) of words -/
theorem sset_S (l : List Str) (hl : l.length ≤ 3900) : bltR .sortedSet [.lst (l.map .str)] = R.pure (.lst (sset (l.map .str))) := by
  obtain ⟨h1, h2⟩ := setOk_S (xs := l.map .str) (fun y hy => by obtain ⟨s, _, rfl⟩ := List.mem_map.mp hy; exact ⟨s, rfl⟩) (by rw [List.length_map]; exact hl)
  exact blt_sset h1 h2
theorem sset_ST (l : List Str) (hl : l.length ≤ 3900) : bltR .sortedSet [.tup (l.map .str)] = R.pure (.lst (sset (l.map .str))) := sset_S l hl
/-- .. of pairs of words -/
theorem sset_P (l : List (Str × Str)) (hl : l.length ≤ 3900) (hd : (dedup (l.map fun p => D.tup [.str p.1, .str p.2])).length ≤ 75) : bltR .sortedSet [.lst (l.map fun p => D.tup [.str p.1, .str p.2])] = R.pure (.lst (sset (l.map fun p => D.tup [.str p.1, .str p.2]))) := by
  obtain ⟨h1, h2⟩ := setOk_P (xs := l.map fun p => D.tup [.str p.1, .str p.2]) (fun y hy => by obtain ⟨s, _, rfl⟩ := List.mem_map.mp hy; exact ⟨s, rfl⟩) (by rw [List.length_map]; exact hl) hd
  exact blt_sset h1 h2
end Ny
namespace Ny
open PySem
/-! ### what is a net -/
def isRowD (n : Nat) : D → Bool
  | .tup xs => xs.length == n
  | _ => false
def isStrD : D → Bool
  | .str _ => true
  | _ => false
def isAttD (pts : List D) : D → Bool
  | .tup xs => xs.length == 2 && allB (fun x => isStrD x && hasD x pts) xs
  | _ => false
def isNetD : D → Bool
  | .tup [.tup a, .tup b] => isLotD (.tup a) && (allB (isAttD a) b && ascD b)
  | _ => false
def isPointD (pts : List Str) : D → Bool
  | .str x => decide (x ∈ pts)
  | _ => false
def isLotInD (pts : List Str) : D → Bool
  | .tup xs => isLotD (.tup xs) && allB (fun x => hasD x (pts.map .str)) xs
  | _ => false
theorem isWordD_inv {d : D} (h : isWordD d = true) : ∃ x, d = .str x ∧ isWordS x = true := by
  cases d with
  | str x => exact ⟨x, rfl, h⟩
  | _ => cases h
theorem isStrD_inv {d : D} (h : isStrD d = true) : ∃ x, d = .str x := by
  cases d with
  | str x => exact ⟨x, rfl⟩
  | _ => cases h
theorem isAttD_inv {pts : List D} {d : D} (h : isAttD pts d = true) : ∃ x y, d = .tup [.str x, .str y] := by
  cases d with
  | tup xs =>
    unfold isAttD at h
    rw [Bool.and_eq_true, beq_iff_eq, allB_iff] at h
    obtain ⟨h1, h2⟩ := h
    match xs, h1 with
    | [a, b], _ =>
      have ha := h2 a (by simp)
      have hb := h2 b (by simp)
      rw [Bool.and_eq_true] at ha hb
      obtain ⟨x, rfl⟩ := isStrD_inv ha.1
      obtain ⟨y, rfl⟩ := isStrD_inv hb.1
      exact ⟨x, y, rfl⟩
  | _ => cases h
/-- a net -/
structure GNet (n : Net) : Prop where
  word : ∀ w ∈ n.1, isWordS w = true
  asc : n.1.Pairwise fun x y => ltS x y = true
  ends : ∀ p ∈ n.2, p.1 ∈ n.1 ∧ p.2 ∈ n.1
  ascP : n.2.Pairwise fun x y => ltP x y = true
  fewP : n.1.length ≤ 1000
  fewA : n.2.length ≤ 1000
theorem word_short {x : Str} (h : isWordS x = true) : x.length ≤ 8 := by
  unfold isWordS isWordL at h
  show x.cps.toList.length ≤ 8
  split at h
  · cases h
  · rename_i e
    rw [e]
    simp only [Bool.and_eq_true, decide_eq_true_eq] at h
    simp only [List.length_cons]
    omega
theorem fine_strs {l : List Str} (h : ∀ w ∈ l, isWordS w = true) (hl : l.length ≤ 1000000) : fineD (tL l) = true := by
  rw [fineD_tup, Bool.and_eq_true, decide_eq_true_eq, fineAll_iff, List.length_map]
  refine ⟨hl, fun x hx => ?_⟩
  obtain ⟨s, hs, rfl⟩ := List.mem_map.mp hx
  have := word_short (h s hs)
  rw [fineD_str, decide_eq_true_eq]
  omega
theorem isLotD_strs {l : List Str} (h : ∀ w ∈ l, isWordS w = true) (ha : l.Pairwise fun x y => ltS x y = true) : isLotD (tL l) = true := by
  unfold isLotD
  rw [Bool.and_eq_true, ascD_strs, allB_iff]
  refine ⟨fun x hx => ?_, ha⟩
  obtain ⟨s, hs, rfl⟩ := List.mem_map.mp hx
  exact h s hs
section
variable {n : Net} (g : GNet n)
include g
theorem GNet.finePts : fineD (tL n.1) = true := fine_strs g.word (by have := g.fewP; omega)
theorem GNet.fineAtt : fineD (tP n.2) = true := by
  rw [fineD_tup, Bool.and_eq_true, decide_eq_true_eq, fineAll_iff, List.length_map]
  refine ⟨by have := g.fewA; omega, fun x hx => ?_⟩
  obtain ⟨p, hp, rfl⟩ := List.mem_map.mp hx
  obtain ⟨h1, h2⟩ := g.ends p hp
  have h1 := word_short (g.word _ h1)
  have h2 := word_short (g.word _ h2)
  simp
  omega
theorem GNet.fine : fineD (nD n) = true := by
  have h1 := g.finePts
  have h2 := g.fineAtt
  rw [fineD_tup]
  simp only [fineAll_cons, h1, h2, fineAll_nil]
  rfl
theorem GNet.isNet : isNetD (nD n) = true := by
  show (isLotD (tL n.1) && (allB (isAttD (n.1.map .str)) _ && ascD _)) = true
  rw [isLotD_strs g.word g.asc, (ascD_pairs n.2).mpr g.ascP, Bool.true_and, Bool.and_true, allB_iff]
  intro x hx
  obtain ⟨p, hp, rfl⟩ := List.mem_map.mp hx
  obtain ⟨h1, h2⟩ := g.ends p hp
  simp [isAttD, allB, isStrD, hasD_str, h1, h2]
theorem GNet.few1 : few n.1.length := by have := g.fewP; unfold few; omega
theorem GNet.few2 : few n.2.length := by have := g.fewA; unfold few; omega
end
theorem isLotInD_of {pts l : List Str} (hw : ∀ w ∈ l, isWordS w = true) (ha : l.Pairwise fun x y => ltS x y = true) (hs : ∀ w ∈ l, w ∈ pts) : isLotInD pts (tL l) = true := by
  show (isLotD (tL l) && allB _ _) = true
  rw [isLotD_strs hw ha, Bool.true_and, allB_iff]
  intro x hx
  obtain ⟨s, hs', rfl⟩ := List.mem_map.mp hx
  rw [hasD_str]
  exact decide_eq_true (hs s hs')
end Ny
namespace Ny
open PySem
theorem chAt_lt {x : Str} {r : Nat} (hf : few x.length) (hr : r < x.cps.toList.length) : ∃ c ∈ x.cps.toList, chAt x (r : Int) = R.pure (.str ⟨#[c]⟩) :=
  ⟨x.cps.toList[r], List.getElem_mem hr, chAt_nat hf (List.getElem?_eq_getElem hr)⟩
theorem atD_lt {xs : List D} {r : Nat} (hr : r < xs.length) : ∃ d ∈ xs, atD xs (r : Int) = R.pure d := ⟨xs[r], List.getElem_mem hr, atD_nat (List.getElem?_eq_getElem hr)⟩
/-- one more than fits is left out of a shorter row -/
theorem missing {α : Type} [DecidableEq α] : ∀ (l D : List α), l.Nodup → D.length < l.length → ∃ x ∈ l, x ∉ D
  | [], D, _, h => by simp at h
  | x :: l, D, hn, h => by
    by_cases hx : x ∈ D
    · obtain ⟨hn1, hn2⟩ := List.nodup_cons.mp hn
      have hl : (D.erase x).length = D.length - 1 := List.length_erase_of_mem hx
      have h0 : 0 < D.length := List.length_pos_of_mem hx
      obtain ⟨y, hy, hy2⟩ := missing l (D.erase x) hn2 (by simp only [List.length_cons] at h; omega)
      refine ⟨y, List.mem_cons_of_mem _ hy, fun z => hy2 ?_⟩
      have ne : y ≠ x := fun e => hn1 (by rw [← e]; exact hy)
      exact (List.mem_erase_of_ne ne).mpr z
    · exact ⟨x, by simp, hx⟩
theorem str_app_cps (x y : Str) : (x ++ y).cps.toList = x.cps.toList ++ y.cps.toList := by
  show (x.cps ++ y.cps).toList = _
  rw [Array.toList_append]
theorem str_len (x : Str) : x.length = x.cps.toList.length := rfl
theorem dedup_id {xs : List D} (hn : xs.Nodup) (hl : ∀ z ∈ xs, leafOk z = true) : dedup xs = xs := by
  have key : ∀ (r acc : List D), (acc ++ r).Nodup → (∀ z ∈ acc ++ r, leafOk z = true) → r.foldl addD acc = acc ++ r := by
    intro r
    induction r with
    | nil => intro acc _ _; simp
    | cons x r ih =>
      intro acc h1 h2
      have : addD acc x = acc ++ [x] := by
        unfold addD
        refine if_neg fun c => ?_
        unfold hasD at c
        obtain ⟨y, hy, e⟩ := List.any_eq_true.mp c
        have l1 := h2 y (by simp [hy])
        have l2 := h2 x (by simp)
        rw [eqD_enc l1 l2, decide_eq_true_eq] at e
        have e := enc_inj l1 l2 e
        subst e
        exact absurd rfl ((List.nodup_append.mp h1).2.2 y hy y (by simp))
      rw [List.foldl_cons, this, ih (acc ++ [x]) (by simpa using h1) (by simpa using h2)]
      simp
  have := key xs [] (by rw [List.nil_append]; exact hn) (by rw [List.nil_append]; exact hl)
  rw [List.nil_append] at this
  exact this
/-- sorted(..) of unlike words -/
theorem sort_strs {l : List Str} (hn : l.Nodup) : bltR .sorted [.lst (l.map .str)] = R.pure (.lst (sortD (l.map .str))) ∧ ∃ m : List Str, sortD (l.map .str) = m.map .str ∧ (m.Pairwise fun x y => ltS x y = true) ∧ m.Perm l := by
  refine ⟨R.need_of (sameSort_S fun y hy => by obtain ⟨s, _, rfl⟩ := List.mem_map.mp hy; exact ⟨s, rfl⟩) _, ?_⟩
  have hd : dedup (l.map D.str) = l.map .str := dedup_id (List.Pairwise.map _ (fun a b h e => h (str_inj.mp e)) hn) (leaf_strs l)
  obtain ⟨m, h1, h2, h3⟩ := sset_strs_ex l
  unfold sset at h1
  rw [hd] at h1
  refine ⟨m, h1, h2, ?_⟩
  have nm : m.Nodup := h2.imp fun {a b} q e => by rw [e, ltS_irr] at q; cases q
  exact (List.perm_ext_iff_of_nodup nm hn).mpr h3
theorem pD_inj {p q : Str × Str} : D.tup [.str p.1, .str p.2] = D.tup [.str q.1, .str q.2] ↔ p = q := by
  obtain ⟨a, b⟩ := p
  obtain ⟨c, d⟩ := q
  simp
/-- a dict whose keys are pairs of words -/
def kvP (ps : List (Str × Str)) : List (D × D) := ps.map fun p => (.tup [.str p.1, .str p.2], .bl true)
def insP (ps : List (Str × Str)) (p : Str × Str) : List (Str × Str) := if p ∈ ps then ps else ps ++ [p]
theorem putD_P (ps : List (Str × Str)) (a b : Str) : putD (.tup [.str a, .str b]) (.bl true) (kvP ps) = kvP (insP ps (a, b)) := by
  have e : (kvP ps).any (fun kv => eqD kv.1 (.tup [.str a, .str b])) = decide ((a, b) ∈ ps) := by
    rw [← hasD_pair]
    unfold hasD kvP
    rw [List.any_map, List.any_map]
    rfl
  unfold putD
  rw [e]
  unfold insP
  by_cases h : (a, b) ∈ ps
  · rw [if_pos (decide_eq_true h), if_pos h]
    unfold kvP
    rw [List.map_map]
    refine List.map_congr_left fun p _ => ?_
    simp
  · rw [if_neg (by simpa using h), if_neg h]
    simp [kvP]
theorem insP_mem {ps : List (Str × Str)} {p q : Str × Str} : q ∈ insP ps p ↔ q ∈ ps ∨ q = p := by
  unfold insP
  split
  · rename_i h
    exact ⟨.inl, fun z => z.elim id fun e => by rw [e]; exact h⟩
  · simp
theorem insP_nodup {ps : List (Str × Str)} {p : Str × Str} (h : ps.Nodup) : (insP ps p).Nodup := by
  unfold insP
  split
  · exact h
  · rename_i hp
    rw [List.nodup_append]
    refine ⟨h, by simp, fun a ha b hb e => hp ?_⟩
    rw [List.mem_singleton] at hb
    rw [← hb, ← e]
    exact ha
theorem insP_len (ps : List (Str × Str)) (p : Str × Str) : (insP ps p).length ≤ ps.length + 1 := by
  unfold insP
  split
  · omega
  · simp
theorem put_own_P {σ : Env} {i : Nat} {ps : List (Str × Str)} (hσ : σ[i]? = some (.own (.dct true (kvP ps)))) (hl : few ps.length) (a b : Str) :
    turnS σ i (putMO true (.tup [.str a, .str b]) (.bl true)) = S.done .nx (σ.set i (.own (.dct true (kvP (insP ps (a, b)))))) := by
  refine turn_own (o := .dct true (kvP ps)) (o' := .dct true (kvP (insP ps (a, b)))) hσ rfl ?_
  have hb : decide ((kvP ps).length < sizeLine) = true := decide_eq_true (Nat.lt_of_le_of_lt (by unfold kvP; rw [List.length_map]; exact hl) (by decide))
  show (if keyTk true (.tup [.str a, .str b]) && ((true || !true) && decide ((kvP ps).length < sizeLine)) then some (MO.dct true (putD _ _ _)) else none) = _
  rw [hb, putD_P]
  rfl
theorem sort_kvP {ps : List (Str × Str)} (hn : ps.Nodup) : ∃ m : List (Str × Str), bltR .sorted [.dct true (kvP ps)] = R.pure (.lst (m.map fun p => .tup [.str p.1, .str p.2])) ∧ (m.Pairwise fun x y => ltP x y = true) ∧ m.Perm ps := by
  have e : (kvP ps).map (·.1) = ps.map fun p => .tup [.str p.1, .str p.2] := by unfold kvP; rw [List.map_map]; rfl
  have e1 : bltR .sorted [.dct true (kvP ps)] = sortR ((kvP ps).map (·.1)) := rfl
  have e2 : sortR (ps.map fun p => .tup [.str p.1, .str p.2]) = R.pure (.lst (sortD (ps.map fun p => .tup [.str p.1, .str p.2]))) :=
    R.need_of (sameSort_P fun y hy => by obtain ⟨s, _, rfl⟩ := List.mem_map.mp hy; exact ⟨s, rfl⟩) _
  have hd := dedup_id (List.Pairwise.map (fun p : Str × Str => D.tup [.str p.1, .str p.2]) (fun a b h e => h (pD_inj.mp e)) hn) (leaf_pairs ps)
  obtain ⟨m, h1, h2, h3⟩ := sset_pairs_ex ps
  unfold sset at h1
  rw [hd] at h1
  refine ⟨m, by rw [e1, e, e2, h1], h2, ?_⟩
  have nm : m.Nodup := h2.imp fun {a b} q e => by rw [e] at q; rw [ltP_enc, decide_eq_true_eq] at q; exact List.lt_irrefl _ q
  exact (List.perm_ext_iff_of_nodup nm hn).mpr h3
@[simp] theorem isTupE_tup (es : NEs) : isTupE (.tup es) = true := (rfl)
@[simp] theorem isTupE_cst (d : D) : isTupE (.cst d) = false := (rfl)
@[simp] theorem isTupE_var (d : Nat) : isTupE (.var d) = false := (rfl)
theorem depAll_strs (l : List Str) : depAll (l.map D.str) = 0 := Nat.le_zero.mp (depAll_le.mpr fun x hx => by obtain ⟨s, _, rfl⟩ := List.mem_map.mp hx; exact Nat.le_refl 0)
theorem depAll_pairs (l : List (Str × Str)) : depAll (l.map fun p => D.tup [.str p.1, .str p.2]) ≤ 1 := depAll_le.mpr fun x hx => by obtain ⟨s, _, rfl⟩ := List.mem_map.mp hx; simp
theorem GNet.fineS {n : Net} (g : GNet n) {l : List Str} (h : ∀ w ∈ l, w ∈ n.1) (hl : l.length ≤ 1000) : fineD (tL l) = true := fine_strs (fun w hw => g.word w (h w hw)) (by omega)
theorem GNet.fineP {n : Net} (g : GNet n) {l : List (Str × Str)} (h : ∀ p ∈ l, p ∈ n.2) (hl : l.length ≤ 1000) : fineD (tP l) = true := by
  rw [fineD_tup, Bool.and_eq_true, decide_eq_true_eq, fineAll_iff, List.length_map]
  refine ⟨by omega, fun x hx => ?_⟩
  obtain ⟨p, hp, rfl⟩ := List.mem_map.mp hx
  obtain ⟨h1, h2⟩ := g.ends p (h p hp)
  have h1 := word_short (g.word _ h1)
  have h2 := word_short (g.word _ h2)
  simp
  omega
theorem nodup_sub_len {α : Type} {l m : List α} (hn : l.Nodup) (h : ∀ x ∈ l, x ∈ m) : l.length ≤ m.length := by
  refine Nat.le_of_not_lt fun c => ?_
  obtain ⟨x, hx, hm⟩ := @missing α (fun a b => Classical.propDecidable (a = b)) l m hn c
  exact hm (h x hx)
theorem dedup_le {xs ys : List D} (hl : ∀ z ∈ xs, leafOk z = true) (h : ∀ x ∈ xs, x ∈ ys) : (dedup xs).length ≤ ys.length :=
  nodup_sub_len (dedup_nodup hl) fun x hx => h x ((dedup_mem hl x).mp hx)
theorem cut_sub {α : Type} {xs : List α} {lo hi : Option Int} {x : α} (h : x ∈ cut xs lo hi) : x ∈ xs := List.mem_of_mem_drop (List.mem_of_mem_take h)
end Ny

set_option maxHeartbeats 200000
/-! Pl: rules for slices, walks of pairs, dicts. -/
namespace Ny
open PySem
@[simp] theorem bndR_none (d : D) : bndR (.cst .non) d = some none := (rfl)
@[simp] theorem bndR_cst (i j : Int) : bndR (.cst (.int i)) (.int j) = some (some j) := (rfl)
@[simp] theorem bndR_var (i : Nat) (j : Int) : bndR (.var i) (.int j) = some (some j) := (rfl)
@[simp] theorem bndR_bin (o : Operator) (a b : NE) (j : Int) : bndR (.bin o a b) (.int j) = some (some j) := (rfl)
@[simp] theorem seqV_tup (xs : List D) : seqV (.tup xs) = some xs := (rfl)
@[simp] theorem seqV_lst (xs : List D) : seqV (.lst xs) = some xs := (rfl)
@[simp] theorem seqV_ro (xs : List D) : seqV (.ro xs) = some xs := (rfl)
@[simp] theorem zipV_tup (xs ys : List D) : zipV (.tup xs) (.tup ys) = some (zipD xs ys) := (rfl)
@[simp] theorem zipV_lst (xs ys : List D) : zipV (.lst xs) (.lst ys) = some (zipD xs ys) := (rfl)
@[simp] theorem zipD_nil (ys : List D) : zipD [] ys = [] := (rfl)
@[simp] theorem zipD_cons (x y : D) (xs ys : List D) : zipD (x :: xs) (y :: ys) = .tup [x, y] :: zipD xs ys := (rfl)
@[simp] theorem slR_tup (xs : List D) (lo hi : Option Int) : slR (.tup xs) lo hi = R.pure (.tup (cut xs lo hi)) := (rfl)
@[simp] theorem slR_lst (xs : List D) (lo hi : Option Int) : slR (.lst xs) lo hi = R.pure (.lst (cut xs lo hi)) := (rfl)
@[simp] theorem slR_ro (xs : List D) (lo hi : Option Int) : slR (.ro xs) lo hi = R.pure (.lst (cut xs lo hi)) := (rfl)
theorem not_neg (n : Nat) : ¬ ((n : Int) < 0) := by omega
theorem cutAt_nat (n d i : Nat) : cutAt n d (some (i : Int)) = min i n := by
  show (if (i : Int) < 0 then ((i : Int) + (n : Int)).toNat else min (i : Int).toNat n) = _
  rw [if_neg (not_neg i), Int.toNat_natCast]
theorem cutAt_none (n d : Nat) : cutAt n d none = d := rfl
theorem cut_to (xs : List D) (n : Nat) : cut xs none (some (n : Int)) = xs.take n := by
  unfold cut
  rw [cutAt_nat, cutAt_none, List.drop_zero, Nat.sub_zero, List.take_eq_take_iff]
  omega
theorem cut_from (xs : List D) (n : Nat) : cut xs (some (n : Int)) none = xs.drop n := by
  unfold cut
  rw [cutAt_nat, cutAt_none]
  by_cases h : n ≤ xs.length
  · rw [Nat.min_eq_left h, List.take_of_length_le (by rw [List.length_drop]; exact Nat.le_refl _)]
  · rw [Nat.min_eq_right (by omega), List.drop_of_length_le (Nat.le_refl _), List.drop_of_length_le (by omega)]
    simp
theorem mul_c (x : Int) (c : Int) (h : small64 c = true) : opR .Mult (.int x) (.int c) = R.pure (.int (x * c)) := opR_mul_int (by unfold mulOk; rw [h]; simp)
end Ny
namespace Ny
open PySem
theorem zipD_self : ∀ xs : List D, zipD xs xs = xs.map fun x => .tup [x, x]
  | [] => rfl
  | x :: xs => by rw [zipD_cons, zipD_self xs]; rfl
end Ny
namespace Ny
open PySem
section
variable (T : Tab) (C : Call) (σ : Env)
@[simp] theorem ev_inK (neg : Bool) (a : NE) (xs : List D) (t : Bool) : ev T C (.inK neg a xs) σ t = tstR t (R.bind (contOr a σ (ev T C a σ false)) fun d => R.bind (inSeq d xs) fun c => R.pure (.bl (ntB neg c))) := (rfl)
end
@[simp] theorem ntB_true (b : Bool) : ntB true b = !b := (rfl)
@[simp] theorem ntB_false (b : Bool) : ntB false b = b := (rfl)
end Ny

set_option maxHeartbeats 200000
/-! Pl: ints as sets of places; lots of points as such. -/
namespace Ny
open PySem
/-! ### & | ~ of ints that are no less than 0 -/
theorem band_nat (a b : Nat) : Builtin.bitAnd (a : Int) (b : Int) = ((a &&& b : Nat) : Int) := by
  simp [Builtin.bitAnd]
theorem bor_nat (a b : Nat) : Builtin.bitOr (a : Int) (b : Int) = ((a ||| b : Nat) : Int) := by
  have h1 : decide (0 ≤ Builtin.bitNot (a : Int)) = false := decide_eq_false (by unfold Builtin.bitNot; omega)
  have h2 : decide (0 ≤ Builtin.bitNot (b : Int)) = false := decide_eq_false (by unfold Builtin.bitNot; omega)
  have e : ∀ x : Int, Builtin.bitNot (Builtin.bitNot x) = x := fun x => by unfold Builtin.bitNot; omega
  unfold Builtin.bitOr Builtin.bitAnd
  rw [h1, h2]
  simp only [e, Int.toNat_natCast]
/-- a & ~b -/
def sub2 (a b : Nat) : Nat := a - (a &&& b)
theorem bsub_nat (a b : Nat) : Builtin.bitAnd (a : Int) (Builtin.bitNot (b : Int)) = ((sub2 a b : Nat) : Int) := by
  have h1 : decide (0 ≤ (a : Int)) = true := decide_eq_true (by omega)
  have h2 : decide (0 ≤ Builtin.bitNot (b : Int)) = false := decide_eq_false (by unfold Builtin.bitNot; omega)
  have e : ∀ x : Int, Builtin.bitNot (Builtin.bitNot x) = x := fun x => by unfold Builtin.bitNot; omega
  unfold Builtin.bitAnd
  rw [h1, h2]
  simp only [e, Int.toNat_natCast]
  unfold sub2
  have := @Nat.and_le_left a b
  omega
theorem sub2_bit : ∀ (i a b : Nat), (sub2 a b).testBit i = (a.testBit i && !b.testBit i)
  | 0, a, b => by
    have h1 : (a &&& b) % 2 = 1 ↔ a % 2 = 1 ∧ b % 2 = 1 := Nat.and_mod_two_eq_one
    have h2 := @Nat.and_le_left a b
    unfold sub2
    rw [Nat.testBit_zero, Nat.testBit_zero, Nat.testBit_zero]
    by_cases ha : a % 2 = 1 <;> by_cases hb : b % 2 = 1 <;> simp only [ha, hb, and_true, true_and, and_false, false_and, iff_true, iff_false, decide_true, decide_false, Bool.not_true, Bool.not_false, Bool.and_true, Bool.and_false, decide_eq_true_eq, decide_eq_false_iff_not] at h1 ⊢ <;> omega
  | i + 1, a, b => by
    have h1 : (a &&& b) % 2 = 1 ↔ a % 2 = 1 ∧ b % 2 = 1 := Nat.and_mod_two_eq_one
    have h2 := @Nat.and_le_left a b
    have h3 : (a &&& b) / 2 = a / 2 &&& b / 2 := Nat.and_div_two
    have h4 := sub2_bit i (a / 2) (b / 2)
    have e : (sub2 a b) / 2 = sub2 (a / 2) (b / 2) := by
      unfold sub2
      rw [← h3]
      have : (a &&& b) % 2 ≤ a % 2 := by
        rcases Nat.mod_two_eq_zero_or_one (a &&& b) with z | z
        · omega
        · have := (h1.mp z).1
          omega
      omega
    rw [Nat.testBit_succ, Nat.testBit_succ, Nat.testBit_succ, e, h4]
theorem and_eq_left {a b : Nat} : a &&& b = a ↔ ∀ i, a.testBit i = true → b.testBit i = true := by
  constructor
  · intro h i hi
    have := congrArg (fun n => Nat.testBit n i) h
    simp only [Nat.testBit_and, hi, Bool.true_and] at this
    exact this
  · intro h
    refine Nat.eq_of_testBit_eq fun i => ?_
    rw [Nat.testBit_and]
    cases e : a.testBit i with
    | false => rfl
    | true => rw [h i e]; rfl
theorem sub2_zero {a b : Nat} : sub2 a b = 0 ↔ ∀ i, a.testBit i = true → b.testBit i = true := by
  constructor
  · intro h i hi
    have := sub2_bit i a b
    rw [h, hi] at this
    simpa using this.symm
  · intro h
    refine Nat.eq_of_testBit_eq fun i => ?_
    rw [sub2_bit, Nat.zero_testBit]
    cases e : a.testBit i with
    | false => rfl
    | true => rw [h i e]; rfl
theorem and_zero_iff {a b : Nat} : a &&& b = 0 ↔ ∀ i, a.testBit i = true → b.testBit i = false := by
  constructor
  · intro h i hi
    have := congrArg (fun n => Nat.testBit n i) h
    simp only [Nat.testBit_and, hi, Bool.true_and, Nat.zero_testBit] at this
    exact this
  · intro h
    refine Nat.eq_of_testBit_eq fun i => ?_
    rw [Nat.testBit_and, Nat.zero_testBit]
    cases e : a.testBit i with
    | false => rfl
    | true => rw [h i e]; rfl
/-! ### some of a row of points -/
def mkP : List Str → (Str → Bool) → Nat
  | [], _ => 0
  | p :: ps, S => (if S p = true then 1 else 0) + 2 * mkP ps S
def atB (S : Str → Bool) : Option Str → Bool
  | some p => S p
  | none => false
theorem mkP_bit : ∀ (pts : List Str) (S : Str → Bool) (i : Nat), (mkP pts S).testBit i = atB S pts[i]?
  | [], S, i => by
    show Nat.testBit 0 i = _
    rw [Nat.zero_testBit]
    rfl
  | p :: ps, S, 0 => by
    show Nat.testBit ((if S p = true then 1 else 0) + 2 * mkP ps S) 0 = S p
    rw [Nat.testBit_zero]
    cases S p
    · simp
    · simp [Nat.add_mod]
  | p :: ps, S, i + 1 => by
    show Nat.testBit ((if S p = true then 1 else 0) + 2 * mkP ps S) (i + 1) = _
    have e : ((if S p = true then 1 else 0) + 2 * mkP ps S) / 2 = mkP ps S := by split <;> omega
    rw [Nat.testBit_succ, e, mkP_bit ps S i, List.getElem?_cons_succ]
theorem mkP_lt : ∀ (pts : List Str) (S : Str → Bool), mkP pts S < 2 ^ pts.length
  | [], S => by show 0 < 2 ^ 0; decide
  | p :: ps, S => by
    show (if S p = true then 1 else 0) + 2 * mkP ps S < 2 ^ (ps.length + 1)
    have := mkP_lt ps S
    rw [Nat.pow_succ]
    split <;> omega
theorem mkP_congr : ∀ {pts : List Str} {S T : Str → Bool}, (∀ p ∈ pts, S p = T p) → mkP pts S = mkP pts T
  | [], _, _, _ => rfl
  | p :: ps, S, T, h => by
    show (if S p = true then 1 else 0) + 2 * mkP ps S = (if T p = true then 1 else 0) + 2 * mkP ps T
    rw [h p (by simp), mkP_congr fun q hq => h q (by simp [hq])]
theorem mkP_imp {pts : List Str} {S T : Str → Bool} : (∀ i, (mkP pts S).testBit i = true → (mkP pts T).testBit i = true) ↔ ∀ p ∈ pts, S p = true → T p = true := by
  constructor
  · intro h p hp hs
    obtain ⟨i, hi⟩ := List.mem_iff_getElem?.mp hp
    have := h i
    rw [mkP_bit, mkP_bit, hi] at this
    exact this hs
  · intro h i
    rw [mkP_bit, mkP_bit]
    cases e : pts[i]? with
    | none => exact fun z => z
    | some p => exact h p (List.mem_of_getElem? e)
theorem mkP_eq {pts : List Str} {S T : Str → Bool} : mkP pts S = mkP pts T ↔ ∀ p ∈ pts, S p = T p := by
  constructor
  · intro h p hp
    obtain ⟨i, hi⟩ := List.mem_iff_getElem?.mp hp
    have := congrArg (fun n => Nat.testBit n i) h
    simp only [mkP_bit, hi] at this
    exact this
  · exact mkP_congr
/-- a lot -/
def maskL (pts l : List Str) : Nat := mkP pts fun p => decide (p ∈ l)
theorem maskL_sub {pts l m : List Str} : maskL pts l &&& maskL pts m = maskL pts l ↔ ∀ p ∈ pts, p ∈ l → p ∈ m := by
  unfold maskL
  rw [and_eq_left, mkP_imp]
  simp only [decide_eq_true_eq]
theorem maskL_eq {pts l m : List Str} : maskL pts l = maskL pts m ↔ ∀ p ∈ pts, (p ∈ l ↔ p ∈ m) := by
  unfold maskL
  rw [mkP_eq]
  simp only [decide_eq_decide]
theorem maskL_cons : ∀ {pts l : List Str} {p : Str}, pts.Nodup → p ∈ pts → p ∉ l → maskL pts (p :: l) = 2 ^ pts.idxOf p + maskL pts l
  | [], _, _, _, h, _ => by cases h
  | q :: qs, l, p, hn, hp, hl => by
    obtain ⟨n1, n2⟩ := List.nodup_cons.mp hn
    show (if decide (q ∈ p :: l) = true then 1 else 0) + 2 * maskL qs (p :: l) = 2 ^ (q :: qs).idxOf p + ((if decide (q ∈ l) = true then 1 else 0) + 2 * maskL qs l)
    by_cases e : q = p
    · subst e
      have h1 : maskL qs (q :: l) = maskL qs l := mkP_congr fun r hr => by
        refine decide_eq_decide.mpr ?_
        rw [List.mem_cons]
        exact ⟨fun z => z.elim (fun y => absurd hr (y ▸ n1)) id, .inr⟩
      have h2 : (q :: qs).idxOf q = 0 := by simp
      have h3 : decide (q ∈ q :: l) = true := by simp
      have h4 : decide (q ∈ l) = false := decide_eq_false hl
      rw [h1, h2, h3, h4]
      simp
    · have hp' : p ∈ qs := (List.mem_cons.mp hp).resolve_left fun z => e z.symm
      have ih := maskL_cons n2 hp' hl
      have h2 : (q :: qs).idxOf p = qs.idxOf p + 1 := by
        rw [List.idxOf_cons, beq_false_of_ne e]
        rfl
      have h3 : decide (q ∈ p :: l) = decide (q ∈ l) := decide_eq_decide.mpr (by rw [List.mem_cons]; exact ⟨fun z => z.resolve_left e, .inr⟩)
      rw [ih, h2, h3, Nat.pow_succ]
      omega
theorem maskL_nil : ∀ pts : List Str, maskL pts [] = 0
  | [] => rfl
  | p :: ps => by
    show (if decide (p ∈ ([] : List Str)) = true then 1 else 0) + 2 * maskL ps [] = 0
    rw [maskL_nil ps]
    simp
/-- what a point weighs -/
def wtP (pts : List Str) (p : Str) : Int := ((2 ^ pts.idxOf p : Nat) : Int)
theorem maskL_sum {pts : List Str} (hn : pts.Nodup) : ∀ {l : List Str}, l.Nodup → (∀ p ∈ l, p ∈ pts) → (l.map fun p => ((2 ^ pts.idxOf p : Nat) : Int)).sum = (maskL pts l : Int)
  | [], _, _ => by rw [maskL_nil]; rfl
  | p :: l, h, hs => by
    obtain ⟨h1, h2⟩ := List.nodup_cons.mp h
    rw [List.map_cons, List.sum_cons, maskL_sum hn h2 fun q hq => hs q (by simp [hq]), maskL_cons hn (hs p (by simp)) h1]
    push_cast
    rfl
theorem wt_sum {pts : List Str} (hn : pts.Nodup) {l : List Str} (h : l.Nodup) (hs : ∀ p ∈ l, p ∈ pts) : (l.map (wtP pts)).sum = (maskL pts l : Int) := maskL_sum hn h hs
end Ny

set_option maxHeartbeats 200000
/-! Pl: lots as data, their order, all lots of a row of points. -/
namespace Ny
open PySem
theorem leafs_of' : ∀ {xs : List D}, (∀ z ∈ xs, leafOk z = true) → leafsOk xs = true
  | [], _ => by unfold leafsOk; rfl
  | x :: xs, h => by
    unfold leafsOk
    rw [h x List.mem_cons_self, leafs_of' fun z hz => h z (List.mem_cons_of_mem _ hz)]
    rfl
theorem leaf_tL (l : List Str) : leafOk (tL l) = true := by
  show leafOk (.tup _) = true
  unfold leafOk
  exact leafs_of' (leaf_strs _)
theorem leaf_tLs (ls : List (List Str)) : ∀ z ∈ ls.map tL, leafOk z = true := fun z hz => by
  obtain ⟨l, _, rfl⟩ := List.mem_map.mp hz
  exact leaf_tL l
theorem tL_inj {x y : List Str} : tL x = tL y ↔ x = y := by
  constructor
  · intro h
    injection h with h
    exact (List.map_inj_right (f := D.str) (fun a b q => by injection q)).mp h
  · rintro rfl
    rfl
theorem plain_tL (l : List Str) : (tL l).plain = true := by
  show (D.tup _).plain = true
  unfold D.plain
  exact plain_strs _
theorem dep_tL (l : List Str) : (tL l).dep = 1 := by
  show (D.tup _).dep = 1
  rw [dep_tup, depAll_strs]
theorem cmpOk_tL (x y : List Str) : cmpOk (tL x) (tL y) = true := cmpOk_pl (plain_tL x) (plain_tL y) (by rw [dep_tL]; decide)
@[simp] theorem cmpOk_tup_str (x y : List Str) : cmpOk (.tup (x.map .str)) (.tup (y.map .str)) = true := cmpOk_tL x y
theorem eqD_tL (x y : List Str) : eqD (tL x) (tL y) = decide (x = y) := by
  rw [eqD_enc (leaf_tL x) (leaf_tL y)]
  exact decide_eq_decide.mpr ⟨fun h => tL_inj.mp (enc_inj (leaf_tL x) (leaf_tL y) h), fun h => by rw [h]⟩
@[simp] theorem eqAll_str (x y : List Str) : eqAll (x.map .str) (y.map .str) = decide (x = y) := by
  have := eqD_tL x y
  rwa [show eqD (tL x) (tL y) = eqAll (x.map .str) (y.map .str) from eqD_tup _ _] at this
theorem ltAll_some : ∀ (x y : List Str), ∃ b, ltAll (x.map .str) (y.map .str) = some b
  | [], [] => ⟨_, rfl⟩
  | [], _ :: _ => ⟨_, rfl⟩
  | _ :: _, [] => ⟨_, rfl⟩
  | a :: x, b :: y => by
    obtain ⟨c, hc⟩ := ltAll_some x y
    refine ⟨if eqD (.str a) (.str b) = true then c else ltS a b, ?_⟩
    show (match ltAll (x.map .str) (y.map .str) with
      | some b' => if eqD (.str a) (.str b) = true then some b' else ltD (.str a) (.str b)
      | none => none) = _
    rw [hc]
    show (if eqD (.str a) (.str b) = true then some c else ltD (.str a) (.str b)) = _
    split <;> rfl
/-- the order of lots -/
def ltL : List Str → List Str → Bool
  | [], [] => false
  | [], _ :: _ => true
  | _ :: _, [] => false
  | a :: x, b :: y => if a = b then ltL x y else ltS a b
theorem ltD_tL : ∀ (x y : List Str), ltD (tL x) (tL y) = some (ltL x y)
  | [], [] => rfl
  | [], _ :: _ => rfl
  | _ :: _, [] => rfl
  | a :: x, b :: y => by
    have ih := ltD_tL x y
    have ih : ltAll (x.map .str) (y.map .str) = some (ltL x y) := ih
    show (match ltAll (x.map .str) (y.map .str) with
      | some b' => if eqD (.str a) (.str b) = true then some b' else ltD (.str a) (.str b)
      | none => none) = some (if a = b then ltL x y else ltS a b)
    rw [ih]
    show (if eqD (.str a) (.str b) = true then some (ltL x y) else some (ltS a b)) = _
    rw [eqD_str]
    by_cases h : a = b
    · subst h
      rw [if_pos (beq_self_eq_true a), if_pos rfl]
    · rw [if_neg (by rw [beq_iff_eq]; exact h), if_neg h]
theorem ltL_enc (x y : List Str) : ltL x y = decide (enc (tL x) < enc (tL y)) := ltD_enc (leaf_tL x) (leaf_tL y) (ltD_tL x y)
theorem ltB_tL (x y : List Str) : ltB (tL x) (tL y) = ltL x y := by
  unfold ltB
  rw [ltD_tL]
theorem ltL_irr (x : List Str) : ltL x x = false := by rw [ltL_enc]; exact decide_eq_false (List.lt_irrefl _)
theorem ltL_trans {x y z : List Str} (h1 : ltL x y = true) (h2 : ltL y z = true) : ltL x z = true := by
  rw [ltL_enc, decide_eq_true_eq] at *
  exact List.lt_trans h1 h2
theorem ltL_asymm {x y : List Str} (h : ltL x y = true) : ltL y x = false := by
  cases e : ltL y x with
  | false => rfl
  | true => rw [← ltL_irr x]; exact (ltL_trans h e).symm
theorem pairOk_tL (x y : List Str) : pairOk (tL x) (tL y) = true := by
  unfold pairOk
  rw [cmpOk_tL, ltD_tL]
  rfl
theorem kindOk_tL (ls : List (List Str)) : kindOk (ls.map tL) = true := by
  rw [kindOk_iff]
  by_cases h : ∃ x ∈ ls, x = []
  · right; right; right
    refine ⟨fun z hz => ?_, ?_⟩
    · obtain ⟨l, _, rfl⟩ := List.mem_map.mp hz
      rfl
    · obtain ⟨x, hx, rfl⟩ := h
      exact ⟨_, List.mem_map.mpr ⟨[], hx, rfl⟩, rfl⟩
  · right; right; left
    refine ⟨2, by decide, fun z hz => ?_⟩
    obtain ⟨l, hl, rfl⟩ := List.mem_map.mp hz
    cases l with
    | nil => exact absurd ⟨[], hl, rfl⟩ h
    | cons a l => rfl
theorem sameSort_tL (ls : List (List Str)) : sameSort (ls.map tL) = true := by
  unfold sameSort
  simp only [Bool.and_eq_true, List.all_eq_true]
  refine ⟨leaf_tLs ls, kindOk_tL ls, fun x hx y hy => ?_⟩
  obtain ⟨l, _, rfl⟩ := List.mem_map.mp hx
  obtain ⟨m, _, rfl⟩ := List.mem_map.mp hy
  exact pairOk_tL l m
theorem blt_sorted_tL (ls : List (List Str)) : bltR .sorted [.lst (ls.map tL)] = R.pure (.lst (sortD (ls.map tL))) := R.need_of (sameSort_tL ls) _
/-- the sorted row of lots -/
theorem sort_tL {A B : List (List Str)} (hp : B.Perm A) (hs : B.Pairwise fun x y => ltL x y = true) : sortD (A.map tL) = B.map tL := by
  refine (sortD_uniq (leaf_tLs A) (hp.map tL) ?_).symm
  rw [List.pairwise_map]
  refine hs.imp fun {a b} h => ?_
  rw [ltL_enc, decide_eq_true_eq] at h
  exact fun z => List.lt_asymm h z
theorem sort_tLm {A B : List (List Str)} (hn : A.Nodup) (hs : B.Pairwise fun x y => ltL x y = true) (hm : ∀ x, x ∈ A ↔ x ∈ B) : sortD (A.map tL) = B.map tL := by
  refine sort_tL ?_ hs
  have nB : B.Nodup := hs.imp fun {a b} h e => by rw [e, ltL_irr] at h; cases h
  exact (List.perm_ext_iff_of_nodup nB hn).mpr fun x => (hm x).symm
theorem tL_nodup {ls : List (List Str)} : (ls.map tL).Nodup ↔ ls.Nodup := by
  unfold List.Nodup
  rw [List.pairwise_map]
  exact ⟨fun h => h.imp fun {a b} q e => q (by rw [e]), fun h => h.imp fun {a b} q e => q (tL_inj.mp e)⟩
theorem hasD_tL (x : List Str) (ls : List (List Str)) : hasD (tL x) (ls.map tL) = decide (x ∈ ls) := by
  unfold hasD
  rw [List.any_map]
  cases e : decide (x ∈ ls) with
  | true =>
    rw [List.any_eq_true]
    refine ⟨x, of_decide_eq_true e, ?_⟩
    show eqD (tL x) (tL x) = true
    rw [eqD_tL, decide_eq_true rfl]
  | false =>
    rw [List.any_eq_false]
    intro y hy
    show ¬ eqD (tL y) (tL x) = true
    rw [eqD_tL]
    intro z
    have := of_decide_eq_true z
    subst this
    exact of_decide_eq_false e hy
theorem plainAll_tL (ls : List (List Str)) : plainAll (ls.map tL) = true := plainAll_iff.mpr fun x hx => by
  obtain ⟨l, _, rfl⟩ := List.mem_map.mp hx
  exact plain_tL l
theorem inSeq_tL (x : List Str) (ls : List (List Str)) : inSeq (tL x) (ls.map tL) = R.pure (decide (x ∈ ls)) := by
  rw [inSeq_of (plain_tL x) (by rw [dep_tL]; decide) (plainAll_tL ls), hasD_tL]
/-! ### all lots of a row of points, ascending -/
def lotsB : List Str → List (List Str)
  | [] => [[]]
  | p :: ps => [] :: ((lotsB ps).map (p :: ·) ++ (lotsB ps).tail)
theorem lotsB_nil : ∀ l : List Str, (lotsB l).head? = some []
  | [] => rfl
  | _ :: _ => rfl
theorem lotsB_cons : ∀ l : List Str, ∃ r, lotsB l = [] :: r
  | [] => ⟨[], rfl⟩
  | _ :: _ => ⟨_, rfl⟩
theorem lotsB_mem : ∀ {l x : List Str}, x ∈ lotsB l ↔ x.Sublist l
  | [], x => by
    show x ∈ [[]] ↔ _
    rw [List.mem_singleton, List.sublist_nil]
  | p :: ps, x => by
    obtain ⟨r, hr⟩ := lotsB_cons ps
    have ih := fun x => @lotsB_mem ps x
    show x ∈ [] :: ((lotsB ps).map (p :: ·) ++ (lotsB ps).tail) ↔ _
    rw [List.mem_cons, List.mem_append, List.mem_map]
    constructor
    · rintro (rfl | ⟨y, hy, rfl⟩ | h)
      · exact List.nil_sublist _
      · exact ((ih y).mp hy).cons_cons p
      · exact ((ih x).mp (List.mem_of_mem_tail h)).cons p
    · intro h
      cases h with
      | cons _ h =>
        have := (ih x).mpr h
        rw [hr] at this ⊢
        rcases List.mem_cons.mp this with e | e
        · exact .inl e
        · exact .inr (.inr e)
      | cons_cons _ h => exact .inr (.inl ⟨_, (ih _).mpr h, rfl⟩)
theorem ltL_nil_of {x : List Str} (h : x ≠ []) : ltL [] x = true := by
  cases x with
  | nil => exact absurd rfl h
  | cons a x => rfl
theorem ltL_cc (a : Str) (x y : List Str) : ltL (a :: x) (a :: y) = ltL x y := if_pos rfl
theorem ltL_cd {a b : Str} (x y : List Str) (h : ltS a b = true) : ltL (a :: x) (b :: y) = true := by
  show (if a = b then ltL x y else ltS a b) = true
  rw [if_neg (fun e => by rw [e, ltS_irr] at h; cases h)]
  exact h
theorem lotsB_asc : ∀ {l : List Str}, (l.Pairwise fun x y => ltS x y = true) → (lotsB l).Pairwise fun x y => ltL x y = true
  | [], _ => List.pairwise_singleton _ _
  | p :: ps, h => by
    obtain ⟨h1, h2⟩ := List.pairwise_cons.mp h
    have ih := lotsB_asc h2
    obtain ⟨r, hr⟩ := lotsB_cons ps
    have hne : ∀ x ∈ (lotsB ps).tail, x ≠ [] := fun x hx e => by
      rw [hr] at ih hx
      have := (List.pairwise_cons.mp ih).1 x hx
      rw [e, ltL_irr] at this
      cases this
    show ([] :: ((lotsB ps).map (p :: ·) ++ (lotsB ps).tail)).Pairwise _
    refine List.pairwise_cons.mpr ⟨fun x hx => ?_, ?_⟩
    · rcases List.mem_append.mp hx with hx | hx
      · obtain ⟨y, _, rfl⟩ := List.mem_map.mp hx
        rfl
      · exact ltL_nil_of (hne x hx)
    · rw [List.pairwise_append]
      refine ⟨?_, List.Pairwise.tail ih, fun x hx y hy => ?_⟩
      · rw [List.pairwise_map]
        exact ih.imp fun {a b} h => by rw [ltL_cc]; exact h
      · obtain ⟨z, _, rfl⟩ := List.mem_map.mp hx
        have hs : y.Sublist ps := lotsB_mem.mp (List.mem_of_mem_tail hy)
        have hn := hne y hy
        cases y with
        | nil => exact absurd rfl hn
        | cons b y => exact ltL_cd z y (h1 b (hs.subset (List.mem_cons_self)))
theorem lotsB_nodup {l : List Str} (h : l.Pairwise fun x y => ltS x y = true) : (lotsB l).Nodup := (lotsB_asc h).imp fun {a b} q e => by rw [e, ltL_irr] at q; cases q
theorem lotsB_len : ∀ l : List Str, (lotsB l).length = 2 ^ l.length
  | [] => rfl
  | p :: ps => by
    show ([] :: ((lotsB ps).map (p :: ·) ++ (lotsB ps).tail)).length = 2 ^ (ps.length + 1)
    have := lotsB_len ps
    have hp : 0 < 2 ^ ps.length := Nat.two_pow_pos _
    rw [List.length_cons, List.length_append, List.length_map, List.length_tail, this, Nat.pow_succ]
    omega
/-- sublists of a row without doubles are told by their members -/
theorem sub_ext : ∀ {l x y : List Str}, l.Nodup → x.Sublist l → y.Sublist l → (∀ p ∈ l, p ∈ x ↔ p ∈ y) → x = y
  | [], x, y, _, hx, hy, _ => by rw [List.sublist_nil.mp hx, List.sublist_nil.mp hy]
  | p :: ps, x, y, hn, hx, hy, h => by
    obtain ⟨n1, n2⟩ := List.nodup_cons.mp hn
    have key : ∀ {x : List Str}, x.Sublist (p :: ps) → (p ∈ x ∧ ∃ x', x = p :: x' ∧ x'.Sublist ps) ∨ (p ∉ x ∧ x.Sublist ps) := fun {x} hx => by
      cases hx with
      | cons _ h => exact .inr ⟨fun z => n1 (h.subset z), h⟩
      | cons_cons _ h => exact .inl ⟨List.mem_cons_self, _, rfl, h⟩
    have hp := h p List.mem_cons_self
    rcases key hx with ⟨m1, x', rfl, s1⟩ | ⟨m1, s1⟩
    · rcases key hy with ⟨m2, y', rfl, s2⟩ | ⟨m2, s2⟩
      · rw [sub_ext n2 s1 s2 fun q hq => ?_]
        have := h q (List.mem_cons_of_mem _ hq)
        have hne : q ≠ p := fun e => n1 (e ▸ hq)
        simp only [List.mem_cons, hne, false_or] at this
        exact this
      · exact absurd (hp.mp m1) m2
    · rcases key hy with ⟨m2, y', rfl, s2⟩ | ⟨m2, s2⟩
      · exact absurd (hp.mpr m2) m1
      · exact sub_ext n2 s1 s2 fun q hq => h q (List.mem_cons_of_mem _ hq)
/-- an ascending row of some of the members of an ascending row is a part of it -/
theorem asc_sub : ∀ {l x : List Str}, (l.Pairwise fun x y => ltS x y = true) → (x.Pairwise fun x y => ltS x y = true) → (∀ p ∈ x, p ∈ l) → x.Sublist l
  | l, [], _, _, _ => List.nil_sublist _
  | [], p :: x, _, _, h => absurd (h p List.mem_cons_self) (List.not_mem_nil)
  | q :: l, p :: x, hl, hx, h => by
    obtain ⟨l1, l2⟩ := List.pairwise_cons.mp hl
    obtain ⟨x1, x2⟩ := List.pairwise_cons.mp hx
    by_cases e : p = q
    · subst e
      refine (asc_sub l2 x2 fun r hr => ?_).cons_cons p
      rcases List.mem_cons.mp (h r (List.mem_cons_of_mem _ hr)) with e | e
      · have := x1 r hr
        rw [e, ltS_irr] at this
        cases this
      · exact e
    · refine (asc_sub l2 hx fun r hr => ?_).cons q
      rcases List.mem_cons.mp (h r hr) with e2 | e2
      · exfalso
        rcases List.mem_cons.mp hr with e3 | e3
        · exact e (e3 ▸ e2)
        · have a1 := x1 r e3
          have hp : p ∈ l := (List.mem_cons.mp (h p List.mem_cons_self)).resolve_left e
          have a2 := l1 p hp
          rw [e2] at a1
          have := ltS_trans a1 a2
          rw [ltS_irr] at this
          cases this
      · exact e2
theorem asc_nodup {l : List Str} (h : l.Pairwise fun x y => ltS x y = true) : l.Nodup := h.imp fun {a b} q e => by rw [e, ltS_irr] at q; cases q
/-- of unlike rows that run over the same lots, sorted: the lots with a property -/
theorem sort_lots {pts : List Str} (ha : pts.Pairwise fun x y => ltS x y = true) {A : List (List Str)} (hn : A.Nodup) {P : List Str → Bool} (hm : ∀ x, x ∈ A ↔ x.Sublist pts ∧ P x = true) : sortD (A.map tL) = ((lotsB pts).filter P).map tL := by
  refine sort_tLm hn ((lotsB_asc ha).filter _) fun x => ?_
  rw [hm x, List.mem_filter, lotsB_mem]
theorem filter_true' {α : Type} (l : List α) : l.filter (fun _ => true) = l := List.filter_eq_self.mpr fun _ _ => rfl
end Ny

set_option maxHeartbeats 200000
/-! Pl: dicts, rows of ints. -/
namespace Ny
open PySem
section
variable (T : Tab) (X : XTab) (C : Call) (σ : Env)
@[simp] theorem run_par2 (fr : List Nat) (i : Nat) (oi : Bool) (j : Nat) (oj : Bool) (a b : NE) : run T X C (.par2 fr i oi j oj a b) σ = S.ev (ev T C a (freeze σ fr) false) (freeze σ fr) fun u => S.chk (fun _ => ownOk oi u) (S.ev (ev T C b (freeze σ fr) false) (freeze σ fr) fun v => S.chk (fun _ => ownOk oj v) (S.done .nx (((freeze σ fr).set i (slotOf oi u)).set j (slotOf oj v)))) := (rfl)
end
@[simp] theorem slotOf_t (d : D) : slotOf true d = .own d := (rfl)
@[simp] theorem slotOf_f (d : D) : slotOf false d = .val d := (rfl)
@[simp] theorem ownOk_f (d : D) : ownOk false d = true := (rfl)
@[simp] theorem ownOk_lst (b : Bool) (d : List D) : ownOk b (.lst d) = true := by cases b <;> rfl
@[simp] theorem ownOk_dct (b k : Bool) (d : List (D × D)) : ownOk b (.dct k d) = true := by cases b <;> rfl
@[simp] theorem chk_tt (m : S) : S.chk (fun _ => true) m = m := chk_true (fun _ => rfl) m
/-! ### looking up -/
theorem lookD_map {α : Type} {e : α → D} (he : ∀ a b, eqD (e a) (e b) = true ↔ a = b) (v : α → D) (x : α) : ∀ ls : List α, (x ∈ ls → lookD (e x) (ls.map fun l => (e l, v l)) = some (v x)) ∧ (x ∉ ls → lookD (e x) (ls.map fun l => (e l, v l)) = none)
  | [] => ⟨fun h => absurd h List.not_mem_nil, fun _ => rfl⟩
  | l :: ls => by
    obtain ⟨h1, h2⟩ := lookD_map he v x ls
    have e0 : lookD (e x) ((l :: ls).map fun l => (e l, v l)) = if eqD (e l) (e x) = true then some (v l) else lookD (e x) (ls.map fun l => (e l, v l)) := rfl
    rw [e0]
    by_cases h : l = x
    · subst h
      rw [if_pos ((he l l).mpr rfl)]
      exact ⟨fun _ => rfl, fun z => absurd (List.mem_cons_self) z⟩
    · rw [if_neg (fun z => h ((he l x).mp z))]
      exact ⟨fun z => h1 ((List.mem_cons.mp z).resolve_left fun y => h y.symm), fun z => h2 fun y => z (List.mem_cons_of_mem _ y)⟩
theorem eqD_str_iff (a b : Str) : eqD (.str a) (.str b) = true ↔ a = b := by rw [eqD_str, beq_iff_eq]
theorem eqD_tL_iff (a b : List Str) : eqD (tL a) (tL b) = true ↔ a = b := by rw [eqD_tL, decide_eq_true_iff]
theorem lookD_str (v : Str → D) {x : Str} {ls : List Str} (h : x ∈ ls) : lookD (.str x) (ls.map fun l => (D.str l, v l)) = some (v x) := (lookD_map eqD_str_iff v x ls).1 h
theorem lookD_strN (v : Str → D) {x : Str} {ls : List Str} (h : x ∉ ls) : lookD (.str x) (ls.map fun l => (D.str l, v l)) = none := (lookD_map eqD_str_iff v x ls).2 h
theorem lookD_tL (v : List Str → D) {x : List Str} {ls : List (List Str)} (h : x ∈ ls) : lookD (tL x) (ls.map fun l => (tL l, v l)) = some (v x) := (lookD_map eqD_tL_iff v x ls).1 h
theorem lookD_tLN (v : List Str → D) {x : List Str} {ls : List (List Str)} (h : x ∉ ls) : lookD (tL x) (ls.map fun l => (tL l, v l)) = none := (lookD_map eqD_tL_iff v x ls).2 h
@[simp] theorem ixR_dct (tk : Bool) (kvs : List (D × D)) (i : D) : ixR (.dct tk kvs) i = R.need (keyTk tk i) (R.ofOpt (lookD i kvs)) := (rfl)
@[simp] theorem inR_dct (tk : Bool) (kvs : List (D × D)) (i : D) : inR i (.dct tk kvs) = R.need (keyTk tk i) (R.pure (lookD i kvs).isSome) := (rfl)
@[simp] theorem keyTk_str (x : Str) : keyTk false (.str x) = true := (rfl)
@[simp] theorem keyTk_int (x : Int) : keyTk false (.int x) = true := (rfl)
theorem keyTk_strs (l : List Str) : keyTk true (.tup (l.map .str)) = true := by
  show ((l.map D.str).all _) = true
  rw [List.all_eq_true]
  intro x hx
  obtain ⟨s, _, rfl⟩ := List.mem_map.mp hx
  rfl
@[simp] theorem keyTk_tL (l : List Str) : keyTk true (.tup (l.map .str)) = true := keyTk_strs l
/-! ### storing -/
theorem putD_new {k v : D} {kvs : List (D × D)} (h : ∀ q ∈ kvs, eqD q.1 k = false) : putD k v kvs = kvs ++ [(k, v)] := by
  unfold putD
  rw [if_neg]
  rw [List.any_eq_true]
  rintro ⟨q, hq, e⟩
  rw [h q hq] at e
  cases e
theorem put_own {σ : Env} {i : Nat} {tk : Bool} {kvs : List (D × D)} {k v : D} (hσ : σ[i]? = some (.own (.dct tk kvs))) (hk : keyTk tk k = true) (hl : few kvs.length) :
    turnS σ i (putMO true k v) = S.done .nx (σ.set i (.own (.dct tk (putD k v kvs)))) := by
  refine turn_own (o := .dct tk kvs) (o' := .dct tk (putD k v kvs)) hσ rfl ?_
  have hb : decide (kvs.length < sizeLine) = true := decide_eq_true (Nat.lt_of_le_of_lt hl (by decide))
  show (if keyTk tk k && ((true || !tk) && decide (kvs.length < sizeLine)) then some (MO.dct tk (putD k v kvs)) else none) = _
  rw [hb, hk]
  rfl
theorem hasAt_own {σ : Env} {i : Nat} {d : D} (h : σ[i]? = some (.own d)) : hasAt σ i = true := by
  unfold hasAt
  rw [h]
theorem chk_has {σ : Env} {i : Nat} {d : D} (h : σ[i]? = some (.own d)) (m : S) : S.chk (fun _ => hasAt σ i) m = m := chk_true (fun _ => hasAt_own h) m
/-! ### dict(..) of lots -/
theorem pairsV_map {α : Type} (e v : α → D) : ∀ ls : List α, pairsV (ls.map fun l => .tup [e l, v l]) = some (ls.map fun l => (e l, v l))
  | [] => rfl
  | l :: ls => by
    show (pairsV (ls.map fun l => .tup [e l, v l])).map ((e l, v l) :: ·) = _
    rw [pairsV_map e v ls]
    rfl
theorem mergeD_new {α : Type} {e v : α → D} (he : ∀ a b, eqD (e a) (e b) = true → a = b) : ∀ (ls : List α) (acc : List α), (acc ++ ls).Nodup → mergeD (acc.map fun l => (e l, v l)) (ls.map fun l => (e l, v l)) = (acc ++ ls).map fun l => (e l, v l)
  | [], acc, _ => by rw [List.append_nil]; rfl
  | l :: ls, acc, hn => by
    show mergeD (putD (e l) (v l) (acc.map fun l => (e l, v l))) (ls.map fun l => (e l, v l)) = _
    rw [putD_new fun q hq => ?_]
    · have := mergeD_new he (v := v) ls (acc ++ [l]) (by simpa using hn)
      rw [List.map_append] at this
      rw [show (acc ++ l :: ls) = (acc ++ [l]) ++ ls by simp, ← this]
      rfl
    · obtain ⟨a, ha, rfl⟩ := List.mem_map.mp hq
      cases e1 : eqD (e a) (e l) with
      | false => rfl
      | true =>
        have := he a l e1
        subst this
        exact absurd rfl ((List.nodup_append.mp hn).2.2 a ha a (by simp))
theorem dictV_tL {ls : List (List Str)} (hn : ls.Nodup) (h0 : ls ≠ []) (v : List Str → D) : dictV (ls.map fun l => .tup [tL l, v l]) = some (.dct true (ls.map fun l => (tL l, v l))) := by
  unfold dictV
  rw [pairsV_map tL v]
  show (if ((ls.map fun l => (tL l, v l)).all fun kv => keyTk false kv.1) = true then _ else _) = _
  rw [if_neg, if_pos]
  · have := mergeD_new (e := tL) (v := v) (fun a b h => by rw [eqD_tL] at h; exact of_decide_eq_true h) ls [] (by simpa using hn)
    simp only [List.map_nil, List.nil_append] at this
    rw [this]
  · rw [List.all_eq_true]
    intro x hx
    obtain ⟨l, _, rfl⟩ := List.mem_map.mp hx
    exact keyTk_strs l
  · cases ls with
    | nil => exact absurd rfl h0
    | cons l ls => simp [keyTk]
/-! ### rows of ints -/
theorem hasD_int (x : Int) (l : List Int) : hasD (.int x) (l.map .int) = decide (x ∈ l) := by
  unfold hasD
  rw [List.any_map]
  cases e : decide (x ∈ l) with
  | true =>
    rw [List.any_eq_true]
    exact ⟨x, of_decide_eq_true e, by show (x == x) = true; simp⟩
  | false =>
    rw [List.any_eq_false]
    intro y hy
    show ¬ (y == x) = true
    rw [beq_iff_eq]
    rintro rfl
    exact of_decide_eq_false e hy
theorem plainAll_int (l : List Int) : plainAll (l.map .int) = true := plainAll_iff.mpr fun x hx => by
  obtain ⟨i, _, rfl⟩ := List.mem_map.mp hx
  rfl
@[simp] theorem inSeq_int (x : Int) (l : List Int) : inSeq (.int x) (l.map .int) = R.pure (decide (x ∈ l)) := by
  rw [inSeq_of rfl (by rw [dep_int]; exact Nat.zero_le _) (plainAll_int l), hasD_int]
theorem pairOk_int (a b : Int) : pairOk (.int a) (.int b) = true := by
  unfold pairOk
  rw [cmpOk_ii]
  rfl
theorem sameSort_I {ys : List D} (h : ∀ y ∈ ys, ∃ s, y = .int s) : sameSort ys = true := by
  unfold sameSort
  simp only [Bool.and_eq_true, List.all_eq_true]
  refine ⟨fun y hy => ?_, kindOk_tag (n := 1) (.inl rfl) fun y hy => ?_, fun x hx y hy => ?_⟩
  · obtain ⟨s, rfl⟩ := h y hy; rfl
  · obtain ⟨s, rfl⟩ := h y hy; rfl
  · obtain ⟨s, rfl⟩ := h x hx
    obtain ⟨t, rfl⟩ := h y hy
    exact pairOk_int s t
theorem leaf_ints (l : List Int) : ∀ z ∈ l.map D.int, leafOk z = true := fun z hz => by
  obtain ⟨i, _, rfl⟩ := List.mem_map.mp hz
  rfl
theorem as_ints : ∀ {ys : List D}, (∀ y ∈ ys, ∃ s, y = D.int s) → ∃ m : List Int, ys = m.map .int
  | [], _ => ⟨[], rfl⟩
  | y :: ys, h => by
    obtain ⟨s, rfl⟩ := h y (by simp)
    obtain ⟨m, rfl⟩ := as_ints (ys := ys) fun z hz => h z (by simp [hz])
    exact ⟨s :: m, rfl⟩
/-- sorted(set(..)) of ints -/
theorem sset_I (l : List Int) (hl : l.length ≤ 3900) : ∃ m : List Int, bltR .sortedSet [.lst (l.map .int)] = R.pure (.lst (m.map .int)) ∧ m.Nodup ∧ ∀ x, x ∈ m ↔ x ∈ l := by
  have hf := leaf_ints l
  have h1 : setOk (l.map D.int) = true := by
    unfold setOk
    rw [List.length_map]
    have : (l.map D.int).all key1 = true := by
      rw [List.all_eq_true]
      intro x hx
      obtain ⟨i, _, rfl⟩ := List.mem_map.mp hx
      rfl
    rw [this]
    simp [hl]
  have hd : ∀ y ∈ dedup (l.map D.int), ∃ s, y = D.int s := fun y hy => by
    obtain ⟨i, _, rfl⟩ := List.mem_map.mp ((dedup_mem hf y).mp hy)
    exact ⟨i, rfl⟩
  have h2 : sameSort (dedup (l.map D.int)) = true := sameSort_I hd
  obtain ⟨m, hm⟩ := as_ints (ys := sset (l.map D.int)) fun y hy => by
    obtain ⟨i, _, rfl⟩ := List.mem_map.mp ((sset_mem hf y).mp hy)
    exact ⟨i, rfl⟩
  have hp : (sset (l.map D.int)).Perm (dedup (l.map D.int)) := sortD_perm _
  refine ⟨m, by rw [blt_sset h1 h2, hm], ?_, fun x => ?_⟩
  · have := hp.nodup_iff.mpr (dedup_nodup hf)
    rw [hm] at this
    unfold List.Nodup at this
    rw [List.pairwise_map] at this
    exact this.imp fun {a b} q e => q (by rw [e])
  · have := sset_mem hf (.int x)
    rw [hm] at this
    simpa using this
@[simp] theorem blt_sum_int (l : List Int) : bltR .sum [.lst (l.map .int)] = R.pure (.int l.sum) := by
  have : intsOf (l.map D.int) = some l := by
    induction l with
    | nil => rfl
    | cons i l ih =>
      show (intsOf (l.map D.int)).map (i :: ·) = _
      rw [ih]
      rfl
  show R.ofOpt ((intsOf (l.map D.int)).map _) = _
  rw [this]
  rfl
@[simp] theorem opR_band (i j : Int) : opR .BitAnd (.int i) (.int j) = R.pure (.int (Builtin.bitAnd i j)) := (rfl)
@[simp] theorem opR_bor (i j : Int) : opR .BitOr (.int i) (.int j) = R.pure (.int (Builtin.bitOr i j)) := (rfl)
theorem allB_decG {α : Type} {l : List α} {f : α → Bool} {P : α → Prop} [Decidable (∀ p ∈ l, P p)] (h : ∀ x, f x = true ↔ P x) : allB f l = decide (∀ p ∈ l, P p) := by
  rw [Bool.eq_iff_iff, allB_iff, decide_eq_true_iff]
  exact ⟨fun q p hp => (h p).mp (q p hp), fun q p hp => (h p).mpr (q p hp)⟩
theorem anyB_decG {α : Type} {l : List α} {f : α → Bool} {P : α → Prop} [Decidable (∃ p ∈ l, P p)] (h : ∀ x, f x = true ↔ P x) : anyB f l = decide (∃ p ∈ l, P p) := by
  rw [Bool.eq_iff_iff, anyB_iff, decide_eq_true_iff]
  exact ⟨fun ⟨p, hp, q⟩ => ⟨p, hp, (h p).mp q⟩, fun ⟨p, hp, q⟩ => ⟨p, hp, (h p).mpr q⟩⟩
theorem idxOf_at {l : List Str} (hn : l.Nodup) {i : Nat} {a : Str} (h : l[i]? = some a) : l.idxOf a = i := by
  obtain ⟨hl, e⟩ := List.getElem?_eq_some_iff.mp h
  subst e
  exact List.Nodup.idxOf_getElem hn i hl
end Ny

set_option maxHeartbeats 200000
/-! the defs of the law, as data (printed by nypy.py) -/
namespace K16
open PySem Ny
abbrev i_is_word : Nat := 0
def n_is_word : NSs := (.cons (.ife (.or (.not (.isi (.var 0) [.str])) (.not (.cmp2 .LtE .LtE (.cst (.int 1)) (.blt .len (.cons (.var 0) .nil)) (.cst (.int 8))))) (.cons (.ret [] (.cst (.bl false))) .nil) .nil) (.cons (.ret [] (.and (.cmp .In (.ix (.var 0) (.cst (.int 0))) (.cst (.str "abcdefghijklmnopqrstuvwxyz"))) (.blt .all (.cons (.lc [1] (.nm 1) (.seq (.var 0)) (.cst (.bl true)) (.cmp .In (.var 1) (.cst (.str "abcdefghijklmnopqrstuvwxyz0123456789")))) .nil)))) .nil))
abbrev i_ascends : Nat := 1
def n_ascends : NSs := (.cons (.ret [] (.blt .all (.cons (.lc [1] (.nm 1) (.rng1 (.bin .Sub (.blt .len (.cons (.var 0) .nil)) (.cst (.int 1)))) (.cst (.bl true)) (.cmp .Lt (.ix (.var 0) (.var 1)) (.ix (.var 0) (.bin .Add (.var 1) (.cst (.int 1)))))) .nil))) .nil)
abbrev i_is_lot_of_words : Nat := 2
def n_is_lot_of_words : NSs := (.cons (.ret [] (.and (.isi (.var 0) [.tuple]) (.and (.blt .all (.cons (.lc [1] (.nm 1) (.seq (.var 0)) (.cst (.bl true)) (.call 0 (.cons (.var 1) .nil))) .nil)) (.call 1 (.cons (.var 0) .nil))))) .nil)
abbrev i_is_row : Nat := 3
def n_is_row : NSs := (.cons (.ret [] (.and (.isi (.var 0) [.tuple]) (.cmp .Eq (.blt .len (.cons (.var 0) .nil)) (.var 1)))) .nil)
abbrev i_together_of : Nat := 4
def n_together_of : NSs := (.cons (.ret [] (.blt .tuple (.cons (.blt .sortedSet (.cons (.bin .Add (.var 0) (.var 1)) .nil)) .nil))) .nil)
abbrev i_both_of : Nat := 5
def n_both_of : NSs := (.cons (.ret [] (.tup (.cons (.call 4 (.cons (.ix (.var 0) (.cst (.int 0))) (.cons (.ix (.var 1) (.cst (.int 0))) .nil))) (.cons (.call 4 (.cons (.ix (.var 0) (.cst (.int 1))) (.cons (.ix (.var 1) (.cst (.int 1))) .nil))) .nil)))) .nil)
abbrev i_is_attack : Nat := 6
def n_is_attack : NSs := (.cons (.ret [] (.and (.call 3 (.cons (.var 1) (.cons (.cst (.int 2)) .nil))) (.blt .all (.cons (.lc [2] (.nm 2) (.seq (.var 1)) (.cst (.bl true)) (.and (.isi (.var 2) [.str]) (.cmp .In (.var 2) (.var 0)))) .nil)))) .nil)
abbrev i_is_net : Nat := 7
def n_is_net : NSs := (.cons (.ife (.or (.not (.call 3 (.cons (.var 0) (.cons (.cst (.int 2)) .nil)))) (.or (.not (.call 2 (.cons (.ix (.var 0) (.cst (.int 0))) .nil))) (.not (.isi (.ix (.var 0) (.cst (.int 1))) [.tuple])))) (.cons (.ret [] (.cst (.bl false))) .nil) .nil) (.cons (.ret [] (.and (.blt .all (.cons (.lc [1] (.nm 1) (.seq (.ix (.var 0) (.cst (.int 1)))) (.cst (.bl true)) (.call 6 (.cons (.ix (.var 0) (.cst (.int 0))) (.cons (.var 1) .nil)))) .nil)) (.call 1 (.cons (.ix (.var 0) (.cst (.int 1))) .nil)))) .nil))
abbrev i_check_net : Nat := 8
def n_check_net : NSs := (.cons (.ife (.not (.call 7 (.cons (.var 0) .nil))) (.cons (.raise 1 (.cons (.cst (.str "not a net")) .nil)) .nil) .nil) .nil)
abbrev i_both_nets : Nat := 9
def n_both_nets : NSs := (.cons (.expr (.call 8 (.cons (.var 0) .nil))) (.cons (.expr (.call 8 (.cons (.var 1) .nil))) (.cons (.ret [] (.call 5 (.cons (.var 0) (.cons (.var 1) .nil)))) .nil)))
abbrev i_check_standard : Nat := 10
def n_check_standard : NSs := (.cons (.ife (.or (.not (.isi (.var 0) [.str])) (.inK true (.var 0) [(.str "free"), (.str "naive"), (.str "admissible"), (.str "complete"), (.str "grounded"), (.str "preferred"), (.str "stable"), (.str "semistable"), (.str "stage"), (.str "ideal")])) (.cons (.raise 2 (.cons (.cst (.str "not a standard")) .nil)) .nil) .nil) .nil)
abbrev i_loops_in : Nat := 11
def n_loops_in : NSs := (.cons (.ret [] (.blt .tuple (.cons (.lc [1] (.nm 1) (.seq (.ix (.var 0) (.cst (.int 0)))) (.cmp .In (.tup (.cons (.var 1) (.cons (.var 1) .nil))) (.ix (.var 0) (.cst (.int 1)))) (.var 1)) .nil))) .nil)
abbrev i_loops_of : Nat := 12
def n_loops_of : NSs := (.cons (.expr (.call 8 (.cons (.var 0) .nil))) (.cons (.ret [] (.call 11 (.cons (.var 0) .nil))) .nil))
abbrev i_free_kernel : Nat := 13
def n_free_kernel : NSs := (.cons (.own [] 2 (.dct0 true)) (.cons (.for_ [] (.tp (.cons (.nm 3) (.cons (.nm 4) .nil))) (.seq (.ix (.var 0) (.cst (.int 1)))) (.cons (.ife (.cmp .Eq (.var 3) (.var 4)) (.cons (.setI 2 (.tup (.cons (.var 3) (.cons (.var 4) .nil))) (.cst (.bl true))) .nil) (.cons (.ife (.and (.cmp .NotIn (.var 3) (.var 1)) (.cmp .NotIn (.var 4) (.var 1))) (.cons (.setI 2 (.tup (.cons (.var 3) (.cons (.var 4) .nil))) (.cst (.bl true))) (.cons (.setI 2 (.tup (.cons (.var 4) (.cons (.var 3) .nil))) (.cst (.bl true))) .nil)) .nil) .nil)) .nil)) (.cons (.ret [] (.tup (.cons (.ix (.var 0) (.cst (.int 0))) (.cons (.blt .tuple (.cons (.blt .sorted (.cons (.var 2) .nil)) .nil)) .nil)))) .nil)))
abbrev i_stays : Nat := 14
def n_stays : NSs := (.cons (.asg [] (.tp (.cons (.nm 4) (.cons (.nm 5) .nil))) (.var 3)) (.cons (.ife (.cmp .Eq (.var 4) (.var 5)) (.cons (.ret [] (.cst (.bl true))) .nil) .nil) (.cons (.ife (.cmp .In (.var 1) (.tup (.cons (.cst (.str "stable")) (.cons (.cst (.str "stage")) .nil)))) (.cons (.ret [] (.cmp .NotIn (.var 4) (.var 2))) .nil) .nil) (.cons (.ife (.cmp .Eq (.var 1) (.cst (.str "complete"))) (.cons (.ret [] (.or (.cmp .NotIn (.var 4) (.var 2)) (.cmp .NotIn (.var 5) (.var 2)))) .nil) .nil) (.cons (.ife (.cmp .Eq (.var 1) (.cst (.str "grounded"))) (.cons (.ret [] (.or (.cmp .NotIn (.var 5) (.var 2)) (.and (.cmp .NotIn (.var 4) (.var 2)) (.cmp .NotIn (.tup (.cons (.var 5) (.cons (.var 4) .nil))) (.ix (.var 0) (.cst (.int 1))))))) .nil) .nil) (.cons (.ret [] (.or (.cmp .NotIn (.var 4) (.var 2)) (.and (.cmp .NotIn (.var 5) (.var 2)) (.cmp .NotIn (.tup (.cons (.var 5) (.cons (.var 4) .nil))) (.ix (.var 0) (.cst (.int 1))))))) .nil))))))
abbrev i_kernel_of : Nat := 15
def n_kernel_of : NSs := (.cons (.asg [] (.nm 2) (.call 11 (.cons (.var 0) .nil))) (.cons (.ife (.cmp .In (.var 1) (.tup (.cons (.cst (.str "free")) (.cons (.cst (.str "naive")) .nil)))) (.cons (.ret [] (.call 13 (.cons (.var 0) (.cons (.var 2) .nil)))) .nil) .nil) (.cons (.ret [] (.tup (.cons (.ix (.var 0) (.cst (.int 0))) (.cons (.blt .tuple (.cons (.lc [3] (.nm 3) (.seq (.ix (.var 0) (.cst (.int 1)))) (.call 14 (.cons (.var 0) (.cons (.var 1) (.cons (.var 2) (.cons (.var 3) .nil))))) (.var 3)) .nil)) .nil)))) .nil)))
abbrev i_kernel : Nat := 16
def n_kernel : NSs := (.cons (.expr (.call 8 (.cons (.var 0) .nil))) (.cons (.expr (.call 10 (.cons (.var 1) .nil))) (.cons (.ret [] (.call 15 (.cons (.var 0) (.cons (.var 1) .nil)))) .nil)))
abbrev i_same_kernel : Nat := 17
def n_same_kernel : NSs := (.cons (.expr (.call 8 (.cons (.var 0) .nil))) (.cons (.expr (.call 8 (.cons (.var 1) .nil))) (.cons (.expr (.call 10 (.cons (.var 2) .nil))) (.cons (.ret [] (.cmp .Eq (.call 15 (.cons (.var 0) (.cons (.var 2) .nil))) (.call 15 (.cons (.var 1) (.cons (.var 2) .nil))))) .nil))))
abbrev i__law_pool : Nat := 18
def n__law_pool : NSs := (.cons (.asg [] (.nm 2) (.cst (.int 1))) (.cons (.for_ [] (.tp (.cons (.nm 5) (.cons (.nm 3) .nil))) (.enum (.sl (.var 0) (.cst .non) (.cst (.int 63)))) (.cons (.asg [] (.nm 2) (.bin .Mod (.blt .int (.cons (.bin .Add (.bin .Add (.bin .Mult (.var 2) (.cst (.int 31))) (.bin .Mult (.var 3) (.bin .Add (.bin .Mult (.cst (.int 2)) (.var 5)) (.cst (.int 3))))) (.var 5)) .nil)) (.cst (.int 2147483587)))) .nil)) (.cons (.asg [] (.nm 3) (.bin .Add (.bin .Mult (.var 2) (.cst (.int 7))) (.var 1))) (.cons (.ife (.cmp .Lt (.var 1) (.blt .len (.cons (.var 0) .nil))) (.cons (.asg [] (.nm 3) (.blt .abs (.cons (.ix (.var 0) (.var 1)) .nil))) .nil) .nil) (.cons (.asg [] (.nm 4) (.bin .Mod (.blt .int (.cons (.bin .Add (.bin .Add (.bin .Add (.bin .Mult (.var 3) (.cst (.int 48271))) (.bin .Mult (.var 2) (.cst (.int 69621)))) (.bin .Mult (.var 1) (.cst (.int 7919)))) (.cst (.int 5))) .nil)) (.cst (.int 2147483647)))) (.cons (.ife (.cmp .Lt (.var 3) (.bin .Pow (.cst (.int 10)) (.cst (.int 18)))) (.cons (.asg [] (.nm 3) (.cst (.int 0))) .nil) .nil) (.cons (.ret [] (.hlst (.cons (.var 3) (.cons (.var 4) (.cons (.var 1) .nil))))) .nil)))))))
abbrev i__law_pull : Nat := 19
def n__law_pull : NSs := (.cons (.setI 0 (.cst (.int 2)) (.bin .Add (.ix (.var 0) (.cst (.int 2))) (.cst (.int 1)))) (.cons (.ife (.cmp .Gt (.ix (.var 0) (.cst (.int 0))) (.cst (.int 0))) (.cons (.asg [] (.nm 2) (.bin .Mod (.blt .int (.cons (.ix (.var 0) (.cst (.int 0))) .nil)) (.var 1))) (.cons (.setI 0 (.cst (.int 0)) (.bin .FloorDiv (.blt .int (.cons (.ix (.var 0) (.cst (.int 0))) .nil)) (.var 1))) (.cons (.ret [] (.var 2)) .nil))) .nil) (.cons (.setI 0 (.cst (.int 1)) (.bin .Mod (.blt .int (.cons (.bin .Add (.bin .Add (.bin .Mult (.ix (.var 0) (.cst (.int 1))) (.cst (.int 16807))) (.bin .Mult (.bin .Mult (.ix (.var 0) (.cst (.int 2))) (.ix (.var 0) (.cst (.int 2)))) (.cst (.int 40692)))) (.cst (.int 977))) .nil)) (.cst (.int 2147483629)))) (.cons (.ret [] (.bin .Mod (.bin .FloorDiv (.blt .int (.cons (.bin .Mod (.bin .Mult (.ix (.var 0) (.cst (.int 1))) (.cst (.int 1583458089))) (.cst (.int 2147483587))) .nil)) (.cst (.int 11))) (.var 1))) .nil))))
abbrev i__law_same : Nat := 20
def n__law_same : NSs := (.cons (.ife (.or (.isi (.var 1) [.tuple]) (.isi (.var 1) [.list])) (.cons (.ife (.or (.cmp .NotEq (.isi (.var 1) [.tuple]) (.isi (.var 0) [.tuple])) (.cmp .NotEq (.isi (.var 1) [.list]) (.isi (.var 0) [.list]))) (.cons (.ret [] (.cst (.bl false))) .nil) .nil) (.cons (.ret [] (.and (.cmp .Eq (.blt .len (.cons (.var 0) .nil)) (.blt .len (.cons (.var 1) .nil))) (.blt .all (.cons (.lc [2, 3] (.tp (.cons (.nm 2) (.cons (.nm 3) .nil))) (.zip (.var 0) (.var 1)) (.cst (.bl true)) (.call 20 (.cons (.var 2) (.cons (.var 3) .nil)))) .nil)))) .nil)) .nil) (.cons (.ife (.cmp .Is (.var 1) (.cst .non)) (.cons (.ret [] (.cmp .Is (.var 0) (.cst .non))) .nil) .nil) (.cons (.ife (.isi (.var 1) [.bool]) (.cons (.ret [] (.and (.isi (.var 0) [.bool]) (.cmp .Eq (.var 0) (.var 1)))) .nil) .nil) (.cons (.ife (.isi (.var 1) [.int]) (.cons (.ret [] (.and (.isi (.var 0) [.int]) (.and (.not (.isi (.var 0) [.bool])) (.cmp .Eq (.var 0) (.var 1))))) .nil) .nil) (.cons (.ret [] (.and (.isi (.var 0) [.str]) (.cmp .Eq (.var 0) (.var 1)))) .nil)))))
abbrev i__law_words : Nat := 21
def n__law_words : NSs := (.cons (.asg [] (.nm 2) (.lst (.cons (.cst (.str "n0")) (.cons (.cst (.str "n1")) (.cons (.cst (.str "x0")) (.cons (.cst (.str "x1")) (.cons (.cst (.str "a")) (.cons (.cst (.str "b")) (.cons (.cst (.str "c")) (.cons (.cst (.str "d")) (.cons (.cst (.str "e")) (.cons (.cst (.str "f")) (.cons (.cst (.str "ab")) (.cons (.cst (.str "a0")) (.cons (.cst (.str "zz9")) (.cons (.cst (.str "kqqqqqqq")) (.cons (.cst (.str "m")) .nil))))))))))))))))) (.cons (.own [] 3 (.lst .nil)) (.cons (.for_ [] (.nm 4) (.rng1 (.var 1)) (.cons (.asg [] (.nm 5) (.call 19 (.cons (.var 0) (.cons (.blt .len (.cons (.var 2) .nil)) .nil)))) (.cons (.app [] 3 (.ix (.var 2) (.var 5))) (.cons (.asg [] (.nm 2) (.bin .Add (.sl (.var 2) (.cst .non) (.var 5)) (.sl (.var 2) (.bin .Add (.var 5) (.cst (.int 1))) (.cst .non)))) .nil)))) (.cons (.ret [] (.blt .tuple (.cons (.blt .sorted (.cons (.var 3) .nil)) .nil))) .nil))))
abbrev i__law_net : Nat := 22
def n__law_net : NSs := (.cons (.asg [] (.nm 2) (.call 21 (.cons (.var 0) (.cons (.var 1) .nil)))) (.cons (.asg [] (.nm 3) (.bin .Add (.cst (.int 2)) (.call 19 (.cons (.var 0) (.cons (.cst (.int 4)) .nil))))) (.cons (.asg [] (.nm 4) (.bin .Add (.cst (.int 2)) (.call 19 (.cons (.var 0) (.cons (.cst (.int 5)) .nil))))) (.cons (.own [] 5 (.lst .nil)) (.cons (.for_ [] (.nm 6) (.seq (.var 2)) (.cons (.for_ [] (.nm 7) (.seq (.var 2)) (.cons (.ife (.cmp .Eq (.call 19 (.cons (.var 0) (.cons (.ite (.cmp .Eq (.var 6) (.var 7)) (.var 4) (.var 3)) .nil))) (.cst (.int 0))) (.cons (.app [] 5 (.tup (.cons (.var 6) (.cons (.var 7) .nil)))) .nil) .nil) .nil)) .nil)) (.cons (.ret [] (.tup (.cons (.var 2) (.cons (.blt .tuple (.cons (.var 5) .nil)) .nil)))) .nil))))))
abbrev i__law_lots_below : Nat := 23
def n__law_lots_below : NSs := (.cons (.asg [] (.nm 1) (.lst (.cons (.tup .nil) .nil))) (.cons (.for_ [] (.nm 2) (.seq (.var 0)) (.cons (.asg [] (.nm 1) (.bin .Add (.var 1) (.lc [3] (.nm 3) (.seq (.var 1)) (.cst (.bl true)) (.bin .Add (.var 3) (.tup (.cons (.var 2) .nil)))))) .nil)) (.cons (.ret [] (.blt .sorted (.cons (.var 1) .nil))) .nil)))
abbrev i__law_hits : Nat := 24
def n__law_hits : NSs := (.cons (.ret [] (.lc [2, 3] (.tp (.cons (.nm 2) (.cons (.nm 3) .nil))) (.seq (.ix (.var 0) (.cst (.int 1)))) (.cmp .In (.var 2) (.var 1)) (.var 3))) .nil)
abbrev i__law_within : Nat := 25
def n__law_within : NSs := (.cons (.ret [] (.blt .all (.cons (.lc [2] (.nm 2) (.seq (.var 0)) (.cst (.bl true)) (.cmp .In (.var 2) (.var 1))) .nil))) .nil)
abbrev i__law_is_free : Nat := 26
def n__law_is_free : NSs := (.cons (.ret [] (.not (.blt .any (.cons (.lc [2] (.nm 2) (.seq (.var 1)) (.cst (.bl true)) (.cmp .In (.var 2) (.call 24 (.cons (.var 0) (.cons (.var 1) .nil))))) .nil)))) .nil)
abbrev i__law_held_by : Nat := 27
def n__law_held_by : NSs := (.cons (.asg [] (.nm 2) (.call 24 (.cons (.var 0) (.cons (.var 1) .nil)))) (.cons (.ret [] (.blt .tuple (.cons (.lc [3] (.nm 3) (.seq (.ix (.var 0) (.cst (.int 0)))) (.blt .all (.cons (.lc [4, 5] (.tp (.cons (.nm 4) (.cons (.nm 5) .nil))) (.seq (.ix (.var 0) (.cst (.int 1)))) (.cmp .Eq (.var 5) (.var 3)) (.cmp .In (.var 4) (.var 2))) .nil)) (.var 3)) .nil))) .nil))
abbrev i__law_reach : Nat := 28
def n__law_reach : NSs := (.cons (.ret [] (.blt .tuple (.cons (.blt .sortedSet (.cons (.bin .Add (.blt .list (.cons (.var 1) .nil)) (.call 24 (.cons (.var 0) (.cons (.var 1) .nil)))) .nil)) .nil))) .nil)
abbrev i__law_weights : Nat := 29
def n__law_weights : NSs := (.cons (.par2 [] 2 true 3 false (.dct0 false) (.cst (.int 1))) (.cons (.for_ [] (.nm 1) (.seq (.var 0)) (.cons (.setI 2 (.var 1) (.var 3)) (.cons (.asg [] (.nm 3) (.bin .Mult (.var 3) (.cst (.int 2)))) .nil))) (.cons (.ret [2] (.var 2)) .nil)))
abbrev i__law_tops : Nat := 30
def n__law_tops : NSs := (.cons (.asg [] (.nm 2) (.blt .sortedSet (.cons (.lc [5] (.nm 5) (.seq (.var 0)) (.cst (.bl true)) (.ix (.var 1) (.var 5))) .nil))) (.cons (.asg [] (.nm 3) (.lc [4] (.nm 4) (.seq (.var 2)) (.not (.blt .any (.cons (.lc [6] (.nm 6) (.seq (.var 2)) (.cst (.bl true)) (.and (.cmp .NotEq (.var 4) (.var 6)) (.cmp .Eq (.bin .BitAnd (.var 4) (.var 6)) (.var 4)))) .nil))) (.var 4))) (.cons (.ret [] (.lc [5] (.nm 5) (.seq (.var 0)) (.cmp .In (.ix (.var 1) (.var 5)) (.var 3)) (.var 5))) .nil)))
abbrev i__law_lots : Nat := 31
def n__law_lots : NSs := (.cons (.asg [] (.nm 2) (.call 29 (.cons (.ix (.var 0) (.cst (.int 0))) .nil))) (.cons (.asg [] (.nm 3) (.lc [9] (.nm 9) (.seq (.call 23 (.cons (.ix (.var 0) (.cst (.int 0))) .nil))) (.call 26 (.cons (.var 0) (.cons (.var 9) .nil))) (.var 9))) (.cons (.asg [] (.nm 4) (.blt .dict (.cons (.lc [9] (.nm 9) (.seq (.var 3)) (.cst (.bl true)) (.tup (.cons (.var 9) (.cons (.blt .sum (.cons (.lc [11] (.nm 11) (.seq (.var 9)) (.cst (.bl true)) (.ix (.var 2) (.var 11))) .nil)) .nil)))) .nil))) (.cons (.asg [] (.nm 5) (.blt .dict (.cons (.lc [9] (.nm 9) (.seq (.var 3)) (.cst (.bl true)) (.tup (.cons (.var 9) (.cons (.blt .sum (.cons (.lc [11] (.nm 11) (.seq (.call 28 (.cons (.var 0) (.cons (.var 9) .nil)))) (.cst (.bl true)) (.ix (.var 2) (.var 11))) .nil)) .nil)))) .nil))) (.cons (.ife (.cmp .Eq (.var 1) (.cst (.str "free"))) (.cons (.ret [] (.var 3)) .nil) .nil) (.cons (.ife (.cmp .Eq (.var 1) (.cst (.str "naive"))) (.cons (.ret [] (.call 30 (.cons (.var 3) (.cons (.var 4) .nil)))) .nil) .nil) (.cons (.ife (.cmp .Eq (.var 1) (.cst (.str "stage"))) (.cons (.ret [] (.call 30 (.cons (.var 3) (.cons (.var 5) .nil)))) .nil) .nil) (.cons (.ife (.cmp .Eq (.var 1) (.cst (.str "stable"))) (.cons (.ret [] (.lc [9] (.nm 9) (.seq (.var 3)) (.cmp .Eq (.ix (.var 5) (.var 9)) (.blt .sum (.cons (.lc [11] (.nm 11) (.seq (.ix (.var 0) (.cst (.int 0)))) (.cst (.bl true)) (.ix (.var 2) (.var 11))) .nil))) (.var 9))) .nil) .nil) (.cons (.asg [] (.nm 6) (.lc [9] (.nm 9) (.seq (.var 3)) (.call 25 (.cons (.var 9) (.cons (.call 27 (.cons (.var 0) (.cons (.var 9) .nil))) .nil))) (.var 9))) (.cons (.ife (.cmp .Eq (.var 1) (.cst (.str "admissible"))) (.cons (.ret [] (.var 6)) .nil) .nil) (.cons (.ife (.cmp .Eq (.var 1) (.cst (.str "preferred"))) (.cons (.ret [] (.call 30 (.cons (.var 6) (.cons (.var 4) .nil)))) .nil) .nil) (.cons (.ife (.cmp .Eq (.var 1) (.cst (.str "semistable"))) (.cons (.ret [] (.call 30 (.cons (.var 6) (.cons (.var 5) .nil)))) .nil) .nil) (.cons (.ife (.cmp .Eq (.var 1) (.cst (.str "ideal"))) (.cons (.asg [] (.nm 8) (.call 30 (.cons (.var 6) (.cons (.var 4) .nil)))) (.cons (.ret [] (.call 30 (.cons (.lc [9] (.nm 9) (.seq (.var 6)) (.blt .all (.cons (.lc [10] (.nm 10) (.seq (.var 8)) (.cst (.bl true)) (.call 25 (.cons (.var 9) (.cons (.var 10) .nil)))) .nil)) (.var 9)) (.cons (.var 4) .nil)))) .nil)) .nil) (.cons (.asg [] (.nm 7) (.lc [9] (.nm 9) (.seq (.var 6)) (.cmp .Eq (.blt .len (.cons (.call 27 (.cons (.var 0) (.cons (.var 9) .nil))) .nil)) (.blt .len (.cons (.var 9) .nil))) (.var 9))) (.cons (.ife (.cmp .Eq (.var 1) (.cst (.str "complete"))) (.cons (.ret [] (.var 7)) .nil) .nil) (.cons (.ret [] (.lc [9] (.nm 9) (.seq (.var 7)) (.blt .all (.cons (.lc [10] (.nm 10) (.seq (.var 7)) (.cst (.bl true)) (.call 25 (.cons (.var 9) (.cons (.var 10) .nil)))) .nil)) (.var 9))) .nil))))))))))))))))
abbrev i__law_both : Nat := 32
def n__law_both : NSs := (.cons (.ret [] (.tup (.cons (.blt .tuple (.cons (.blt .sortedSet (.cons (.bin .Add (.ix (.var 0) (.cst (.int 0))) (.ix (.var 1) (.cst (.int 0)))) .nil)) .nil)) (.cons (.blt .tuple (.cons (.blt .sortedSet (.cons (.bin .Add (.ix (.var 0) (.cst (.int 1))) (.ix (.var 1) (.cst (.int 1)))) .nil)) .nil)) .nil)))) .nil)
abbrev i__law_near_net : Nat := 33
def n__law_near_net : NSs := (.cons (.asg [] (.tp (.cons (.nm 4) (.cons (.nm 5) .nil))) (.var 1)) (.cons (.asg [] (.nm 2) (.call 19 (.cons (.var 0) (.cons (.cst (.int 5)) .nil)))) (.cons (.ife (.cmp .Eq (.var 2) (.cst (.int 0))) (.cons (.asg [] (.nm 6) (.ix (.lc [7] (.nm 7) (.seq (.tup (.cons (.cst (.str "q")) (.cons (.cst (.str "qq")) (.cons (.cst (.str "qqq")) (.cons (.cst (.str "q0")) (.cons (.cst (.str "q1")) (.cons (.cst (.str "q2")) (.cons (.cst (.str "q3")) .nil))))))))) (.cmp .NotIn (.var 7) (.var 4)) (.var 7)) (.cst (.int 0)))) (.cons (.ret [] (.tup (.cons (.blt .tuple (.cons (.blt .sorted (.cons (.bin .Add (.var 4) (.tup (.cons (.var 6) .nil))) .nil)) .nil)) (.cons (.var 5) .nil)))) .nil)) .nil) (.cons (.ife (.or (.cmp .Eq (.var 2) (.cst (.int 1))) (.cmp .Eq (.var 4) (.tup .nil))) (.cons (.ret [] (.var 1)) .nil) .nil) (.cons (.asg [] (.nm 3) (.tup (.cons (.ix (.var 4) (.call 19 (.cons (.var 0) (.cons (.blt .len (.cons (.var 4) .nil)) .nil)))) (.cons (.ix (.var 4) (.call 19 (.cons (.var 0) (.cons (.blt .len (.cons (.var 4) .nil)) .nil)))) .nil)))) (.cons (.ife (.cmp .In (.var 3) (.var 5)) (.cons (.ret [] (.tup (.cons (.var 4) (.cons (.blt .tuple (.cons (.lc [8] (.nm 8) (.seq (.var 5)) (.cmp .NotEq (.var 8) (.var 3)) (.var 8)) .nil)) .nil)))) .nil) .nil) (.cons (.ret [] (.tup (.cons (.var 4) (.cons (.blt .tuple (.cons (.blt .sorted (.cons (.bin .Add (.var 5) (.tup (.cons (.var 3) .nil))) .nil)) .nil)) .nil)))) .nil)))))))
abbrev i__law_kernel : Nat := 34
def n__law_kernel : NSs := (.cons (.asg [] (.nm 2) (.lc [6] (.nm 6) (.seq (.ix (.var 0) (.cst (.int 0)))) (.cmp .In (.tup (.cons (.var 6) (.cons (.var 6) .nil))) (.ix (.var 0) (.cst (.int 1)))) (.var 6))) (.cons (.own [] 3 (.lst .nil)) (.cons (.for_ [] (.nm 4) (.seq (.ix (.var 0) (.cst (.int 0)))) (.cons (.for_ [] (.nm 5) (.seq (.ix (.var 0) (.cst (.int 0)))) (.cons (.asg [] (.nm 7) (.cmp .In (.tup (.cons (.var 4) (.cons (.var 5) .nil))) (.ix (.var 0) (.cst (.int 1))))) (.cons (.ife (.cmp .Eq (.var 4) (.var 5)) (.cons (.asg [] (.nm 8) (.var 7)) .nil) (.cons (.ife (.cmp .In (.var 1) (.tup (.cons (.cst (.str "free")) (.cons (.cst (.str "naive")) .nil)))) (.cons (.asg [] (.nm 8) (.and (.cmp .NotIn (.var 4) (.var 2)) (.and (.cmp .NotIn (.var 5) (.var 2)) (.or (.var 7) (.cmp .In (.tup (.cons (.var 5) (.cons (.var 4) .nil))) (.ix (.var 0) (.cst (.int 1)))))))) .nil) (.cons (.ife (.cmp .In (.var 1) (.tup (.cons (.cst (.str "stable")) (.cons (.cst (.str "stage")) .nil)))) (.cons (.asg [] (.nm 8) (.and (.var 7) (.cmp .NotIn (.var 4) (.var 2)))) .nil) (.cons (.ife (.cmp .Eq (.var 1) (.cst (.str "grounded"))) (.cons (.asg [] (.nm 8) (.and (.var 7) (.not (.and (.cmp .In (.var 5) (.var 2)) (.or (.cmp .In (.var 4) (.var 2)) (.cmp .In (.tup (.cons (.var 5) (.cons (.var 4) .nil))) (.ix (.var 0) (.cst (.int 1))))))))) .nil) (.cons (.ife (.cmp .Eq (.var 1) (.cst (.str "complete"))) (.cons (.asg [] (.nm 8) (.and (.var 7) (.not (.and (.cmp .In (.var 4) (.var 2)) (.cmp .In (.var 5) (.var 2)))))) .nil) (.cons (.asg [] (.nm 8) (.and (.var 7) (.not (.and (.cmp .In (.var 4) (.var 2)) (.or (.cmp .In (.var 5) (.var 2)) (.cmp .In (.tup (.cons (.var 5) (.cons (.var 4) .nil))) (.ix (.var 0) (.cst (.int 1))))))))) .nil)) .nil)) .nil)) .nil)) .nil)) (.cons (.ife (.var 8) (.cons (.app [] 3 (.tup (.cons (.var 4) (.cons (.var 5) .nil)))) .nil) .nil) .nil)))) .nil)) (.cons (.ret [] (.tup (.cons (.ix (.var 0) (.cst (.int 0))) (.cons (.blt .tuple (.cons (.var 3) .nil)) .nil)))) .nil))))
abbrev i__law_standards : Nat := 35
def n__law_standards : NSs := (.cons (.ret [] (.lst (.cons (.cst (.str "free")) (.cons (.cst (.str "naive")) (.cons (.cst (.str "admissible")) (.cons (.cst (.str "complete")) (.cons (.cst (.str "grounded")) (.cons (.cst (.str "preferred")) (.cons (.cst (.str "stable")) (.cons (.cst (.str "semistable")) (.cons (.cst (.str "stage")) (.cons (.cst (.str "ideal")) .nil)))))))))))) .nil)
abbrev i__law_bad_net : Nat := 36
def n__law_bad_net : NSs := (.cons (.asg [] (.nm 1) (.lst (.cons (.cst .non) (.cons (.tup .nil) (.cons (.tup (.cons (.tup (.cons (.cst (.str "a")) .nil)) (.cons (.tup (.cons (.tup (.cons (.cst (.str "a")) (.cons (.cst (.str "b")) .nil))) .nil)) .nil))) (.cons (.tup (.cons (.tup (.cons (.cst (.str "b")) (.cons (.cst (.str "a")) .nil))) (.cons (.tup .nil) .nil))) (.cons (.tup (.cons (.tup (.cons (.cst (.str "a")) .nil)) (.cons (.lst (.cons (.tup (.cons (.cst (.str "a")) (.cons (.cst (.str "a")) .nil))) .nil)) .nil))) (.cons (.tup (.cons (.tup (.cons (.cst (.str "A")) .nil)) (.cons (.tup .nil) .nil))) (.cons (.tup (.cons (.tup .nil) (.cons (.tup (.cons (.tup .nil) .nil)) .nil))) (.cons (.cst (.str "net")) .nil)))))))))) (.cons (.ret [] (.ix (.var 1) (.call 19 (.cons (.var 0) (.cons (.blt .len (.cons (.var 1) .nil)) .nil))))) .nil))
abbrev i__law_bad_standard : Nat := 37
def n__law_bad_standard : NSs := (.cons (.ret [] (.ix (.lst (.cons (.cst (.str "cf2")) (.cons (.cst .non) (.cons (.cst (.str "")) (.cons (.tup (.cons (.cst (.str "free")) .nil)) (.cons (.cst (.str "Free")) (.cons (.cst (.int 3)) .nil))))))) (.call 19 (.cons (.var 0) (.cons (.cst (.int 6)) .nil))))) .nil)
abbrev i__law_told : Nat := 38
def n__law_told : NSs := (.cons (.asg [] (.tp (.cons (.nm 4) (.cons (.nm 5) .nil))) (.tup (.cons (.cst .non) (.cons (.cst .non) .nil)))) (.cons (.try_ (.cons (.ife (.cmp .Eq (.var 0) (.cst (.int 0))) (.cons (.asg [] (.nm 4) (.call 16 (.cons (.var 1) (.cons (.var 3) .nil)))) .nil) (.cons (.ife (.cmp .Eq (.var 0) (.cst (.int 1))) (.cons (.asg [] (.nm 4) (.call 17 (.cons (.var 1) (.cons (.var 2) (.cons (.var 3) .nil))))) .nil) (.cons (.ife (.cmp .Eq (.var 0) (.cst (.int 2))) (.cons (.asg [] (.nm 4) (.call 9 (.cons (.var 1) (.cons (.var 2) .nil)))) .nil) (.cons (.asg [] (.nm 4) (.call 12 (.cons (.var 1) .nil))) .nil)) .nil)) .nil)) .nil) (.cons 1 none (.cons (.asg [] (.nm 5) (.cst (.str "net"))) .nil) (.cons 2 none (.cons (.asg [] (.nm 5) (.cst (.str "standard"))) .nil) .nil))) (.cons (.ret [] (.ite (.cmp .Is (.var 5) (.cst .non)) (.lst (.cons (.var 4) .nil)) (.var 5))) .nil)))
abbrev i__law_looked : Nat := 39
def n__law_looked : NSs := (.cons (.for_ [] (.nm 4) (.seq (.call 35 .nil)) (.cons (.asg [] (.nm 5) (.call 34 (.cons (.var 1) (.cons (.var 4) .nil)))) (.cons (.asg [] (.nm 6) (.cmp .Eq (.var 5) (.call 34 (.cons (.var 2) (.cons (.var 4) .nil))))) (.cons (.asg [] (.nm 7) (.lst (.cons (.call 38 (.cons (.cst (.int 0)) (.cons (.var 1) (.cons (.cst .non) (.cons (.var 4) .nil))))) (.cons (.call 38 (.cons (.cst (.int 0)) (.cons (.var 5) (.cons (.cst .non) (.cons (.var 4) .nil))))) (.cons (.call 38 (.cons (.cst (.int 1)) (.cons (.var 1) (.cons (.var 2) (.cons (.var 4) .nil))))) .nil))))) (.cons (.ife (.not (.call 20 (.cons (.var 7) (.cons (.lst (.cons (.lst (.cons (.var 5) .nil)) (.cons (.lst (.cons (.var 5) .nil)) (.cons (.lst (.cons (.var 6) .nil)) .nil)))) .nil)))) (.cons (.ret [] (.cst (.bl false))) .nil) .nil) (.cons (.asg [] (.nm 8) (.call 38 (.cons (.cst (.int 1)) (.cons (.call 32 (.cons (.var 1) (.cons (.var 3) .nil))) (.cons (.call 32 (.cons (.var 2) (.cons (.var 3) .nil))) (.cons (.var 4) .nil)))))) (.cons (.ife (.and (.var 6) (.not (.call 20 (.cons (.var 8) (.cons (.lst (.cons (.cst (.bl true)) .nil)) .nil))))) (.cons (.ret [] (.cst (.bl false))) .nil) .nil) .nil))))))) (.cons (.asg [] (.nm 4) (.ix (.call 35 .nil) (.call 19 (.cons (.var 0) (.cons (.cst (.int 10)) .nil))))) (.cons (.ret [] (.cmp .Eq (.call 31 (.cons (.var 1) (.cons (.var 4) .nil))) (.call 31 (.cons (.call 34 (.cons (.var 1) (.cons (.var 4) .nil))) (.cons (.var 4) .nil))))) .nil)))
abbrev i__law_refused : Nat := 40
def n__law_refused : NSs := (.cons (.par [] 3 4 (.call 36 (.cons (.var 0) .nil)) (.call 37 (.cons (.var 0) .nil))) (.cons (.asg [] (.nm 2) (.lst (.cons (.call 38 (.cons (.cst (.int 0)) (.cons (.var 3) (.cons (.cst .non) (.cons (.var 4) .nil))))) (.cons (.call 38 (.cons (.cst (.int 1)) (.cons (.var 3) (.cons (.var 4) (.cons (.var 4) .nil))))) (.cons (.call 38 (.cons (.cst (.int 1)) (.cons (.var 1) (.cons (.var 3) (.cons (.var 4) .nil))))) (.cons (.call 38 (.cons (.cst (.int 1)) (.cons (.var 1) (.cons (.var 1) (.cons (.var 4) .nil))))) .nil)))))) (.cons (.asg [] (.nm 2) (.bin .Add (.var 2) (.lst (.cons (.call 38 (.cons (.cst (.int 0)) (.cons (.var 1) (.cons (.cst .non) (.cons (.var 4) .nil))))) (.cons (.call 38 (.cons (.cst (.int 2)) (.cons (.var 3) (.cons (.var 4) (.cons (.cst .non) .nil))))) (.cons (.call 38 (.cons (.cst (.int 2)) (.cons (.var 1) (.cons (.var 3) (.cons (.cst .non) .nil))))) (.cons (.call 38 (.cons (.cst (.int 3)) (.cons (.var 3) (.cons (.cst .non) (.cons (.cst .non) .nil))))) .nil))))))) (.cons (.ret [] (.cmp .Eq (.var 2) (.bin .Add (.bin .Add (.bin .Mult (.lst (.cons (.cst (.str "net")) .nil)) (.cst (.int 3))) (.bin .Mult (.lst (.cons (.cst (.str "standard")) .nil)) (.cst (.int 2)))) (.bin .Mult (.lst (.cons (.cst (.str "net")) .nil)) (.cst (.int 3)))))) .nil))))
abbrev i_law : Nat := 41
def n_law : NSs := (.cons (.for_ [] (.nm 1) (.rng1 (.blt .max (.cons (.cst (.int 1)) (.cons (.blt .min (.cons (.blt .len (.cons (.var 0) .nil)) (.cons (.cst (.int 6)) .nil))) .nil)))) (.cons (.asg [] (.nm 2) (.call 18 (.cons (.var 0) (.cons (.var 1) .nil)))) (.cons (.asg [] (.nm 3) (.call 22 (.cons (.var 2) (.cons (.call 19 (.cons (.var 2) (.cons (.cst (.int 6)) .nil))) .nil)))) (.cons (.asg [] (.nm 4) (.call 33 (.cons (.var 2) (.cons (.var 3) .nil)))) (.cons (.asg [] (.nm 5) (.call 22 (.cons (.var 2) (.cons (.call 19 (.cons (.var 2) (.cons (.cst (.int 3)) .nil))) .nil)))) (.cons (.ife (.cmp .Eq (.call 19 (.cons (.var 2) (.cons (.cst (.int 3)) .nil))) (.cst (.int 0))) (.cons (.asg [] (.nm 4) (.call 34 (.cons (.var 3) (.cons (.ix (.call 35 .nil) (.call 19 (.cons (.var 2) (.cons (.cst (.int 10)) .nil)))) .nil)))) .nil) .nil) (.cons (.asg [] (.nm 6) (.blt .tuple (.cons (.lc [7] (.nm 7) (.seq (.ix (.var 3) (.cst (.int 0)))) (.cmp .In (.tup (.cons (.var 7) (.cons (.var 7) .nil))) (.ix (.var 3) (.cst (.int 1)))) (.var 7)) .nil))) (.cons (.ife (.not (.call 20 (.cons (.lst (.cons (.call 38 (.cons (.cst (.int 3)) (.cons (.var 3) (.cons (.cst .non) (.cons (.cst .non) .nil))))) (.cons (.call 38 (.cons (.cst (.int 2)) (.cons (.var 3) (.cons (.var 4) (.cons (.cst .non) .nil))))) .nil))) (.cons (.lst (.cons (.lst (.cons (.var 6) .nil)) (.cons (.lst (.cons (.call 32 (.cons (.var 3) (.cons (.var 4) .nil))) .nil)) .nil))) .nil)))) (.cons (.ret [] (.cst (.bl false))) .nil) .nil) (.cons (.ife (.or (.not (.call 39 (.cons (.var 2) (.cons (.var 3) (.cons (.var 4) (.cons (.var 5) .nil)))))) (.not (.call 40 (.cons (.var 2) (.cons (.var 3) .nil))))) (.cons (.ret [] (.cst (.bl false))) .nil) .nil) .nil))))))))) (.cons (.ret [] (.cst (.bl true))) .nil))
def fns : List Fn := [⟨1, 2, n_is_word⟩, ⟨1, 2, n_ascends⟩, ⟨1, 2, n_is_lot_of_words⟩, ⟨2, 2, n_is_row⟩, ⟨2, 2, n_together_of⟩, ⟨2, 2, n_both_of⟩, ⟨2, 3, n_is_attack⟩, ⟨1, 2, n_is_net⟩, ⟨1, 1, n_check_net⟩, ⟨2, 2, n_both_nets⟩, ⟨1, 1, n_check_standard⟩, ⟨1, 2, n_loops_in⟩, ⟨1, 1, n_loops_of⟩, ⟨2, 5, n_free_kernel⟩, ⟨4, 6, n_stays⟩, ⟨2, 4, n_kernel_of⟩, ⟨2, 2, n_kernel⟩, ⟨3, 3, n_same_kernel⟩, ⟨2, 6, n__law_pool⟩, ⟨2, 3, n__law_pull⟩, ⟨2, 4, n__law_same⟩, ⟨2, 6, n__law_words⟩, ⟨2, 8, n__law_net⟩, ⟨1, 4, n__law_lots_below⟩, ⟨2, 4, n__law_hits⟩, ⟨2, 3, n__law_within⟩, ⟨2, 3, n__law_is_free⟩, ⟨2, 6, n__law_held_by⟩, ⟨2, 2, n__law_reach⟩, ⟨1, 4, n__law_weights⟩, ⟨2, 7, n__law_tops⟩, ⟨2, 12, n__law_lots⟩, ⟨2, 2, n__law_both⟩, ⟨2, 9, n__law_near_net⟩, ⟨2, 9, n__law_kernel⟩, ⟨0, 0, n__law_standards⟩, ⟨1, 2, n__law_bad_net⟩, ⟨1, 1, n__law_bad_standard⟩, ⟨4, 6, n__law_told⟩, ⟨4, 9, n__law_looked⟩, ⟨2, 5, n__law_refused⟩, ⟨1, 8, n_law⟩]
def exBelow (c d : Nat) : Bool := [(0, 0), (1, 1), (1, 0), (2, 2), (2, 0)].contains (c, d)
def XT : XTab := ⟨[[], [], []], exBelow⟩
def T : Tab := {}
@[irreducible] def C (k : Nat) : Call := callN T XT fns k
theorem C_eq (k : Nat) : C k = callN T XT fns k := by unfold C; rfl
abbrev x_NetError : Nat := 0
abbrev x_InvalidNet : Nat := 1
abbrev x_InvalidStandard : Nat := 2
theorem c_is_word (k : Nat) (v0 : D) : C (k + 1) 0 [v0] = S.fin (runs T XT (C k) n_is_word [.val v0, .no]) := by rw [C_eq, C_eq]; exact callN_at T XT ⟨1, 2, n_is_word⟩ rfl rfl
theorem c_ascends (k : Nat) (v0 : D) : C (k + 1) 1 [v0] = S.fin (runs T XT (C k) n_ascends [.val v0, .no]) := by rw [C_eq, C_eq]; exact callN_at T XT ⟨1, 2, n_ascends⟩ rfl rfl
theorem c_is_lot_of_words (k : Nat) (v0 : D) : C (k + 1) 2 [v0] = S.fin (runs T XT (C k) n_is_lot_of_words [.val v0, .no]) := by rw [C_eq, C_eq]; exact callN_at T XT ⟨1, 2, n_is_lot_of_words⟩ rfl rfl
theorem c_is_row (k : Nat) (v0 v1 : D) : C (k + 1) 3 [v0, v1] = S.fin (runs T XT (C k) n_is_row [.val v0, .val v1]) := by rw [C_eq, C_eq]; exact callN_at T XT ⟨2, 2, n_is_row⟩ rfl rfl
theorem c_together_of (k : Nat) (v0 v1 : D) : C (k + 1) 4 [v0, v1] = S.fin (runs T XT (C k) n_together_of [.val v0, .val v1]) := by rw [C_eq, C_eq]; exact callN_at T XT ⟨2, 2, n_together_of⟩ rfl rfl
theorem c_both_of (k : Nat) (v0 v1 : D) : C (k + 1) 5 [v0, v1] = S.fin (runs T XT (C k) n_both_of [.val v0, .val v1]) := by rw [C_eq, C_eq]; exact callN_at T XT ⟨2, 2, n_both_of⟩ rfl rfl
theorem c_is_attack (k : Nat) (v0 v1 : D) : C (k + 1) 6 [v0, v1] = S.fin (runs T XT (C k) n_is_attack [.val v0, .val v1, .no]) := by rw [C_eq, C_eq]; exact callN_at T XT ⟨2, 3, n_is_attack⟩ rfl rfl
theorem c_is_net (k : Nat) (v0 : D) : C (k + 1) 7 [v0] = S.fin (runs T XT (C k) n_is_net [.val v0, .no]) := by rw [C_eq, C_eq]; exact callN_at T XT ⟨1, 2, n_is_net⟩ rfl rfl
theorem c_check_net (k : Nat) (v0 : D) : C (k + 1) 8 [v0] = S.fin (runs T XT (C k) n_check_net [.val v0]) := by rw [C_eq, C_eq]; exact callN_at T XT ⟨1, 1, n_check_net⟩ rfl rfl
theorem c_both_nets (k : Nat) (v0 v1 : D) : C (k + 1) 9 [v0, v1] = S.fin (runs T XT (C k) n_both_nets [.val v0, .val v1]) := by rw [C_eq, C_eq]; exact callN_at T XT ⟨2, 2, n_both_nets⟩ rfl rfl
theorem c_check_standard (k : Nat) (v0 : D) : C (k + 1) 10 [v0] = S.fin (runs T XT (C k) n_check_standard [.val v0]) := by rw [C_eq, C_eq]; exact callN_at T XT ⟨1, 1, n_check_standard⟩ rfl rfl
theorem c_loops_in (k : Nat) (v0 : D) : C (k + 1) 11 [v0] = S.fin (runs T XT (C k) n_loops_in [.val v0, .no]) := by rw [C_eq, C_eq]; exact callN_at T XT ⟨1, 2, n_loops_in⟩ rfl rfl
theorem c_loops_of (k : Nat) (v0 : D) : C (k + 1) 12 [v0] = S.fin (runs T XT (C k) n_loops_of [.val v0]) := by rw [C_eq, C_eq]; exact callN_at T XT ⟨1, 1, n_loops_of⟩ rfl rfl
theorem c_free_kernel (k : Nat) (v0 v1 : D) : C (k + 1) 13 [v0, v1] = S.fin (runs T XT (C k) n_free_kernel [.val v0, .val v1, .no, .no, .no]) := by rw [C_eq, C_eq]; exact callN_at T XT ⟨2, 5, n_free_kernel⟩ rfl rfl
theorem c_stays (k : Nat) (v0 v1 v2 v3 : D) : C (k + 1) 14 [v0, v1, v2, v3] = S.fin (runs T XT (C k) n_stays [.val v0, .val v1, .val v2, .val v3, .no, .no]) := by rw [C_eq, C_eq]; exact callN_at T XT ⟨4, 6, n_stays⟩ rfl rfl
theorem c_kernel_of (k : Nat) (v0 v1 : D) : C (k + 1) 15 [v0, v1] = S.fin (runs T XT (C k) n_kernel_of [.val v0, .val v1, .no, .no]) := by rw [C_eq, C_eq]; exact callN_at T XT ⟨2, 4, n_kernel_of⟩ rfl rfl
theorem c_kernel (k : Nat) (v0 v1 : D) : C (k + 1) 16 [v0, v1] = S.fin (runs T XT (C k) n_kernel [.val v0, .val v1]) := by rw [C_eq, C_eq]; exact callN_at T XT ⟨2, 2, n_kernel⟩ rfl rfl
theorem c_same_kernel (k : Nat) (v0 v1 v2 : D) : C (k + 1) 17 [v0, v1, v2] = S.fin (runs T XT (C k) n_same_kernel [.val v0, .val v1, .val v2]) := by rw [C_eq, C_eq]; exact callN_at T XT ⟨3, 3, n_same_kernel⟩ rfl rfl
theorem c__law_pool (k : Nat) (v0 v1 : D) : C (k + 1) 18 [v0, v1] = S.fin (runs T XT (C k) n__law_pool [.val v0, .val v1, .no, .no, .no, .no]) := by rw [C_eq, C_eq]; exact callN_at T XT ⟨2, 6, n__law_pool⟩ rfl rfl
theorem c__law_pull (k : Nat) (v0 v1 : D) : C (k + 1) 19 [v0, v1] = S.fin (runs T XT (C k) n__law_pull [.val v0, .val v1, .no]) := by rw [C_eq, C_eq]; exact callN_at T XT ⟨2, 3, n__law_pull⟩ rfl rfl
theorem c__law_same (k : Nat) (v0 v1 : D) : C (k + 1) 20 [v0, v1] = S.fin (runs T XT (C k) n__law_same [.val v0, .val v1, .no, .no]) := by rw [C_eq, C_eq]; exact callN_at T XT ⟨2, 4, n__law_same⟩ rfl rfl
theorem c__law_words (k : Nat) (v0 v1 : D) : C (k + 1) 21 [v0, v1] = S.fin (runs T XT (C k) n__law_words [.val v0, .val v1, .no, .no, .no, .no]) := by rw [C_eq, C_eq]; exact callN_at T XT ⟨2, 6, n__law_words⟩ rfl rfl
theorem c__law_net (k : Nat) (v0 v1 : D) : C (k + 1) 22 [v0, v1] = S.fin (runs T XT (C k) n__law_net [.val v0, .val v1, .no, .no, .no, .no, .no, .no]) := by rw [C_eq, C_eq]; exact callN_at T XT ⟨2, 8, n__law_net⟩ rfl rfl
theorem c__law_lots_below (k : Nat) (v0 : D) : C (k + 1) 23 [v0] = S.fin (runs T XT (C k) n__law_lots_below [.val v0, .no, .no, .no]) := by rw [C_eq, C_eq]; exact callN_at T XT ⟨1, 4, n__law_lots_below⟩ rfl rfl
theorem c__law_hits (k : Nat) (v0 v1 : D) : C (k + 1) 24 [v0, v1] = S.fin (runs T XT (C k) n__law_hits [.val v0, .val v1, .no, .no]) := by rw [C_eq, C_eq]; exact callN_at T XT ⟨2, 4, n__law_hits⟩ rfl rfl
theorem c__law_within (k : Nat) (v0 v1 : D) : C (k + 1) 25 [v0, v1] = S.fin (runs T XT (C k) n__law_within [.val v0, .val v1, .no]) := by rw [C_eq, C_eq]; exact callN_at T XT ⟨2, 3, n__law_within⟩ rfl rfl
theorem c__law_is_free (k : Nat) (v0 v1 : D) : C (k + 1) 26 [v0, v1] = S.fin (runs T XT (C k) n__law_is_free [.val v0, .val v1, .no]) := by rw [C_eq, C_eq]; exact callN_at T XT ⟨2, 3, n__law_is_free⟩ rfl rfl
theorem c__law_held_by (k : Nat) (v0 v1 : D) : C (k + 1) 27 [v0, v1] = S.fin (runs T XT (C k) n__law_held_by [.val v0, .val v1, .no, .no, .no, .no]) := by rw [C_eq, C_eq]; exact callN_at T XT ⟨2, 6, n__law_held_by⟩ rfl rfl
theorem c__law_reach (k : Nat) (v0 v1 : D) : C (k + 1) 28 [v0, v1] = S.fin (runs T XT (C k) n__law_reach [.val v0, .val v1]) := by rw [C_eq, C_eq]; exact callN_at T XT ⟨2, 2, n__law_reach⟩ rfl rfl
theorem c__law_weights (k : Nat) (v0 : D) : C (k + 1) 29 [v0] = S.fin (runs T XT (C k) n__law_weights [.val v0, .no, .no, .no]) := by rw [C_eq, C_eq]; exact callN_at T XT ⟨1, 4, n__law_weights⟩ rfl rfl
theorem c__law_tops (k : Nat) (v0 v1 : D) : C (k + 1) 30 [v0, v1] = S.fin (runs T XT (C k) n__law_tops [.val v0, .val v1, .no, .no, .no, .no, .no]) := by rw [C_eq, C_eq]; exact callN_at T XT ⟨2, 7, n__law_tops⟩ rfl rfl
theorem c__law_lots (k : Nat) (v0 v1 : D) : C (k + 1) 31 [v0, v1] = S.fin (runs T XT (C k) n__law_lots [.val v0, .val v1, .no, .no, .no, .no, .no, .no, .no, .no, .no, .no]) := by rw [C_eq, C_eq]; exact callN_at T XT ⟨2, 12, n__law_lots⟩ rfl rfl
theorem c__law_both (k : Nat) (v0 v1 : D) : C (k + 1) 32 [v0, v1] = S.fin (runs T XT (C k) n__law_both [.val v0, .val v1]) := by rw [C_eq, C_eq]; exact callN_at T XT ⟨2, 2, n__law_both⟩ rfl rfl
theorem c__law_near_net (k : Nat) (v0 v1 : D) : C (k + 1) 33 [v0, v1] = S.fin (runs T XT (C k) n__law_near_net [.val v0, .val v1, .no, .no, .no, .no, .no, .no, .no]) := by rw [C_eq, C_eq]; exact callN_at T XT ⟨2, 9, n__law_near_net⟩ rfl rfl
theorem c__law_kernel (k : Nat) (v0 v1 : D) : C (k + 1) 34 [v0, v1] = S.fin (runs T XT (C k) n__law_kernel [.val v0, .val v1, .no, .no, .no, .no, .no, .no, .no]) := by rw [C_eq, C_eq]; exact callN_at T XT ⟨2, 9, n__law_kernel⟩ rfl rfl
theorem c__law_standards (k : Nat) : C (k + 1) 35 [] = S.fin (runs T XT (C k) n__law_standards []) := by rw [C_eq, C_eq]; exact callN_at T XT ⟨0, 0, n__law_standards⟩ rfl rfl
theorem c__law_bad_net (k : Nat) (v0 : D) : C (k + 1) 36 [v0] = S.fin (runs T XT (C k) n__law_bad_net [.val v0, .no]) := by rw [C_eq, C_eq]; exact callN_at T XT ⟨1, 2, n__law_bad_net⟩ rfl rfl
theorem c__law_bad_standard (k : Nat) (v0 : D) : C (k + 1) 37 [v0] = S.fin (runs T XT (C k) n__law_bad_standard [.val v0]) := by rw [C_eq, C_eq]; exact callN_at T XT ⟨1, 1, n__law_bad_standard⟩ rfl rfl
theorem c__law_told (k : Nat) (v0 v1 v2 v3 : D) : C (k + 1) 38 [v0, v1, v2, v3] = S.fin (runs T XT (C k) n__law_told [.val v0, .val v1, .val v2, .val v3, .no, .no]) := by rw [C_eq, C_eq]; exact callN_at T XT ⟨4, 6, n__law_told⟩ rfl rfl
theorem c__law_looked (k : Nat) (v0 v1 v2 v3 : D) : C (k + 1) 39 [v0, v1, v2, v3] = S.fin (runs T XT (C k) n__law_looked [.val v0, .val v1, .val v2, .val v3, .no, .no, .no, .no, .no]) := by rw [C_eq, C_eq]; exact callN_at T XT ⟨4, 9, n__law_looked⟩ rfl rfl
theorem c__law_refused (k : Nat) (v0 v1 : D) : C (k + 1) 40 [v0, v1] = S.fin (runs T XT (C k) n__law_refused [.val v0, .val v1, .no, .no, .no]) := by rw [C_eq, C_eq]; exact callN_at T XT ⟨2, 5, n__law_refused⟩ rfl rfl
theorem c_law (k : Nat) (v0 : D) : C (k + 1) 41 [v0] = S.fin (runs T XT (C k) n_law [.val v0, .no, .no, .no, .no, .no, .no, .no]) := by rw [C_eq, C_eq]; exact callN_at T XT ⟨1, 8, n_law⟩ rfl rfl
end K16

set_option maxHeartbeats 200000
namespace K16
open PySem Ny
theorem is_word_str (k : Nat) (x : Str) (h : few x.length) : C (k + 1) i_is_word [.str x] = R.pure (.bl (isWordS x)) := by
  have hl : x.length = x.cps.toList.length := rfl
  rw [c_is_word]
  simp [n_is_word, h, hl ▸ h, -Array.mem_toList_iff, letters_eq, signs_eq]
  by_cases c : (x.length : Int) < 1 ∨ 8 < (x.length : Int)
  · rw [if_pos c]
    have : isWordS x = false := by
      unfold isWordS isWordL
      rcases c with c | c
      · have : x.cps.toList = [] := List.length_eq_zero_iff.mp (by omega)
        rw [this]
      · split
        · rfl
        · rename_i e
          rw [e, List.length_cons] at hl
          simp
          intro q
          omega
    rw [this]
  · rw [if_neg c]
    unfold isWordS isWordL
    cases e : x.cps.toList with
    | nil => rw [e, List.length_nil] at hl; omega
    | cons a r =>
      rw [e, List.length_cons] at hl
      have h0 : chAt x 0 = R.pure (.str ⟨#[a]⟩) := chAt_nat (j := 0) h (by rw [e]; rfl)
      have hr : decide (r.length < 8) = true := by simp; omega
      rw [h0]
      simp only [hr]
      have hx : few (r.length + 1) := by rw [← hl]; exact h
      by_cases q : a ∈ lettersL <;> simp [-Array.mem_toList_iff, letters_eq, q, -List.map_cons, hx]
theorem is_word_eq (k : Nat) (d : D) (h : fineD d = true) : C (k + 1) i_is_word [d] = R.pure (.bl (isWordD d)) := by
  cases d with
  | str x => exact is_word_str k x (fine_str h)
  | ro _ => cases h
  | dct _ _ => cases h
  | obj _ => cases h
  | _ => rw [c_is_word]; simp [n_is_word, isWordD]
theorem ascends_eq (k : Nat) (xs : List D) (hf : few xs.length) (h : nearOk xs = true) : C (k + 1) i_ascends [.tup xs] = R.pure (.bl (ascD xs)) := by
  rw [c_ascends]
  have e : (xs.length : Int) - 1 = (((xs.length : Int) - 1).toNat : Int) ∨ (xs.length : Int) - 1 = -1 := by omega
  rw [← asc_all]
  simp [n_ascends]
  unfold few at hf
  rw [rngR_eq (by omega) (by omega)]
  simp
  rw [lcG_eq (fun i => .bl (ltB (xs[i]?.getD .non) (xs[i + 1]?.getD .non))) fun i hi => ?_]
  · simp [show few (xs.length - 1) by unfold few; omega]
    rfl
  have hi := List.mem_range.mp hi
  obtain ⟨x, y, h1, h2, h3⟩ := nearOk_at i h (by omega)
  rw [atD_nat h1, show ((i : Int) + 1) = ((i + 1 : Nat) : Int) by omega]
  simp
  rw [show ((i : Int) + 1) = ((i + 1 : Nat) : Int) by omega, atD_nat h2]
  unfold pairOk at h3
  rw [Bool.and_eq_true] at h3
  simp [R.need_of h3.1, h1, h2, ltB]
  obtain ⟨b, hb⟩ := Option.isSome_iff_exists.mp h3.2
  simp [hb]
theorem is_lot_of_words_eq (k : Nat) (d : D) (h : fineD d = true) : C (k + 2) i_is_lot_of_words [d] = R.pure (.bl (isLotD d)) := by
  cases d with
  | tup xs =>
    rw [fineD_tup, Bool.and_eq_true, decide_eq_true_eq] at h
    rw [c_is_lot_of_words]
    simp [n_is_lot_of_words]
    rw [lcG_eq (fun x => .bl (isWordD x)) fun x hx => by rw [is_word_eq k x (fineAll_iff.mp h.2 x hx)]; rfl]
    simp [show few xs.length from h.1]
    unfold isLotD
    by_cases q : allB isWordD xs = true
    · rw [q]
      simp [q]
      refine ascends_eq k xs h.1 (pairOk_nearOk fun x hx y hy => ?_)
      obtain ⟨s, rfl, _⟩ := isWordD_inv (allB_iff.mp q x hx)
      obtain ⟨t, rfl, _⟩ := isWordD_inv (allB_iff.mp q y hy)
      exact pairOk_str s t
    · rw [Bool.not_eq_true] at q
      simp [q]
  | ro _ => cases h
  | dct _ _ => cases h
  | obj _ => cases h
  | _ => rw [c_is_lot_of_words]; simp [n_is_lot_of_words, isLotD]
theorem is_row_eq (k : Nat) (d : D) (n : Nat) (h : fineD d = true) : C (k + 1) i_is_row [d, .int n] = R.pure (.bl (isRowD n d)) := by
  cases d with
  | tup xs =>
    rw [c_is_row]
    simp [n_is_row, isRowD]
  | ro _ => cases h
  | dct _ _ => cases h
  | obj _ => cases h
  | _ => rw [c_is_row]; simp [n_is_row, isRowD]
theorem is_attack_eq (k : Nat) (pts : List D) (d : D) (hp : plainAll pts = true) (h : fineD d = true) : C (k + 2) i_is_attack [.tup pts, d] = R.pure (.bl (isAttD pts d)) := by
  rw [c_is_attack]
  simp [n_is_attack]
  rw [show (2 : Int) = ((2 : Nat) : Int) from rfl, is_row_eq k d 2 h]
  cases d with
  | tup xs =>
    simp [isRowD, isAttD]
    by_cases q : xs.length = 2
    · rw [fineD_tup, Bool.and_eq_true] at h
      simp [q]
      rw [lcG_eq (fun x => .bl (isStrD x && hasD x pts)) fun x hx => ?_]
      · simp [q]
      · have hx := fineAll_iff.mp h.2 x hx
        cases x with
        | str s => simp [isStrD, inSeq_of (x := .str s) rfl (by simp) hp]
        | obj _ => cases hx
        | ro _ => cases hx
        | dct _ _ => cases hx
        | _ => simp [isStrD]
    · have q2 : (xs.length == 2) = false := by simpa using q
      simp [q, q2]
  | _ => simp [isRowD, isAttD]
theorem is_net_eq (k : Nat) (d : D) (h : fineD d = true) : C (k + 3) i_is_net [d] = R.pure (.bl (isNetD d)) := by
  rw [c_is_net]
  simp [n_is_net]
  rw [show (2 : Int) = ((2 : Nat) : Int) from rfl, is_row_eq (k + 1) d 2 h]
  cases d with
  | tup xs =>
    match xs with
    | [] => simp [isRowD, isNetD]
    | [_] => simp [isRowD, isNetD]
    | _ :: _ :: _ :: _ => simp [isRowD, isNetD]
    | [a, b] =>
      simp [fineD_tup] at h
      simp [isRowD]
      rw [is_lot_of_words_eq k a h.1]
      cases a with
      | tup pts =>
        have hp : plainAll pts = true := by have := fine_plain h.1; simpa using this
        by_cases q : isLotD (.tup pts) = true
        · cases b with
          | tup b =>
            simp [q, isNetD]
            have h2 := h.2
            rw [fineD_tup, Bool.and_eq_true, decide_eq_true_eq] at h2
            rw [lcG_eq (fun x => .bl (isAttD pts x)) fun x hx => by rw [is_attack_eq k pts x hp (fineAll_iff.mp h2.2 x hx)]; rfl]
            simp [show few b.length from h2.1]
            by_cases q2 : allB (isAttD pts) b = true
            · simp [q2]
              refine ascends_eq (k + 1) b h2.1 (pairOk_nearOk fun x hx y hy => ?_)
              obtain ⟨x1, x2, rfl⟩ := isAttD_inv (allB_iff.mp q2 x hx)
              obtain ⟨y1, y2, rfl⟩ := isAttD_inv (allB_iff.mp q2 y hy)
              exact pairOk_pair (x1, x2) (y1, y2)
            · simp [q2]
          | ro _ => simp [fineD] at h
          | dct _ _ => simp [fineD] at h
          | obj _ => simp [fineD] at h
          | _ => simp [q, isNetD]
        · rw [Bool.not_eq_true] at q
          simp [q]
          unfold isNetD
          split
          · rename_i e
            simp at e
            rw [← e.1, q]
            rfl
          · rfl
      | _ => simp [isLotD, isNetD]
  | _ => simp [isRowD, isNetD]
theorem check_net_eq (k : Nat) (d : D) (h : fineD d = true) : C (k + 4) i_check_net [d] = if isNetD d = true then R.pure .non else R.raise ⟨x_InvalidNet, []⟩ := by
  rw [c_check_net]
  simp [n_check_net]
  rw [is_net_eq k d h]
  by_cases q : isNetD d = true <;> simp [q] <;> rfl
theorem together_S (k : Nat) (l m : List Str) (hl : l.length + m.length ≤ 3900) : C (k + 1) i_together_of [tL l, tL m] = R.pure (.tup (sset ((l ++ m).map .str))) := by
  rw [c_together_of]
  simp [n_together_of]
  rw [opR_add_tup (few_lit (by simp; omega)), ← List.map_append]
  simp only [R.pure_bind]
  rw [sset_ST _ (by simp; omega)]
  simp
theorem together_P (k : Nat) (l m : List (Str × Str)) (hl : l.length + m.length ≤ 3900) (hd : (dedup ((l ++ m).map fun p => D.tup [.str p.1, .str p.2])).length ≤ 75) : C (k + 1) i_together_of [tP l, tP m] = R.pure (.tup (sset ((l ++ m).map fun p => .tup [.str p.1, .str p.2]))) := by
  rw [c_together_of]
  simp [n_together_of]
  rw [opR_add_tup (few_lit (by simp; omega)), ← List.map_append]
  simp only [R.pure_bind]
  have := sset_P (l ++ m) (by simp; omega) hd
  rw [show bltR .sortedSet [D.tup _] = bltR .sortedSet [D.lst _] from rfl, this]
  simp
def attackersL (n : Net) (p : Str) : List Str := (n.2.filter fun q => decide (q.2 = p)).map (·.1)
def attackedL (n : Net) (p : Str) : List Str := (n.2.filter fun q => decide (q.1 = p)).map (·.2)
def hitL (n : Net) (l : List Str) : List Str := (n.2.filter fun q => decide (q.1 ∈ l)).map (·.2)
theorem hitL_len (n : Net) (l : List Str) : (hitL n l).length ≤ n.2.length := by
  unfold hitL
  rw [List.length_map]
  exact List.length_filter_le _ _
/-- what a lot attacks -/
theorem hit_ex (n : Net) (l : List Str) : ∃ m : List Str, sset ((hitL n l).map .str) = m.map .str ∧ (m.Pairwise fun x y => ltS x y = true) ∧ ∀ x, x ∈ m ↔ ∃ a ∈ l, (a, x) ∈ n.2 := by
  obtain ⟨m, h1, h2, h3⟩ := sset_strs_ex (hitL n l)
  refine ⟨m, h1, h2, fun x => ?_⟩
  rw [h3]
  unfold hitL
  simp only [List.mem_map, List.mem_filter, decide_eq_true_eq]
  constructor
  · rintro ⟨⟨a, b⟩, ⟨h, h'⟩, rfl⟩
    exact ⟨a, h', h⟩
  · rintro ⟨a, h, h'⟩
    exact ⟨(a, x), ⟨h', h⟩, rfl⟩
def rangeL (n : Net) (l : List Str) : List Str := n.1.filter fun x => decide (x ∈ l ∨ ∃ a ∈ l, (a, x) ∈ n.2)
def confL (n : Net) (l : List Str) : List (Str × Str) := n.2.filter fun p => decide (p.1 ∈ l ∧ p.2 ∈ l)
def defL (n : Net) (l : List Str) : List Str := n.1.filter fun x => allB (fun q : Str × Str => decide (q.2 = x → ∃ b ∈ l, (b, q.1) ∈ n.2)) n.2
/-- a lot of a net -/
structure GLot (n : Net) (l : List Str) : Prop where
  word : ∀ w ∈ l, isWordS w = true
  asc : l.Pairwise fun x y => ltS x y = true
  sub : ∀ w ∈ l, w ∈ n.1
  few : l.length ≤ 1000
theorem GLot.isLot {n : Net} {l : List Str} (g : GLot n l) : isLotInD n.1 (tL l) = true := isLotInD_of g.word g.asc g.sub
theorem GLot.fine {n : Net} {l : List Str} (g : GLot n l) : fineD (tL l) = true := fine_strs g.word (by have := g.few; omega)

theorem both_nets_badnet (k : Nat) (v d : D) (hv : fineD v = true) (h : isNetD v = false) : C (k + 5) i_both_nets [v, d] = R.raise ⟨x_InvalidNet, []⟩ := by
  rw [c_both_nets]
  simp [n_both_nets]
  rw [check_net_eq k v hv]
  simp [h]
theorem both_nets_bad (k : Nat) {n : Net} (g : GNet n) (d : D) (hd : fineD d = true) (h : isNetD d = false) : C (k + 5) i_both_nets [nD n, d] = R.raise ⟨x_InvalidNet, []⟩ := by
  rw [c_both_nets]
  have e := check_net_eq k (nD n) g.fine
  have e3 := g.isNet
  simp only [nD, tL, tP] at e e3
  simp [n_both_nets]
  rw [e, check_net_eq k d hd]
  simp [h, e3]
/-- the net of two -/
def bothD (n m : Net) : D := .tup [.tup (sset ((n.1 ++ m.1).map .str)), .tup (sset ((n.2 ++ m.2).map fun p => .tup [.str p.1, .str p.2]))]
theorem both_of_eq (k : Nat) {n m : Net} (g : GNet n) (g2 : GNet m) (hd : (dedup ((n.2 ++ m.2).map fun p => D.tup [.str p.1, .str p.2])).length ≤ 75) : C (k + 2) i_both_of [nD n, nD m] = R.pure (bothD n m) := by
  rw [c_both_of]
  have e1 := together_S k n.1 m.1 (by have := g.fewP; have := g2.fewP; omega)
  have e2 := together_P k n.2 m.2 (by have := g.fewA; have := g2.fewA; omega) hd
  simp only [nD, tL, tP] at e1 e2
  simp [n_both_of]
  rw [e1, e2]
  simp [bothD]
theorem both_nets_ok (k : Nat) {n m : Net} (g : GNet n) (g2 : GNet m) (hd : (dedup ((n.2 ++ m.2).map fun p => D.tup [.str p.1, .str p.2])).length ≤ 75) : C (k + 5) i_both_nets [nD n, nD m] = R.pure (bothD n m) := by
  rw [c_both_nets]
  have e := check_net_eq k (nD n) g.fine
  have e2 := check_net_eq k (nD m) g2.fine
  have e3 := g.isNet
  have e4 := g2.isNet
  have e5 := both_of_eq (k + 2) g g2 hd
  simp only [nD, tL, tP] at e e2 e3 e4 e5
  simp [n_both_nets]
  rw [e, e2, e5]
  simp [e3, e4]


/-- a pool of draws stands at n, drawn from at most N times -/
def Pool (N n : Nat) (h : Hs) : Prop := ∃ a b c : Int, h[n]? = some (.lst [.int a, .int b, .int c]) ∧ 0 ≤ c ∧ c ≤ N
theorem Pool.mono {N M n : Nat} {h : Hs} (p : Pool N n h) (hm : N ≤ M) : Pool M n h := by
  obtain ⟨a, b, c, e, h0, hc⟩ := p
  exact ⟨a, b, c, e, h0, by omega⟩
theorem pull_wp (k n N : Nat) (hN : N < 1000000000) (m : Nat) (hm : 0 < m) (hm2 : m < 1073741824) (h : Hs) (hs : Pool N n h) (Q : D → Hs → Prop) (q : ∀ (r : Nat) h', r < m → Pool (N + 1) n h' → Q (.int r) h') : R.wp (C (k + 1) i__law_pull [.obj n, .int m]) Q h := by
  obtain ⟨a, b, c, e, h0, hc⟩ := hs
  have hn : n < h.length := (List.getElem?_eq_some_iff.mp e).1
  have fin : ∀ (z : Int) (h' : Hs), Pool (N + 1) n h' → Q (.int (z % m)) h' := fun z h' hp => by
    have h1 : 0 ≤ z % (m : Int) := Int.emod_nonneg _ (by omega)
    have h2 : z % (m : Int) < m := Int.emod_lt_of_pos _ (by omega)
    have := q (z % (m : Int)).toNat h' (by omega) hp
    rwa [Int.toNat_of_nonneg h1] at this
  rw [c__law_pull]
  simp [n__law_pull]
  rw [S.wp_chk rfl]
  simp
  rw [wp_ix_obj e]
  simp
  rw [wp_turn_obj (o' := .lst [.int a, .int b, .int (c + 1)]) rfl e rfl]
  have e2 : (h.set n (.lst [.int a, .int b, .int (c + 1)]))[n]? = some (.lst [.int a, .int b, .int (c + 1)]) := by rw [List.getElem?_set_self hn]
  have hn2 : n < (h.set n (.lst [.int a, .int b, .int (c + 1)])).length := by rw [List.length_set]; exact hn
  have hc1 : 0 ≤ c + 1 ∧ c + 1 ≤ (N + 1 : Nat) := by omega
  generalize h.set n (.lst [.int a, .int b, .int (c + 1)]) = h2 at *
  generalize c + 1 = c1 at *
  simp
  rw [wp_ix_obj e2]
  simp
  by_cases ha : 0 < a
  · rw [if_pos ha, wp_ix_obj e2]
    simp [opR_mod_int (show (0 : Int) < m by omega)]
    rw [S.wp_chk rfl]
    simp
    rw [wp_ix_obj e2]
    simp [opR_div_int (show (0 : Int) < m by omega) (show (m : Int) < 1073741824 by omega)]
    rw [wp_turn_obj (o' := .lst [.int (a / m), .int b, .int c1]) rfl e2 rfl]
    simp
    exact fin _ _ ⟨_, _, c1, by rw [List.getElem?_set_self hn2], hc1⟩
  · have m1 : mulOk b 16807 = true := by simp [mulOk, small64]
    have m2 : mulOk c1 c1 = true := by
      unfold mulOk small64
      rw [Bool.or_eq_true]
      left
      simp
      omega
    have m3 : mulOk (c1 * c1) 40692 = true := by simp [mulOk, small64]
    have m4 : ∀ x : Int, mulOk x 1583458089 = true := fun x => by simp [mulOk, small64]
    rw [if_neg ha, S.wp_chk rfl]
    simp
    rw [wp_ix_obj e2]
    simp [opR_mul_int m1]
    rw [wp_ix_obj e2]
    simp
    rw [wp_ix_obj e2]
    simp [opR_mul_int m2, opR_mul_int m3]
    rw [opR_mod_int (by decide)]
    simp
    generalize (b * 16807 + c1 * c1 * 40692 + 977) % 2147483629 = b1
    rw [wp_turn_obj (o' := .lst [.int a, .int b1, .int c1]) rfl e2 rfl]
    simp
    rw [wp_ix_obj (xs := [.int a, .int b1, .int c1]) (by rw [List.getElem?_set_self hn2])]
    simp [opR_mul_int (m4 b1)]
    rw [opR_mod_int (by decide)]
    simp
    rw [opR_div_int (by decide) (by decide)]
    simp
    rw [opR_mod_int (show (0 : Int) < m by omega)]
    simp
    exact fin _ _ ⟨_, _, c1, by rw [List.getElem?_set_self hn2], hc1⟩

theorem pool_wp (k : Nat) (ns : List Int) (hl : ns.length ≤ 63) (j : Nat) (hj : j < 100) (h : Hs) (Q : D → Hs → Prop) (q : ∀ h', Pool j h.length h' → Q (.obj h.length) h') : R.wp (C (k + 1) i__law_pool [.ro (ns.map .int), .int j]) Q h := by
  rw [c__law_pool]
  simp [n__law_pool]
  rw [show cut (ns.map D.int) none (some 63) = (ns.map D.int).take 63 from cut_to _ 63]
  refine S.wp_forN (fun i σ h' => h' = h ∧ ∃ (total : Int) (s3 s5 : Slot), σ = [.val (.ro (ns.map .int)), .val (.int j), .val (.int total), s3, .no, s5]) ⟨rfl, 1, .no, .no, rfl⟩ ?_ ?_
  · rintro i x σ h' hx ⟨rfl, total, s3, s5, rfl⟩
    obtain ⟨d, hd, rfl⟩ := enumD_get hx
    have hi : i < 63 := by
      have := (List.getElem?_eq_some_iff.mp hd).1
      rw [List.length_take] at this
      omega
    have hd2 : ∃ z : Int, d = .int z := by
      have := List.mem_of_getElem? hd
      have := List.mem_of_mem_take this
      obtain ⟨z, _, rfl⟩ := List.mem_map.mp this
      exact ⟨z, rfl⟩
    obtain ⟨z, rfl⟩ := hd2
    simp
    rw [mul_c total 31 (by decide)]
    simp
    rw [mul_c 2 (i : Int) (by unfold small64; simp; omega)]
    simp
    rw [mul_c z _ (by unfold small64; simp; omega)]
    simp
    rw [opR_mod_int (by decide)]
    simp
  · rintro σ h' ⟨rfl, total, s3, s5, rfl⟩
    have fin : ∀ (a b : Int), Q (.obj h'.length) (h' ++ [.lst [.int a, .int b, .int j]]) := fun a b => q _ ⟨a, b, j, by simp, by omega, by omega⟩
    have e3 : opR .Pow (.int 10) (.int 18) = R.pure (.int 1000000000000000000) := rfl
    have hb : ∀ x y z : D, big [x, y, z].length = true := fun _ _ _ => rfl
    have lt : ltD (.int (j : Int)) (.int (ns.length : Int)) = some (decide (j < ns.length)) := by
      show some (decide ((j : Int) < (ns.length : Int))) = _
      simp
    have lt2 : ∀ a : Int, ltD (.int a) (.int 1000000000000000000) = some (decide (a < 1000000000000000000)) := fun a => rfl
    have ab : ∀ a : Int, bltR .abs [.int a] = R.pure (.int (if a < 0 then -a else a)) := fun _ => rfl
    simp
    rw [mul_c total 7 (by decide)]
    simp [lt]
    have key : ∀ cell : Int, R.wp (opR .Mult (.int cell) (.int 48271)) (fun a h' => R.wp (opR .Mult (.int total) (.int 69621)) (fun a_1 h' => R.wp (opR .Add a a_1) (fun a h' => R.wp (opR .Mult (.int j) (.int 7919)) (fun a_2 h' => R.wp (opR .Add a a_2) (fun a h' => R.wp (opR .Add a (.int 5)) (fun a h' => R.wp (bltR .int [a]) (fun a h' => R.wp (opR .Mod a (.int 2147483647)) (fun a h' => R.wp (opR .Pow (.int 10) (.int 18)) (fun a_3 h' => R.wp (R.need (cmpOk (.int cell) a_3) (R.ofOpt (ltD (.int cell) a_3))) (fun a_4 h' => if a_4 = true then R.wp (R.need (big 3) (allocR (.lst [.int 0, a, .int j]))) (fun a h' => Q a h') h' else R.wp (R.need (big 3) (allocR (.lst [.int cell, a, .int j]))) (fun a h' => Q a h') h') h') h') h') h') h') h') h') h') h') h' := fun cell => by
      rw [mul_c cell 48271 (by decide)]
      simp
      rw [mul_c total 69621 (by decide)]
      simp
      rw [mul_c j 7919 (by decide)]
      simp
      rw [opR_mod_int (by decide), e3]
      simp [lt2, R.wp_need, show big 3 = true from rfl]
      split
      · exact fin _ _
      · exact fin _ _
    by_cases hk : j < ns.length
    · rw [if_pos hk]
      have e4 : ixR (.ro (ns.map D.int)) (.int (j : Int)) = R.pure (.int ns[j]) := by
        show atD (ns.map D.int) (j : Int) = _
        exact atD_nat (by rw [List.getElem?_map, List.getElem?_eq_getElem hk]; rfl)
      rw [e4]
      simp [ab]
      exact key _
    · rw [if_neg hk]
      exact key _

theorem same_eq : ∀ (k : Nat) (d : D), fineD d = true → d.dep ≤ k → C (k + 1) i__law_same [d, d] = R.pure (.bl true) := by
  intro k
  induction k with
  | zero =>
    intro d hf hd
    cases d with
    | tup xs => simp at hd
    | lst xs => simp at hd
    | ro _ => cases hf
    | dct _ _ => cases hf
    | obj _ => cases hf
    | _ => rw [c__law_same]; simp [n__law_same, isR]
  | succ k ih =>
    intro d hf hd
    have key : ∀ xs : List D, depAll xs ≤ k → fineAll xs = true → ∀ x ∈ xs, C (k + 1) i__law_same [x, x] = R.pure (.bl true) := by
      intro xs h1 h2 x hx
      exact ih _ (fineAll_iff.mp h2 _ hx) (depAll_le.mp h1 _ hx)
    have tr : ∀ l : List D, allB (fun _ => true) l = true := fun l => allB_iff.mpr fun _ _ => rfl
    cases d with
    | ro _ => cases hf
    | dct _ _ => cases hf
    | obj _ => cases hf
    | tup xs =>
      rw [fineD_tup, Bool.and_eq_true, decide_eq_true_eq] at hf
      have hf1 : few xs.length := hf.1
      rw [c__law_same]
      simp [n__law_same, zipD_self]
      rw [lcG_eq (fun _ => .bl true) fun x hx => ?_]
      · simp [hf1, tr]
      · rw [key xs (by simpa using hd) hf.2 x hx]
        simp
    | lst xs =>
      rw [fineD_lst, Bool.and_eq_true, decide_eq_true_eq] at hf
      have hf1 : few xs.length := hf.1
      rw [c__law_same]
      simp [n__law_same, zipD_self]
      rw [lcG_eq (fun _ => .bl true) fun x hx => ?_]
      · simp [hf1, tr]
      · rw [key xs (by simpa using hd) hf.2 x hx]
        simp
    | _ => rw [c__law_same]; simp [n__law_same, isR]

def stockL : List Str := ["n0", "n1", "x0", "x1", "a", "b", "c", "d", "e", "f", "ab", "a0", "zz9", "kqqqqqqq", "m"]
theorem stock_nodup : stockL.Nodup := by decide +kernel
theorem stock_word : ∀ w ∈ stockL, isWordS w = true := by decide +kernel
theorem stock_len : ∀ w ∈ stockL, w.length ≤ 8 := by decide +kernel
theorem words_wp (k n N m : Nat) (hN : N + 20 < 1000000000) (hm : m ≤ 14) (h : Hs) (hs : Pool N n h) (Q : D → Hs → Prop) (q : ∀ (l : List Str) h', l.length = m → (∀ w ∈ l, w ∈ stockL) → (l.Pairwise fun x y => ltS x y = true) → Pool (N + m) n h' → Q (tL l) h') : R.wp (C (k + 2) i__law_words [.obj n, .int m]) Q h := by
  rw [c__law_words]
  simp [n__law_words, rng0_eq (show few m by unfold few; omega)]
  refine S.wp_forN (fun i σ h => Pool (N + i) n h ∧ ∃ ws st s4 s5, σ = [.val (.obj n), .val (.int m), .val (.lst (st.map .str)), .own (.lst (ws.map .str)), s4, s5] ∧ ws.length = i ∧ (ws ++ st).Perm stockL) ⟨hs, [], stockL, .no, .no, rfl, rfl, List.Perm.refl _⟩ ?_ ?_
  · rintro i x σ h hx ⟨hs, ws, st, s4, s5, rfl, hl, hp⟩
    have hi : i < m := by
      have := (List.getElem?_eq_some_iff.mp hx).1
      simpa using this
    have hlen : ws.length + st.length = 15 := by
      have := hp.length_eq
      rw [List.length_append] at this
      exact this
    have hst : few st.length := by unfold few; omega
    simp [hst]
    refine pull_wp k n (N + i) (by omega) st.length (by omega) (by omega) h hs _ fun r h hr hs => ?_
    have hx2 : ixR (.lst (st.map .str)) (.int (r : Int)) = R.pure (.str st[r]) := by
      show atD (st.map D.str) (r : Int) = _
      exact atD_nat (by rw [List.getElem?_map, List.getElem?_eq_getElem hr]; rfl)
    have hsp : st.take r ++ st[r] :: st.drop (r + 1) = st := by
      rw [List.getElem_cons_drop]
      exact List.take_append_drop r st
    have hcast : ((r : Int) + 1) = ((r + 1 : Nat) : Int) := by omega
    rw [hx2]
    simp
    rw [chk_app_own (xs := ws.map .str) rfl (by rw [List.length_map]; unfold few; omega)]
    simp
    rw [cut_to (st.map D.str) r, hcast, cut_from, opR_add_lst (by unfold few; simp; omega)]
    simp
    refine ⟨hs.mono (by omega), ws ++ [st[r]], st.take r ++ st.drop (r + 1), ⟨by simp, by simp⟩, by simp [hl], ?_⟩
    refine List.Perm.trans ?_ hp
    have e : ws ++ st = ws ++ (st.take r ++ st[r] :: st.drop (r + 1)) := by rw [hsp]
    rw [e, List.append_assoc]
    exact List.Perm.append_left ws (show (st[r] :: (st.take r ++ st.drop (r + 1))).Perm (st.take r ++ st[r] :: st.drop (r + 1)) from List.perm_middle.symm)
  · rintro σ h ⟨hs, ws, st, s4, s5, rfl, hl, hp⟩
    rw [List.length_map, List.length_range] at hl hs
    have hn : (ws ++ st).Nodup := hp.symm.nodup stock_nodup
    have hn : ws.Nodup := (List.nodup_append.mp hn).1
    obtain ⟨e1, l, e2, h2, h3⟩ := sort_strs hn
    simp [e1, e2]
    exact q l h (h3.length_eq.trans hl) (fun w hw => hp.mem_iff.mp (List.mem_append_left _ (h3.mem_iff.mp hw))) h2 hs

theorem ltS_ne {a c : Str} (h : ltS a c = true) : a ≠ c := by
  rintro rfl
  rw [ltS_enc, decide_eq_true_eq] at h
  exact List.lt_irrefl _ h
theorem ltP_fst {a b c d : Str} (h : ltS a c = true) : ltP (a, b) (c, d) = true := by
  have hne := ltS_ne h
  unfold ltP ltB pD
  simp only [ltD, ltAll, eqD]
  by_cases e : b = d
  · simp [e, hne, h]
  · simp [e, hne, h]
theorem ltP_snd {a b d : Str} (h : ltS b d = true) : ltP (a, b) (a, d) = true := by
  have hne := ltS_ne h
  unfold ltP ltB pD
  simp only [ltD, ltAll, eqD]
  simp [hne, h]
/-- all pairs, ascending -/
def prodP (A B : List Str) : List (Str × Str) := A.flatMap fun a => B.map fun b => (a, b)
theorem prodP_cons (a : Str) (A B : List Str) : prodP (a :: A) B = (B.map fun b => (a, b)) ++ prodP A B := by
  unfold prodP
  rw [List.flatMap_cons]
theorem prodP_snoc (A B : List Str) (a : Str) : prodP (A ++ [a]) B = prodP A B ++ B.map fun b => (a, b) := by
  unfold prodP
  rw [List.flatMap_append]
  simp
theorem prodP_mem {A B : List Str} {p : Str × Str} : p ∈ prodP A B ↔ p.1 ∈ A ∧ p.2 ∈ B := by
  unfold prodP
  rw [List.mem_flatMap]
  constructor
  · rintro ⟨a, ha, hp⟩
    obtain ⟨b, hb, rfl⟩ := List.mem_map.mp hp
    exact ⟨ha, hb⟩
  · rintro ⟨ha, hb⟩
    exact ⟨p.1, ha, List.mem_map.mpr ⟨p.2, hb, rfl⟩⟩
theorem prodP_asc {B : List Str} (hB : B.Pairwise fun x y => ltS x y = true) : ∀ {A : List Str}, (A.Pairwise fun x y => ltS x y = true) → (prodP A B).Pairwise fun x y => ltP x y = true
  | [], _ => List.Pairwise.nil
  | a :: A, h => by
    obtain ⟨h1, h2⟩ := List.pairwise_cons.mp h
    rw [prodP_cons, List.pairwise_append]
    refine ⟨List.Pairwise.map _ (fun x y q => ltP_snd q) hB, prodP_asc hB h2, fun x hx y hy => ?_⟩
    obtain ⟨b, hb, rfl⟩ := List.mem_map.mp hx
    obtain ⟨y1, y2⟩ := y
    exact ltP_fst (h1 _ (prodP_mem.mp hy).1)
theorem prodP_len (A B : List Str) : (prodP A B).length = A.length * B.length := by
  induction A with
  | nil => simp [prodP]
  | cons a A ih => rw [prodP_cons, List.length_append, ih, List.length_map, List.length_cons, Nat.succ_mul, Nat.add_comm]
theorem net_wp (k n N m : Nat) (hN : N + 1000 < 1000000000) (hm : m ≤ 14) (h : Hs) (hs : Pool N n h) (Q : D → Hs → Prop)
    (q : ∀ (nt : Net) h', GNet nt → nt.1.length = m → (∀ w ∈ nt.1, w ∈ stockL) → nt.2.length ≤ m * m → Pool (N + 300) n h' → Q (nD nt) h') : R.wp (C (k + 3) i__law_net [.obj n, .int m]) Q h := by
  rw [c__law_net]
  simp [n__law_net]
  refine words_wp k n N m (by omega) hm h hs _ fun pts h hpl hpw hpa hs => ?_
  simp
  refine pull_wp (k + 1) n (N + m) (by omega) 4 (by decide) (by decide) h hs _ fun r1 h hr1 hs => ?_
  simp
  refine pull_wp (k + 1) n (N + m + 1) (by omega) 5 (by decide) (by decide) h hs _ fun r2 h hr2 hs => ?_
  simp
  refine S.wp_forN (fun i σ h => Pool (N + m + 2 + i * m) n h ∧ ∃ ps s6 s7, σ = [.val (.obj n), .val (.int m), .val (tL pts), .val (.int (2 + r1)), .val (.int (2 + r2)), .own (.lst (ps.map pD)), s6, s7] ∧ ps.Sublist (prodP (pts.take i) pts)) ⟨by simpa using hs, [], .no, .no, rfl, by simp⟩ ?_ ?_
  · rintro i x σ h hx ⟨hs, ps, s6, s7, rfl, hp⟩
    obtain ⟨a, ha, rfl⟩ : ∃ a, pts[i]? = some a ∧ x = .str a := by
      rw [List.getElem?_map] at hx
      obtain ⟨a, h1, h2⟩ := Option.map_eq_some_iff.mp hx
      exact ⟨a, h1, h2.symm⟩
    have hil : i < pts.length := (List.getElem?_eq_some_iff.mp ha).1
    have him : i * m + m ≤ 14 * 14 := by
      have : (i + 1) * m ≤ 14 * 14 := Nat.mul_le_mul (by omega) hm
      rw [Nat.succ_mul] at this
      exact this
    have hwa : a.length ≤ 8 := stock_len a (hpw a (List.mem_of_getElem? ha))
    simp
    refine S.wp_forN (fun j σ h => Pool (N + m + 2 + i * m + j) n h ∧ ∃ ps s7, σ = [.val (.obj n), .val (.int m), .val (tL pts), .val (.int (2 + r1)), .val (.int (2 + r2)), .own (.lst (ps.map pD)), .val (.str a), s7] ∧ ps.Sublist (prodP (pts.take i) pts ++ (pts.take j).map fun b => (a, b))) ⟨by simpa using hs, ps, s7, rfl, by simpa using hp⟩ ?_ ?_
    · rintro j y σ h hy ⟨hs, ps, s7, rfl, hp⟩
      obtain ⟨b, hb, rfl⟩ : ∃ b, pts[j]? = some b ∧ y = .str b := by
        rw [List.getElem?_map] at hy
        obtain ⟨b, h1, h2⟩ := Option.map_eq_some_iff.mp hy
        exact ⟨b, h1, h2.symm⟩
      have hjl : j < pts.length := (List.getElem?_eq_some_iff.mp hb).1
      have hfew : ps.length ≤ 1000 := by
        have := hp.length_le
        rw [List.length_append, prodP_len, List.length_map, List.length_take, List.length_take] at this
        have h2 : min i pts.length * pts.length ≤ 14 * 14 := Nat.mul_le_mul (by omega) (by omega)
        omega
      have ht : pts.take (j + 1) = pts.take j ++ [b] := by
        rw [List.take_add_one, hb]
        rfl
      have sub1 : ps.Sublist (prodP (pts.take i) pts ++ (pts.take (j + 1)).map fun b => (a, b)) := by
        rw [ht, List.map_append, ← List.append_assoc]
        exact hp.trans (List.sublist_append_left _ _)
      have sub2 : (ps ++ [(a, b)]).Sublist (prodP (pts.take i) pts ++ (pts.take (j + 1)).map fun b => (a, b)) := by
        rw [ht, List.map_append, ← List.append_assoc]
        exact List.Sublist.append hp (List.Sublist.refl _)
      have c1 : ((2 : Int) + r1) = ((2 + r1 : Nat) : Int) := by omega
      have c2 : ((2 : Int) + r2) = ((2 + r2 : Nat) : Int) := by omega
      simp
      split
      · rw [c2]
        refine pull_wp (k + 1) n (N + m + 2 + i * m + j) (by omega) (2 + r2) (by omega) (by omega) h hs _ fun r h hr hs => ?_
        simp
        by_cases hr0 : r = 0
        · rw [if_pos hr0, chk_app_own (xs := ps.map pD) rfl (by rw [List.length_map]; unfold few; omega)]
          simp
          exact ⟨hs.mono (by omega), ps ++ [(a, b)], by simp [pD], by rw [← List.map_take]; exact sub2⟩
        · rw [if_neg hr0]
          exact ⟨hs.mono (by omega), ps, rfl, by rw [← List.map_take]; exact sub1⟩
      · rw [c1]
        refine pull_wp (k + 1) n (N + m + 2 + i * m + j) (by omega) (2 + r1) (by omega) (by omega) h hs _ fun r h hr hs => ?_
        simp
        by_cases hr0 : r = 0
        · rw [if_pos hr0, chk_app_own (xs := ps.map pD) rfl (by rw [List.length_map]; unfold few; omega)]
          simp
          exact ⟨hs.mono (by omega), ps ++ [(a, b)], by simp [pD], by rw [← List.map_take]; exact sub2⟩
        · rw [if_neg hr0]
          exact ⟨hs.mono (by omega), ps, rfl, by rw [← List.map_take]; exact sub1⟩
    · rintro σ h ⟨hs, ps, s7, rfl, hp⟩
      have ht : pts.take (i + 1) = pts.take i ++ [a] := by
        rw [List.take_add_one, ha]
        rfl
      have hall : pts.take (pts.map D.str).length = pts := by rw [List.length_map, List.take_length]
      rw [hall] at hp
      rw [List.length_map, hpl] at hs
      simp only [loopQ_nx, seqQ_nx, S.wp_done]
      have fin : ps.Sublist (prodP (pts.take (i + 1)) pts) := by
        rw [ht, prodP_snoc]
        exact hp
      first
        | exact ⟨hs.mono (by rw [Nat.succ_mul]; omega), ps, rfl, fin⟩
        | exact ⟨hs.mono (by rw [Nat.succ_mul]; omega), ps, ⟨_, _, rfl⟩, fin⟩
        | exact ⟨hs.mono (by rw [Nat.succ_mul]; omega), ps, ⟨_, rfl⟩, fin⟩
  · rintro σ h ⟨hs, ps, s6, s7, rfl, hp⟩
    have hall : pts.take (pts.map D.str).length = pts := by rw [List.length_map, List.take_length]
    rw [hall] at hp
    rw [List.length_map, hpl] at hs
    have hmm : m * m ≤ 14 * 14 := Nat.mul_le_mul hm hm
    have hlen : ps.length ≤ m * m := by
      have := hp.length_le
      rw [prodP_len, hpl] at this
      exact this
    simp
    refine q (pts, ps) h ⟨fun w hw => stock_word w (hpw w hw), hpa, fun p hp' => prodP_mem.mp (hp.subset hp'), (prodP_asc hpa hpa).sublist hp, ?_, ?_⟩ hpl hpw hlen (hs.mono (by omega))
    · show pts.length ≤ 1000; omega
    · show ps.length ≤ 1000; omega

/-- the kernel, pair by pair (a, b unlike): is (a, b) kept, by: (a, b), (b, a), (a, a), (b, b) in the net. 0: free, naive; 1: stable, stage; 2: grounded; 3: complete; 4: the others -/
def krn (s : Fin 5) (ab ba la lb : Bool) : Bool := match s with
  | 0 => !la && (!lb && (ab || ba))
  | 1 => ab && !la
  | 2 => ab && !(lb && (la || ba))
  | 3 => ab && !(la && lb)
  | 4 => ab && !(la && (lb || ba))
theorem krn_idem : ∀ (s : Fin 5) (ab ba la lb : Bool), krn s (krn s ab ba la lb) (krn s ba ab lb la) la lb = krn s ab ba la lb := by decide
theorem krn_join : ∀ (s : Fin 5) (ab ba ab' ba' la lb : Bool), krn s ab ba la lb = krn s ab' ba' la lb → krn s ba ab lb la = krn s ba' ab' lb la →
    ∀ ab3 ba3 la3 lb3 : Bool, krn s (ab || ab3) (ba || ba3) (la || la3) (lb || lb3) = krn s (ab' || ab3) (ba' || ba3) (la || la3) (lb || lb3) := by decide +kernel
/-- which kernel a standard has -/
def kindOf (x : Str) : Fin 5 := if x = "free" ∨ x = "naive" then 0 else if x = "stable" ∨ x = "stage" then 1 else if x = "grounded" then 2 else if x = "complete" then 3 else 4
/-- is (a, b) in the kernel -/
def inK (R : Str → Str → Bool) (s : Fin 5) (a b : Str) : Bool := if a = b then R a b else krn s (R a b) (R b a) (R a a) (R b b)
theorem inK_loop {R : Str → Str → Bool} {s : Fin 5} {a : Str} : inK R s a a = R a a := if_pos rfl
theorem inK_idem (R : Str → Str → Bool) (s : Fin 5) (a b : Str) : inK (inK R s) s a b = inK R s a b := by
  by_cases h : a = b
  · subst h
    rw [inK_loop]
  · have h' : ¬ b = a := fun e => h e.symm
    unfold inK
    simp only [if_neg h, if_neg h', if_true]
    exact krn_idem s _ _ _ _
theorem inK_join {R R' T : Str → Str → Bool} {s : Fin 5} (e : ∀ a b, inK R s a b = inK R' s a b) (a b : Str) : inK (fun x y => R x y || T x y) s a b = inK (fun x y => R' x y || T x y) s a b := by
  have lp : ∀ x, R x x = R' x x := fun x => by
    have := e x x
    rwa [inK_loop, inK_loop] at this
  by_cases h : a = b
  · subst h
    rw [inK_loop, inK_loop, lp]
  · have h' : ¬ b = a := fun e => h e.symm
    have e1 := e a b
    have e2 := e b a
    unfold inK at e1 e2
    rw [if_neg h, if_neg h, lp a, lp b] at e1
    rw [if_neg h', if_neg h', lp a, lp b] at e2
    unfold inK
    rw [if_neg h, if_neg h]
    show krn s (R a b || T a b) (R b a || T b a) (R a a || T a a) (R b b || T b b) = krn s (R' a b || T a b) (R' b a || T b a) (R' a a || T a a) (R' b b || T b b)
    rw [lp a, lp b]
    exact krn_join s _ _ _ _ _ _ e1 e2 _ _ _ _
/-! ### lots: which points a lot hits, which it holds -/
def hitP (R : Str → Str → Bool) (L : List Str) (b : Str) : Prop := ∃ a ∈ L, R a b = true
def freeP (R : Str → Str → Bool) (L : List Str) : Prop := ∀ b ∈ L, ¬ hitP R L b
def heldP (R : Str → Str → Bool) (L : List Str) (p : Str) : Prop := ∀ a, R a p = true → hitP R L a
section
variable {R : Str → Str → Bool} {L : List Str}
theorem freeP.no (f : freeP R L) {a b : Str} (ha : a ∈ L) (hb : b ∈ L) : R a b = false := by
  cases e : R a b with
  | false => rfl
  | true => exact absurd ⟨a, ha, e⟩ (f b hb)
theorem free_krn (s : Fin 5) : freeP (inK R s) L ↔ freeP R L := by
  constructor
  · intro f b hb ⟨a, ha, e⟩
    have l1 := f.no ha ha
    have l2 := f.no hb hb
    rw [inK_loop] at l1 l2
    have := f.no ha hb
    unfold inK at this
    split at this
    · rw [e] at this; cases this
    · rw [e, l1, l2] at this
      cases e2 : R b a with
      | false => rw [e2] at this; exact absurd this ((by decide : ∀ s : Fin 5, ¬ krn s true false false false = false) s)
      | true => rw [e2] at this; exact absurd this ((by decide : ∀ s : Fin 5, ¬ krn s true true false false = false) s)
  · intro f b hb ⟨a, ha, e⟩
    unfold inK at e
    split at e
    · rw [f.no ha hb] at e; cases e
    · rw [f.no ha hb, f.no hb ha, f.no ha ha, f.no hb hb] at e
      exact absurd e ((by decide : ∀ s : Fin 5, ¬ krn s false false false false = true) s)
/-- where a is no loop, these kernels keep what goes out of it -/
theorem krn_out : ∀ (s : Fin 5), (s = 1 ∨ s = 3 ∨ s = 4) → ∀ ab ba lb : Bool, krn s ab ba false lb = ab := by decide
theorem hit_krn {s : Fin 5} (hs : s = 1 ∨ s = 3 ∨ s = 4) (f : freeP R L) (b : Str) : hitP (inK R s) L b ↔ hitP R L b := by
  have key : ∀ a ∈ L, inK R s a b = R a b := fun a ha => by
    unfold inK
    split
    · rfl
    · rw [f.no ha ha]
      exact krn_out s hs _ _ _
  constructor
  · rintro ⟨a, ha, e⟩
    exact ⟨a, ha, by rw [← key a ha]; exact e⟩
  · rintro ⟨a, ha, e⟩
    exact ⟨a, ha, by rw [key a ha]; exact e⟩
theorem krn_sub : ∀ (s : Fin 5), s ≠ 0 → ∀ ab ba la lb : Bool, krn s ab ba la lb = true → ab = true := by decide
theorem inK_sub {s : Fin 5} (h0 : s ≠ 0) {a b : Str} (e : inK R s a b = true) : R a b = true := by
  unfold inK at e
  split at e
  · exact e
  · exact krn_sub s h0 _ _ _ _ e
theorem krn4 : ∀ ab ba la : Bool, ab = true → krn 4 ab ba la false = false → ba = true := by decide
/-- admissible, preferred, semistable, ideal: a free lot holds its members in both -/
theorem held_krn4 (f : freeP R L) {p : Str} (hp : p ∈ L) : heldP (inK R 4) L p ↔ heldP R L p := by
  constructor
  · intro hd a e
    cases ek : inK R 4 a p with
    | true => exact (hit_krn (.inr (.inr rfl)) f a).mp (hd a ek)
    | false =>
      unfold inK at ek
      split at ek
      · rw [e] at ek; cases ek
      · rw [f.no hp hp] at ek
        exact ⟨p, hp, krn4 _ _ _ e ek⟩
  · intro hd a ek
    exact (hit_krn (.inr (.inr rfl)) f a).mpr (hd a (inK_sub (by decide) ek))
/-- what a free lot holds is no loop -/
theorem held_noloop (f : freeP R L) {p : Str} (hd : heldP R L p) : R p p = false := by
  cases e : R p p with
  | false => rfl
  | true =>
    obtain ⟨x, hx, ex⟩ := hd p e
    exact absurd (hd x ex) (f x hx)
theorem krn3 : ∀ ab ba la : Bool, krn 3 ab ba la false = ab := by decide
theorem inK3 {a p : Str} (h : R p p = false) : inK R 3 a p = R a p := by
  unfold inK
  split
  · rfl
  · rw [h]
    exact krn3 _ _ _
/-- complete: a free lot holds the same points in both -/
theorem held_krn3 (f : freeP R L) (p : Str) : heldP (inK R 3) L p ↔ heldP R L p := by
  constructor
  · intro hd a e
    have lp := held_noloop ((free_krn 3).mpr f) hd
    rw [inK_loop] at lp
    exact (hit_krn (.inr (.inl rfl)) f a).mp (hd a (by rw [inK3 lp]; exact e))
  · intro hd a ek
    exact (hit_krn (.inr (.inl rfl)) f a).mpr (hd a (inK_sub (by decide) ek))
end

/-- in the i-th round -/
def lvl (P : List Str) (R : Str → Str → Bool) : Nat → Str → Prop
  | 0, _ => False
  | i + 1, p => p ∈ P ∧ ∀ a, R a p = true → ∃ x, lvl P R i x ∧ R x a = true
section
variable {P : List Str} {R : Str → Str → Bool}
theorem lvl_up : ∀ {i : Nat} {p : Str}, lvl P R i p → lvl P R (i + 1) p
  | 0, _, h => h.elim
  | i + 1, p, h => ⟨h.1, fun a e => by
    obtain ⟨x, hx, ex⟩ := h.2 a e
    exact ⟨x, lvl_up hx, ex⟩⟩
theorem lvl_le {i j : Nat} (h : i ≤ j) {p : Str} (q : lvl P R i p) : lvl P R j p := by
  induction h with
  | refl => exact q
  | step _ ih => exact lvl_up ih
theorem lvl_free : ∀ {i j : Nat} {x y : Str}, lvl P R i x → lvl P R j y → R x y = false
  | 0, _, _, _, h, _ => h.elim
  | _ + 1, 0, _, _, _, h => h.elim
  | i + 1, j + 1, x, y, hx, hy => by
    cases e : R x y with
    | false => rfl
    | true =>
      obtain ⟨z, hz, ez⟩ := hy.2 x e
      obtain ⟨w, hw, ew⟩ := hx.2 z ez
      rw [lvl_free hw hz] at ew
      cases ew
theorem krn2 : ∀ ab ba la : Bool, krn 2 ab ba la false = ab := by decide
theorem krn2b : ∀ ab ba lb : Bool, ab = true → krn 2 ab ba false lb = false → ba = true := by decide
theorem lvl_hit : ∀ {j : Nat} {x a : Str}, lvl P R j x → R x a = true → ∃ x', lvl P R j x' ∧ inK R 2 x' a = true
  | 0, _, _, h, _ => h.elim
  | j + 1, x, a, h, e => by
    cases ek : inK R 2 x a with
    | true => exact ⟨x, h, ek⟩
    | false =>
      have hax : R a x = true := by
        unfold inK at ek
        split at ek
        · rw [e] at ek; cases ek
        · rw [lvl_free h h] at ek
          exact krn2b _ _ _ e ek
      obtain ⟨y, hy, ey⟩ := h.2 a hax
      obtain ⟨x', h1, h2⟩ := lvl_hit hy ey
      exact ⟨x', lvl_up h1, h2⟩
theorem lvl_noloop {i : Nat} {p : Str} (h : lvl P R i p) : R p p = false := lvl_free h h
theorem inK2 {a p : Str} (h : R p p = false) : inK R 2 a p = R a p := by
  unfold inK
  split
  · rfl
  · rw [h]
    exact krn2 _ _ _
/-- the rounds of a net and of its kernel for grounded are the same -/
theorem lvl_krn : ∀ (i : Nat) (p : Str), lvl P (inK R 2) i p ↔ lvl P R i p
  | 0, _ => Iff.rfl
  | i + 1, p => by
    constructor
    · intro h
      have lp := lvl_noloop h
      rw [inK_loop] at lp
      refine ⟨h.1, fun a e => ?_⟩
      obtain ⟨x, hx, ex⟩ := h.2 a (by rw [inK2 lp]; exact e)
      exact ⟨x, (lvl_krn i x).mp hx, inK_sub (by decide) ex⟩
    · intro h
      refine ⟨h.1, fun a e => ?_⟩
      obtain ⟨x, hx, ex⟩ := h.2 a (inK_sub (by decide) e)
      obtain ⟨x', h1, h2⟩ := lvl_hit hx ex
      exact ⟨x', (lvl_krn i x').mpr h1, h2⟩
/-- the grounded points -/
def Grd (P : List Str) (R : Str → Str → Bool) (p : Str) : Prop := ∃ i, lvl P R i p
theorem Grd_krn (p : Str) : Grd P (inK R 2) p ↔ Grd P R p := ⟨fun ⟨i, h⟩ => ⟨i, (lvl_krn i p).mp h⟩, fun ⟨i, h⟩ => ⟨i, (lvl_krn i p).mpr h⟩⟩
/-- complete -/
structure ComP (P : List Str) (R : Str → Str → Bool) (L : List Str) : Prop where
  free : freeP R L
  held : ∀ p, p ∈ L ↔ p ∈ P ∧ heldP R L p
theorem Grd_in {L : List Str} (c : ComP P R L) : ∀ {i : Nat} {p : Str}, lvl P R i p → p ∈ L
  | 0, _, h => h.elim
  | i + 1, p, h => (c.held p).mpr ⟨h.1, fun a e => by
    obtain ⟨x, hx, ex⟩ := h.2 a e
    exact ⟨x, Grd_in c hx, ex⟩⟩
theorem lvl_max {S : List Str} {Q : Str → Str → Prop} : ∀ {A : List Str}, (∀ a ∈ A, ∃ i x, lvl P R i x ∧ Q x a) → ∃ i, ∀ a ∈ A, ∃ x, lvl P R i x ∧ Q x a
  | [], _ => ⟨0, fun a h => by cases h⟩
  | a :: A, h => by
    obtain ⟨i, hi⟩ := lvl_max (S := S) (Q := Q) (A := A) fun b hb => h b (List.mem_cons_of_mem _ hb)
    obtain ⟨j, x, hx, q⟩ := h a List.mem_cons_self
    refine ⟨max i j, fun b hb => ?_⟩
    rcases List.mem_cons.mp hb with rfl | hb
    · exact ⟨x, lvl_le (Nat.le_max_right _ _) hx, q⟩
    · obtain ⟨y, hy, qy⟩ := hi b hb
      exact ⟨y, lvl_le (Nat.le_max_left _ _) hy, qy⟩
/-- a lot of just the grounded points is complete -/
theorem Grd_com (he : ∀ a b, R a b = true → a ∈ P ∧ b ∈ P) {L : List Str} (hL : ∀ p, p ∈ L ↔ Grd P R p) : ComP P R L := by
  refine ⟨fun b hb ⟨a, ha, e⟩ => ?_, fun p => ⟨fun hp => ?_, fun ⟨hp, hd⟩ => ?_⟩⟩
  · obtain ⟨i, hi⟩ := (hL a).mp ha
    obtain ⟨j, hj⟩ := (hL b).mp hb
    rw [lvl_free hi hj] at e
    cases e
  · obtain ⟨i, hi⟩ := (hL p).mp hp
    cases i with
    | zero => exact hi.elim
    | succ i =>
      refine ⟨hi.1, fun a e => ?_⟩
      obtain ⟨x, hx, ex⟩ := hi.2 a e
      exact ⟨x, (hL x).mpr ⟨i, hx⟩, ex⟩
  · refine (hL p).mpr ?_
    obtain ⟨i, hi⟩ := lvl_max (P := P) (R := R) (S := L) (Q := fun x a => R x a = true) (A := P.filter fun a => R a p) fun a ha => by
      obtain ⟨x, hx, ex⟩ := hd a (List.mem_filter.mp ha).2
      obtain ⟨i, h⟩ := (hL x).mp hx
      exact ⟨i, x, h, ex⟩
    exact ⟨i + 1, hp, fun a e => hi a (List.mem_filter.mpr ⟨(he a p e).1, e⟩)⟩
/-- the least complete lot, among lots where a lot of just the grounded points is one -/
theorem least_iff (he : ∀ a b, R a b = true → a ∈ P ∧ b ∈ P) {lots : List (List Str)} (hG : ∃ G ∈ lots, ∀ p, p ∈ G ↔ Grd P R p) {L : List Str} :
    (ComP P R L ∧ ∀ M ∈ lots, ComP P R M → ∀ p ∈ L, p ∈ M) ↔ ∀ p, p ∈ L ↔ Grd P R p := by
  constructor
  · rintro ⟨c, h⟩ p
    obtain ⟨G, hg, hG⟩ := hG
    exact ⟨fun hp => (hG p).mp (h G hg (Grd_com he hG) p hp), fun ⟨i, hi⟩ => Grd_in c hi⟩
  · intro h
    exact ⟨Grd_com he h, fun M _ c p hp => by
      obtain ⟨i, hi⟩ := (h p).mp hp
      exact Grd_in c hi⟩
end

def loopsL (n : Net) : List Str := n.1.filter fun p => decide ((p, p) ∈ n.2)
theorem loopsL_len (n : Net) : (loopsL n).length ≤ n.1.length := List.length_filter_le _ _
theorem loops_in_eq (k : Nat) {n : Net} (g : GNet n) : C (k + 1) i_loops_in [nD n] = R.pure (tL (loopsL n)) := by
  have hl := loopsL_len n
  have hf : few (loopsL n).length := by have := g.fewP; unfold few; omega
  rw [c_loops_in]
  simp [n_loops_in]
  have e : mkLst ((loopsL n).map .str) = R.pure (.lst ((loopsL n).map .str)) := mkLst_few (by rw [List.length_map]; exact hf)
  unfold loopsL at e ⊢
  rw [e]
  simp
def Rn (n : Net) (a b : Str) : Bool := decide ((a, b) ∈ n.2)
theorem mem_loops {n : Net} (g : GNet n) {p : Str} : p ∈ loopsL n ↔ Rn n p p = true := by
  unfold loopsL Rn
  rw [List.mem_filter]
  exact ⟨fun h => h.2, fun h => ⟨(g.ends _ (of_decide_eq_true h)).1, h⟩⟩
theorem in_two (x a b : Str) : inSeq (.str x) [.str a, .str b] = R.pure (decide (x = a ∨ x = b)) := by
  have := inSeq_str x [a, b]
  simpa using this
theorem kind_cases (x : Str) (h1 : x ≠ "free") (h2 : x ≠ "naive") : (x = "stable" ∨ x = "stage") ∧ kindOf x = 1 ∨ x = "complete" ∧ kindOf x = 3 ∨ x = "grounded" ∧ kindOf x = 2 ∨ (x ≠ "stable" ∧ x ≠ "stage" ∧ x ≠ "complete" ∧ x ≠ "grounded") ∧ kindOf x = 4 := by
  unfold kindOf
  rw [if_neg (fun z => z.elim h1 h2)]
  by_cases a : x = "stable" ∨ x = "stage"
  · exact .inl ⟨a, if_pos a⟩
  · rw [if_neg a]
    by_cases b : x = "grounded"
    · exact .inr (.inr (.inl ⟨b, if_pos b⟩))
    · rw [if_neg b]
      by_cases c : x = "complete"
      · exact .inr (.inl ⟨c, if_pos c⟩)
      · exact .inr (.inr (.inr ⟨⟨fun z => a (.inl z), fun z => a (.inr z), c, b⟩, if_neg c⟩))
theorem stays_eq (k : Nat) {n : Net} (g : GNet n) (x a b : Str) (h : (a, b) ∈ n.2) (h1 : x ≠ "free") (h2 : x ≠ "naive") : C (k + 1) i_stays [nD n, .str x, tL (loopsL n), .tup [.str a, .str b]] = R.pure (.bl (inK (Rn n) (kindOf x) a b)) := by
  rw [c_stays]
  simp [n_stays, in_two]
  by_cases e : a = b
  · subst e
    rw [decide_eq_true rfl, Bool.true_or, inK_loop]
    unfold Rn
    rw [decide_eq_true h]
  · rw [decide_eq_false e, Bool.false_or]
    have ha : decide (a ∈ loopsL n) = Rn n a a := by
      cases q : Rn n a a with
      | true => exact decide_eq_true ((mem_loops g).mpr q)
      | false => exact decide_eq_false fun z => by rw [(mem_loops g).mp z] at q; cases q
    have hb : decide (b ∈ loopsL n) = Rn n b b := by
      cases q : Rn n b b with
      | true => exact decide_eq_true ((mem_loops g).mpr q)
      | false => exact decide_eq_false fun z => by rw [(mem_loops g).mp z] at q; cases q
    have hba : decide ((b, a) ∈ n.2) = Rn n b a := rfl
    have hab : Rn n a b = true := decide_eq_true h
    rw [ha, hb, hba]
    unfold inK
    rw [if_neg e, hab]
    have n1 : ¬ (Str.ofString "complete") = Str.ofString "stable" := by decide +kernel
    have n2 : ¬ (Str.ofString "complete") = Str.ofString "stage" := by decide +kernel
    have n3 : ¬ (Str.ofString "grounded") = Str.ofString "stable" := by decide +kernel
    have n4 : ¬ (Str.ofString "grounded") = Str.ofString "stage" := by decide +kernel
    have n5 : ¬ (Str.ofString "grounded") = Str.ofString "complete" := by decide +kernel
    rcases kind_cases x h1 h2 with ⟨q, e⟩ | ⟨q, e⟩ | ⟨q, e⟩ | ⟨⟨q1, q2, q3, q4⟩, e⟩
    · rw [e, if_pos q]
      cases Rn n a a <;> cases Rn n b b <;> cases Rn n b a <;> rfl
    · rw [e, q, if_neg (fun z => z.elim n1 n2), if_pos rfl]
      congr 2
      cases Rn n a a <;> cases Rn n b b <;> cases Rn n b a <;> rfl
    · rw [e, q, if_neg (fun z => z.elim n3 n4), if_neg n5, if_pos rfl]
      congr 2
      cases Rn n a a <;> cases Rn n b b <;> cases Rn n b a <;> rfl
    · rw [e, if_neg (fun z => z.elim q1 q2), if_neg q3, if_neg q4]
      congr 2
      cases Rn n a a <;> cases Rn n b b <;> cases Rn n b a <;> rfl

theorem R_eq_of_wp {α : Type} {m : R α} {v : α} (h : ∀ h, R.wp m (fun d h' => d = v ∧ h' = h) h) : m = R.pure v := by
  funext hs
  obtain ⟨a, h', e, q1, q2⟩ := R.wp_out (h hs)
  rw [e, q1, q2]
  rfl
theorem pairs_ext {l m : List (Str × Str)} (hl : l.Pairwise fun x y => ltP x y = true) (hm : m.Pairwise fun x y => ltP x y = true) (h : ∀ x, x ∈ l ↔ x ∈ m) : l = m := by
  have e1 := sset_pairs hl (l := m) (fun x => h x)
  have e2 := sset_pairs hm (l := m) (fun x => Iff.rfl)
  have e : (l.map fun p => D.tup [.str p.1, .str p.2]) = m.map fun p => D.tup [.str p.1, .str p.2] := e1.symm.trans e2
  refine List.map_inj_right (f := fun p : Str × Str => D.tup [.str p.1, .str p.2]) (fun a b q => ?_) |>.mp e
  injection q with q
  injection q with q1 q2
  injection q1 with q1
  injection q2 with q2 _
  injection q2 with q2
  exact Prod.ext q1 q2
/-- the kernel of a net -/
def kerN (n : Net) (x : Str) : Net := (n.1, (prodP n.1 n.1).filter fun p => inK (Rn n) (kindOf x) p.1 p.2)
theorem kerN_mem {n : Net} {x : Str} {p : Str × Str} : p ∈ (kerN n x).2 ↔ (p.1 ∈ n.1 ∧ p.2 ∈ n.1) ∧ inK (Rn n) (kindOf x) p.1 p.2 = true := by
  unfold kerN
  rw [List.mem_filter, prodP_mem]
theorem kerN_asc {n : Net} (g : GNet n) (x : Str) : (kerN n x).2.Pairwise fun x y => ltP x y = true := (prodP_asc g.asc g.asc).sublist List.filter_sublist
/-- what the attack q leaves in the kernel for free lots -/
def okF (n : Net) (p q : Str × Str) : Prop := (q.1 = q.2 ∧ p = q) ∨ (q.1 ≠ q.2 ∧ (q.1 ∉ loopsL n ∧ q.2 ∉ loopsL n) ∧ (p = q ∨ p = (q.2, q.1)))
theorem free_kernel_eq (k : Nat) {n : Net} (g : GNet n) {x : Str} (hx : kindOf x = 0) : C (k + 1) i_free_kernel [nD n, tL (loopsL n)] = R.pure (nD (kerN n x)) := by
  refine R_eq_of_wp fun h => ?_
  rw [c_free_kernel]
  simp [n_free_kernel]
  refine S.wp_forN (fun i σ h' => h' = h ∧ ∃ ps s3 s4, σ = [.val (nD n), .val (tL (loopsL n)), .own (.dct true (kvP ps)), s3, s4] ∧ ps.Nodup ∧ ps.length ≤ 2 * i ∧ ∀ p, p ∈ ps ↔ ∃ q ∈ n.2.take i, okF n p q) ⟨rfl, [], .no, .no, rfl, List.nodup_nil, by simp, by simp⟩ ?_ ?_
  · rintro i y σ h' hy ⟨rfl, ps, s3, s4, rfl, hn, hl, hm⟩
    obtain ⟨⟨a, b⟩, hq, rfl⟩ : ∃ q, n.2[i]? = some q ∧ y = .tup [.str q.1, .str q.2] := by
      rw [List.getElem?_map] at hy
      obtain ⟨q, h1, h2⟩ := Option.map_eq_some_iff.mp hy
      exact ⟨q, h1, h2.symm⟩
    have hi : i < n.2.length := (List.getElem?_eq_some_iff.mp hq).1
    have hA := g.fewA
    have ht : n.2.take (i + 1) = n.2.take i ++ [(a, b)] := by
      rw [List.take_add_one, hq]
      rfl
    have hm2 : ∀ p, (∃ q ∈ n.2.take (i + 1), okF n p q) ↔ p ∈ ps ∨ okF n p (a, b) := fun p => by
      rw [ht, hm p]
      constructor
      · rintro ⟨q, h1, h2⟩
        rcases List.mem_append.mp h1 with h1 | h1
        · exact .inl ⟨q, h1, h2⟩
        · rw [List.mem_singleton.mp h1] at h2
          exact .inr h2
      · rintro (⟨q, h1, h2⟩ | h2)
        · exact ⟨q, List.mem_append_left _ h1, h2⟩
        · exact ⟨_, List.mem_append_right _ (List.mem_singleton.mpr rfl), h2⟩
    have hf1 : few ps.length := by unfold few; omega
    have hl1 : (insP ps (a, b)).length ≤ ps.length + 1 := insP_len ps (a, b)
    have hf2 : few (insP ps (a, b)).length := by unfold few; omega
    have hl2 : (insP (insP ps (a, b)) (b, a)).length ≤ (insP ps (a, b)).length + 1 := insP_len _ (b, a)
    simp
    by_cases e : a = b
    · rw [if_pos e, S.wp_chk rfl]
      rw [put_own_P (ps := ps) rfl hf1]
      simp
      refine ⟨insP ps (a, b), rfl, insP_nodup hn, by omega, fun c d => ?_⟩
      have := hm2 (c, d)
      simp only [Prod.exists] at this
      rw [this, insP_mem]
      unfold okF
      simp [e]
    · rw [if_neg e]
      by_cases ha : a ∈ loopsL n
      · rw [if_pos ha]
        refine ⟨ps, rfl, hn, by omega, fun c d => ?_⟩
        have := hm2 (c, d)
        simp only [Prod.exists] at this
        rw [this]
        refine ⟨.inl, fun z => z.elim id fun z => ?_⟩
        rcases z with ⟨z, _⟩ | ⟨_, ⟨z, _⟩, _⟩
        · exact absurd z e
        · exact absurd ha z
      · rw [if_neg ha]
        by_cases hb : b ∈ loopsL n
        · rw [if_pos hb]
          refine ⟨ps, rfl, hn, by omega, fun c d => ?_⟩
          have := hm2 (c, d)
          simp only [Prod.exists] at this
          rw [this]
          refine ⟨.inl, fun z => z.elim id fun z => ?_⟩
          rcases z with ⟨z, _⟩ | ⟨_, ⟨_, z⟩, _⟩
          · exact absurd z e
          · exact absurd hb z
        · rw [if_neg hb, S.wp_chk rfl]
          rw [put_own_P (ps := ps) rfl hf1]
          simp
          rw [S.wp_chk rfl, put_own_P (ps := insP ps (a, b)) rfl hf2]
          simp
          refine ⟨_, rfl, insP_nodup (insP_nodup hn), by omega, fun c d => ?_⟩
          have := hm2 (c, d)
          simp only [Prod.exists] at this
          rw [this, insP_mem, insP_mem]
          unfold okF
          simp [e, ha, hb]
          rw [or_assoc]
  · rintro σ h' ⟨rfl, ps, s3, s4, rfl, hn, hl, hm⟩
    rw [List.length_map, List.take_length] at hm
    obtain ⟨l, e1, e2, e3⟩ := sort_kvP hn
    simp [e1]
    have : l = (kerN n x).2 := pairs_ext e2 (kerN_asc g x) fun p => by
      rw [e3.mem_iff, hm p, kerN_mem, hx]
      obtain ⟨c, d⟩ := p
      have nl : ∀ {w : Str}, w ∉ loopsL n → Rn n w w = false := fun {w} hw => by
        cases q : Rn n w w with
        | false => rfl
        | true => exact absurd ((mem_loops g).mpr q) hw
      constructor
      · rintro ⟨⟨c', d'⟩, hq, ho⟩
        have en := g.ends _ hq
        have hr : Rn n c' d' = true := decide_eq_true hq
        rcases ho with ⟨h1, h2⟩ | ⟨h1, ⟨h2, h3⟩, h4 | h4⟩
        · have h1 : c' = d' := h1
          cases h2
          subst h1
          exact ⟨en, by rw [inK_loop]; exact hr⟩
        · have h1 : ¬ c' = d' := h1
          cases h4
          refine ⟨en, ?_⟩
          show inK (Rn n) 0 c d = true
          unfold inK
          rw [if_neg h1, hr, nl h2, nl h3]
          rfl
        · have h1 : ¬ c' = d' := h1
          cases h4
          refine ⟨⟨en.2, en.1⟩, ?_⟩
          show inK (Rn n) 0 d' c' = true
          unfold inK
          rw [if_neg (fun z => h1 z.symm), hr, nl h2, nl h3]
          cases Rn n d' c' <;> rfl
      · rintro ⟨_, hk⟩
        have hk : inK (Rn n) 0 c d = true := hk
        by_cases e : c = d
        · subst e
          rw [inK_loop] at hk
          exact ⟨(c, c), of_decide_eq_true hk, .inl ⟨rfl, rfl⟩⟩
        · unfold inK at hk
          rw [if_neg e] at hk
          have hk : (!Rn n c c && (!Rn n d d && (Rn n c d || Rn n d c))) = true := hk
          simp only [Bool.and_eq_true, Bool.not_eq_true', Bool.or_eq_true] at hk
          obtain ⟨k1, k2, k3⟩ := hk
          have n1 : c ∉ loopsL n := fun z => by rw [(mem_loops g).mp z] at k1; cases k1
          have n2 : d ∉ loopsL n := fun z => by rw [(mem_loops g).mp z] at k2; cases k2
          rcases k3 with k3 | k3
          · exact ⟨(c, d), of_decide_eq_true k3, .inr ⟨e, ⟨n1, n2⟩, .inl rfl⟩⟩
          · exact ⟨(d, c), of_decide_eq_true k3, .inr ⟨fun z => e z.symm, ⟨n2, n1⟩, .inr rfl⟩⟩
    rw [this]
    exact ⟨rfl, rfl⟩

theorem stay_filter {n : Net} (g : GNet n) {x : Str} (h1 : x ≠ "free") (h2 : x ≠ "naive") : (n.2.filter fun p => inK (Rn n) (kindOf x) p.1 p.2) = (kerN n x).2 := by
  refine pairs_ext (g.ascP.sublist List.filter_sublist) (kerN_asc g x) fun p => ?_
  rw [List.mem_filter, kerN_mem]
  have h0 : kindOf x ≠ 0 := by
    rcases kind_cases x h1 h2 with ⟨_, e⟩ | ⟨_, e⟩ | ⟨_, e⟩ | ⟨_, e⟩ <;> rw [e] <;> decide
  exact ⟨fun h => ⟨g.ends p h.1, h.2⟩, fun h => ⟨of_decide_eq_true (inK_sub h0 h.2), h.2⟩⟩
theorem kernel_of_eq (k : Nat) {n : Net} (g : GNet n) (x : Str) : C (k + 2) i_kernel_of [nD n, .str x] = R.pure (nD (kerN n x)) := by
  rw [c_kernel_of]
  simp [n_kernel_of, loops_in_eq k g, in_two]
  by_cases hx : x = "free" ∨ x = "naive"
  · have e := free_kernel_eq k g (x := x) (if_pos hx)
    rw [if_pos hx]
    exact e
  · have h1 : x ≠ "free" := fun z => hx (.inl z)
    have h2 : x ≠ "naive" := fun z => hx (.inr z)
    rw [if_neg hx, lcG_flt (fun p => inK (Rn n) (kindOf x) p.1 p.2) (fun p => .tup [.str p.1, .str p.2]) fun p hp => ?_]
    · have hf : few (n.2.filter fun p => inK (Rn n) (kindOf x) p.1 p.2).length := by
        have := List.length_filter_le (fun p => inK (Rn n) (kindOf x) p.1 p.2) n.2
        have := g.fewA
        unfold few
        omega
      rw [stay_filter g h1 h2] at hf ⊢
      simp [hf]
      rfl
    · have := stays_eq k g x p.1 p.2 hp h1 h2
      erw [this]
      simp

def standardsL : List Str := ["free", "naive", "admissible", "complete", "grounded", "preferred", "stable", "semistable", "stage", "ideal"]
def isStD : D → Bool
  | .str x => decide (x ∈ standardsL)
  | _ => false
theorem check_standard_eq (k : Nat) (d : D) (h : fineD d = true) : C (k + 1) i_check_standard [d] = if isStD d = true then R.pure .non else R.raise ⟨x_InvalidStandard, []⟩ := by
  rw [c_check_standard]
  cases d with
  | str x =>
    have e := inSeq_str x standardsL
    have e2 : standardsL.map D.str = [.str "free", .str "naive", .str "admissible", .str "complete", .str "grounded", .str "preferred", .str "stable", .str "semistable", .str "stage", .str "ideal"] := rfl
    rw [e2] at e
    simp [n_check_standard, e, isStD]
    split <;> rfl
  | obj _ => cases h
  | ro _ => cases h
  | dct _ _ => cases h
  | _ =>
    simp [n_check_standard, isStD]
    rfl
/-- kernel(net, standard), by name -/
theorem kernel_badnet (k : Nat) (v w : D) (hv : fineD v = true) (h : isNetD v = false) : C (k + 5) i_kernel [v, w] = R.raise ⟨x_InvalidNet, []⟩ := by
  rw [c_kernel]
  simp [n_kernel, check_net_eq k v hv, h]
theorem kernel_badst (k : Nat) {n : Net} (g : GNet n) (w : D) (hw : fineD w = true) (h : isStD w = false) : C (k + 5) i_kernel [nD n, w] = R.raise ⟨x_InvalidStandard, []⟩ := by
  rw [c_kernel]
  simp [n_kernel, check_net_eq k _ g.fine, g.isNet, check_standard_eq (k + 3) w hw, h]
theorem kernel_ok (k : Nat) {n : Net} (g : GNet n) {x : Str} (hx : x ∈ standardsL) (hf : fineD (.str x) = true) : C (k + 5) i_kernel [nD n, .str x] = R.pure (nD (kerN n x)) := by
  have h : isStD (.str x) = true := decide_eq_true hx
  rw [c_kernel]
  simp [n_kernel, check_net_eq k _ g.fine, g.isNet, check_standard_eq (k + 3) _ hf, h, kernel_of_eq (k + 2) g x]

theorem kerN_g {n : Net} (g : GNet n) (hp : n.1.length ≤ 30) (x : Str) : GNet (kerN n x) := by
  refine ⟨g.word, g.asc, fun p h => (kerN_mem.mp h).1, kerN_asc g x, g.fewP, ?_⟩
  have h1 : (kerN n x).2.length ≤ (prodP n.1 n.1).length := List.length_filter_le _ _
  rw [prodP_len] at h1
  have := Nat.mul_le_mul hp hp
  omega
theorem plain_nD (n : Net) : (nD n).plain = true := by
  have h1 : (tL n.1).plain = true := by unfold D.plain; exact plain_strs _
  have h2 : (tP n.2).plain = true := by unfold D.plain; exact plain_pairs _
  show (D.tup [tL n.1, tP n.2]).plain = true
  unfold D.plain
  exact plainAll_iff.mpr fun x hx => by
    rcases List.mem_cons.mp hx with rfl | hx
    · exact h1
    · rw [List.mem_singleton.mp hx]; exact h2
theorem dep_nD (n : Net) : (nD n).dep ≤ 40 := by
  show (D.tup [tL n.1, tP n.2]).dep ≤ 40
  have h1 : ∀ d ∈ n.1.map D.str, d.dep ≤ 5 := fun d hd => by
    obtain ⟨w, _, rfl⟩ := List.mem_map.mp hd
    simp
  have h2 : ∀ d ∈ n.2.map (fun p => D.tup [.str p.1, .str p.2]), d.dep ≤ 5 := fun d hd => by
    obtain ⟨w, _, rfl⟩ := List.mem_map.mp hd
    simp
  have e1 := depAll_le.mpr h1
  have e2 := depAll_le.mpr h2
  simp
  omega
theorem leafs_of : ∀ {xs : List D}, (∀ z ∈ xs, leafOk z = true) → leafsOk xs = true
  | [], _ => by unfold leafsOk; rfl
  | x :: xs, h => by
    unfold leafsOk
    rw [h x List.mem_cons_self, leafs_of fun z hz => h z (List.mem_cons_of_mem _ hz)]
    rfl
theorem leaf_nD (n : Net) : leafOk (nD n) = true := by
  have h1 : leafOk (tL n.1) = true := by
    show leafOk (.tup _) = true
    unfold leafOk
    exact leafs_of (leaf_strs _)
  have h2 : leafOk (tP n.2) = true := by
    show leafOk (.tup _) = true
    unfold leafOk
    exact leafs_of (leaf_pairs _)
  show leafOk (.tup [tL n.1, tP n.2]) = true
  unfold leafOk
  refine leafs_of fun z hz => ?_
  rcases List.mem_cons.mp hz with rfl | hz
  · exact h1
  · rw [List.mem_singleton.mp hz]; exact h2
theorem nD_eq {a b : Net} (h : nD a = nD b) : a = b := by
  have h : D.tup [D.tup (a.1.map .str), D.tup (a.2.map fun p => .tup [.str p.1, .str p.2])] = D.tup [D.tup (b.1.map .str), D.tup (b.2.map fun p => .tup [.str p.1, .str p.2])] := h
  injection h with h
  injection h with h1 h
  injection h with h2 _
  injection h1 with h1
  injection h2 with h2
  refine Prod.ext ((List.map_inj_right (f := D.str) (fun a b q => by injection q)).mp h1) ((List.map_inj_right (f := fun p : Str × Str => D.tup [.str p.1, .str p.2]) (fun a b q => ?_)).mp h2)
  injection q with q
  injection q with q1 q2
  injection q1 with q1
  injection q2 with q2 _
  injection q2 with q2
  exact Prod.ext q1 q2
theorem nD_inj {a b : Net} : eqD (nD a) (nD b) = decide (a = b) := by
  by_cases h : a = b
  · subst h
    rw [decide_eq_true rfl]
    exact eqD_refl (plain_nD a)
  · rw [decide_eq_false h, eqD_enc (leaf_nD a) (leaf_nD b)]
    exact decide_eq_false fun z => h (nD_eq (enc_inj (leaf_nD a) (leaf_nD b) z))
theorem same_bad1 (k : Nat) (v w u : D) (hv : fineD v = true) (h : isNetD v = false) : C (k + 5) i_same_kernel [v, w, u] = R.raise ⟨x_InvalidNet, []⟩ := by
  rw [c_same_kernel]
  simp [n_same_kernel, check_net_eq k v hv, h]
theorem same_bad2 (k : Nat) {n : Net} (g : GNet n) (w u : D) (hv : fineD w = true) (h : isNetD w = false) : C (k + 5) i_same_kernel [nD n, w, u] = R.raise ⟨x_InvalidNet, []⟩ := by
  rw [c_same_kernel]
  simp [n_same_kernel, check_net_eq k _ g.fine, g.isNet, check_net_eq k w hv, h]
theorem same_bad3 (k : Nat) {n m : Net} (g : GNet n) (g2 : GNet m) (u : D) (hv : fineD u = true) (h : isStD u = false) : C (k + 5) i_same_kernel [nD n, nD m, u] = R.raise ⟨x_InvalidStandard, []⟩ := by
  rw [c_same_kernel]
  simp [n_same_kernel, check_net_eq k _ g.fine, g.isNet, check_net_eq k _ g2.fine, g2.isNet, check_standard_eq (k + 3) u hv, h]
theorem same_ok (k : Nat) {n m : Net} (g : GNet n) (g2 : GNet m) (hn : n.1.length ≤ 30) (hm : m.1.length ≤ 30) {x : Str} (hx : x ∈ standardsL) (hf : fineD (.str x) = true) : C (k + 5) i_same_kernel [nD n, nD m, .str x] = R.pure (.bl (eqD (nD (kerN n x)) (nD (kerN m x)))) := by
  have h : isStD (.str x) = true := decide_eq_true hx
  rw [c_same_kernel]
  simp [n_same_kernel, check_net_eq k _ g.fine, g.isNet, check_net_eq k _ g2.fine, g2.isNet, check_standard_eq (k + 3) _ hf, h, kernel_of_eq (k + 2) g x, kernel_of_eq (k + 2) g2 x]
  have e := cmpOk_pl (plain_nD (kerN n x)) (plain_nD (kerN m x)) (dep_nD (kerN n x))
  erw [R.need_of e]
  rfl
theorem loops_of_bad (k : Nat) (v : D) (hv : fineD v = true) (h : isNetD v = false) : C (k + 5) i_loops_of [v] = R.raise ⟨x_InvalidNet, []⟩ := by
  rw [c_loops_of]
  simp [n_loops_of, check_net_eq k v hv, h]
theorem loops_of_ok (k : Nat) {n : Net} (g : GNet n) : C (k + 5) i_loops_of [nD n] = R.pure (tL (loopsL n)) := by
  rw [c_loops_of]
  simp [n_loops_of, check_net_eq k _ g.fine, g.isNet, loops_in_eq (k + 3) g]

theorem isR_nn : isR .non .non = R.pure true := rfl
theorem isR_sn (x : Str) : isR (.str x) .non = R.pure false := rfl
theorem bel1 : XT.below x_InvalidNet 1 = true := rfl
theorem bel2 : XT.below x_InvalidStandard 1 = false := rfl
theorem bel3 : XT.below x_InvalidStandard 2 = true := rfl
theorem told0_ok (k : Nat) {n : Net} (g : GNet n) {x : Str} (hx : x ∈ standardsL) (hf : fineD (.str x) = true) (w : D) : C (k + 6) i__law_told [.int 0, nD n, w, .str x] = R.pure (.lst [nD (kerN n x)]) := by
  rw [c__law_told]
  simp [n__law_told, kernel_ok k g hx hf, isR_nn]
theorem told0_badnet (k : Nat) (v w u : D) (hv : fineD v = true) (h : isNetD v = false) : C (k + 6) i__law_told [.int 0, v, w, u] = R.pure (.str "net") := by
  rw [c__law_told]
  simp [n__law_told, kernel_badnet k v u hv h, isR_sn, bel1]
theorem told0_badst (k : Nat) {n : Net} (g : GNet n) (w u : D) (hv : fineD u = true) (h : isStD u = false) : C (k + 6) i__law_told [.int 0, nD n, w, u] = R.pure (.str "standard") := by
  rw [c__law_told]
  simp [n__law_told, kernel_badst k g u hv h, isR_sn, bel2, bel3]
theorem told1_ok (k : Nat) {n m : Net} (g : GNet n) (g2 : GNet m) (hn : n.1.length ≤ 30) (hm : m.1.length ≤ 30) {x : Str} (hx : x ∈ standardsL) (hf : fineD (.str x) = true) : C (k + 6) i__law_told [.int 1, nD n, nD m, .str x] = R.pure (.lst [.bl (decide (kerN n x = kerN m x))]) := by
  have e := same_ok k g g2 hn hm hx hf
  rw [nD_inj] at e
  rw [c__law_told]
  simp [n__law_told, e, isR_nn]
theorem told1_bad1 (k : Nat) (v w u : D) (hv : fineD v = true) (h : isNetD v = false) : C (k + 6) i__law_told [.int 1, v, w, u] = R.pure (.str "net") := by
  rw [c__law_told]
  simp [n__law_told, same_bad1 k v w u hv h, isR_sn, bel1]
theorem told1_bad2 (k : Nat) {n : Net} (g : GNet n) (w u : D) (hv : fineD w = true) (h : isNetD w = false) : C (k + 6) i__law_told [.int 1, nD n, w, u] = R.pure (.str "net") := by
  rw [c__law_told]
  simp [n__law_told, same_bad2 k g w u hv h, isR_sn, bel1]
theorem told1_bad3 (k : Nat) {n m : Net} (g : GNet n) (g2 : GNet m) (u : D) (hv : fineD u = true) (h : isStD u = false) : C (k + 6) i__law_told [.int 1, nD n, nD m, u] = R.pure (.str "standard") := by
  rw [c__law_told]
  simp [n__law_told, same_bad3 k g g2 u hv h, isR_sn, bel2, bel3]
theorem told2_bad1 (k : Nat) (v w u : D) (hv : fineD v = true) (h : isNetD v = false) : C (k + 6) i__law_told [.int 2, v, w, u] = R.pure (.str "net") := by
  rw [c__law_told]
  simp [n__law_told, both_nets_badnet k v w hv h, isR_sn, bel1]
theorem told2_bad2 (k : Nat) {n : Net} (g : GNet n) (w u : D) (hv : fineD w = true) (h : isNetD w = false) : C (k + 6) i__law_told [.int 2, nD n, w, u] = R.pure (.str "net") := by
  rw [c__law_told]
  simp [n__law_told, both_nets_bad k g w hv h, isR_sn, bel1]
theorem told3_bad (k : Nat) (v w u : D) (hv : fineD v = true) (h : isNetD v = false) : C (k + 6) i__law_told [.int 3, v, w, u] = R.pure (.str "net") := by
  rw [c__law_told]
  simp [n__law_told, loops_of_bad k v hv h, isR_sn, bel1]
theorem told3_ok (k : Nat) {n : Net} (g : GNet n) (w u : D) : C (k + 6) i__law_told [.int 3, nD n, w, u] = R.pure (.lst [tL (loopsL n)]) := by
  rw [c__law_told]
  simp [n__law_told, loops_of_ok k g, isR_nn]
theorem told2_ok (k : Nat) {n m : Net} (g : GNet n) (g2 : GNet m) (hd : (dedup ((n.2 ++ m.2).map fun p => D.tup [.str p.1, .str p.2])).length ≤ 75) (u : D) : C (k + 6) i__law_told [.int 2, nD n, nD m, u] = R.pure (.lst [bothD n m]) := by
  rw [c__law_told]
  simp [n__law_told, both_nets_ok k g g2 hd, isR_nn]

theorem law_kernel_eq (k : Nat) {n : Net} (g : GNet n) (hp : n.1.length ≤ 30) (x : Str) : C (k + 1) i__law_kernel [nD n, .str x] = R.pure (nD (kerN n x)) := by
  have hl := loopsL_len n
  have hf : few (loopsL n).length := by have := g.fewP; unfold few; omega
  have e : mkLst ((loopsL n).map .str) = R.pure (.lst ((loopsL n).map .str)) := mkLst_few (by rw [List.length_map]; exact hf)
  refine R_eq_of_wp fun h => ?_
  rw [c__law_kernel]
  simp [n__law_kernel]
  unfold loopsL at e
  rw [e]
  simp only [R.wp_pure]
  refine S.wp_forN (fun i σ h' => h' = h ∧ ∃ ps s4 s5 s7 s8, σ = [.val (nD n), .val (.str x), .val (.lst ((loopsL n).map .str)), .own (.lst (ps.map pD)), s4, s5, .no, s7, s8] ∧ ps = (prodP (n.1.take i) n.1).filter fun p => inK (Rn n) (kindOf x) p.1 p.2) ⟨rfl, [], .no, .no, .no, .no, rfl, rfl⟩ ?_ ?_
  · rintro i y σ h' hy ⟨rfl, ps, s4, s5, s7, s8, rfl, hps⟩
    obtain ⟨a, ha, rfl⟩ : ∃ a, n.1[i]? = some a ∧ y = .str a := by
      rw [List.getElem?_map] at hy
      obtain ⟨a, h1, h2⟩ := Option.map_eq_some_iff.mp hy
      exact ⟨a, h1, h2.symm⟩
    simp
    refine S.wp_forN (fun j σ h'' => h'' = h' ∧ ∃ ps s5 s7 s8, σ = [.val (nD n), .val (.str x), .val (.lst ((loopsL n).map .str)), .own (.lst (ps.map pD)), .val (.str a), s5, .no, s7, s8] ∧ ps = (prodP (n.1.take i) n.1 ++ (n.1.take j).map fun b => (a, b)).filter fun p => inK (Rn n) (kindOf x) p.1 p.2) ⟨rfl, ps, s5, s7, s8, rfl, by simpa using hps⟩ ?_ ?_
    · rintro j y σ h'' hy ⟨rfl, ps, s5, s7, s8, rfl, hps⟩
      obtain ⟨b, hb, rfl⟩ : ∃ b, n.1[j]? = some b ∧ y = .str b := by
        rw [List.getElem?_map] at hy
        obtain ⟨b, h1, h2⟩ := Option.map_eq_some_iff.mp hy
        exact ⟨b, h1, h2.symm⟩
      have hfew : few ps.length := by
        have h1 := List.length_filter_le (fun p => inK (Rn n) (kindOf x) p.1 p.2) (prodP (n.1.take i) n.1 ++ (n.1.take j).map fun b => (a, b))
        rw [← hps, List.length_append, prodP_len, List.length_map, List.length_take, List.length_take] at h1
        have h2 : min i n.1.length * n.1.length ≤ 30 * 30 := Nat.mul_le_mul (by omega) hp
        unfold few
        omega
      have ht : n.1.take (j + 1) = n.1.take j ++ [b] := by
        rw [List.take_add_one, hb]
        rfl
      have yes : inK (Rn n) (kindOf x) a b = true → ps ++ [(a, b)] = (prodP (n.1.take i) n.1 ++ (n.1.take (j + 1)).map fun b => (a, b)).filter fun p => inK (Rn n) (kindOf x) p.1 p.2 := fun q => by
        rw [ht, List.map_append, ← List.append_assoc, List.filter_append, ← hps]
        simp [q]
      have no : inK (Rn n) (kindOf x) a b = false → ps = (prodP (n.1.take i) n.1 ++ (n.1.take (j + 1)).map fun b => (a, b)).filter fun p => inK (Rn n) (kindOf x) p.1 p.2 := fun q => by
        rw [ht, List.map_append, ← List.append_assoc, List.filter_append, ← hps]
        simp [q]
      have hla : decide (a ∈ loopsL n) = Rn n a a := by
        cases q : Rn n a a with
        | true => exact decide_eq_true ((mem_loops g).mpr q)
        | false => exact decide_eq_false fun z => by rw [(mem_loops g).mp z] at q; cases q
      have hlb : decide (b ∈ loopsL n) = Rn n b b := by
        cases q : Rn n b b with
        | true => exact decide_eq_true ((mem_loops g).mpr q)
        | false => exact decide_eq_false fun z => by rw [(mem_loops g).mp z] at q; cases q
      have hba : decide ((b, a) ∈ n.2) = Rn n b a := rfl
      have hab : decide ((a, b) ∈ n.2) = Rn n a b := rfl
      simp [in_two]
      by_cases e : a = b
      · rw [if_pos e]
        by_cases q : (a, b) ∈ n.2
        · rw [if_pos q, chk_app_own (xs := ps.map pD) rfl (by rw [List.length_map]; exact hfew)]
          simp
          have := congrArg (List.map pD) (yes (by subst e; rw [inK_loop]; exact decide_eq_true q))
          simpa [pD] using this
        · rw [if_neg q]
          have := congrArg (List.map pD) (no (by subst e; rw [inK_loop]; exact decide_eq_false q))
          simpa [pD] using this
      · rw [if_neg e]
        have hchk : ∀ s7 s8 : Slot, S.chk (lstAt [.val (nD n), .val (.str x), .val (.lst ((loopsL n).map .str)), .own (.lst (ps.map pD)), .val (.str a), .val (.str b), .no, s7, s8] 3) (turnS [.val (nD n), .val (.str x), .val (.lst ((loopsL n).map .str)), .own (.lst (ps.map pD)), .val (.str a), .val (.str b), .no, s7, s8] 3 (appMO (.tup [.str a, .str b]))) = S.done .nx [.val (nD n), .val (.str x), .val (.lst ((loopsL n).map .str)), .own (.lst (ps.map pD ++ [.tup [.str a, .str b]])), .val (.str a), .val (.str b), .no, s7, s8] := fun s7 s8 => by
          rw [chk_app_own (xs := ps.map pD) rfl (by rw [List.length_map]; exact hfew)]
          rfl
        simp only [nD, tL, tP] at hchk
        simp only [hchk]
        simp
        have yes' : inK (Rn n) (kindOf x) a b = true → _ := fun q => congrArg (List.map pD) (yes q)
        have no' : inK (Rn n) (kindOf x) a b = false → _ := fun q => congrArg (List.map pD) (no q)
        simp [pD] at yes' no'
        generalize List.map pD (List.filter (fun p => inK (Rn n) (kindOf x) p.fst p.snd) (prodP (List.take i n.fst) n.fst)) ++ List.map pD (List.filter (fun p => inK (Rn n) (kindOf x) p.fst p.snd) (List.take (j + 1) (List.map (fun b => (a, b)) n.fst))) = rhs at yes' no' ⊢
        have ek : inK (Rn n) (kindOf x) a b = krn (kindOf x) (Rn n a b) (Rn n b a) (Rn n a a) (Rn n b b) := if_neg e
        rw [ek, ← hla, ← hlb, ← hba, ← hab] at yes' no'
        have n1 : ¬ (Str.ofString "complete") = Str.ofString "stable" := by decide +kernel
        have n2 : ¬ (Str.ofString "complete") = Str.ofString "stage" := by decide +kernel
        have n3 : ¬ (Str.ofString "grounded") = Str.ofString "stable" := by decide +kernel
        have n4 : ¬ (Str.ofString "grounded") = Str.ofString "stage" := by decide +kernel
        have n5 : ¬ (Str.ofString "complete") = Str.ofString "grounded" := by decide +kernel
        by_cases hx : x = "free" ∨ x = "naive"
        · have hk : kindOf x = 0 := if_pos hx
          rw [hk] at yes' no'
          rw [if_pos hx]
          by_cases q1 : a ∈ loopsL n <;> by_cases q2 : b ∈ loopsL n <;> by_cases q3 : (b, a) ∈ n.2 <;> by_cases q4 : (a, b) ∈ n.2 <;> simp [q1, q2, q3, q4, krn] at yes' no' ⊢ <;> assumption
        · rw [if_neg hx]
          rcases kind_cases x (fun z => hx (.inl z)) (fun z => hx (.inr z)) with ⟨q, hk⟩ | ⟨q, hk⟩ | ⟨q, hk⟩ | ⟨⟨z1, z2, z3, z4⟩, hk⟩
          · rw [hk] at yes' no'
            rw [if_pos q]
            by_cases q1 : a ∈ loopsL n <;> by_cases q2 : b ∈ loopsL n <;> by_cases q3 : (b, a) ∈ n.2 <;> by_cases q4 : (a, b) ∈ n.2 <;> simp [q1, q2, q3, q4, krn] at yes' no' ⊢ <;> assumption
          · rw [hk] at yes' no'
            rw [q, if_neg (fun z => z.elim n1 n2), if_neg n5, if_pos rfl]
            by_cases q1 : a ∈ loopsL n <;> by_cases q2 : b ∈ loopsL n <;> by_cases q3 : (b, a) ∈ n.2 <;> by_cases q4 : (a, b) ∈ n.2 <;> simp [q1, q2, q3, q4, krn] at yes' no' ⊢ <;> assumption
          · rw [hk] at yes' no'
            rw [q, if_neg (fun z => z.elim n3 n4), if_pos rfl]
            by_cases q1 : a ∈ loopsL n <;> by_cases q2 : b ∈ loopsL n <;> by_cases q3 : (b, a) ∈ n.2 <;> by_cases q4 : (a, b) ∈ n.2 <;> simp [q1, q2, q3, q4, krn] at yes' no' ⊢ <;> assumption
          · rw [hk] at yes' no'
            rw [if_neg (fun z => z.elim z1 z2), if_neg z4, if_neg z3]
            by_cases q1 : a ∈ loopsL n <;> by_cases q2 : b ∈ loopsL n <;> by_cases q3 : (b, a) ∈ n.2 <;> by_cases q4 : (a, b) ∈ n.2 <;> simp [q1, q2, q3, q4, krn] at yes' no' ⊢ <;> assumption
    · rintro σ h'' ⟨rfl, ps, s5, s7, s8, rfl, hps⟩
      have ht : n.1.take (i + 1) = n.1.take i ++ [a] := by
        rw [List.take_add_one, ha]
        rfl
      have hall : n.1.take (n.1.map D.str).length = n.1 := by rw [List.length_map, List.take_length]
      rw [hall, ← prodP_snoc, ← ht] at hps
      have hps2 := congrArg (List.map pD) hps
      simpa [pD] using hps2
  · rintro σ h' ⟨rfl, ps, s4, s5, s7, s8, rfl, hps⟩
    have hall : n.1.take (n.1.map D.str).length = n.1 := by rw [List.length_map, List.take_length]
    rw [hall] at hps
    subst hps
    simp
    exact ⟨rfl, rfl⟩

theorem law_standards_eq (k : Nat) : C (k + 1) i__law_standards [] = R.pure (.lst (standardsL.map .str)) := by
  rw [c__law_standards]
  simp [n__law_standards]
  rfl
theorem law_both_eq (k : Nat) {n m : Net} (g : GNet n) (g2 : GNet m) (hd : (dedup ((n.2 ++ m.2).map fun p => D.tup [.str p.1, .str p.2])).length ≤ 75) : C (k + 1) i__law_both [nD n, nD m] = R.pure (bothD n m) := by
  rw [c__law_both]
  have f1 := g.fewP
  have f2 := g2.fewP
  have f3 := g.fewA
  have f4 := g2.fewA
  simp [n__law_both]
  rw [opR_add_tup (few_lit (by simp; omega)), ← List.map_append]
  simp only [R.pure_bind]
  rw [sset_ST _ (by simp; omega)]
  simp only [R.pure_bind]
  rw [opR_add_tup (x := n.2.map fun p => D.tup [D.str p.1, D.str p.2]) (few_lit (by simp; omega)), ← List.map_append]
  have := sset_P (n.2 ++ m.2) (by simp; omega) hd
  simp only [R.pure_bind]
  rw [show bltR .sortedSet [D.tup ((n.2 ++ m.2).map fun p => D.tup [D.str p.1, D.str p.2])] = bltR .sortedSet [D.lst ((n.2 ++ m.2).map fun p => D.tup [D.str p.1, D.str p.2])] from rfl, this]
  simp [bothD]

theorem law_hits_eq (k : Nat) {n : Net} (g : GNet n) (l : List Str) : C (k + 1) i__law_hits [nD n, tL l] = R.pure (.lst ((hitL n l).map .str)) := by
  have hf : few (hitL n l).length := by have := hitL_len n l; have := g.fewA; unfold few; omega
  rw [c__law_hits]
  simp [n__law_hits]
  have e : mkLst ((hitL n l).map .str) = R.pure (.lst ((hitL n l).map .str)) := mkLst_few (by rw [List.length_map]; exact hf)
  unfold hitL at e ⊢
  rw [List.map_map] at e ⊢
  exact e
theorem allB_dec {l : List Str} {f : Str → Bool} {P : Str → Prop} [DecidablePred P] (h : ∀ x, f x = decide (P x)) : allB f l = decide (∀ p ∈ l, P p) := by
  cases e : allB f l with
  | true =>
    refine (decide_eq_true fun p hp => ?_).symm
    have := allB_iff.mp e p hp
    rw [h p] at this
    exact of_decide_eq_true this
  | false =>
    refine (decide_eq_false fun z => ?_).symm
    have : allB f l = true := allB_iff.mpr fun p hp => by rw [h p]; exact decide_eq_true (z p hp)
    rw [e] at this
    cases this
theorem law_within_eq (k : Nat) (l m : List Str) (hl : few l.length) : C (k + 1) i__law_within [tL l, tL m] = R.pure (.bl (decide (∀ p ∈ l, p ∈ m))) := by
  rw [c__law_within]
  simp [n__law_within, hl]
  rw [allB_dec (P := fun p => p ∈ m) fun _ => rfl]
theorem law_is_free_eq (k : Nat) {n : Net} (g : GNet n) (l : List Str) (hl : few l.length) : C (k + 2) i__law_is_free [nD n, tL l] = R.pure (.bl (decide (∀ p ∈ l, p ∉ hitL n l))) := by
  rw [c__law_is_free]
  simp [n__law_is_free, law_hits_eq k g l, hl]
  congr 2
  cases e : anyB (fun x => decide (x ∈ hitL n l)) l with
  | false =>
    have z : ∀ p ∈ l, ¬ p ∈ hitL n l := fun p hp hq => by
      have : anyB (fun x => decide (x ∈ hitL n l)) l = true := anyB_iff.mpr ⟨p, hp, decide_eq_true hq⟩
      rw [e] at this
      cases this
    exact (decide_eq_true z).symm
  | true =>
    obtain ⟨p, hp, hq⟩ := anyB_iff.mp e
    exact (decide_eq_false fun z => z p hp (of_decide_eq_true hq)).symm

/-- the points whose attackers a lot hits -/
def heldL (n : Net) (l : List Str) : List Str := n.1.filter fun p => allB (fun q => decide (q.1 ∈ hitL n l)) (n.2.filter fun q => decide (q.2 = p))
theorem heldL_mem {n : Net} {l : List Str} {p : Str} : p ∈ heldL n l ↔ p ∈ n.1 ∧ ∀ q ∈ n.2, q.2 = p → q.1 ∈ hitL n l := by
  unfold heldL
  rw [List.mem_filter, allB_iff]
  refine ⟨fun h => ⟨h.1, fun q hq e => ?_⟩, fun h => ⟨h.1, fun q hq => ?_⟩⟩
  · exact of_decide_eq_true (h.2 q (List.mem_filter.mpr ⟨hq, decide_eq_true e⟩))
  · obtain ⟨h1, h2⟩ := List.mem_filter.mp hq
    exact decide_eq_true (h.2 q h1 (of_decide_eq_true h2))
theorem law_held_by_eq (k : Nat) {n : Net} (g : GNet n) (l : List Str) : C (k + 2) i__law_held_by [nD n, tL l] = R.pure (tL (heldL n l)) := by
  have hf : few (heldL n l).length := by
    have h1 : (heldL n l).length ≤ n.1.length := List.length_filter_le _ _
    have := g.fewP
    unfold few
    omega
  have e : mkLst ((heldL n l).map .str) = R.pure (.lst ((heldL n l).map .str)) := mkLst_few (by rw [List.length_map]; exact hf)
  rw [c__law_held_by]
  simp [n__law_held_by, law_hits_eq k g l, g.few2]
  unfold heldL at e ⊢
  rw [e]
  simp
theorem law_reach_eq (k : Nat) {n : Net} (g : GNet n) (l : List Str) (hl : l.length ≤ 1000) : C (k + 2) i__law_reach [nD n, tL l] = R.pure (.tup (sset ((l ++ hitL n l).map .str))) := by
  have hh := hitL_len n l
  have hA := g.fewA
  rw [c__law_reach]
  simp [n__law_reach, law_hits_eq k g l, show few l.length by unfold few; omega]
  rw [opR_add_lst (by unfold few; simp; omega), ← List.map_append]
  simp only [R.pure_bind]
  rw [sset_S _ (by simp; omega)]
  simp

theorem bad_standard_wp (k n N : Nat) (hN : N + 10 < 1000000000) (h : Hs) (hs : Pool N n h) (Q : D → Hs → Prop) (q : ∀ d h', fineD d = true → isStD d = false → Pool (N + 1) n h' → Q d h') : R.wp (C (k + 2) i__law_bad_standard [.obj n]) Q h := by
  rw [c__law_bad_standard]
  simp [n__law_bad_standard]
  refine pull_wp k n N (by omega) 6 (by decide) (by decide) h hs _ fun r h hr hs => ?_
  obtain ⟨d, hd, e⟩ := atD_lt (xs := [D.str "cf2", .non, .str "", .tup [.str "free"], .str "Free", .int 3]) (r := r) hr
  simp
  rw [e]
  simp
  have key : ∀ d ∈ [D.str "cf2", .non, .str "", .tup [.str "free"], .str "Free", .int 3], fineD d = true ∧ isStD d = false := by decide +kernel
  exact q d h (key d hd).1 (key d hd).2 hs
theorem bad_net_wp (k n N : Nat) (hN : N + 10 < 1000000000) (h : Hs) (hs : Pool N n h) (Q : D → Hs → Prop) (q : ∀ d h', fineD d = true → isNetD d = false → Pool (N + 1) n h' → Q d h') : R.wp (C (k + 2) i__law_bad_net [.obj n]) Q h := by
  rw [c__law_bad_net]
  simp [n__law_bad_net]
  refine pull_wp k n N (by omega) 8 (by decide) (by decide) h hs _ fun r h hr hs => ?_
  obtain ⟨d, hd, e⟩ := atD_lt (xs := [D.non, .tup [], .tup [.tup [.str "a"], .tup [.tup [.str "a", .str "b"]]], .tup [.tup [.str "b", .str "a"], .tup []], .tup [.tup [.str "a"], .lst [.tup [.str "a", .str "a"]]], .tup [.tup [.str "A"], .tup []], .tup [.tup [], .tup [.tup []]], .str "net"]) (r := r) hr
  simp
  rw [e]
  simp
  have key : ∀ d ∈ [D.non, .tup [], .tup [.tup [.str "a"], .tup [.tup [.str "a", .str "b"]]], .tup [.tup [.str "b", .str "a"], .tup []], .tup [.tup [.str "a"], .lst [.tup [.str "a", .str "a"]]], .tup [.tup [.str "A"], .tup []], .tup [.tup [], .tup [.tup []]], .str "net"], fineD d = true ∧ isNetD d = false := by decide +kernel
  exact q d h (key d hd).1 (key d hd).2 hs

theorem refused_wp (k n N : Nat) (hN : N + 20 < 1000000000) {nt : Net} (g : GNet nt) (h : Hs) (hs : Pool N n h) (Q : D → Hs → Prop) (q : ∀ h', Pool (N + 2) n h' → Q (.bl true) h') : R.wp (C (k + 7) i__law_refused [.obj n, nD nt]) Q h := by
  rw [c__law_refused]
  simp [n__law_refused]
  refine bad_net_wp (k + 4) n N (by omega) h hs _ fun bad h hb1 hb2 hs => ?_
  refine bad_standard_wp (k + 4) n (N + 1) (by omega) h hs _ fun odd h ho1 ho2 hs => ?_
  have t0 := told0_badnet k bad .non odd hb1 hb2
  have t1 := told1_bad1 k bad odd odd hb1 hb2
  have t2 := told1_bad2 k g bad odd hb1 hb2
  have t3 := told1_bad3 k g g odd ho1 ho2
  have t4 := told0_badst k g .non odd ho1 ho2
  have t5 := told2_bad1 k bad odd .non hb1 hb2
  have t6 := told2_bad2 k g bad .non hb1 hb2
  have t7 := told3_bad k bad .non .non hb1 hb2
  simp only [nD, tL, tP] at t2 t3 t4 t6
  try simp
  rw [t0]
  try simp
  rw [t1]
  try simp
  rw [t2]
  try simp
  rw [t3]
  try simp
  rw [t4]
  try simp
  rw [t5]
  try simp
  rw [t6]
  try simp
  rw [t7]
  try simp
  have m3 : ∀ s : Str, opR .Mult (.lst [.str s]) (.int 3) = R.pure (.lst [.str s, .str s, .str s]) := fun s => rfl
  have m2 : ∀ s : Str, opR .Mult (.lst [.str s]) (.int 2) = R.pure (.lst [.str s, .str s]) := fun s => rfl
  rw [m3, m2]
  simp only [R.wp_pure]
  rw [opR_add_lst (by unfold few; decide)]
  simp only [R.wp_pure]
  rw [opR_add_lst (by unfold few; decide)]
  simp only [R.wp_pure]
  simp [R.wp_need]
  exact ⟨by decide +kernel, q _ hs⟩

/-- all lots of the points, as the law lists them before sorting -/
def subsL (l : List Str) : List (List Str) := l.foldl (fun acc p => acc ++ acc.map fun x => x ++ [p]) [[]]
theorem subs_snoc (l : List Str) (p : Str) : subsL (l ++ [p]) = subsL l ++ (subsL l).map fun x => x ++ [p] := by
  unfold subsL
  rw [List.foldl_append]
  rfl
theorem fold_len : ∀ (l : List Str) (acc : List (List Str)), (l.foldl (fun acc p => acc ++ acc.map fun x => x ++ [p]) acc).length = acc.length * 2 ^ l.length
  | [], acc => by simp
  | p :: l, acc => by
    rw [List.foldl_cons, fold_len l, List.length_append, List.length_map, List.length_cons, Nat.pow_succ, ← Nat.two_mul, Nat.mul_comm 2, Nat.mul_assoc, Nat.mul_comm 2]
theorem subs_len (l : List Str) : (subsL l).length = 2 ^ l.length := by
  unfold subsL
  rw [fold_len]
  simp
theorem fold_sub : ∀ (l : List Str) (acc : List (List Str)) (b : List Str), (∀ x ∈ acc, x.Sublist b) → ∀ x ∈ l.foldl (fun acc p => acc ++ acc.map fun x => x ++ [p]) acc, x.Sublist (b ++ l)
  | [], acc, b, h, x, hx => by
    rw [List.append_nil]
    exact h x hx
  | p :: l, acc, b, h, x, hx => by
    have := fold_sub l (acc ++ acc.map fun x => x ++ [p]) (b ++ [p]) (fun y hy => by
      rcases List.mem_append.mp hy with hy | hy
      · exact (h y hy).trans (List.sublist_append_left _ _)
      · obtain ⟨z, hz, rfl⟩ := List.mem_map.mp hy
        exact List.Sublist.append (h z hz) (List.Sublist.refl _)) x hx
    rw [List.append_assoc] at this
    exact this
theorem subs_sub {l x : List Str} (h : x ∈ subsL l) : x.Sublist l := by
  have := fold_sub l [[]] [] (fun x hx => by rw [List.mem_singleton.mp hx]; exact List.Sublist.refl _) x h
  simpa using this
theorem fold_all : ∀ (l : List Str) (acc : List (List Str)) (a y : List Str), a ∈ acc → y.Sublist l → a ++ y ∈ l.foldl (fun acc p => acc ++ acc.map fun x => x ++ [p]) acc
  | [], acc, a, y, ha, hy => by
    rw [List.sublist_nil.mp hy, List.append_nil]
    exact ha
  | p :: l, acc, a, y, ha, hy => by
    rw [List.foldl_cons]
    cases hy with
    | cons _ h => exact fold_all l _ a y (List.mem_append_left _ ha) h
    | cons_cons _ h =>
      rename_i y'
      have := fold_all l (acc ++ acc.map fun x => x ++ [p]) (a ++ [p]) y' (List.mem_append_right _ (List.mem_map.mpr ⟨a, ha, rfl⟩)) h
      rw [List.append_assoc] at this
      exact this
theorem subs_all {l y : List Str} (h : y.Sublist l) : y ∈ subsL l := fold_all l [[]] [] y (List.mem_singleton.mpr rfl) h

theorem weights_eq (k : Nat) {pts : List Str} (hn : pts.Nodup) (hl : pts.length ≤ 1000) : C (k + 1) i__law_weights [tL pts] = R.pure (.dct false (pts.map fun p => (D.str p, D.int (wtP pts p)))) := by
  refine R_eq_of_wp fun h => ?_
  rw [c__law_weights]
  simp [n__law_weights]
  refine S.wp_forN (fun i σ h' => h' = h ∧ ∃ s1, σ = [.val (tL pts), s1, .own (.dct false ((pts.take i).map fun p => (D.str p, D.int (wtP pts p)))), .val (.int ((2 ^ i : Nat) : Int))]) ⟨rfl, .no, rfl⟩ ?_ ?_
  · rintro i y σ h' hy ⟨rfl, s1, rfl⟩
    obtain ⟨a, ha, rfl⟩ : ∃ a, pts[i]? = some a ∧ y = .str a := by
      rw [List.getElem?_map] at hy
      obtain ⟨a, h1, h2⟩ := Option.map_eq_some_iff.mp hy
      exact ⟨a, h1, h2.symm⟩
    have hi : i < pts.length := (List.getElem?_eq_some_iff.mp ha).1
    have ht : pts.take (i + 1) = pts.take i ++ [a] := by
      rw [List.take_add_one, ha]
      rfl
    have hix := idxOf_at hn ha
    have hnot : a ∉ pts.take i := fun z => by
      have : (pts.take (i + 1)).Nodup := hn.sublist (List.take_sublist _ _)
      rw [ht] at this
      exact (List.nodup_append.mp this).2.2 a z a (by simp) rfl
    simp
    rw [chk_has rfl, put_own rfl rfl (few_lit (by simp; omega))]
    simp
    rw [mul_c _ _ rfl]
    simp
    refine ⟨?_, ?_⟩
    · rw [← List.map_take, ← List.map_take, putD_new fun q hq => ?_]
      · rw [ht, List.map_append]
        simp [wtP, hix]
      · obtain ⟨b, hb, rfl⟩ := List.mem_map.mp hq
        show (b == a) = false
        rw [beq_eq_false_iff_ne]
        rintro rfl
        exact hnot hb
    · rw [Int.pow_succ]
  · rintro σ h' ⟨rfl, s1, rfl⟩
    have hall : pts.take (pts.map D.str).length = pts := by rw [List.length_map, List.take_length]
    rw [hall]
    simp [freeze]
theorem subs_nodup : ∀ (l : List Str) (acc : List (List Str)) (b : List Str), acc.Nodup → (∀ x ∈ acc, x.Sublist b) → (b ++ l).Nodup → (l.foldl (fun acc p => acc ++ acc.map fun x => x ++ [p]) acc).Nodup
  | [], acc, b, h, _, _ => h
  | p :: l, acc, b, h, hs, hn => by
    refine subs_nodup l _ (b ++ [p]) ?_ ?_ (by simpa using hn)
    · rw [List.nodup_append]
      refine ⟨h, ?_, fun x hx y hy e => ?_⟩
      · unfold List.Nodup
        rw [List.pairwise_map]
        exact h.imp fun {a b} q e => q (List.append_cancel_right e)
      · obtain ⟨z, hz, rfl⟩ := List.mem_map.mp hy
        have h1 : p ∈ x := by rw [e]; simp
        have h2 := (hs x hx).subset h1
        have h3 : (b ++ p :: l).Nodup := hn
        exact (List.nodup_append.mp h3).2.2 p h2 p (by simp) rfl
    · intro x hx
      rcases List.mem_append.mp hx with hx | hx
      · exact (hs x hx).trans (List.sublist_append_left _ _)
      · obtain ⟨z, hz, rfl⟩ := List.mem_map.mp hx
        exact List.Sublist.append (hs z hz) (List.Sublist.refl _)
theorem subsL_nodup {l : List Str} (h : l.Nodup) : (subsL l).Nodup := subs_nodup l [[]] [] (by simp) (fun x hx => by rw [List.mem_singleton.mp hx]; exact List.Sublist.refl _) (by simpa using h)
theorem sort_subs {pts : List Str} (ha : pts.Pairwise fun x y => ltS x y = true) : sortD ((subsL pts).map tL) = (lotsB pts).map tL :=
  sort_tLm (subsL_nodup (asc_nodup ha)) (lotsB_asc ha) fun x => ⟨fun h => lotsB_mem.mpr (subs_sub h), fun h => subs_all (lotsB_mem.mp h)⟩
theorem law_lots_below_eq (k : Nat) {pts : List Str} (hasc : pts.Pairwise fun x y => ltS x y = true) (hp : pts.length ≤ 8) : C (k + 1) i__law_lots_below [tL pts] = R.pure (.lst ((lotsB pts).map tL)) := by
  refine R_eq_of_wp fun h => ?_
  rw [c__law_lots_below]
  simp [n__law_lots_below]
  refine S.wp_forN (fun i σ h' => h' = h ∧ ∃ s2 s3, σ = [.val (tL pts), .val (.lst ((subsL (pts.take i)).map tL)), s2, s3]) ⟨rfl, .no, .no, rfl⟩ ?_ ?_
  · rintro i y σ h' hy ⟨rfl, s2, s3, rfl⟩
    obtain ⟨a, ha, rfl⟩ : ∃ a, pts[i]? = some a ∧ y = .str a := by
      rw [List.getElem?_map] at hy
      obtain ⟨a, h1, h2⟩ := Option.map_eq_some_iff.mp hy
      exact ⟨a, h1, h2.symm⟩
    have ht : pts.take (i + 1) = pts.take i ++ [a] := by
      rw [List.take_add_one, ha]
      rfl
    have hlen : (subsL (pts.take i)).length ≤ 256 := by
      rw [subs_len]
      exact Nat.le_trans (Nat.pow_le_pow_right (by decide : 0 < 2) (show (pts.take i).length ≤ 8 by rw [List.length_take]; omega)) (by decide)
    simp
    rw [lcG_eq (fun x => tL (x ++ [a])) fun x hx => by
      have h1 := (subs_sub hx).length_le
      rw [List.length_take] at h1
      rw [opR_add_tup (few_lit (by simp; omega))]
      simp]
    simp [show few (subsL (pts.take i)).length by unfold few; omega]
    rw [opR_add_lst (by unfold few; simp; omega)]
    simp [ht, subs_snoc]
  · rintro σ h' ⟨rfl, s2, s3, rfl⟩
    have hall : pts.take (pts.map D.str).length = pts := by rw [List.length_map, List.take_length]
    rw [hall]
    have e : bltR .sorted [.lst ((subsL pts).map tL)] = R.pure (.lst ((lotsB pts).map tL)) := by rw [blt_sorted_tL, sort_subs hasc]
    have e : bltR .sorted [.lst ((subsL pts).map fun l => D.tup (l.map .str))] = R.pure (.lst ((lotsB pts).map tL)) := e
    simp [e]
/-- those of some rows whose measure lies in no greater one -/
def topsL {α : Type} (f : α → Nat) (ls : List α) : List α := ls.filter fun l => decide (∀ m ∈ ls, f l &&& f m = f l → f m = f l)
theorem topsL_mem {α : Type} {f : α → Nat} {ls : List α} {l : α} : l ∈ topsL f ls ↔ l ∈ ls ∧ ∀ m ∈ ls, f l &&& f m = f l → f m = f l := by
  unfold topsL
  rw [List.mem_filter, decide_eq_true_iff]
theorem nat_int {a b : Nat} : (a : Int) = (b : Int) ↔ a = b := by omega
theorem law_tops_eq (k : Nat) {fr ls : List (List Str)} (f : List Str → Nat) (hs : ∀ l ∈ ls, l ∈ fr) (hl : ls.length ≤ 1000) : C (k + 1) i__law_tops [.lst (ls.map tL), .dct true (fr.map fun l => (tL l, .int ((f l : Nat) : Int)))] = R.pure (.lst ((topsL f ls).map tL)) := by
  have hfew : few ls.length := by unfold few; omega
  have look : ∀ l ∈ ls, lookD (.tup (l.map .str)) (fr.map fun l => (D.tup (l.map .str), D.int ((f l : Nat) : Int))) = some (.int ((f l : Nat) : Int)) := fun l h => lookD_tL (fun l => .int ((f l : Nat) : Int)) (hs l h)
  have e1 : lcG (fun x : List Str => R.bind (R.ofOpt (lookD (D.tup (x.map .str)) (fr.map fun l => (D.tup (l.map .str), D.int ((f l : Nat) : Int))))) fun y => R.pure (some y)) ls = R.pure (ls.map fun l => D.int ((f l : Nat) : Int)) := lcG_eq (fun l => D.int ((f l : Nat) : Int)) fun x hx => by rw [look x hx]; rfl
  obtain ⟨m, hm, hmn, hm2⟩ := sset_I (ls.map fun l => ((f l : Nat) : Int)) (by simp; omega)
  have hm : bltR .sortedSet [.lst (ls.map fun l => D.int ((f l : Nat) : Int))] = R.pure (.lst (m.map .int)) := by
    rw [← hm, List.map_map]
    rfl
  have hmlen : few m.length := by
    have := nodup_sub_len hmn fun x hx => (hm2 x).mp hx
    simp at this
    unfold few
    omega
  rw [c__law_tops]
  simp [n__law_tops, e1, hfew, hm, hmlen]
  rw [lcG_flt (fun l : List Str => decide (∀ m ∈ ls, f l &&& f m = f l → f m = f l)) (fun l => tL l) fun x hx => by
    rw [look x hx]
    simp
    have key : ((f x : Int) ∈ m ∧ anyB (fun x_1 => if (f x : Int) = x_1 then !((f x : Int) == x_1) else Builtin.bitAnd (f x : Int) x_1 == (f x : Int)) m = false) ↔ ∀ q ∈ ls, f x &&& f q = f x → f q = f x := by
      constructor
      · rintro ⟨_, h⟩ q hq e
        have hqm : (f q : Int) ∈ m := (hm2 _).mpr (List.mem_map.mpr ⟨q, hq, rfl⟩)
        by_cases e2 : f q = f x
        · exact e2
        · exfalso
          have : anyB (fun x_1 => if (f x : Int) = x_1 then !((f x : Int) == x_1) else Builtin.bitAnd (f x : Int) x_1 == (f x : Int)) m = true := by
            refine anyB_iff.mpr ⟨_, hqm, ?_⟩
            rw [if_neg (fun z => e2 (nat_int.mp z).symm), band_nat, e]
            simp
          rw [h] at this
          cases this
      · intro h
        refine ⟨(hm2 _).mpr (List.mem_map.mpr ⟨x, hx, rfl⟩), ?_⟩
        cases e : anyB (fun x_1 => if (f x : Int) = x_1 then !((f x : Int) == x_1) else Builtin.bitAnd (f x : Int) x_1 == (f x : Int)) m with
        | false => rfl
        | true =>
          obtain ⟨y, hy, h2⟩ := anyB_iff.mp e
          obtain ⟨q, hq, rfl⟩ := List.mem_map.mp ((hm2 _).mp hy)
          by_cases e3 : f x = f q
          · rw [if_pos (nat_int.mpr e3), e3] at h2
            simp at h2
          · rw [if_neg (fun z => e3 (nat_int.mp z)), band_nat, beq_iff_eq] at h2
            exact absurd (h q hq (nat_int.mp h2)).symm e3
    by_cases hk : ∀ q ∈ ls, f x &&& f q = f x → f q = f x
    · rw [if_pos (key.mpr hk), if_pos hk]
    · rw [if_neg (fun z => hk (key.mp z)), if_neg hk]]
  have hf2 : few (topsL f ls).length := few_le hfew (List.length_filter_le _ _)
  unfold topsL at hf2 ⊢
  simp [hf2]

theorem hitL_in {n : Net} (g : GNet n) {l : List Str} {p : Str} (h : p ∈ hitL n l) : p ∈ n.1 := by
  unfold hitL at h
  obtain ⟨q, hq, rfl⟩ := List.mem_map.mp h
  exact (g.ends q (List.mem_filter.mp hq).1).2
/-- the points of a lot and what it hits, ascending -/
def rngL (n : Net) (l : List Str) : List Str := n.1.filter fun p => decide (p ∈ l) || decide (p ∈ hitL n l)
theorem rngL_mem {n : Net} (g : GNet n) {l : List Str} (hl : ∀ p ∈ l, p ∈ n.1) {p : Str} : p ∈ rngL n l ↔ p ∈ l ∨ p ∈ hitL n l := by
  unfold rngL
  rw [List.mem_filter, Bool.or_eq_true, decide_eq_true_iff, decide_eq_true_iff]
  exact ⟨fun h => h.2, fun h => ⟨h.elim (hl p) (hitL_in g), h⟩⟩
theorem law_reach_tL (k : Nat) {n : Net} (g : GNet n) {l : List Str} (hl : ∀ p ∈ l, p ∈ n.1) (hlen : l.length ≤ 1000) : C (k + 2) i__law_reach [nD n, tL l] = R.pure (tL (rngL n l)) := by
  rw [law_reach_eq k g l hlen]
  rw [sset_strs (m := rngL n l) (g.asc.filter _) fun x => by rw [rngL_mem g hl, List.mem_append]]
theorem blt_sum_map {α : Type} (f : α → Int) (xs : List α) : bltR .sum [.lst (xs.map fun x => .int (f x))] = R.pure (.int (xs.map f).sum) := by
  rw [← blt_sum_int, List.map_map]
  rfl
def freeL (n : Net) : List (List Str) := (lotsB n.1).filter fun l => decide (∀ p ∈ l, p ∉ hitL n l)
def goodL (n : Net) : List (List Str) := (freeL n).filter fun l => decide (∀ p ∈ l, p ∈ heldL n l)
def wholeL (n : Net) : List (List Str) := (goodL n).filter fun l => decide ((heldL n l).length = l.length)
def stabL (n : Net) : List (List Str) := (freeL n).filter fun l => decide (maskL n.1 (rngL n l) = maskL n.1 n.1)
def underL (ls ms : List (List Str)) : List (List Str) := ls.filter fun l => decide (∀ m ∈ ms, ∀ p ∈ l, p ∈ m)
def lotsL (n : Net) (x : Str) : List (List Str) :=
  if x = "free" then freeL n
  else if x = "naive" then topsL (maskL n.1) (freeL n)
  else if x = "stage" then topsL (fun l => maskL n.1 (rngL n l)) (freeL n)
  else if x = "stable" then stabL n
  else if x = "admissible" then goodL n
  else if x = "preferred" then topsL (maskL n.1) (goodL n)
  else if x = "semistable" then topsL (fun l => maskL n.1 (rngL n l)) (goodL n)
  else if x = "ideal" then topsL (maskL n.1) (underL (goodL n) (topsL (maskL n.1) (goodL n)))
  else if x = "complete" then wholeL n
  else underL (wholeL n) (wholeL n)
theorem freeL_sub {n : Net} {l : List Str} (h : l ∈ freeL n) : l.Sublist n.1 := lotsB_mem.mp (List.mem_filter.mp h).1
theorem goodL_sub {n : Net} {l : List Str} (h : l ∈ goodL n) : l ∈ freeL n := (List.mem_filter.mp h).1
theorem wholeL_sub {n : Net} {l : List Str} (h : l ∈ wholeL n) : l ∈ goodL n := (List.mem_filter.mp h).1
theorem underL_sub {ls ms : List (List Str)} {l : List Str} (h : l ∈ underL ls ms) : l ∈ ls := (List.mem_filter.mp h).1
theorem topsL_sub {α : Type} {f : α → Nat} {ls : List α} {l : α} (h : l ∈ topsL f ls) : l ∈ ls := (List.mem_filter.mp h).1
theorem law_lots_eq (k : Nat) {n : Net} (g : GNet n) (hp : n.1.length ≤ 8) (x : Str) : C (k + 4) i__law_lots [nD n, .str x] = R.pure (.lst ((lotsL n x).map tL)) := by
  have hB : (lotsB n.1).length ≤ 256 := by
    rw [lotsB_len]
    exact Nat.le_trans (Nat.pow_le_pow_right (by decide : 0 < 2) hp) (by decide)
  have hF : (freeL n).length ≤ 256 := Nat.le_trans (List.length_filter_le _ _) hB
  have hG : (goodL n).length ≤ 256 := Nat.le_trans (List.length_filter_le _ _) hF
  have hW : (wholeL n).length ≤ 256 := Nat.le_trans (List.length_filter_le _ _) hG
  have subl : ∀ l ∈ freeL n, (∀ p ∈ l, p ∈ n.1) ∧ l.length ≤ 8 ∧ l.Nodup := fun l hl => by
    have h := freeL_sub hl
    exact ⟨fun p hq => h.subset hq, Nat.le_trans h.length_le hp, (asc_nodup g.asc).sublist h⟩
  have fn : (freeL n).Nodup := (lotsB_nodup g.asc).sublist List.filter_sublist
  have f0 : freeL n ≠ [] := by
    intro z
    have : ([] : List Str) ∈ freeL n := by
      unfold freeL
      rw [List.mem_filter, lotsB_mem]
      exact ⟨List.nil_sublist _, by simp⟩
    rw [z] at this
    cases this
  have look : ∀ p ∈ n.1, lookD (.str p) (n.1.map fun p => (D.str p, D.int (wtP n.1 p))) = some (.int (wtP n.1 p)) := fun p h => lookD_str (fun p => .int (wtP n.1 p)) h
  have w := weights_eq (k + 2) (asc_nodup g.asc) (by omega : n.1.length ≤ 1000)
  have lb := law_lots_below_eq (k + 2) g.asc hp
  have sumw : ∀ {α : Type} (f : D → R α) (l : List Str), (∀ p ∈ l, p ∈ n.1) → l.Nodup → l.length ≤ 1000 → R.bind (lcG (fun x => R.bind (R.need (keyTk false x) (R.ofOpt (lookD x (n.1.map fun p => (D.str p, D.int (wtP n.1 p)))))) fun y => R.pure (some y)) (l.map D.str)) (fun a => R.bind (mkLst a) fun a => R.bind (bltR .sum [a]) f) = f (.int (maskL n.1 l)) := fun f l h1 h2 h3 => by
    rw [lcG_map, lcG_eq (fun p => D.int (wtP n.1 p)) fun p hp => by rw [keyTk_str, look p (h1 p hp)]; rfl, R.pure_bind, mkLst_few (by rw [List.length_map]; unfold few; omega), R.pure_bind, blt_sum_map, wt_sum (asc_nodup g.asc) h2 h1, R.pure_bind]
  have free := fun l (hl : l ∈ lotsB n.1) => law_is_free_eq (k + 1) g l (by have := (lotsB_mem.mp hl).length_le; unfold few; omega)
  have reach := fun l (hl : l ∈ freeL n) => law_reach_tL (k + 1) g (subl l hl).1 (by have := (subl l hl).2.1; omega)
  rw [c__law_lots]
  simp only [nD, tL, tP] at w lb free reach ⊢
  simp [n__law_lots, w, lb]
  rw [lcG_flt (fun l : List Str => decide (∀ p ∈ l, p ∉ hitL n l)) (fun l => tL l) fun l hl => by
    rw [free l hl]
    simp]
  rw [show ((lotsB n.1).filter fun l => decide (∀ p ∈ l, p ∉ hitL n l)) = freeL n from rfl]
  simp only [R.pure_bind]
  rw [mkLst_few (by rw [List.length_map]; unfold few; omega)]
  simp only [R.pure_bind, itemsVR_lst, lcG_map, tL]
  rw [lcG_eq (fun l : List Str => D.tup [tL l, .int (maskL n.1 l)]) fun l hl => by
    simp only [itemsVR_tup, R.pure_bind, R.bind_assoc]
    rw [sumw _ l (subl l hl).1 (subl l hl).2.2 (by have := (subl l hl).2.1; omega)]
    simp]
  simp only [R.pure_bind]
  rw [mkLst_few (by rw [List.length_map]; unfold few; omega)]
  simp only [R.pure_bind]
  rw [show bltR .dict [.lst ((freeL n).map fun l => D.tup [tL l, .int (maskL n.1 l)])] = R.pure (.dct true ((freeL n).map fun l => (tL l, .int (maskL n.1 l)))) by
    show R.ofOpt (dictV _) = _
    rw [dictV_tL fn f0 fun l => .int (maskL n.1 l)]
    rfl]
  simp only [R.pure_bind]
  rw [lcG_eq (fun l : List Str => D.tup [tL l, .int (maskL n.1 (rngL n l))]) fun l hl => by
    have h1 : ∀ p ∈ rngL n l, p ∈ n.1 := fun p hp => (List.mem_filter.mp hp).1
    have h2 : (rngL n l).length ≤ n.1.length := List.length_filter_le _ _
    have h3 : (rngL n l).Nodup := (asc_nodup g.asc).sublist List.filter_sublist
    rw [reach l hl]
    simp only [itemsVR_tup, R.pure_bind, R.bind_assoc]
    rw [sumw _ (rngL n l) h1 h3 (by omega)]
    simp]
  simp only [R.pure_bind]
  rw [mkLst_few (by rw [List.length_map]; unfold few; omega)]
  simp only [R.pure_bind]
  rw [show bltR .dict [.lst ((freeL n).map fun l => D.tup [tL l, .int (maskL n.1 (rngL n l))])] = R.pure (.dct true ((freeL n).map fun l => (tL l, .int (maskL n.1 (rngL n l))))) by
    show R.ofOpt (dictV _) = _
    rw [dictV_tL fn f0 fun l => .int (maskL n.1 (rngL n l))]
    rfl]
  simp only [R.pure_bind]
  have tops1 := fun (ls : List (List Str)) (h : ∀ l ∈ ls, l ∈ freeL n) (hl : ls.length ≤ 1000) => law_tops_eq (k + 2) (maskL n.1) h hl
  have tops2 := fun (ls : List (List Str)) (h : ∀ l ∈ ls, l ∈ freeL n) (hl : ls.length ≤ 1000) => law_tops_eq (k + 2) (fun l => maskL n.1 (rngL n l)) h hl
  have hHeld := fun l : List Str => law_held_by_eq (k + 1) g l
  have hWith := fun (l m : List Str) (h : few l.length) => law_within_eq (k + 2) l m h
  simp only [nD, tL, tP] at tops1 tops2 hHeld hWith ⊢
  unfold lotsL
  by_cases h1 : x = "free"
  · simp only [if_pos h1]
  simp only [if_neg h1]
  by_cases h2 : x = "naive"
  · simp only [if_pos h2]
    exact tops1 _ (fun _ h => h) (by omega)
  simp only [if_neg h2]
  by_cases h3 : x = "stage"
  · simp only [if_pos h3]
    exact tops2 _ (fun _ h => h) (by omega)
  simp only [if_neg h3]
  by_cases h4 : x = "stable"
  · simp only [if_pos h4]
    rw [lcG_flt (fun l : List Str => decide (maskL n.1 (rngL n l) = maskL n.1 n.1)) (fun l => tL l) fun l hl => by
      have e := fun {α : Type} (f : D → R α) => sumw f n.1 (fun _ h => h) (asc_nodup g.asc) (by omega)
      simp only [lcG_map, keyTk_str, R.need_true, R.bind_assoc, R.pure_bind] at e
      have lk : lookD (.tup (l.map .str)) ((freeL n).map fun l => (tL l, D.int (maskL n.1 (rngL n l)))) = some (.int (maskL n.1 (rngL n l))) := lookD_tL (fun l => .int (maskL n.1 (rngL n l))) hl
      simp only [ixR_dct, keyTk_tL, R.need_true, R.bind_assoc, R.pure_bind, lk, R.ofOpt_some]
      rw [e]
      simp [nat_int]]
    rw [show ((freeL n).filter fun l => decide (maskL n.1 (rngL n l) = maskL n.1 n.1)) = stabL n from rfl, R.pure_bind, mkLst_few (by rw [List.length_map]; exact few_le (show few 256 by unfold few; omega) (Nat.le_trans (List.length_filter_le _ _) hF))]
  simp only [if_neg h4]
  rw [lcG_flt (fun l : List Str => decide (∀ p ∈ l, p ∈ heldL n l)) (fun l => tL l) fun l hl => by
    simp only [hHeld, R.pure_bind, R.bind_assoc]
    rw [hWith l _ (by have := (subl l hl).2.1; unfold few; omega)]
    simp]
  rw [show ((freeL n).filter fun l => decide (∀ p ∈ l, p ∈ heldL n l)) = goodL n from rfl]
  simp only [R.pure_bind]
  rw [mkLst_few (by rw [List.length_map]; unfold few; omega)]
  simp only [R.pure_bind, itemsVR_lst, lcG_map]
  by_cases h5 : x = "admissible"
  · simp only [if_pos h5]
  simp only [if_neg h5]
  by_cases h6 : x = "preferred"
  · simp only [if_pos h6]
    exact tops1 _ (fun _ h => goodL_sub h) (by omega)
  simp only [if_neg h6]
  by_cases h7 : x = "semistable"
  · simp only [if_pos h7]
    exact tops2 _ (fun _ h => goodL_sub h) (by omega)
  simp only [if_neg h7]
  have allw : ∀ {α : Type} (f : D → R α) (l : List Str) (ms : List (List Str)), l.length ≤ 1000 → ms.length ≤ 1000 → R.bind (lcG (fun x => R.bind (C (k + 3) 25 [tL l, x]) fun y => R.pure (some y)) (ms.map tL)) (fun a => R.bind (mkLst a) fun a => R.bind (bltR .all [a]) f) = f (.bl (decide (∀ m ∈ ms, ∀ p ∈ l, p ∈ m))) := fun f l ms h1 h2 => by
    rw [lcG_map, lcG_eq (fun m => D.bl (decide (∀ p ∈ l, p ∈ m))) fun m _ => by rw [hWith l m (by unfold few; omega)]; rfl, R.pure_bind, mkLst_few (by rw [List.length_map]; unfold few; omega), R.pure_bind, blt_all_map, R.pure_bind]
    rw [allB_decG (P := fun m => ∀ p ∈ l, p ∈ m) fun _ => decide_eq_true_iff]
  by_cases h8 : x = "ideal"
  · simp only [if_pos h8]
    have e := tops1 (goodL n) (fun _ h => goodL_sub h) (by omega)
    have hT : (topsL (maskL n.1) (goodL n)).length ≤ 256 := Nat.le_trans (List.length_filter_le _ _) hG
    rw [e]
    simp only [R.pure_bind, itemsVR_lst]
    rw [lcG_flt (fun l : List Str => decide (∀ m ∈ topsL (maskL n.1) (goodL n), ∀ p ∈ l, p ∈ m)) (fun l => tL l) fun l hl => by
      simp only [R.pure_bind, R.bind_assoc]
      rw [allw _ l _ (by have := (subl l (goodL_sub hl)).2.1; omega) (by omega)]
      simp]
    rw [show ((goodL n).filter fun l => decide (∀ m ∈ topsL (maskL n.1) (goodL n), ∀ p ∈ l, p ∈ m)) = underL (goodL n) (topsL (maskL n.1) (goodL n)) from rfl]
    have hU : (underL (goodL n) (topsL (maskL n.1) (goodL n))).length ≤ 256 := Nat.le_trans (List.length_filter_le _ _) hG
    rw [R.pure_bind, mkLst_few (by rw [List.length_map]; unfold few; omega), R.pure_bind]
    exact tops1 _ (fun _ h => goodL_sub (underL_sub h)) (by omega)
  simp only [if_neg h8]
  rw [lcG_flt (fun l : List Str => decide ((heldL n l).length = l.length)) (fun l => tL l) fun l hl => by
    rw [hHeld]
    simp [nat_int]]
  rw [show ((goodL n).filter fun l => decide ((heldL n l).length = l.length)) = wholeL n from rfl]
  rw [R.pure_bind, mkLst_few (by rw [List.length_map]; unfold few; omega), R.pure_bind]
  by_cases h9 : x = "complete"
  · simp only [if_pos h9]
  simp only [if_neg h9, itemsVR_lst, R.pure_bind, lcG_map]
  rw [lcG_flt (fun l : List Str => decide (∀ m ∈ wholeL n, ∀ p ∈ l, p ∈ m)) (fun l => tL l) fun l hl => by
    have := fun {α : Type} (f : D → R α) => allw f l (wholeL n) (by have := (subl l (goodL_sub (wholeL_sub hl))).2.1; omega) (by omega)
    simp only [lcG_map] at this
    simp only [R.pure_bind, R.bind_assoc]
    rw [this]
    simp]
  rw [show ((wholeL n).filter fun l => decide (∀ m ∈ wholeL n, ∀ p ∈ l, p ∈ m)) = underL (wholeL n) (wholeL n) from rfl]
  rw [R.pure_bind, mkLst_few (by rw [List.length_map]; exact few_le (show few 256 by unfold few; omega) (Nat.le_trans (List.length_filter_le _ _) hW))]

theorem hitL_iff {n : Net} {l : List Str} {p : Str} : p ∈ hitL n l ↔ hitP (Rn n) l p := by
  unfold hitL hitP Rn
  rw [List.mem_map]
  constructor
  · rintro ⟨q, hq, rfl⟩
    obtain ⟨h1, h2⟩ := List.mem_filter.mp hq
    exact ⟨q.1, of_decide_eq_true h2, decide_eq_true h1⟩
  · rintro ⟨a, ha, e⟩
    exact ⟨(a, p), List.mem_filter.mpr ⟨of_decide_eq_true e, decide_eq_true ha⟩, rfl⟩
theorem free_iff {n : Net} {l : List Str} : (∀ p ∈ l, p ∉ hitL n l) ↔ freeP (Rn n) l := by
  unfold freeP
  simp only [hitL_iff]
theorem heldL_iff {n : Net} {l : List Str} {p : Str} : p ∈ heldL n l ↔ p ∈ n.1 ∧ heldP (Rn n) l p := by
  rw [heldL_mem]
  refine and_congr_right fun hp => ?_
  constructor
  · intro h a e
    exact hitL_iff.mp (h (a, p) (of_decide_eq_true e) rfl)
  · rintro h ⟨a, b⟩ hq rfl
    exact hitL_iff.mpr (h a (decide_eq_true hq))
theorem rn_ker {n : Net} (g : GNet n) (x : Str) (a b : Str) : Rn (kerN n x) a b = (decide (a ∈ n.1) && decide (b ∈ n.1) && inK (Rn n) (kindOf x) a b) := by
  rw [Bool.eq_iff_iff, Bool.and_eq_true, Bool.and_eq_true, decide_eq_true_iff, decide_eq_true_iff]
  unfold Rn
  rw [decide_eq_true_iff, kerN_mem]
  exact Iff.rfl
theorem inK_ends {n : Net} (g : GNet n) {s : Fin 5} {a b : Str} (e : inK (Rn n) s a b = true) : a ∈ n.1 ∧ b ∈ n.1 := by
  unfold inK at e
  split at e
  · rename_i h
    subst h
    exact g.ends _ (of_decide_eq_true e)
  · have key : ∀ (s : Fin 5) (ab ba la lb : Bool), krn s ab ba la lb = true → ab = true ∨ ba = true := by decide
    rcases key _ _ _ _ _ e with q | q
    · exact g.ends _ (of_decide_eq_true q)
    · exact (g.ends _ (of_decide_eq_true q)).symm
theorem rn_ker' {n : Net} (g : GNet n) (x : Str) : Rn (kerN n x) = inK (Rn n) (kindOf x) := by
  funext a b
  rw [rn_ker g x]
  cases e : inK (Rn n) (kindOf x) a b with
  | false => simp
  | true =>
    obtain ⟨h1, h2⟩ := inK_ends g e
    simp [h1, h2]
theorem ker_pts (n : Net) (x : Str) : (kerN n x).1 = n.1 := rfl
section
variable {n : Net} (g : GNet n) (x : Str)
include g
theorem freeL_ker : freeL (kerN n x) = freeL n := by
  unfold freeL
  rw [ker_pts]
  refine List.filter_congr fun l hl => decide_eq_decide.mpr ?_
  rw [free_iff, free_iff, rn_ker' g]
  exact free_krn _
theorem free_of {l : List Str} (h : l ∈ freeL n) : freeP (Rn n) l := free_iff.mp (of_decide_eq_true (List.mem_filter.mp h).2)
theorem rngL_ker {l : List Str} (hs : kindOf x = 1 ∨ kindOf x = 3 ∨ kindOf x = 4) (h : l ∈ freeL n) : rngL (kerN n x) l = rngL n l := by
  unfold rngL
  rw [ker_pts]
  refine List.filter_congr fun p hp => ?_
  congr 1
  refine decide_eq_decide.mpr ?_
  rw [hitL_iff, hitL_iff, rn_ker' g]
  exact hit_krn hs (free_of g h) p
theorem goodL_ker (hs : kindOf x = 3 ∨ kindOf x = 4) : goodL (kerN n x) = goodL n := by
  unfold goodL
  rw [freeL_ker g]
  refine List.filter_congr fun l hl => decide_eq_decide.mpr ?_
  have hf := free_of g hl
  have hsub := freeL_sub hl
  refine forall_congr' fun p => forall_congr' fun hp => ?_
  rw [heldL_iff, heldL_iff, rn_ker' g, ker_pts]
  refine and_congr_right fun _ => ?_
  rcases hs with e | e <;> rw [e]
  · exact held_krn3 hf p
  · exact held_krn4 hf hp
theorem heldL_ker {l : List Str} (hs : kindOf x = 3) (h : l ∈ freeL n) : heldL (kerN n x) l = heldL n l := by
  have key : ∀ m : Net, heldL m l = m.1.filter fun p => decide (p ∈ heldL m l) := fun m => by
    refine (List.filter_congr fun p hp => ?_)
    rw [Bool.eq_iff_iff, decide_eq_true_iff]
    unfold heldL
    rw [List.mem_filter]
    exact ⟨fun q => ⟨hp, q⟩, fun q => q.2⟩
  rw [key (kerN n x), key n, ker_pts]
  refine List.filter_congr fun p hp => decide_eq_decide.mpr ?_
  rw [heldL_iff, heldL_iff, rn_ker' g, ker_pts, hs]
  exact and_congr_right fun _ => held_krn3 (free_of g h) p
theorem wholeL_ker (hs : kindOf x = 3) : wholeL (kerN n x) = wholeL n := by
  unfold wholeL
  rw [goodL_ker g x (.inl hs)]
  refine List.filter_congr fun l hl => ?_
  rw [heldL_ker g x hs (goodL_sub hl)]
theorem topsL_congr {α : Type} {f h : α → Nat} {ls : List α} (e : ∀ l ∈ ls, f l = h l) : topsL f ls = topsL h ls := by
  unfold topsL
  refine List.filter_congr fun l hl => decide_eq_decide.mpr ?_
  rw [e l hl]
  exact forall_congr' fun m => forall_congr' fun hm => by rw [e m hm]
theorem whole_iff {l : List Str} : l ∈ wholeL n ↔ l.Sublist n.1 ∧ ComP n.1 (Rn n) l := by
  have hn := asc_nodup g.asc
  unfold wholeL goodL freeL
  rw [List.mem_filter, List.mem_filter, List.mem_filter, lotsB_mem, decide_eq_true_iff, decide_eq_true_iff, decide_eq_true_iff, free_iff]
  constructor
  · rintro ⟨⟨⟨h1, h2⟩, h3⟩, h4⟩
    refine ⟨h1, h2, fun p => ?_⟩
    have hs : (heldL n l).Sublist n.1 := List.filter_sublist
    have e : l = heldL n l := by
      have hl := hn.sublist h1
      have hh := hn.sublist hs
      refine sub_ext hn h1 hs fun p hp => ⟨h3 p, fun q => ?_⟩
      by_cases hc : p ∈ l
      · exact hc
      · exfalso
        have : (p :: l).Nodup := List.nodup_cons.mpr ⟨hc, hl⟩
        have := nodup_sub_len this (m := heldL n l) fun y hy => by
          rcases List.mem_cons.mp hy with rfl | hy
          · exact q
          · exact h3 y hy
        simp only [List.length_cons] at this
        omega
    rw [← heldL_iff]
    exact ⟨fun q => h3 p q, fun q => e ▸ q⟩
  · rintro ⟨h1, h2, h3⟩
    have h4 : ∀ p, p ∈ l ↔ p ∈ heldL n l := fun p => by rw [heldL_iff]; exact h3 p
    refine ⟨⟨⟨h1, h2⟩, fun p hp => (h4 p).mp hp⟩, ?_⟩
    have e : heldL n l = l := sub_ext hn List.filter_sublist h1 fun p _ => (h4 p).symm
    rw [e]
theorem under_iff {l : List Str} : l ∈ underL (wholeL n) (wholeL n) ↔ l.Sublist n.1 ∧ ∀ p, p ∈ l ↔ Grd n.1 (Rn n) p := by
  classical
  have he : ∀ a b, Rn n a b = true → a ∈ n.1 ∧ b ∈ n.1 := fun a b e => g.ends _ (of_decide_eq_true e)
  have hG : ∃ G ∈ lotsB n.1, ∀ p, p ∈ G ↔ Grd n.1 (Rn n) p := by
    refine ⟨n.1.filter fun p => decide (Grd n.1 (Rn n) p), lotsB_mem.mpr List.filter_sublist, fun p => ?_⟩
    rw [List.mem_filter, decide_eq_true_iff]
    refine ⟨fun h => h.2, fun h => ⟨?_, h⟩⟩
    obtain ⟨i, hi⟩ := h
    cases i with
    | zero => exact hi.elim
    | succ i => exact hi.1
  have key := @least_iff n.1 (Rn n) he (lotsB n.1) hG l
  unfold underL
  rw [List.mem_filter, decide_eq_true_iff, whole_iff g]
  constructor
  · rintro ⟨⟨h1, h2⟩, h3⟩
    exact ⟨h1, key.mp ⟨h2, fun M hM c => h3 M ((whole_iff g).mpr ⟨lotsB_mem.mp hM, c⟩)⟩⟩
  · rintro ⟨h1, h2⟩
    obtain ⟨c, h3⟩ := key.mpr h2
    exact ⟨⟨h1, c⟩, fun M hM => h3 M (lotsB_mem.mpr ((whole_iff g).mp hM).1) ((whole_iff g).mp hM).2⟩
end
theorem underL_whole_eq {n : Net} (g : GNet n) : ∃ P : List Str → Bool, underL (wholeL n) (wholeL n) = (lotsB n.1).filter P ∧ ∀ l, l.Sublist n.1 → (P l = true ↔ ∀ p, p ∈ l ↔ Grd n.1 (Rn n) p) := by
  refine ⟨fun l => decide (∀ p ∈ l, p ∉ hitL n l) && (decide (∀ p ∈ l, p ∈ heldL n l) && (decide ((heldL n l).length = l.length) && decide (∀ m ∈ wholeL n, ∀ p ∈ l, p ∈ m))), ?_, fun l hl => ?_⟩
  · have e : underL (wholeL n) (wholeL n) = ((((lotsB n.1).filter fun l => decide (∀ p ∈ l, p ∉ hitL n l)).filter fun l => decide (∀ p ∈ l, p ∈ heldL n l)).filter fun l => decide ((heldL n l).length = l.length)).filter fun l => decide (∀ m ∈ wholeL n, ∀ p ∈ l, p ∈ m) := rfl
    rw [e, List.filter_filter, List.filter_filter, List.filter_filter]
    refine List.filter_congr fun l _ => ?_
    generalize decide (∀ p ∈ l, p ∉ hitL n l) = a
    generalize decide (∀ p ∈ l, p ∈ heldL n l) = b
    generalize decide ((heldL n l).length = l.length) = c
    generalize decide (∀ m ∈ wholeL n, ∀ p ∈ l, p ∈ m) = d
    cases a <;> cases b <;> cases c <;> cases d <;> rfl
  · have h := @under_iff n g l
    have h2 : (l ∈ underL (wholeL n) (wholeL n)) ↔ (decide (∀ p ∈ l, p ∉ hitL n l) && (decide (∀ p ∈ l, p ∈ heldL n l) && (decide ((heldL n l).length = l.length) && decide (∀ m ∈ wholeL n, ∀ p ∈ l, p ∈ m)))) = true := by
      rw [Bool.and_eq_true, Bool.and_eq_true, Bool.and_eq_true]
      unfold underL
      rw [List.mem_filter]
      have e : l ∈ wholeL n ↔ (l ∈ lotsB n.1 ∧ decide (∀ p ∈ l, p ∉ hitL n l) = true) ∧ decide (∀ p ∈ l, p ∈ heldL n l) = true ∧ decide ((heldL n l).length = l.length) = true := by
        unfold wholeL goodL freeL
        rw [List.mem_filter, List.mem_filter, List.mem_filter, and_assoc]
      rw [e, lotsB_mem]
      exact ⟨fun ⟨⟨⟨_, a⟩, b, c⟩, d⟩ => ⟨a, b, c, d⟩, fun ⟨a, b, c, d⟩ => ⟨⟨⟨hl, a⟩, b, c⟩, d⟩⟩
    exact h2.symm.trans (h.trans ⟨fun q => q.2, fun q => ⟨hl, q⟩⟩)
theorem lotsL_ker {n : Net} (g : GNet n) (hp : n.1.length ≤ 30) {x : Str} (hx : x ∈ standardsL) : lotsL (kerN n x) x = lotsL n x := by
  have n1 : ¬ (Str.ofString "naive") = Str.ofString "free" := by decide +kernel
  unfold lotsL
  by_cases h1 : x = "free"
  · simp only [if_pos h1]
    exact freeL_ker g x
  simp only [if_neg h1]
  by_cases h2 : x = "naive"
  · simp only [if_pos h2]
    rw [freeL_ker g x, ker_pts]
  simp only [if_neg h2]
  have k0 : ∀ q : Prop, [Decidable q] → True := fun _ _ => trivial
  by_cases h3 : x = "stage"
  · simp only [if_pos h3]
    have hk : kindOf x = 1 := by rw [h3]; decide +kernel
    rw [freeL_ker g x, ker_pts]
    exact topsL_congr g fun l hl => by rw [rngL_ker g x (.inl hk) hl]
  simp only [if_neg h3]
  by_cases h4 : x = "stable"
  · simp only [if_pos h4]
    have hk : kindOf x = 1 := by rw [h4]; decide +kernel
    unfold stabL
    rw [freeL_ker g x, ker_pts]
    exact List.filter_congr fun l hl => by rw [rngL_ker g x (.inl hk) hl]
  simp only [if_neg h4]
  by_cases h9 : x = "complete"
  · have hk : kindOf x = 3 := by rw [h9]; decide +kernel
    have m1 : ¬ (Str.ofString "complete") = Str.ofString "admissible" := by decide +kernel
    have m2 : ¬ (Str.ofString "complete") = Str.ofString "preferred" := by decide +kernel
    have m3 : ¬ (Str.ofString "complete") = Str.ofString "semistable" := by decide +kernel
    have m4 : ¬ (Str.ofString "complete") = Str.ofString "ideal" := by decide +kernel
    have e := wholeL_ker g x hk
    rw [h9] at e ⊢
    simp only [if_neg m1, if_neg m2, if_neg m3, if_neg m4, if_true]
    exact e
  by_cases h10 : x = "grounded"
  · have hk : kindOf x = 2 := by rw [h10]; decide +kernel
    have m1 : ¬ (Str.ofString "grounded") = Str.ofString "admissible" := by decide +kernel
    have m2 : ¬ (Str.ofString "grounded") = Str.ofString "preferred" := by decide +kernel
    have m3 : ¬ (Str.ofString "grounded") = Str.ofString "semistable" := by decide +kernel
    have m4 : ¬ (Str.ofString "grounded") = Str.ofString "ideal" := by decide +kernel
    have m5 : ¬ (Str.ofString "grounded") = Str.ofString "complete" := by decide +kernel
    obtain ⟨P, e1, p1⟩ := underL_whole_eq (kerN_g g hp x)
    obtain ⟨P', e2, p2⟩ := underL_whole_eq g
    have e : underL (wholeL (kerN n x)) (wholeL (kerN n x)) = underL (wholeL n) (wholeL n) := by
      rw [e1, e2, ker_pts]
      refine List.filter_congr fun l hl => ?_
      have hl := lotsB_mem.mp hl
      rw [Bool.eq_iff_iff, p1 l hl, p2 l hl, rn_ker' g, ker_pts, hk]
      exact forall_congr' fun p => by rw [Grd_krn]
    rw [h10] at e ⊢
    simp only [if_neg m1, if_neg m2, if_neg m3, if_neg m4, if_neg m5]
    exact e
  have hk : kindOf x = 4 := by
    unfold kindOf
    rw [if_neg (fun z => z.elim h1 h2), if_neg (fun z => z.elim h4 h3), if_neg h10, if_neg h9]
  have eg := goodL_ker g x (.inr hk)
  by_cases h5 : x = "admissible"
  · simp only [if_pos h5]
    exact eg
  simp only [if_neg h5]
  by_cases h6 : x = "preferred"
  · simp only [if_pos h6]
    rw [eg, ker_pts]
  simp only [if_neg h6]
  by_cases h7 : x = "semistable"
  · simp only [if_pos h7]
    rw [eg, ker_pts]
    exact topsL_congr g fun l hl => by rw [rngL_ker g x (.inr (.inr hk)) (goodL_sub hl)]
  simp only [if_neg h7]
  by_cases h8 : x = "ideal"
  · simp only [if_pos h8]
    rw [eg, ker_pts]
  exfalso
  unfold standardsL at hx
  simp only [List.mem_cons, List.not_mem_nil, or_false] at hx
  rcases hx with h | h | h | h | h | h | h | h | h | h
  · exact h1 h
  · exact h2 h
  · exact h5 h
  · exact h9 h
  · exact h10 h
  · exact h6 h
  · exact h4 h
  · exact h7 h
  · exact h3 h
  · exact h8 h

def freshL : List Str := ["q", "qq", "qqq", "q0", "q1", "q2", "q3"]
theorem fresh_nodup : freshL.Nodup := by decide +kernel
theorem fresh_word : ∀ w ∈ freshL, isWordS w = true := by decide +kernel
theorem blt_sorted_tup (xs : List D) : bltR .sorted [.tup xs] = bltR .sorted [.lst xs] := (rfl)
theorem sort_ps {l : List (Str × Str)} (hn : l.Nodup) : ∃ m : List (Str × Str), bltR .sorted [.lst (l.map fun p => D.tup [.str p.1, .str p.2])] = R.pure (.lst (m.map fun p => D.tup [.str p.1, .str p.2])) ∧ (m.Pairwise fun x y => ltP x y = true) ∧ m.Perm l := by
  have e2 : sortR (l.map fun p => .tup [.str p.1, .str p.2]) = R.pure (.lst (sortD (l.map fun p => .tup [.str p.1, .str p.2]))) :=
    R.need_of (sameSort_P fun y hy => by obtain ⟨s, _, rfl⟩ := List.mem_map.mp hy; exact ⟨s, rfl⟩) _
  have hd := dedup_id (List.Pairwise.map (fun p : Str × Str => D.tup [.str p.1, .str p.2]) (fun a b h e => h (pD_inj.mp e)) hn) (leaf_pairs l)
  obtain ⟨m, h1, h2, h3⟩ := sset_pairs_ex l
  unfold sset at h1
  rw [hd] at h1
  refine ⟨m, e2.trans (by rw [h1]), h2, ?_⟩
  have nm : m.Nodup := h2.imp fun {a b} q e => by rw [e] at q; rw [ltP_enc, decide_eq_true_eq] at q; exact List.lt_irrefl _ q
  exact (List.perm_ext_iff_of_nodup nm hn).mpr h3
theorem ascP_nodup {l : List (Str × Str)} (h : l.Pairwise fun x y => ltP x y = true) : l.Nodup := h.imp fun {a b} q e => by rw [e] at q; rw [ltP_enc, decide_eq_true_eq] at q; exact List.lt_irrefl _ q
theorem near_wp (k n N : Nat) (hN : N + 20 < 1000000000) {nt : Net} (g : GNet nt) (hp : nt.1.length ≤ 6) (ha : nt.2.length ≤ 100) (h : Hs) (hs : Pool N n h) (Q : D → Hs → Prop) (q : ∀ m h', GNet m → m.1.length ≤ nt.1.length + 1 → m.2.length ≤ nt.2.length + 1 → Pool (N + 3) n h' → Q (nD m) h') : R.wp (C (k + 2) i__law_near_net [.obj n, nD nt]) Q h := by
  rw [c__law_near_net]
  simp [n__law_near_net]
  refine pull_wp k n N (by omega) 5 (by decide) (by decide) h hs _ fun r h hr hs => ?_
  simp
  have fp := g.few1
  have done : ∀ h', Pool (N + 1) n h' → Q (nD nt) h' := fun h' hs => q nt h' g (by omega) (by omega) (hs.mono (by omega))
  by_cases h0 : r = 0
  · rw [if_pos h0]
    have e1 : lcG (fun x => ((((inSeq x (List.map D.str nt.fst)).bind fun c => R.pure !c).bind fun c => R.pure (D.bl c)).bind fun d => (truthR d).bind fun c => R.pure (D.bl c)).bind fun d => iteR d (R.pure (some x)) (R.pure none)) (freshL.map D.str) = R.pure ((freshL.filter fun x => !decide (x ∈ nt.1)).map D.str) := by
      rw [lcG_map]
      simp
    have e1 : lcG (fun x => ((((inSeq x (List.map D.str nt.fst)).bind fun c => R.pure !c).bind fun c => R.pure (D.bl c)).bind fun d => (truthR d).bind fun c => R.pure (D.bl c)).bind fun d => iteR d (R.pure (some x)) (R.pure none)) [D.str (Str.ofString "q"), D.str (Str.ofString "qq"), D.str (Str.ofString "qqq"), D.str (Str.ofString "q0"), D.str (Str.ofString "q1"), D.str (Str.ofString "q2"), D.str (Str.ofString "q3")] = _ := e1
    rw [e1]
    obtain ⟨w, hw, hw2⟩ := missing freshL nt.1 fresh_nodup (by show nt.1.length < 7; omega)
    have hmem : w ∈ freshL.filter fun x => !decide (x ∈ nt.1) := List.mem_filter.mpr ⟨hw, by simp [hw2]⟩
    obtain ⟨c, cs, ec⟩ : ∃ c cs, (freshL.filter fun x => !decide (x ∈ nt.1)) = c :: cs := by
      cases e : (freshL.filter fun x => !decide (x ∈ nt.1)) with
      | nil => rw [e] at hmem; cases hmem
      | cons c cs => exact ⟨c, cs, rfl⟩
    have hc : c ∈ freshL ∧ c ∉ nt.1 := by
      have : c ∈ freshL.filter fun x => !decide (x ∈ nt.1) := by rw [ec]; simp
      obtain ⟨h1, h2⟩ := List.mem_filter.mp this
      exact ⟨h1, by simpa using h2⟩
    have hlen : (c :: cs).length ≤ 7 := by rw [← ec]; exact List.length_filter_le _ _
    rw [ec]
    simp only [R.wp_pure]
    rw [mkLst_few (by rw [List.length_map]; unfold few; omega)]
    simp only [R.wp_pure, List.map_cons, ixR_lst, atD_zero]
    rw [opR_add_tup (few_lit (by simp; omega))]
    simp only [R.wp_pure]
    obtain ⟨e2, m, hm1, hm2, hm3⟩ := sort_strs (l := nt.1 ++ [c]) (by
      rw [List.nodup_append]
      exact ⟨asc_nodup g.asc, by simp, fun a ha b hb e => hc.2 (by rw [List.mem_singleton] at hb; rw [← hb, ← e]; exact ha)⟩)
    rw [hm1] at e2
    rw [show bltR .sorted [.tup (nt.1.map D.str ++ [D.str c])] = R.pure (.lst (m.map D.str)) by
      rw [blt_sorted_tup, ← e2]
      simp]
    simp only [R.wp_pure, blt_tuple_lst]
    have hml : m.length = nt.1.length + 1 := by rw [hm3.length_eq]; simp
    have hmm : ∀ p, p ∈ m ↔ p ∈ nt.1 ∨ p = c := fun p => by rw [hm3.mem_iff]; simp
    refine q (m, nt.2) h ⟨fun w hw => ?_, hm2, fun p hp => ?_, g.ascP, ?_, g.fewA⟩ (by show m.length ≤ _; omega) (by show nt.2.length ≤ _; omega) (hs.mono (by omega))
    · rcases (hmm w).mp hw with z | z
      · exact g.word w z
      · rw [z]; exact fresh_word c hc.1
    · exact ⟨(hmm _).mpr (.inl (g.ends p hp).1), (hmm _).mpr (.inl (g.ends p hp).2)⟩
    · show m.length ≤ 1000
      omega
  rw [if_neg h0]
  by_cases h1 : (r : Int) = 1
  · rw [if_pos h1]
    exact done h hs
  rw [if_neg h1]
  have c1 : cmpOk (D.tup (nt.1.map D.str)) (D.tup []) = true := cmpOk_tL nt.1 []
  have c2 : eqAll (nt.1.map D.str) [] = decide (nt.1 = []) := eqAll_str nt.1 []
  rw [c1, c2]
  simp only [R.need_true, R.wp_pure, decide_eq_true_eq]
  by_cases h2 : nt.1 = []
  · rw [if_pos h2]
    exact done h hs
  rw [if_neg h2]
  have hpos : 0 < nt.1.length := List.length_pos_iff.mpr h2
  refine pull_wp k n (N + 1) (by omega) nt.1.length hpos (by omega) h hs _ fun i h hi hs => ?_
  have ei : atD (nt.1.map D.str) (i : Int) = R.pure (.str nt.1[i]) := atD_nat (by rw [List.getElem?_map, List.getElem?_eq_getElem hi]; rfl)
  simp only [ixR_tup, ei, R.wp_pure]
  refine pull_wp k n (N + 2) (by omega) nt.1.length hpos (by omega) h hs _ fun j h hj hs => ?_
  have ej : atD (nt.1.map D.str) (j : Int) = R.pure (.str nt.1[j]) := atD_nat (by rw [List.getElem?_map, List.getElem?_eq_getElem hj]; rfl)
  simp only [ixR_tup, ej, R.wp_pure]
  have mi : nt.1[i] ∈ nt.1 := List.getElem_mem hi
  have mj : nt.1[j] ∈ nt.1 := List.getElem_mem hj
  generalize nt.1[i] = a at mi ⊢
  generalize nt.1[j] = b at mj ⊢
  simp only [inSeq_pair, R.wp_pure, decide_eq_true_eq]
  by_cases h3 : (a, b) ∈ nt.2
  · rw [if_pos h3]
    rw [lcG_flt (fun x : Str × Str => decide (x ≠ (a, b))) (fun x => D.tup [.str x.1, .str x.2]) fun x _ => by
      have : cmpOk (D.tup [D.str x.1, D.str x.2]) (D.tup [D.str a, D.str b]) = true := cmpOk_pl (by simp) (by simp) (by simp)
      rw [this]
      obtain ⟨u, v⟩ := x
      by_cases hu : u = a <;> by_cases hv : v = b <;> simp [hu, hv]]
    simp only [R.wp_pure]
    have hl := List.length_filter_le (fun x : Str × Str => decide (x ≠ (a, b))) nt.2
    rw [mkLst_few (by rw [List.length_map]; unfold few; omega)]
    simp only [R.wp_pure, blt_tuple_lst]
    exact q (nt.1, nt.2.filter fun x => decide (x ≠ (a, b))) h ⟨g.word, g.asc, fun p hp => g.ends p (List.mem_filter.mp hp).1, g.ascP.filter _, g.fewP, by show (nt.2.filter _).length ≤ 1000; omega⟩ (by show nt.1.length ≤ _; omega) (by show (nt.2.filter _).length ≤ _; omega) hs
  · rw [if_neg h3]
    rw [opR_add_tup (few_lit (by simp; omega))]
    simp only [R.wp_pure]
    obtain ⟨m, hm1, hm2, hm3⟩ := sort_ps (l := nt.2 ++ [(a, b)]) (by
      rw [List.nodup_append]
      exact ⟨ascP_nodup g.ascP, by simp, fun x hx y hy e => h3 (by rw [List.mem_singleton] at hy; rw [← hy, ← e]; exact hx)⟩)
    rw [show bltR .sorted [.tup (nt.2.map (fun p => D.tup [D.str p.1, D.str p.2]) ++ [D.tup [D.str a, D.str b]])] = R.pure (.lst (m.map fun p => D.tup [.str p.1, .str p.2])) by
      rw [blt_sorted_tup, ← hm1]
      simp]
    simp only [R.wp_pure, blt_tuple_lst]
    have hml : m.length = nt.2.length + 1 := by rw [hm3.length_eq]; simp
    refine q (nt.1, m) h ⟨g.word, g.asc, fun p hp => ?_, hm2, g.fewP, by show m.length ≤ 1000; omega⟩ (by show nt.1.length ≤ _; omega) (by show m.length ≤ _; omega) hs
    rcases List.mem_append.mp (hm3.mem_iff.mp hp) with z | z
    · exact g.ends p z
    · rw [List.mem_singleton.mp z]; exact ⟨mi, mj⟩
/-! ### two nets together -/
theorem both_ex {n m : Net} (g : GNet n) (g2 : GNet m) (hp : n.1.length + m.1.length ≤ 1000) (ha : n.2.length + m.2.length ≤ 1000) : ∃ b : Net, bothD n m = nD b ∧ GNet b ∧ (∀ p, p ∈ b.1 ↔ p ∈ n.1 ∨ p ∈ m.1) ∧ (∀ p, p ∈ b.2 ↔ p ∈ n.2 ∨ p ∈ m.2) ∧ b.1.length ≤ n.1.length + m.1.length ∧ b.2.length ≤ n.2.length + m.2.length := by
  obtain ⟨ps, p1, p2, p3⟩ := sset_strs_ex (n.1 ++ m.1)
  obtain ⟨as, a1, a2, a3⟩ := sset_pairs_ex (n.2 ++ m.2)
  have hp3 : ∀ p, p ∈ ps ↔ p ∈ n.1 ∨ p ∈ m.1 := fun p => by rw [p3, List.mem_append]
  have ha3 : ∀ p, p ∈ as ↔ p ∈ n.2 ∨ p ∈ m.2 := fun p => by rw [a3, List.mem_append]
  have l1 : ps.length ≤ n.1.length + m.1.length := by
    have := nodup_sub_len (asc_nodup p2) fun x hx => (p3 x).mp hx
    simpa using this
  have l2 : as.length ≤ n.2.length + m.2.length := by
    have := nodup_sub_len (ascP_nodup a2) fun x hx => (a3 x).mp hx
    simpa using this
  refine ⟨(ps, as), ?_, ⟨fun w hw => ?_, p2, fun p hp => ?_, a2, by show ps.length ≤ 1000; omega, by show as.length ≤ 1000; omega⟩, hp3, ha3, l1, l2⟩
  · unfold bothD
    rw [p1, a1]
  · exact ((hp3 w).mp hw).elim (g.word w) (g2.word w)
  · rcases (ha3 p).mp hp with z | z
    · exact ⟨(hp3 _).mpr (.inl (g.ends p z).1), (hp3 _).mpr (.inl (g.ends p z).2)⟩
    · exact ⟨(hp3 _).mpr (.inr (g2.ends p z).1), (hp3 _).mpr (.inr (g2.ends p z).2)⟩
theorem strs_ext {l m : List Str} (hl : l.Pairwise fun x y => ltS x y = true) (hm : m.Pairwise fun x y => ltS x y = true) (h : ∀ x, x ∈ l ↔ x ∈ m) : l = m := by
  have e := asc_sub hm hl fun p hp => (h p).mp hp
  exact sub_ext (asc_nodup hm) e (List.Sublist.refl _) fun p _ => h p
theorem kerN_of {n m : Net} {x : Str} (h1 : n.1 = m.1) (h2 : ∀ a b, inK (Rn n) (kindOf x) a b = inK (Rn m) (kindOf x) a b) : kerN n x = kerN m x := by
  unfold kerN
  rw [h1]
  refine Prod.ext rfl (List.filter_congr fun p _ => h2 _ _)
theorem kerN_idem {n : Net} (g : GNet n) (x : Str) : kerN (kerN n x) x = kerN n x := kerN_of rfl fun a b => by
  rw [rn_ker' g]
  exact inK_idem _ _ _ _
theorem kerN_both {a b t ab bb : Net} (ga : GNet a) (gb : GNet b) (gab : GNet ab) (gbb : GNet bb) (p1 : ∀ p, p ∈ ab.1 ↔ p ∈ a.1 ∨ p ∈ t.1) (p2 : ∀ p, p ∈ bb.1 ↔ p ∈ b.1 ∨ p ∈ t.1) (q1 : ∀ p, p ∈ ab.2 ↔ p ∈ a.2 ∨ p ∈ t.2) (q2 : ∀ p, p ∈ bb.2 ↔ p ∈ b.2 ∨ p ∈ t.2) {x : Str} (h : kerN a x = kerN b x) : kerN ab x = kerN bb x := by
  have e0 : (kerN a x).1 = (kerN b x).1 := by rw [h]
  have e1 : a.1 = b.1 := e0
  have e2 : ∀ u v, inK (Rn a) (kindOf x) u v = inK (Rn b) (kindOf x) u v := fun u v => by
    rw [← rn_ker' ga, ← rn_ker' gb, h]
  refine kerN_of (strs_ext gab.asc gbb.asc fun p => by rw [p1, p2, e1]) fun u v => ?_
  have r1 : Rn ab = fun u v => Rn a u v || Rn t u v := by
    funext u v
    unfold Rn
    rw [Bool.eq_iff_iff, Bool.or_eq_true, decide_eq_true_iff, decide_eq_true_iff, decide_eq_true_iff]
    exact q1 _
  have r2 : Rn bb = fun u v => Rn b u v || Rn t u v := by
    funext u v
    unfold Rn
    rw [Bool.eq_iff_iff, Bool.or_eq_true, decide_eq_true_iff, decide_eq_true_iff, decide_eq_true_iff]
    exact q2 _
  rw [r1, r2]
  exact inK_join e2 u v

theorem fine_net1 {n : Net} (g : GNet n) : fineD (.lst [nD n]) = true := by rw [fineD_lst]; simp only [fineAll_cons, fineAll_nil, g.fine]; rfl
theorem dep_nD3 (n : Net) : (nD n).dep ≤ 3 := by
  show (D.tup [tL n.1, tP n.2]).dep ≤ 3
  have e1 := depAll_strs n.1
  have e2 := depAll_pairs n.2
  simp
  omega
theorem st_fine {x : Str} (h : x ∈ standardsL) : fineD (.str x) = true := by
  have : ∀ x ∈ standardsL, fineD (.str x) = true := by decide +kernel
  exact this x h
theorem same_at (k : Nat) (d : D) (h : fineD d = true) (hd : d.dep ≤ 6) : C (k + 7) i__law_same [d, d] = R.pure (.bl true) := same_eq (k + 6) d h (by omega)
theorem looked_wp (k n N : Nat) (hN : N + 20 < 1000000000) {a b t : Net} (ga : GNet a) (gb : GNet b) (gt : GNet t) (ha : a.1.length ≤ 5) (ha2 : a.2.length ≤ 30) (hb : b.1.length ≤ 6) (hb2 : b.2.length ≤ 30) (ht : t.1.length ≤ 2) (ht2 : t.2.length ≤ 4) (h : Hs) (hs : Pool N n h) (Q : D → Hs → Prop) (q : ∀ h', Pool (N + 1) n h' → Q (.bl true) h') : R.wp (C (k + 9) i__law_looked [.obj n, nD a, nD b, nD t]) Q h := by
  obtain ⟨ab, eab, gab, pab, qab, lab, lab2⟩ := both_ex ga gt (by omega) (by omega)
  obtain ⟨bb, ebb, gbb, pbb, qbb, lbb, lbb2⟩ := both_ex gb gt (by omega) (by omega)
  have hd1 : (dedup ((a.2 ++ t.2).map fun p => D.tup [.str p.1, .str p.2])).length ≤ 75 := Nat.le_trans (dedup_len _) (by simp; omega)
  have hd2 : (dedup ((b.2 ++ t.2).map fun p => D.tup [.str p.1, .str p.2])).length ≤ 75 := Nat.le_trans (dedup_len _) (by simp; omega)
  have b1 := law_both_eq (k + 7) ga gt hd1
  have b2 := law_both_eq (k + 7) gb gt hd2
  rw [eab] at b1
  rw [ebb] at b2
  rw [c__law_looked]
  simp [n__law_looked, law_standards_eq]
  refine S.wp_for (fun r σ h => Pool N n h ∧ (∀ v ∈ r, ∃ x ∈ standardsL, v = .str x) ∧ ∃ s4 s5 s6 s7 s8, σ = [.val (.obj n), .val (nD a), .val (nD b), .val (nD t), s4, s5, s6, s7, s8]) ⟨hs, fun v hv => ?_, _, _, _, _, _, rfl⟩ ?_ ?_
  · obtain ⟨x, hx, rfl⟩ := List.mem_map.mp hv
    exact ⟨x, hx, rfl⟩
  · rintro v r σ h ⟨hs, hr, s4, s5, s6, s7, s8, rfl⟩
    obtain ⟨x, hx, rfl⟩ := hr v (by simp)
    have hf := st_fine hx
    have e1 := law_kernel_eq (k + 7) ga (by omega) x
    have e2 := law_kernel_eq (k + 7) gb (by omega) x
    have gk := kerN_g ga (by omega) x
    have e3 := told0_ok (k + 2) ga hx hf .non
    have e4 := told0_ok (k + 2) gk hx hf .non
    have e5 := told1_ok (k + 2) ga gb (by omega) (by omega) hx hf
    have e6 := told1_ok (k + 2) gab gbb (by omega) (by omega) hx hf
    rw [kerN_idem ga] at e4
    have ec : cmpOk (nD (kerN a x)) (nD (kerN b x)) = true := cmpOk_pl (plain_nD _) (plain_nD _) (dep_nD _)
    have ee := @nD_inj (kerN a x) (kerN b x)
    have es := same_at (k + 1) (.lst [.lst [nD (kerN a x)], .lst [nD (kerN a x)], .lst [.bl (decide (kerN a x = kerN b x))]]) (by
      rw [fineD_lst]; simp only [fineAll_cons, fineAll_nil, fine_net1 gk]; rfl) (by
      have := dep_nD3 (kerN a x)
      rw [dep_lst, depAll_cons, depAll_cons, depAll_cons, depAll_nil, dep_lst, dep_lst, depAll_cons, depAll_cons, depAll_nil, dep_bl]
      omega)
    have es2 := same_at (k + 1) (.lst [.bl true]) (by rfl) (by decide)
    have ew : kerN a x = kerN b x → kerN ab x = kerN bb x := fun z => kerN_both ga gb gab gbb pab pbb qab qbb z
    have hsame : kerN a x = kerN b x → nD (kerN ab x) = nD (kerN bb x) := fun z => by rw [ew z]
    generalize hq : decide (kerN a x = kerN b x) = dq at *
    have hq2 : decide (kerN ab x = kerN bb x) = true ∨ dq = false := by
      cases dq with
      | true => exact .inl (decide_eq_true (ew (of_decide_eq_true hq)))
      | false => exact .inr rfl
    generalize decide (kerN ab x = kerN bb x) = dr at *
    clear ew hsame
    generalize nD (kerN a x) = ka at *
    generalize nD (kerN b x) = kb at *
    generalize nD ab = AB at *
    generalize nD bb = BB at *
    generalize nD a = A at *
    generalize nD b = B at *
    generalize nD t = T at *
    have es : C (k + 8) i__law_same _ = _ := es
    have es2 : C (k + 8) i__law_same _ = _ := es2
    simp [e1, e2, e3, e4, e5, e6, ec, ee, es, b1, b2, S.wp_ite]
    cases dq with
    | false =>
      simp
      exact ⟨hs, fun v hv => hr v (List.mem_cons_of_mem _ hv)⟩
    | true =>
      have : dr = true := hq2.resolve_right (by simp)
      subst this
      simp [es2]
      exact ⟨hs, fun v hv => hr v (List.mem_cons_of_mem _ hv)⟩
  · rintro σ h ⟨hs, _, s4, s5, s6, s7, s8, rfl⟩
    simp [law_standards_eq]
    refine pull_wp (k + 7) n N (by omega) 10 (by decide) (by decide) h hs _ fun r h hr hs => ?_
    obtain ⟨d, hd, e⟩ := atD_lt (xs := standardsL.map D.str) (r := r) hr
    obtain ⟨x, hx, rfl⟩ := List.mem_map.mp hd
    have e1 := law_lots_eq (k + 4) ga (by omega) x
    have e2 := law_kernel_eq (k + 7) ga (by omega) x
    have e3 := law_lots_eq (k + 4) (kerN_g ga (by omega) x) (by show a.1.length ≤ 8; omega) x
    rw [lotsL_ker ga (by omega) hx] at e3
    have ep : (D.lst ((lotsL a x).map tL)).plain = true := by rw [plain_lst]; exact plainAll_tL _
    have ed : (D.lst ((lotsL a x).map tL)).dep ≤ 40 := by
      rw [dep_lst]
      have : depAll ((lotsL a x).map tL) ≤ 1 := depAll_le.mpr fun d hd => by
        obtain ⟨l, _, rfl⟩ := List.mem_map.mp hd
        rw [dep_tL]
        exact Nat.le_refl _
      omega
    have ec := cmpOk_pl ep ep ed
    have er := eqD_refl ep
    generalize D.lst ((lotsL a x).map tL) = L at *
    generalize nD (kerN a x) = ka at *
    simp only [nD, tL, tP] at e1 e2 e3
    simp [e, e1, e2, e3, ec, er]
    exact q h hs


theorem both_told (k : Nat) {a b : Net} (ga : GNet a) (gb : GNet b) (ha2 : a.2.length ≤ 30) (hb2 : b.2.length ≤ 30) (hp : a.1.length ≤ 10) (hp2 : b.1.length ≤ 10) :
    ∃ d : D, C (k + 7) i__law_told [.int 2, nD a, nD b, .non] = R.pure (.lst [d]) ∧ C (k + 7) i__law_both [nD a, nD b] = R.pure d ∧ fineD d = true ∧ d.dep ≤ 3 := by
  have hd : (dedup ((a.2 ++ b.2).map fun p => D.tup [.str p.1, .str p.2])).length ≤ 75 := Nat.le_trans (dedup_len _) (by simp; omega)
  obtain ⟨ab, e, g, _⟩ := both_ex ga gb (by omega) (by omega)
  refine ⟨nD ab, ?_, ?_, g.fine, dep_nD3 ab⟩
  · rw [← e]
    exact told2_ok (k + 1) ga gb hd .non
  · rw [← e]
    exact law_both_eq (k + 6) ga gb hd
def law_fuel : Nat := 11
theorem maxmin (m : Nat) : ∃ q : Nat, 1 ≤ q ∧ q ≤ 6 ∧ bltR .min [.int (m : Int), .int 6] = R.pure (.int (if (6 : Int) < m then 6 else m)) ∧ bltR .max [.int 1, .int (if (6 : Int) < m then 6 else m)] = R.pure (.int (q : Int)) := by
  by_cases h : (6 : Int) < m
  · refine ⟨6, by omega, by omega, rfl, ?_⟩
    rw [if_pos h]
    rfl
  · rw [if_neg h]
    by_cases h2 : m = 0
    · subst h2
      refine ⟨1, by omega, by omega, ?_, rfl⟩
      rfl
    · refine ⟨m, by omega, by omega, ?_, ?_⟩
      · show R.pure (D.int (if (6 : Int) < m then 6 else m)) = _
        rw [if_neg h]
      · show R.pure (D.int (if (m : Int) > 1 then (m : Int) else 1)) = _
        by_cases h3 : (m : Int) > 1
        · rw [if_pos h3]
        · rw [if_neg h3]
          have : m = 1 := by omega
          rw [this]
          rfl
theorem law_wp (k : Nat) (ns : List Int) (hl : ns.length ≤ 63) (hb : ∀ z ∈ ns, Builtin.Int.intBits z ≤ 1048576) (h : Hs) : R.wp (C (k + law_fuel) i_law [.ro (ns.map .int)]) (fun v _ => v = .bl true) h := by
  obtain ⟨q, hq1, hq2, e1, e2⟩ := maxmin ns.length
  unfold law_fuel
  rw [c_law]
  simp [n_law]
  rw [e1]
  simp only [R.wp_pure]
  rw [e2]
  simp only [R.wp_pure]
  rw [rng0_eq (few_lit (by omega))]
  simp only [R.wp_pure]
  refine S.wp_forN (fun i σ h => ∃ s1 s2 s3 s4 s5 s6 s7, σ = [.val (.ro (ns.map .int)), s1, s2, s3, s4, s5, s6, s7]) ⟨_, _, _, _, _, _, _, rfl⟩ ?_ ?_
  · rintro i x σ h hx ⟨s1, s2, s3, s4, s5, s6, s7, rfl⟩
    have hi : i < q := by
      have := (List.getElem?_eq_some_iff.mp hx).1
      simpa using this
    rw [List.getElem?_map, List.getElem?_range hi] at hx
    cases hx
    try simp
    refine pool_wp (k + 9) ns hl i (by omega) h _ fun h1 hs => ?_
    generalize h.length = p at hs
    refine pull_wp (k + 9) p i (by omega) 6 (by decide) (by decide) h1 hs _ fun r h2 hr hs => ?_
    try simp
    refine net_wp (k + 7) p (i + 1) r (by omega) (by omega) h2 hs _ fun a h3 ga gal gaq gaa hs => ?_
    have haa : a.2.length ≤ 25 := Nat.le_trans gaa (Nat.mul_le_mul (by omega : r ≤ 5) (by omega : r ≤ 5))
    try simp
    refine near_wp (k + 8) p (i + 1 + 300) (by omega) ga (by omega) (by omega) h3 hs _ fun b h4 gb hbl hba hs => ?_
    try simp
    refine pull_wp (k + 9) p (i + 1 + 300 + 3) (by omega) 3 (by decide) (by decide) h4 hs _ fun r2 h5 hr2 hs => ?_
    try simp
    refine net_wp (k + 7) p (i + 1 + 300 + 3 + 1) r2 (by omega) (by omega) h5 hs _ fun t h6 gt gtl gtq gta hs => ?_
    have hta : t.2.length ≤ 4 := Nat.le_trans gta (Nat.mul_le_mul (by omega : r2 ≤ 2) (by omega : r2 ≤ 2))
    try simp
    refine pull_wp (k + 9) p (i + 1 + 300 + 3 + 1 + 300) (by omega) 3 (by decide) (by decide) h6 hs _ fun r3 h7 hr3 hs => ?_
    have ek := fun x => law_kernel_eq (k + 9) ga (by omega) x
    have t3 := told3_ok (k + 4) ga .non .non
    have hb6 : b.1.length ≤ 6 := by omega
    have hb26 : b.2.length ≤ 26 := by omega
    have hlf : few (loopsL a).length := by have := loopsL_len a; unfold few; omega
    have el : mkLst (List.map D.str (List.filter (fun x => decide ((x, x) ∈ a.snd)) a.fst)) = R.pure (.lst ((loopsL a).map .str)) := mkLst_few (by rw [List.length_map]; exact hlf)
    have fl : fineD (tL (loopsL a)) = true := ga.fineS (fun w hw => (List.mem_filter.mp hw).1) (by have := loopsL_len a; omega)
    simp only [nD, tL, tP] at ek
    simp [el, law_standards_eq, ek]
    rcases Nat.eq_zero_or_pos r3 with hz | hz
    case' inl =>
      rw [if_pos hz]
      refine pull_wp (k + 9) p (i + 1 + 300 + 3 + 1 + 300 + 1) (by omega) 10 (by decide) (by decide) h7 hs _ fun r4 h8 hr4 hs => ?_
      obtain ⟨d, hd, e⟩ := atD_lt (xs := standardsL.map D.str) (r := r4) hr4
      obtain ⟨x, hx, rfl⟩ := List.mem_map.mp hd
      simp [e, ek]
      clear gb hb6 hb26 hbl hba
      have gb := kerN_g ga (by omega) x
      have hb6 : (kerN a x).1.length ≤ 6 := by show a.1.length ≤ 6; omega
      have hb26 : (kerN a x).2.length ≤ 26 := by
        have h1 := List.length_filter_le (fun p => inK (Rn a) (kindOf x) p.1 p.2) (prodP a.1 a.1)
        rw [prodP_len] at h1
        have h2 : a.1.length * a.1.length ≤ 5 * 5 := Nat.mul_le_mul (by omega) (by omega)
        show ((prodP a.1 a.1).filter fun p => inK (Rn a) (kindOf x) p.1 p.2).length ≤ 26
        omega
      generalize kerN a x = b at *
    case' inr =>
      rw [if_neg (by omega)]
      have hs : Pool (i + 1 + 300 + 3 + 1 + 300 + 1 + 1) p h7 := hs.mono (by omega)
      revert hs
      generalize h7 = h8
      intro hs
    all_goals
      obtain ⟨d, td, lb, fd, dd⟩ := both_told (k + 3) ga gb (by omega) (by omega) (by omega) (by omega)
      have bel := law_both_eq (k + 9) ga gb (Nat.le_trans (dedup_len _) (by simp; omega))
      have es := same_at (k + 3) (.lst [.lst [tL (loopsL a)], .lst [d]]) (by rw [fineD_lst]; simp only [fineAll_cons, fineAll_nil, fineD_lst, fl, fd]; rfl) (by
        have h1 := dep_tL (loopsL a)
        rw [dep_lst, depAll_cons, depAll_cons, depAll_nil, dep_lst, dep_lst, depAll_cons, depAll_cons, depAll_nil]
        omega)
      have es : C (k + 10) 20 _ = _ := es
      have t3 : C (k + 10) 38 _ = _ := t3
      have td : C (k + 10) 38 _ = _ := td
      have lb : C (k + 10) 32 _ = _ := lb
      simp only [nD, tL, tP] at t3 td lb es
      simp [t3, td, lb, es]
      refine looked_wp (k + 1) p (i + 1 + 300 + 3 + 1 + 300 + 1 + 1) (by omega) ga gb gt (by omega) (by omega) (by omega) (by omega) (by omega) (by omega) h8 hs _ fun h9 hs => ?_
      simp
      refine refused_wp (k + 3) p (i + 1 + 300 + 3 + 1 + 300 + 1 + 1 + 1) (by omega) ga h9 hs _ fun h10 hs => ?_
      simp
  · rintro σ h ⟨s1, s2, s3, s4, s5, s6, s7, rfl⟩
    try simp

end K16

set_option maxHeartbeats 0
/-! the defs of the law and the text of the program (printed by nypy.py) -/
namespace K16
open PySem PySem.Spec PyProof.Rows L2 Ny
def top (i : Nat) : Stmt := PySem.Challenge.pw_heldagainst_k16_kernels.main.body.getD i (.Pass ⟨0, 0, 0, 0⟩)
def defs : List DefE := [⟨"is_word", top 4, ["value", "sign"], ["value"], n_is_word⟩,
  ⟨"ascends", top 5, ["members", "index"], ["members"], n_ascends⟩,
  ⟨"is_lot_of_words", top 6, ["value", "member"], ["value"], n_is_lot_of_words⟩,
  ⟨"is_row", top 7, ["value", "size"], ["value", "size"], n_is_row⟩,
  ⟨"together_of", top 8, ["lot", "other"], ["lot", "other"], n_together_of⟩,
  ⟨"both_of", top 14, ["net", "other"], ["net", "other"], n_both_of⟩,
  ⟨"is_attack", top 16, ["points", "value", "one"], ["points", "value"], n_is_attack⟩,
  ⟨"is_net", top 17, ["value", "attack"], ["value"], n_is_net⟩,
  ⟨"check_net", top 18, ["net"], ["net"], n_check_net⟩,
  ⟨"both_nets", top 19, ["net", "other_net"], ["net", "other_net"], n_both_nets⟩,
  ⟨"check_standard", top 22, ["standard"], ["standard"], n_check_standard⟩,
  ⟨"loops_in", top 24, ["net", "point"], ["net"], n_loops_in⟩,
  ⟨"loops_of", top 25, ["net"], ["net"], n_loops_of⟩,
  ⟨"free_kernel", top 26, ["net", "loops", "attacks", "a", "b"], ["net", "loops"], n_free_kernel⟩,
  ⟨"stays", top 27, ["net", "standard", "loops", "attack", "a", "b"], ["net", "standard", "loops", "attack"], n_stays⟩,
  ⟨"kernel_of", top 28, ["net", "standard", "loops", "attack"], ["net", "standard"], n_kernel_of⟩,
  ⟨"kernel", top 29, ["net", "standard"], ["net", "standard"], n_kernel⟩,
  ⟨"same_kernel", top 30, ["net", "other_net", "standard"], ["net", "other_net", "standard"], n_same_kernel⟩,
  ⟨"_law_pool", top 32, ["script", "k", "total", "cell", "mixed", "at"], ["script", "k"], n__law_pool⟩,
  ⟨"_law_pull", top 33, ["pool", "limit", "drawn"], ["pool", "limit"], n__law_pull⟩,
  ⟨"_law_same", top 34, ["told", "due", "one", "other"], ["told", "due"], n__law_same⟩,
  ⟨"_law_words", top 35, ["pool", "count", "stock", "found", "turn", "at"], ["pool", "count"], n__law_words⟩,
  ⟨"_law_net", top 36, ["pool", "count", "points", "often", "loops", "attacks", "one", "other"], ["pool", "count"], n__law_net⟩,
  ⟨"_law_lots_below", top 37, ["points", "lots", "point", "lot"], ["points"], n__law_lots_below⟩,
  ⟨"_law_hits", top 38, ["net", "lot", "one", "other"], ["net", "lot"], n__law_hits⟩,
  ⟨"_law_within", top 39, ["lot", "other", "point"], ["lot", "other"], n__law_within⟩,
  ⟨"_law_is_free", top 40, ["net", "lot", "point"], ["net", "lot"], n__law_is_free⟩,
  ⟨"_law_held_by", top 41, ["net", "lot", "hit", "point", "one", "other"], ["net", "lot"], n__law_held_by⟩,
  ⟨"_law_reach", top 42, ["net", "lot"], ["net", "lot"], n__law_reach⟩,
  ⟨"_law_weights", top 43, ["points", "point", "weights", "weight"], ["points"], n__law_weights⟩,
  ⟨"_law_tops", top 44, ["lots", "measure", "known", "greatest", "one", "lot", "other"], ["lots", "measure"], n__law_tops⟩,
  ⟨"_law_lots", top 45, ["net", "standard", "weights", "free", "itself", "reach", "good", "whole", "greatest", "lot", "other", "point"], ["net", "standard"], n__law_lots⟩,
  ⟨"_law_both", top 46, ["net", "other"], ["net", "other"], n__law_both⟩,
  ⟨"_law_near_net", top 47, ["pool", "net", "way", "pair", "points", "attacks", "fresh", "word", "attack"], ["pool", "net"], n__law_near_net⟩,
  ⟨"_law_kernel", top 48, ["net", "standard", "loops", "found", "one", "other", "point", "there", "keeps"], ["net", "standard"], n__law_kernel⟩,
  ⟨"_law_standards", top 49, [], [], n__law_standards⟩,
  ⟨"_law_bad_net", top 50, ["pool", "row"], ["pool"], n__law_bad_net⟩,
  ⟨"_law_bad_standard", top 51, ["pool"], ["pool"], n__law_bad_standard⟩,
  ⟨"_law_told", top 52, ["which", "net", "other", "standard", "found", "word"], ["which", "net", "other", "standard"], n__law_told⟩,
  ⟨"_law_looked", top 53, ["pool", "net", "other", "third", "standard", "due", "same", "told", "whole"], ["pool", "net", "other", "third"], n__law_looked⟩,
  ⟨"_law_refused", top 54, ["pool", "net", "found", "bad", "odd"], ["pool", "net"], n__law_refused⟩,
  ⟨"law", top 55, ["script", "k", "pool", "net", "other", "third", "loops", "point"], ["script"], n_law⟩]
def pg : Pg := { defs := defs, tcst := [("STANDARDS", [(.str "free"), (.str "naive"), (.str "admissible"), (.str "complete"), (.str "grounded"), (.str "preferred"), (.str "stable"), (.str "semistable"), (.str "stage"), (.str "ideal")])], kws := [(9, 1), (12, 0), (16, 1), (17, 1)], cst := [("LETTERS", (.str "abcdefghijklmnopqrstuvwxyz")), ("SIGNS", (.str "abcdefghijklmnopqrstuvwxyz0123456789")), ("MOST_SIGNS", (.int 8))], blt := ["abs", "all", "any", "bool", "dict", "enumerate", "int", "isinstance", "len", "list", "max", "min", "range", "set", "sorted", "str", "sum", "tuple", "zip"], exc := [("NetError", 0), ("InvalidNet", 1), ("InvalidStandard", 2)], T := T, XT := XT }
theorem pg_fns : pg.fns = fns := rfl
end K16
namespace K16
open PySem PySem.Spec PyProof.Rows L2 Ny
theorem chk_all : (pg.defs.all fun d => chkD 60 pg d) = true := by decide +kernel
theorem pg_ok : pgB pg = true := by decide +kernel
theorem bd_0 {K : PySem.W.Frag} {f : Addr} {fd : FuncData} (F : FnF K "is_word" (top 4) f fd) : Binds K fd ["value"] [] := F.bindsN fun _ _ _ _ _ _ us hl => match us, hl with | [_], _ => rfl
theorem bd_1 {K : PySem.W.Frag} {f : Addr} {fd : FuncData} (F : FnF K "ascends" (top 5) f fd) : Binds K fd ["members"] [] := F.bindsN fun _ _ _ _ _ _ us hl => match us, hl with | [_], _ => rfl
theorem bd_2 {K : PySem.W.Frag} {f : Addr} {fd : FuncData} (F : FnF K "is_lot_of_words" (top 6) f fd) : Binds K fd ["value"] [] := F.bindsN fun _ _ _ _ _ _ us hl => match us, hl with | [_], _ => rfl
theorem bd_3 {K : PySem.W.Frag} {f : Addr} {fd : FuncData} (F : FnF K "is_row" (top 7) f fd) : Binds K fd ["value", "size"] [] := F.bindsN fun _ _ _ _ _ _ us hl => match us, hl with | [_, _], _ => rfl
theorem bd_4 {K : PySem.W.Frag} {f : Addr} {fd : FuncData} (F : FnF K "together_of" (top 8) f fd) : Binds K fd ["lot", "other"] [] := F.bindsN fun _ _ _ _ _ _ us hl => match us, hl with | [_, _], _ => rfl
theorem bd_5 {K : PySem.W.Frag} {f : Addr} {fd : FuncData} (F : FnF K "both_of" (top 14) f fd) : Binds K fd ["net", "other"] [] := F.bindsN fun _ _ _ _ _ _ us hl => match us, hl with | [_, _], _ => rfl
theorem bd_6 {K : PySem.W.Frag} {f : Addr} {fd : FuncData} (F : FnF K "is_attack" (top 16) f fd) : Binds K fd ["points", "value"] [] := F.bindsN fun _ _ _ _ _ _ us hl => match us, hl with | [_, _], _ => rfl
theorem bd_7 {K : PySem.W.Frag} {f : Addr} {fd : FuncData} (F : FnF K "is_net" (top 17) f fd) : Binds K fd ["value"] [] := F.bindsN fun _ _ _ _ _ _ us hl => match us, hl with | [_], _ => rfl
theorem bd_8 {K : PySem.W.Frag} {f : Addr} {fd : FuncData} (F : FnF K "check_net" (top 18) f fd) : Binds K fd ["net"] [] := F.bindsN fun _ _ _ _ _ _ us hl => match us, hl with | [_], _ => rfl
theorem bd_9 {K : PySem.W.Frag} {f : Addr} {fd : FuncData} (F : FnF K "both_nets" (top 19) f fd) : Binds K fd ["net", "other_net"] [] := F.bindsN fun _ _ _ _ _ _ us hl => match us, hl with | [_, _], _ => rfl
theorem bd_10 {K : PySem.W.Frag} {f : Addr} {fd : FuncData} (F : FnF K "check_standard" (top 22) f fd) : Binds K fd ["standard"] [] := F.bindsN fun _ _ _ _ _ _ us hl => match us, hl with | [_], _ => rfl
theorem bd_11 {K : PySem.W.Frag} {f : Addr} {fd : FuncData} (F : FnF K "loops_in" (top 24) f fd) : Binds K fd ["net"] [] := F.bindsN fun _ _ _ _ _ _ us hl => match us, hl with | [_], _ => rfl
theorem bd_12 {K : PySem.W.Frag} {f : Addr} {fd : FuncData} (F : FnF K "loops_of" (top 25) f fd) : Binds K fd ["net"] [] := F.bindsN fun _ _ _ _ _ _ us hl => match us, hl with | [_], _ => rfl
theorem bd_13 {K : PySem.W.Frag} {f : Addr} {fd : FuncData} (F : FnF K "free_kernel" (top 26) f fd) : Binds K fd ["net", "loops"] [] := F.bindsN fun _ _ _ _ _ _ us hl => match us, hl with | [_, _], _ => rfl
theorem bd_14 {K : PySem.W.Frag} {f : Addr} {fd : FuncData} (F : FnF K "stays" (top 27) f fd) : Binds K fd ["net", "standard", "loops", "attack"] [] := F.bindsN fun _ _ _ _ _ _ us hl => match us, hl with | [_, _, _, _], _ => rfl
theorem bd_15 {K : PySem.W.Frag} {f : Addr} {fd : FuncData} (F : FnF K "kernel_of" (top 28) f fd) : Binds K fd ["net", "standard"] [] := F.bindsN fun _ _ _ _ _ _ us hl => match us, hl with | [_, _], _ => rfl
theorem bd_16 {K : PySem.W.Frag} {f : Addr} {fd : FuncData} (F : FnF K "kernel" (top 29) f fd) : Binds K fd ["net", "standard"] [] := F.bindsN fun _ _ _ _ _ _ us hl => match us, hl with | [_, _], _ => rfl
theorem bd_17 {K : PySem.W.Frag} {f : Addr} {fd : FuncData} (F : FnF K "same_kernel" (top 30) f fd) : Binds K fd ["net", "other_net", "standard"] [] := F.bindsN fun _ _ _ _ _ _ us hl => match us, hl with | [_, _, _], _ => rfl
theorem bd_18 {K : PySem.W.Frag} {f : Addr} {fd : FuncData} (F : FnF K "_law_pool" (top 32) f fd) : Binds K fd ["script", "k"] [] := F.bindsN fun _ _ _ _ _ _ us hl => match us, hl with | [_, _], _ => rfl
theorem bd_19 {K : PySem.W.Frag} {f : Addr} {fd : FuncData} (F : FnF K "_law_pull" (top 33) f fd) : Binds K fd ["pool", "limit"] [] := F.bindsN fun _ _ _ _ _ _ us hl => match us, hl with | [_, _], _ => rfl
theorem bd_20 {K : PySem.W.Frag} {f : Addr} {fd : FuncData} (F : FnF K "_law_same" (top 34) f fd) : Binds K fd ["told", "due"] [] := F.bindsN fun _ _ _ _ _ _ us hl => match us, hl with | [_, _], _ => rfl
theorem bd_21 {K : PySem.W.Frag} {f : Addr} {fd : FuncData} (F : FnF K "_law_words" (top 35) f fd) : Binds K fd ["pool", "count"] [] := F.bindsN fun _ _ _ _ _ _ us hl => match us, hl with | [_, _], _ => rfl
theorem bd_22 {K : PySem.W.Frag} {f : Addr} {fd : FuncData} (F : FnF K "_law_net" (top 36) f fd) : Binds K fd ["pool", "count"] [] := F.bindsN fun _ _ _ _ _ _ us hl => match us, hl with | [_, _], _ => rfl
theorem bd_23 {K : PySem.W.Frag} {f : Addr} {fd : FuncData} (F : FnF K "_law_lots_below" (top 37) f fd) : Binds K fd ["points"] [] := F.bindsN fun _ _ _ _ _ _ us hl => match us, hl with | [_], _ => rfl
theorem bd_24 {K : PySem.W.Frag} {f : Addr} {fd : FuncData} (F : FnF K "_law_hits" (top 38) f fd) : Binds K fd ["net", "lot"] [] := F.bindsN fun _ _ _ _ _ _ us hl => match us, hl with | [_, _], _ => rfl
theorem bd_25 {K : PySem.W.Frag} {f : Addr} {fd : FuncData} (F : FnF K "_law_within" (top 39) f fd) : Binds K fd ["lot", "other"] [] := F.bindsN fun _ _ _ _ _ _ us hl => match us, hl with | [_, _], _ => rfl
theorem bd_26 {K : PySem.W.Frag} {f : Addr} {fd : FuncData} (F : FnF K "_law_is_free" (top 40) f fd) : Binds K fd ["net", "lot"] [] := F.bindsN fun _ _ _ _ _ _ us hl => match us, hl with | [_, _], _ => rfl
theorem bd_27 {K : PySem.W.Frag} {f : Addr} {fd : FuncData} (F : FnF K "_law_held_by" (top 41) f fd) : Binds K fd ["net", "lot"] [] := F.bindsN fun _ _ _ _ _ _ us hl => match us, hl with | [_, _], _ => rfl
theorem bd_28 {K : PySem.W.Frag} {f : Addr} {fd : FuncData} (F : FnF K "_law_reach" (top 42) f fd) : Binds K fd ["net", "lot"] [] := F.bindsN fun _ _ _ _ _ _ us hl => match us, hl with | [_, _], _ => rfl
theorem bd_29 {K : PySem.W.Frag} {f : Addr} {fd : FuncData} (F : FnF K "_law_weights" (top 43) f fd) : Binds K fd ["points"] [] := F.bindsN fun _ _ _ _ _ _ us hl => match us, hl with | [_], _ => rfl
theorem bd_30 {K : PySem.W.Frag} {f : Addr} {fd : FuncData} (F : FnF K "_law_tops" (top 44) f fd) : Binds K fd ["lots", "measure"] [] := F.bindsN fun _ _ _ _ _ _ us hl => match us, hl with | [_, _], _ => rfl
theorem bd_31 {K : PySem.W.Frag} {f : Addr} {fd : FuncData} (F : FnF K "_law_lots" (top 45) f fd) : Binds K fd ["net", "standard"] [] := F.bindsN fun _ _ _ _ _ _ us hl => match us, hl with | [_, _], _ => rfl
theorem bd_32 {K : PySem.W.Frag} {f : Addr} {fd : FuncData} (F : FnF K "_law_both" (top 46) f fd) : Binds K fd ["net", "other"] [] := F.bindsN fun _ _ _ _ _ _ us hl => match us, hl with | [_, _], _ => rfl
theorem bd_33 {K : PySem.W.Frag} {f : Addr} {fd : FuncData} (F : FnF K "_law_near_net" (top 47) f fd) : Binds K fd ["pool", "net"] [] := F.bindsN fun _ _ _ _ _ _ us hl => match us, hl with | [_, _], _ => rfl
theorem bd_34 {K : PySem.W.Frag} {f : Addr} {fd : FuncData} (F : FnF K "_law_kernel" (top 48) f fd) : Binds K fd ["net", "standard"] [] := F.bindsN fun _ _ _ _ _ _ us hl => match us, hl with | [_, _], _ => rfl
theorem bd_35 {K : PySem.W.Frag} {f : Addr} {fd : FuncData} (F : FnF K "_law_standards" (top 49) f fd) : Binds K fd [] [] := F.bindsN fun _ _ _ _ _ _ us hl => match us, hl with | [], _ => rfl
theorem bd_36 {K : PySem.W.Frag} {f : Addr} {fd : FuncData} (F : FnF K "_law_bad_net" (top 50) f fd) : Binds K fd ["pool"] [] := F.bindsN fun _ _ _ _ _ _ us hl => match us, hl with | [_], _ => rfl
theorem bd_37 {K : PySem.W.Frag} {f : Addr} {fd : FuncData} (F : FnF K "_law_bad_standard" (top 51) f fd) : Binds K fd ["pool"] [] := F.bindsN fun _ _ _ _ _ _ us hl => match us, hl with | [_], _ => rfl
theorem bd_38 {K : PySem.W.Frag} {f : Addr} {fd : FuncData} (F : FnF K "_law_told" (top 52) f fd) : Binds K fd ["which", "net", "other", "standard"] [] := F.bindsN fun _ _ _ _ _ _ us hl => match us, hl with | [_, _, _, _], _ => rfl
theorem bd_39 {K : PySem.W.Frag} {f : Addr} {fd : FuncData} (F : FnF K "_law_looked" (top 53) f fd) : Binds K fd ["pool", "net", "other", "third"] [] := F.bindsN fun _ _ _ _ _ _ us hl => match us, hl with | [_, _, _, _], _ => rfl
theorem bd_40 {K : PySem.W.Frag} {f : Addr} {fd : FuncData} (F : FnF K "_law_refused" (top 54) f fd) : Binds K fd ["pool", "net"] [] := F.bindsN fun _ _ _ _ _ _ us hl => match us, hl with | [_, _], _ => rfl
theorem bd_41 {K : PySem.W.Frag} {f : Addr} {fd : FuncData} (F : FnF K "law" (top 55) f fd) : Binds K fd ["script"] [] := F.bindsN fun _ _ _ _ _ _ us hl => match us, hl with | [_], _ => rfl
theorem bd_all : ∀ (i : Nat) (d : DefE), pg.defs[i]? = some d → ∀ {K : PySem.W.Frag} (f : Addr) (fd : FuncData), FnF K d.x d.st f fd → Binds K fd d.ps []
  | 0, _, rfl, _, _, _, F => bd_0 F
  | 1, _, rfl, _, _, _, F => bd_1 F
  | 2, _, rfl, _, _, _, F => bd_2 F
  | 3, _, rfl, _, _, _, F => bd_3 F
  | 4, _, rfl, _, _, _, F => bd_4 F
  | 5, _, rfl, _, _, _, F => bd_5 F
  | 6, _, rfl, _, _, _, F => bd_6 F
  | 7, _, rfl, _, _, _, F => bd_7 F
  | 8, _, rfl, _, _, _, F => bd_8 F
  | 9, _, rfl, _, _, _, F => bd_9 F
  | 10, _, rfl, _, _, _, F => bd_10 F
  | 11, _, rfl, _, _, _, F => bd_11 F
  | 12, _, rfl, _, _, _, F => bd_12 F
  | 13, _, rfl, _, _, _, F => bd_13 F
  | 14, _, rfl, _, _, _, F => bd_14 F
  | 15, _, rfl, _, _, _, F => bd_15 F
  | 16, _, rfl, _, _, _, F => bd_16 F
  | 17, _, rfl, _, _, _, F => bd_17 F
  | 18, _, rfl, _, _, _, F => bd_18 F
  | 19, _, rfl, _, _, _, F => bd_19 F
  | 20, _, rfl, _, _, _, F => bd_20 F
  | 21, _, rfl, _, _, _, F => bd_21 F
  | 22, _, rfl, _, _, _, F => bd_22 F
  | 23, _, rfl, _, _, _, F => bd_23 F
  | 24, _, rfl, _, _, _, F => bd_24 F
  | 25, _, rfl, _, _, _, F => bd_25 F
  | 26, _, rfl, _, _, _, F => bd_26 F
  | 27, _, rfl, _, _, _, F => bd_27 F
  | 28, _, rfl, _, _, _, F => bd_28 F
  | 29, _, rfl, _, _, _, F => bd_29 F
  | 30, _, rfl, _, _, _, F => bd_30 F
  | 31, _, rfl, _, _, _, F => bd_31 F
  | 32, _, rfl, _, _, _, F => bd_32 F
  | 33, _, rfl, _, _, _, F => bd_33 F
  | 34, _, rfl, _, _, _, F => bd_34 F
  | 35, _, rfl, _, _, _, F => bd_35 F
  | 36, _, rfl, _, _, _, F => bd_36 F
  | 37, _, rfl, _, _, _, F => bd_37 F
  | 38, _, rfl, _, _, _, F => bd_38 F
  | 39, _, rfl, _, _, _, F => bd_39 F
  | 40, _, rfl, _, _, _, F => bd_40 F
  | 41, _, rfl, _, _, _, F => bd_41 F
  | n + 42, d, h, _, _, _, _ => by
    have h : (none : Option DefE) = some d := h
    cases h
theorem kw_9_1 {K : PySem.W.Frag} {f : Addr} {fd : FuncData} (F : FnF K "both_nets" (top 19) f fd) : KwOk fd ["net", "other_net"] 1 := by
  intro s us ws h1 h2
  obtain ⟨oc, od, dV, kV, doc, pm, an, cdv, ct, osl, rfl, lk, hcd, hD, hK⟩ := F.ex
  rcases hD with ⟨_, rfl⟩ | ⟨e, _⟩
  · have h3 : ws.length = 1 := by
      have h2 : us.length + ws.length = 2 := h2
      omega
    match us, h1, ws, h3 with
    | [_], _, [_], _ => exact .of_eq rfl
  · exact absurd rfl e
theorem kw_12_0 {K : PySem.W.Frag} {f : Addr} {fd : FuncData} (F : FnF K "loops_of" (top 25) f fd) : KwOk fd ["net"] 0 := by
  intro s us ws h1 h2
  obtain ⟨oc, od, dV, kV, doc, pm, an, cdv, ct, osl, rfl, lk, hcd, hD, hK⟩ := F.ex
  rcases hD with ⟨_, rfl⟩ | ⟨e, _⟩
  · have h3 : ws.length = 1 := by
      have h2 : us.length + ws.length = 1 := h2
      omega
    match us, h1, ws, h3 with
    | [], _, [_], _ => exact .of_eq rfl
  · exact absurd rfl e
theorem kw_16_1 {K : PySem.W.Frag} {f : Addr} {fd : FuncData} (F : FnF K "kernel" (top 29) f fd) : KwOk fd ["net", "standard"] 1 := by
  intro s us ws h1 h2
  obtain ⟨oc, od, dV, kV, doc, pm, an, cdv, ct, osl, rfl, lk, hcd, hD, hK⟩ := F.ex
  rcases hD with ⟨_, rfl⟩ | ⟨e, _⟩
  · have h3 : ws.length = 1 := by
      have h2 : us.length + ws.length = 2 := h2
      omega
    match us, h1, ws, h3 with
    | [_], _, [_], _ => exact .of_eq rfl
  · exact absurd rfl e
theorem kw_17_1 {K : PySem.W.Frag} {f : Addr} {fd : FuncData} (F : FnF K "same_kernel" (top 30) f fd) : KwOk fd ["net", "other_net", "standard"] 1 := by
  intro s us ws h1 h2
  obtain ⟨oc, od, dV, kV, doc, pm, an, cdv, ct, osl, rfl, lk, hcd, hD, hK⟩ := F.ex
  rcases hD with ⟨_, rfl⟩ | ⟨e, _⟩
  · have h3 : ws.length = 2 := by
      have h2 : us.length + ws.length = 3 := h2
      omega
    match us, h1, ws, h3 with
    | [_], _, [_, _], _ => exact .of_eq rfl
  · exact absurd rfl e
theorem kw_all {K : PySem.W.Frag} : ∀ q ∈ pg.kws, ∀ d, pg.defs[q.1]? = some d → ∀ (f : Addr) (fd : FuncData), FnF K d.x d.st f fd → KwOk fd d.ps q.2 := by
  intro q hq d hd f fd F
  have hq : q ∈ ([(9, 1), (12, 0), (16, 1), (17, 1)] : List (Nat × Nat)) := hq
  simp only [List.mem_cons, List.not_mem_nil, or_false] at hq
  rcases hq with rfl | rfl | rfl | rfl
  · cases hd
    exact kw_9_1 F
  · cases hd
    exact kw_12_0 F
  · cases hd
    exact kw_16_1 F
  · cases hd
    exact kw_17_1 F
def loose : List Str := (["LETTERS", "SIGNS", "MOST_SIGNS", "is_word", "ascends", "is_lot_of_words", "is_row", "together_of", "NetError", "InvalidNet", "InvalidStandard", "both_of", "is_attack", "is_net", "check_net", "both_nets", "STANDARDS", "check_standard", "loops_in", "loops_of", "free_kernel", "stays", "kernel_of", "kernel", "same_kernel", "_law_pool", "_law_pull", "_law_same", "_law_words", "_law_net"] : List Str) ++ (["_law_lots_below", "_law_hits", "_law_within", "_law_is_free", "_law_held_by", "_law_reach", "_law_weights", "_law_tops", "_law_lots", "_law_both", "_law_near_net", "_law_kernel", "_law_standards", "_law_bad_net", "_law_bad_standard", "_law_told", "_law_looked", "_law_refused"] : List Str)
abbrev RR : PySem.W.OpenRow := PySem.W.OpenLaw.row PySem.Challenge.rw_heldagainst_k16_kernels
abbrev hk : PySem.W.Hook := Ny.hookN 5 (faOf pg) (fnsOf pg) (exOf pg)
def ob (s : PySem.W.SharedT) : He.AlD × Bool := Ny.obsN 5 (faOf pg) (fnsOf pg) (exOf pg) (HandSHeadRun.getT s)
theorem ob_eq (s : PySem.W.SharedT) : ob s = hk.obs s.abs := Ny.obsN_eq (HandSHeadRun.getT_eq s)
theorem run (w : World) : HandSHeadRun.RunEq RR (PySem.W.view RR.prog [55]) hk ob 14000 loose w := by
  intro os
  kernel_rfl
theorem facts {P : Program} {w : World} {K : PySem.W.Frag} {h : Heap} {mg : Str → Option Value} {f : Addr} (X : K.In h) (G : h.Ns mainGlobals mg) (hfa : mg ("law" : Str) = some (.ref f)) (c : He.SaysD (faOf pg) (fnsOf pg) K) (cx : exOf pg K = true) :
    ∃ fd : FuncData, (∀ (s : Shared) (v : Value), BindsTo s fd ⟨[v], []⟩ [("script", v)]) ∧ ∀ base : Heap, K.In base → base.Ns mainGlobals mg → FnOk P w K mg base (L2.CX P w) 12 f fd ["script"] (spN K (XAof pg K) 1 (callN pg.T pg.XT pg.fns 12 i_law)) := by
  have O : PgOk pg K mg (XAof pg K) := pgOk_of X G c cx pg_ok (fun i d e f fd F => bd_all i d e f fd F) kw_all (fun Y hc hu => sort_ok hc hu) fun Y hc hu => set_ok hc hu
  obtain ⟨fd, F⟩ := c.def_ i_law (d := dOf (pg.defs[i_law]?.getD ⟨"", top 0, [], [], .nil⟩)) rfl
  have e := hfa.symm.trans (He.glo_ok X G (fact_of c (f := .glo "law") (List.mem_append_left _ (List.mem_map.mpr ⟨pg.defs[i_law]?.getD ⟨"", top 0, [], [], .nil⟩, List.mem_of_getElem? (i := i_law) rfl, rfl⟩))))
  cases e
  have b := FunD.bindsA (ps := ["script"]) F fun _ _ _ _ _ _ us hl => match us, hl with | [_], _ => rfl
  exact ⟨fd, fun s v => b s [v] rfl, fun base _ _ => progOk O (fun d hd => List.all_eq_true.mp chk_all d hd) 12 i_law _ _ fd rfl F⟩
/-- the law, as the evaluator tells it -/
theorem law_true (ns : List Int) (hl : ns.length ≤ 63) (hb : ∀ z ∈ ns, Builtin.Int.intBits z ≤ 1048576) : ∃ h', callN pg.T pg.XT pg.fns 12 i_law [.ro (ns.map .int)] [] = .ok (.bl true) h' := by
  obtain ⟨v, h', e, q⟩ := law_wp (12 - law_fuel) ns hl hb []
  subst q
  refine ⟨h', ?_⟩
  have e2 : C 12 i_law [.ro (ns.map .int)] [] = .ok (.bl true) h' := e
  rw [C_eq] at e2
  exact e2
end K16
open PySem PySem.W PySem.Calls PyProof.Rows
theorem PySem.Challenge.cw_heldagainst_k16_kernels_holds : PySem.Challenge.rw_heldagainst_k16_kernels.Holds := by
  w_on; o_law
  refine HandSHeadRun.head_any (r := OpenLaw.row PySem.Challenge.rw_heldagainst_k16_kernels) (q := view (OpenLaw.row PySem.Challenge.rw_heldagainst_k16_kernels).prog [55]) (H := K16.hk) (ob := K16.ob) (M := 14000) (loose := K16.loose) (d := HandSHeadRun.topDef (OpenLaw.row PySem.Challenge.rw_heldagainst_k16_kernels).prog 55) (kwd := []) K16.ob_eq
    (by kernel_rfl) (fun s => by kernel_rfl) K16.run (by kernel_rfl) (by kernel_rfl) (by kernel_rfl) (by rfl) (by first | assumption | decide +kernel) (by decide +kernel) ⟨rfl, rfl, rfl, rfl, rfl, by decide +kernel⟩ ?hw ?hc
  case hw => w_witness2
  case hc =>
    refine Ny.walk_ofEB (l := PySem.Challenge.rw_heldagainst_k16_kernels) (n := 63) (k := 12) (x := "script") (CX := fun w => L2.CX (PySem.Challenge.rw_heldagainst_k16_kernels).prog w) rfl (by decide) (by kernel_rfl) ⟨rfl, by decide, by decide⟩ ?F (fun w H s e s' ⟨_, _, _, _, _, _, _, _, _, _, _, _, z⟩ => z)
    intro w mg fa h Y G hmg0
    obtain ⟨K, KX, c, cx⟩ := Y
    have hmg : mg ("law" : PySem.Str) = some (.ref fa) := by
      have e : (HandSHeadRun.topDef (OpenLaw.row PySem.Challenge.rw_heldagainst_k16_kernels).prog 55).name = ("law" : PySem.Str) := by kernel_rfl
      rw [← e]
      exact hmg0
    obtain ⟨fd, hb, hF⟩ := K16.facts (P := (PySem.Challenge.rw_heldagainst_k16_kernels).prog) (w := w) KX G hmg c cx
    refine ⟨K, fd, _, KX, hb, fun H a ns hl hbits _ hS => ?_, hF⟩
    obtain ⟨h', e⟩ := K16.law_true ns hl hbits
    exact Ny.law_sp hS e

