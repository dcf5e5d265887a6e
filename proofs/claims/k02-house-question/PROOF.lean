import PyProof.Rows.All
import Wide.All
import OpenK.AllK
import Wide.FinOn
import PyProof.ReprReads
import HandS.ForMost
import HandS.ForExc
import HandS.ExcInit
import HandS.ExcSuper
import KE.KExcSuper
import KE.KSuper
import HandS.Deep
import HandS.Set
import KE.KDictKeyed
import KE.KDictCopyH
import KE.SortData
import KE.KDictItemsList
import KE.DataEq
import HandS.TupAny
import HandS.TupMul
import HandS.Text
import HandS.Flow
import HandS.Style
import HandS.IsInst
import HandS.Dict
import HandS.WordsDict
import HandS.More
import HandS.SetFor
import PyProof.Transfer
import HandS.Iter
import HandS.Comp
import HandS.Defaults
import HandS.Exc
import HandS.ExcOwn
import HandS.Ends
import HandS.SetBool
import HandS.DictComp
import HandS.Words
import HandS.HeadHook1
import HandS.HeadHook2
import HandS.HeadHook3
import HandS.HeadHook4
import HandS.HeadEnd
import HandS.Head0
import HandS.Head1
import HandS.Head2
import PySem.Challenge.RW_askedbyforms_k02_what_a_house_and_a_ques
section
set_option autoImplicit false
/-! Deep: the values, the syntax and the meaning (by weakest preconditions) of the part of Python that the program and the laws are written in. No model in sight. -/
namespace Py
open PySem (Str PyData)

/-! ### values -/
inductive D where
  | none | bool (b : Bool) | int (i : Int) | str (s : Str)
  | tup (xs : List D) | lst (xs : List D) | set (xs : List D) | dct (ks vs : List D)
  | rng (a b : Int) | exc (c : Str) (v : D) | fn (f : Str) | ref (n : Nat) | script
  deriving Inhabited

mutual
def D.beq : D → D → Bool
  | .none, .none => true
  | .bool a, .bool b => a == b
  | .int a, .int b => a == b
  | .str a, .str b => decide (a = b)
  | .tup a, .tup b => D.beqs a b
  | .lst a, .lst b => D.beqs a b
  | .set a, .set b => D.beqs a b
  | .dct a b, .dct c d => D.beqs a c && D.beqs b d
  | .rng a b, .rng c d => a == c && b == d
  | .exc a b, .exc c d => decide (a = c) && D.beq b d
  | .fn a, .fn b => decide (a = b)
  | .ref a, .ref b => a == b
  | .script, .script => true
  | _, _ => false
def D.beqs : List D → List D → Bool
  | [], [] => true
  | x :: xs, y :: ys => D.beq x y && D.beqs xs ys
  | _, _ => false
end
mutual
theorem D.beq_refl : ∀ a : D, D.beq a a = true
  | .none => rfl
  | .bool a => by simp [D.beq]
  | .int a => by simp [D.beq]
  | .str a => by simp [D.beq]
  | .tup a => by simp [D.beq, D.beqs_refl a]
  | .lst a => by simp [D.beq, D.beqs_refl a]
  | .set a => by simp [D.beq, D.beqs_refl a]
  | .dct a b => by simp [D.beq, D.beqs_refl a, D.beqs_refl b]
  | .rng a b => by simp [D.beq]
  | .exc a b => by simp [D.beq, D.beq_refl b]
  | .fn a => by simp [D.beq]
  | .ref a => by simp [D.beq]
  | .script => rfl
theorem D.beqs_refl : ∀ a : List D, D.beqs a a = true
  | [] => rfl
  | x :: xs => by simp [D.beqs, D.beq_refl x, D.beqs_refl xs]
end
mutual
theorem D.eq_of_beq : ∀ a b : D, D.beq a b = true → a = b
  | .none, b, h => by cases b <;> simp [D.beq] at h ⊢
  | .bool a, b, h => by cases b <;> simp [D.beq] at h ⊢; exact h
  | .int a, b, h => by cases b <;> simp [D.beq] at h ⊢; exact h
  | .str a, b, h => by cases b <;> simp [D.beq] at h ⊢; exact h
  | .tup a, b, h => by
    cases b <;> simp [D.beq] at h ⊢
    exact D.eq_of_beqs _ _ h
  | .lst a, b, h => by
    cases b <;> simp [D.beq] at h ⊢
    exact D.eq_of_beqs _ _ h
  | .set a, b, h => by
    cases b <;> simp [D.beq] at h ⊢
    exact D.eq_of_beqs _ _ h
  | .dct a a', b, h => by
    cases b <;> simp [D.beq] at h ⊢
    exact ⟨D.eq_of_beqs _ _ h.1, D.eq_of_beqs _ _ h.2⟩
  | .rng a a', b, h => by cases b <;> simp [D.beq] at h ⊢; exact h
  | .exc a a', b, h => by
    cases b <;> simp [D.beq] at h ⊢
    exact ⟨h.1, D.eq_of_beq _ _ h.2⟩
  | .fn a, b, h => by cases b <;> simp [D.beq] at h ⊢; exact h
  | .ref a, b, h => by cases b <;> simp [D.beq] at h ⊢; exact h
  | .script, b, h => by cases b <;> simp [D.beq] at h ⊢
theorem D.eq_of_beqs : ∀ a b : List D, D.beqs a b = true → a = b
  | [], b, h => by cases b <;> simp [D.beqs] at h ⊢
  | x :: xs, b, h => by
    cases b with
    | nil => simp [D.beqs] at h
    | cons y ys =>
      simp only [D.beqs, Bool.and_eq_true] at h
      rw [D.eq_of_beq _ _ h.1, D.eq_of_beqs _ _ h.2]
end
instance : DecidableEq D := fun a b => if h : D.beq a b = true then isTrue (D.eq_of_beq a b h) else isFalse (fun e => h (by subst e; exact D.beq_refl a))

/-! ### what Python's operations say of values -/
/-- what may be changed -/
def D.isCon : D → Bool
  | .lst _ => true
  | .set _ => true
  | .dct _ _ => true
  | _ => false
/-- a number, a truth value as one -/
def D.num : D → Option Int
  | .bool b => some (if b then 1 else 0)
  | .int i => some i
  | _ => Option.none
mutual
/-- == of None, truth values, numbers, texts, tuples and lists -/
def pyEq : D → D → Bool
  | .none, .none => true
  | .bool a, .bool b => a == b
  | .bool a, .int b => (if a then 1 else 0) == b
  | .int a, .bool b => a == (if b then 1 else 0)
  | .int a, .int b => a == b
  | .str a, .str b => decide (a = b)
  | .tup a, .tup b => pyEqs a b
  | .lst a, .lst b => pyEqs a b
  | _, _ => false
def pyEqs : List D → List D → Bool
  | [], [] => true
  | x :: xs, y :: ys => pyEq x y && pyEqs xs ys
  | _, _ => false
end
mutual
/-- what == is asked of: plain data -/
def D.pln : D → Bool
  | .none => true
  | .bool _ => true
  | .int _ => true
  | .str _ => true
  | .tup xs => plns xs
  | .lst xs => plns xs
  | _ => false
def plns : List D → Bool
  | [] => true
  | x :: xs => D.pln x && plns xs
end
mutual
def D.dep : D → Nat
  | .tup xs => deps xs + 1
  | .lst xs => deps xs + 1
  | _ => 0
def deps : List D → Nat
  | [] => 0
  | x :: xs => max (D.dep x) (deps xs)
end
/-- plain data that is not too deep -/
def D.cmpOk (d : D) : Bool := d.pln && decide (d.dep ≤ 40)
mutual
/-- two data that can be compared, place by place -/
def alk : D → D → Bool
  | .none, .none => true
  | .bool _, .bool _ => true
  | .int _, .int _ => true
  | .str _, .str _ => true
  | .tup xs, .tup ys => alks xs ys
  | .lst xs, .lst ys => alks xs ys
  | _, _ => false
def alks : List D → List D → Bool
  | x :: xs, y :: ys => alk x y && alks xs ys
  | [], _ => true
  | _ :: _, [] => true
end
mutual
/-- < of data that can be compared -/
def ltD : D → D → Bool
  | .bool a, .bool b => !a && b
  | .int a, .int b => decide (a < b)
  | .str a, .str b => decide (a.cps.toList < b.cps.toList)
  | .tup xs, .tup ys => ltDs xs ys
  | .lst xs, .lst ys => ltDs xs ys
  | _, _ => false
def ltDs : List D → List D → Bool
  | _, [] => false
  | [], _ :: _ => true
  | x :: xs, y :: ys => if pyEq x y then ltDs xs ys else ltD x y
end
mutual
/-- data that may be a key: numbers, texts, None, tuples of these -/
def D.isKey : D → Bool
  | .none => true
  | .int _ => true
  | .str _ => true
  | .tup xs => areKeys xs
  | _ => false
def areKeys : List D → Bool
  | [] => true
  | x :: xs => D.isKey x && areKeys xs
end
def D.isTup : D → Bool
  | .tup _ => true
  | _ => false
/-- a number, a text -/
def D.flat : D → Bool
  | .int _ => true
  | .str _ => true
  | _ => false
/-- a key -/
def keyOk (_ : List D) (k : D) : Bool := k.flat
/-- a size that a list may have -/
abbrev Sz (n : Nat) : Prop := n ≤ 16777216
def tru : D → Option Bool
  | .none => some false
  | .bool b => some b
  | .int i => some (i != 0)
  | .str s => if s.length ≤ 16777216 then some (s.length != 0) else Option.none
  | .tup xs => some (!xs.isEmpty)
  | .lst xs => some (!xs.isEmpty)
  | _ => Option.none
/-- a value's truth, asked of -/
def truR (d : D) (Q : Bool → Prop) : Prop := match tru d with
  | some b => Q b
  | Option.none => False

/-- the place of a key -/
def kIx (ks : List D) (k : D) : Option Nat := ks.findIdx? fun x => decide (x = k)
def dGet (ks vs : List D) (k : D) : Option D := (kIx ks k).bind fun i => vs[i]?
def dPutK (ks : List D) (k : D) : List D := match kIx ks k with
  | some _ => ks
  | Option.none => ks ++ [k]
def dPutV (ks vs : List D) (k v : D) : List D := match kIx ks k with
  | some i => vs.set i v
  | Option.none => vs ++ [v]
/-- the pairs put in, one by one -/
def dPuts : List D → List D → List (D × D) → List D × List D
  | ks, vs, [] => (ks, vs)
  | ks, vs, (k, v) :: r => dPuts (dPutK ks k) (dPutV ks vs k v) r
/-- pairs of a key and a value -/
def asPair : D → Option (D × D)
  | .tup [k, v] => some (k, v)
  | _ => Option.none
def asPairs : List D → Option (List (D × D))
  | [] => some []
  | x :: xs => match asPair x, asPairs xs with
    | some p, some ps => some (p :: ps)
    | _, _ => Option.none
/-- all are keys of one sort -/
def keysOk (ks : List D) : Bool := ks.all fun k => keyOk ks k
/-- what is met first, each once -/
def dedup : List D → List D → List D
  | acc, [] => acc
  | acc, x :: xs => if x ∈ acc then dedup acc xs else dedup (acc ++ [x]) xs
def small62 (i : Int) : Prop := -4611686018427387904 ≤ i ∧ i < 4611686018427387904
def intL : Int → Nat → List D
  | _, 0 => []
  | a, n + 1 => .int a :: intL (a + 1) n
def chars (s : Str) : List D := s.cps.toList.map fun c => .str ⟨#[c]⟩
/-- what is walked, in sequence; a set's sequence is any -/
def itR (d : D) (Q : List D → Prop) : Prop := match d with
  | .lst xs => Q xs
  | .tup xs => Q xs
  | .dct ks _ => Q ks
  | .str s => Q (chars s)
  | .rng a b => Q (intL a (b - a).toNat)
  | .set xs => ∀ ys, ys.Perm xs → Q ys
  | _ => False
/-- what a for walks: no set -/
def walkR (d : D) (Q : List D → Prop) : Prop := match d with
  | .set _ => False
  | .rng _ _ => False
  | d => itR d Q
/-- range(..) walked -/
def rgR : List D → (List D → Prop) → Prop
  | [.int b], Q => small62 b ∧ Q (intL 0 b.toNat)
  | [.int a, .int b], Q => (small62 a ∧ small62 b) ∧ Q (intL a (b - a).toNat)
  | _, _ => False
/-- all alike, and sortable -/
def sortOk (xs : List D) : Bool := (xs.all fun x => xs.all fun y => alk x y && decide (x.dep ≤ 40)) && ((xs.all fun x => match x with | .tup (_ :: _) => true | _ => false) || (xs.all fun x => match x with | .tup _ => false | .none => false | _ => true))
def sortD (xs : List D) : List D := xs.mergeSort fun a b => !ltD b a
def boolsOf : List D → Option (List Bool)
  | [] => some []
  | .bool b :: xs => (boolsOf xs).map (b :: ·)
  | _ :: _ => Option.none
def intsOf : List D → Option (List Int)
  | [] => some []
  | .int i :: xs => (intsOf xs).map (i :: ·)
  | _ :: _ => Option.none
def optR {α : Type} : Option α → (α → Prop) → Prop
  | some a, Q => Q a
  | Option.none, _ => False
/-- the least, the greatest; of several the first one -/
def minD : D → List D → D
  | m, [] => m
  | m, x :: xs => minD (if ltD x m then x else m) xs
def maxD : D → List D → D
  | m, [] => m
  | m, x :: xs => maxD (if ltD m x then x else m) xs

mutual
/-- plain data as the library has it -/
def D.pd : D → PyData
  | .bool b => .bool b
  | .int i => .int i
  | .str s => .str s
  | .tup xs => .tuple (pds xs)
  | .lst xs => .list (pds xs)
  | _ => .none
def pds : List D → List PyData
  | [] => []
  | x :: xs => D.pd x :: pds xs
end
def D.shown (d : D) : Str := d.pd.shown
/-- what repr is asked of -/
def D.reprOk (d : D) : Bool := d.cmpOk && d.pd.showable && decide (d.shown.length ≤ 16777216)

/-- the built-ins -/
inductive Bf where
  | len | tuple | list | dict | set | sorted | all | any | sum | max | min | abs | int | str | repr | isinst (ts : List Str) | range
  deriving DecidableEq

/-- the classes of a value, by the program's table of exceptions: sub c t, c is t or below it -/
def isOf (sub : Str → Str → Bool) (d : D) (t : Str) : Bool := match d with
  | .none => false
  | .bool _ => decide (t = "bool" ∨ t = "int")
  | .int _ => decide (t = "int")
  | .str _ => decide (t = "str")
  | .tup _ => decide (t = "tuple")
  | .lst _ => decide (t = "list")
  | .set _ => decide (t = "set")
  | .dct _ _ => decide (t = "dict")
  | .exc c _ => sub c t
  | _ => false
/-- what isinstance is asked of -/
def isiOk (d : D) (ts : List Str) : Bool := match d with
  | .none | .bool _ | .int _ | .str _ | .tup _ | .lst _ | .dct _ _ => ts.all fun t => decide (t = "bool" ∨ t = "int" ∨ t = "str" ∨ t = "tuple" ∨ t = "list" ∨ t = "dict")
  | _ => false

/-- the dict of pairs -/
def dictR (xs : List D) (Q : D → Prop) : Prop := optR (asPairs xs) fun ps => (keysOk (ps.map (·.1)) = true ∧ Sz ps.length) ∧ Q (.dct (dPuts [] [] ps).1 (dPuts [] [] ps).2)
def lenR : D → (D → Prop) → Prop
  | .str s, Q => s.length ≤ 16777216 ∧ Q (.int s.length)
  | .tup xs, Q => Q (.int xs.length)
  | .lst xs, Q => Q (.int xs.length)
  | .dct ks _, Q => Q (.int ks.length)
  | _, _ => False
def tupleR : D → (D → Prop) → Prop
  | .tup xs, Q => Q (.tup xs)
  | .lst xs, Q => Q (.tup xs)
  | _, _ => False
def listR : D → (D → Prop) → Prop
  | .tup xs, Q => Q (.lst xs)
  | .lst xs, Q => Q (.lst xs)
  | _, _ => False
def dictOfR : D → (D → Prop) → Prop
  | .dct ks vs, Q => Q (.dct ks vs)
  | .lst xs, Q => dictR xs Q
  | .tup xs, Q => dictR xs Q
  | _, _ => False
def setR : D → (D → Prop) → Prop
  | .lst xs, Q => (keysOk xs = true ∧ xs.length ≤ 1000) ∧ Q (.set (dedup [] xs))
  | _, _ => False
def sortedR : D → (D → Prop) → Prop
  | .rng _ _, _ => False
  | d, Q => itR d fun xs => (sortOk xs = true ∧ Sz xs.length) ∧ Q (.lst (sortD xs))
def onL {α : Type} (f : List D → Option α) (R : α → Prop) : D → Prop
  | .lst xs => optR (f xs) R
  | _ => False
def absR : D → (D → Prop) → Prop
  | .int a, Q => Q (.int (if a < 0 then -a else a))
  | _, _ => False
def intR : D → (D → Prop) → Prop
  | .int a, Q => Q (.int a)
  | .bool b, Q => Q (.int (if b then 1 else 0))
  | _, _ => False
def strR : D → (D → Prop) → Prop
  | .int a, Q => a.natAbs.log2 < 1920 ∧ Q (.str (toString a : String))
  | _, _ => False
def rangeR : D → (D → Prop) → Prop
  | .int b, Q => small62 b ∧ Q (.rng 0 b)
  | _, _ => False
/-- a built-in called with one value -/
def blt1 (sub : Str → Str → Bool) (b : Bf) (d : D) (Q : D → Prop) : Prop := match b with
  | .len => lenR d Q
  | .tuple => tupleR d Q
  | .list => listR d Q
  | .dict => dictOfR d Q
  | .set => setR d Q
  | .sorted => sortedR d Q
  | .all => onL boolsOf (fun bs => Q (.bool (bs.all id))) d
  | .any => onL boolsOf (fun bs => Q (.bool (bs.any id))) d
  | .sum => onL intsOf (fun ns => Q (.int ns.sum)) d
  | .max => onL intsOf (fun ns => ns ≠ [] ∧ ∀ m, m ∈ ns → (∀ y, y ∈ ns → y ≤ m) → Q (.int m)) d
  | .min => onL intsOf (fun ns => ns ≠ [] ∧ ∀ m, m ∈ ns → (∀ y, y ∈ ns → m ≤ y) → Q (.int m)) d
  | .abs => absR d Q
  | .int => intR d Q
  | .str => strR d Q
  | .repr => d.reprOk = true ∧ Q (.str d.shown)
  | .isinst ts => isiOk d ts = true ∧ Q (.bool (ts.any (isOf sub d)))
  | .range => rangeR d Q
/-- with two -/
def blt2 (b : Bf) (x y : D) (Q : D → Prop) : Prop := match b, x, y with
  | .max, .int a, .int b => Q (.int (if b > a then b else a))
  | .min, .int a, .int b => Q (.int (if b < a then b else a))
  | .range, .int a, .int b => small62 a ∧ small62 b ∧ Q (.rng a b)
  | _, _, _ => False
/-- a built-in called with values -/
def bltR (sub : Str → Str → Bool) (b : Bf) (ds : List D) (Q : D → Prop) : Prop := match ds with
  | [d] => blt1 sub b d Q
  | [x, y] => blt2 b x y Q
  | _ => False

/-! ### operators -/
inductive Op where
  | add | sub | mul | fdiv | mod | pow
  deriving DecidableEq
def small (i : Int) : Prop := -18446744073709551616 < i ∧ i < 18446744073709551616
def opR : Op → D → D → (D → Prop) → Prop
  | .add, .int a, .int b, Q => Q (.int (a + b))
  | .add, .str a, .str b, Q => a.length + b.length ≤ 16777216 ∧ Q (.str (a ++ b))
  | .add, .tup a, .tup b, Q => Sz (a.length + b.length) ∧ Q (.tup (a ++ b))
  | .add, .lst a, .lst b, Q => Sz (a.length + b.length) ∧ Q (.lst (a ++ b))
  | .sub, .int a, .int b, Q => Q (.int (a - b))
  | .mul, .int a, .int b, Q => (small a ∨ small b) ∧ Q (.int (a * b))
  | .mul, .tup a, .int b, Q => (a ≠ [] ∧ a.length ≤ 1000 ∧ 2 ≤ b ∧ b ≤ 1000) ∧ Q (.tup ((List.replicate b.toNat a).flatten))
  | .mul, .lst a, .int b, Q => (-9223372036854775808 ≤ b ∧ b < 9223372036854775808) ∧ Sz (a.length * b.toNat) ∧ Q (.lst ((List.replicate b.toNat a).flatten))
  | .fdiv, .int a, .int b, Q => (0 < b ∧ b < 1073741824) ∧ Q (.int (a / b))
  | .mod, .int a, .int b, Q => 0 < b ∧ Q (.int (a % b))
  | .pow, .int a, .int b, Q => (0 ≤ b ∧ b ≤ 1000000 ∧ a.natAbs < 18446744073709551616) ∧ Q (.int (a ^ b.toNat))
  | _, _, _, _ => False
inductive Cm where
  | eq | ne | lt | le | gt | ge | isIn | notIn
  deriving DecidableEq
/-- one text within another one -/
def strIn (x y : Str) : Bool := !(PySem.Builtin.Str.occurrences y x 0 y.length 1).isEmpty
def inR (x : D) : D → (Bool → Prop) → Prop
  | .lst ys, Q => (x.cmpOk && ys.all D.cmpOk) = true ∧ Q (ys.any fun y => pyEq y x)
  | .tup ys, Q => (x.cmpOk && ys.all D.cmpOk) = true ∧ Q (ys.any fun y => pyEq y x)
  | .dct ks _, Q => keyOk ks x = true ∧ Q (decide (x ∈ ks))
  | .str y, Q => match x with
    | .str z => Q (strIn z y)
    | _ => False
  | _, _ => False
def cmR : Cm → D → D → (Bool → Prop) → Prop
  | .eq, a, b, Q => (a.cmpOk && b.cmpOk) = true ∧ Q (pyEq a b)
  | .ne, a, b, Q => (a.cmpOk && b.cmpOk) = true ∧ Q (!pyEq a b)
  | .lt, .int a, .int b, Q => Q (decide (a < b))
  | .le, .int a, .int b, Q => Q (decide (a ≤ b))
  | .gt, .int a, .int b, Q => Q (decide (b < a))
  | .ge, .int a, .int b, Q => Q (decide (b ≤ a))
  | .lt, a, b, Q => (alk a b && a.cmpOk && b.cmpOk && !decide (a = .none)) = true ∧ Q (ltD a b)
  | .isIn, a, b, Q => inR a b Q
  | .notIn, a, b, Q => inR a b fun r => Q (!r)
  | _, _, _, _ => False
/-- the item at a place, from behind if it is below 0 -/
def atI {α : Type} (xs : List α) (i : Int) : Option α := if 0 ≤ i then xs[i.toNat]? else if 0 ≤ xs.length + i then xs[(xs.length + i).toNat]? else Option.none
def ixR : D → D → (D → Prop) → Prop
  | .lst xs, .int i, Q => match atI xs i with
    | some d => Q d
    | Option.none => False
  | .tup xs, .int i, Q => match atI xs i with
    | some d => Q d
    | Option.none => False
  | .str s, .int i, Q => s.length ≤ 16777216 ∧ match atI s.cps.toList i with
    | some c => Q (.str ⟨#[c]⟩)
    | Option.none => False
  | .dct ks vs, k, Q => keyOk ks k = true ∧ match dGet ks vs k with
    | some d => Q d
    | Option.none => False
  | _, _, _ => False
/-- an end of a slice: from behind if it is below 0, within 0 and n -/
def clip (n : Nat) (i : Int) : Nat := if i < 0 then (n + i).toNat else min n i.toNat
def cut {α : Type} (xs : List α) (lo hi : Option Int) : List α :=
  let a := match lo with
    | some i => clip xs.length i
    | Option.none => 0
  let b := match hi with
    | some i => clip xs.length i
    | Option.none => xs.length
  (xs.take b).drop a
/-- an end that is written or not -/
def endR : Option D → (Option Int → Prop) → Prop
  | Option.none, Q => Q Option.none
  | some (.int i), Q => Q (some i)
  | _, _ => False
def slR : D → Option Int → Option Int → (D → Prop) → Prop
  | .lst xs, lo, hi, Q => Q (.lst (cut xs lo hi))
  | .tup xs, lo, hi, Q => Q (.tup (cut xs lo hi))
  | .str s, lo, hi, Q => s.length ≤ 16777216 ∧ Q (.str ⟨(cut s.cps.toList lo hi).toArray⟩)
  | _, _, _, _ => False
/-- turned round: xs[::-1] -/
def revR : D → (D → Prop) → Prop
  | .lst xs, Q => Q (.lst xs.reverse)
  | .tup xs, Q => Q (.tup xs.reverse)
  | _, _ => False

/-! ### the syntax: names are numbers (slots) -/
mutual
/-- a target: a name, or several in a tuple -/
inductive T where
  | nm (i : Nat)
  | tp (ts : Ts)
inductive Ts where
  | nil
  | cons (t : T) (ts : Ts)
end
mutual
inductive E where
  /-- a name whose value nobody changes any more; a name whose list or dict may still be changed, only looked at -/
  | slot (i : Nat) | bor (i : Nat)
  | cst (d : D)
  /-- a constant of the module; a def as a value -/
  | glob (x : Str) (d : D) | fnv (f : Str)
  | bin (o : Op) (a b : E) | neg (a : E) | not_ (a : E)
  | cmp (c : Cm) (a b : E) | cmp2 (c c' : Cm) (a b d : E)
  | and_ (a b : E) | or_ (a b : E) | ite (c a b : E)
  /-- a is k, a is not k: k None or a truth value -/
  | isK (n : Bool) (a : E) (k : D)
  /-- f(..): all arguments in sequence; with keywords: as written, pm says which one each parameter takes -/
  | call (f : Str) (es : Es) | callK (f : Str) (n : Nat) (es : Es) (pm : List Nat) | callV (i : Nat) (es : Es)
  | blt (b : Bf) (es : Es)
  | ix (a i : E) | sl (a : E) (lo hi : Oe) | rev (a : E)
  | tup (es : Es) | lst (es : Es) | dict (ks vs : Es)
  | lc (own : List Nat) (e : E) (c : Cl) | sc (own : List Nat) (e : E) (c : Cl) | dc (own : List Nat) (k v : E) (c : Cl)
  /-- e.value of an error -/
  | val (a : E)
  /-- a new list that is changed wherever it is known -/
  | mkO (e : E)
  | get (a k x : E)
  /-- sorted(a, key=lambda i: k) -/
  | sortK (a : E) (i : Nat) (k : E)
inductive Es where
  | nil
  | cons (e : E) (es : Es)
inductive Oe where
  | none
  | some (e : E)
/-- what is walked -/
inductive It where
  | ex (e : E) | lk (i : Nat) | rg (es : Es) | zip (es : Es) | enum (e : E) | items (e : E) | vals (e : E) | rev (e : E)
inductive Cl where
  | nil
  | for_ (t : T) (it : It) (ifs : Es) (c : Cl)
end
mutual
inductive Sm where
  | expr (e : E)
  | asg (t : T) (e : E)
  /-- a name takes a new list, dict or set that may be changed -/
  | own (i : Nat) (e : E)
  | aug (i : Nat) (o : Op) (e : E)
  /-- a list that is changed wherever it is known -/
  | setO (a k v : E)
  | setIx (i : Nat) (k v : E) | augIx (i : Nat) (k : E) (o : Op) (v : E)
  | app (i : Nat) (e : E) | ext (i : Nat) (e : E) | upd (i : Nat) (e : E) | sort (i : Nat)
  /-- x.setdefault(k, []).append(v); t = x.setdefault(k, v); if x.setdefault(k, v) != w -/
  | sdApp (i : Nat) (k v : E) | sdSet (t i : Nat) (k v : E) | ifSd (i : Nat) (k v w : E) (a b : Sms)
  | if_ (c : E) (a b : Sms)
  | for_ (t : T) (it : It) (body : Sms) | while_ (c : E) (body : Sms)
  | ret (e : E) | retN | brk | cnt | pass
  | raise (c : Str) (e : E)
  | try_ (body : Sms) (hs : Hs)
  /-- no statement of Python: from here on nobody changes what stands at i -/
  | frz (i : Nat)
inductive Sms where
  | nil
  | cons (s : Sm) (ss : Sms)
inductive Hs where
  | nil
  | cons (cs : List Str) (i : Option Nat) (ss : Sms) (hs : Hs)
end
def Es.ofList : List E → Es
  | [] => .nil
  | e :: es => .cons e (Es.ofList es)
def Ts.ofList : List T → Ts
  | [] => .nil
  | e :: es => .cons e (Ts.ofList es)
def Sms.ofList : List Sm → Sms
  | [] => .nil
  | e :: es => .cons e (Sms.ofList es)

/-! ### the state -/
/-- objects that are changed wherever they are known -/
inductive Ob where
  | inst (c : Str) (fs : List (Str × D))
  | dct (ks vs : List D)
  | lst (xs : List D)
structure Sto where
  obs : List Ob
abbrev Loc := List (Option D)
abbrev KD := D → Sto → Prop
abbrev KL := Loc → Sto → Prop
abbrev CallS := Str → List D → Sto → KD → KD → Prop
def getL : Loc → Nat → (D → Prop) → Prop
  | some d :: _, 0, Q => Q d
  | _ :: l, i + 1, Q => getL l i Q
  | _, _, _ => False
def wipe (l : Loc) : List Nat → Loc
  | [] => l
  | i :: is => wipe (l.set i none) is
mutual
def asT : T → D → Loc → (Loc → Prop) → Prop
  | .nm i, d, l, Q => i < l.length ∧ Q (l.set i (some d))
  | .tp ts, .tup ds, l, Q => asTs ts ds l Q
  | .tp _, _, _, _ => False
def asTs : Ts → List D → Loc → (Loc → Prop) → Prop
  | .nil, [], l, Q => Q l
  | .cons t ts, d :: ds, l, Q => asT t d l fun l' => asTs ts ds l' Q
  | _, _, _, _ => False
end
/-- a[i], a a thing of the store too -/
def ixO (st : Sto) (x y : D) (Q : D → Prop) : Prop := match x, y with
  | .ref n, .int i => match st.obs[n]? with
    | some (.lst xs) => match atI xs i with
      | some d => Q d
      | none => False
    | _ => False
  | x, y => ixR x y Q
/-- a[i] = v, a a thing of the store -/
def setOR (st : Sto) (x y v : D) (Q : Sto → Prop) : Prop := match x, y with
  | .ref n, .int j => match st.obs[n]? with
    | some (.lst xs) => (0 ≤ j ∧ j < xs.length) ∧ Q { st with obs := st.obs.set n (.lst (xs.set j.toNat v)) }
    | _ => False
  | _, _ => False
def mkOR (st : Sto) (x : D) (Q : D → Sto → Prop) : Prop := match x with
  | .lst xs => Q (.ref st.obs.length) { st with obs := st.obs ++ [.lst xs] }
  | _ => False
/-- one after another, something carried -/
def forL {α : Type} : List D → (D → α → Sto → (α → Sto → Prop) → Prop) → α → Sto → (α → Sto → Prop) → Prop
  | [], _, a, st, Q => Q a st
  | x :: xs, f, a, st, Q => f x a st fun a' st' => forL xs f a' st' Q
def pick (ds : List D) (pm : List Nat) : List D := pm.map fun j => ds.getD j .none
def seqR : List D → (List (List D) → Prop) → Prop
  | [], Q => Q []
  | d :: ds, Q => match d with
    | .lst xs => seqR ds fun r => Q (xs :: r)
    | .tup xs => seqR ds fun r => Q (xs :: r)
    | .str s => seqR ds fun r => Q (chars s :: r)
    | _ => False
def zipD : List (List D) → List D
  | [xs, ys] => List.zipWith (fun a b => .tup [a, b]) xs ys
  | [xs, ys, zs] => List.zipWith (fun a p => .tup (a :: p)) xs (List.zipWith (fun b c => [b, c]) ys zs)
  | _ => []
def enumD : Int → List D → List D
  | _, [] => []
  | i, x :: xs => .tup [.int i, x] :: enumD (i + 1) xs
/-- add to a set, put into a dict, append to a list -/
def addR (xs : List D) (x : D) (Q : List D → Prop) : Prop := keyOk xs x = true ∧ xs.length < 1000 ∧ Q (if x ∈ xs then xs else xs ++ [x])
def putR (p : List D × List D) (k v : D) (Q : List D × List D → Prop) : Prop := keyOk p.1 k = true ∧ p.1.length < 16777216 ∧ Q (dPutK p.1 k, dPutV p.1 p.2 k v)
def appR (xs : List D) (x : D) (Q : List D → Prop) : Prop := xs.length < 16777216 ∧ Q (xs ++ [x])

/-! ### the meaning: what must hold so that what is wanted holds behind it -/
abbrev noE : KD := fun _ _ => False
/-- what a comprehension has made: a list, a set: the first; a dict's keys and values -/
abbrev Acc := List D × List D
mutual
def wpE (sub : Str → Str → Bool) (C : CallS) : E → Loc → Sto → KD → KD → Prop
  | .slot i, l, st, Q, _ => getL l i fun d => Q d st
  | .bor i, l, st, Q, _ => getL l i fun d => Q d st
  | .cst d, _, st, Q, _ => Q d st
  | .glob _ d, _, st, Q, _ => Q d st
  | .fnv f, _, st, Q, _ => Q (.fn f) st
  | .bin o a b, l, st, Q, E => wpE sub C a l st (fun x st => wpE sub C b l st (fun y st => opR o x y fun r => Q r st) E) E
  | .neg a, l, st, Q, E => wpE sub C a l st (fun x st => match x with | .int i => Q (.int (-i)) st | _ => False) E
  | .not_ a, l, st, Q, E => wpE sub C a l st (fun x st => truR x fun b => Q (.bool (!b)) st) E
  | .cmp c a b, l, st, Q, E => wpE sub C a l st (fun x st => wpE sub C b l st (fun y st => cmR c x y fun r => Q (.bool r) st) E) E
  | .cmp2 c c' a b d, l, st, Q, E => wpE sub C a l st (fun x st => wpE sub C b l st (fun y st => cmR c x y fun r =>
      if r then wpE sub C d l st (fun z st => cmR c' y z fun r' => Q (.bool r') st) E else Q (.bool false) st) E) E
  | .and_ a b, l, st, Q, E => wpE sub C a l st (fun x st => truR x fun r => if r then wpE sub C b l st Q E else Q x st) E
  | .or_ a b, l, st, Q, E => wpE sub C a l st (fun x st => truR x fun r => if r then Q x st else wpE sub C b l st Q E) E
  | .ite c a b, l, st, Q, E => wpE sub C c l st (fun x st => truR x fun r => if r then wpE sub C a l st Q E else wpE sub C b l st Q E) E
  | .isK n a k, l, st, Q, E => wpE sub C a l st (fun x st => Q (.bool (if n then !decide (x = k) else decide (x = k))) st) E
  | .call f es, l, st, Q, E => wpEs sub C es l st (fun ds st => C f ds st Q E) E
  | .callK f _ es pm, l, st, Q, E => wpEs sub C es l st (fun ds st => C f (pick ds pm) st Q E) E
  | .callV i es, l, st, Q, E => getL l i fun f => match f with
    | .fn f => wpEs sub C es l st (fun ds st => C f ds st Q E) E
    | _ => False
  | .blt b es, l, st, Q, E => wpEs sub C es l st (fun ds st => bltR sub b ds fun r => Q r st) E
  | .ix a i, l, st, Q, E => wpE sub C a l st (fun x st => wpE sub C i l st (fun y st => ixO st x y fun r => Q r st) E) E
  | .sl a lo hi, l, st, Q, E => wpE sub C a l st (fun x st => wpO sub C lo l st (fun u st => endR u fun u => wpO sub C hi l st (fun v st => endR v fun v => slR x u v fun r => Q r st) E) E) E
  | .rev a, l, st, Q, E => wpE sub C a l st (fun x st => revR x fun r => Q r st) E
  | .tup es, l, st, Q, E => wpEs sub C es l st (fun ds st => Q (.tup ds) st) E
  | .lst es, l, st, Q, E => wpEs sub C es l st (fun ds st => Q (.lst ds) st) E
  | .dict ks vs, l, st, Q, E => wpEs sub C ks l st (fun ds st => wpEs sub C vs l st (fun es st => keysOk ds = true ∧ Q (.dct (dPuts [] [] (ds.zip es)).1 (dPuts [] [] (ds.zip es)).2) st) E) E
  | .lc own e c, l, st, Q, _ => wpC sub C c own (fun a l st K => wpE sub C e l st (fun x st => appR a.1 x fun xs => K (xs, []) st) noE) ([], []) l st fun a st => Q (.lst a.1) st
  | .sc own e c, l, st, Q, _ => wpC sub C c own (fun a l st K => wpE sub C e l st (fun x st => addR a.1 x fun xs => K (xs, []) st) noE) ([], []) l st fun a st => Q (.set a.1) st
  | .dc own k v c, l, st, Q, _ => wpC sub C c own (fun a l st K => wpE sub C k l st (fun x st => wpE sub C v l st (fun y st => putR a x y fun a => K a st) noE) noE) ([], []) l st fun a st => Q (.dct a.1 a.2) st
  | .mkO a, l, st, Q, E => wpE sub C a l st (fun x st => mkOR st x Q) E
  | .val a, l, st, Q, E => wpE sub C a l st (fun x st => match x with | .exc _ v => Q v st | _ => False) E
  | .get a k x, l, st, Q, E => wpE sub C a l st (fun d st => wpE sub C k l st (fun k st => wpE sub C x l st (fun y st => match d with
    | .dct ks vs => keyOk ks k = true ∧ Q ((dGet ks vs k).getD y) st
    | _ => False) E) E) E
  | .sortK a i k, l, st, Q, E => wpE sub C a l st (fun x st => itR x fun xs => forL xs (fun x ps st K => wpE sub C k (l.set i (some x)) st (fun y st => K (ps ++ [(y, x)]) st) noE) ([] : List (D × D)) st fun ps st =>
      sortOk (ps.map (·.1)) = true ∧ Sz ps.length ∧ Q (.lst ((ps.mergeSort fun a b => !ltD b.1 a.1).map (·.2))) st) E
def wpEs (sub : Str → Str → Bool) (C : CallS) : Es → Loc → Sto → (List D → Sto → Prop) → KD → Prop
  | .nil, _, st, Q, _ => Q [] st
  | .cons e es, l, st, Q, E => wpE sub C e l st (fun x st => wpEs sub C es l st (fun xs st => Q (x :: xs) st) E) E
def wpO (sub : Str → Str → Bool) (C : CallS) : Oe → Loc → Sto → (Option D → Sto → Prop) → KD → Prop
  | .none, _, st, Q, _ => Q none st
  | .some e, l, st, Q, E => wpE sub C e l st (fun x st => Q (some x) st) E
def wpI (sub : Str → Str → Bool) (C : CallS) : It → Loc → Sto → (List D → Sto → Prop) → KD → Prop
  | .ex e, l, st, Q, E => wpE sub C e l st (fun x st => walkR x fun xs => Q xs st) E
  | .lk i, l, st, Q, _ => getL l i fun d => match d with
    | .lst xs => Q xs st
    | _ => False
  | .rg es, l, st, Q, E => wpEs sub C es l st (fun ds st => rgR ds fun xs => Q xs st) E
  | .zip es, l, st, Q, E => wpEs sub C es l st (fun ds st => seqR ds fun xss => Q (zipD xss) st) E
  | .enum e, l, st, Q, E => wpE sub C e l st (fun x st => seqR [x] fun xss => Q (enumD 0 (xss.headD [])) st) E
  | .items e, l, st, Q, E => wpE sub C e l st (fun x st => match x with | .dct ks vs => Q (List.zipWith (fun a b => .tup [a, b]) ks vs) st | _ => False) E
  | .vals e, l, st, Q, E => wpE sub C e l st (fun x st => match x with | .dct _ vs => Q vs st | _ => False) E
  | .rev e, l, st, Q, E => wpE sub C e l st (fun x st => seqR [x] fun xss => Q (xss.headD []).reverse st) E
/-- the clauses of a comprehension behind its first source -/
def wpD (sub : Str → Str → Bool) (C : CallS) : Cl → (Acc → Loc → Sto → (Acc → Sto → Prop) → Prop) → Acc → Loc → Sto → (Acc → Sto → Prop) → Prop
  | .nil, f, a, l, st, Q => f a l st Q
  | .for_ t it ifs c, f, a, l, st, Q => wpI sub C it l st (fun xs st => forL xs (fun x a st K => asT t x l fun l => wpF sub C ifs l st (fun b st => if b then wpD sub C c f a l st K else K a st)) a st Q) noE
def wpC (sub : Str → Str → Bool) (C : CallS) : Cl → List Nat → (Acc → Loc → Sto → (Acc → Sto → Prop) → Prop) → Acc → Loc → Sto → (Acc → Sto → Prop) → Prop
  | .nil, _, _, _, _, _, _ => False
  | .for_ t it ifs c, own, f, a, l, st, Q => wpI sub C it l st (fun xs st => forL xs (fun x a st K => asT t x (wipe l own) fun l => wpF sub C ifs l st (fun b st => if b then wpD sub C c f a l st K else K a st)) a st Q) noE
/-- a clause's tests -/
def wpF (sub : Str → Str → Bool) (C : CallS) : Es → Loc → Sto → (Bool → Sto → Prop) → Prop
  | .nil, _, st, Q => Q true st
  | .cons e es, l, st, Q => wpE sub C e l st (fun x st => truR x fun b => if b then wpF sub C es l st Q else Q false st) noE
termination_by structural e => e
end
structure Kn where
  nx : KL
  rt : KD
  bk : KL
  ct : KL
  ex : D → Loc → Sto → Prop
/-- a while that ends within so many turns -/
def whL : Nat → (KL → Loc → Sto → Prop) → Loc → Sto → Prop
  | 0, _, _, _ => False
  | n + 1, f, l, st => f (whL n f) l st
/-- a loop's turns -/
def forS : List D → (D → KL → Loc → Sto → Prop) → KL → Loc → Sto → Prop
  | [], _, nx, l, st => nx l st
  | x :: xs, f, nx, l, st => f x (forS xs f nx) l st
mutual
def wpS (sub : Str → Str → Bool) (C : CallS) : Sm → Kn → Loc → Sto → Prop
  | .expr e, k, l, st => wpE sub C e l st (fun _ st => k.nx l st) fun x st => k.ex x l st
  | .asg t e, k, l, st => wpE sub C e l st (fun d st => asT t d l fun l => k.nx l st) fun x st => k.ex x l st
  | .own i e, k, l, st => wpE sub C e l st (fun d st => (d.isCon = true ∧ i < l.length) ∧ k.nx (l.set i (some d)) st) fun x st => k.ex x l st
  | .aug i o e, k, l, st => getL l i fun a => wpE sub C e l st (fun b st => opR o a b fun r => k.nx (l.set i (some r)) st) fun x st => k.ex x l st
  | .setO a i v, k, l, st => wpE sub C v l st (fun v st => wpE sub C a l st (fun a st => wpE sub C i l st (fun i st => setOR st a i v fun st => k.nx l st) fun x st => k.ex x l st) fun x st => k.ex x l st) fun x st => k.ex x l st
  | .setIx i a v, k, l, st => wpE sub C v l st (fun v st => getL l i fun d => wpE sub C a l st (fun a st => match d with
    | .dct ks vs => putR (ks, vs) a v fun p => k.nx (l.set i (some (.dct p.1 p.2))) st
    | _ => False) fun x st => k.ex x l st) fun x st => k.ex x l st
  | .augIx i a o v, k, l, st => wpE sub C a l st (fun a st => getL l i fun d => ixR d a fun old => wpE sub C v l st (fun v st => opR o old v fun r => match d with
    | .dct ks vs => putR (ks, vs) a r fun p => k.nx (l.set i (some (.dct p.1 p.2))) st
    | .lst xs => match a with
      | .int j => (0 ≤ j ∧ j < xs.length) ∧ k.nx (l.set i (some (.lst (xs.set j.toNat r)))) st
      | _ => False
    | _ => False) fun x st => k.ex x l st) fun x st => k.ex x l st
  | .app i e, k, l, st => getL l i fun d => match d with
    | .lst xs => wpE sub C e l st (fun x st => appR xs x fun xs => k.nx (l.set i (some (.lst xs))) st) fun x st => k.ex x l st
    | _ => False
  | .ext i e, k, l, st => getL l i fun d => match d with
    | .lst xs => wpE sub C e l st (fun x st => match x with
      | .lst ys => Sz (xs.length + ys.length) ∧ k.nx (l.set i (some (.lst (xs ++ ys)))) st
      | _ => False) fun x st => k.ex x l st
    | _ => False
  | .upd i e, k, l, st => getL l i fun d => match d with
    | .dct ks vs => wpE sub C e l st (fun x st => match x with
      | .dct ks' vs' => keysOk (ks ++ ks') = true ∧ Sz (ks.length + ks'.length) ∧ k.nx (l.set i (some (.dct (dPuts ks vs (ks'.zip vs')).1 (dPuts ks vs (ks'.zip vs')).2))) st
      | _ => False) fun x st => k.ex x l st
    | _ => False
  | .sort i, k, l, st => getL l i fun d => match d with
    | .lst xs => sortOk xs = true ∧ Sz xs.length ∧ k.nx (l.set i (some (.lst (sortD xs)))) st
    | _ => False
  | .sdApp i a v, k, l, st => wpE sub C a l st (fun a st => wpE sub C v l st (fun v st => getL l i fun d => match d with
    | .dct ks vs => match dGet ks vs a with
      | some (.lst xs) => keyOk ks a = true ∧ appR xs v fun xs => k.nx (l.set i (some (.dct (dPutK ks a) (dPutV ks vs a (.lst xs))))) st
      | some _ => False
      | none => putR (ks, vs) a (.lst [v]) fun p => k.nx (l.set i (some (.dct p.1 p.2))) st
    | _ => False) fun x st => k.ex x l st) fun x st => k.ex x l st
  | .sdSet t i a v, k, l, st => wpE sub C a l st (fun a st => wpE sub C v l st (fun v st => getL l i fun d => match d with
    | .dct ks vs => match dGet ks vs a with
      | some y => keyOk ks a = true ∧ t < l.length ∧ k.nx (l.set t (some y)) st
      | none => putR (ks, vs) a v fun p => t < l.length ∧ k.nx ((l.set i (some (.dct p.1 p.2))).set t (some v)) st
    | _ => False) fun x st => k.ex x l st) fun x st => k.ex x l st
  | .ifSd i a v w x y, k, l, st => wpE sub C a l st (fun a st => wpE sub C v l st (fun v st => getL l i fun d => match d with
    | .dct ks vs => match dGet ks vs a with
      | some y' => keyOk ks a = true ∧ wpE sub C w l st (fun w st => cmR .ne y' w fun r => if r then wpSs sub C x k l st else wpSs sub C y k l st) (fun x st => k.ex x l st)
      | none => putR (ks, vs) a v fun p => wpE sub C w (l.set i (some (.dct p.1 p.2))) st (fun w st => cmR .ne v w fun r =>
          if r then wpSs sub C x k (l.set i (some (.dct p.1 p.2))) st else wpSs sub C y k (l.set i (some (.dct p.1 p.2))) st) (fun x st => k.ex x (l.set i (some (.dct p.1 p.2))) st)
    | _ => False) fun x st => k.ex x l st) fun x st => k.ex x l st
  | .if_ c a b, k, l, st => wpE sub C c l st (fun x st => truR x fun r => if r then wpSs sub C a k l st else wpSs sub C b k l st) fun x st => k.ex x l st
  | .for_ t it body, k, l, st => wpI sub C it l st (fun xs st => forS xs (fun x nx l st => asT t x l fun l => wpSs sub C body { k with nx := nx, ct := nx, bk := k.nx } l st) k.nx l st) fun x st => k.ex x l st
  | .while_ c body, k, l, st => ∃ n, whL n (fun nx l st => wpE sub C c l st (fun x st => truR x fun r => if r then wpSs sub C body { k with nx := nx, ct := nx, bk := k.nx } l st else k.nx l st) fun x st => k.ex x l st) l st
  | .ret e, k, l, st => wpE sub C e l st k.rt fun x st => k.ex x l st
  | .retN, k, _, st => k.rt .none st
  | .brk, k, l, st => k.bk l st
  | .cnt, k, l, st => k.ct l st
  | .pass, k, l, st => k.nx l st
  | .raise c e, k, l, st => wpE sub C e l st (fun d st => k.ex (.exc c d) l st) fun x st => k.ex x l st
  | .try_ body hs, k, l, st => wpSs sub C body { k with ex := fun x l st => wpH sub C hs x k l st } l st
  | .frz _, k, l, st => k.nx l st
def wpSs (sub : Str → Str → Bool) (C : CallS) : Sms → Kn → Loc → Sto → Prop
  | .nil, k, l, st => k.nx l st
  | .cons s ss, k, l, st => wpS sub C s { k with nx := fun l st => wpSs sub C ss k l st } l st
def wpH (sub : Str → Str → Bool) (C : CallS) : Hs → D → Kn → Loc → Sto → Prop
  | .nil, x, k, l, st => k.ex x l st
  | .cons cs i ss hs, x, k, l, st => if cs.any (isOf sub x) then
      match i with
      | some i => i < l.length ∧ wpSs sub C ss { nx := fun l st => k.nx (l.set i none) st, rt := k.rt, bk := fun l st => k.bk (l.set i none) st, ct := fun l st => k.ct (l.set i none) st, ex := fun _ _ _ => False } (l.set i (some x)) st
      | none => wpSs sub C ss { k with ex := fun _ _ _ => False } l st
    else wpH sub C hs x k l st
termination_by structural e => e
end

/-! ### defs -/
inductive Df where
  /-- so many parameters, so many names in all -/
  | body (ps n : Nat) (ss : Sms)
/-- the text: its defs, its classes of errors -/
structure Tab where
  fn : Str → Option Df
  sub : Str → Str → Bool
def wpCall (P : Tab) : Nat → CallS
  | 0, _, _, _, _, _ => False
  | n + 1, f, ds, st, Q, E => match P.fn f with
    | some (.body ps m ss) => ds.length = ps ∧ wpSs P.sub (wpCall P n) ss { nx := fun _ st => Q .none st, rt := Q, bk := fun _ _ => False, ct := fun _ _ => False, ex := fun x _ st => E x st } (ds.map some ++ List.replicate (m - ps) none) st
    | none => False
end Py
end

section
set_option autoImplicit false
set_option maxHeartbeats 4000000
set_option linter.all false
/-! Mono: what is wanted may be weakened. -/
namespace Py
open PySem (Str)

theorem truR_mono {d : D} {Q Q' : Bool → Prop} (h : ∀ b, Q b → Q' b) : truR d Q → truR d Q' := by
  unfold truR
  split
  · exact h _
  · exact id
theorem itR_mono {d : D} {Q Q' : List D → Prop} (h : ∀ b, Q b → Q' b) : itR d Q → itR d Q' := by
  unfold itR
  split <;> first | exact h _ | exact id | exact fun g ys p => h _ (g ys p)
theorem walkR_mono {d : D} {Q Q' : List D → Prop} (h : ∀ b, Q b → Q' b) (g : walkR d Q) : walkR d Q' := by
  cases d <;> simp only [walkR] at g ⊢ <;> first | exact itR_mono h g | exact ⟨g.1, h _ g.2⟩
theorem rgR_mono {ds : List D} {Q Q' : List D → Prop} (h : ∀ b, Q b → Q' b) (g : rgR ds Q) : rgR ds Q' := by
  unfold rgR at g ⊢
  split at g <;> first | exact ⟨g.1, h _ g.2⟩ | exact g
theorem optR_mono {α : Type} {Q Q' : α → Prop} (h : ∀ b, Q b → Q' b) : ∀ (o : Option α), optR o Q → optR o Q'
  | some a => h a
  | none => id
theorem dictR_mono {xs : List D} {Q Q' : D → Prop} (h : ∀ d, Q d → Q' d) : dictR xs Q → dictR xs Q' := optR_mono (fun _ q => ⟨q.1, h _ q.2⟩) _
theorem lenR_mono {d : D} {Q Q' : D → Prop} (h : ∀ d, Q d → Q' d) (g : lenR d Q) : lenR d Q' := by
  cases d <;> simp only [lenR] at g ⊢ <;> first | exact h _ g | exact ⟨g.1, h _ g.2⟩
theorem tupleR_mono {d : D} {Q Q' : D → Prop} (h : ∀ d, Q d → Q' d) (g : tupleR d Q) : tupleR d Q' := by
  cases d <;> simp only [tupleR] at g ⊢ <;> exact h _ g
theorem listR_mono {d : D} {Q Q' : D → Prop} (h : ∀ d, Q d → Q' d) (g : listR d Q) : listR d Q' := by
  cases d <;> simp only [listR] at g ⊢ <;> exact h _ g
theorem dictOfR_mono {d : D} {Q Q' : D → Prop} (h : ∀ d, Q d → Q' d) (g : dictOfR d Q) : dictOfR d Q' := by
  cases d <;> simp only [dictOfR] at g ⊢ <;> first | exact h _ g | exact dictR_mono h g
theorem setR_mono {d : D} {Q Q' : D → Prop} (h : ∀ d, Q d → Q' d) (g : setR d Q) : setR d Q' := by
  cases d <;> simp only [setR] at g ⊢ <;> exact ⟨g.1, h _ g.2⟩
theorem sortedR_mono {d : D} {Q Q' : D → Prop} (h : ∀ d, Q d → Q' d) (g : sortedR d Q) : sortedR d Q' := by
  cases d <;> simp only [sortedR] at g ⊢ <;> exact itR_mono (fun xs q => ⟨q.1, h _ q.2⟩) g
theorem onL_mono {α : Type} {f : List D → Option α} {R R' : α → Prop} (h : ∀ a, R a → R' a) {d : D} (g : onL f R d) : onL f R' d := by
  cases d <;> simp only [onL] at g ⊢ <;> exact optR_mono h _ g
theorem blt1_mono {sub : Str → Str → Bool} {b : Bf} {d : D} {Q Q' : D → Prop} (h : ∀ d, Q d → Q' d) (g : blt1 sub b d Q) : blt1 sub b d Q' := by
  cases b <;> simp only [blt1] at g ⊢
  · exact lenR_mono h g
  · exact tupleR_mono h g
  · exact listR_mono h g
  · exact dictOfR_mono h g
  · exact setR_mono h g
  · exact sortedR_mono h g
  · exact onL_mono (fun _ => h _) g
  · exact onL_mono (fun _ => h _) g
  · exact onL_mono (fun _ => h _) g
  · exact onL_mono (fun _ q => ⟨q.1, fun m h1 h2 => h _ (q.2 m h1 h2)⟩) g
  · exact onL_mono (fun _ q => ⟨q.1, fun m h1 h2 => h _ (q.2 m h1 h2)⟩) g
  · cases d <;> simp only [absR] at g ⊢ <;> exact h _ g
  · cases d <;> simp only [intR] at g ⊢ <;> exact h _ g
  · cases d <;> simp only [strR] at g ⊢ <;> exact ⟨g.1, h _ g.2⟩
  · exact ⟨g.1, h _ g.2⟩
  · exact ⟨g.1, h _ g.2⟩
  · cases d <;> simp only [rangeR] at g ⊢ <;> exact ⟨g.1, h _ g.2⟩
theorem blt2_mono {b : Bf} {x y : D} {Q Q' : D → Prop} (h : ∀ d, Q d → Q' d) (g : blt2 b x y Q) : blt2 b x y Q' := by
  unfold blt2 at g ⊢
  split at g <;> first | exact h _ g | exact ⟨g.1, g.2.1, h _ g.2.2⟩ | exact g.elim
theorem bltR_mono {sub : Str → Str → Bool} {b : Bf} {ds : List D} {Q Q' : D → Prop} (h : ∀ d, Q d → Q' d) (g : bltR sub b ds Q) : bltR sub b ds Q' := by
  match ds, g with
  | [], g => exact g.elim
  | [_], g => exact blt1_mono h g
  | [_, _], g => exact blt2_mono h g
  | _ :: _ :: _ :: _, g => exact g.elim
theorem opR_mono {o : Op} {a b : D} {Q Q' : D → Prop} (h : ∀ d, Q d → Q' d) : opR o a b Q → opR o a b Q' := by
  intro g
  unfold opR at g ⊢
  split at g <;> first
    | exact g.elim
    | exact h _ g
    | exact ⟨g.1, h _ g.2⟩
    | exact ⟨g.1, g.2.1, h _ g.2.2⟩
theorem inR_mono {a b : D} {Q Q' : Bool → Prop} (h : ∀ d, Q d → Q' d) : inR a b Q → inR a b Q' := by
  intro g
  unfold inR at g ⊢
  split at g <;> first
    | exact g.elim
    | exact h _ g
    | exact ⟨g.1, h _ g.2⟩
    | (split at g <;> first | exact g.elim | exact h _ g)
theorem cmR_mono {c : Cm} {a b : D} {Q Q' : Bool → Prop} (h : ∀ d, Q d → Q' d) : cmR c a b Q → cmR c a b Q' := by
  intro g
  unfold cmR at g ⊢
  split at g <;> first
    | exact g.elim
    | exact h _ g
    | exact ⟨g.1, h _ g.2⟩
    | exact inR_mono h g
    | exact inR_mono (fun r q => h _ q) g
theorem ixR_mono {a b : D} {Q Q' : D → Prop} (h : ∀ d, Q d → Q' d) : ixR a b Q → ixR a b Q' := by
  intro g
  unfold ixR at g ⊢
  split at g <;> first
    | exact g.elim
    | (split at g <;> first | exact g.elim | exact h _ g)
    | (refine ⟨g.1, ?_⟩; have g := g.2; split at g <;> first | exact g.elim | exact h _ g)
theorem ixO_mono {st : Sto} {a b : D} {Q Q' : D → Prop} (h : ∀ d, Q d → Q' d) : ixO st a b Q → ixO st a b Q' := by
  intro g
  unfold ixO at g ⊢
  split at g
  · split at g
    · split at g
      · exact h _ g
      · exact g.elim
    · exact g.elim
  · exact ixR_mono h g
theorem setOR_mono {st : Sto} {a b v : D} {Q Q' : Sto → Prop} (h : ∀ d, Q d → Q' d) : setOR st a b v Q → setOR st a b v Q' := by
  intro g
  unfold setOR at g ⊢
  split at g
  · split at g
    · exact ⟨g.1, h _ g.2⟩
    · exact g.elim
  · exact g.elim
theorem mkOR_mono {st : Sto} {a : D} {Q Q' : D → Sto → Prop} (h : ∀ d st, Q d st → Q' d st) : mkOR st a Q → mkOR st a Q' := by
  intro g
  unfold mkOR at g ⊢
  split at g
  · exact h _ _ g
  · exact g.elim
theorem endR_mono {a : Option D} {Q Q' : Option Int → Prop} (h : ∀ d, Q d → Q' d) : endR a Q → endR a Q' := by
  intro g
  unfold endR at g ⊢
  split at g <;> first
    | exact g.elim
    | exact h _ g
    | exact ⟨g.1, h _ g.2⟩
theorem slR_mono {a : D} {u v : Option Int} {Q Q' : D → Prop} (h : ∀ d, Q d → Q' d) : slR a u v Q → slR a u v Q' := by
  intro g
  unfold slR at g ⊢
  split at g <;> first
    | exact g.elim
    | exact h _ g
    | exact ⟨g.1, h _ g.2⟩
theorem revR_mono {a : D} {Q Q' : D → Prop} (h : ∀ d, Q d → Q' d) : revR a Q → revR a Q' := by
  intro g
  unfold revR at g ⊢
  split at g <;> first
    | exact g.elim
    | exact h _ g
theorem getL_mono {Q Q' : D → Prop} (h : ∀ d, Q d → Q' d) : ∀ (l : Loc) (i : Nat), getL l i Q → getL l i Q'
  | some d :: _, 0 => h _
  | none :: _, 0 => id
  | [], _ => by unfold getL; exact id
  | some _ :: l, i + 1 => getL_mono h l i
  | none :: l, i + 1 => getL_mono h l i
mutual
theorem asT_mono {Q Q' : Loc → Prop} (h : ∀ l, Q l → Q' l) : ∀ (t : T) (d : D) (l : Loc), asT t d l Q → asT t d l Q'
  | .nm i, d, l => fun g => ⟨g.1, h _ g.2⟩
  | .tp ts, d, l => by
    intro g
    unfold asT at g ⊢
    split at g <;> first
      | (rename_i e; cases e; done)
      | exact g.elim
      | skip
    all_goals (simp_all; try exact asTs_mono h _ _ _ g)
theorem asTs_mono {Q Q' : Loc → Prop} (h : ∀ l, Q l → Q' l) : ∀ (t : Ts) (d : List D) (l : Loc), asTs t d l Q → asTs t d l Q'
  | .nil, d, l => by
    intro g
    unfold asTs at g ⊢
    cases d
    · exact h _ g
    · exact g.elim
  | .cons t ts, d, l => by
    intro g
    unfold asTs at g ⊢
    cases d
    · exact g.elim
    · exact asT_mono (fun l q => asTs_mono h ts _ l q) t _ l g
end
theorem forL_mono {α : Type} {f f' : D → α → Sto → (α → Sto → Prop) → Prop} {Q Q' : α → Sto → Prop} (hf : ∀ x a st K K', (∀ a st, K a st → K' a st) → f x a st K → f' x a st K') (h : ∀ a st, Q a st → Q' a st) :
    ∀ (xs : List D) (a : α) (st : Sto), forL xs f a st Q → forL xs f' a st Q'
  | [], _, _ => h _ _
  | x :: xs, a, st => hf _ _ _ _ _ fun a st => forL_mono hf h xs a st
theorem seqR_mono {Q Q' : List (List D) → Prop} (h : ∀ l, Q l → Q' l) : ∀ ds : List D, seqR ds Q → seqR ds Q' := by
  intro ds
  induction ds generalizing Q Q' with
  | nil => exact h _
  | cons d ds ih =>
    intro g
    unfold seqR at g ⊢
    split at g <;> first
      | exact g.elim
      | exact ih (fun r q => h _ q) g
theorem addR_mono {xs : List D} {x : D} {Q Q' : List D → Prop} (h : ∀ l, Q l → Q' l) : addR xs x Q → addR xs x Q' := fun g => ⟨g.1, g.2.1, h _ g.2.2⟩
theorem appR_mono {xs : List D} {x : D} {Q Q' : List D → Prop} (h : ∀ l, Q l → Q' l) : appR xs x Q → appR xs x Q' := fun g => ⟨g.1, h _ g.2⟩
theorem putR_mono {p : List D × List D} {k v : D} {Q Q' : List D × List D → Prop} (h : ∀ l, Q l → Q' l) : putR p k v Q → putR p k v Q' := fun g => ⟨g.1, g.2.1, h _ g.2.2⟩

def CMono (C : CallS) : Prop := ∀ f ds st (Q Q' E E' : KD), (∀ d st, Q d st → Q' d st) → (∀ d st, E d st → E' d st) → C f ds st Q E → C f ds st Q' E'
section
variable {sub : Str → Str → Bool} {C : CallS} (hC : CMono C)
include hC
mutual
theorem wpE_mono : ∀ (e : E) {l : Loc} {st : Sto} {Q Q' X X' : KD}, (∀ d st, Q d st → Q' d st) → (∀ d st, X d st → X' d st) → wpE sub C e l st Q X → wpE sub C e l st Q' X'
  | .slot i, _, _, _, _, _, _, h, _ => getL_mono (fun d => h d _) _ _
  | .bor i, _, _, _, _, _, _, h, _ => getL_mono (fun d => h d _) _ _
  | .cst d, _, _, _, _, _, _, h, _ => h _ _
  | .glob _ d, _, _, _, _, _, _, h, _ => h _ _
  | .fnv f, _, _, _, _, _, _, h, _ => h _ _
  | .bin o a b, _, _, _, _, _, _, h, k => wpE_mono a (fun x st => wpE_mono b (fun y st => opR_mono fun r => h r st) k) k
  | .neg a, _, _, _, _, _, _, h, k => wpE_mono a (fun x st => by cases x <;> first | exact h _ _ | exact id) k
  | .not_ a, _, _, _, _, _, _, h, k => wpE_mono a (fun x st => truR_mono fun b => h _ _) k
  | .cmp c a b, _, _, _, _, _, _, h, k => wpE_mono a (fun x st => wpE_mono b (fun y st => cmR_mono fun r => h _ st) k) k
  | .cmp2 c c' a b d, _, _, _, _, _, _, h, k => wpE_mono a (fun x st => wpE_mono b (fun y st => cmR_mono fun r => by
      cases r
      · exact h _ _
      · exact wpE_mono d (fun z st => cmR_mono fun r => h _ _) k) k) k
  | .and_ a b, _, _, _, _, _, _, h, k => wpE_mono a (fun x st => truR_mono fun r => by
      cases r
      · exact h _ _
      · exact wpE_mono b h k) k
  | .or_ a b, _, _, _, _, _, _, h, k => wpE_mono a (fun x st => truR_mono fun r => by
      cases r
      · exact wpE_mono b h k
      · exact h _ _) k
  | .ite c a b, _, _, _, _, _, _, h, k => wpE_mono c (fun x st => truR_mono fun r => by
      cases r
      · exact wpE_mono b h k
      · exact wpE_mono a h k) k
  | .isK n a d, _, _, _, _, _, _, h, k => wpE_mono a (fun x st => h _ _) k
  | .call f es, _, _, _, _, _, _, h, k => wpEs_mono es (fun ds st => hC _ _ _ _ _ _ _ h k) k
  | .callK f n es pm, _, _, _, _, _, _, h, k => wpEs_mono es (fun ds st => hC _ _ _ _ _ _ _ h k) k
  | .callV i es, _, _, _, _, _, _, h, k => getL_mono (fun f => by
      cases f <;> first | exact id | exact wpEs_mono es (fun ds st => hC _ _ _ _ _ _ _ h k) k) _ _
  | .blt b es, _, _, _, _, _, _, h, k => wpEs_mono es (fun ds st => bltR_mono fun r => h r st) k
  | .ix a i, _, _, _, _, _, _, h, k => wpE_mono a (fun x st => wpE_mono i (fun y st => ixO_mono fun r => h r st) k) k
  | .sl a lo hi, _, _, _, _, _, _, h, k => wpE_mono a (fun x st => wpO_mono lo (fun u st => endR_mono fun u => wpO_mono hi (fun v st => endR_mono fun v => slR_mono fun r => h r st) k) k) k
  | .rev a, _, _, _, _, _, _, h, k => wpE_mono a (fun x st => revR_mono fun r => h r st) k
  | .tup es, _, _, _, _, _, _, h, k => wpEs_mono es (fun ds st => h _ _) k
  | .lst es, _, _, _, _, _, _, h, k => wpEs_mono es (fun ds st => h _ _) k
  | .dict ks vs, _, _, _, _, _, _, h, k => wpEs_mono ks (fun ds st => wpEs_mono vs (fun es st g => ⟨g.1, h _ _ g.2⟩) k) k
  | .lc own e c, _, _, _, _, _, _, h, _ => wpC_mono c (fun a l st K K' hK => wpE_mono e (fun x st => appR_mono fun xs => hK _ _) fun _ _ => id) fun a st => h _ _
  | .sc own e c, _, _, _, _, _, _, h, _ => wpC_mono c (fun a l st K K' hK => wpE_mono e (fun x st => addR_mono fun xs => hK _ _) fun _ _ => id) fun a st => h _ _
  | .dc own k v c, _, _, _, _, _, _, h, _ => wpC_mono c (fun a l st K K' hK => wpE_mono k (fun x st => wpE_mono v (fun y st => putR_mono fun xs => hK _ _) fun _ _ => id) fun _ _ => id) fun a st => h _ _
  | .mkO a, _, _, _, _, _, _, h, k => wpE_mono a (fun x st => mkOR_mono h) k
  | .val a, _, _, _, _, _, _, h, k => wpE_mono a (fun x st => by cases x <;> first | exact h _ _ | exact id) k
  | .get a b x, _, _, _, _, _, _, h, k => wpE_mono a (fun d st => wpE_mono b (fun kk st => wpE_mono x (fun y st => by cases d <;> first | exact fun g => ⟨g.1, h _ _ g.2⟩ | exact id) k) k) k
  | .sortK a i b, _, _, _, _, _, _, h, k => wpE_mono a (fun x st => itR_mono fun xs g => by
      refine forL_mono ?_ ?_ _ _ _ g
      · exact fun x a st K K' hK => wpE_mono b (fun y st => hK _ _) fun _ _ => id
      · exact fun ps st g => ⟨g.1, g.2.1, h _ _ g.2.2⟩) k
theorem wpEs_mono : ∀ (e : Es) {l : Loc} {st : Sto} {Q Q' : List D → Sto → Prop} {X X' : KD}, (∀ d st, Q d st → Q' d st) → (∀ d st, X d st → X' d st) → wpEs sub C e l st Q X → wpEs sub C e l st Q' X'
  | .nil, _, _, _, _, _, _, h, _ => h _ _
  | .cons e es, _, _, _, _, _, _, h, k => wpE_mono e (fun x st => wpEs_mono es (fun xs st => h _ _) k) k
theorem wpO_mono : ∀ (e : Oe) {l : Loc} {st : Sto} {Q Q' : Option D → Sto → Prop} {X X' : KD}, (∀ d st, Q d st → Q' d st) → (∀ d st, X d st → X' d st) → wpO sub C e l st Q X → wpO sub C e l st Q' X'
  | .none, _, _, _, _, _, _, h, _ => h _ _
  | .some e, _, _, _, _, _, _, h, k => wpE_mono e (fun x st => h _ _) k
theorem wpI_mono : ∀ (e : It) {l : Loc} {st : Sto} {Q Q' : List D → Sto → Prop} {X X' : KD}, (∀ d st, Q d st → Q' d st) → (∀ d st, X d st → X' d st) → wpI sub C e l st Q X → wpI sub C e l st Q' X'
  | .ex e, _, _, _, _, _, _, h, k => wpE_mono e (fun x st => walkR_mono fun xs => h _ _) k
  | .lk i, _, _, _, _, _, _, h, k => getL_mono (fun d => by
      intro g
      cases d <;> first | exact h _ _ g | exact g) _ _
  | .rg es, _, _, _, _, _, _, h, k => wpEs_mono es (fun ds st => rgR_mono fun xs => h _ _) k
  | .zip es, _, _, _, _, _, _, h, k => wpEs_mono es (fun ds st => seqR_mono (fun xss => h _ _) _) k
  | .enum e, _, _, _, _, _, _, h, k => wpE_mono e (fun x st => seqR_mono (fun xss => h _ _) _) k
  | .items e, _, _, _, _, _, _, h, k => wpE_mono e (fun x st => by cases x <;> first | exact h _ _ | exact id) k
  | .vals e, _, _, _, _, _, _, h, k => wpE_mono e (fun x st => by cases x <;> first | exact h _ _ | exact id) k
  | .rev e, _, _, _, _, _, _, h, k => wpE_mono e (fun x st => seqR_mono (fun xss => h _ _) _) k
theorem wpD_mono : ∀ (c : Cl) {f f' : Acc → Loc → Sto → (Acc → Sto → Prop) → Prop} {a : Acc} {l : Loc} {st : Sto} {Q Q' : Acc → Sto → Prop}, (∀ a l st K K', (∀ a st, K a st → K' a st) → f a l st K → f' a l st K') → (∀ a st, Q a st → Q' a st) →
    wpD sub C c f a l st Q → wpD sub C c f' a l st Q'
  | .nil, _, _, _, _, _, _, _, hf, h => hf _ _ _ _ _ h
  | .for_ t it ifs c, _, _, _, _, _, _, _, hf, h => wpI_mono it (fun xs st => forL_mono (fun x a st K K' hK => asT_mono (fun l => wpF_mono ifs fun b st => by
      cases b
      · exact hK _ _
      · exact wpD_mono c hf hK) _ _ _) h _ _ _) fun _ _ => id
theorem wpC_mono : ∀ (c : Cl) {own : List Nat} {f f' : Acc → Loc → Sto → (Acc → Sto → Prop) → Prop} {a : Acc} {l : Loc} {st : Sto} {Q Q' : Acc → Sto → Prop}, (∀ a l st K K', (∀ a st, K a st → K' a st) → f a l st K → f' a l st K') → (∀ a st, Q a st → Q' a st) →
    wpC sub C c own f a l st Q → wpC sub C c own f' a l st Q'
  | .nil, _, _, _, _, _, _, _, _, hf, h => id
  | .for_ t it ifs c, _, _, _, _, _, _, _, _, hf, h => wpI_mono it (fun xs st => forL_mono (fun x a st K K' hK => asT_mono (fun l => wpF_mono ifs fun b st => by
      cases b
      · exact hK _ _
      · exact wpD_mono c hf hK) _ _ _) h _ _ _) fun _ _ => id
theorem wpF_mono : ∀ (e : Es) {l : Loc} {st : Sto} {Q Q' : Bool → Sto → Prop}, (∀ d st, Q d st → Q' d st) → wpF sub C e l st Q → wpF sub C e l st Q'
  | .nil, _, _, _, _, h => h _ _
  | .cons e es, _, _, _, _, h => wpE_mono e (fun x st => truR_mono fun b => by
      cases b
      · exact h _ _
      · exact wpF_mono es h) fun _ _ => id
end

structure Kn.le (k k' : Kn) : Prop where
  nx : ∀ l st, k.nx l st → k'.nx l st
  rt : ∀ d st, k.rt d st → k'.rt d st
  bk : ∀ l st, k.bk l st → k'.bk l st
  ct : ∀ l st, k.ct l st → k'.ct l st
  ex : ∀ d l st, k.ex d l st → k'.ex d l st
omit hC in
theorem whL_mono {f f' : KL → Loc → Sto → Prop} (hf : ∀ K K' : KL, (∀ l st, K l st → K' l st) → ∀ l st, f K l st → f' K' l st) : ∀ (n : Nat) (l : Loc) (st : Sto), whL n f l st → whL n f' l st
  | 0, _, _ => id
  | n + 1, l, st => hf _ _ (fun l st => whL_mono hf n l st) l st
omit hC in
theorem forS_mono {f f' : D → KL → Loc → Sto → Prop} {nx nx' : KL} (hf : ∀ x (K K' : KL), (∀ l st, K l st → K' l st) → ∀ l st, f x K l st → f' x K' l st) (h : ∀ l st, nx l st → nx' l st) : ∀ (xs : List D) (l : Loc) (st : Sto), forS xs f nx l st → forS xs f' nx' l st
  | [], _, _ => h _ _
  | x :: xs, l, st => hf _ _ _ (fun l st => forS_mono hf h xs l st) l st
mutual
theorem wpS_mono : ∀ (s : Sm) {k k' : Kn} {l : Loc} {st : Sto}, k.le k' → wpS sub C s k l st → wpS sub C s k' l st
  | .expr e, _, _, _, _, h => wpE_mono hC e (fun _ st => h.nx _ _) fun x st => h.ex _ _ _
  | .asg t e, _, _, _, _, h => wpE_mono hC e (fun d st => asT_mono (fun l => h.nx _ _) _ _ _) fun x st => h.ex _ _ _
  | .own i e, _, _, _, _, h => wpE_mono hC e (fun d st g => ⟨g.1, h.nx _ _ g.2⟩) fun x st => h.ex _ _ _
  | .aug i o e, _, _, _, _, h => getL_mono (fun a => wpE_mono hC e (fun b st => opR_mono fun r => h.nx _ _) fun x st => h.ex _ _ _) _ _
  | .setO a i v, _, _, _, _, h => wpE_mono hC v (fun v st => wpE_mono hC a (fun a st => wpE_mono hC i (fun i st => setOR_mono fun st => h.nx _ _) fun x st => h.ex _ _ _) fun x st => h.ex _ _ _) fun x st => h.ex _ _ _
  | .setIx i a v, _, _, _, _, h => wpE_mono hC v (fun v st => getL_mono (fun d => wpE_mono hC a (fun a st => by
      cases d <;> first
        | exact putR_mono fun p => h.nx _ _
        | (cases a <;> first | exact id | exact fun g => ⟨g.1, h.nx _ _ g.2⟩)
        | exact id) fun x st => h.ex _ _ _) _ _) fun x st => h.ex _ _ _
  | .augIx i a o v, _, _, _, _, h => wpE_mono hC a (fun a st => getL_mono (fun d => ixR_mono fun old => wpE_mono hC v (fun v st => opR_mono fun r => by
      cases d <;> first
        | exact putR_mono fun p => h.nx _ _
        | (cases a <;> first | exact id | exact fun g => ⟨g.1, h.nx _ _ g.2⟩)
        | exact id) fun x st => h.ex _ _ _) _ _) fun x st => h.ex _ _ _
  | .app i e, _, _, _, _, h => getL_mono (fun d => by
      cases d <;> first
        | exact wpE_mono hC e (fun x st => appR_mono fun xs => h.nx _ _) fun x st => h.ex _ _ _
        | exact id) _ _
  | .ext i e, _, _, _, _, h => getL_mono (fun d => by
      cases d <;> first
        | exact wpE_mono hC e (fun x st => by
            cases x <;> first
              | exact fun g => ⟨g.1, h.nx _ _ g.2⟩
              | exact id) fun x st => h.ex _ _ _
        | exact id) _ _
  | .upd i e, _, _, _, _, h => getL_mono (fun d => by
      cases d <;> first
        | exact wpE_mono hC e (fun x st => by
            cases x <;> first
              | exact fun g => ⟨g.1, g.2.1, h.nx _ _ g.2.2⟩
              | exact id) fun x st => h.ex _ _ _
        | exact id) _ _
  | .sort i, _, _, _, _, h => getL_mono (fun d => by
      cases d <;> first
        | exact fun g => ⟨g.1, g.2.1, h.nx _ _ g.2.2⟩
        | exact id) _ _
  | .sdApp i a v, _, _, _, _, h => wpE_mono hC a (fun a st => wpE_mono hC v (fun v st => getL_mono (fun d => by
      cases d <;> first
        | (intro g
           dsimp only at g ⊢
           split at g <;> first
             | exact g.elim
             | exact ⟨g.1, appR_mono (fun xs => h.nx _ _) g.2⟩
             | exact putR_mono (fun p => h.nx _ _) g)
        | exact id) _ _) fun x st => h.ex _ _ _) fun x st => h.ex _ _ _
  | .sdSet t i a v, _, _, _, _, h => wpE_mono hC a (fun a st => wpE_mono hC v (fun v st => getL_mono (fun d => by
      cases d <;> first
        | (intro g
           dsimp only at g ⊢
           split at g <;> first
             | exact ⟨g.1, g.2.1, h.nx _ _ g.2.2⟩
             | exact putR_mono (fun p q => ⟨q.1, h.nx _ _ q.2⟩) g)
        | exact id) _ _) fun x st => h.ex _ _ _) fun x st => h.ex _ _ _
  | .ifSd i a v w x y, _, _, _, _, h => wpE_mono hC a (fun a st => wpE_mono hC v (fun v st => getL_mono (fun d => by
      cases d <;> first
        | (intro g
           dsimp only at g ⊢
           split at g <;> first
             | exact ⟨g.1, wpE_mono hC w (fun w st => cmR_mono fun r => by
                 cases r
                 · exact wpSs_mono y h
                 · exact wpSs_mono x h) (fun x st => h.ex _ _ _) g.2⟩
             | exact putR_mono (fun p => wpE_mono hC w (fun w st => cmR_mono fun r => by
                 cases r
                 · exact wpSs_mono y h
                 · exact wpSs_mono x h) (fun x st => h.ex _ _ _)) g)
        | exact id) _ _) fun x st => h.ex _ _ _) fun x st => h.ex _ _ _
  | .if_ c a b, _, _, _, _, h => wpE_mono hC c (fun x st => truR_mono fun r => by
      cases r
      · exact wpSs_mono b h
      · exact wpSs_mono a h) fun x st => h.ex _ _ _
  | .for_ t it body, _, _, _, _, h => wpI_mono hC it (fun xs st g => by
      refine forS_mono (fun x K K' hK l st => ?_) h.nx _ _ _ g
      intro g
      refine asT_mono (fun l g => ?_) _ _ _ g
      refine wpSs_mono body ?_ g
      exact ⟨hK, h.rt, h.nx, hK, h.ex⟩) fun x st => h.ex _ _ _
  | .while_ c body, _, _, _, _, h => fun ⟨n, g⟩ => ⟨n, by
      refine whL_mono (fun K K' hK l st => ?_) n _ _ g
      intro g
      refine wpE_mono hC c (fun x st g => ?_) (fun x st => h.ex _ _ _) g
      refine truR_mono (fun r g => ?_) g
      cases r
      · exact h.nx _ _ g
      · refine wpSs_mono body ?_ g
        exact ⟨hK, h.rt, h.nx, hK, h.ex⟩⟩
  | .ret e, _, _, _, _, h => wpE_mono hC e h.rt fun x st => h.ex _ _ _
  | .retN, _, _, _, _, h => h.rt _ _
  | .brk, _, _, _, _, h => h.bk _ _
  | .cnt, _, _, _, _, h => h.ct _ _
  | .pass, _, _, _, _, h => h.nx _ _
  | .raise c e, _, _, _, _, h => wpE_mono hC e (fun d st => h.ex _ _ _) fun x st => h.ex _ _ _
  | .try_ body hs, _, _, _, _, h => wpSs_mono body ⟨h.nx, h.rt, h.bk, h.ct, fun x l st => wpH_mono hs h⟩
  | .frz _, _, _, _, _, h => h.nx _ _
theorem wpSs_mono : ∀ (s : Sms) {k k' : Kn} {l : Loc} {st : Sto}, k.le k' → wpSs sub C s k l st → wpSs sub C s k' l st
  | .nil, _, _, _, _, h => h.nx _ _
  | .cons s ss, _, _, _, _, h => wpS_mono s ⟨fun l st => wpSs_mono ss h, h.rt, h.bk, h.ct, h.ex⟩
theorem wpH_mono : ∀ (s : Hs) {x : D} {k k' : Kn} {l : Loc} {st : Sto}, k.le k' → wpH sub C s x k l st → wpH sub C s x k' l st
  | .nil, _, _, _, _, _, h => h.ex _ _ _
  | .cons cs i ss hs, x, _, _, _, _, h => by
    intro g
    unfold wpH at g ⊢
    split at g
    · rename_i e
      rw [if_pos e]
      cases i with
      | some i =>
        refine ⟨g.1, ?_⟩
        have g := g.2
        refine wpSs_mono ss ?_ g
        exact ⟨fun l st => h.nx _ _, h.rt, fun l st => h.bk _ _, fun l st => h.ct _ _, fun _ _ _ => id⟩
      | none =>
        dsimp only at g ⊢
        refine wpSs_mono ss ?_ g
        exact ⟨h.nx, h.rt, h.bk, h.ct, fun _ _ _ => id⟩
    · rename_i e
      rw [if_neg e]
      exact wpH_mono hs h g
end
end
theorem wpCall_mono (P : Tab) : ∀ n : Nat, CMono (wpCall P n)
  | 0 => fun _ _ _ _ _ _ _ _ _ => id
  | n + 1 => fun f ds st Q Q' E E' h k => by
    intro g
    unfold wpCall at g ⊢
    split at g <;> rename_i e
    · refine ⟨g.1, ?_⟩
      have g := g.2
      refine wpSs_mono (wpCall_mono P n) _ ?_ g
      exact ⟨fun l st => h _ _, h, fun _ _ => id, fun _ _ => id, fun x l st => k _ _⟩
    · exact g
end Py
end

section
set_option Elab.async false
set_option linter.all false
set_option maxRecDepth 100000
set_option maxHeartbeats 2000000
set_option autoImplicit false
/-! Ask: an error of the program is made: the base's own __init__, which says super().__init__(text) and keeps the value. -/
namespace Py
open PySem PySem.W PySem.Calls PyProof.Rows PySem.HandSPX
/-! ### the text of __init__ -/
def qA (p1 p2 : Pos) : Arguments := { posonlyargs := [], args := [{ arg := "self", annotation := none, pos := p1 }, { arg := "value", annotation := none, pos := p2 }], vararg := none, kwonlyargs := [], kw_defaults := [], kwarg := none, defaults := [] }
def qB (t : Str) (q1 q2 q4 q6 r1 r2 r3 r4 : Pos) : List Stmt :=
  [.Expr (.Call (.Attribute (.Call (.Name "super" q1) [] [] q2) "__init__" ⟨5, 8, 5, 24⟩) [.Constant (.str t) 0 q4] [] ⟨5, 8, 5, 40⟩) q6, .Assign [.Attribute (.Name "self" r1) "value" r2] (.Name "value" r3) r4]
def qS : Scope := { kind := .function, names := [(PySem.Str.ofString "self", .local), (PySem.Str.ofString "value", .local), (PySem.Str.ofString "__class__", .free), (PySem.Str.ofString "super", .globalImplicit)], isGenerator := false, isCoroutine := false, more := [] }
/-- what the written part says of a class of errors at C; D the class whose __init__ it has, at fI -/
structure AskC (prog : Program) (K : Frag) (C : Addr) : Prop where
  cls : ∃ nm q N bs bm sn sub ab col dd k0 k1 k2 k3 k5, K.lookup C = some (excClassObj nm q C N bs bm true sn sub ab col dd k0 k1 k2 k3 k5 "ValueError.__new__") ∧ refsVE bm = true
  sa : findIn K (.ref C) "__setattr__" = some (some (.builtin "object.__setattr__"))
  ga : findIn K (.ref C) "__getattribute__" = some (some (.builtin "BaseException.__getattribute__"))
  gg : findIn K (.ref C) "__getattr__" = some none
  noN : findIn K (.ref C) "value" = some none
  kC : keepIn K (.ref C) = true
  exC : subIn K (.ref C) (.type "BaseException") = some true
  tyC : typeIn K (.ref C) = some (.type "type")
  hdC : hasDictIn K C = true
  veC : subIn K (.ref C) (.type "ValueError") = some true
  opq : nsIn K cStatics "thirdparty.any" = some none
  noS : nsIn K mainGlobals "super" = some none
  file : (prog.main.scope.names.lookup ("super" : Str)).isSome = false
  init : ∃ (fI D cc cda : Addr) (cdD : ClassData) (vs : Array Value) (file : Str) (tf : Tok) (ccl cl : Value) (cdd cld : Option Addr) (ccs csl : Array (Option Value)),
    findIn K (.ref C) "__init__" = some (some (.ref fI)) ∧ typeIn K (.ref fI) = some (.type "function") ∧ ks_superIn K C D "__init__" = some (some (.builtin "ValueError.__init__")) ∧ clsIn K D = some cdD ∧ mroIn K C (.ref D) = some true ∧
    K.lookup cc = some ⟨cl, cld, .cell (some (.ref D)), csl⟩ ∧ K.lookup cda = some ⟨ccl, cdd, .fields vs, ccs⟩ ∧ vs[2]? = some (.str file tf) ∧ ((prog.main.file : Str) == file) = true ∧
    ∃ (oc : Value) (od : Option Addr) (doc pm : Value) (an : Option Addr) (ct : Value) (osl : Array (Option Value)) (p1 p2 q1 q2 q4 q6 r1 r2 r3 r4 : Pos) (t qual : Str),
      K.lookup fI = some ⟨oc, od, .func (ksFn "__init__" qual (qA p1 p2) (qB t q1 q2 q4 q6 r1 r2 r3 r4) qS .none .none doc pm an (.ref cda) ct cc), osl⟩ ∧ codeIn K (.ref cda) qual = true
/-- what __init__ leaves of a fresh error at x -/
structure AskEnd (h h' : Heap) (x C dx t1 : Addr) (v : Value) : Prop where
  keep : ∀ b o, b ≠ x → h.get? b = some o → h'.get? b = some o
  obj : h'.get? x = some { cls := .ref C, dict := some dx, data := .fields #[.ref t1, .none, .none, .none, .bool false, .none] }
  dbig : h.objs.size ≤ dx
  dne : dx ≠ x
  ns : h'.Ns1 dx (fun y => if y = "value" then some v else none)
/-- a made error -/
structure AskMade (h h' : Heap) (e C d : Addr) (v : Value) : Prop where
  keep : ∀ b o, h.get? b = some o → h'.get? b = some o
  new : h.objs.size ≤ e
  obj : ∃ oe vs, h'.get? e = some oe ∧ oe.cls = .ref C ∧ oe.dict = some d ∧ oe.data = .fields vs ∧ vs[1]? = some .none
  dbig : h.objs.size ≤ d
  dne : d ≠ e
  ns : h'.Ns1 d (fun y => if y = "value" then some v else none)
section
variable {prog : Program} {w : World} {A : Around} {E : Value → Shared → Prop} {R : Result → Shared → Prop} {s : Shared} {K : Frag} {mg mb : Str → Option Value} {C : Addr}
/-- super().__init__, called -/
theorem call_veBound {h : Heap} {g : Array GenState} {d : Drawn} {t : Nat} {os : OsState} {nm q : Str} {C N : Addr} {bs bm : List Value} {hdct : Bool} {sn : List Str} {sub : List Value} {ab : Bool} {col : Option Bool} {dd : Option Addr} {k0 k1 k2 k3 k5 : Option Value}
    {u e t0 : Addr} {rest : List Value} {Q : Value → Shared → Prop}
    (hC : h.get? C = some (excClassObj nm q C N bs bm hdct sn sub ab col dd k0 k1 k2 k3 k5 "ValueError.__new__")) (he : h.get? e = some (HandSPX.excO C t0)) (hu : h.get? u = some (kxs_mw "ValueError.__init__" e)) (hrest : rest.length ≤ sizeLine)
    (hq : ∀ h' t1, (∀ b o, b ≠ e → h.get? b = some o → h'.get? b = some o) → h'.get? e = some (HandSPX.excO C t1) → Q .none ⟨h', g, d, t, os⟩) :
    wpAny (model prog w) A (call (.ref u) rest) Q E ⟨h, g, d, t, os⟩ := by
  refine wpAny_call (codeAny_of_tree ?_)
  show wpAny _ A.in1 (callAny (.ref u) ⟨rest, []⟩) _ _ _
  simp only [callAny]
  refine wpAny_bind (wpAny_load hu ?_)
  simp only [kxs_mw, show (Value.type "method-wrapper" == Value.type "method" || Value.type "method-wrapper" == Value.type "builtin_function_or_method" || Value.type "method-wrapper" == Value.type "method-wrapper") = true by decide, if_true]
  refine W.KFB.if_so (by decide) ?_
  refine wpAny_bind (ESX.check_bound F.excBase_ValueError hC he rfl ?_)
  refine wpAny_bind (wpAny_pure (wpAny_pure ?_))
  refine ⟨Code.quiet_builtin _ (by decide +kernel), codeAny_builtin F.excBase_ValueError.initEntry ?_⟩
  rw [Around.under_plainId F.excBase_ValueError.init.plain _]
  wp_walk
  refine hq _ h.objs.size (fun b o hb ho => ?_) ?_
  · rw [Heap.get?_update_other _ _ (Ne.symm hb)]
    exact Heap.get?_push_of_some _ ho
  · rw [Heap.get?_update_self _ (Heap.get?_push_of_some _ he) rfl]
    rfl
theorem ask_init (T : AskC prog K C) {fI D cc cda : Addr} {cdD : ClassData} {vs : Array Value} {file : Str} {tf : Tok} {ccl cl : Value} {cdd cld : Option Addr} {ccs csl : Array (Option Value)}
    (sup : ks_superIn K C D "__init__" = some (some (.builtin "ValueError.__init__"))) (dcl : clsIn K D = some cdD) (hsub : mroIn K C (.ref D) = some true)
    (hcell : K.lookup cc = some ⟨cl, cld, .cell (some (.ref D)), csl⟩) (hcode : K.lookup cda = some ⟨ccl, cdd, .fields vs, ccs⟩) (hvs : vs[2]? = some (.str file tf)) (hfile : ((prog.main.file : Str) == file) = true)
    {oc : Value} {od : Option Addr} {doc pm : Value} {an : Option Addr} {ct : Value} {osl : Array (Option Value)} {p1 p2 q1 q2 q4 q6 r1 r2 r3 r4 : Pos} {tx qual : Str}
    (ho : K.lookup fI = some ⟨oc, od, .func (ksFn "__init__" qual (qA p1 p2) (qB tx q1 q2 q4 q6 r1 r2 r3 r4) qS .none .none doc pm an (.ref cda) ct cc), osl⟩) (hcd : codeIn K (.ref cda) qual = true)
    {x t0 : Addr} {v : Value} (X : K.In s.heap) (hlim : s.heap.NoLimit) (G : s.heap.Ns mainGlobals mg) (gS : mg "super" = none) (B : s.heap.Ns builtinsNs mb) (bS : mb "super" = bootBuiltins "super") (hx : s.heap.get? x = some (excO C t0)) (hnx : K.lookup x = none) (hroom : A.depth < recursionLimit)
    (hq : ∀ h' tk dx, (∃ t1, AskEnd s.heap h' x C dx t1 v) → R (.ok (.ret .none)) { s with heap := h', toks := tk }) :
    codeAny (model prog w) A (.call (.ref fI) ⟨[.ref x, v], []⟩) R s := by
  obtain ⟨nm, q, N, bs, bm, sn, sub, ab, col, dd, k0, k1, k2, k3, k5, hC, hbm⟩ := T.cls
  have hclC : clsIn K C = some { name := nm, bases := bs, mro := .ref C :: bm, ns := N, qualname := q, hasDict := true, slotNames := sn, subclasses := sub, abstract := ab, collection := col, hasDel := false } := by unfold clsIn; rw [hC] <;> rfl
  refine ks_codeAny_call_defAt (fd := ksFn "__init__" qual (qA p1 p2) (qB tx q1 q2 q4 q6 r1 r2 r3 r4) qS .none .none doc pm an (.ref cda) ct cc) (body := qB tx q1 q2 q4 q6 r1 r2 r3 r4) (binds := [("self", .ref x), ("value", v)]) hroom (X _ _ ho) rfl hlim (codeRec_of X hcd) rfl
    (BindsTo.of_eq (by first | rfl | with_unfolding_all rfl)) (show ∀ y ∈ qS.names, y.2 ≠ .cell by decide +kernel) (fun y hy => ?loc) (fun h₁ hns k => ?_) rfl rfl rfl
  case loc =>
    show qS.names.lookup y.1 = some .local
    rcases List.mem_cons.mp hy with e | hy
    · rw [e]; rfl
    · have e : y = (("value" : Str), v) := by simpa using hy
      rw [e]; rfl
  have X₁ : K.In h₁ := X.keeps k
  have hx₁ := k _ _ hx
  have I₁ : InstAt h₁ x (excO C t0) C none := ⟨hx₁, rfl, rfl, trivial⟩
  obtain ⟨oD, hD1, hD2⟩ : ∃ oD, h₁.get? D = some oD ∧ oD.data = .cls cdD := by
    have dcl' := dcl
    unfold clsIn at dcl'
    split at dcl'
    · rename_i c d cd' sl ho
      cases dcl'
      exact ⟨_, X₁ _ _ ho, rfl⟩
    · cases dcl'
  show _root_.PySem.wpAt (model prog w) (A.deeper (ksEnv qual qS s.heap.objs.size fI (.ref cda) cc)) (.func (qB tx q1 q2 q4 q6 r1 r2 r3 r4) (ksEnv qual qS s.heap.objs.size fI (.ref cda) cc)) (execs (qB tx q1 q2 q4 q6 r1 r2 r3 r4) (ksEnv qual qS s.heap.objs.size fI (.ref cda) cc)) _ _ _
  refine ks_wpAt_execs_cons (ks_wpAt_Expr_any ?_)
  refine ks_wpAt_MethodCall ?_
  have G₁ : h₁.Ns mainGlobals mg := G.at fun o e => k _ o e
  have B₁ : h₁.Ns builtinsNs mb := B.at fun o e => k _ o e
  refine ks_wpAt_super_base (env := ksEnv qual qS s.heap.objs.size fI (.ref cda) cc) (by first | rfl | with_unfolding_all rfl | kernel_rfl) (by first | rfl | with_unfolding_all rfl | kernel_rfl) (by first | rfl | with_unfolding_all rfl | kernel_rfl) rfl (X₁ _ _ ho) rfl (ar := { arg := "self", annotation := none, pos := p1 }) rfl rfl (X₁ _ _ hcode) rfl hvs hfile T.file ?_
  refine ks_loadName_global rfl (by first | rfl | with_unfolding_all rfl | kernel_rfl) (loadGlobal_builtin (env := ksEnv qual qS s.heap.objs.size fI (.ref cda) cc) G₁ gS B₁ (bS.trans Boot.«super») ⟨rfl, ?_⟩)
  refine wpAny_loadName_free rfl (by first | rfl | with_unfolding_all rfl | kernel_rfl) rfl ⟨_, X₁ _ _ hcell, rfl⟩ ?_
  refine wpAny_loadName_local rfl (by first | rfl | with_unfolding_all rfl | kernel_rfl) hns (v := .ref x) (by first | rfl | with_unfolding_all rfl | kernel_rfl) ?_
  refine ks_wpAny_isType_cls hD1 hD2 ⟨rfl, ?_⟩
  refine ks_wpAny_call_super hD1 hD2 I₁.at_ I₁.cls (fun c e => by cases e) (looks_mroIn X₁ hsub) (fun h₂ hso k₂ => ?_)
  have X₂ : K.In h₂ := X₁.keeps k₂
  have hx₂ := k₂ _ _ hx₁
  have I₂ : InstAt h₂ x (excO C t0) C none := ⟨hx₂, rfl, rfl, trivial⟩
  have hI : Looks (model prog w) h₂ (isInstance (.ref x) (.type "ValueError")) true := I₂.type.andThen (looks_subIn X₂ T.veC)
  have sup' : alongIn K "__init__" (((.ref C :: bm : List Value).dropWhile (· != .ref D)).drop 1) = some (some (.builtin "ValueError.__init__")) := by
    unfold ks_superIn at sup
    rw [hclC] at sup
    exact sup
  refine kxs_getMethod kxs_ValueError hso (looks_opaque X₂ T.opq) (l₀ := .ref C :: bm) (fun A Q E s k q => wpAny_bind ((looks_clsIn X₂ hclC) A _ E s k (wpAny_pure q))) rfl X₂ sup' hI (ks_ne X₂ I₂ hclC) (by decide +kernel) ?_
  have k₃ : ∀ b o, h₂.get? b = some o → (h₂.push (kxs_mw "ValueError.__init__" x)).get? b = some o := fun b o e => Heap.get?_push_of_some _ e
  have hu : (h₂.push (kxs_mw "ValueError.__init__" x)).get? h₂.objs.size = some (kxs_mw "ValueError.__init__" x) := Heap.get?_push_at rfl rfl
  refine kxs_callWith (i := "ValueError.__init__") (x := x) rfl ?_
  refine evalArgs_plain ?_
  refine Calls.spliced_cons (Calls.Constant_str (k := 0) (pos := q4) (Calls.spliced_nil ⟨hu, ?_⟩))
  refine call_veBound ((X₂.keeps k₃) _ _ hC) (k₃ _ _ hx₂) hu (by rw [sizeLine_eq]; exact (by decide : 1 ≤ 16777216)) (fun h₄ t1 k₄ hx₄ => ?_)
  have all : ∀ b o, b ≠ x → h₁.get? b = some o → h₄.get? b = some o := fun b o n e => k₄ b o n (k₃ _ _ (k₂ _ _ e))
  have hxL : s.heap.objs.size ≠ x := Nat.ne_of_gt (Heap.lt_size hx)
  have X₄ : K.In h₄ := fun a o e => all a o (fun z => by rw [z, hnx] at e; cases e) (X₁ a o e)
  have hn₄ : h₄.Ns s.heap.objs.size _ := hns.at fun o e => all _ o hxL e
  refine wpAt_of_wpAny (wpAny_execs_cons (plainObj_wpAny_Assign_Attribute ?_))
  refine ESX.ldL (v := v) hn₄ (by first | rfl | with_unfolding_all rfl | kernel_rfl) (ESX.ldL (v := .ref x) hn₄ (by first | rfl | with_unfolding_all rfl | kernel_rfl) ?_)
  refine set_plain X₄ (ox := excO C t1) (od := none) ⟨hx₄, rfl, rfl, trivial⟩ T.sa ?_
  refine exc_osa X₄ hx₄ hclC (show refsVE (.ref C :: bm) = true from hbm) rfl T.noN (fun h₅ tk₅ dx k₅ dn dne hx₅ hn₅ => ?_)
  show wpAny _ _ (execs _ _) _ _ _
  have sz : s.heap.objs.size ≤ h₄.objs.size := Nat.le_of_lt hn₄.lt
  exact wpAny_execs_nil (hq h₅ _ dx ⟨t1, fun b o hb e => k₅ b o hb (all b o hb (k b o e)), hx₅, Nat.le_trans sz dn, dne, hn₅⟩)
end
end Py
namespace Py
open PySem PySem.W PySem.Calls PyProof.Rows PySem.HandSPX
section
variable {prog : Program} {w : World} {A : Around} {E : Value → Shared → Prop} {R : Result → Shared → Prop} {s : Shared} {K : Frag} {mg mb : Str → Option Value} {C : Addr}
theorem ask_made (T : AskC prog K C) {v : Value} (X : K.In s.heap) (hlim : s.heap.NoLimit) (G : s.heap.Ns mainGlobals mg) (gS : mg "super" = none) (B : s.heap.Ns builtinsNs mb) (bS : mb "super" = bootBuiltins "super") (hroom : A.depth + 1 < recursionLimit)
    (hq : ∀ h' tk e d, AskMade s.heap h' e C d v → R (.ok (.ret (.ref e))) { s with heap := h', toks := tk }) :
    codeAny (model prog w) A (.call (.ref C) ⟨[v], []⟩) R s := by
  obtain ⟨nm, q, N, bs, bm, sn, sub, ab, col, dd, k0, k1, k2, k3, k5, hC, hbm⟩ := T.cls
  obtain ⟨fI, D, cc, cda, cdD, vs, file, tf, ccl, cl, cdd, cld, ccs, csl, iC, tC, sup, dcl, hsub, hcell, hcode, hvs, hfile, oc, od, doc, pm, an, ct, osl, p1, p2, q1, q2, q4, q6, r1, r2, r3, r4, tx, qual, ho, hcd⟩ := T.init
  obtain ⟨hp, g, dr, tk, os⟩ := s
  have k : ∀ b o, hp.get? b = some o → ((hp.push (kdv_tup [v])).push (excO C hp.objs.size)).get? b = some o := fun b o e => Heap.get?_push_of_some _ (Heap.get?_push_of_some _ e)
  have hget : ((hp.push (kdv_tup [v])).push (excO C hp.objs.size)).get? (hp.objs.size + 1) = some (excO C hp.objs.size) := by heap_get
  have hnx : K.lookup (hp.objs.size + 1) = none := by
    cases e : K.lookup (hp.objs.size + 1) with
    | none => rfl
    | some o =>
      have z : hp.get? (hp.objs.size + 1) = some o := X _ _ e
      exact absurd (Nat.lt_of_succ_lt (Heap.lt_size z)) (Nat.lt_irrefl _)
  refine call_own F.excBase_ValueError (fun X => refsVE_contains X bm hbm) (X _ _ hC) (looks_findIn X iC) (fun self => bind_fn X self tC) (by rw [sizeLine_eq]; exact (by decide : 1 ≤ 16777216)) ?_
  refine ask_init (s := ⟨(hp.push (kdv_tup [v])).push (excO C hp.objs.size), g, dr, tk, os⟩) T sup dcl hsub hcell hcode hvs hfile ho hcd (X.keeps k) (hlim.keeps k) (G.at fun o e => k _ o e) gS (B.at fun o e => k _ o e) bS hget hnx ?_ fun h' tk' dx ⟨t1, k', hx, dn, dne, hns⟩ => ?_
  · rw [L2.make_depth]
    exact hroom
  · have old : ∀ b o, hp.get? b = some o → h'.get? b = some o := fun b o e => k' b o (Nat.ne_of_lt (Nat.lt_succ_of_lt (Heap.lt_size e))) (k b o e)
    have z : hp.objs.size + 1 + 1 ≤ dx := by
      first
        | (simpa only [Heap.size_push] using dn)
        | exact dn
        | (have q := dn; rw [Heap.size_push, Heap.size_push] at q; exact q)
    exact ⟨rfl, hq h' tk' (hp.objs.size + 1) dx ⟨old, Nat.le_succ _, ⟨_, _, hx, rfl, rfl, rfl, rfl⟩, Nat.le_trans (Nat.le_trans (Nat.le_succ _) (Nat.le_succ _)) z, dne, hns⟩⟩
end
end Py
namespace Py
open PySem PySem.Spec PyProof.Rows L2
theorem relO_ask {v : V} {v' : Value} (r : RelV v v') (f : Str) : RelO (List.lookup f [(("value" : Str), v)]) (if f = "value" then some v' else none) := by
  by_cases hw : f = "value"
  · subst hw
    rw [if_pos rfl]
    have q : List.lookup ("value" : Str) [(("value" : Str), v)] = some v := by simp [List.lookup]
    rw [q]
    exact r
  · rw [if_neg hw]
    have qw : (f == ("value" : Str)) = false := by simpa using hw
    have q2 : List.lookup f [(("value" : Str), v)] = none := by simp [List.lookup, qw]
    rw [q2]
    trivial
section
variable {X : Cx} {C : Addr}
/-- C(e) -/
def tMkA (C : Addr) (ta : TA) : L2.St → Hp → XK → Prop := fun σ H Q => ta σ H fun vs H1 => ∃ v, vs = [v] ∧ ∀ d, H1 d = none → Q (.ref C) (some d) (upd H1 d (.xd [(("value" : Str), v)]))
theorem pmk_ask {x : Str} {a : Expr} {ta : TA} {p pos : Pos} (T : AskC X.prog X.K C) (gC : X.mg x = some (.ref C)) (gS : X.mg "super" = none) (hdp : X.A.depth + 5 < recursionLimit) (ha : PA X [a] ta) (hg : Gl X x) (hdb : (x == ("__debug__" : Str)) = false)
    (he : starEach (a :: []) X.env = (false, eval a X.env) :: starEach [] X.env) :
    PMk X (.Call (.Name x p) [a] [] pos) (tMkA C ta) := by
  intro pins s σ H Q I h
  refine wpAny_Call_Name_kw (ld_glob I hg gC ?_ hdb)
  refine PySem.W.callWith_K (h₀ := X.base) I.ok.mod.kin T.kC (thn (ha.run pos pins s σ H _ I h) fun us s1 hh => ?_) he (by rfl)
  obtain ⟨vs, H1, I1, r1, v, ev, q1⟩ := hh
  subst ev
  refine ⟨I1.kIn, ?_⟩
  cases r1 with
  | cons rv rn =>
    rename_i v' us'
    cases rn
    show wpAny _ _ (call (.ref C) [v']) _ _ _
    have hlim := I1.nolimit
    obtain ⟨mb, hb1, hb2⟩ := I1.mod.blt
    have hG : s1.heap.Ns mainGlobals X.mg := I1.mod.glob.at fun o e => I1.bk _ o e
    have hB : s1.heap.Ns builtinsNs mb := hb1.at fun o e => I1.bk _ o e
    obtain ⟨hp, g, dr, tk, os⟩ := s1
    refine wpAny_call (ask_made T I1.kIn hlim hG gS hB (hb2 _ (by decide)) (by omega) fun h' tk' e d M => ?_)
    show MkP X pins σ Q (.ref e) ⟨h', g, dr, tk', os⟩
    obtain ⟨oe, fv, hoe, hc, hd, hdat, h1⟩ := M.obj
    have hns := M.ns
    obtain ⟨G', g1, g2⟩ := restrict h' fun b => decide (b ≠ e)
    have gk : ∀ b, b ≠ e → G'.get? b = h'.get? b := fun b hb => g1 b (decide_eq_true hb)
    have ge : G'.get? e = none := g2 e (by simp)
    have old : ∀ b o, hp.get? b = some o → G'.get? b = some o := fun b o q => (gk b (Nat.ne_of_lt (Nat.lt_of_lt_of_le (Heap.lt_size q) M.new))).trans (M.keep b o q)
    have ob : ObjOk X.prog X.w (upd H1 d (.xd [(("value" : Str), v)])) G' d (.xd [(("value" : Str), v)]) :=
      ⟨_, hns.at (fun o q => (gk d M.dne).trans q), fun f => relO_ask rv f⟩
    have J : Inv X pins σ (upd H1 d (.xd [(("value" : Str), v)])) ⟨G', g, dr, tk', os⟩ := I1.laid (t' := tk') old M.dbig ob
    refine ⟨e, oe, fv, ⟨G', g, dr, tk', os⟩, _, .ref C, some d, rfl, J, fun b o q => ?_, ge, hoe, ⟨hc, hd⟩, hdat, h1, ?_, rfl, I1.bare, raises_own T.exC T.tyC, q1 d (I1.hok.fresh M.dbig)⟩
    · by_cases hb : b = e
      · have q' : G'.get? b = some o := q
        rw [hb, ge] at q'; cases q'
      · exact (gk b hb).symm.trans q
    · rw [upd_ne (Ne.symm M.dne)]
      exact I1.hok.fresh M.new
end
end Py
end

section
set_option Elab.async false
set_option linter.all false
set_option maxRecDepth 100000
set_option autoImplicit false
/-! Sim1: what stands in the abstract heap for a value of Deep. -/
namespace Py
open PySem L2

/-- what is fixed through a run: the written part, the world, the module's names, the addresses of the store's objects -/
structure RC where
  K : PySem.W.Frag
  w : World
  mg : Str → Option Value
  A : List Addr
  /-- what a comprehension makes, which no name knows -/
  hid : List Addr
  /-- the classes of errors, by name, with what is known of them -/
  xc : Str → Addr → Prop

/-- an object as it is, tracked by itself -/
def Raw (a : Addr) (o : Obj) : HO := .ext fun h => h.get? a = some o
/-- a key of a dict as a value -/
def kD : Key → D
  | .inl i => .int i
  | .inr x => .str x
/-- a set's object: its elements in their sequence, its table whole -/
def IsSet (w : World) (o : Obj) (es : List (Int × Value)) : Prop := o.ExactSet ∧ es.length < scanBound ∧ ∃ ep t, o.data = .set es.toArray ep t ∧ t.fits es.length = true ∧ Ris t.place.toList ∧ (w.params.followText "set-order" = true ∨ t.led = true)
/-- a set's elements carry their hashes -/
def hashV (w : World) : V → Int
  | .non => (NestedKey.none).hash w
  | .int i => (NestedKey.num i).hash w
  | .str x => (NestedKey.text x).hash w
  | _ => 0
/-- a list that nobody changes any more -/
def FzL (K : PySem.W.Frag) (H : Hp) (a : Addr) (xs : List V) : Prop := ∃ o, H a = some (.frz o (.lst xs))
theorem FzL.rd {K : PySem.W.Frag} {H : Hp} {a : Addr} {xs : List V} (h : FzL K H a xs) : Rd H a (.lst xs) := .inr h
theorem FzL.sq {K : PySem.W.Frag} {H : Hp} {a : Addr} {xs : List V} (h : FzL K H a xs) : SqL K H a xs := .inl (.inr h)
section
variable (c : RC) (H : Hp)
mutual
/-- v stands for d, and nobody changes it any more -/
inductive Rep : V → D → Prop
  | non : Rep .non .none
  | bl (b : Bool) : Rep (.bl b) (.bool b)
  | int (i : Int) : Rep (.int i) (.int i)
  | str (x : Str) : Rep (.str x) (.str x)
  | tup {a : Addr} {o : Obj} {xs : List V} {ds : List D} : H a = some (.frz o (.tup xs)) → o.dict = none → Reps xs ds → Rep (.ref a) (.tup ds)
  | lst {a : Addr} {xs : List V} {ds : List D} : FzL c.K H a xs → Reps xs ds → Rep (.ref a) (.lst ds)
  | dct {a : Addr} {o : Obj} {kvs : List (Key × V)} {ks vs : List D} : H a = some (.frz o (.dK kvs)) → ks = kvs.map (fun p => kD p.1) → Reps (kvs.map (·.2)) vs → ks.Nodup → Rep (.ref a) (.dct ks vs)
  | set {a : Addr} {o' o : Obj} {es : List (Int × Value)} {ks ks' : List D} {kvs : List V} : H a = some (.frz o' (Raw a o)) → IsSet c.w o es → es.map (·.1) = kvs.map (hashV c.w) → Vals kvs (es.map (·.2)) → Reps kvs ks' → ks'.Perm ks → ks.Nodup ∧ (∀ k ∈ ks, k.flat = true) → Rep (.ref a) (.set ks)
  | rng {a : Addr} {i j : Int} : H a = some (.rng i j) → Rep (.ref a) (.rng i j)
  | fn {a : Addr} {f : Str} : c.mg f = some (.ref a) → Rep (.ref a) (.fn f)
  | ref {a : Addr} {n : Nat} : c.A[n]? = some a → Rep (.ref a) (.ref n)
  | script {a : Addr} {ns : List Int} : FzL c.K H a (ns.map V.int) → ns.length ≤ 63 → Rep (.ref a) .script
  | exc {a C dx : Addr} {o' o : Obj} {nm : Str} {w : V} {d : D} : c.xc nm C → H a = some (.frz o' (Raw a o)) → (o.cls = .ref C ∧ o.dict = some dx ∧ ∃ vs, o.data = .fields vs) → H dx = some (.xd [("value", w)]) → Rep w d → Rep (.ref a) (.exc nm d)
inductive Reps : List V → List D → Prop
  | nil : Reps [] []
  | cons {v : V} {vs : List V} {d : D} {ds : List D} : Rep v d → Reps vs ds → Reps (v :: vs) (d :: ds)
end
end
/-- a set's elements may stand in any sequence -/
theorem Reps.length {c : RC} {H : Hp} : ∀ {vs : List V} {ds : List D}, Reps c H vs ds → vs.length = ds.length
  | [], _, h => by cases h; rfl
  | _ :: _, _, h => by
    cases h with
    | cons a b => simp [Reps.length b]
theorem Reps.get {c : RC} {H : Hp} : ∀ {vs : List V} {ds : List D} {i : Nat} {d : D}, Reps c H vs ds → ds[i]? = some d → ∃ v, vs[i]? = some v ∧ Rep c H v d
  | [], _, _, _, h, e => by cases h; simp at e
  | _ :: _, _, 0, _, h, e => by
    cases h with
    | cons a b => simp at e; subst e; exact ⟨_, rfl, a⟩
  | _ :: _, _, i + 1, _, h, e => by
    cases h with
    | cons a b => simp at e; obtain ⟨v, h1, h2⟩ := Reps.get b e; exact ⟨v, by simpa using h1, h2⟩
theorem Reps.get' {c : RC} {H : Hp} : ∀ {vs : List V} {ds : List D} {i : Nat} {v : V}, Reps c H vs ds → vs[i]? = some v → ∃ d, ds[i]? = some d ∧ Rep c H v d
  | [], _, _, _, h, e => by simp at e
  | _ :: _, _, 0, _, h, e => by
    cases h with
    | cons a b => simp at e; subst e; exact ⟨_, rfl, a⟩
  | _ :: _, _, i + 1, _, h, e => by
    cases h with
    | cons a b => simp at e; obtain ⟨v, h1, h2⟩ := Reps.get' b e; exact ⟨v, by simpa using h1, h2⟩
theorem Reps.append {c : RC} {H : Hp} : ∀ {vs ws : List V} {ds es : List D}, Reps c H vs ds → Reps c H ws es → Reps c H (vs ++ ws) (ds ++ es)
  | [], _, _, _, h, h' => by cases h; exact h'
  | _ :: _, _, _, _, h, h' => by
    cases h with
    | cons a b => exact .cons a (Reps.append b h')
theorem Reps.take {c : RC} {H : Hp} : ∀ {vs : List V} {ds : List D} (n : Nat), Reps c H vs ds → Reps c H (vs.take n) (ds.take n)
  | _, _, 0, _ => by simp; exact .nil
  | [], _, n + 1, h => by cases h; simp; exact .nil
  | _ :: _, _, n + 1, h => by
    cases h with
    | cons a b => exact .cons a (Reps.take n b)
theorem Reps.drop {c : RC} {H : Hp} : ∀ {vs : List V} {ds : List D} (n : Nat), Reps c H vs ds → Reps c H (vs.drop n) (ds.drop n)
  | _, _, 0, h => h
  | [], _, n + 1, h => by cases h; simp; exact .nil
  | _ :: _, _, n + 1, h => by
    cases h with
    | cons a b => exact Reps.drop n b
theorem Reps.reverse {c : RC} {H : Hp} : ∀ {vs : List V} {ds : List D}, Reps c H vs ds → Reps c H vs.reverse ds.reverse
  | [], _, h => by cases h; exact .nil
  | _ :: _, _, h => by
    cases h with
    | cons a b =>
      rw [List.reverse_cons, List.reverse_cons]
      exact (Reps.reverse b).append (.cons a .nil)
theorem Reps.set {c : RC} {H : Hp} {v : V} {d : D} (r : Rep c H v d) : ∀ {vs : List V} {ds : List D} (i : Nat), Reps c H vs ds → Reps c H (vs.set i v) (ds.set i d)
  | [], _, i, h => by cases h; exact .nil
  | _ :: _, _, 0, h => by
    cases h with
    | cons a b => exact .cons r b
  | _ :: _, _, i + 1, h => by
    cases h with
    | cons a b => exact .cons a (Reps.set r i b)
theorem Reps.rep {c : RC} {H : Hp} {vs : List V} {ds : List D} (h : Reps c H vs ds) : ∀ k : Nat, Reps c H (List.replicate k vs).flatten (List.replicate k ds).flatten
  | 0 => .nil
  | k + 1 => by
    rw [List.replicate_succ, List.flatten_cons, List.replicate_succ, List.flatten_cons]
    exact h.append (Reps.rep h k)
theorem Reps.mem {c : RC} {H : Hp} {vs : List V} {ds : List D} (h : Reps c H vs ds) {v : V} (hv : v ∈ vs) : ∃ d, d ∈ ds ∧ Rep c H v d := by
  obtain ⟨i, hi⟩ := List.getElem?_of_mem hv
  obtain ⟨d, h1, h2⟩ := h.get' hi
  exact ⟨d, List.mem_of_getElem? h1, h2⟩

/-! ### what stays -/
/-- what the store's objects are in the heap: never what is frozen -/
def isSto : HO → Prop
  | .tup _ => False
  | .frz _ _ => False
  | .rng _ _ => False
  | .xd _ => False
  | _ => True
def Obs (A : List Addr) (H : Hp) : Prop := ∀ a ∈ A, ∃ o, H a = some o ∧ isSto o
/-- a step: what stands stays, but for the store's objects; new objects of the store are new -/
structure Stp (A A' : List Addr) (H H' : Hp) : Prop where
  pre : A <+: A'
  keep : ∀ a o, H a = some o → a ∉ A → H' a = some o ∧ a ∉ A'
theorem Stp.refl (A : List Addr) (H : Hp) : Stp A A H H := ⟨List.prefix_refl _, fun _ _ h n => ⟨h, n⟩⟩
theorem Stp.trans {A A1 A2 : List Addr} {H H1 H2 : Hp} (a : Stp A A1 H H1) (b : Stp A1 A2 H1 H2) : Stp A A2 H H2 :=
  ⟨a.pre.trans b.pre, fun x o h n => b.keep x o (a.keep x o h n).1 (a.keep x o h n).2⟩
theorem Stp.new {A : List Addr} {H : Hp} {p : Addr} {o : HO} (h : H p = none) : Stp A A H (upd H p o) := ⟨List.prefix_refl _, fun a u e n => ⟨by rw [upd_ne (ne_of_none e h)]; exact e, n⟩⟩
theorem Stp.free {A A' : List Addr} {H H' : Hp} (e : Stp A A' H H') {l : Addr} (h : H' l = none) (n : l ∉ A) : H l = none := by
  cases q : H l with
  | none => rfl
  | some o => rw [(e.keep l o q n).1] at h; cases h
/-- the same with more objects in the store -/
@[reducible] def RC.up (c : RC) (A : List Addr) : RC := { c with A := A }
section
variable {c : RC} {A' : List Addr} {H H' : Hp}
theorem Obs.not {A : List Addr} (h : Obs A H) {a : Addr} {o : HO} (e : H a = some o) (n : ¬ isSto o) : a ∉ A := fun m => by
  obtain ⟨u, e', s⟩ := h a m
  rw [e] at e'; cases e'; exact n s
theorem SqT.keep {K : PySem.W.Frag} {A : List Addr} (ob : Obs A H) (k : Stp A A' H H') {a : Addr} {xs : List V} (h : SqT K H a xs) : SqT K H' a xs := by
  rcases h with (h | ⟨o, h⟩) | h
  · exact .inl (.inl (k.keep _ _ h (ob.not h (fun z => z))).1)
  · exact .inl (.inr ⟨o, (k.keep _ _ h (ob.not h (fun z => z))).1⟩)
  · exact .inr h
theorem FzL.keep {K : PySem.W.Frag} {A : List Addr} (ob : Obs A H) (k : Stp A A' H H') {a : Addr} {xs : List V} (h : FzL K H a xs) : FzL K H' a xs := by
  obtain ⟨o, h⟩ := h
  exact ⟨o, (k.keep _ _ h (ob.not h (fun z => z))).1⟩
theorem pre_get {A A' : List Addr} (p : A <+: A') {n : Nat} {a : Addr} (h : A[n]? = some a) : A'[n]? = some a := by
  obtain ⟨r, e⟩ := p
  rw [← e, List.getElem?_append_left (List.getElem?_eq_some_iff.mp h).1]
  exact h
mutual
theorem Rep.keep (ob : Obs c.A H) (k : Stp c.A A' H H') : ∀ {v : V} {d : D}, Rep c H v d → Rep (c.up A') H' v d
  | _, _, .non => .non
  | _, _, .bl b => .bl b
  | _, _, .int i => .int i
  | _, _, .str x => .str x
  | _, _, .tup h n r => .tup (k.keep _ _ h (ob.not h (fun z => z))).1 n (Reps.keep ob k r)
  | _, _, .lst h r => .lst (FzL.keep ob k h) (Reps.keep ob k r)
  | _, _, .dct h e r n => .dct (k.keep _ _ h (ob.not h (fun z => z))).1 e (Reps.keep ob k r) n
  | _, _, .set h d e1 e2 e3 e5 e6 => .set (k.keep _ _ h (ob.not h (fun z => z))).1 d e1 e2 (Reps.keep ob k e3) e5 e6
  | _, _, .rng h => .rng (k.keep _ _ h (ob.not h (fun z => z))).1
  | _, _, .fn h => .fn h
  | _, _, .ref h => .ref (pre_get k.pre h)
  | _, _, .script h l => .script (FzL.keep ob k h) l
  | _, _, .exc x h e hd r => .exc x (k.keep _ _ h (ob.not h (fun z => z))).1 e (k.keep _ _ hd (ob.not hd (fun z => z))).1 (Rep.keep ob k r)
theorem Reps.keep (ob : Obs c.A H) (k : Stp c.A A' H H') : ∀ {vs : List V} {ds : List D}, Reps c H vs ds → Reps (c.up A') H' vs ds
  | _, _, .nil => .nil
  | _, _, .cons a b => .cons (Rep.keep ob k a) (Reps.keep ob k b)
end
end

/-! ### what may still be changed -/
/-- v stands for a list, a dict, a set that is not frozen: its parts are -/
inductive RepO (c : RC) (H : Hp) : V → D → Prop
  | lst {a : Addr} {xs : List V} {ds : List D} : H a = some (.lst xs) → Reps c H xs ds → RepO c H (.ref a) (.lst ds)
  | dct {a : Addr} {kvs : List (Key × V)} {ks vs : List D} : H a = some (.dK kvs) → ks = kvs.map (fun p => kD p.1) → Reps c H (kvs.map (·.2)) vs → ks.Nodup → RepO c H (.ref a) (.dct ks vs)
  | set {a : Addr} {o : Obj} {es : List (Int × Value)} {ks ks' : List D} {kvs : List V} : H a = some (Raw a o) → IsSet c.w o es → es.map (·.1) = kvs.map (hashV c.w) → Vals kvs (es.map (·.2)) → Reps c H kvs ks' → ks'.Perm ks → ks.Nodup ∧ (∀ k ∈ ks, k.flat = true) → RepO c H (.ref a) (.set ks)
theorem RepO.ref {c : RC} {H : Hp} {v : V} {d : D} (h : RepO c H v d) : ∃ a u, v = .ref a ∧ H a = some u ∧ Mut (some u) ∧ isSto u := by
  cases h with
  | lst h => exact ⟨_, _, rfl, h, trivial, trivial⟩
  | dct h => exact ⟨_, _, rfl, h, trivial, trivial⟩
  | set h => exact ⟨_, _, rfl, h, trivial, trivial⟩
theorem RepO.keep {c : RC} {A' : List Addr} {H H' : Hp} (ob : Obs c.A H) (k : Stp c.A A' H H') {a : Addr} {d : D} (n : a ∉ c.A) (h : RepO c H (.ref a) d) : RepO (c.up A') H' (.ref a) d := by
  cases h with
  | lst h r => exact .lst (k.keep _ _ h n).1 (Reps.keep ob k r)
  | dct h e r m => exact .dct (k.keep _ _ h n).1 e (Reps.keep ob k r) m
  | set h d e1 e2 e3 e5 e6 => exact .set (k.keep _ _ h n).1 d e1 e2 (Reps.keep ob k e3) e5 e6

/-! ### freezing -/
/-- the things at L are frozen -/
structure Frz (L : List Addr) (H H' : Hp) : Prop where
  any : ∀ a, H' a = H a ∨ (a ∈ L ∧ ∃ u o, H a = some u ∧ Mut (some u) ∧ H' a = some (.frz o u))
  all : ∀ a, a ∈ L → ∀ u, H a = some u → Mut (some u) → ∃ o, H' a = some (.frz o u)
theorem frz_one {X : Cx} {pins : List (Addr × Obj)} {σ : St} {H : Hp} {s : Shared} (I : Inv X pins σ H s) {a : Addr} {u : HO} (h : H a = some u) (m : Mut (some u)) : ∃ o, s.heap.get? a = some o ∧ Inv X pins σ (upd H a (.frz o u)) s := by
  have ok := I.hok a u h
  have hlt := ok.lt
  obtain ⟨o, ho⟩ : ∃ o, s.heap.get? a = some o := by
    cases u with
    | lst xs => obtain ⟨_, _, _, _, e⟩ := ok; exact ⟨_, e⟩
    | dK kvs => obtain ⟨_, _, _, _, o, _, _, e, _⟩ := ok; exact ⟨_, e⟩
    | dT kvs => obtain ⟨_, _, _, _, o, _, _, e, _⟩ := ok; exact ⟨_, e⟩
    | set S n => obtain ⟨o, _, _, _, e, _⟩ := ok; exact ⟨_, e⟩
    | ins C dx fs => obtain ⟨_, _, _, e, _⟩ := ok; exact ⟨_, e⟩
    | ext φ => obtain ⟨_, ⟨o, e⟩, _⟩ := ok; exact ⟨_, e⟩
    | tup xs => exact m.elim
    | own x => exact m.elim
    | xd fs => exact m.elim
    | rng lo hi => exact m.elim
    | frz o u => exact m.elim
    | tbl ps => exact m.elim
    | met f x => exact m.elim
  refine ⟨o, ho, ?_⟩
  have w := I.write (t' := s.toks) (h' := s.heap) (x := a) (e := a) (o := .frz o u) (by rw [h]; exact m) (.inl rfl) (fun b v _ q => q) ⟨o, ho⟩ ⟨ho, ?_⟩
  · exact w
  · refine ok.stay (fun b v _ q => q) (fun b q => ?_) fun b xs q => ?_
    · rw [upd_ne]; exact q
      intro z; subst z; rw [h] at q; cases q; exact m
    · rw [upd_ne]; exact q
      intro z; subst z; rw [h] at q; cases q; exact m
theorem frz_all {X : Cx} {pins : List (Addr × Obj)} {σ : St} {s : Shared} : ∀ (L : List Addr) {H : Hp}, Inv X pins σ H s → ∃ H', Frz L H H' ∧ Inv X pins σ H' s
  | [], H, I => ⟨H, ⟨fun _ => .inl rfl, fun a m => by cases m⟩, I⟩
  | a :: L, H, I => by
    obtain ⟨H1, ⟨f1, f2⟩, I1⟩ := frz_all L I
    by_cases hm : ∃ u, H1 a = some u ∧ Mut (some u)
    · obtain ⟨u, h, m⟩ := hm
      obtain ⟨o, ho, I2⟩ := frz_one I1 h m
      have h0 : H a = some u := by
        rcases f1 a with e | ⟨_, v, w, _, _, e⟩
        · rw [← e]; exact h
        · rw [h] at e; cases e; exact m.elim
      refine ⟨_, ⟨fun b => ?_, fun b hb v hv mv => ?_⟩, I2⟩
      · by_cases hb : b = a
        · subst hb
          exact .inr ⟨List.mem_cons_self, u, o, h0, m, upd_same⟩
        · rw [upd_ne hb]
          rcases f1 b with e | ⟨e1, e2⟩
          · exact .inl e
          · exact .inr ⟨List.mem_cons_of_mem _ e1, e2⟩
      · by_cases hba : b = a
        · subst hba
          rw [h0] at hv; cases hv
          exact ⟨o, upd_same⟩
        · rw [upd_ne hba]
          rcases List.mem_cons.mp hb with z | z
          · exact absurd z hba
          · exact f2 b z v hv mv
    · refine ⟨H1, ⟨fun b => ?_, fun b hb v hv mv => ?_⟩, I1⟩
      · rcases f1 b with e | ⟨e1, e2⟩
        · exact .inl e
        · exact .inr ⟨List.mem_cons_of_mem _ e1, e2⟩
      · by_cases hbl : b ∈ L
        · exact f2 b hbl v hv mv
        · rcases List.mem_cons.mp hb with z | z
          · subst z
            rcases f1 b with e | ⟨e1, _⟩
            · exact absurd ⟨v, by rw [e]; exact hv, mv⟩ hm
            · exact absurd e1 hbl
          · exact absurd z hbl
/-- behind a freezing of what one likes -/
theorem PE.frz {X : Cx} {e : Expr} {t : TE} (h : PE X e t) : PE X e (fun σ H Q => t σ H fun v H1 => ∃ L, ∀ H2, Frz L H1 H2 → Q v H2) := by
  refine ⟨fun pins s σ H Q I hw => ?_⟩
  refine thn (h.run pins s σ H _ I hw) fun u s1 ⟨v, H1, I1, r, L, q⟩ => ?_
  obtain ⟨H2, f, I2⟩ := frz_all L I1
  exact ⟨v, H2, I2, r, q H2 f⟩
theorem PSs.frz {X : Cx} {e : List Stmt} {t : TS} (h : PSs X e t) : PSs X e (fun D σ H => ∃ L, ∀ H2, Frz L H H2 → t D σ H2) := by
  refine ⟨fun pins s σ H D I ⟨L, hw⟩ => ?_⟩
  obtain ⟨H2, f, I2⟩ := frz_all L I
  exact h.run pins s σ H2 D I2 (hw H2 f)
theorem Frz.nil {H H' : Hp} (f : Frz [] H H') : H' = H := by
  funext a
  rcases f.any a with e | ⟨m, _⟩
  · exact e
  · cases m
theorem PE.mono {X : Cx} {e : Expr} {t t' : TE} (h : PE X e t) (m : ∀ σ H Q, t' σ H Q → t σ H Q) : PE X e t' := ⟨fun pins s σ H Q I hw => h.run pins s σ H Q I (m σ H Q hw)⟩
theorem PT.mono {X : Cx} {e : Expr} {t t' : TT} (h : PT X e t) (m : ∀ σ H Q, t' σ H Q → t σ H Q) : PT X e t' := ⟨fun pins s σ H Q I hw => h.run pins s σ H Q I (m σ H Q hw)⟩
theorem PA.mono {X : Cx} {e : List Expr} {t t' : TA} (h : PA X e t) (m : ∀ σ H Q, t' σ H Q → t σ H Q) : PA X e t' := ⟨fun p pins s σ H Q I hw => h.run p pins s σ H Q I (m σ H Q hw)⟩
theorem PS.mono {X : Cx} {e : Stmt} {t t' : TS} (h : PS X e t) (m : ∀ D σ H, t' D σ H → t D σ H) : PS X e t' := ⟨fun pins s σ H D I hw => h.run pins s σ H D I (m D σ H hw)⟩
theorem PSs.mono {X : Cx} {e : List Stmt} {t t' : TS} (h : PSs X e t) (m : ∀ D σ H, t' D σ H → t D σ H) : PSs X e t' := ⟨fun pins s σ H D I hw => h.run pins s σ H D I (m D σ H hw)⟩
theorem Frz.at {L : List Addr} {H H' : Hp} (f : Frz L H H') {a : Addr} {u : HO} (h : H a = some u) (n : ¬ Mut (some u)) : H' a = some u := by
  rcases f.any a with e | ⟨_, v, o, e, m, _⟩
  · rw [e]; exact h
  · rw [h] at e; cases e; exact absurd m n
theorem Frz.none {L : List Addr} {H H' : Hp} (f : Frz L H H') {a : Addr} (h : H a = Option.none) : H' a = Option.none := by
  rcases f.any a with e | ⟨_, v, o, e, m, _⟩
  · rw [e]; exact h
  · rw [h] at e; cases e
theorem Frz.out {L : List Addr} {H H' : Hp} (f : Frz L H H') {a : Addr} (n : a ∉ L) : H' a = H a := by
  rcases f.any a with e | ⟨m, _⟩
  · exact e
  · exact absurd m n
section
variable {c : RC} {L : List Addr} {H H' : Hp}
theorem SqT.frz {K : PySem.W.Frag} (f : Frz L H H') {a : Addr} {xs : List V} (h : SqT K H a xs) : SqT K H' a xs := by
  rcases h with (h | ⟨o, h⟩) | h
  · exact .inl (.inl (f.at h (fun z => z)))
  · exact .inl (.inr ⟨o, f.at h (fun z => z)⟩)
  · exact .inr h
theorem FzL.frz {K : PySem.W.Frag} (f : Frz L H H') {a : Addr} {xs : List V} (h : FzL K H a xs) : FzL K H' a xs := by
  obtain ⟨o, h⟩ := h
  exact ⟨o, f.at h (fun z => z)⟩
mutual
theorem Rep.frz (f : Frz L H H') : ∀ {v : V} {d : D}, Rep c H v d → Rep c H' v d
  | _, _, .non => .non
  | _, _, .bl b => .bl b
  | _, _, .int i => .int i
  | _, _, .str x => .str x
  | _, _, .tup h n r => .tup (f.at h (fun z => z)) n (Reps.frz f r)
  | _, _, .lst h r => .lst (FzL.frz f h) (Reps.frz f r)
  | _, _, .dct h e r n => .dct (f.at h (fun z => z)) e (Reps.frz f r) n
  | _, _, .set h d e1 e2 e3 e5 e6 => .set (f.at h (fun z => z)) d e1 e2 (Reps.frz f e3) e5 e6
  | _, _, .rng h => .rng (f.at h (fun z => z))
  | _, _, .fn h => .fn h
  | _, _, .ref h => .ref h
  | _, _, .script h l => .script (FzL.frz f h) l
  | _, _, .exc x h e hd r => .exc x (f.at h (fun z => z)) e (f.at hd (fun z => z)) (Rep.frz f r)
theorem Reps.frz (f : Frz L H H') : ∀ {vs : List V} {ds : List D}, Reps c H vs ds → Reps c H' vs ds
  | _, _, .nil => .nil
  | _, _, .cons a b => .cons (Rep.frz f a) (Reps.frz f b)
end
/-- a frozen thing, from one that was not -/
theorem RepO.toF (f : Frz L H H') {a : Addr} {d : D} (m : a ∈ L) (h : RepO c H (.ref a) d) : Rep c H' (.ref a) d := by
  cases h with
  | lst h r =>
    obtain ⟨o, e⟩ := f.all a m _ h trivial
    exact .lst ⟨o, e⟩ (Reps.frz f r)
  | dct h e r n =>
    obtain ⟨o', e'⟩ := f.all a m _ h trivial
    exact .dct e' e (Reps.frz f r) n
  | set h d e1 e2 e3 e5 e6 =>
    obtain ⟨o', e⟩ := f.all a m _ h trivial
    exact .set e d e1 e2 (Reps.frz f e3) e5 e6
/-- what is not frozen stays as it is -/
theorem RepO.out (f : Frz L H H') {a : Addr} {d : D} (n : a ∉ L) (h : RepO c H (.ref a) d) : RepO c H' (.ref a) d := by
  cases h with
  | lst h r => exact .lst ((f.out n).trans h) (Reps.frz f r)
  | dct h e r m => exact .dct ((f.out n).trans h) e (Reps.frz f r) m
  | set h d e1 e2 e3 e5 e6 => exact .set ((f.out n).trans h) d e1 e2 (Reps.frz f e3) e5 e6
end

/-! ### the state -/
/-- how a slot's value stands: frozen; a list or dict of this def's own, that may be changed; one lent by a caller -/
inductive Md where
  | F | O | B
  deriving DecidableEq
def md (Γ : List Md) (i : Nat) : Md := Γ.getD i .F
/-- no thing of the store's, none that a comprehension makes -/
@[reducible] def RC.out (c : RC) (a : Addr) : Prop := a ∉ c.A ∧ a ∉ c.hid
/-- frozen, or lent: to be looked at -/
def RepU (c : RC) (H : Hp) (v : V) (d : D) : Prop := Rep c H v d ∨ (RepO c H v d ∧ ∃ a, v = .ref a ∧ c.out a)
def RepM (c : RC) (H0 H : Hp) (m : Md) (v : V) (d : D) : Prop := match m with
  | .F => Rep c H v d
  | .O => RepO c H v d ∧ ∃ a, v = .ref a ∧ c.out a ∧ H0 a = none
  | .B => Rep c H v d ∨ (RepO c H v d ∧ ∃ a, v = .ref a ∧ c.out a ∧ ∃ u, H0 a = some u)
theorem RepM.u {c : RC} {H0 H : Hp} {m : Md} {v : V} {d : D} (h : RepM c H0 H m v d) : RepU c H v d := by
  cases m with
  | F => exact .inl h
  | O => obtain ⟨h, a, e, n, _⟩ := h; exact .inr ⟨h, a, e, n⟩
  | B => exact h.elim .inl fun ⟨h, a, e, n, _⟩ => .inr ⟨h, a, e, n⟩
/-- an object of the store -/
def ObRep (c : RC) (H : Hp) (a : Addr) : Ob → Prop
  | .lst xs => ∃ vs : List V, H a = some (.lst vs) ∧ Reps c H vs xs
  | _ => False
structure StoOk (c : RC) (st : Sto) (H : Hp) : Prop where
  len : c.A.length = st.obs.length
  nd : c.A.Nodup
  ob : ∀ (n : Nat) (o : Ob), st.obs[n]? = some o → ∃ a : Addr, c.A[n]? = some a ∧ ObRep c H a o
theorem StoOk.obs {c : RC} {st : Sto} {H : Hp} (h : StoOk c st H) : Obs c.A H := fun a m => by
  obtain ⟨n, hn⟩ := List.getElem?_of_mem m
  have hl : n < st.obs.length := by rw [← h.len]; exact (List.getElem?_eq_some_iff.mp hn).1
  obtain ⟨a', e, r⟩ := h.ob n st.obs[n] (List.getElem?_eq_getElem hl)
  rw [hn] at e; cases e
  cases q : st.obs[n] with
  | inst _ _ => rw [q] at r; exact r.elim
  | dct _ _ => rw [q] at r; exact r.elim
  | lst _ =>
    rw [q] at r
    obtain ⟨vs, e, _⟩ := r
    exact ⟨_, e, trivial⟩
structure Rel (c : RC) (H0 : Hp) (A0 : List Addr) (Γ : List Md) (l : Loc) (st : Sto) (σ : L2.St) (H : Hp) : Prop where
  len : l.length = σ.length
  slot : ∀ (i : Nat) (d : D), l[i]? = some (some d) → ∃ v, σ[i]? = some (some v) ∧ RepM c H0 H (md Γ i) v d
  own : ∀ (i j : Nat) (a : Addr) (d e : D), i ≠ j → md Γ i = .O → md Γ j = .O → l[i]? = some (some d) → l[j]? = some (some e) → σ[i]? = some (some (.ref a)) → σ[j]? = some (some (.ref a)) → False
  old : Stp A0 c.A H0 H
  sto : StoOk c st H
end Py
end

section
set_option Elab.async false
set_option linter.all false
set_option maxRecDepth 100000
set_option autoImplicit false
/-! Sim2: expressions: what the model's evaluation does, said by wpE. -/
namespace Py
open PySem L2

/-- the frame of a proof: what is fixed, the heap at the def's entry, how the slots stand, what the callees do, what is wanted of an exception -/
structure Cn where
  b : RC
  H0 : Hp
  A0 : List Addr
  Γ : List Md
  sub : Str → Str → Bool
  C : CallS
  EX : D → Loc → Sto → Prop
/-- the state's relation -/
abbrev Cn.rel (G : Cn) (A : List Addr) (l : Loc) (st : Sto) (σ : L2.St) (H : Hp) : Prop := Rel (G.b.up A) G.H0 G.A0 G.Γ l st σ H
/-- how a result stands: behind the start at Hs -/
abbrev RM := RC → Hp → Hp → V → D → Prop
def RF : RM := fun c _ H v d => Rep c H v d
def RU : RM := fun c _ H v d => RepU c H v d
/-- a new thing that nobody else knows -/
def RN : RM := fun c Hs H v d => RepO c H v d ∧ ∃ a, v = .ref a ∧ a ∉ c.A ∧ Hs a = none
/-- new if it can be changed at all -/
def RX : RM := fun c Hs H v d => (d.isCon = true → RN c Hs H v d) ∧ (d.isCon = false → Rep c H v d)
def tE (G : Cn) (R : RM) (e : E) : TE := fun σ H QQ => ∃ A l st, G.rel A l st σ H ∧
  wpE G.sub G.C e l st (fun d st' => ∀ v A' H', Stp A A' H H' → G.rel A' l st' σ H' → R (G.b.up A') H H' v d → QQ v H') fun x st' => G.EX x l st'
abbrev RL := RC → Hp → Hp → List V → List D → Prop
def RLF : RL := fun c _ H vs ds => Reps c H vs ds
def RLU : RL := fun c _ H vs ds => Paired (RepU c H) vs ds
def tEs (G : Cn) (R : RL) (e : Es) : TA := fun σ H QQ => ∃ A l st, G.rel A l st σ H ∧
  wpEs G.sub G.C e l st (fun d st' => ∀ v A' H', Stp A A' H H' → G.rel A' l st' σ H' → R (G.b.up A') H H' v d → QQ v H') fun x st' => G.EX x l st'
def tT (G : Cn) (e : E) : TT := fun σ H QQ => ∃ A l st, G.rel A l st σ H ∧
  wpE G.sub G.C e l st (fun d st' => truR d fun b => ∀ A' H', Stp A A' H H' → G.rel A' l st' σ H' → QQ b H') fun x st' => G.EX x l st'

section
variable {G : Cn} {A A' : List Addr} {l : Loc} {st st' : Sto} {σ : L2.St} {H H' H2 : Hp}
theorem Cn.rel.obs (r : G.rel A l st σ H) : Obs A H := r.sto.obs
/-- what stands for a value still does -/
theorem RepU.keep {c : RC} {v : V} {d : D} (ob : Obs c.A H) (k : Stp c.A A' H H') (h : RepU c H v d) : RepU (c.up A') H' v d := by
  rcases h with h | ⟨h, a, e, n⟩
  · exact .inl (Rep.keep ob k h)
  · subst e
    have h' := RepO.keep ob k n.1 h
    obtain ⟨a', u, e', hu, _, _⟩ := h.ref
    cases e'
    exact .inr ⟨h', _, rfl, (k.keep _ _ hu n.1).2, n.2⟩
/-- a new thing laid beside -/
theorem StoOk.new {c : RC} {p : Addr} {o : HO} (s : StoOk c st H) (hp : H p = none) : StoOk c st (upd H p o) := by
  refine ⟨s.len, s.nd, fun n ob e => ?_⟩
  obtain ⟨a, ha, r⟩ := s.ob n ob e
  refine ⟨a, ha, ?_⟩
  cases ob with
  | inst _ _ => exact r.elim
  | dct _ _ => exact r.elim
  | lst _ =>
    obtain ⟨vs, e1, e2⟩ := r
    exact ⟨vs, by rw [upd_ne (ne_of_none e1 hp)]; exact e1, Reps.keep (c := c) s.obs (Stp.new hp) e2⟩
theorem RepM.keep {c : RC} {H0 : Hp} {m : Md} {v : V} {d : D} (ob : Obs c.A H) (k : Stp c.A A' H H') (h : RepM c H0 H m v d) : RepM (c.up A') H0 H' m v d := by
  cases m with
  | F => exact Rep.keep ob k h
  | O =>
    obtain ⟨h, a, e, n, z⟩ := h
    subst e
    obtain ⟨_, u, e', hu, _, _⟩ := h.ref
    cases e'
    exact ⟨RepO.keep ob k n.1 h, _, rfl, ⟨(k.keep _ _ hu n.1).2, n.2⟩, z⟩
  | B =>
    rcases h with h | ⟨h, a, e, n, z⟩
    · exact .inl (Rep.keep ob k h)
    · subst e
      obtain ⟨_, u, e', hu, _, _⟩ := h.ref
      cases e'
      exact .inr ⟨RepO.keep ob k n.1 h, _, rfl, ⟨(k.keep _ _ hu n.1).2, n.2⟩, z⟩
/-- a step -/
theorem Cn.rel.step (r : G.rel A l st σ H) (k : Stp A A' H H') (s : StoOk (G.b.up A') st' H') : G.rel A' l st' σ H' :=
  ⟨r.len, fun i d e => let ⟨v, e1, e2⟩ := r.slot i d e; ⟨v, e1, RepM.keep (c := G.b.up A) r.obs k e2⟩, r.own, r.old.trans k, s⟩
theorem Cn.rel.new {p : Addr} {o : HO} (r : G.rel A l st σ H) (hp : H p = none) : G.rel A l st σ (upd H p o) := r.step (Stp.new hp) (r.sto.new hp)
/-- a new thing, p, is frozen -/
theorem StoOk.frz {c : RC} {L : List Addr} (s : StoOk c st H) (f : Frz L H H') (n : ∀ a ∈ L, a ∉ c.A) : StoOk c st H' := by
  refine ⟨s.len, s.nd, fun m ob e => ?_⟩
  obtain ⟨a, ha, r⟩ := s.ob m ob e
  refine ⟨a, ha, ?_⟩
  cases ob with
  | inst _ _ => exact r.elim
  | dct _ _ => exact r.elim
  | lst _ =>
    obtain ⟨vs, e1, e2⟩ := r
    exact ⟨vs, (f.out fun z => n _ z (List.mem_of_getElem? ha)).trans e1, Reps.frz f e2⟩
theorem RepM.frz {c : RC} {H0 : Hp} {L : List Addr} {m : Md} {v : V} {d : D} (f : Frz L H H') (n : ∀ a ∈ L, m ≠ .F → v ≠ .ref a) (h : RepM c H0 H m v d) : RepM c H0 H' m v d := by
  cases m with
  | F => exact Rep.frz f h
  | O =>
    obtain ⟨h, a, e, z⟩ := h
    subst e
    exact ⟨RepO.out f (fun m => n a m (by decide) rfl) h, _, rfl, z⟩
  | B =>
    rcases h with h | ⟨h, a, e, z⟩
    · exact .inl (Rep.frz f h)
    · subst e
      exact .inr ⟨RepO.out f (fun m => n a m (by decide) rfl) h, _, rfl, z⟩
theorem Cn.rel.frzNew {a : Addr} (r0 : G.rel A l st σ H) (k : Stp A A' H H') (r : G.rel A' l st' σ H') (ha : H a = none) (na : a ∉ A') (f : Frz [a] H' H2) : G.rel A' l st' σ H2 ∧ Stp A A' H H2 := by
  have ne : ∀ b u, H b = some u → b ≠ a := fun b u e z => by rw [z, ha] at e; cases e
  refine ⟨⟨r.len, fun i d e => ?_, r.own, ⟨r.old.pre, fun b o e n => ?_⟩, r.sto.frz f fun b m => ?_⟩, ⟨k.pre, fun b o e n => ?_⟩⟩
  · obtain ⟨v, e1, e2⟩ := r0.slot i d e
    have e3 := RepM.keep (c := G.b.up A) r0.obs k e2
    refine ⟨v, e1, ?_⟩
    cases hm : md G.Γ i with
    | F => rw [hm] at e3; exact Rep.frz f e3
    | O =>
      rw [hm] at e2 e3
      refine RepM.frz f (fun b m _ z => ?_) e3
      obtain rfl : b = a := by simpa using m
      obtain ⟨_, u, e', hu, _⟩ := e2.1.ref
      rw [z] at e'; cases e'
      rw [ha] at hu; cases hu
    | B =>
      rw [hm] at e2
      rcases e2 with e2 | ⟨h, b, eb, nb, z⟩
      · exact .inl (Rep.frz f (Rep.keep (c := G.b.up A) r0.obs k e2))
      · subst eb
        obtain ⟨_, u, e', hu, _⟩ := h.ref
        cases e'
        exact .inr ⟨RepO.out f (by simpa using ne _ u hu) (RepO.keep (c := G.b.up A) r0.obs k nb.1 h), _, rfl, ⟨(k.keep _ _ hu nb.1).2, nb.2⟩, z⟩
  · obtain ⟨q1, q2⟩ := r.old.keep b o e n
    refine ⟨?_, q2⟩
    have z := (r0.old.keep b o e n).1
    rw [f.out (by simpa using ne b o z)]
    exact q1
  · obtain rfl : b = a := by simpa using m
    exact na
  · obtain ⟨q1, q2⟩ := k.keep b o e n
    exact ⟨by rw [f.out (by simpa using ne b o e)]; exact q1, q2⟩

/-! ### from one mode to another -/
variable {X : Cx} {x : Expr} {e : E}
theorem tE.weak {R R' : RM} (h : PE X x (tE G R e)) (w : ∀ c Hs H v d, R c Hs H v d → R' c Hs H v d) (hC : CMono G.C) : PE X x (tE G R' e) := PE.mono h fun σ H QQ ⟨A, l, st, r, g⟩ =>
  ⟨A, l, st, r, wpE_mono hC e (fun d st' q v A' H' k r' h => q v A' H' k r' (w _ _ _ _ _ h)) (fun _ _ q => q) g⟩
theorem RU.of (h : PE X x (tE G RF e)) (hC : CMono G.C) : PE X x (tE G RU e) := tE.weak h (fun _ _ _ _ _ => .inl) hC
/-- a new thing is frozen -/
theorem RF.of (h : PE X x (tE G RX e)) (hC : CMono G.C) : PE X x (tE G RF e) := by
  refine PE.mono (PE.frz h) ?_
  rintro σ H QQ ⟨A, l, st, r, g⟩
  refine ⟨A, l, st, r, wpE_mono hC e (fun d st' q v A' H' k r' h => ?_) (fun _ _ q => q) g⟩
  cases hc : d.isCon with
  | false => exact ⟨[], fun H2 f => by rw [f.nil]; exact q v A' H' k r' (h.2 hc)⟩
  | true =>
    obtain ⟨h, a, e, na, ha⟩ := h.1 hc
    subst e
    refine ⟨[a], fun H2 f => ?_⟩
    obtain ⟨r2, k2⟩ := Cn.rel.frzNew r k r' ha na f
    exact q _ A' H2 k2 r2 (RepO.toF f List.mem_cons_self h)
theorem RX.scalar {c : RC} {Hs H' : Hp} {v : V} {d : D} (h : Rep c H' v d) (n : d.isCon = false) : RX c Hs H' v d := ⟨fun z => absurd (n.symm.trans z) (by decide), fun _ => h⟩

/-! ### names, constants -/
variable {N : List Str} {i : Nat} {nm : Str} {pos : Pos}
theorem getL_some {Q : D → Prop} : ∀ {l : Loc} {i : Nat}, getL l i Q → ∃ d, l[i]? = some (some d) ∧ Q d
  | some d :: _, 0, h => ⟨d, rfl, h⟩
  | none :: _, 0, h => h.elim
  | [], _, h => by unfold getL at h; exact h.elim
  | some _ :: l, i + 1, h => by obtain ⟨d, e, q⟩ := getL_some (l := l) (i := i) h; exact ⟨d, by simpa using e, q⟩
  | none :: l, i + 1, h => by obtain ⟨d, e, q⟩ := getL_some (l := l) (i := i) h; exact ⟨d, by simpa using e, q⟩
/-- a name is read -/
theorem s_bor (hN : X.N[i]? = some nm) (hv : Vis X.env.scope nm) (hd : (nm == ("__debug__" : Str)) = false) (hcd : (nm == ("__classdict__" : Str)) = false) : PE X (.Name nm pos) (tE G RU (.bor i)) := by
  refine PE.mono (pe_var hN hv hd hcd) ?_
  rintro σ H QQ ⟨A, l, st, r, g⟩
  obtain ⟨d, e, q⟩ := getL_some g
  obtain ⟨v, e1, e2⟩ := r.slot i d e
  exact ⟨v, e1, q v A H (Stp.refl _ _) r e2.u⟩
theorem s_slot (hN : X.N[i]? = some nm) (hv : Vis X.env.scope nm) (hm : md G.Γ i = .F) (hd : (nm == ("__debug__" : Str)) = false) (hcd : (nm == ("__classdict__" : Str)) = false) : PE X (.Name nm pos) (tE G RF (.slot i)) := by
  refine PE.mono (pe_var hN hv hd hcd) ?_
  rintro σ H QQ ⟨A, l, st, r, g⟩
  obtain ⟨d, e, q⟩ := getL_some g
  obtain ⟨v, e1, e2⟩ := r.slot i d e
  rw [hm] at e2
  exact ⟨v, e1, q v A H (Stp.refl _ _) r e2⟩
/-- a constant, whose value is known -/
def cstOf : Const → Option D
  | .none => some .none
  | .bool b => some (.bool b)
  | .int i => some (.int i)
  | .str s => some (.str s)
  | _ => Option.none
theorem s_cst {k : Const} {j : Nat} {d : D} (h : cstOf k = some d) : PE X (.Constant k j pos) (tE G RF (.cst d)) := by
  cases k <;> simp only [cstOf, Option.some.injEq, reduceCtorEq] at h <;> subst h
  · exact PE.mono pe_non fun σ H QQ ⟨A, l, st, r, q⟩ => q _ A H (Stp.refl _ _) r .non
  · exact PE.mono pe_bl fun σ H QQ ⟨A, l, st, r, q⟩ => q _ A H (Stp.refl _ _) r (.bl _)
  · exact PE.mono pe_int fun σ H QQ ⟨A, l, st, r, q⟩ => q _ A H (Stp.refl _ _) r (.int _)
  · exact PE.mono pe_str fun σ H QQ ⟨A, l, st, r, q⟩ => q _ A H (Stp.refl _ _) r (.str _)
/-- a constant of the module: an int or a text -/
theorem s_glob {u : Value} {d : D} {v : V} (hg : Gl X nm) (hm : X.mg nm = some u) (rv : RelV v u) (hd : (nm == ("__debug__" : Str)) = false) (hr : ∀ c H, Rep c H v d) : PE X (.Name nm pos) (tE G RF (.glob nm d)) :=
  PE.mono (pe_glob hg hm rv hd) fun σ H QQ ⟨A, l, st, r, q⟩ => q _ A H (Stp.refl _ _) r (hr _ _)
theorem s_fnv {f : Str} {a : Addr} (hg : Gl X nm) (hm : X.mg nm = some (.ref a)) (hb : G.b.mg f = some (.ref a)) (hd : (nm == ("__debug__" : Str)) = false) : PE X (.Name nm pos) (tE G RF (.fnv f)) :=
  PE.mono (pe_glob hg hm (v := .ref a) rfl hd) fun σ H QQ ⟨A, l, st, r, q⟩ => q _ A H (Stp.refl _ _) r (.fn hb)
end
end Py
end

section
set_option Elab.async false
set_option linter.all false
set_option maxRecDepth 100000
set_option autoImplicit false
/-! Sim3: operators and comparisons by what stands for data. -/
namespace Py
open PySem L2

/-- the heap, and at most one new thing -/
def New (H H' : Hp) : Prop := H' = H ∨ ∃ p o, H p = none ∧ H' = upd H p o
theorem New.same {H : Hp} : New H H := .inl rfl
theorem New.one {H : Hp} {p : Addr} {o : HO} (h : H p = none) : New H (upd H p o) := .inr ⟨p, o, h, rfl⟩
theorem New.stp {A : List Addr} {H H' : Hp} (n : New H H') : Stp A A H H' := by
  rcases n with rfl | ⟨p, o, h, rfl⟩
  · exact Stp.refl _ _
  · exact Stp.new h
theorem New.rel {G : Cn} {A : List Addr} {l : Loc} {st : Sto} {σ : L2.St} {H H' : Hp} (n : New H H') (r : G.rel A l st σ H) : G.rel A l st σ H' := by
  rcases n with rfl | ⟨p, o, h, rfl⟩
  · exact r
  · exact r.new h
theorem RX.back {c : RC} {A A' : List Addr} {H H1 H' : Hp} {v : V} {d : D} (k : Stp A A' H H1) (h : RX (c.up A') H1 H' v d) : RX (c.up A') H H' v d := by
  refine ⟨fun z => ?_, h.2⟩
  obtain ⟨h1, a, e, n, z⟩ := h.1 z
  exact ⟨h1, a, e, n, k.free z fun m => n (List.IsPrefix.mem m k.pre)⟩

/-! ### data -/
mutual
theorem Rep.dp {c : RC} {H : Hp} : ∀ {v : V} {d : D}, Rep c H v d → d.pln = true → Dp c.K H v d.pd
  | _, _, .non, _ => .non
  | _, _, .bl b, _ => .bl b
  | _, _, .int i, _ => .int i
  | _, _, .str x, _ => .str x
  | _, _, .tup h n r, p => .tup (.inl (.inr ⟨_, h⟩)) (Reps.dp r (by simpa [D.pln] using p))
  | _, _, .lst h r, p => .lst h.sq (Reps.dp r (by simpa [D.pln] using p))
  | _, _, .dct .., p => by simp [D.pln] at p
  | _, _, .set .., p => by simp [D.pln] at p
  | _, _, .rng .., p => by simp [D.pln] at p
  | _, _, .fn .., p => by simp [D.pln] at p
  | _, _, .ref .., p => by simp [D.pln] at p
  | _, _, .script .., p => by simp [D.pln] at p
  | _, _, .exc .., p => by simp [D.pln] at p
theorem Reps.dp {c : RC} {H : Hp} : ∀ {vs : List V} {ds : List D}, Reps c H vs ds → plns ds = true → DpAll c.K H vs (pds ds)
  | _, _, .nil, _ => .nil
  | _, _, .cons a b, p => by
    simp only [plns, Bool.and_eq_true] at p
    exact .cons (Rep.dp a p.1) (Reps.dp b p.2)
end
theorem RepU.dp {c : RC} {H : Hp} {v : V} {d : D} (h : RepU c H v d) (p : d.pln = true) : Dp c.K H v d.pd := by
  rcases h with h | ⟨h, _⟩
  · exact h.dp p
  · cases h with
    | lst h r => exact .lst (SqL.of h) (Reps.dp r (by simpa [D.pln] using p))
    | dct => simp [D.pln] at p
    | set => simp [D.pln] at p
mutual
theorem pd_plain : ∀ d : D, d.pln = true → d.pd.plain = true
  | .none, _ => rfl
  | .bool _, _ => rfl
  | .int _, _ => rfl
  | .str _, _ => rfl
  | .tup xs, h => by simp only [D.pd, PyData.plain]; exact pds_plain xs (by simpa [D.pln] using h)
  | .lst xs, h => by simp only [D.pd, PyData.plain]; exact pds_plain xs (by simpa [D.pln] using h)
  | .set _, h => by simp [D.pln] at h
  | .dct _ _, h => by simp [D.pln] at h
  | .rng _ _, h => by simp [D.pln] at h
  | .exc _ _, h => by simp [D.pln] at h
  | .fn _, h => by simp [D.pln] at h
  | .ref _, h => by simp [D.pln] at h
  | .script, h => by simp [D.pln] at h
theorem pds_plain : ∀ ds : List D, plns ds = true → PyData.plainAll (pds ds) = true
  | [], _ => rfl
  | d :: ds, h => by
    simp only [plns, Bool.and_eq_true] at h
    simp only [pds, PyData.plainAll, Bool.and_eq_true]
    exact ⟨pd_plain d h.1, pds_plain ds h.2⟩
end
mutual
theorem pd_depth : ∀ d : D, d.pd.depth ≤ d.dep
  | .none => by simp [D.pd, PyData.depth]
  | .bool _ => by simp [D.pd, PyData.depth]
  | .int _ => by simp [D.pd, PyData.depth]
  | .str _ => by simp [D.pd, PyData.depth]
  | .tup xs => by
    have := pds_depth xs
    simp only [D.pd, PyData.depth, D.dep]; omega
  | .lst xs => by
    have := pds_depth xs
    simp only [D.pd, PyData.depth, D.dep]; omega
  | .set _ => by simp [D.pd, PyData.depth]
  | .dct _ _ => by simp [D.pd, PyData.depth]
  | .rng _ _ => by simp [D.pd, PyData.depth]
  | .exc _ _ => by simp [D.pd, PyData.depth]
  | .fn _ => by simp [D.pd, PyData.depth]
  | .ref _ => by simp [D.pd, PyData.depth]
  | .script => by simp [D.pd, PyData.depth]
theorem pds_depth : ∀ ds : List D, PyData.depthAll (pds ds) ≤ deps ds
  | [] => by simp [pds, PyData.depthAll]
  | d :: ds => by
    have := pd_depth d
    have := pds_depth ds
    simp only [pds, PyData.depthAll, deps]; omega
end
mutual
theorem pd_eqv : ∀ a b : D, a.pln = true → b.pln = true → PyData.eqv a.pd b.pd = pyEq a b
  | .tup xs, .tup ys, h, h' => by
    simp only [D.pd, PyData.eqv, pyEq]
    exact pds_eqv xs ys (by simpa [D.pln] using h) (by simpa [D.pln] using h')
  | .lst xs, .lst ys, h, h' => by
    simp only [D.pd, PyData.eqv, pyEq]
    exact pds_eqv xs ys (by simpa [D.pln] using h) (by simpa [D.pln] using h')
  | .none, b, _, h' => by cases b <;> simp [D.pln] at h' <;> simp [D.pd, PyData.eqv, pyEq]
  | .bool x, b, _, h' => by cases b <;> simp [D.pln] at h' <;> simp [D.pd, PyData.eqv, pyEq]
  | .int x, b, _, h' => by cases b <;> simp [D.pln] at h' <;> simp [D.pd, PyData.eqv, pyEq]
  | .str x, b, _, h' => by cases b <;> simp [D.pln] at h' <;> simp [D.pd, PyData.eqv, pyEq, Bool.beq_eq_decide_eq]
  | .tup xs, .none, _, _ => by simp [D.pd, PyData.eqv, pyEq]
  | .tup xs, .bool _, _, _ => by simp [D.pd, PyData.eqv, pyEq]
  | .tup xs, .int _, _, _ => by simp [D.pd, PyData.eqv, pyEq]
  | .tup xs, .str _, _, _ => by simp [D.pd, PyData.eqv, pyEq]
  | .tup xs, .lst _, _, _ => by simp [D.pd, PyData.eqv, pyEq]
  | .lst xs, .none, _, _ => by simp [D.pd, PyData.eqv, pyEq]
  | .lst xs, .bool _, _, _ => by simp [D.pd, PyData.eqv, pyEq]
  | .lst xs, .int _, _, _ => by simp [D.pd, PyData.eqv, pyEq]
  | .lst xs, .str _, _, _ => by simp [D.pd, PyData.eqv, pyEq]
  | .lst xs, .tup _, _, _ => by simp [D.pd, PyData.eqv, pyEq]
  | .set _, _, h, _ => by simp [D.pln] at h
  | .dct _ _, _, h, _ => by simp [D.pln] at h
  | .rng _ _, _, h, _ => by simp [D.pln] at h
  | .exc _ _, _, h, _ => by simp [D.pln] at h
  | .fn _, _, h, _ => by simp [D.pln] at h
  | .ref _, _, h, _ => by simp [D.pln] at h
  | .script, _, h, _ => by simp [D.pln] at h
  | .tup _, .set _, _, h => by simp [D.pln] at h
  | .tup _, .dct _ _, _, h => by simp [D.pln] at h
  | .tup _, .rng _ _, _, h => by simp [D.pln] at h
  | .tup _, .exc _ _, _, h => by simp [D.pln] at h
  | .tup _, .fn _, _, h => by simp [D.pln] at h
  | .tup _, .ref _, _, h => by simp [D.pln] at h
  | .tup _, .script, _, h => by simp [D.pln] at h
  | .lst _, .set _, _, h => by simp [D.pln] at h
  | .lst _, .dct _ _, _, h => by simp [D.pln] at h
  | .lst _, .rng _ _, _, h => by simp [D.pln] at h
  | .lst _, .exc _ _, _, h => by simp [D.pln] at h
  | .lst _, .fn _, _, h => by simp [D.pln] at h
  | .lst _, .ref _, _, h => by simp [D.pln] at h
  | .lst _, .script, _, h => by simp [D.pln] at h
theorem pds_eqv : ∀ a b : List D, plns a = true → plns b = true → PyData.eqvAll (pds a) (pds b) = pyEqs a b
  | [], [], _, _ => rfl
  | [], _ :: _, _, _ => rfl
  | _ :: _, [], _, _ => rfl
  | x :: xs, y :: ys, h, h' => by
    simp only [plns, Bool.and_eq_true] at h h'
    simp only [pds, PyData.eqvAll, pyEqs, pd_eqv x y h.1 h'.1, pds_eqv xs ys h.2 h'.2]
end
theorem pds_map : ∀ ds : List D, pds ds = ds.map D.pd
  | [] => rfl
  | d :: ds => by simp [pds, pds_map ds]
theorem any_eqv {x : D} (hx : x.pln = true) : ∀ ys : List D, plns ys = true → ((pds ys).any fun y => PyData.eqv y x.pd) = ys.any fun y => pyEq y x
  | [], _ => rfl
  | y :: ys, h => by
    simp only [plns, Bool.and_eq_true] at h
    simp only [pds, List.any_cons, pd_eqv y x h.1 hx, any_eqv hx ys h.2]
theorem plns_of : ∀ ys : List D, ys.all D.cmpOk = true → plns ys = true ∧ deps ys ≤ 40
  | [], _ => ⟨rfl, by simp [deps]⟩
  | y :: ys, h => by
    simp only [List.all_cons, Bool.and_eq_true, D.cmpOk, decide_eq_true_eq] at h
    obtain ⟨h1, h2⟩ := plns_of ys (by simpa [D.cmpOk] using h.2)
    exact ⟨by simp [plns, h.1.1, h1], by simp only [deps]; omega⟩
theorem cmpOk_of {d : D} (h : d.cmpOk = true) : d.pln = true ∧ d.dep ≤ 40 := by
  simpa [D.cmpOk] using h
mutual
theorem pd_alike : ∀ a b : D, alk a b = true → W.alike a.pd b.pd = true
  | .none, b, h => by cases b <;> simp [alk] at h <;> rfl
  | .bool x, b, h => by cases b <;> simp [alk] at h <;> rfl
  | .int x, b, h => by cases b <;> simp [alk] at h <;> rfl
  | .str x, b, h => by cases b <;> simp [alk] at h <;> rfl
  | .tup xs, b, h => by
    cases b <;> simp [alk] at h
    simp only [D.pd, W.alike]
    exact pds_alike _ _ h
  | .lst xs, b, h => by
    cases b <;> simp [alk] at h
    simp only [D.pd, W.alike]
    exact pds_alike _ _ h
  | .set _, b, h => by simp [alk] at h
  | .dct _ _, b, h => by simp [alk] at h
  | .rng _ _, b, h => by simp [alk] at h
  | .exc _ _, b, h => by simp [alk] at h
  | .fn _, b, h => by simp [alk] at h
  | .ref _, b, h => by simp [alk] at h
  | .script, b, h => by simp [alk] at h
theorem pds_alike : ∀ a b : List D, alks a b = true → W.alikeAll (pds a) (pds b) = true
  | [], b, _ => by simp [pds, W.alikeAll]
  | x :: xs, [], h => by simp [pds, W.alikeAll]
  | x :: xs, y :: ys, h => by
    simp only [alks, Bool.and_eq_true] at h
    simp only [pds, W.alikeAll, pd_alike x y h.1, pds_alike xs ys h.2, Bool.and_self]
end
theorem b2i_lt : ∀ x y : Bool, decide (PyProof.Rows.b2i x < PyProof.Rows.b2i y) = (!x && y) := by decide
mutual
theorem pd_lt : ∀ a b : D, alk a b = true → a.pln = true → b.pln = true → W.dataLt a.pd b.pd = ltD a b
  | .none, b, h, _, _ => by cases b <;> simp [alk] at h <;> rfl
  | .bool x, b, h, _, _ => by
    cases b <;> simp [alk] at h
    simp only [D.pd, W.dataLt_bool, ltD]
    exact b2i_lt _ _
  | .int x, b, h, _, _ => by
    cases b <;> simp [alk] at h
    simp only [D.pd, W.dataLt_int, ltD]
  | .str x, b, h, _, _ => by
    cases b <;> simp [alk] at h
    simp only [D.pd, W.dataLt_str, ltD]
  | .tup xs, b, h, h1, h2 => by
    cases b <;> simp [alk] at h
    simp only [D.pd, W.dataLt_tuple, ltD]
    exact pds_lt _ _ h (by simpa [D.pln] using h1) (by simpa [D.pln] using h2)
  | .lst xs, b, h, h1, h2 => by
    cases b <;> simp [alk] at h
    simp only [D.pd, W.dataLt_list, ltD]
    exact pds_lt _ _ h (by simpa [D.pln] using h1) (by simpa [D.pln] using h2)
  | .set _, b, h, _, _ => by simp [alk] at h
  | .dct _ _, b, h, _, _ => by simp [alk] at h
  | .rng _ _, b, h, _, _ => by simp [alk] at h
  | .exc _ _, b, h, _, _ => by simp [alk] at h
  | .fn _, b, h, _, _ => by simp [alk] at h
  | .ref _, b, h, _, _ => by simp [alk] at h
  | .script, b, h, _, _ => by simp [alk] at h
theorem pds_lt : ∀ a b : List D, alks a b = true → plns a = true → plns b = true → PyProof.Rows.lexLt PyProof.Rows.itemOrd (W.keyToksAll (pds a)) (W.keyToksAll (pds b)) = ltDs a b
  | [], [], _, _, _ => by simp [pds, W.keyToksAll, ltDs, PyProof.Rows.lexLt, PyProof.Rows.itemLt]
  | [], y :: ys, _, _, _ => by simp [pds, W.keyToksAll, ltDs, PyProof.Rows.lexLt, PyProof.Rows.itemLt]
  | x :: xs, [], h, _, _ => by simp [pds, W.keyToksAll, ltDs, PyProof.Rows.lexLt, PyProof.Rows.itemLt]
  | x :: xs, y :: ys, h, h1, h2 => by
    simp only [alks, Bool.and_eq_true] at h
    simp only [plns, Bool.and_eq_true] at h1 h2
    have ha := pd_alike x y h.1
    simp only [pds, ltDs]
    cases e : pyEq x y with
    | true =>
      have e' : PyData.eqv x.pd y.pd = true := by rw [pd_eqv x y h1.1 h2.1]; exact e
      rw [W.dataLt_all_yes ha e', pds_lt xs ys h.2 h1.2 h2.2]; simp
    | false =>
      have e' : PyData.eqv x.pd y.pd = false := by rw [pd_eqv x y h1.1 h2.1]; exact e
      rw [W.dataLt_all_no ha e', pd_lt x y h.1 h1.1 h2.1]; simp
end

/-! ### what a rule asks: what stands for data -/
section
variable {c : RC} {X : Cx} {A : List Addr} {H : Hp} {v : V}
theorem RepU.non (h : RepU c H v .none) : v = .non := by
  rcases h with h | ⟨h, _⟩ <;> cases h; rfl
theorem RepU.bool {b : Bool} (h : RepU c H v (.bool b)) : v = .bl b := by
  rcases h with h | ⟨h, _⟩ <;> cases h; rfl
theorem RepU.int {i : Int} (h : RepU c H v (.int i)) : v = .int i := by
  rcases h with h | ⟨h, _⟩ <;> cases h; rfl
theorem RepU.str {x : Str} (h : RepU c H v (.str x)) : v = .str x := by
  rcases h with h | ⟨h, _⟩ <;> cases h; rfl
theorem RepU.tup {ds : List D} (h : RepU c H v (.tup ds)) : ∃ a xs, v = .ref a ∧ SqT c.K H a xs ∧ Reps c H xs ds ∧ Rep c H v (.tup ds) := by
  rcases h with h | ⟨h, _⟩
  · cases h with | tup h n r => exact ⟨_, _, rfl, .inl (.inr ⟨_, h⟩), r, .tup h n r⟩
  · cases h
theorem RepU.lst {ds : List D} (h : RepU c H v (.lst ds)) : ∃ a xs, v = .ref a ∧ Rd H a (.lst xs) ∧ Reps c H xs ds := by
  rcases h with h | ⟨h, _⟩
  · cases h with | lst h r => exact ⟨_, _, rfl, h.rd, r⟩
  · cases h with | lst h r => exact ⟨_, _, rfl, .inl h, r⟩
/-- what stands for a value that is a dict -/
theorem RepU.dct {ks vs : List D} (h : RepU c H v (.dct ks vs)) : ∃ (a : Addr) (kvs : List (Key × V)), v = .ref a ∧ Rd H a (.dK kvs) ∧ ks = kvs.map (fun p => kD p.1) ∧ Reps c H (kvs.map (·.2)) vs ∧ ks.Nodup := by
  rcases h with h | ⟨h, _⟩
  · cases h with | dct h e r n => exact ⟨_, _, rfl, .inr ⟨_, h⟩, e, r, n⟩
  · cases h with | dct h e r n => exact ⟨_, _, rfl, .inl h, e, r, n⟩
theorem RepU.set {ks : List D} (h : RepU c H v (.set ks)) : ∃ (a : Addr) (o : Obj) (u : HO) (es : List (Int × Value)) (kvs : List V) (ks' : List D), v = .ref a ∧ H a = some u ∧ (u = Raw a o ∨ ∃ o', u = .frz o' (Raw a o)) ∧ IsSet c.w o es ∧
    es.map (·.1) = kvs.map (hashV c.w) ∧ Vals kvs (es.map (·.2)) ∧ Reps c H kvs ks' ∧ ks'.Perm ks ∧ ks.Nodup ∧ (∀ k ∈ ks, k.flat = true) := by
  rcases h with h | ⟨h, _⟩
  · cases h with | set h d e1 e2 e3 e5 e6 => exact ⟨_, _, _, _, _, _, rfl, h, .inr ⟨_, rfl⟩, d, e1, e2, e3, e5, e6⟩
  · cases h with | set h d e1 e2 e3 e5 e6 => exact ⟨_, _, _, _, _, _, rfl, h, .inl rfl, d, e1, e2, e3, e5, e6⟩
/-- a raw thing's object -/
theorem Inv.raw {pins : List (Addr × Obj)} {σ : L2.St} {s : Shared} (I : Inv X pins σ H s) {a : Addr} {o : Obj} {u : HO} (h : H a = some u) (e : u = Raw a o ∨ ∃ o', u = .frz o' (Raw a o)) : s.heap.get? a = some o := by
  have ok := I.hok a u h
  rcases e with rfl | ⟨o', rfl⟩
  · exact ok.1
  · exact ok.2.1
theorem Obs.fresh {p : Addr} (ob : Obs A H) (hp : H p = none) : p ∉ A := fun m => by
  obtain ⟨u, e, _⟩ := ob p m
  rw [hp] at e; cases e
/-- the value of an operation: P of it, at most one new thing -/
abbrev OutP (c : RC) (A : List Addr) (H : Hp) (P : D → Prop) (Q : VK) : Prop := ∀ d v H', P d → New H H' → RX (c.up A) H H' v d → Q v H'
/-- f does with what stands for data what r says -/
def Op2 (c : RC) (X : Cx) (f : Value → Value → Sem Value) (r : D → D → (D → Prop) → Prop) : Prop :=
  OpR X f (fun x y H Q => ∃ (A : List Addr) (dx dy : D) (P : D → Prop), Obs A H ∧ RepU (c.up A) H x dx ∧ RepU (c.up A) H y dy ∧ r dx dy P ∧ OutP c A H P Q)
theorem OutP.sc {P : D → Prop} {Q : VK} {d : D} (q : OutP c A H P Q) (h : P d) (r : Rep (c.up A) H v d) (n : d.isCon = false) : Q v H := q d v H h .same (RX.scalar r n)
theorem OutP.nw {P : D → Prop} {Q : VK} {d : D} (ob : Obs A H) (q : OutP c A H P Q) (h : P d) {p : Addr} {o : HO} (hp : H p = none) (r : RepO (c.up A) (upd H p o) (.ref p) d) : Q (.ref p) (upd H p o) :=
  q d _ _ h (.one hp) ⟨fun _ => ⟨r, p, rfl, ob.fresh hp, hp⟩, fun z => by
    cases r <;> cases z⟩
theorem OutP.tp {P : D → Prop} {Q : VK} {ds : List D} {xs : List V} (ob : Obs A H) (q : OutP c A H P Q) (h : P (.tup ds)) {p : Addr} {o : Obj} (hp : H p = none) (ho : o.dict = none) (r : Reps (c.up A) H xs ds) : Q (.ref p) (upd H p (.frz o (.tup xs))) :=
  q _ _ _ h (.one hp) (RX.scalar (.tup upd_same ho (Reps.keep (c := c.up A) ob (Stp.new hp) r)) rfl)
theorem OutP.ls {P : D → Prop} {Q : VK} {ds : List D} {xs : List V} (ob : Obs A H) (q : OutP c A H P Q) (h : P (.lst ds)) {p : Addr} (hp : H p = none) (r : Reps (c.up A) H xs ds) : Q (.ref p) (upd H p (.lst xs)) :=
  q.nw ob h hp (.lst upd_same (Reps.keep (c := c.up A) ob (Stp.new hp) r))
/-- more may be asked -/
theorem OpR.mono {f : Value → Value → Sem Value} {r r' : R2} (h : OpR X f r) (m : ∀ x y H Q, r' x y H Q → r x y H Q) : OpR X f r' := fun pins s σ H x y v u Q I rx ry q => h pins s σ H x y v u Q I rx ry (m _ _ _ _ q)
theorem line24 : (sizeLine : Nat) = 16777216 := sizeLine_eq

theorem Inv.lstR {pins : List (Addr × Obj)} {σ : L2.St} {s : Shared} (I : Inv X pins σ H s) {a : Addr} {xs : List V} (h : Rd H a (.lst xs)) : xs.length ≤ sizeLine ∧ ∃ (its : List Value) (n : Nat), Vals xs its ∧ xs.length = its.length ∧ s.heap.get? a = some { cls := .type "list", data := .seq its.toArray n } := by
  obtain ⟨z, its, n, r, e⟩ := h.ok I.hok
  exact ⟨z, its, n, r, r.length, e⟩
/-- a new tuple: its object is known -/
def tOb (us : List Value) : Obj := { cls := .type "tuple", data := .seq us.toArray }
theorem Inv.tnew {pins : List (Addr × Obj)} {σ : L2.St} {s : Shared} {t' : Nat} (I : Inv X pins σ H s) {xs : List V} {us : List Value} (r : Vals xs us) (hz : xs.length ≤ sizeLine) :
    Inv X pins σ (upd H s.heap.objs.size (.frz (tOb us) (.tup xs))) { s with heap := s.heap.push (tOb us), toks := t' } :=
  I.laid (fun _ _ q => Heap.get?_push_of_some _ q) (Nat.le_refl _) ⟨Heap.get?_push_size _ rfl, hz, us, r, ⟨_, Heap.get?_push_size _ rfl, rfl, 0, rfl⟩⟩
/-- what a new tuple's rule leaves -/
abbrev TupQ (H : Hp) (Q : VK) (xs : List V) : Prop := ∀ (p : Addr) (o : Obj), H p = none → o.dict = none → Q (.ref p) (upd H p (.frz o (.tup xs)))
theorem TupQ.fin {pins : List (Addr × Obj)} {σ : L2.St} {s : Shared} (I : Inv X pins σ H s) {Q : VK} {xs : List V} {us : List Value} (r : Vals xs us) (hz : xs.length ≤ sizeLine) (q : TupQ H Q xs) : EP X pins σ Q (.ref s.heap.objs.size) { s with heap := s.heap.push (tOb us) } :=
  ⟨.ref s.heap.objs.size, _, Inv.tnew (t' := s.toks) I r hz, rfl, q _ _ I.fresh rfl⟩
def rCatF (K : PySem.W.Frag) : R2 := fun x y H Q => ∃ a b xs ys, x = .ref a ∧ y = .ref b ∧ SqT K H a xs ∧ SqT K H b ys ∧ xs.length + ys.length ≤ sizeLine ∧
  (xs = [] → Q (.ref b) H) ∧ (xs ≠ [] → ys = [] → Q (.ref a) H) ∧ (xs ≠ [] → ys ≠ [] → TupQ H Q (xs ++ ys))
theorem op_catF : OpR X (binaryOp .Add) (rCatF X.K) := by
  intro pins s σ H x y v u Q I rx ry h
  obtain ⟨a, b, xs, ys, rfl, rfl, ha, hb, hz, q0, q1, q2⟩ := h
  cases rx
  cases ry
  obtain ⟨its, r1, p1, _⟩ := I.tuple ha
  obtain ⟨its2, r2, p2, _⟩ := I.tuple hb
  by_cases hx : xs = []
  · subst hx
    cases r1
    exact cat_tup0 p1 p2 ⟨.ref b, H, I, rfl, q0 rfl⟩
  · refine HT.cat_tup p1 p2 (fun z => hx (r1.nil_iff.mp z)) (fun z => ⟨.ref a, H, I, rfl, q1 hx (r2.nil_iff.mp z)⟩) (fun z => ?_) (by rw [← r1.length, ← r2.length]; exact hz)
    exact TupQ.fin I (r1.append r2) (by rw [List.length_append]; exact hz) (q2 hx fun w => z (r2.nil_iff.mpr w))
def rSlF (K : PySem.W.Frag) : V → Option Int → Option Int → Hp → VK → Prop := fun x lo hi H Q => ∃ a xs, x = .ref a ∧ SqT K H a xs ∧
  (HT.sIx xs.length 0 lo = 0 ∧ HT.sIx xs.length xs.length hi = xs.length → Q (.ref a) H) ∧ (¬ (HT.sIx xs.length 0 lo = 0 ∧ HT.sIx xs.length xs.length hi = xs.length) → TupQ H Q (cutV xs lo hi))
theorem sl_tupF : SlR X (rSlF X.K) := by
  intro pins s σ H x v vl vu lo hi sl Q I rx hs pl pu h
  obtain ⟨a, xs, rfl, hx, q1, q2⟩ := h
  cases rx
  obtain ⟨its, r, ht, hz⟩ := I.tuple hx
  have hlen : its.toArray.size = xs.length := by rw [List.size_toArray]; exact r.length.symm
  refine ⟨"tuple", _, PyProof.Rows.slot_tuple_getitem.lookup, ht.typeIs, ?_⟩
  by_cases hw : HT.sIx xs.length 0 lo = 0 ∧ HT.sIx xs.length xs.length hi = xs.length
  · exact getItem_tuple_whole ht hs pl pu (by rw [hlen]; exact hw) ⟨.ref a, H, I, rfl, q1 hw⟩
  · refine HT.getItem_tuple_cut ht hs pl pu (by rw [hlen]; exact hw) ?_ (by rw [hlen]; exact hz)
    rw [hlen]
    exact TupQ.fin I ((r.drop (HT.sIx xs.length 0 lo)).take (HT.sIx xs.length xs.length hi - HT.sIx xs.length 0 lo)) (Nat.le_trans (cutV_length xs lo hi) hz) (q2 hw)
def rRepF (K : PySem.W.Frag) : R2 := fun x y H Q => ∃ l k xs, x = .ref l ∧ y = .int k ∧ SqT K H l xs ∧ xs ≠ [] ∧ 2 ≤ k ∧ k ≤ 1000 ∧ xs.length ≤ 1000 ∧ TupQ H Q (List.replicate k.toNat xs).flatten
theorem op_repF : OpR X (binaryOp .Mult) (rRepF X.K) := by
  intro pins s σ H x y v u Q I rx ry h
  obtain ⟨l, k, xs, rfl, rfl, hT, hne, h1, h2, hz, q⟩ := h
  cases rx
  obtain ⟨t, rfl⟩ := ry
  obtain ⟨its, r, ⟨⟨cls, dd, data, sl⟩, ho, hc, n, hd⟩, hs⟩ := I.tuple hT
  simp only at hc hd
  subst hc hd
  have hle : its.length = xs.length := r.length.symm
  have hn : its ≠ [] := fun e => hne (by
    rw [e] at hle
    exact List.eq_nil_of_length_eq_zero hle.symm)
  have hi : its.toArray.isEmpty = false := by
    cases its with
    | nil => exact absurd rfl hn
    | cons a b => rfl
  have hsz0 : its.toArray.size = xs.length := by rw [List.size_toArray, hle]
  have hm : ((its.toArray.size : Nat) : Int) * k ≤ 1000000 := by
    rw [hsz0]
    have a1 : ((xs.length : Nat) : Int) * k ≤ 1000 * k := Int.mul_le_mul_of_nonneg_right (by omega) (by omega)
    omega
  have flen : (List.replicate k.toNat its).flatten.length ≤ sizeLine := by
    rw [PyProof.Rows.lm_len_rep_flat, hle, sizeLine_eq]
    have a1 : k.toNat * xs.length ≤ 1000 * 1000 := Nat.mul_le_mul (by omega) hz
    omega
  have c0 : (decide (k < -(2 ^ 63)) || decide (k ≥ 2 ^ 63)) = false := by
    rw [decide_eq_false (by omega), decide_eq_false (by omega)] <;> rfl
  have c1 : (its.toArray.isEmpty || k == 1) = false := by
    rw [hi, Bool.false_or]
    exact beq_eq_false_iff_ne.mpr (by omega)
  have c2 : (decide (k ≤ 0) || its.toArray.isEmpty) = false := by
    rw [hi, Bool.or_false]
    exact decide_eq_false (by omega)
  have c4 : Builtin.Tuple.tupleTooMany (((its.toArray.size : Nat) : Int) * k) = false := by
    unfold Builtin.Tuple.tupleTooMany
    rw [sizeLine_eq]
    exact decide_eq_false (by omega)
  refine wpAny_binaryOp_repeat_ref (T := "tuple") (U := "int") (by decide) ⟨_, ho, rfl⟩ (fun s' => typeIs_int s' k t) noFill_tuple_mul F.fills_int_mul F.slot_int_rmul repeat_tuple F.slot_int_index.lookup
    (call_meets F.slot_int_rmul (typeIs_int s k t) F.entry_int_rmul (F.args_int_rmul_2 _ _) (int_rmul_tuple k t l its.toArray n dd sl)
      ⟨ho, rfl, ⟨_, ho, rfl⟩, call_meets F.slot_tuple_mul ⟨_, ho, rfl⟩ F.entry_tuple_mul (F.args_tuple_mul_2 _ _) (tuple_mulW l its.toArray n dd sl k t c0 c1 c2 (by omega) c4 (by rw [size_rep, List.size_toArray]; exact flen)) ⟨ho, ?_⟩⟩)
  rw [size_rep]
  exact TupQ.fin I (r.rep k.toNat) (by rw [PyProof.Rows.lm_len_rep_flat, sizeLine_eq]; have a1 : k.toNat * xs.length ≤ 1000 * 1000 := Nat.mul_le_mul (by omega) hz; omega) q
/-- l + m of any lists -/
def rCatU : R2 := fun x y H Q => ∃ l b xs zs, x = .ref l ∧ y = .ref b ∧ Rd H l (.lst xs) ∧ Rd H b (.lst zs) ∧ xs.length + zs.length ≤ sizeLine ∧ ∀ p, H p = none → Q (.ref p) (upd H p (.lst (xs ++ zs)))
theorem op_catU : OpR X (binaryOp .Add) rCatU := by
  intro pins s σ H x y v u Q I rx ry h
  obtain ⟨l, b, xs, zs, rfl, rfl, hH, hB, hz, q⟩ := h
  cases rx
  cases ry
  obtain ⟨z, its, n, r, hl, e⟩ := Inv.lstR I hH
  obtain ⟨z2, its2, n2, r2, hl2, e2⟩ := Inv.lstR I hB
  refine PySem.P.add_list e e2 ?_ (by rw [List.size_toArray, List.size_toArray]; omega)
  have ea : its.toArray ++ its2.toArray = (its ++ its2).toArray := by simp
  rw [ea]
  exact ⟨.ref _, _, I.lnew (t' := s.toks) (r.append r2) (by rw [List.length_append]; omega), rfl, q _ I.fresh⟩
def rRepU : R2 := fun x y H Q => ∃ l k xs, x = .ref l ∧ y = .int k ∧ Rd H l (.lst xs) ∧ -(2 ^ 63) ≤ k ∧ k < 2 ^ 63 ∧ xs.length * k.toNat ≤ sizeLine ∧
  ∀ p, H p = none → Q (.ref p) (upd H p (.lst (List.replicate k.toNat xs).flatten))
theorem op_repU : OpR X (binaryOp .Mult) rRepU := by
  intro pins s σ H x y v u Q I rx ry h
  obtain ⟨l, k, xs, rfl, rfl, hH, h1, h2, hz, q⟩ := h
  cases rx
  obtain ⟨t, rfl⟩ := ry
  obtain ⟨z, its, n, r, hl, e⟩ := Inv.lstR I hH
  have hlen : its.toArray.size * k.toNat ≤ sizeLine := by rw [List.size_toArray, ← hl]; exact hz
  have hcap : ¬ its.toArray.size * k.toNat > (2 ^ 63 - 1) / 8 := by
    have : (sizeLine : Nat) ≤ (2 ^ 63 - 1) / 8 := by decide
    omega
  have hfit : ¬ (!Builtin.List.listFitsIndex k) = true := by
    rw [fitsIndex_both h1 h2]
    exact Bool.false_ne_true
  have hlong : ¬ Builtin.List.listTooLong (its.toArray.size * k.toNat) = true := by
    rw [notLongL hlen]
    exact Bool.false_ne_true
  have hnew : List.foldl (fun x1 x2 => x1 ++ x2) #[] (List.replicate (if its.toArray.isEmpty = true then 0 else k.toNat) its.toArray) = (List.replicate k.toNat its).flatten.toArray := by
    have f0 : ∀ m : Nat, List.foldl (fun x1 x2 => x1 ++ x2) #[] (List.replicate m its.toArray) = (List.replicate m its).flatten.toArray := fun m => by
      have := foldl_rep its m []
      rw [List.nil_append] at this
      exact this
    rw [f0]
    cases its with
    | nil => simp
    | cons a r' => rw [if_neg (by simp)]
  refine wpAny_binaryOp_repeat_ref (T := "list") (U := "int") (by decide) ⟨_, e, rfl⟩ (fun s' => typeIs_int s' k t) noFill_list_mul F.fills_int_mul F.slot_int_rmul repeat_list F.slot_int_index.lookup
    (call_meets F.slot_int_rmul (typeIs_int s k t) F.entry_int_rmul (F.args_int_rmul_2 _ _) (int___rmul___int_list k t l its.toArray n)
      ⟨e, rfl, ⟨_, e, rfl⟩, call_meets F.slot_list_mul ⟨_, e, rfl⟩ F.entry_list_mul (F.args_list_mul_2 _ _) (AutoListH.list___mul___list_int_3 l its.toArray n k t hfit hcap hlong) ⟨e, ?_⟩⟩)
  rw [hnew]
  exact ⟨.ref _, _, I.lnew (t' := s.toks) (r.rep k.toNat) (by rw [PyProof.Rows.lm_len_rep_flat, Nat.mul_comm]; exact hz), rfl, q _ I.fresh⟩
end
/-- the operator of the text -/
def opOf : Op → Operator
  | .add => .Add
  | .sub => .Sub
  | .mul => .Mult
  | .fdiv => .FloorDiv
  | .mod => .Mod
  | .pow => .Pow
section
variable {c : RC} {X : Cx} {A : List Addr} {H : Hp} {v : V}
theorem small_mul {a b : Int} (h : small a ∨ small b) : CMul a b := by
  unfold small at h
  have e : (2 : Int) ^ 64 = 18446744073709551616 := by decide
  unfold CMul
  rw [e]; exact h
theorem op2_add (hK : c.K = X.K) : Op2 c X (binaryOp .Add) (opR .add) := by
  refine OpR.mono (op_add.or (op_add_str.or (op_catF.or op_catU))) ?_
  rintro x y H Q ⟨A, dx, dy, P, ob, hx, hy, h, q⟩
  cases dx <;> cases dy <;> simp only [opR] at h <;> try exact h.elim
  · rw [hx.int, hy.int]; exact .inl ⟨_, _, rfl, rfl, q.sc h (.int _) rfl⟩
  · rw [hx.str, hy.str]; exact .inr (.inl ⟨_, _, rfl, rfl, by rw [line24]; exact h.1, q.sc h.2 (.str _) rfl⟩)
  · obtain ⟨a, xs, rfl, h1, r1, f1⟩ := hx.tup
    obtain ⟨b, ys, rfl, h2, r2, f2⟩ := hy.tup
    have hl1 := r1.length
    have hl2 := r2.length
    refine .inr (.inr (.inl ⟨a, b, xs, ys, rfl, rfl, hK ▸ h1, hK ▸ h2, by rw [line24, hl1, hl2]; exact h.1, fun z => ?_, fun _ z => ?_, fun _ _ p o hp ho => q.tp ob h.2 hp ho (r1.append r2)⟩))
    · subst z
      cases r1
      exact q.sc h.2 f2 rfl
    · subst z
      cases r2
      rw [List.append_nil] at h
      exact q.sc h.2 f1 rfl
  · obtain ⟨a, xs, rfl, h1, r1⟩ := hx.lst
    obtain ⟨b, ys, rfl, h2, r2⟩ := hy.lst
    have hl1 := r1.length
    have hl2 := r2.length
    exact .inr (.inr (.inr ⟨a, b, xs, ys, rfl, rfl, h1, h2, by rw [line24, hl1, hl2]; exact h.1, fun p hp => q.ls ob h.2 hp (r1.append r2)⟩))
theorem op2_sub : Op2 c X (binaryOp .Sub) (opR .sub) := by
  refine OpR.mono op_sub ?_
  rintro x y H Q ⟨A, dx, dy, P, ob, hx, hy, h, q⟩
  cases dx <;> cases dy <;> simp only [opR] at h <;> try exact h.elim
  rw [hx.int, hy.int]; exact ⟨_, _, rfl, rfl, q.sc h (.int _) rfl⟩
theorem op2_fdiv : Op2 c X (binaryOp .FloorDiv) (opR .fdiv) := by
  refine OpR.mono op_fdiv ?_
  rintro x y H Q ⟨A, dx, dy, P, ob, hx, hy, h, q⟩
  cases dx <;> cases dy <;> simp only [opR] at h <;> try exact h.elim
  rw [hx.int, hy.int]; exact ⟨_, _, rfl, rfl, h.1, q.sc h.2 (.int _) rfl⟩
theorem op2_mod : Op2 c X (binaryOp .Mod) (opR .mod) := by
  refine OpR.mono op_mod ?_
  rintro x y H Q ⟨A, dx, dy, P, ob, hx, hy, h, q⟩
  cases dx <;> cases dy <;> simp only [opR] at h <;> try exact h.elim
  rw [hx.int, hy.int]; exact ⟨_, _, rfl, rfl, h.1, q.sc h.2 (.int _) rfl⟩
theorem op2_pow : Op2 c X (binaryOp .Pow) (opR .pow) := by
  refine OpR.mono op_pow ?_
  rintro x y H Q ⟨A, dx, dy, P, ob, hx, hy, h, q⟩
  cases dx <;> cases dy <;> simp only [opR] at h <;> try exact h.elim
  rw [hx.int, hy.int]
  exact ⟨_, _, rfl, rfl, ⟨h.1.1, h.1.2.1, by have e : (2 : Nat) ^ 64 = 18446744073709551616 := by decide
                                             rw [e]; exact h.1.2.2⟩, q.sc h.2 (.int _) rfl⟩
theorem op2_mul (hK : c.K = X.K) : Op2 c X (binaryOp .Mult) (opR .mul) := by
  refine OpR.mono (op_mul.or (op_repF.or op_repU)) ?_
  rintro x y H Q ⟨A, dx, dy, P, ob, hx, hy, h, q⟩
  cases dx <;> cases dy <;> simp only [opR] at h <;> try exact h.elim
  · rw [hx.int, hy.int]; exact .inl ⟨_, _, rfl, rfl, small_mul h.1, q.sc h.2 (.int _) rfl⟩
  · obtain ⟨a, xs, rfl, h1, r1, f1⟩ := hx.tup
    have hl1 := r1.length
    rw [hy.int]
    refine .inr (.inl ⟨a, _, xs, rfl, rfl, hK ▸ h1, fun z => ?_, h.1.2.2.1, h.1.2.2.2, by rw [hl1]; exact h.1.2.1, fun p o hp ho => q.tp ob h.2 hp ho (r1.rep _)⟩)
    subst z
    cases r1
    exact h.1.1 rfl
  · obtain ⟨a, xs, rfl, h1, r1⟩ := hx.lst
    have hl1 := r1.length
    rw [hy.int]
    exact .inr (.inr ⟨a, _, xs, rfl, rfl, h1, h.1.1, h.1.2, by rw [line24, hl1]; exact h.2.1, fun p hp => q.ls ob h.2.2 hp (r1.rep _)⟩)
theorem op2_bin (hK : c.K = X.K) : ∀ o : Op, Op2 c X (binaryOp (opOf o)) (opR o)
  | .add => op2_add hK
  | .sub => op2_sub
  | .mul => op2_mul hK
  | .fdiv => op2_fdiv
  | .mod => op2_mod
  | .pow => op2_pow
end
end Py
end

section
set_option Elab.async false
set_option linter.all false
set_option maxRecDepth 100000
set_option autoImplicit false
/-! Sim4: comparisons, truth, the expressions made of them. -/
namespace Py
open PySem L2

section
variable {c : RC} {X : Cx} {A : List Addr} {H : Hp} {v : V}
/-- f does with what stands for data the comparison r -/
def Cm2 (c : RC) (X : Cx) (f : Value → Value → Sem Value) (r : D → D → (Bool → Prop) → Prop) : Prop :=
  OpR X f (fun x y H Q => ∃ (A : List Addr) (dx dy : D) (P : Bool → Prop), Obs A H ∧ RepU (c.up A) H x dx ∧ RepU (c.up A) H y dy ∧ r dx dy P ∧ ∀ b, P b → Q (.bl b) H)
/-- the comparison of the text -/
def cmOf : Cm → CmpOp
  | .eq => .Eq
  | .ne => .NotEq
  | .lt => .Lt
  | .le => .LtE
  | .gt => .Gt
  | .ge => .GtE
  | .isIn => .In
  | .notIn => .NotIn
/-- room for the calls that a comparison makes -/
structure Rm (X : Cx) : Prop where
  un : X.A.units + 300 < cLine
theorem op_eqU (hR : Rm X) : OpR X (compareOp .Eq) (fun x y H Q => ∃ d e, Dp X.K H x d ∧ Dp X.K H y e ∧ d.plain = true ∧ e.plain = true ∧ d.depth ≤ 40 ∧ Q (.bl (PyData.eqv d e)) H) := by
  intro pins s σ H x y v u Q I rx ry h
  obtain ⟨d, e, hd, he, sd, se, hz, q⟩ := h
  obtain ⟨as, r1⟩ := Dp.reads I d x v hd rx
  obtain ⟨bs, r2⟩ := Dp.reads I e y u he ry
  have := hR.un
  exact SeqAt.eq_plain r1 r2 sd se (by omega) ⟨.bl _, H, I, rfl, q⟩
theorem op_neU (hR : Rm X) : OpR X (compareOp .NotEq) (fun x y H Q => ∃ d e, Dp X.K H x d ∧ Dp X.K H y e ∧ d.plain = true ∧ e.plain = true ∧ d.depth ≤ 40 ∧ Q (.bl (!PyData.eqv d e)) H) := by
  intro pins s σ H x y v u Q I rx ry h
  obtain ⟨d, e, hd, he, sd, se, hz, q⟩ := h
  obtain ⟨as, r1⟩ := Dp.reads I d x v hd rx
  obtain ⟨bs, r2⟩ := Dp.reads I e y u he ry
  have := hR.un
  exact SeqAt.ne_plain r1 r2 sd se (by omega) ⟨.bl _, H, I, rfl, q⟩
theorem op_ltU (hR : Rm X) : OpR X (compareOp .Lt) (fun x y H Q => ∃ d e, Dp X.K H x d ∧ Dp X.K H y e ∧ W.alike d e = true ∧ d ≠ .none ∧ d.depth ≤ 40 ∧ Q (.bl (W.dataLt d e)) H) := by
  intro pins s σ H x y v u Q I rx ry h
  obtain ⟨d, e, hd, he, sd, se, hz, q⟩ := h
  obtain ⟨as, r1⟩ := Dp.reads I d x v hd rx
  obtain ⟨bs, r2⟩ := Dp.reads I e y u he ry
  have := hR.un
  exact W.rcLt_alike d e X.A s v u as bs r1 r2 sd se (by omega) _ _ _ _ ⟨.bl _, H, I, rfl, q⟩
/-- in a list or a tuple, of data -/
theorem op_inU (hR : Rm X) : OpR X (compareOp .In) (fun x y H Q => ∃ d ds, Dp X.K H x d ∧ (Dp X.K H y (.list ds) ∨ Dp X.K H y (.tuple ds)) ∧ d.plain = true ∧ PyData.plainAll ds = true ∧ d.depth ≤ 40 ∧ Q (.bl (ds.any fun z => PyData.eqv z d)) H) := by
  intro pins s σ H x y v u Q I rx ry h
  obtain ⟨d, ds, hd, he, sd, se, hz, q⟩ := h
  obtain ⟨as, r1⟩ := Dp.reads I d x v hd rx
  have := hR.un
  rcases he with he | he
  · obtain ⟨bs, r2⟩ := Dp.reads I _ y u he ry
    exact SeqAt.in_list_data r2 r1 se sd (by omega) ⟨.bl _, H, I, rfl, q⟩
  · obtain ⟨bs, r2⟩ := Dp.reads I _ y u he ry
    exact SeqAt.in_tuple_data r2 r1 se sd (by omega) ⟨.bl _, H, I, rfl, q⟩
theorem op_notInU (hR : Rm X) : OpR X (compareOp .NotIn) (fun x y H Q => ∃ d ds, Dp X.K H x d ∧ (Dp X.K H y (.list ds) ∨ Dp X.K H y (.tuple ds)) ∧ d.plain = true ∧ PyData.plainAll ds = true ∧ d.depth ≤ 40 ∧ Q (.bl (!ds.any fun z => PyData.eqv z d)) H) := by
  intro pins s σ H x y v u Q I rx ry h
  obtain ⟨d, ds, hd, he, sd, se, hz, q⟩ := h
  obtain ⟨as, r1⟩ := Dp.reads I d x v hd rx
  have := hR.un
  rcases he with he | he
  · obtain ⟨bs, r2⟩ := Dp.reads I _ y u he ry
    exact SeqAt.notIn_list_data r2 r1 se sd (by omega) ⟨.bl _, H, I, rfl, q⟩
  · obtain ⟨bs, r2⟩ := Dp.reads I _ y u he ry
    exact SeqAt.notIn_tuple_data r2 r1 se sd (by omega) ⟨.bl _, H, I, rfl, q⟩
theorem cm_eq (hK : c.K = X.K) (hR : Rm X) : Cm2 c X (compareOp .Eq) (cmR .eq) := by
  refine OpR.mono (op_eqU hR) ?_
  rintro x y H Q ⟨A, dx, dy, P, ob, hx, hy, h, q⟩
  simp only [cmR, Bool.and_eq_true] at h
  obtain ⟨⟨h1, h2⟩, h3⟩ := h
  obtain ⟨p1, z1⟩ := cmpOk_of h1
  obtain ⟨p2, z2⟩ := cmpOk_of h2
  exact ⟨dx.pd, dy.pd, hK ▸ hx.dp p1, hK ▸ hy.dp p2, pd_plain _ p1, pd_plain _ p2, Nat.le_trans (pd_depth _) z1, by rw [pd_eqv _ _ p1 p2]; exact q _ h3⟩
theorem cm_ne (hK : c.K = X.K) (hR : Rm X) : Cm2 c X (compareOp .NotEq) (cmR .ne) := by
  refine OpR.mono (op_neU hR) ?_
  rintro x y H Q ⟨A, dx, dy, P, ob, hx, hy, h, q⟩
  simp only [cmR, Bool.and_eq_true] at h
  obtain ⟨⟨h1, h2⟩, h3⟩ := h
  obtain ⟨p1, z1⟩ := cmpOk_of h1
  obtain ⟨p2, z2⟩ := cmpOk_of h2
  exact ⟨dx.pd, dy.pd, hK ▸ hx.dp p1, hK ▸ hy.dp p2, pd_plain _ p1, pd_plain _ p2, Nat.le_trans (pd_depth _) z1, by rw [pd_eqv _ _ p1 p2]; exact q _ h3⟩
theorem pd_none {d : D} (h : d.pln = true) (n : d ≠ .none) : d.pd ≠ .none := by
  cases d <;> simp_all [D.pd, D.pln]
theorem cm_lt (hK : c.K = X.K) (hR : Rm X) : Cm2 c X (compareOp .Lt) (cmR .lt) := by
  refine OpR.mono (op_lt.or (op_ltU hR)) ?_
  rintro x y H Q ⟨A, dx, dy, P, ob, hx, hy, h, q⟩
  by_cases hi : (∃ i, dx = .int i) ∧ ∃ j, dy = .int j
  · obtain ⟨⟨i, rfl⟩, ⟨j, rfl⟩⟩ := hi
    rw [hx.int, hy.int]
    exact .inl ⟨_, _, rfl, rfl, q _ h⟩
  · have h' : (alk dx dy && dx.cmpOk && dy.cmpOk && !decide (dx = .none)) = true ∧ P (ltD dx dy) := by
      cases dx <;> cases dy <;> first | exact h | exact absurd ⟨⟨_, rfl⟩, ⟨_, rfl⟩⟩ hi
    simp only [Bool.and_eq_true, Bool.not_eq_true', decide_eq_false_iff_not] at h'
    obtain ⟨⟨⟨⟨h0, h1⟩, h2⟩, hn⟩, h3⟩ := h'
    obtain ⟨p1, z1⟩ := cmpOk_of h1
    obtain ⟨p2, z2⟩ := cmpOk_of h2
    exact .inr ⟨dx.pd, dy.pd, hK ▸ hx.dp p1, hK ▸ hy.dp p2, pd_alike _ _ h0, pd_none p1 hn, Nat.le_trans (pd_depth _) z1, by rw [pd_lt _ _ h0 p1 p2]; exact q _ h3⟩
theorem cm_le : Cm2 c X (compareOp .LtE) (cmR .le) := by
  refine OpR.mono op_le ?_
  rintro x y H Q ⟨A, dx, dy, P, ob, hx, hy, h, q⟩
  cases dx <;> cases dy <;> simp only [cmR] at h
  rw [hx.int, hy.int]; exact ⟨_, _, rfl, rfl, q _ h⟩
theorem cm_gt : Cm2 c X (compareOp .Gt) (cmR .gt) := by
  refine OpR.mono op_gt ?_
  rintro x y H Q ⟨A, dx, dy, P, ob, hx, hy, h, q⟩
  cases dx <;> cases dy <;> simp only [cmR] at h
  rw [hx.int, hy.int]; exact ⟨_, _, rfl, rfl, q _ h⟩
theorem cm_ge : Cm2 c X (compareOp .GtE) (cmR .ge) := by
  refine OpR.mono op_ge ?_
  rintro x y H Q ⟨A, dx, dy, P, ob, hx, hy, h, q⟩
  cases dx <;> cases dy <;> simp only [cmR] at h
  rw [hx.int, hy.int]; exact ⟨_, _, rfl, rfl, q _ h⟩

/-! ### truth -/
theorem tru_rep {d : D} {b : Bool} (h : RepU c H v d) (e : tru d = some b) : TruV c.K v H b := by
  cases d <;> simp only [tru, Option.some.injEq, reduceCtorEq] at e
  · subst e; rw [h.non]; rfl
  · subst e; rw [h.bool]; rfl
  · subst e; rw [h.int]; rfl
  · rw [h.str]
    split at e
    · rename_i hz
      simp only [Option.some.injEq] at e
      subst e
      refine ⟨by rw [line24]; exact hz, ?_⟩
      rename_i x
      show (x.length != 0) = ((x.length : Int) != 0)
      cases hx : x.length <;> simp <;> omega
    · cases e
  · obtain ⟨a, xs, rfl, h1, r1, _⟩ := h.tup
    subst e
    refine .inr (.inl ⟨xs, h1, ?_⟩)
    cases r1 <;> rfl
  · obtain ⟨a, xs, rfl, h1, r1⟩ := h.lst
    subst e
    refine .inl ⟨xs, .inl h1, ?_⟩
    cases r1 <;> rfl
theorem tru_up {A : List Addr} {d : D} {b : Bool} (h : RepU (c.up A) H v d) (e : tru d = some b) : TruV c.K v H b := tru_rep (c := c.up A) h e
theorem Cn.rel.keepU {G : Cn} {A1 A2 : List Addr} {l : Loc} {st : Sto} {σ : L2.St} {H1 H2 : Hp} {d : D} (r1 : G.rel A1 l st σ H1) (k : Stp A1 A2 H1 H2) (h : RepU (G.b.up A1) H1 v d) : RepU (G.b.up A2) H2 v d := RepU.keep (c := G.b.up A1) r1.obs k h
theorem truR_some {d : D} {Q : Bool → Prop} (h : truR d Q) : ∃ b, tru d = some b ∧ Q b := by
  unfold truR at h
  cases e : tru d with
  | none => rw [e] at h; exact h.elim
  | some b => rw [e] at h; exact ⟨b, rfl, h⟩
end

/-! ### the frame's facts -/
structure Fc (G : Cn) (X : Cx) : Prop where
  K : G.b.K = X.K
  w : G.b.w = X.w
  C : CMono G.C
  rm : Rm X
section
variable {G : Cn} {X : Cx} {a b d : Expr} {ea eb ed : E} {pos : Pos} {R : RM}
theorem s_bin {o : Op} {op : Operator} (ho : op = opOf o) (F : Fc G X) (ha : PE X a (tE G RU ea)) (hb : PE X b (tE G RU eb)) : PE X (.BinOp a op b pos) (tE G RX (.bin o ea eb)) := by
  subst ho
  refine PE.mono (pe_op (op2_bin (c := G.b) F.K o) ha hb) ?_
  rintro σ H QQ ⟨A, l, st, r, g⟩
  simp only [wpE] at g
  refine ⟨A, l, st, r, wpE_mono F.C ea (fun dx st1 g1 x A1 H1 k1 r1 hx => ?_) (fun _ _ q => q) g⟩
  refine ⟨A1, l, st1, r1, wpE_mono F.C eb (fun dy st2 g2 y A2 H2 k2 r2 hy => ?_) (fun _ _ q => q) g1⟩
  exact ⟨A2, dx, dy, _, r2.obs, r1.keepU k2 hx, hy, g2, fun d v H' q n hv => q v A2 H' (k1.trans (k2.trans n.stp)) (n.rel r2) (hv.back (k1.trans k2))⟩
theorem s_neg (F : Fc G X) (ha : PE X a (tE G RU ea)) : PE X (.UnaryOp .USub a pos) (tE G RF (.neg ea)) := by
  refine PE.mono (pe_un un_neg ha) ?_
  rintro σ H QQ ⟨A, l, st, r, g⟩
  simp only [wpE] at g
  refine ⟨A, l, st, r, wpE_mono F.C ea (fun dx st1 g1 x A1 H1 k1 r1 hx => ?_) (fun _ _ q => q) g⟩
  cases dx <;> simp only at g1 <;> try exact g1.elim
  rw [hx.int]
  exact ⟨_, rfl, g1 _ A1 H1 k1 r1 (.int _)⟩
theorem s_not (F : Fc G X) (ha : PE X a (tE G RU ea)) : PE X (.UnaryOp .Not a pos) (tE G RF (.not_ ea)) := by
  refine PE.mono (pe_notT ha) ?_
  rintro σ H QQ ⟨A, l, st, r, g⟩
  simp only [wpE] at g
  refine ⟨A, l, st, r, wpE_mono F.C ea (fun dx st1 g1 x A1 H1 k1 r1 hx => ?_) (fun _ _ q => q) g⟩
  obtain ⟨b, e, q⟩ := truR_some g1
  exact ⟨b, F.K ▸ tru_up hx e, q _ A1 H1 k1 r1 (.bl _)⟩
theorem s_cmp {o : Cm} {op : CmpOp} (ho : op = cmOf o) (F : Fc G X) (hc : Cm2 G.b X (compareOp (cmOf o)) (cmR o)) (ha : PE X a (tE G RU ea)) (hb : PE X b (tE G RU eb)) (hm : behindInMarks op b = false) : PE X (.Compare a [op] [b] pos) (tE G RF (.cmp o ea eb)) := by
  subst ho
  refine PE.mono (pe_cmpR hc ha hb hm) ?_
  rintro σ H QQ ⟨A, l, st, r, g⟩
  simp only [wpE] at g
  refine ⟨A, l, st, r, wpE_mono F.C ea (fun dx st1 g1 x A1 H1 k1 r1 hx => ?_) (fun _ _ q => q) g⟩
  refine ⟨A1, l, st1, r1, wpE_mono F.C eb (fun dy st2 g2 y A2 H2 k2 r2 hy => ?_) (fun _ _ q => q) g1⟩
  exact ⟨A2, dx, dy, _, r2.obs, r1.keepU k2 hx, hy, g2, fun b q => q _ A2 H2 (k1.trans k2) r2 (.bl _)⟩
theorem s_cmp2 {o o' : Cm} {op op' : CmpOp} (ho : op = cmOf o) (ho' : op' = cmOf o') (F : Fc G X) (hc : Cm2 G.b X (compareOp (cmOf o)) (cmR o)) (hc' : Cm2 G.b X (compareOp (cmOf o')) (cmR o')) (ha : PE X a (tE G RU ea)) (hb : PE X b (tE G RU eb)) (hd : PE X d (tE G RU ed))
    (hm : lastMarks [op, op'] [b, d] = false) : PE X (.Compare a [op, op'] [b, d] pos) (tE G RF (.cmp2 o o' ea eb ed)) := by
  subst ho ho'
  refine PE.mono (pe_chain hc hc' ha hb hd hm) ?_
  rintro σ H QQ ⟨A, l, st, r, g⟩
  simp only [wpE] at g
  refine ⟨A, l, st, r, wpE_mono F.C ea (fun dx st1 g1 x A1 H1 k1 r1 hx => ?_) (fun _ _ q => q) g⟩
  refine ⟨A1, l, st1, r1, wpE_mono F.C eb (fun dy st2 g2 y A2 H2 k2 r2 hy => ?_) (fun _ _ q => q) g1⟩
  refine ⟨A2, dx, dy, _, r2.obs, r1.keepU k2 hx, hy, g2, fun b q => ⟨b, rfl, ?_⟩⟩
  cases b with
  | false => exact q _ A2 H2 (k1.trans k2) r2 (.bl _)
  | true =>
    refine ⟨A2, l, st2, r2, wpE_mono F.C ed (fun dz st3 g3 z A3 H3 k3 r3 hz => ?_) (fun _ _ q => q) q⟩
    exact ⟨A3, dy, dz, _, r3.obs, r2.keepU k3 hy, hz, g3, fun b q => q _ A3 H3 (k1.trans (k2.trans k3)) r3 (.bl _)⟩
theorem s_and {pos' : Pos} {rest : List Expr} (F : Fc G X) (ha : PE X a (tE G RF ea)) (hb : PE X (.BoolOp .And (b :: rest) pos) (tE G RF eb)) : PE X (.BoolOp .And (a :: b :: rest) pos) (tE G RF (.and_ ea eb)) := by
  refine PE.mono (pe_andT ha hb) ?_
  rintro σ H QQ ⟨A, l, st, r, g⟩
  simp only [wpE] at g
  refine ⟨A, l, st, r, wpE_mono F.C ea (fun dx st1 g1 x A1 H1 k1 r1 hx => ?_) (fun _ _ q => q) g⟩
  obtain ⟨b, e, q⟩ := truR_some g1
  refine ⟨b, F.K ▸ tru_up (.inl hx) e, ?_⟩
  cases b with
  | false => exact q _ A1 H1 k1 r1 hx
  | true => exact ⟨A1, l, st1, r1, wpE_mono F.C eb (fun dz st3 g3 z A3 H3 k3 r3 hz => g3 _ A3 H3 (k1.trans k3) r3 hz) (fun _ _ q => q) q⟩
theorem s_or {rest : List Expr} (F : Fc G X) (ha : PE X a (tE G RF ea)) (hb : PE X (.BoolOp .Or (b :: rest) pos) (tE G RF eb)) : PE X (.BoolOp .Or (a :: b :: rest) pos) (tE G RF (.or_ ea eb)) := by
  refine PE.mono (pe_orT ha hb) ?_
  rintro σ H QQ ⟨A, l, st, r, g⟩
  simp only [wpE] at g
  refine ⟨A, l, st, r, wpE_mono F.C ea (fun dx st1 g1 x A1 H1 k1 r1 hx => ?_) (fun _ _ q => q) g⟩
  obtain ⟨b, e, q⟩ := truR_some g1
  refine ⟨b, F.K ▸ tru_up (.inl hx) e, ?_⟩
  cases b with
  | true => exact q _ A1 H1 k1 r1 hx
  | false => exact ⟨A1, l, st1, r1, wpE_mono F.C eb (fun dz st3 g3 z A3 H3 k3 r3 hz => g3 _ A3 H3 (k1.trans k3) r3 hz) (fun _ _ q => q) q⟩
theorem s_ite (F : Fc G X) (hc : PT X d (tT G ed)) (ha : PE X a (tE G RF ea)) (hb : PE X b (tE G RF eb)) : PE X (.IfExp d a b pos) (tE G RF (.ite ed ea eb)) := by
  refine PE.mono (pe_ifExp hc ha hb) ?_
  rintro σ H QQ ⟨A, l, st, r, g⟩
  simp only [wpE] at g
  refine ⟨A, l, st, r, wpE_mono F.C ed (fun dx st1 g1 => ?_) (fun _ _ q => q) g⟩
  obtain ⟨b, e, q⟩ := truR_some g1
  unfold truR
  rw [e]
  intro A1 H1 k1 r1
  cases b with
  | true => exact ⟨A1, l, st1, r1, wpE_mono F.C ea (fun dz st3 g3 z A3 H3 k3 r3 hz => g3 _ A3 H3 (k1.trans k3) r3 hz) (fun _ _ q => q) q⟩
  | false => exact ⟨A1, l, st1, r1, wpE_mono F.C eb (fun dz st3 g3 z A3 H3 k3 r3 hz => g3 _ A3 H3 (k1.trans k3) r3 hz) (fun _ _ q => q) q⟩

/-! ### tests -/
/-- any other expression as a test -/
theorem t_any (F : Fc G X) (ha : PE X a (tE G RU ea)) (he : ∀ whole, isTrue a X.env whole = (do let v ← whole; standAt a.pos; holding [v] (truthy v))) : PT X a (tT G ea) := by
  refine PT.mono (pt_truth ha he) ?_
  rintro σ H QQ ⟨A, l, st, r, g⟩
  refine ⟨A, l, st, r, wpE_mono F.C ea (fun dx st1 g1 x A1 H1 k1 r1 hx => ?_) (fun _ _ q => q) g⟩
  obtain ⟨b, e, q⟩ := truR_some g1
  exact ⟨b, F.K ▸ tru_up hx e, q A1 H1 k1 r1⟩
theorem t_not (F : Fc G X) (ha : PT X a (tT G ea)) : PT X (.UnaryOp .Not a pos) (tT G (.not_ ea)) := by
  refine PT.mono (pt_not ha) ?_
  rintro σ H QQ ⟨A, l, st, r, g⟩
  simp only [wpE] at g
  refine ⟨A, l, st, r, wpE_mono F.C ea (fun dx st1 g1 => ?_) (fun _ _ q => q) g⟩
  obtain ⟨b, e, q⟩ := truR_some g1
  unfold truR
  rw [e]
  exact q
theorem t_cmp {o : Cm} {op : CmpOp} (ho : op = cmOf o) (F : Fc G X) (hc : Cm2 G.b X (compareOp (cmOf o)) (cmR o)) (ha : PE X a (tE G RU ea)) (hb : PE X b (tE G RU eb)) (hm : behindInMarks op b = false) : PT X (.Compare a [op] [b] pos) (tT G (.cmp o ea eb)) := by
  subst ho
  refine PT.mono (pt_cmpR hc ha hb hm) ?_
  rintro σ H QQ ⟨A, l, st, r, g⟩
  simp only [wpE] at g
  refine ⟨A, l, st, r, wpE_mono F.C ea (fun dx st1 g1 x A1 H1 k1 r1 hx => ?_) (fun _ _ q => q) g⟩
  refine ⟨A1, l, st1, r1, wpE_mono F.C eb (fun dy st2 g2 y A2 H2 k2 r2 hy => ?_) (fun _ _ q => q) g1⟩
  exact ⟨A2, dx, dy, _, r2.obs, r1.keepU k2 hx, hy, g2, fun b q => ⟨b, rfl, q A2 H2 (k1.trans k2) r2⟩⟩
theorem t_cmp2 {o o' : Cm} {op op' : CmpOp} (ho : op = cmOf o) (ho' : op' = cmOf o') (F : Fc G X) (hc : Cm2 G.b X (compareOp (cmOf o)) (cmR o)) (hc' : Cm2 G.b X (compareOp (cmOf o')) (cmR o')) (ha : PE X a (tE G RU ea)) (hb : PE X b (tE G RU eb)) (hd : PE X d (tE G RU ed))
    (hm : lastMarks [op, op'] [b, d] = false) : PT X (.Compare a [op, op'] [b, d] pos) (tT G (.cmp2 o o' ea eb ed)) := by
  subst ho ho'
  refine PT.mono (pt_chain hc hc' ha hb hd hm) ?_
  rintro σ H QQ ⟨A, l, st, r, g⟩
  simp only [wpE] at g
  refine ⟨A, l, st, r, wpE_mono F.C ea (fun dx st1 g1 x A1 H1 k1 r1 hx => ?_) (fun _ _ q => q) g⟩
  refine ⟨A1, l, st1, r1, wpE_mono F.C eb (fun dy st2 g2 y A2 H2 k2 r2 hy => ?_) (fun _ _ q => q) g1⟩
  refine ⟨A2, dx, dy, _, r2.obs, r1.keepU k2 hx, hy, g2, fun b q => ⟨b, rfl, ?_⟩⟩
  cases b with
  | false => exact ⟨_, rfl, q A2 H2 (k1.trans k2) r2⟩
  | true =>
    refine ⟨A2, l, st2, r2, wpE_mono F.C ed (fun dz st3 g3 z A3 H3 k3 r3 hz => ?_) (fun _ _ q => q) q⟩
    exact ⟨A3, dy, dz, _, r3.obs, r2.keepU k3 hy, hz, g3, fun b q => ⟨_, rfl, q A3 H3 (k1.trans (k2.trans k3)) r3⟩⟩
theorem t_and {rest : List Expr} (F : Fc G X) (ha : PT X a (tT G ea)) (hb : PW X (.BoolOp .And (b :: rest) pos) (tT G eb)) : PW X (.BoolOp .And (a :: b :: rest) pos) (tT G (.and_ ea eb)) := by
  have h := pw_and ha hb
  refine ⟨fun whole pins s σ H Q I hw => h.run whole pins s σ H Q I ?_⟩
  obtain ⟨A, l, st, r, g⟩ := hw
  simp only [wpE] at g
  refine ⟨A, l, st, r, wpE_mono F.C ea (fun dx st1 g1 => ?_) (fun _ _ q => q) g⟩
  obtain ⟨b, e, q⟩ := truR_some g1
  unfold truR
  rw [e]
  intro A1 H1 k1 r1
  cases b with
  | true => 
    refine ⟨A1, l, st1, r1, wpE_mono F.C eb (fun dz st3 g3 => ?_) (fun _ _ q => q) q⟩
    obtain ⟨b', e', q'⟩ := truR_some g3
    unfold truR; rw [e']
    exact fun A3 H3 k3 r3 => q' A3 H3 (k1.trans k3) r3
  | false =>
    obtain ⟨b', e', q'⟩ := truR_some q
    rw [e] at e'; cases e'
    exact q' A1 H1 k1 r1
theorem t_or {rest : List Expr} (F : Fc G X) (ha : PT X a (tT G ea)) (hb : PW X (.BoolOp .Or (b :: rest) pos) (tT G eb)) : PW X (.BoolOp .Or (a :: b :: rest) pos) (tT G (.or_ ea eb)) := by
  have h := pw_or ha hb
  refine ⟨fun whole pins s σ H Q I hw => h.run whole pins s σ H Q I ?_⟩
  obtain ⟨A, l, st, r, g⟩ := hw
  simp only [wpE] at g
  refine ⟨A, l, st, r, wpE_mono F.C ea (fun dx st1 g1 => ?_) (fun _ _ q => q) g⟩
  obtain ⟨b, e, q⟩ := truR_some g1
  unfold truR
  rw [e]
  intro A1 H1 k1 r1
  cases b with
  | false => 
    refine ⟨A1, l, st1, r1, wpE_mono F.C eb (fun dz st3 g3 => ?_) (fun _ _ q => q) q⟩
    obtain ⟨b', e', q'⟩ := truR_some g3
    unfold truR; rw [e']
    exact fun A3 H3 k3 r3 => q' A3 H3 (k1.trans k3) r3
  | true =>
    obtain ⟨b', e', q'⟩ := truR_some q
    rw [e] at e'; cases e'
    exact q' A1 H1 k1 r1
end
end Py
end

section
set_option Elab.async false
set_option linter.all false
set_option maxRecDepth 100000
set_option autoImplicit false
/-! Sim5: arguments, displays, places, slices, built-ins. -/
namespace Py
open PySem L2

section
variable {G : Cn} {X : Cx} {a b d x : Expr} {ea eb ed e : E} {pos : Pos} {R : RM} {es : List Expr} {ees : Es}
/-! ### argument lists -/
theorem s_nilU : PA X [] (tEs G RLU .nil) := PA.mono pa_nil fun σ H QQ ⟨A, l, st, r, g⟩ => g [] A H (Stp.refl _ _) r .nil
theorem s_nilF : PA X [] (tEs G RLF .nil) := PA.mono pa_nil fun σ H QQ ⟨A, l, st, r, g⟩ => g [] A H (Stp.refl _ _) r .nil
theorem s_consU (F : Fc G X) (ha : PE X x (tE G RU e)) (hr : PA X es (tEs G RLU ees)) (hs : starEach (x :: es) X.env = (false, eval x X.env) :: starEach es X.env) : PA X (x :: es) (tEs G RLU (.cons e ees)) := by
  refine PA.mono (pa_cons ha hr hs) ?_
  rintro σ H QQ ⟨A, l, st, r, g⟩
  simp only [wpEs] at g
  refine ⟨A, l, st, r, wpE_mono F.C e (fun dx st1 g1 x A1 H1 k1 r1 hx => ?_) (fun _ _ q => q) g⟩
  exact ⟨A1, l, st1, r1, wpEs_mono F.C ees (fun ds st2 g2 vs A2 H2 k2 r2 hs => g2 _ A2 H2 (k1.trans k2) r2 (.cons (r1.keepU k2 hx) hs)) (fun _ _ q => q) g1⟩
theorem s_consF (F : Fc G X) (ha : PE X x (tE G RF e)) (hr : PA X es (tEs G RLF ees)) (hs : starEach (x :: es) X.env = (false, eval x X.env) :: starEach es X.env) : PA X (x :: es) (tEs G RLF (.cons e ees)) := by
  refine PA.mono (pa_cons ha hr hs) ?_
  rintro σ H QQ ⟨A, l, st, r, g⟩
  simp only [wpEs] at g
  refine ⟨A, l, st, r, wpE_mono F.C e (fun dx st1 g1 x A1 H1 k1 r1 hx => ?_) (fun _ _ q => q) g⟩
  exact ⟨A1, l, st1, r1, wpEs_mono F.C ees (fun ds st2 g2 vs A2 H2 k2 r2 hs => g2 _ A2 H2 (k1.trans k2) r2 (.cons (Rep.keep (c := G.b.up A1) r1.obs k2 hx) hs)) (fun _ _ q => q) g1⟩
def Es.len : Es → Nat
  | .nil => 0
  | .cons _ es => es.len + 1
theorem wpEs_len {sub : Str → Str → Bool} {C : CallS} (hC : CMono C) : ∀ (es : Es) {l : Loc} {st : Sto} {Q : List D → Sto → Prop} {E : KD}, wpEs sub C es l st Q E → wpEs sub C es l st (fun ds st => ds.length = es.len ∧ Q ds st) E
  | .nil, _, _, _, _, h => by simp only [wpEs, Es.len] at h ⊢; exact ⟨rfl, h⟩
  | .cons e es, _, _, _, _, h => by
    simp only [wpEs] at h ⊢
    exact wpE_mono hC e (fun x st q => wpEs_mono hC es (fun xs st q => ⟨by simp [Es.len, q.1], q.2⟩) (fun _ _ q => q) (wpEs_len hC es q)) (fun _ _ q => q) h
def tTupF (t : TA) : TE := fun σ H Q => t σ H fun xs H1 => xs.length ≤ sizeLine ∧ TupQ H1 Q xs
theorem pe_tupF {x1 : _} {t : TA} (h : PA X es t) : PE X (.Tuple es x1 pos) (tTupF t) := by
  refine ⟨fun pins s σ H Q I hq => ?_⟩
  refine wpAny_Tuple_spliced (thn (h.run pos pins s σ H _ I hq) fun us s1 ⟨xs, H1, I1, r, z, q⟩ => ⟨by rw [← r.length]; exact z, ?_⟩)
  exact TupQ.fin I1 r z q
theorem s_tup {x1 : _} (F : Fc G X) (hl : ees.len ≤ 16777216) (h : PA X es (tEs G RLF ees)) : PE X (.Tuple es x1 pos) (tE G RF (.tup ees)) := by
  refine PE.mono (pe_tupF h) ?_
  rintro σ H QQ ⟨A, l, st, r, g⟩
  simp only [wpE] at g
  refine ⟨A, l, st, r, wpEs_mono F.C ees (fun ds st1 g1 vs A1 H1 k1 r1 hx => ?_) (fun _ _ q => q) (wpEs_len F.C ees g)⟩
  have e := Reps.length hx
  refine ⟨by rw [line24, e, g1.1]; exact hl, fun p o hp ho => ?_⟩
  exact g1.2 _ A1 _ (k1.trans (Stp.new hp)) (r1.new hp) (.tup upd_same ho (Reps.keep (c := G.b.up A1) r1.obs (Stp.new hp) hx))
theorem s_lst (F : Fc G X) (hl : ees.len ≤ 16777216) (h : PA X es (tEs G RLF ees)) : PE X (.List es pos) (tE G RX (.lst ees)) := by
  refine PE.mono (pe_lst h) ?_
  rintro σ H QQ ⟨A, l, st, r, g⟩
  simp only [wpE] at g
  refine ⟨A, l, st, r, wpEs_mono F.C ees (fun ds st1 g1 vs A1 H1 k1 r1 hx => ?_) (fun _ _ q => q) (wpEs_len F.C ees g)⟩
  have e := Reps.length hx
  refine ⟨by rw [line24, e, g1.1]; exact hl, fun p hp => ?_⟩
  have nA := Obs.fresh r1.obs hp
  refine g1.2 _ A1 _ (k1.trans (Stp.new hp)) (r1.new hp) ⟨fun _ => ⟨.lst upd_same (Reps.keep (c := G.b.up A1) r1.obs (Stp.new hp) hx), p, rfl, nA, k1.free hp fun m => nA (List.IsPrefix.mem m k1.pre)⟩, fun z => by cases z⟩

/-! ### is None -/
theorem isK_non {c : RC} {H : Hp} {v : V} {d : D} (h : RepU c H v d) : decide (v = .non) = decide (d = .none) := by
  by_cases e : d = .none
  · subst e; rw [h.non]; rfl
  · have : v ≠ .non := by
      rintro rfl
      rcases h with h | ⟨h, _⟩ <;> cases h
      exact e rfl
    rw [decide_eq_false e, decide_eq_false this]
theorem s_is {j : Nat} {pos' : Pos} (F : Fc G X) (ha : PE X a (tE G RU ea)) : PE X (.Compare a [.Is] [.Constant .none j pos'] pos) (tE G RF (.isK false ea .none)) := by
  refine PE.mono (pe_cmp (pc_isN ha)) ?_
  rintro σ H QQ ⟨A, l, st, r, g⟩
  simp only [wpE] at g
  refine ⟨A, l, st, r, wpE_mono F.C ea (fun dx st1 g1 x A1 H1 k1 r1 hx => ?_) (fun _ _ q => q) g⟩
  exact g1 _ A1 H1 k1 r1 (by show RF _ _ _ _ _; simp only [isK_non hx]; exact .bl _)
theorem s_isnt {j : Nat} {pos' : Pos} (F : Fc G X) (ha : PE X a (tE G RU ea)) : PE X (.Compare a [.IsNot] [.Constant .none j pos'] pos) (tE G RF (.isK true ea .none)) := by
  refine PE.mono (pe_cmp (pc_notN ha)) ?_
  rintro σ H QQ ⟨A, l, st, r, g⟩
  simp only [wpE] at g
  refine ⟨A, l, st, r, wpE_mono F.C ea (fun dx st1 g1 x A1 H1 k1 r1 hx => ?_) (fun _ _ q => q) g⟩
  exact g1 _ A1 H1 k1 r1 (by show RF _ _ _ _ _; simp only [isK_non hx]; exact .bl _)
theorem t_is {j : Nat} {pos' : Pos} (F : Fc G X) (ha : PE X a (tE G RU ea)) : PT X (.Compare a [.Is] [.Constant .none j pos'] pos) (tT G (.isK false ea .none)) := by
  refine PT.mono (pt_cmp (pc_isN ha)) ?_
  rintro σ H QQ ⟨A, l, st, r, g⟩
  simp only [wpE] at g
  refine ⟨A, l, st, r, wpE_mono F.C ea (fun dx st1 g1 x A1 H1 k1 r1 hx => ?_) (fun _ _ q => q) g⟩
  refine ⟨_, rfl, ?_⟩
  simp only [isK_non hx]
  exact g1 A1 H1 k1 r1
theorem t_isnt {j : Nat} {pos' : Pos} (F : Fc G X) (ha : PE X a (tE G RU ea)) : PT X (.Compare a [.IsNot] [.Constant .none j pos'] pos) (tT G (.isK true ea .none)) := by
  refine PT.mono (pt_cmp (pc_notN ha)) ?_
  rintro σ H QQ ⟨A, l, st, r, g⟩
  simp only [wpE] at g
  refine ⟨A, l, st, r, wpE_mono F.C ea (fun dx st1 g1 x A1 H1 k1 r1 hx => ?_) (fun _ _ q => q) g⟩
  refine ⟨_, rfl, ?_⟩
  simp only [isK_non hx]
  exact g1 A1 H1 k1 r1

/-! ### places -/
theorem atI_same {α : Type} (xs : List α) (i : Int) : Py.atI xs i = L2.atI xs i := by
  unfold Py.atI L2.atI L2.ixN
  by_cases h : 0 ≤ i
  · rw [if_pos h, if_pos h]
    by_cases h1 : i < xs.length
    · rw [if_pos h1]; rfl
    · rw [if_neg h1]
      simp only [Option.bind_none]
      rw [List.getElem?_eq_none_iff]; omega
  · rw [if_neg h, if_neg h]
    by_cases h1 : -(xs.length : Int) ≤ i
    · rw [if_pos h1, if_pos (by omega)]
      simp only [Option.bind_some]
      congr 1; omega
    · rw [if_neg h1, if_neg (by omega)]; rfl
theorem Reps.atI {c : RC} {H : Hp} {vs : List V} {ds : List D} {i : Int} {d : D} (h : Reps c H vs ds) (e : Py.atI ds i = some d) : ∃ v, L2.atI vs i = some v ∧ Rep c H v d := by
  have hl := h.length
  unfold Py.atI at e
  rw [← atI_same]
  unfold Py.atI
  rw [hl]
  split at e
  · rename_i h0
    rw [if_pos h0]; exact h.get e
  · rename_i h0
    rw [if_neg h0]
    split at e
    · rename_i h1
      rw [if_pos h1]; exact h.get e
    · cases e
/-- a[i], no dict -/
def Ix2 (c : RC) (X : Cx) (r : D → D → (D → Prop) → Prop) : Prop :=
  IxR X (fun x y H Q => ∃ (A : List Addr) (dx dy : D) (P : D → Prop), Obs A H ∧ RepU (c.up A) H x dx ∧ RepU (c.up A) H y dy ∧ r dx dy P ∧ ∀ d v, P d → Rep (c.up A) H v d → Q v H)
theorem IxR.mono {r r' : R2} (h : IxR X r) (m : ∀ x y H Q, r' x y H Q → r x y H Q) : IxR X r' := fun value slice pins s σ H x y v u Q I rx ry q => h value slice pins s σ H x y v u Q I rx ry (m _ _ _ _ q)
/-- .. lists, tuples, texts -/
def ixS : D → D → (D → Prop) → Prop
  | .dct _ _, _, _ => False
  | x, y, Q => ixR x y Q
theorem ix_seqU {c : RC} (hK : c.K = X.K) : Ix2 c X ixS := by
  refine IxR.mono ix_seq ?_
  rintro x y H Q ⟨A, dx, dy, P, ob, hx, hy, h, q⟩
  cases dx <;> simp only [ixS] at h <;> cases dy <;> simp only [ixR] at h
  · have hs := hx.str
    rw [hs, hy.int]
    obtain ⟨hz, h⟩ := h
    split at h
    · rename_i cc hc
      exact .inr (.inr ⟨_, _, cc, rfl, rfl, by rw [line24]; exact hz, by rw [← atI_same]; exact hc, q _ _ h (.str _)⟩)
    · exact h.elim
  · obtain ⟨a, xs, rfl, h1, r1, _⟩ := hx.tup
    rw [hy.int]
    split at h
    · rename_i dd hd
      obtain ⟨v, e1, e2⟩ := r1.atI hd
      exact .inr (.inl ⟨a, xs, _, v, rfl, rfl, hK ▸ h1, e1, q _ _ h e2⟩)
    · exact h.elim
  · obtain ⟨a, xs, rfl, h1, r1⟩ := hx.lst
    rw [hy.int]
    split at h
    · rename_i dd hd
      obtain ⟨v, e1, e2⟩ := r1.atI hd
      exact .inl ⟨a, xs, _, v, rfl, rfl, .inl h1, e1, q _ _ h e2⟩
    · exact h.elim
/-- .. things of the store too -/
def Ix3 (c : RC) (X : Cx) : Prop :=
  IxR X (fun x y H Q => ∃ (A : List Addr) (st : Sto) (dx dy : D) (P : D → Prop), StoOk (c.up A) st H ∧ RepU (c.up A) H x dx ∧ RepU (c.up A) H y dy ∧ ixO st dx dy P ∧ ∀ d v, P d → Rep (c.up A) H v d → Q v H)
theorem s_ix (F : Fc G X) (hi : Ix3 G.b X) (ha : PE X a (tE G RU ea)) (hb : PE X b (tE G RU eb)) (hs : PlainIx b) : PE X (.Subscript a b pos) (tE G RF (.ix ea eb)) := by
  refine PE.mono (pe_ix hi ha hb hs) ?_
  rintro σ H QQ ⟨A, l, st, r, g⟩
  simp only [wpE] at g
  refine ⟨A, l, st, r, wpE_mono F.C ea (fun dx st1 g1 x A1 H1 k1 r1 hx => ?_) (fun _ _ q => q) g⟩
  refine ⟨A1, l, st1, r1, wpE_mono F.C eb (fun dy st2 g2 y A2 H2 k2 r2 hy => ?_) (fun _ _ q => q) g1⟩
  exact ⟨A2, st2, dx, dy, _, r2.sto, r1.keepU k2 hx, hy, g2, fun d v q hv => q v A2 H2 (k1.trans k2) r2 hv⟩

/-! ### slices -/
theorem clip_sIx (n d : Nat) (i : Int) : Py.clip n i = HT.sIx n d (some i) := by
  unfold Py.clip HT.sIx
  simp only
  split
  · congr 1; omega
  · omega
theorem cut_cutV {α : Type} (xs : List α) (lo hi : Option Int) : Py.cut xs lo hi = (xs.drop (HT.sIx xs.length 0 lo)).take (HT.sIx xs.length xs.length hi - HT.sIx xs.length 0 lo) := by
  cases lo with
  | none =>
    cases hi with
    | none => simp [Py.cut, HT.sIx_none]
    | some j => simp only [Py.cut, HT.sIx_none, clip_sIx xs.length xs.length j, List.drop_zero, Nat.sub_zero]
  | some i =>
    cases hi with
    | none => simp only [Py.cut, HT.sIx_none, clip_sIx xs.length 0 i, List.drop_take]
    | some j => simp only [Py.cut, clip_sIx xs.length 0 i, clip_sIx xs.length xs.length j, List.drop_take]
theorem Reps.cut {c : RC} {H : Hp} {vs : List V} {ds : List D} (lo hi : Option Int) (h : Reps c H vs ds) : Reps c H (cutV vs lo hi) (Py.cut ds lo hi) := by
  rw [cut_cutV]
  unfold cutV
  rw [h.length]
  exact (h.drop _).take _
def Sl2 (c : RC) (X : Cx) : Prop :=
  SlR X (fun x lo hi H Q => ∃ (A : List Addr) (dx : D) (P : D → Prop), Obs A H ∧ RepU (c.up A) H x dx ∧ slR dx lo hi P ∧ OutP c A H P Q)
theorem SlR.mono {r r' : V → Option Int → Option Int → Hp → VK → Prop} (h : SlR X r) (m : ∀ x lo hi H Q, r' x lo hi H Q → r x lo hi H Q) : SlR X r' := fun pins s σ H x v vl vu lo hi sl Q I rx hs pl pu q => h pins s σ H x v vl vu lo hi sl Q I rx hs pl pu (m _ _ _ _ _ q)
theorem sl_U {c : RC} (hK : c.K = X.K) : Sl2 c X := by
  refine SlR.mono (sl_list.or (sl_tupF.or sl_str)) ?_
  rintro x lo hi H Q ⟨A, dx, P, ob, hx, h, q⟩
  cases dx <;> simp only [slR] at h
  · rw [hx.str]
    refine .inr (.inr ⟨_, rfl, by rw [line24]; exact h.1, ?_⟩)
    have e : ∀ z : Str, cutS z lo hi = ⟨(Py.cut z.cps.toList lo hi).toArray⟩ := fun z => by
      rw [cut_cutV]
      have hl : z.cps.toList.length = z.length := by simp [Str.length]
      rw [hl]; rfl
    rw [e]
    exact q.sc h.2 (.str _) rfl
  · obtain ⟨a, xs, rfl, h1, r1, f1⟩ := hx.tup
    refine .inr (.inl ⟨a, xs, rfl, hK ▸ h1, fun z => ?_, fun _ p o hp ho => q.tp ob h hp ho (r1.cut lo hi)⟩)
    refine q.sc (d := .tup _) h ?_ rfl
    rw [cut_cutV, ← r1.length, z.1, z.2]
    simp only [List.drop_zero, Nat.sub_zero]
    rw [r1.length, List.take_length]
    exact f1
  · obtain ⟨a, xs, rfl, h1, r1⟩ := hx.lst
    exact .inl ⟨a, xs, rfl, .inl h1, fun p hp => q.ls ob h hp (r1.cut lo hi)⟩
end
end Py
end

section
set_option Elab.async false
set_option linter.all false
set_option maxRecDepth 100000
set_option autoImplicit false
/-! Sim6: writing at a place that is not frozen; slices, built-ins, dicts. -/
namespace Py
open PySem L2

/-! ### writing -/
section
variable {c : RC} {H : Hp} {a : Addr} {u o : HO}
theorem SqT.wr {K : PySem.W.Frag} (h0 : H a = some u) (m : isSto u) {b : Addr} {xs : List V} (h : SqT K H b xs) : SqT K (upd H a o) b xs := by
  have ne : ∀ {w : HO}, H b = some w → ¬ isSto w → b ≠ a := fun e n z => by subst z; rw [h0] at e; cases e; exact n m
  rcases h with (h | ⟨o', h⟩) | h
  · exact .inl (.inl (by rw [upd_ne (ne h fun z => z)]; exact h))
  · exact .inl (.inr ⟨o', by rw [upd_ne (ne h fun z => z)]; exact h⟩)
  · exact .inr h
theorem at_wr (h0 : H a = some u) (m : isSto u) {b : Addr} {w : HO} (h : H b = some w) (n : ¬ isSto w) : upd H a o b = some w := by
  rw [upd_ne]; exact h
  rintro rfl
  rw [h0] at h; cases h; exact n m
theorem FzL.wr {K : PySem.W.Frag} (h0 : H a = some u) (m : isSto u) {b : Addr} {xs : List V} (h : FzL K H b xs) : FzL K (upd H a o) b xs := by
  obtain ⟨o', h⟩ := h
  exact ⟨o', at_wr h0 m h fun z => z⟩
mutual
theorem Rep.wr (h0 : H a = some u) (m : isSto u) : ∀ {v : V} {d : D}, Rep c H v d → Rep c (upd H a o) v d
  | _, _, .non => .non
  | _, _, .bl b => .bl b
  | _, _, .int i => .int i
  | _, _, .str x => .str x
  | _, _, .tup h n r => .tup (at_wr h0 m h fun z => z) n (Reps.wr h0 m r)
  | _, _, .lst h r => .lst (FzL.wr h0 m h) (Reps.wr h0 m r)
  | _, _, .dct h e r n => .dct (at_wr h0 m h fun z => z) e (Reps.wr h0 m r) n
  | _, _, .set h d e1 e2 e3 e5 e6 => .set (at_wr h0 m h fun z => z) d e1 e2 (Reps.wr h0 m e3) e5 e6
  | _, _, .rng h => .rng (at_wr h0 m h fun z => z)
  | _, _, .fn h => .fn h
  | _, _, .ref h => .ref h
  | _, _, .script h l => .script (FzL.wr h0 m h) l
  | _, _, .exc x h e hd r => .exc x (at_wr h0 m h fun z => z) e (at_wr h0 m hd fun z => z) (Rep.wr h0 m r)
theorem Reps.wr (h0 : H a = some u) (m : isSto u) : ∀ {vs : List V} {ds : List D}, Reps c H vs ds → Reps c (upd H a o) vs ds
  | _, _, .nil => .nil
  | _, _, .cons x y => .cons (Rep.wr h0 m x) (Reps.wr h0 m y)
end
theorem RepO.wr (h0 : H a = some u) (m : isSto u) {b : Addr} {d : D} (hb : b ≠ a) (h : RepO c H (.ref b) d) : RepO c (upd H a o) (.ref b) d := by
  cases h with
  | lst h r => exact .lst ((upd_ne hb).trans h) (Reps.wr h0 m r)
  | dct h e r n => exact .dct ((upd_ne hb).trans h) e (Reps.wr h0 m r) n
  | set h d e1 e2 e3 e5 e6 => exact .set ((upd_ne hb).trans h) d e1 e2 (Reps.wr h0 m e3) e5 e6
theorem ObRep.wr {st : Sto} (s : StoOk c st H) (h0 : H a = some u) (m : isSto u) (n : a ∉ c.A) : StoOk c st (upd H a o) := by
  refine ⟨s.len, s.nd, fun k ob e => ?_⟩
  obtain ⟨b, hb, r⟩ := s.ob k ob e
  refine ⟨b, hb, ?_⟩
  have hne : b ≠ a := fun z => n (by rw [← z]; exact List.mem_of_getElem? hb)
  cases ob with
  | inst _ _ => exact r.elim
  | dct _ _ => exact r.elim
  | lst _ =>
    obtain ⟨vs, e1, e2⟩ := r
    exact ⟨vs, by rw [upd_ne hne]; exact e1, Reps.wr h0 m e2⟩
end
/-- a new thing, at a, is written again -/
theorem Cn.rel.wrNew {G : Cn} {A A' : List Addr} {l : Loc} {st st' : Sto} {σ : L2.St} {H H2 : Hp} {a : Addr} {u o : HO} (r0 : G.rel A l st σ H) (k : Stp A A' H H2) (r : G.rel A' l st' σ H2) (ha : H a = none) (na : a ∉ A') (h2 : H2 a = some u) (m : isSto u) :
    G.rel A' l st' σ (upd H2 a o) ∧ Stp A A' H (upd H2 a o) := by
  have ne : ∀ b w, H b = some w → b ≠ a := fun b w e z => by rw [z, ha] at e; cases e
  refine ⟨⟨r.len, fun i d e => ?_, r.own, ⟨r.old.pre, fun b w e n => ?_⟩, ObRep.wr r.sto h2 m na⟩, ⟨k.pre, fun b w e n => ?_⟩⟩
  · obtain ⟨v, e1, e2⟩ := r0.slot i d e
    have e3 := RepM.keep (c := G.b.up A) r0.obs k e2
    refine ⟨v, e1, ?_⟩
    cases hm : md G.Γ i with
    | F => rw [hm] at e3; exact Rep.wr h2 m e3
    | O =>
      rw [hm] at e2 e3
      obtain ⟨h', b, eb, z1, z2⟩ := e3
      subst eb
      obtain ⟨_, w, e', hu, _⟩ := e2.1.ref
      cases e'
      exact ⟨RepO.wr h2 m (ne _ _ hu) h', _, rfl, z1, z2⟩
    | B =>
      rw [hm] at e2
      rcases e2 with e2 | ⟨h, b, eb, nb, z⟩
      · exact .inl (Rep.wr h2 m (Rep.keep (c := G.b.up A) r0.obs k e2))
      · subst eb
        obtain ⟨_, w, e', hu, _⟩ := h.ref
        cases e'
        exact .inr ⟨RepO.wr h2 m (ne _ _ hu) (RepO.keep (c := G.b.up A) r0.obs k nb.1 h), _, rfl, ⟨(k.keep _ _ hu nb.1).2, nb.2⟩, z⟩
  · obtain ⟨q1, q2⟩ := r.old.keep b w e n
    exact ⟨by rw [upd_ne (ne b w (r0.old.keep b w e n).1)]; exact q1, q2⟩
  · obtain ⟨q1, q2⟩ := k.keep b w e n
    exact ⟨by rw [upd_ne (ne b w e)]; exact q1, q2⟩

/-! ### keys -/
theorem kD_inj : ∀ {a b : Key}, kD a = kD b → a = b
  | .inl _, .inl _, h => by cases h; rfl
  | .inr _, .inr _, h => by cases h; rfl
  | .inl _, .inr _, h => by cases h
  | .inr _, .inl _, h => by cases h
theorem flat_kD {k : D} (h : k.flat = true) : ∃ q : Key, k = kD q := by
  cases k <;> simp only [D.flat, Bool.false_eq_true] at h
  · exact ⟨.inl _, rfl⟩
  · exact ⟨.inr _, rfl⟩
theorem RepU.key {c : RC} {H : Hp} {v : V} {k : Key} (h : RepU c H v (kD k)) : v = kV k := by
  cases k with
  | inl i => exact h.int
  | inr x => exact h.str
theorem rep_key {c : RC} {H : Hp} (k : Key) : Rep c H (kV k) (kD k) := by
  cases k with
  | inl i => exact .int i
  | inr x => exact .str x
section
variable {c : RC} {H : Hp}
/-- a key's place -/
theorem kIx_kvs (q : Key) : ∀ kvs : List (Key × V), kIx (kvs.map fun p => kD p.1) (kD q) = kvs.findIdx? fun p => decide (p.1 = q)
  | [] => rfl
  | p :: kvs => by
    have ih := kIx_kvs q kvs
    unfold kIx at ih ⊢
    simp only [List.map_cons, List.findIdx?_cons, ih]
    have e : decide (kD p.1 = kD q) = decide (p.1 = q) := by
      by_cases z : p.1 = q
      · simp [z]
      · rw [decide_eq_false z, decide_eq_false fun w => z (kD_inj w)]
    rw [e]
theorem dGet_kvs (q : Key) : ∀ {kvs : List (Key × V)} {vs : List D}, Reps c H (kvs.map (·.2)) vs →
    match dGet (kvs.map fun p => kD p.1) vs (kD q) with
    | some d => ∃ v, valV kvs q = some v ∧ Rep c H v d
    | none => valV kvs q = none
  | [], _, r => by cases r; exact rfl
  | p :: kvs, _, r => by
    cases r with
    | @cons _ _ d ds r1 r2 =>
      have ih := dGet_kvs q r2
      unfold dGet at ih ⊢
      rw [kIx_kvs] at ih ⊢
      unfold valV at ih ⊢
      by_cases z : p.1 = q
      · rw [List.findIdx?_cons, List.find?_cons, decide_eq_true z]
        exact ⟨p.2, rfl, r1⟩
      · rw [List.findIdx?_cons, List.find?_cons, decide_eq_false z]
        simp only
        cases e : kvs.findIdx? (fun p => decide (p.1 = q)) with
        | none => rw [e] at ih; simpa using ih
        | some i =>
          rw [e] at ih
          simpa using ih
theorem mem_kvs (q : Key) (kvs : List (Key × V)) : decide (kD q ∈ kvs.map fun p => kD p.1) = (valV kvs q).isSome := by
  rw [← valV_any]
  induction kvs with
  | nil => simp
  | cons p kvs ih =>
    rw [List.any_cons, ← ih]
    by_cases z : p.1 = q
    · simp [z]
    · have : ¬ kD q = kD p.1 := fun w => z (kD_inj w).symm
      simp [z, this]
end
end Py
end

section
set_option Elab.async false
set_option linter.all false
set_option maxRecDepth 100000
set_option autoImplicit false
/-! Sim7: what walks a thing to its end: sorted, tuple, list, dict. -/
namespace Py
open PySem L2 PyProof.Rows

section
variable {c : RC} {X : Cx} {A : List Addr} {H : Hp} {v : V} {pins : List (Addr × Obj)} {σ : L2.St} {s : Shared}
theorem reps_keys : ∀ kvs : List (Key × V), Reps c H (kvs.map fun p => kV p.1) (kvs.map fun p => kD p.1)
  | [] => .nil
  | p :: kvs => .cons (rep_key p.1) (reps_keys kvs)
theorem vals_ptw : ∀ {xs : List V} {us : List Value}, xs.length = us.length → (∀ (j : Nat) (u : Value), us[j]? = some u → ∃ x, xs[j]? = some x ∧ RelV x u) → Vals xs us
  | [], [], _, _ => .nil
  | [], _ :: _, h, _ => by simp at h
  | _ :: _, [], h, _ => by simp at h
  | x :: xs, u :: us, h, q => by
    obtain ⟨x', e, r⟩ := q 0 u rfl
    have : x = x' := by simpa using e
    subst this
    exact .cons r (vals_ptw (by simpa using h) fun j u' e => by simpa using q (j + 1) u' (by simpa using e))
theorem KV.at' : ∀ {kvs : List (Key × V)} {vs : List (Key × Value)} {j : Nat} {k : Key} {x : Value}, KV kvs vs → vs[j]? = some (k, x) → ∃ p, kvs[j]? = some p ∧ p.1 = k
  | _, _, _, _, _, .nil, e => by simp at e
  | _, _, 0, _, _, .cons r _, e => by
    simp at e
    subst e
    exact ⟨_, rfl, r.1⟩
  | _, _, j + 1, _, _, .cons _ t, e => by
    obtain ⟨p, e1, e2⟩ := KV.at' (j := j) t (by simpa using e)
    exact ⟨p, by simpa using e1, e2⟩
/-- another sequence -/
theorem perm3 : ∀ {us' us : List Value}, us'.Perm us → ∀ {vs : List V} {ds : List D}, Vals vs us → Reps c H vs ds → ∃ vs' ds', Vals vs' us' ∧ Reps c H vs' ds' ∧ ds'.Perm ds ∧ vs'.Perm vs := by
  intro us' us h
  induction h with
  | nil => intro vs ds hv hr; exact ⟨vs, ds, hv, hr, .refl _, .refl _⟩
  | cons x _ ih =>
    intro vs ds hv hr
    cases hv with
    | cons r t =>
      cases hr with
      | cons r' t' =>
        obtain ⟨vs', ds', a, b, e, e'⟩ := ih t t'
        exact ⟨_, _, .cons r a, .cons r' b, .cons _ e, .cons _ e'⟩
  | swap x y l =>
    intro vs ds hv hr
    cases hv with
    | cons r t =>
      cases t with
      | cons r2 t2 =>
        cases hr with
        | cons p q =>
          cases q with
          | cons p2 q2 => exact ⟨_, _, .cons r2 (.cons r t2), .cons p2 (.cons p q2), .swap _ _ _, .swap _ _ _⟩
  | trans _ _ ih1 ih2 =>
    intro vs ds hv hr
    obtain ⟨vs1, ds1, a, b, e, e'⟩ := ih2 hv hr
    obtain ⟨vs2, ds2, a2, b2, e2, e2'⟩ := ih1 a b
    exact ⟨vs2, ds2, a2, b2, e2.trans e, e2'.trans e'⟩
/-- the values of a walk, in sequence -/
theorem coll (hw : c.w = X.w) (hK : c.K = X.K) (I : Inv X pins σ H s) {d : D} {u : Value} {A' : Around} (hh : A'.handled = none) (hx : RepU (c.up A) H v d) (rx : RelV v u) {WW : List D → Prop} {E : Value → Shared → Prop} (h : itR d WW) (hz : ∀ ds, WW ds → ds.length ≤ 16777216) (nr : ∀ i j, d ≠ .rng i j)
    {Qc : List Value → Shared → Prop} (q : ∀ s' us vs ds, Inv X pins σ H s' → Vals vs us → Reps (c.up A) H vs ds → WW ds → Qc us s') :
    wpAny (model X.prog X.w) A' (collect u) Qc E s := by
  cases d <;> simp only [itR] at h
  · have hv := hx.str
    subst hv
    obtain ⟨t, rfl⟩ := rx
    rename_i z
    have hl := hz _ h
    simp only [chars, List.length_map] at hl
    refine wpAny_collect_str hh z t (fun s' acc k g d o hacc => ?_) (by rw [line24]; simpa using hl)
    have hI : Inv X pins σ H s' := by
      have e : s' = { s with heap := s'.heap, gens := s'.gens, drawn := s'.drawn, toks := s'.toks } := by
        cases s'; cases s; cases o; rfl
      rw [e]
      exact I.call (ch := []) (Un.kept k) (I.hok.kept k) (by rw [g]; exact I.bare) (fun _ z => nomatch z)
    refine q s' acc.toList (z.cps.toList.map fun i => V.str ⟨#[i]⟩) _ hI ?_ ?_ h
    · refine vals_ptw (by have h9 := hacc.1; simp only [List.length_map, Array.length_toList]; omega) fun j u' e => ?_
      obtain ⟨cc, tk, e1, e2⟩ := hacc.2 j u' (by rw [← Array.getElem?_toList]; exact e)
      subst e2
      exact ⟨.str ⟨#[cc]⟩, by rw [List.getElem?_map, Array.getElem?_toList, e1]; rfl, ⟨tk, rfl⟩⟩
    · unfold chars
      generalize z.cps.toList = l
      induction l with
      | nil => exact .nil
      | cons a l ih => exact .cons (.str _) ih
  · obtain ⟨a, xs, rfl, h1, r1, _⟩ := hx.tup
    cases rx
    obtain ⟨its, r, ⟨o, ho, hc, n, hd⟩, hz'⟩ := I.tuple (hK ▸ h1)
    have hl := r.length
    refine wpAny_collect_seq a (.inr rfl) ho hc hd (fun h' hk => ?_) (by rw [List.size_toArray]; omega)
    have e : its.toArray.toList = its := by simp
    rw [e]
    exact q _ its xs _ (I.kept (t' := s.toks) hk) r r1 h
  · obtain ⟨a, xs, rfl, h1, r1⟩ := hx.lst
    cases rx
    obtain ⟨z, its, n, r, hl, e⟩ := Inv.lstR I h1
    refine wpAny_collect_seq a (.inl rfl) e rfl rfl (fun h' hk => ?_) (by rw [List.size_toArray]; omega)
    have e : its.toArray.toList = its := by simp
    rw [e]
    exact q _ its xs _ (I.kept (t' := s.toks) hk) r r1 h
  · obtain ⟨a, o, uo, es, kvs, ks', rfl, h1, h2, ⟨hex, hsz, ep, t, hd, hf, hr, hled⟩, he, hv, hr', pk, nd⟩ := hx.set
    cases rx
    have ho := Inv.raw I h1 h2
    refine collect_set (es := es.toArray) hh ⟨o, ho, hex.1, hd⟩ (by simpa using hf) (by simpa using hsz) hr (by rw [← hw]; exact hled) fun s' out k1 hz1 g1 o1 pm => ?_
    have hI : Inv X pins σ H s' := by
      have e : s' = { s with heap := s'.heap, gens := s'.gens, drawn := s'.drawn, toks := s'.toks } := by
        cases s'; cases s; cases o1; rfl
      rw [e]
      exact I.call (ch := []) (Un.kept k1) (I.hok.kept k1) (by rw [g1]; exact I.bare) (fun _ z => nomatch z)
    have pm' : out.Perm (es.map (·.2)) := by simpa using pm
    obtain ⟨vs', ds', a1, a2, a3, _⟩ := perm3 pm' hv hr'
    exact q s' out vs' ds' hI a1 a2 (h ds' (a3.trans pk))
  · obtain ⟨a, kvs, rfl, h1, e, r1, nd⟩ := hx.dct
    cases rx
    obtain ⟨z, lo, vs, rel, dd⟩ := dk_rd I.hok h1
    obtain ⟨ep, hat⟩ := dd.dictAt
    subst e
    refine PySem.W.kdu_collect (PySem.W.kdl_dict (knd := mixKind X.prog X.w) (kvs := vs) (ep := ep) lo) hh hat (by rw [← rel.length]; exact z) fun h' tk acc hk hacc => ?_
    refine q _ acc.toList (kvs.map fun p => kV p.1) _ (I.kept hk) ?_ (reps_keys kvs) h
    refine vals_ptw (by have h9 := hacc.1; have h10 := rel.length; simp only [List.length_map, Array.length_toList]; omega) fun j u' e => ?_
    obtain ⟨k, x, e1, e2⟩ := hacc.2 j u' (by rw [← Array.getElem?_toList]; exact e)
    obtain ⟨p, hp1, hp2⟩ := KV.at' rel e1
    refine ⟨kV k, by rw [List.getElem?_map, hp1]; simp [hp2], ?_⟩
    rcases keyIs_shape e2 with ⟨i, t, ek, ev⟩ | ⟨z, t, ek, ev⟩
    · subst ek; exact ⟨t, ev⟩
    · subst ek; exact ⟨t, ev⟩
  · exact absurd rfl (nr _ _)

/-! ### sorted -/
theorem CallR.mono {f : Value} {r r' : List V → Hp → VK → Prop} (h : CallR X f r) (m : ∀ xs H Q, r' xs H Q → r xs H Q) : CallR X f r' := fun pins s σ H xs us Q I rs q => h pins s σ H xs us Q I rs (m _ _ _ q)
theorem each_vals {h : Heap} {R : V → D → Prop} : ∀ {vs : List V} {us : List Value} {ds : List D}, Vals vs us → Paired R vs ds → W.EachIs (fun u d => ∃ v, RelV v u ∧ R v d) us ds
  | _, _, _, .nil, .nil => .nil
  | _, _, _, .cons r t, .cons r' t' => .cons ⟨_, r, r'⟩ (each_vals (h := h) t t')
theorem Reps.paired : ∀ {vs : List V} {ds : List D}, Reps c H vs ds → Paired (Rep c H) vs ds
  | _, _, .nil => .nil
  | _, _, .cons a b => .cons a (Reps.paired b)
theorem Reps.of_paired : ∀ {vs : List V} {ds : List D}, Paired (Rep c H) vs ds → Reps c H vs ds
  | _, _, .nil => .nil
  | _, _, .cons a b => .cons a (Reps.of_paired b)
theorem vals_each {R : V → D → Prop} : ∀ {us : List Value} {ds : List D}, W.EachIs (fun u d => ∃ v, RelV v u ∧ R v d) us ds → ∃ vs, Vals vs us ∧ Paired R vs ds
  | _, _, .nil => ⟨[], .nil, .nil⟩
  | _, _, .cons ⟨v, r, r'⟩ t => by
    obtain ⟨vs, a, b⟩ := vals_each t
    exact ⟨v :: vs, .cons r a, .cons r' b⟩
theorem alk_pln : ∀ {d : D}, alk d d = true → d.pln = true := by
  have main : ∀ n, (∀ d : D, d.dep ≤ n → alk d d = true → d.pln = true) := by
    intro n
    induction n with
    | zero =>
      intro d hd h
      cases d <;> simp_all [alk, D.pln, D.dep]
    | succ n ih =>
      have all : ∀ xs : List D, deps xs ≤ n → alks xs xs = true → plns xs = true := by
        intro xs
        induction xs with
        | nil => intro _ _; rfl
        | cons x xs ihx =>
          intro hd h
          simp only [deps] at hd
          simp only [alks, Bool.and_eq_true] at h
          simp only [plns, Bool.and_eq_true]
          exact ⟨ih x (by omega) h.1, ihx (by omega) h.2⟩
      intro d hd h
      cases d <;> simp only [alk, D.pln, D.dep, Bool.false_eq_true] at hd h ⊢
      · exact all _ (by omega) h
      · exact all _ (by omega) h
  intro d h
  exact main d.dep d (Nat.le_refl _) h
theorem sortOk_of {ds : List D} (h : sortOk ds = true) : (∀ x ∈ ds, ∀ y ∈ ds, alk x y = true) ∧ (∀ x ∈ ds, x.pln = true ∧ x.dep ≤ 40) ∧ W.AllAlike (ds.map D.pd) ∧ W.Sortable (ds.map D.pd) := by
  simp only [sortOk, Bool.and_eq_true, List.all_eq_true, decide_eq_true_eq, Bool.or_eq_true] at h
  obtain ⟨h1, h2⟩ := h
  have ha : ∀ x ∈ ds, ∀ y ∈ ds, alk x y = true := fun x hx y hy => (h1 x hx y hy).1
  have hp : ∀ x ∈ ds, x.pln = true ∧ x.dep ≤ 40 := fun x hx => ⟨alk_pln (ha x hx x hx), (h1 x hx x hx).2⟩
  refine ⟨ha, hp, fun d hd d' hd' => ?_, ?_⟩
  · obtain ⟨x, hx, rfl⟩ := List.mem_map.mp hd
    obtain ⟨y, hy, rfl⟩ := List.mem_map.mp hd'
    exact pd_alike x y (ha x hx y hy)
  · rcases h2 with h2 | h2
    · refine .inl fun d hd => ?_
      obtain ⟨x, hx, rfl⟩ := List.mem_map.mp hd
      have := h2 x hx
      split at this
      · rename_i y ys
        exact ⟨y.pd, pds ys, by simp [D.pd, pds]⟩
      · cases this
    · refine .inr fun d hd => ?_
      obtain ⟨x, hx, rfl⟩ := List.mem_map.mp hd
      have h3 := h2 x hx
      have h4 := (hp x hx).1
      cases x <;> simp_all [D.pd, D.pln]
theorem merge_same {ds : List D} (ha : ∀ x ∈ ds, ∀ y ∈ ds, alk x y = true) (hp : ∀ x ∈ ds, x.pln = true ∧ x.dep ≤ 40) : ds.mergeSort (W.dataLe false D.pd) = sortD ds := by
  have e := List.map_mergeSort (f := id) (l := ds) (r := W.dataLe false D.pd) (s := fun a b => !ltD b a) fun a hx b hy => by
    rw [W.dataLe_eq]
    show (!W.dataLt b.pd a.pd) = !ltD b a
    rw [pd_lt b a (ha b hy a hx) (hp b hy).1 (hp a hx).1]
  simpa [sortD] using e
theorem each_reads (hK : c.K = X.K) (I : Inv X pins σ H s) : ∀ {vs : List V} {us : List Value} {ds : List D}, Vals vs us → Reps c H vs ds → (∀ x ∈ ds, x.pln = true ∧ x.dep ≤ 40) → W.EachIs (fun v b => ∃ as, Reads s.heap v b.pd as) us ds
  | _, _, _, .nil, .nil, _ => .nil
  | _, _, _, .cons r t, .cons r' t', hp => by
    refine .cons ?_ (each_reads hK I t t' fun x hx => hp x (List.mem_cons_of_mem _ hx))
    exact Dp.reads I _ _ _ (hK ▸ r'.dp (hp _ List.mem_cons_self).1) r
/-- sorted(x) -/
theorem sorted_any (hw : c.w = X.w) (hK : c.K = X.K) (hR : Rm X) (hc : X.calm = true) (I : Inv X pins σ H s) {d : D} {u : Value} {Q : VK} (hx : RepU (c.up A) H v d) (rx : RelV v u) {WW : List D → Prop} (h : itR d WW) (hz : ∀ ds, WW ds → sortOk ds = true ∧ Sz ds.length) (nr : ∀ i j, d ≠ .rng i j)
    (q : ∀ ds vs p, WW ds → H p = none → Reps (c.up A) H vs (sortD ds) → Q (.ref p) (upd H p (.lst vs))) :
    wpAny (model X.prog X.w) X.A (call (.builtin "sorted") [u]) (EP X pins σ Q) X.xe s := by
  refine Calls.call_function_entry kind_sorted plain_sorted entry_sorted (args_sorted1 _) ?_
  unfold Builtin.«sorted»
  refine wpAny_bind (m := checkCount "sorted" 1 1 _) (wpAny_pure ?_)
  refine wpAny_bind (coll (A' := X.A.in1) hw hK I (I.ok.hd hc) hx rx h (fun ds hd => (hz ds hd).2) nr fun s1 us vs ds I1 hv hr hW => ?_)
  obtain ⟨hso, hsz⟩ := hz ds hW
  obtain ⟨ha, hp, hal, hsb⟩ := sortOk_of hso
  have hl1 := hv.length
  have hl2 := hr.length
  refine wpAny_bind (wpAny_newList ?_ (by rw [line24]; omega))
  have hoL : (s1.heap.push (seqObj "list" us.toArray 0)).get? s1.heap.objs.size = some (seqObj "list" us.toArray 0) := Heap.get?_push_size _ rfl
  have hkp : ∀ b o, s1.heap.get? b = some o → (s1.heap.push (seqObj "list" us.toArray 0)).get? b = some o := fun b o e => Heap.get?_push_of_some _ e
  have hun := hR.un
  have each := each_vals (h := s1.heap) hv hr.paired
  refine wpAny_bind (wpAny_holding (W.list_sort_data (s := { s1 with heap := s1.heap.push (seqObj "list" us.toArray 0) }) (R := fun u d => ∃ v, RelV v u ∧ Rep (c.up A) H v d) (enc := D.pd) (bs := ds) hoL each ?_ hal hsb (by rw [line24]; omega) (fun b hb => ?_) fun out ho eo => ?_))
  · refine (each_reads (c := c.up A) hK I1 hv hr hp).mono fun u b ⟨as, r⟩ => ⟨as, PyProof.Rows.Reads.keeps hkp r, fun m => ?_⟩
    obtain ⟨o, e⟩ := PyProof.On.reads_mem_get r _ m
    exact absurd (Heap.lt_size e) (Nat.lt_irrefl _)
  · have := pd_depth b
    have := (hp b hb).2
    show X.A.units + 1 + 1 + b.pd.depth < cLine
    omega
  · rw [merge_same ha hp] at eo
    obtain ⟨vs', a1, a2⟩ := vals_each eo
    obtain ⟨e', he'⟩ := sortedHeap_at (vs := us) (out := out.toArray) hoL
    have hl3 := a1.length
    refine wpAny_pure ⟨_, rfl, .ref s1.heap.objs.size, upd H s1.heap.objs.size (.lst vs'), I1.laid (t' := s1.toks) (fun b u e => ?_) (Nat.le_refl _)
      (show ObjOk X.prog X.w _ _ _ (.lst vs') from ⟨by rw [line24]; omega, out, e', a1, he'⟩), rfl, q ds vs' _ hW (I1.hok.fresh (Nat.le_refl _)) (Reps.of_paired a2)⟩
    have hb : b < s1.heap.objs.size := Heap.lt_size e
    rw [sortedHeap_old (Nat.ne_of_lt hb) (by rw [size_push']; exact Nat.lt_succ_of_lt hb)]
    exact hkp _ _ e

/-- f of one value -/
def Call1 (c : RC) (X : Cx) (f : Value) (r : D → (D → Prop) → Prop) : Prop :=
  CallR X f (fun vs H Q => ∃ (v : V) (A : List Addr) (d : D) (P : D → Prop), vs = [v] ∧ Obs A H ∧ RepU (c.up A) H v d ∧ r d P ∧ OutP c A H P Q)
theorem c_sorted (hw : c.w = X.w) (hK : c.K = X.K) (hR : Rm X) (hc : X.calm = true) : Call1 c X (.builtin "sorted") sortedR := by
  intro pins s σ H xs us Q I rs h
  obtain ⟨v, A, d, P, rfl, ob, hx, h, q⟩ := h
  obtain ⟨u, rfl, rx⟩ := vals1 rs
  have h' : (∀ i j, d ≠ .rng i j) ∧ itR d fun xs => (sortOk xs = true ∧ Sz xs.length) ∧ P (.lst (sortD xs)) := by
    cases d <;> first | exact h.elim | exact ⟨fun _ _ z => (by cases z), h⟩
  exact sorted_any hw hK hR hc I hx rx h'.2 (fun _ z => z.1) h'.1 fun ds vs p z hp hr => q.ls ob z.2 hp hr

/-! ### len, tuple, list, all, any, sum .. -/
theorem c_len (hK : c.K = X.K) : Call1 c X (.builtin "len") lenR := by
  refine CallR.mono (call_len.or (show CallR X (.builtin "len") (fun xs H Q => ∃ a kvs, xs = [V.ref a] ∧ Rd H a (.dK kvs) ∧ Q (.int kvs.length) H) from ?_)) ?_
  · intro pins s σ H xs us Q I r h
    obtain ⟨a, kvs, rfl, ha, q⟩ := h
    obtain ⟨u, rfl, ru⟩ := vals1 r
    cases ru
    exact d_len I ha fun t s' I' => ⟨.int kvs.length, H, I', ⟨t, rfl⟩, q⟩
  · rintro xs H Q ⟨v, A, d, P, rfl, ob, hx, h, q⟩
    cases d <;> simp only [lenR] at h
    · rw [hx.str]
      exact .inl ⟨_, _, rfl, ⟨by rw [line24]; exact h.1, rfl⟩, q.sc h.2 (.int _) rfl⟩
    · obtain ⟨a, xs, rfl, h1, r1, _⟩ := hx.tup
      refine .inl ⟨_, _, rfl, .inr ⟨xs, hK ▸ h1, rfl⟩, q.sc h ?_ rfl⟩
      rw [r1.length]; exact .int _
    · obtain ⟨a, xs, rfl, h1, r1⟩ := hx.lst
      refine .inl ⟨_, _, rfl, .inl ⟨xs, .inl h1, rfl⟩, q.sc h ?_ rfl⟩
      rw [r1.length]; exact .int _
    · obtain ⟨a, kvs, rfl, h1, e, r1, nd⟩ := hx.dct
      refine .inr ⟨a, kvs, rfl, h1, q.sc h ?_ rfl⟩
      rw [e, List.length_map]; exact .int _
theorem c_tuple (hK : c.K = X.K) : Call1 c X (.type "tuple") tupleR := by
  intro pins s σ H xs us Q I rs h
  obtain ⟨v, A, d, P, rfl, ob, hx, h, q⟩ := h
  obtain ⟨u, rfl, rx⟩ := vals1 rs
  cases d <;> simp only [tupleR] at h
  · obtain ⟨a, xs, rfl, h1, r1, f1⟩ := hx.tup
    cases rx
    obtain ⟨its, r', pl, hz⟩ := I.tuple (hK ▸ h1)
    exact call_tuple_same pl ⟨.ref a, H, I, rfl, q.sc h f1 rfl⟩
  · obtain ⟨a, xs, rfl, h1, r1⟩ := hx.lst
    cases rx
    obtain ⟨z, its, n, r', hl, e⟩ := Inv.lstR I h1
    refine call_tuple_list (items := its.toArray) ⟨_, e, rfl, _, rfl⟩ (fun h' kp => ?_) (by simp only [List.size_toArray] <;> omega)
    have I1 : Inv X pins σ H { s with heap := h' } := I.kept (t' := s.toks) kp
    exact TupQ.fin I1 r' z fun p o hp ho => q.tp ob h hp ho r1
theorem c_list (hK : c.K = X.K) : Call1 c X (.type "list") listR := by
  refine CallR.mono call_list_of ?_
  rintro xs H Q ⟨v, A, d, P, rfl, ob, hx, h, q⟩
  cases d <;> simp only [listR] at h
  · obtain ⟨a, xs, rfl, h1, r1, _⟩ := hx.tup
    exact ⟨_, _, rfl, .inr (hK ▸ h1), fun l hl => q.ls ob h hl r1⟩
  · obtain ⟨a, xs, rfl, h1, r1⟩ := hx.lst
    exact ⟨_, _, rfl, .inl (.inl h1), fun l hl => q.ls ob h hl r1⟩
theorem reps_bools : ∀ {vs : List V} {ds : List D} {bs : List Bool}, Reps c H vs ds → boolsOf ds = some bs → vs = bs.map V.bl
  | _, [], bs, r, e => by cases r; simp only [boolsOf, Option.some.injEq] at e; subst e; rfl
  | _, d :: ds, bs, r, e => by
    cases r with
    | cons r t =>
      cases d <;> simp only [boolsOf, reduceCtorEq] at e
      obtain ⟨bs', e', rfl⟩ := Option.map_eq_some_iff.mp e
      cases r
      rw [reps_bools t e']; rfl
theorem reps_ints : ∀ {vs : List V} {ds : List D} {bs : List Int}, Reps c H vs ds → intsOf ds = some bs → vs = bs.map V.int
  | _, [], bs, r, e => by cases r; simp only [intsOf, Option.some.injEq] at e; subst e; rfl
  | _, d :: ds, bs, r, e => by
    cases r with
    | cons r t =>
      cases d <;> simp only [intsOf, reduceCtorEq] at e
      obtain ⟨bs', e', rfl⟩ := Option.map_eq_some_iff.mp e
      cases r
      rw [reps_ints t e']; rfl
theorem onL_some {α : Type} {f : List D → Option α} {R : α → Prop} {d : D} (h : onL f R d) : ∃ xs a, d = .lst xs ∧ f xs = some a ∧ R a := by
  cases d <;> simp only [onL] at h
  rename_i xs
  cases e : f xs with
  | none => rw [e] at h; exact h.elim
  | some a => rw [e] at h; exact ⟨xs, a, rfl, e, h⟩
theorem c_all (hc : X.calm = true) : Call1 c X (.builtin "all") (fun d P => onL boolsOf (fun bs => P (.bool (bs.all id))) d) := by
  refine CallR.mono (cr_all hc) ?_
  rintro xs H Q ⟨v, A, d, P, rfl, ob, hx, h, q⟩
  obtain ⟨xs, bs, rfl, e, h⟩ := onL_some h
  obtain ⟨a, vs, rfl, h1, r1⟩ := hx.lst
  exact ⟨a, bs, rfl, by rw [← reps_bools r1 e]; exact .inl h1, q.sc h (.bl _) rfl⟩
theorem c_any (hc : X.calm = true) : Call1 c X (.builtin "any") (fun d P => onL boolsOf (fun bs => P (.bool (bs.any id))) d) := by
  refine CallR.mono (cr_any hc) ?_
  rintro xs H Q ⟨v, A, d, P, rfl, ob, hx, h, q⟩
  obtain ⟨xs, bs, rfl, e, h⟩ := onL_some h
  obtain ⟨a, vs, rfl, h1, r1⟩ := hx.lst
  exact ⟨a, bs, rfl, by rw [← reps_bools r1 e]; exact .inl h1, q.sc h (.bl _) rfl⟩
theorem c_sum (hc : X.calm = true) : Call1 c X (.builtin "sum") (fun d P => onL intsOf (fun ns => P (.int ns.sum)) d) := by
  refine CallR.mono (cr_sum hc) ?_
  rintro xs H Q ⟨v, A, d, P, rfl, ob, hx, h, q⟩
  obtain ⟨xs, bs, rfl, e, h⟩ := onL_some h
  obtain ⟨a, vs, rfl, h1, r1⟩ := hx.lst
  exact ⟨a, bs, rfl, by rw [← reps_ints r1 e]; exact .inl h1, q.sc h (.int _) rfl⟩
theorem c_max (hc : X.calm = true) : Call1 c X (.builtin "max") (fun d P => onL intsOf (fun ns => ns ≠ [] ∧ ∀ m, m ∈ ns → (∀ y, y ∈ ns → y ≤ m) → P (.int m)) d) := by
  refine CallR.mono (cr_max hc) ?_
  rintro xs H Q ⟨v, A, d, P, rfl, ob, hx, h, q⟩
  obtain ⟨xs, bs, rfl, e, h⟩ := onL_some h
  obtain ⟨a, vs, rfl, h1, r1⟩ := hx.lst
  exact ⟨a, bs, rfl, by rw [← reps_ints r1 e]; exact .inl h1, List.length_pos_iff.mpr h.1, fun m h2 h3 => q.sc (h.2 m h2 h3) (.int _) rfl⟩
theorem c_min (hc : X.calm = true) : Call1 c X (.builtin "min") (fun d P => onL intsOf (fun ns => ns ≠ [] ∧ ∀ m, m ∈ ns → (∀ y, y ∈ ns → m ≤ y) → P (.int m)) d) := by
  refine CallR.mono (cr_min hc) ?_
  rintro xs H Q ⟨v, A, d, P, rfl, ob, hx, h, q⟩
  obtain ⟨xs, bs, rfl, e, h⟩ := onL_some h
  obtain ⟨a, vs, rfl, h1, r1⟩ := hx.lst
  exact ⟨a, bs, rfl, by rw [← reps_ints r1 e]; exact .inl h1, List.length_pos_iff.mpr h.1, fun m h2 h3 => q.sc (h.2 m h2 h3) (.int _) rfl⟩
theorem c_abs : Call1 c X (.builtin "abs") absR := by
  refine CallR.mono call_abs ?_
  rintro xs H Q ⟨v, A, d, P, rfl, ob, hx, h, q⟩
  cases d <;> simp only [absR] at h
  rw [hx.int]; exact ⟨_, rfl, q.sc h (.int _) rfl⟩
theorem c_int : Call1 c X (.type "int") intR := by
  refine CallR.mono call_int1 ?_
  rintro xs H Q ⟨v, A, d, P, rfl, ob, hx, h, q⟩
  cases d <;> simp only [intR] at h
  · rw [hx.bool]; exact .inr ⟨_, rfl, q.sc h (.int _) rfl⟩
  · rw [hx.int]; exact .inl ⟨_, rfl, q.sc h (.int _) rfl⟩
theorem c_str : Call1 c X (.type "str") strR := by
  refine CallR.mono call_str_int ?_
  rintro xs H Q ⟨v, A, d, P, rfl, ob, hx, h, q⟩
  cases d <;> simp only [strR] at h
  rw [hx.int]; exact ⟨_, rfl, h.1, q.sc h.2 (.str _) rfl⟩
end
end Py
end

section
set_option Elab.async false
set_option linter.all false
set_option maxRecDepth 100000
set_option autoImplicit false
/-! Sim8: calls of built-ins; isinstance, dict, repr; in and [] of dicts. -/
namespace Py
open PySem L2 PyProof.Rows

/-! ### argument lists without stars -/
def noStar : Expr → Bool
  | .Starred .. => false
  | _ => true
theorem star_of {x : Expr} {es : List Expr} {env : Env} (h : noStar x = true) : starEach (x :: es) env = (false, eval x env) :: starEach es env := by
  cases x <;> first | rfl | exact absurd h Bool.false_ne_true
theorem any_of {env : Env} {pos : Pos} : ∀ {es : List Expr}, es.all noStar = true → (backTo pos (starEach es env)).any (·.1) = false
  | [], _ => rfl
  | e :: es, h => by
    rw [List.all_cons, Bool.and_eq_true] at h
    rw [star_of h.1]
    show ((false || (backTo pos (starEach es env)).any (·.1))) = false
    rw [any_of h.2]; rfl
section
variable {G : Cn} {X : Cx} {a b d x : Expr} {ea eb ed e : E} {pos p : Pos} {R : RM} {es : List Expr} {ees : Es}
theorem paired1 {c : RC} {H : Hp} {vs : List V} {d : D} (h : Paired (RepU c H) vs [d]) : ∃ v, vs = [v] ∧ RepU c H v d := by
  cases h with
  | cons r t => cases t; exact ⟨_, rfl, r⟩
/-- a built-in called with one argument -/
theorem s_blt1 {nm : Str} {f : Value} {bf : Bf} (F : Fc G X) (hf : Call1 G.b X f (blt1 G.sub bf)) (hT : (∃ id, f = .builtin id) ∨ ∃ T, f = .type T) (hg : Gl X nm) (hm : X.mg nm = none) (hv : bootBuiltins nm = some f) (hn : nm ≠ "__name__") (hdb : (nm == ("__debug__" : Str)) = false)
    (ns : noStar x = true) (ha : PE X x (tE G RU e)) : PE X (.Call (.Name nm p) [x] [] pos) (tE G RX (.blt bf (.cons e .nil))) := by
  have hp : PE X (.Call (.Name nm p) [x] [] pos) (tCB (fun vs H Q => ∃ (v : V) (A : List Addr) (d : D) (P : D → Prop), vs = [v] ∧ Obs A H ∧ RepU (G.b.up A) H v d ∧ blt1 G.sub bf d P ∧ OutP G.b A H P Q) (tCons (tE G RU e) tNil)) := by
    rcases hT with ⟨id, rfl⟩ | ⟨T, rfl⟩
    · exact pe_callB hf hg hm hv (pa_cons ha pa_nil (star_of ns)) hn hdb (star_of ns) rfl
    · exact pe_callTy hf hg hm hv (pa_cons ha pa_nil (star_of ns)) hn hdb (star_of ns) rfl
  refine PE.mono hp ?_
  rintro σ H QQ ⟨A, l, st, r, g⟩
  simp only [wpE, wpEs] at g
  refine ⟨A, l, st, r, wpE_mono F.C e (fun dx st1 g1 x A1 H1 k1 r1 hx => ?_) (fun _ _ q => q) g⟩
  exact ⟨x, A1, dx, _, rfl, r1.obs, hx, g1, fun d v H' q n hv => q v A1 H' (k1.trans n.stp) (n.rel r1) (hv.back k1)⟩
/-- with two arguments -/
def Call2 (c : RC) (X : Cx) (f : Value) (r : D → D → (D → Prop) → Prop) : Prop :=
  CallR X f (fun vs H Q => ∃ (v w : V) (A : List Addr) (d d' : D) (P : D → Prop), vs = [v, w] ∧ Obs A H ∧ RepU (c.up A) H v d ∧ RepU (c.up A) H w d' ∧ r d d' P ∧ OutP c A H P Q)
theorem s_blt2 {nm : Str} {id : String} {bf : Bf} (F : Fc G X) (hf : Call2 G.b X (.builtin id) (blt2 bf)) (hg : Gl X nm) (hm : X.mg nm = none) (hv : bootBuiltins nm = some (.builtin id)) (hn : nm ≠ "__name__") (hdb : (nm == ("__debug__" : Str)) = false)
    (ns : noStar a = true) (ns' : noStar b = true) (ha : PE X a (tE G RU ea)) (hb : PE X b (tE G RU eb)) : PE X (.Call (.Name nm p) [a, b] [] pos) (tE G RX (.blt bf (.cons ea (.cons eb .nil)))) := by
  refine PE.mono (pe_callB hf hg hm hv (pa_cons ha (pa_cons hb pa_nil (star_of ns')) (star_of ns)) hn hdb (star_of ns) (any_of (by simp [ns']))) ?_
  rintro σ H QQ ⟨A, l, st, r, g⟩
  simp only [wpE, wpEs, bltR] at g
  refine ⟨A, l, st, r, wpE_mono F.C ea (fun dx st1 g1 x A1 H1 k1 r1 hx => ?_) (fun _ _ q => q) g⟩
  refine ⟨A1, l, st1, r1, wpE_mono F.C eb (fun dy st2 g2 y A2 H2 k2 r2 hy => ?_) (fun _ _ q => q) g1⟩
  exact ⟨x, y, A2, dx, dy, _, rfl, r2.obs, r1.keepU k2 hx, hy, g2, fun d v H' q n hv => q v A2 H' (k1.trans (k2.trans n.stp)) (n.rel r2) (hv.back (k1.trans k2))⟩
theorem c_max2 {c : RC} (hc : X.calm = true) : Call2 c X (.builtin "max") (blt2 .max) := by
  refine CallR.mono (call_max2 hc) ?_
  rintro xs H Q ⟨v, w, A, d, d', P, rfl, ob, hx, hy, h, q⟩
  cases d <;> cases d' <;> simp only [blt2] at h
  rw [hx.int, hy.int]; exact ⟨_, _, rfl, q.sc h (.int _) rfl⟩
theorem c_min2 {c : RC} (hc : X.calm = true) : Call2 c X (.builtin "min") (blt2 .min) := by
  refine CallR.mono (call_min2 hc) ?_
  rintro xs H Q ⟨v, w, A, d, d', P, rfl, ob, hx, hy, h, q⟩
  cases d <;> cases d' <;> simp only [blt2] at h
  rw [hx.int, hy.int]; exact ⟨_, _, rfl, q.sc h (.int _) rfl⟩

/-! ### isinstance -/
/-- a value's type -/
def tyN : D → Option String
  | .none => some "NoneType"
  | .bool _ => some "bool"
  | .int _ => some "int"
  | .str _ => some "str"
  | .tup _ => some "tuple"
  | .lst _ => some "list"
  | .dct _ _ => some "dict"
  | _ => Option.none
theorem ty_of {c : RC} {H : Hp} {v : V} {d : D} {t : String} (h : RepU c H v d) (e : tyN d = some t) : TyX c.K H v (.type t) := by
  cases d <;> simp only [tyN, Option.some.injEq, reduceCtorEq] at e <;> subst e
  · rw [h.non]; exact .base .non
  · rw [h.bool]; exact .base (.bl _)
  · rw [h.int]; exact .base (.int _)
  · rw [h.str]; exact .base (.str _)
  · rcases h with h | ⟨h, _⟩
    · cases h with | tup h _ _ => exact .fTuple h
    · cases h
  · obtain ⟨a, xs, rfl, h1, _⟩ := h.lst
    rcases h1 with h1 | ⟨o, h1⟩
    · exact .base (.lst h1)
    · exact .base (.frz h1)
  · obtain ⟨a, kvs, rfl, h1, _⟩ := h.dct
    rcases h1 with h1 | ⟨o, h1⟩
    · exact .base (.dK h1)
    · exact .fDict h1
/-- a type's name, that isinstance is asked of -/
def tyT (T : Str) : Option String := if T = "bool" then some "bool" else if T = "int" then some "int" else if T = "str" then some "str" else if T = "tuple" then some "tuple" else if T = "list" then some "list" else if T = "dict" then some "dict" else Option.none
theorem kit_tab (sub : Str → Str → Bool) {d : D} {ts : List Str} (h : isiOk d ts = true) : ∃ t, tyN d = some t ∧ ∀ T ∈ ts, ∃ s : String, tyT T = some s ∧ kitB t s = some (isOf sub d T) := by
  have all : ∀ t : String, (∀ T : Str, (T = "bool" ∨ T = "int" ∨ T = "str" ∨ T = "tuple" ∨ T = "list" ∨ T = "dict") → ∃ s : String, tyT T = some s ∧ kitB t s = some (isOf sub d T)) → (∀ T ∈ ts, (T = "bool" ∨ T = "int" ∨ T = "str" ∨ T = "tuple" ∨ T = "list" ∨ T = "dict")) →
      ∀ T ∈ ts, ∃ s : String, tyT T = some s ∧ kitB t s = some (isOf sub d T) := fun t h1 h2 T hT => h1 T (h2 T hT)
  cases d <;> simp only [isiOk, List.all_eq_true, decide_eq_true_eq, Bool.false_eq_true] at h
  all_goals refine ⟨_, rfl, all _ ?_ h⟩
  all_goals
    intro T hT
    rcases hT with rfl | rfl | rfl | rfl | rfl | rfl
  all_goals first
    | exact ⟨"bool", by decide +kernel, by simp only [isOf]; decide +kernel⟩
    | exact ⟨"int", by decide +kernel, by simp only [isOf]; decide +kernel⟩
    | exact ⟨"str", by decide +kernel, by simp only [isOf]; decide +kernel⟩
    | exact ⟨"tuple", by decide +kernel, by simp only [isOf]; decide +kernel⟩
    | exact ⟨"list", by decide +kernel, by simp only [isOf]; decide +kernel⟩
    | exact ⟨"dict", by decide +kernel, by simp only [isOf]; decide +kernel⟩
theorem pe_tyN {T : String} {nm : Str} (hg : Gl X nm) (hm : X.mg nm = none) (hv : bootBuiltins nm = some (.type T)) (hn : nm ≠ "__name__") (hdb : (nm == ("__debug__" : Str)) = false) : PE X (.Name nm p) (tC (.ty T)) :=
  ⟨fun pins s σ H Q I h => ld_blt I hg hm hv ⟨.ty T, H, I, rfl, h⟩ hn hdb⟩
/-- isinstance(x, T) -/
theorem s_isi {T : String} {nm : Str} {q : Pos} (F : Fc G X) (hg0 : Gl X "isinstance") (hm0 : X.mg "isinstance" = none) (hg : Gl X nm) (hm : X.mg nm = none) (hv : bootBuiltins nm = some (.type T)) (hT : tyT nm = some T) (hn : nm ≠ "__name__") (hdb : (nm == ("__debug__" : Str)) = false)
    (ns : noStar x = true) (ha : PE X x (tE G RU e)) : PE X (.Call (.Name "isinstance" p) [x, .Name nm q] [] pos) (tE G RF (.blt (.isinst [nm]) (.cons e .nil))) := by
  refine PE.mono (pe_callB (id := "isinstance") call_isi hg0 hm0 (by decide +kernel) (pa_cons ha (pa_cons (pe_tyN hg hm hv hn hdb) pa_nil rfl) (star_of ns)) (by decide) (by decide) (star_of ns) rfl) ?_
  rintro σ H QQ ⟨A, l, st, r, g⟩
  simp only [wpE, wpEs] at g
  refine ⟨A, l, st, r, wpE_mono F.C e (fun dx st1 g1 x A1 H1 k1 r1 hx => ?_) (fun _ _ q => q) g⟩
  obtain ⟨g1, g2⟩ := (show isiOk dx [nm] = true ∧ _ from g1)
  obtain ⟨t, e1, e2⟩ := kit_tab G.sub g1
  obtain ⟨s, e3, e4⟩ := e2 nm List.mem_cons_self
  obtain rfl : s = T := Option.some.inj (e3.symm.trans hT)
  refine ⟨x, .ty s, .type t, .type s, _, rfl, .ty s, F.K ▸ ty_of (c := G.b.up A1) hx e1, kit_ty e4, ?_⟩
  have := g2 (.bl (isOf G.sub dx nm)) A1 H1 k1 r1
  simp only [List.any_cons, List.any_nil, Bool.or_false] at this
  exact this (.bl _)
end

/-! ### repr -/
section
variable {c : RC} {X : Cx} {A : List Addr} {H : Hp} {v : V} {pins : List (Addr × Obj)} {σ : L2.St} {s : Shared}
mutual
theorem pd_noDict : ∀ d : PyData, d.plain = true → d.hasDict = false
  | .none, _ => rfl
  | .bool _, _ => rfl
  | .int _, _ => rfl
  | .str _, _ => rfl
  | .list xs, h => by simp only [PyData.hasDict]; exact pds_noDict xs (by simpa [PyData.plain] using h)
  | .tuple xs, h => by simp only [PyData.hasDict]; exact pds_noDict xs (by simpa [PyData.plain] using h)
  | .dict _, h => by simp [PyData.plain] at h
theorem pds_noDict : ∀ ds : List PyData, PyData.plainAll ds = true → PyData.hasDictAll ds = false
  | [], _ => rfl
  | d :: ds, h => by
    simp only [PyData.plainAll, Bool.and_eq_true] at h
    simp only [PyData.hasDictAll, pd_noDict d h.1, pds_noDict ds h.2, Bool.or_self]
end
theorem c_repr (hK : c.K = X.K) (hR : Rm X) (hgd : X.A.guards = some []) : Call1 c X (.builtin "repr") (fun d P => d.reprOk = true ∧ P (.str d.shown)) := by
  intro pins s σ H xs us Q I rs h
  obtain ⟨v, A, d, P, rfl, ob, hx, ⟨h, h'⟩, q⟩ := h
  obtain ⟨u, rfl, rx⟩ := vals1 rs
  simp only [D.reprOk, Bool.and_eq_true, decide_eq_true_eq] at h
  obtain ⟨⟨h1, h2⟩, h3⟩ := h
  obtain ⟨p1, p2⟩ := cmpOk_of h1
  obtain ⟨as, r⟩ := Dp.reads I d.pd v u (hK ▸ hx.dp p1) rx
  have hnd := pd_noDict _ (pd_plain _ p1)
  have hz : d.pd.shown.length ≤ sizeLine := by rw [line24]; exact h3
  have hun := hR.un
  have hdp := pd_depth d
  have fin : ∀ h' u tk, (∀ b o, s.heap.get? b = some o → h'.get? b = some o) → EP X pins σ Q (.str d.pd.shown u) { s with heap := h', toks := tk } := fun h'' u tk k =>
    ⟨.str d.shown, H, I.kept k, ⟨u, rfl⟩, q.sc h' (.str _) rfl⟩
  cases d <;> simp only [D.pln, Bool.false_eq_true] at p1
  · cases r; exact PySem.P.repr_of_none (fin s.heap _ _ fun _ _ e => e)
  · cases r; exact PySem.P.repr_of_bool (by
      have := fin s.heap s.toks (s.toks + 1) fun _ _ e => e
      simpa [D.pd, PyData.shown] using this)
  · cases r; exact PySem.P.repr_of_int (by simpa [D.pd, PyData.showable] using h2) (fin s.heap _ _ fun _ _ e => e)
  · cases r; exact PySem.P.repr_of_str (fin s.heap _ _ fun _ _ e => e) (by simpa [D.pd, PyData.shown] using hz)
  · obtain ⟨a, xs, rfl, _⟩ := hx.tup
    cases rx
    exact repr_of_reads' r h2 (PyData.noDict_hsm hnd) hgd (by omega) (fun _ _ e => e) fin hz
  · obtain ⟨a, xs, rfl, _⟩ := hx.lst
    cases rx
    exact repr_of_reads' r h2 (PyData.noDict_hsm hnd) hgd (by omega) (fun _ _ e => e) fin hz

/-! ### dicts: in, [], dict(..) -/
theorem d_key {d : D} {k : D} {ks vs : List D} {y : V} (hx : RepU (c.up A) H v (.dct ks vs)) (hy : RepU (c.up A) H y k) (hk : k.flat = true) : ∃ a kvs q, v = .ref a ∧ Rd H a (.dK kvs) ∧ y = kV q ∧ k = kD q ∧ ks = kvs.map (fun p => kD p.1) ∧ Reps (c.up A) H (kvs.map (·.2)) vs := by
  obtain ⟨a, kvs, rfl, h1, e, r1, _⟩ := hx.dct
  obtain ⟨q, rfl⟩ := flat_kD hk
  exact ⟨a, kvs, q, rfl, h1, hy.key, rfl, e, r1⟩
theorem ix_U (hK : c.K = X.K) (hR : Rm X) : Ix2 c X ixR := by
  have h1 : IxR X (fun x y H Q => ∃ a v, x = .ref a ∧ DGet H a y (some v) ∧ Q v H) := by
    intro value slice pins s σ H x y v u Q I rx ry h hs
    obtain ⟨a, z, rfl, g, q⟩ := h
    cases rx
    have hun := hR.un
    exact tail_any (dict_typeIs I g) PySem.F.slot_dict_getitem.lookup (d_getItem (by omega) I g ry fun w' s' I' r' => ⟨z, H, I', r', q⟩) hs
  refine IxR.mono ((ix_seqU hK).or h1) ?_
  rintro x y H Q ⟨A, dx, dy, P, ob, hx, hy, h, q⟩
  by_cases hd : ∃ ks vs, dx = .dct ks vs
  · obtain ⟨ks, vs, rfl⟩ := hd
    simp only [ixR, keyOk] at h
    obtain ⟨a, kvs, k, rfl, h1, rfl, rfl, rfl, r1⟩ := d_key (d := dy) hx hy h.1
    refine .inr ?_
    have e := dGet_kvs k r1
    obtain ⟨_, h⟩ := h
    cases g : dGet (kvs.map fun p => kD p.1) vs (kD k) with
    | none => rw [g] at h; exact h.elim
    | some d =>
      rw [g] at e h
      obtain ⟨z, e1, e2⟩ := e
      exact ⟨a, z, rfl, .inl ⟨kvs, k, h1, rfl, e1.symm⟩, q _ _ h e2⟩
  · refine .inl ⟨A, dx, dy, P, ob, hx, hy, ?_, q⟩
    cases dx <;> first | exact h | exact absurd ⟨_, _, rfl⟩ hd
theorem ix_O (hK : c.K = X.K) (hR : Rm X) : Ix3 c X := by
  refine IxR.mono ((ix_U (c := c) hK hR).or ix_seq) ?_
  rintro x y H Q ⟨A, st, dx, dy, P, so, hx, hy, h, q⟩
  unfold ixO at h
  split at h
  · rename_i n i
    split at h
    · rename_i xs hxs
      split at h
      · rename_i d hd
        rcases hx with hx | ⟨hx, _⟩
        · cases hx with
          | ref ha =>
            rename_i a
            obtain ⟨a', ha', r⟩ := so.ob n _ hxs
            have ha2 : (c.up A).A[n]? = some a := ha
            rw [ha2] at ha'
            cases ha'
            obtain ⟨vs, h1, h2⟩ := r
            obtain ⟨v, e1, e2⟩ := h2.atI hd
            rw [hy.int]
            exact .inr (.inl ⟨a, vs, _, v, rfl, rfl, SqL.of h1, e1, q _ _ h e2⟩)
        · cases hx
      · exact h.elim
    · exact h.elim
  · exact .inl ⟨A, dx, dy, P, so.obs, hx, hy, h, q⟩
theorem cm_in (hK : c.K = X.K) (hR : Rm X) : Cm2 c X (compareOp .In) (cmR .isIn) := by
  have hun := hR.un
  have h1 : OpR X (compareOp .In) (fun x y H Q => ∃ a o, y = .ref a ∧ DGet H a x o ∧ Q (.bl o.isSome) H) := by
    intro pins s σ H x y v u Q I rx ry h
    obtain ⟨a, o, rfl, g, q⟩ := h
    cases ry
    exact d_in (by omega) I g rx fun s' I' => ⟨.bl o.isSome, H, I', rfl, q⟩
  refine OpR.mono (op_in_str.or ((op_inU hR).or h1)) ?_
  rintro x y H Q ⟨A, dx, dy, P, ob, hx, hy, h, q⟩
  simp only [cmR] at h
  cases dy <;> simp only [inR] at h
  · cases dx <;> simp only at h
    rw [hx.str, hy.str]
    exact .inl ⟨_, _, rfl, rfl, q _ h⟩
  · simp only [Bool.and_eq_true] at h
    obtain ⟨⟨h1, h2⟩, h3⟩ := h
    obtain ⟨p1, z1⟩ := cmpOk_of h1
    obtain ⟨p2, z2⟩ := plns_of _ h2
    have hy' : Dp (c.up A).K H y (D.tup _).pd := hy.dp (by simpa [D.pln] using p2)
    exact .inr (.inl ⟨dx.pd, _, hK ▸ hx.dp p1, .inr (hK ▸ hy'), pd_plain _ p1, pds_plain _ p2, Nat.le_trans (pd_depth _) z1, by rw [any_eqv p1 _ p2]; exact q _ h3⟩)
  · simp only [Bool.and_eq_true] at h
    obtain ⟨⟨h1, h2⟩, h3⟩ := h
    obtain ⟨p1, z1⟩ := cmpOk_of h1
    obtain ⟨p2, z2⟩ := plns_of _ h2
    have hy' : Dp (c.up A).K H y (D.lst _).pd := hy.dp (by simpa [D.pln] using p2)
    exact .inr (.inl ⟨dx.pd, _, hK ▸ hx.dp p1, .inl (hK ▸ hy'), pd_plain _ p1, pds_plain _ p2, Nat.le_trans (pd_depth _) z1, by rw [any_eqv p1 _ p2]; exact q _ h3⟩)
  · obtain ⟨a, kvs, k, rfl, h1, rfl, rfl, rfl, r1⟩ := d_key (d := dx) hy hx h.1
    refine .inr (.inr ⟨a, _, rfl, .inl ⟨kvs, k, h1, rfl, rfl⟩, ?_⟩)
    rw [← mem_kvs]
    exact q _ h.2
theorem cm_notIn (hK : c.K = X.K) (hR : Rm X) : Cm2 c X (compareOp .NotIn) (cmR .notIn) := by
  have hun := hR.un
  have h1 : OpR X (compareOp .NotIn) (fun x y H Q => ∃ a o, y = .ref a ∧ DGet H a x o ∧ Q (.bl (!o.isSome)) H) := by
    intro pins s σ H x y v u Q I rx ry h
    obtain ⟨a, o, rfl, g, q⟩ := h
    cases ry
    exact d_notIn (by omega) I g rx fun s' I' => ⟨.bl (!o.isSome), H, I', rfl, q⟩
  refine OpR.mono (L2.op_notin_str.or ((op_notInU hR).or h1)) ?_
  rintro x y H Q ⟨A, dx, dy, P, ob, hx, hy, h, q⟩
  simp only [cmR] at h
  cases dy <;> simp only [inR] at h
  · cases dx <;> simp only at h
    rw [hx.str, hy.str]
    exact .inl ⟨_, _, rfl, rfl, q _ h⟩
  · simp only [Bool.and_eq_true] at h
    obtain ⟨⟨h1, h2⟩, h3⟩ := h
    obtain ⟨p1, z1⟩ := cmpOk_of h1
    obtain ⟨p2, z2⟩ := plns_of _ h2
    have hy' : Dp (c.up A).K H y (D.tup _).pd := hy.dp (by simpa [D.pln] using p2)
    exact .inr (.inl ⟨dx.pd, _, hK ▸ hx.dp p1, .inr (hK ▸ hy'), pd_plain _ p1, pds_plain _ p2, Nat.le_trans (pd_depth _) z1, by rw [any_eqv p1 _ p2]; exact q _ h3⟩)
  · simp only [Bool.and_eq_true] at h
    obtain ⟨⟨h1, h2⟩, h3⟩ := h
    obtain ⟨p1, z1⟩ := cmpOk_of h1
    obtain ⟨p2, z2⟩ := plns_of _ h2
    have hy' : Dp (c.up A).K H y (D.lst _).pd := hy.dp (by simpa [D.pln] using p2)
    exact .inr (.inl ⟨dx.pd, _, hK ▸ hx.dp p1, .inl (hK ▸ hy'), pd_plain _ p1, pds_plain _ p2, Nat.le_trans (pd_depth _) z1, by rw [any_eqv p1 _ p2]; exact q _ h3⟩)
  · obtain ⟨a, kvs, k, rfl, h1, rfl, rfl, rfl, r1⟩ := d_key (d := dx) hy hx h.1
    refine .inr (.inr ⟨a, _, rfl, .inl ⟨kvs, k, h1, rfl, rfl⟩, ?_⟩)
    rw [← mem_kvs]
    exact q _ h.2
theorem cm_all (hK : c.K = X.K) (hR : Rm X) : ∀ o : Cm, Cm2 c X (compareOp (cmOf o)) (cmR o)
  | .eq => cm_eq hK hR
  | .ne => cm_ne hK hR
  | .lt => cm_lt hK hR
  | .le => cm_le
  | .gt => cm_gt
  | .ge => cm_ge
  | .isIn => cm_in hK hR
  | .notIn => cm_notIn hK hR
/-! ### putting into a dict -/
theorem kIx_lt {ks : List D} {k : D} {i : Nat} (h : kIx ks k = some i) : i < ks.length := by
  unfold kIx at h
  obtain ⟨hi, _⟩ := List.findIdx?_eq_some_iff_getElem.mp h
  exact hi
theorem put_kvs (q : Key) (v : V) : ∀ (kvs : List (Key × V)), (putK kvs q v).map (fun p => kD p.1) = dPutK (kvs.map fun p => kD p.1) (kD q) := by
  intro kvs
  unfold putK dPutK
  rw [kIx_kvs]
  by_cases z : (kvs.any fun kv => decide (kv.1 = q)) = true
  · rw [if_pos z]
    have e : ∃ i, kvs.findIdx? (fun p => decide (p.1 = q)) = some i := by
      cases e : kvs.findIdx? (fun p => decide (p.1 = q)) with
      | some i => exact ⟨i, rfl⟩
      | none =>
        obtain ⟨p, hp, hq⟩ := List.any_eq_true.mp z
        exact absurd hq (by simpa using List.findIdx?_eq_none_iff.mp e p hp)
    obtain ⟨i, e⟩ := e
    rw [e]
    simp only [List.map_map]
    refine List.map_congr_left fun p hp => ?_
    show kD (if p.1 = q then (p.1, v) else p).1 = kD p.1
    split <;> rfl
  · rw [if_neg z]
    have e : kvs.findIdx? (fun p => decide (p.1 = q)) = none := by
      rw [List.findIdx?_eq_none_iff]
      intro p hp
      cases w : decide (p.1 = q) with
      | false => rfl
      | true => exact absurd (List.any_eq_true.mpr ⟨p, hp, w⟩) z
    rw [e]
    simp
theorem put_at (q : Key) (v : V) : ∀ (kvs : List (Key × V)), (kvs.map (·.1)).Nodup → (putK kvs q v).map (·.2) = match kvs.findIdx? (fun p => decide (p.1 = q)) with
    | some i => (kvs.map (·.2)).set i v
    | none => kvs.map (·.2) ++ [v] := by
  intro kvs nd
  unfold putK
  cases e : kvs.findIdx? (fun p => decide (p.1 = q)) with
  | none =>
    have z : ¬ (kvs.any fun kv => decide (kv.1 = q)) = true := by
      intro z
      obtain ⟨p, hp, hq⟩ := List.any_eq_true.mp z
      exact absurd hq (by simpa using List.findIdx?_eq_none_iff.mp e p hp)
    rw [if_neg z]; simp
  | some i =>
    obtain ⟨hi, h1, _⟩ := List.findIdx?_eq_some_iff_getElem.mp e
    have h1' : kvs[i].1 = q := by simpa using h1
    have z : (kvs.any fun kv => decide (kv.1 = q)) = true := List.any_eq_true.mpr ⟨kvs[i], List.getElem_mem hi, h1⟩
    rw [if_pos z, List.map_map]
    refine List.ext_getElem (by simp) fun j h2 h3 => ?_
    simp only [List.length_map] at h2
    simp only [List.getElem_map, Function.comp, List.getElem_set]
    by_cases hj : i = j
    · subst hj
      simp [h1']
    · have : kvs[j].1 ≠ q := fun w => hj ((List.getElem_inj (xs := kvs.map (·.1)) (i := i) (j := j) (h₀ := by simpa using hi) (h₁ := by simpa using h2) nd).mp (by simp [h1', w]))
      simp [hj, this]
theorem nd_keys {kvs : List (Key × V)} (h : (kvs.map fun p => kD p.1).Nodup) : (kvs.map (·.1)).Nodup := by
  have e : kvs.map (fun p => kD p.1) = (kvs.map (·.1)).map kD := by rw [List.map_map]; rfl
  rw [e] at h
  exact List.Pairwise.of_map kD (fun _ _ hne e => hne (congrArg kD e)) h
theorem reps_put {kvs : List (Key × V)} {vs : List D} {q : Key} {v : V} {d : D} (nd : (kvs.map fun p => kD p.1).Nodup) (r : Reps c H (kvs.map (·.2)) vs) (hv : Rep c H v d) :
    Reps c H ((putK kvs q v).map (·.2)) (dPutV (kvs.map fun p => kD p.1) vs (kD q) d) := by
  rw [put_at q v kvs (nd_keys nd)]
  unfold dPutV
  rw [kIx_kvs]
  cases e : kvs.findIdx? (fun p => decide (p.1 = q)) with
  | none => exact r.append (.cons hv .nil)
  | some i => exact r.set hv i
theorem nd_put {ks : List D} (nd : ks.Nodup) (k : D) : (dPutK ks k).Nodup := by
  unfold dPutK
  cases e : kIx ks k with
  | some i => exact nd
  | none =>
    refine nd_snoc nd fun m => ?_
    have := List.findIdx?_eq_none_iff.mp e k m
    simp at this
theorem merge_reps : ∀ (more : List (Key × V)) {ds : List D} {kvs : List (Key × V)} {vs : List D}, Reps c H (more.map (·.2)) ds → (kvs.map fun p => kD p.1).Nodup → Reps c H (kvs.map (·.2)) vs →
    ((mergeK kvs more).map fun p => kD p.1) = (dPuts (kvs.map fun p => kD p.1) vs ((more.map fun p => kD p.1).zip ds)).1 ∧ Reps c H ((mergeK kvs more).map (·.2)) (dPuts (kvs.map fun p => kD p.1) vs ((more.map fun p => kD p.1).zip ds)).2 ∧ ((mergeK kvs more).map fun p => kD p.1).Nodup
  | [], ds, kvs, vs, r, nd, r0 => by cases r; exact ⟨rfl, r0, nd⟩
  | p :: more, ds, kvs, vs, r, nd, r0 => by
    cases r with
    | cons r1 r2 =>
      have nd' : ((putK kvs p.1 p.2).map fun p => kD p.1).Nodup := by rw [put_kvs]; exact nd_put nd _
      have ih := merge_reps more r2 nd' (reps_put (q := p.1) nd r0 r1)
      rw [put_kvs] at ih
      exact ih

/-! ### dict(..) -/
theorem pairs_rep : ∀ {ds : List D} {ps : List (D × D)} {xs : List V}, asPairs ds = some ps → keysOk (ps.map (·.1)) = true → Reps c H xs ds → (∀ {a : Addr} {ys : List V}, SqT c.K H a ys → SqT X.K H a ys) →
    ∃ (as : List Addr) (kvs : List (Key × V)), xs = as.map V.ref ∧ Paired (fun p kv => SqT X.K H p [kV kv.1, kv.2]) as kvs ∧ ps.map (·.1) = kvs.map (fun p => kD p.1) ∧ Reps c H (kvs.map (·.2)) (ps.map (·.2))
  | [], _, _, e, _, r, _ => by
    cases r
    simp only [asPairs, Option.some.injEq] at e
    subst e
    exact ⟨[], [], rfl, .nil, rfl, .nil⟩
  | d :: ds, ps, _, e, hk, r, hT => by
    cases r with
    | cons r1 r2 =>
      simp only [asPairs] at e
      split at e
      · rename_i p ps' e1 e2
        simp only [Option.some.injEq] at e
        subst e
        simp only [keysOk, keyOk, List.map_cons, List.all_cons, Bool.and_eq_true] at hk
        obtain ⟨as, kvs, h1, h2, h3, h4⟩ := pairs_rep e2 (by simpa [keysOk, keyOk] using hk.2) r2 hT
        have hd : d = .tup [p.1, p.2] := by
          unfold asPair at e1
          split at e1
          · simp only [Option.some.injEq] at e1; subst e1; rfl
          · cases e1
        subst hd
        obtain ⟨q, hq⟩ := flat_kD hk.1
        cases r1 with
        | tup h n r =>
          rename_i a o ys
          cases r with
          | cons ra rb =>
            cases rb with
            | cons rb rc =>
              cases rc
              rw [hq] at ra
              have := RepU.key (c := c) (H := H) (.inl ra)
              subst this
              exact ⟨a :: as, (q, _) :: kvs, by rw [h1]; rfl, .cons (hT (.inl (.inr ⟨_, h⟩))) h2, by simp [h3, hq], .cons rb h4⟩
      · cases e
theorem zip_map {α β : Type} : ∀ ps : List (α × β), (ps.map (·.1)).zip (ps.map (·.2)) = ps
  | [] => rfl
  | p :: ps => by simp [zip_map ps]
theorem asPairs_len : ∀ {ds : List D} {ps : List (D × D)}, asPairs ds = some ps → ps.length = ds.length
  | [], _, e => by simp only [asPairs, Option.some.injEq] at e; subst e; rfl
  | d :: ds, ps, e => by
    simp only [asPairs] at e
    split at e
    · rename_i e1 e2
      simp only [Option.some.injEq] at e
      subst e
      simp [asPairs_len e2]
    · cases e
theorem dict_out {P : D → Prop} {Q : VK} {kvs : List (Key × V)} {ps : List (D × D)} (ob : Obs A H) (q : OutP c A H P Q) (h : P (.dct (dPuts [] [] ps).1 (dPuts [] [] ps).2)) (e : ps.map (·.1) = kvs.map (fun p => kD p.1)) (r : Reps (c.up A) H (kvs.map (·.2)) (ps.map (·.2))) :
    ∀ p, H p = none → Q (.ref p) (upd H p (.dK (mergeK [] kvs))) := fun p hp => by
  obtain ⟨m1, m2, m3⟩ := merge_reps (c := c.up A) kvs (kvs := []) (vs := []) r List.nodup_nil .nil
  rw [← e, zip_map] at m1 m2
  refine q.nw ob h hp (.dct upd_same m1.symm ?_ (by have m4 := m3; rw [m1] at m4; exact m4))
  exact Reps.keep (c := c.up A) ob (Stp.new hp) m2
theorem pairs_of2 {σ : L2.St} (I : Inv X pins σ H s) : ∀ {ps : List Addr} {kvs : List (Key × V)}, Paired (fun p kv => SqT X.K H p [kV kv.1, kv.2]) ps kvs →
    ∃ (prs : List (Key × Value)) (vvs : List (Value × Value)), KV kvs prs ∧ prs.length = ps.length ∧ vvs.length = ps.length ∧ ∀ (j : Nat) (k v : Value), vvs[j]? = some (k, v) → ∃ b : Addr, ps[j]? = some b ∧ IsTup s.heap b #[k, v] ∧ ∃ key, prs[j]? = some (key, v) ∧ keyIs key k = true
  | _, _, .nil => ⟨[], [], .nil, rfl, rfl, fun j k v e => by simp at e⟩
  | _, _, .cons (a := p) (b := kv) h t => by
    obtain ⟨prs, vvs, r, hl, hl2, hp⟩ := pairs_of2 I t
    obtain ⟨its, rv, ht, _⟩ := I.tuple h
    obtain ⟨u, y, ei, ru, ry⟩ := vals2 rv
    subst ei
    refine ⟨(kv.1, y) :: prs, (u, y) :: vvs, .cons ⟨rfl, ry⟩ r, by simp [hl], by simp [hl2], fun j k v e => ?_⟩
    cases j with
    | zero =>
      have e' : (u, y) = (k, v) := Option.some.inj e
      cases e'
      exact ⟨p, rfl, ht, kv.1, rfl, kV_is (P := X.prog) (w := X.w) ru⟩
    | succ j =>
      obtain ⟨b, e1, e2, key, e3, e4⟩ := hp j k v (by simpa using e)
      exact ⟨b, by simpa using e1, e2, key, by simpa using e3, e4⟩
theorem c_dict (hK : c.K = X.K) (hc : X.calm = true) : Call1 c X (.type "dict") dictOfR := by
  have hT : CallR X (.type "dict") (fun xs H Q => ∃ (a : Addr) (o : Obj) (ps : List Addr) (kvs : List (Key × V)), xs = [.ref a] ∧ H a = some (.frz o (.tup (ps.map V.ref))) ∧ o.dict = none ∧ Paired (fun p kv => SqT X.K H p [kV kv.1, kv.2]) ps kvs ∧
    ∀ p, H p = none → Q (.ref p) (upd H p (.dK (mergeK [] kvs)))) := by
    intro pins s σ H xs us Q I r q
    obtain ⟨a, o, ps, kvs, rfl, hq, ho, hp, q⟩ := q
    obtain ⟨u, rfl, rx⟩ := vals1 r
    cases rx
    obtain ⟨e1, z, its, rv, o', h1, h2, n, h3⟩ := (show ObjOk X.prog X.w H s.heap a (.frz o (.tup (ps.map V.ref))) from I.hok a _ hq)
    rw [e1] at h1; cases h1
    have ei := refs_at rv
    subst ei
    rw [List.length_map] at z
    obtain ⟨prs, vvs, rel, hl, hl2, hpr⟩ := pairs_of2 I hp
    have PI : PairItems s.heap (ps.map Value.ref).toArray (fun j => ps.getD j 0) vvs := by
      refine ⟨by simp [hl2], fun j k v e => ?_⟩
      obtain ⟨b, e1, e2, _⟩ := hpr j k v e
      have e3 : ps.getD j 0 = b := by simp [List.getD, e1]
      refine ⟨by simp [e1], ?_⟩
      show PairAt s.heap (ps.getD j 0) k v
      rw [e3]; exact .inl e2
    have h2' : o.cls = .type "tuple" := h2
    refine PySem.call_dict_pairs (knd := mixKind X.prog X.w) (kvs := prs) (PairArg.tuple a (ps.map Value.ref).toArray (fun j => ps.getD j 0) vvs) (I.ok.hd hc) ⟨⟨o, n, by assumption, h2', ho, h3⟩, PI⟩ ⟨by omega, fun j k v e => ?_⟩ (by rw [line24]; have := line24; omega) fun h' tk hd' k => ?_
    · obtain ⟨b, _, _, key, e4, e5⟩ := hpr j k v e
      exact ⟨key, e4, e5⟩
    · have hm : (s.heap.objs.size == sysModules) = false := beq_eq_false_iff_ne.mpr (Nat.ne_of_gt I.big)
      have hlen : (mergeK [] kvs).length ≤ sizeLine := by
        refine Nat.le_trans (length_mergeK kvs []) ?_
        have := rel.length
        rw [List.length_nil, Nat.zero_add]; omega
      exact ⟨.ref s.heap.objs.size, upd H s.heap.objs.size (.dK (mergeK [] kvs)), I.laid (t' := tk) (fun b o e => k b o (by simp) e) (Nat.le_refl _) (show ObjOk X.prog X.w _ _ _ (.dK (mergeK [] kvs)) from ⟨hlen, hm, merged [] prs, KV.merge rel .nil, hd'⟩), rfl, q _ (I.hok.fresh (Nat.le_refl _))⟩
  refine CallR.mono (call_dictD.or ((call_dictP hc).or hT)) ?_
  rintro xs H Q ⟨v, A, d, P, rfl, ob, hx, h, q⟩
  cases d <;> simp only [dictOfR] at h
  · unfold dictR at h
    rcases hx with hx | ⟨hx, _⟩
    · cases hx with
      | tup h1 n r1 =>
        rename_i ds a o xs
        cases e : asPairs ds with
        | none => rw [e] at h; exact h.elim
        | some ps =>
          rw [e] at h
          obtain ⟨as, kvs, rfl, h3, h4, h5⟩ := pairs_rep (X := X) e h.1.1 r1 fun z => hK ▸ z
          exact .inr (.inr ⟨a, o, as, kvs, rfl, h1, n, h3, dict_out ob q h.2 h4 h5⟩)
    · cases hx
  · unfold dictR at h
    obtain ⟨a, xs, rfl, h1, r1⟩ := hx.lst
    rename_i ds
    cases e : asPairs ds with
    | none => rw [e] at h; exact h.elim
    | some ps =>
      rw [e] at h
      obtain ⟨as, kvs, rfl, h3, h4, h5⟩ := pairs_rep (X := X) e h.1.1 r1 fun z => hK ▸ z
      exact .inr (.inl ⟨a, as, kvs, rfl, .inl h1, h3, dict_out ob q h.2 h4 h5⟩)
  · obtain ⟨a, kvs, rfl, h1, e, r1, nd⟩ := hx.dct
    exact .inl ⟨a, kvs, rfl, h1, fun p hp => q.nw ob h hp (.dct upd_same e (Reps.keep (c := c.up A) ob (Stp.new hp) r1) nd)⟩
end
end Py
end

section
set_option Elab.async false
set_option linter.all false
set_option maxRecDepth 100000
set_option autoImplicit false
/-! Sim9: what walks. -/
namespace Py
open PySem L2 PyProof.Rows

/-- frozen data stay -/
structure Pres (c : RC) (A A' : List Addr) (H H' : Hp) : Prop where
  rep : ∀ v d, Rep (c.up A) H v d → Rep (c.up A') H' v d
  frz : ∀ a o u, H a = some (.frz o u) → H' a = some (.frz o u)
theorem Pres.reps {c : RC} {A A' : List Addr} {H H' : Hp} (p : Pres c A A' H H') : ∀ {vs : List V} {ds : List D}, Reps (c.up A) H vs ds → Reps (c.up A') H' vs ds
  | _, _, .nil => .nil
  | _, _, .cons a b => .cons (p.rep _ _ a) (p.reps b)
theorem Pres.refl {c : RC} {A : List Addr} {H : Hp} : Pres c A A H H := ⟨fun _ _ h => h, fun _ _ _ h => h⟩
theorem Pres.trans {c : RC} {A A1 A2 : List Addr} {H H1 H2 : Hp} (p : Pres c A A1 H H1) (q : Pres c A1 A2 H1 H2) : Pres c A A2 H H2 := ⟨fun v d h => q.rep v d (p.rep v d h), fun a o u h => q.frz a o u (p.frz a o u h)⟩
theorem Pres.stp {c : RC} {A A' : List Addr} {H H' : Hp} (ob : Obs A H) (k : Stp A A' H H') : Pres c A A' H H' := ⟨fun v d h => Rep.keep (c := c.up A) ob k h, fun a o u h => (k.keep _ _ h (ob.not h fun z => z)).1⟩
theorem Pres.wr {c : RC} {A : List Addr} {H : Hp} {a : Addr} {u o : HO} (h0 : H a = some u) (m : isSto u) : Pres c A A H (upd H a o) := ⟨fun v d h => Rep.wr h0 m h, fun b o' u' h => at_wr h0 m h fun z => z⟩
/-- J walks what stands for xs, as long as frozen data stay, and what stands at S -/
structure Goes (c : RC) (A : List Addr) (H1 : Hp) (J : L2.It) (xs : List D) (S : List Addr) : Prop where
  ob : ∀ a ∈ S, (a ∉ A ∧ a ∉ c.hid) ∧ ∃ u, H1 a = some u ∧ isSto u
  go : ∀ (i : Nat) (d : D) (A' : List Addr) (H' : Hp), xs[i]? = some d → Pres c A A' H1 H' → (∀ a ∈ S, H' a = H1 a) → J.go i H' ∧ ∀ x H'', J.yld i H' x H'' → H'' = H' ∧ Rep (c.up A') H' x d
  stop : ∀ (A' : List Addr) (H' : Hp), Pres c A A' H1 H' → (∀ a ∈ S, H' a = H1 a) → J.stop xs.length H'
section
variable {c : RC} {X : Cx} {A : List Addr} {H : Hp} {tg : Expr}
theorem goes_list {K : PySem.W.Frag} {a : Addr} {ds : List D} (h : Rep (c.up A) H (.ref a) (.lst ds)) : Goes c A H (Itl K a) ds [] where
  ob := fun a m => by cases m
  go := fun i d A' H' hd p _ => by
    cases p.rep _ _ h with
    | lst h1 r =>
      obtain ⟨o, h1⟩ := h1
      have hs : SqL K H' a _ := .inl (.inr ⟨_, h1⟩)
      obtain ⟨v, e1, e2⟩ := r.get hd
      exact ⟨⟨_, v, hs, e1⟩, fun x H'' y => ⟨y.1, by have := y.2 _ hs; rw [e1] at this; cases this; exact e2⟩⟩
  stop := fun A' H' p _ => by
    cases p.rep _ _ h with
    | lst h1 r =>
      obtain ⟨o, h1⟩ := h1
      exact ⟨_, .inl (.inr ⟨_, h1⟩), Nat.le_of_eq r.length⟩
theorem goes_lstO {K : PySem.W.Frag} {a : Addr} {vs : List V} {ds : List D} (h : H a = some (.lst vs)) (r : Reps (c.up A) H vs ds) (n : a ∉ A ∧ a ∉ c.hid) : Goes c A H (Itl K a) ds [a] where
  ob := fun b m => by
    obtain rfl : b = a := by simpa using m
    exact ⟨n, _, h, trivial⟩
  go := fun i d A' H' hd p k => by
    have h1 : SqL K H' a vs := SqL.of ((k a List.mem_cons_self).trans h)
    obtain ⟨v, e1, e2⟩ := (p.reps r).get hd
    exact ⟨⟨_, v, h1, e1⟩, fun x H'' y => ⟨y.1, by have := y.2 _ h1; rw [e1] at this; cases this; exact e2⟩⟩
  stop := fun A' H' p k => ⟨_, SqL.of ((k a List.mem_cons_self).trans h), Nat.le_of_eq r.length⟩
theorem goes_tup {K : PySem.W.Frag} {a : Addr} {ds : List D} (h : Rep (c.up A) H (.ref a) (.tup ds)) : Goes c A H (Itt K a) ds [] where
  ob := fun a m => by cases m
  go := fun i d A' H' hd p _ => by
    cases p.rep _ _ h with
    | tup h1 n r =>
      obtain ⟨v, e1, e2⟩ := r.get hd
      have hs : SqT K H' a _ := .inl (.inr ⟨_, h1⟩)
      exact ⟨⟨_, v, hs, e1⟩, fun x H'' y => ⟨y.1, by have := y.2 _ hs; rw [e1] at this; cases this; exact e2⟩⟩
  stop := fun A' H' p _ => by
    cases p.rep _ _ h with
    | tup h1 n r => exact ⟨_, .inl (.inr ⟨_, h1⟩), Nat.le_of_eq r.length⟩
theorem goes_str {z : Str} : Goes c A H (Its z) (chars z) [] where
  ob := fun a m => by cases m
  go := fun i d A' H' hd p _ => by
    unfold chars at hd
    rw [List.getElem?_map, Array.getElem?_toList] at hd
    cases e : z.cps[i]? with
    | none => rw [e] at hd; cases hd
    | some q =>
      rw [e] at hd
      cases hd
      refine ⟨(Array.getElem?_eq_some_iff.mp e).1, fun x H'' y => ⟨y.1, ?_⟩⟩
      obtain ⟨c', h1, h2⟩ := y.2
      rw [e] at h1; cases h1
      rw [h2]; exact .str _
  stop := fun A' H' p _ => by
    show z.cps.size ≤ (chars z).length
    simp [chars]
theorem ints_get : ∀ (n : Nat) (a : Int) (i : Nat) (d : D), (intL a n)[i]? = some d → i < n ∧ d = .int (a + i)
  | 0, _, _, _, h => by simp [intL] at h
  | n + 1, a, 0, d, h => by
    simp only [intL, List.getElem?_cons_zero, Option.some.injEq] at h
    exact ⟨by omega, by rw [← h]; simp⟩
  | n + 1, a, i + 1, d, h => by
    simp only [intL, List.getElem?_cons_succ] at h
    obtain ⟨h1, h2⟩ := ints_get n (a + 1) i d h
    exact ⟨by omega, by rw [h2]; congr 1; omega⟩
theorem ints_len : ∀ (n : Nat) (a : Int), (intL a n).length = n
  | 0, _ => rfl
  | n + 1, a => by simp [intL, ints_len n]
theorem goes_rng {a : Int} {n : Nat} : Goes c A H (Itr a n) (intL a n) [] where
  ob := fun a m => by cases m
  go := fun i d A' H' hd p _ => by
    obtain ⟨h1, h2⟩ := ints_get n a i d hd
    exact ⟨h1, fun x H'' y => ⟨y.1, by rw [h2, y.2]; exact .int _⟩⟩
  stop := fun A' H' p _ => by
    show n ≤ (intL a n).length
    rw [ints_len]; exact Nat.le_refl _
theorem goes_keys {a : Addr} {o : Obj} {kvs : List (Key × V)} (h1 : H a = some (.frz o (.dK kvs))) : Goes c A H (Itk a o kvs) (kvs.map fun p => kD p.1) [] where
  ob := fun a m => by cases m
  go := fun i d A' H' hd p _ => by
    rw [List.getElem?_map] at hd
    cases e : kvs[i]? with
    | none => rw [e] at hd; cases hd
    | some q =>
      rw [e] at hd
      cases hd
      refine ⟨⟨p.frz _ _ _ h1, (List.getElem?_eq_some_iff.mp e).1⟩, fun x H'' y => ⟨y.1, ?_⟩⟩
      obtain ⟨k, v, e1, e2⟩ := y.2
      rw [e] at e1; cases e1
      rw [e2]; exact rep_key _
  stop := fun A' H' p _ => ⟨p.frz _ _ _ h1, by simp⟩

/-- the walk of a value -/
def PIV (X : Cx) (tg : Expr) (r : V → Hp → (L2.It → Hp → Prop) → Prop) : Prop := ∀ (pins : List (Addr × Obj)) (s : Shared) (σ : L2.St) (H : Hp) (v : V) (u : Value) (R : L2.It → Hp → Prop) (E : Value → Shared → Prop), Inv X pins σ H s → RelV v u → r v H R →
  wpAny (model X.prog X.w) X.A (pyIter u) (PIE X pins σ tg R) E s
theorem pi_val {e : Expr} {t : TE} {r : V → Hp → (L2.It → Hp → Prop) → Prop} (he : PE X e t) (hv : PIV X tg r) : PI X tg e (fun σ H R => t σ H fun v H1 => r v H1 R) :=
  ⟨fun pins s σ H R I h => thn (he.run pins s σ H _ I h) fun u s1 ⟨v, H1, I1, r1, q⟩ => hv pins s1 σ H1 v u R _ I1 r1 q⟩
/-- of what is frozen -/
def rWalk (c : RC) : V → Hp → (L2.It → Hp → Prop) → Prop := fun v H R => ∃ (A : List Addr) (d : D) (W : List D → Prop), Obs A H ∧ Rep (c.up A) H v d ∧ walkR d W ∧ ∀ xs J, W xs → Goes c A H J xs [] → R J H
theorem piv_walk (hK : c.K = X.K) : PIV X tg (rWalk c) := by
  intro pins s σ H v u R E I rv h
  obtain ⟨A, d, W, ob, hx, h, q⟩ := h
  cases d <;> simp only [walkR, itR] at h
  · rename_i z
    have hs := RepU.str (c := c.up A) (.inl hx)
    subst hs
    obtain ⟨t, rfl⟩ := rv
    have q' := q _ _ h (goes_str (c := c) (A := A) (H := H) (z := z))
    cases ha : z.cps.all (· < 128)
    · exact wpAny_pyIter_wide ha (pi_one (tk := s.toks) I _ (turn_str _ z t "str_iterator" (.inr rfl)) ⟨_, Heap.get?_push_size _ rfl, rfl, rfl⟩ q')
    · exact wpAny_pyIter_ascii ha (pi_one (tk := s.toks) I _ (turn_str _ z t "str_ascii_iterator" (.inl rfl)) ⟨_, Heap.get?_push_size _ rfl, rfl, rfl⟩ q')
  · cases hx with
    | tup h1 n r =>
      rename_i a o xs
      cases rv
      have q' := q _ _ h (goes_tup (c := c) (A := A) (H := H) (K := X.K) (.tup h1 n r))
      obtain ⟨its, rv, p, hz⟩ := I.tuple (show SqT X.K H a xs from .inl (.inr ⟨_, h1⟩))
      refine wpAny_pyIter_tuple (show s.heap.IsTuple a its.toArray from p) ?_
      exact pi_one (tk := s.toks) I _ (turn_tuple a _) ⟨_, Heap.get?_push_size _ rfl, rfl, rfl⟩ q'
  · cases hx with
    | lst h1 r =>
      rename_i a xs
      cases rv
      have q' := q _ _ h (goes_list (c := c) (A := A) (H := H) (K := X.K) (.lst h1 r))
      obtain ⟨o, h1⟩ := h1
      obtain ⟨its, rv, p, hz⟩ := I.list (show SqL X.K H a xs from .inl (.inr ⟨_, h1⟩))
      refine wpAny_pyIter_list p.isList ?_
      exact pi_one (tk := s.toks) I _ (turn_list a _) ⟨_, Heap.get?_push_size _ rfl, rfl, rfl⟩ q'
  · cases hx with
    | dct h1 e r n =>
      rename_i a o kvs
      cases rv
      subst e
      have q' := q _ _ h (goes_keys (c := c) (A := A) (H := H) h1)
      obtain ⟨hs, hgd, hx, es, ep, vs, hdt, hsz, kv, hm⟩ := I.frzK h1
      refine iter_keys hs hgd hx hdt (pi_one (tk := s.toks) I _ (turn_keys _ hdt) ⟨_, Heap.get?_push_size _ rfl, rfl, ?_⟩ q')
      rw [hsz] <;> rfl
theorem i_ex {G : Cn} {e : Expr} {ee : E} (F : Fc G X) (he : PE X e (tE G RF ee)) : PI X tg e (fun σ H R => ∃ A l st, G.rel A l st σ H ∧ wpI G.sub G.C (.ex ee) l st (fun xs st' => ∀ J A' H' S, Stp A A' H H' → G.rel A' l st' σ H' → Goes G.b A' H' J xs S → R J H') fun x st' => G.EX x l st') := by
  have h := pi_val he (piv_walk (c := G.b) (tg := tg) F.K)
  refine ⟨fun pins s σ H R I hw => h.run pins s σ H R I ?_⟩
  obtain ⟨A, l, st, r, g⟩ := hw
  simp only [wpI] at g
  refine ⟨A, l, st, r, wpE_mono F.C ee (fun d st1 g1 v A1 H1 k1 r1 hx => ?_) (fun _ _ q => q) g⟩
  exact ⟨A1, d, _, r1.obs, hx, g1, fun xs J hw hg => hw J A1 H1 [] k1 r1 hg⟩
/-- the walk of an own list that may still be changed -/
theorem i_lk {G : Cn} {i : Nat} {nm : Str} {pos : Pos} (F : Fc G X) (hN : X.N[i]? = some nm) (hv : Vis X.env.scope nm) (hd : (nm == ("__debug__" : Str)) = false) (hcd : (nm == ("__classdict__" : Str)) = false) :
    PI X tg (.Name nm pos) (fun σ H R => ∃ A l st, G.rel A l st σ H ∧ wpI G.sub G.C (.lk i) l st (fun xs st' => ∀ J A' H' S, Stp A A' H H' → G.rel A' l st' σ H' → Goes G.b A' H' J xs S → R J H') fun x st' => G.EX x l st') := by
  have h := pi_list (tg := tg) (pe_var (pos := pos) hN hv hd hcd)
  refine ⟨fun pins s σ H R I hw => h.run pins s σ H R I ?_⟩
  obtain ⟨A, l, st, r, g⟩ := hw
  simp only [wpI] at g
  obtain ⟨d, e, q⟩ := getL_some g
  obtain ⟨v, e1, e2⟩ := r.slot i d e
  cases d <;> simp only at q
  refine ⟨v, e1, ?_⟩
  rcases e2.u with h1 | ⟨h1, a, rfl, na⟩
  · cases h1 with
    | lst h1 r1 =>
      rename_i a xs
      exact ⟨a, rfl, ⟨xs, .inl h1.rd⟩, q _ A H [] (Stp.refl _ _) r (goes_list (c := G.b) (.lst h1 r1))⟩
  · cases h1 with
    | lst h1 r1 => exact ⟨a, rfl, ⟨_, SqL.of h1⟩, q _ A H [a] (Stp.refl _ _) r (goes_lstO (c := G.b) h1 r1 na)⟩
theorem small62_of {i : Int} (h : small62 i) : -(2 ^ 62) ≤ i ∧ i < 2 ^ 62 := by
  have e : (2 : Int) ^ 62 = 4611686018427387904 := by decide
  rw [e]; exact h
end
end Py
end

section
set_option Elab.async false
set_option linter.all false
set_option maxRecDepth 100000
set_option autoImplicit false
/-! Sim10: comprehensions of any clauses. -/
namespace Py
open PySem L2 PyProof.Rows
/-- what stands behind a clause's tests: the next clause's loop, or what is done with an item; then K -/
def nextC (e : Expr) (gens : List Comprehension) (k : Nat) (emit : Sem Unit) (acc : Value) (env : Env) (K : Sem Fin) : Sem Fin := match gens[k]? with
  | some g' => do
    let x ← eval g'.iter env
    standAt g'.iter.pos
    let x ← foldedSetIterable g'.iter env x
    let _ ← runOwn (.compStart e k (← holding [x] (pyIter x)) acc env) env
    K
  | none => do
    emit
    K
def turnC (e : Expr) (gens : List Comprehension) (k : Nat) (emit : Sem Unit) (it acc : Value) (env : Env) (t i : Expr) (ifs : List Expr) : Sem Fin := do
  standAt i.pos
  match ← pyNext it with
  | none => pure (.done .next)
  | some v =>
    letOwnedTupleGo t it v
    assign t env v
    let ok ← forIn ifs true fun c r => if r = true then do let ok ← isTrue c env (eval c env); pure (ForInStep.yield ok) else pure (ForInStep.yield r)
    if ok = true then nextC e gens (k + 1) emit acc env (again (.compLoop e k it acc env))
    else again (.compLoop e k it acc env)
theorem turnL {elt : Expr} {gens : List Comprehension} {scope : Scope} {pos : Pos} {k : Nat} {it acc : Value} {env : Env} {t i : Expr} {ifs : List Expr} (h : gens[k]? = some ⟨t, i, ifs, 0⟩) (h0 : ∀ g, gens[k + 1]? = some g → g.is_async = 0) :
    compTurn (.ListComp elt gens scope pos) k it acc env = turnC (.ListComp elt gens scope pos) gens k (do let _ ← call (.builtin "list.append") [acc, ← eval elt env]) it acc env t i ifs := by
  unfold compTurn turnC nextC
  simp only [h]
  cases h' : gens[k + 1]? with
  | none => rfl
  | some g' =>
    obtain ⟨t1, i1, ifs1, a⟩ := g'
    have := h0 _ h'
    simp only at this
    subst this
    rfl
theorem turnS {elt : Expr} {gens : List Comprehension} {scope : Scope} {pos : Pos} {k : Nat} {it acc : Value} {env : Env} {t i : Expr} {ifs : List Expr} (h : gens[k]? = some ⟨t, i, ifs, 0⟩) (h0 : ∀ g, gens[k + 1]? = some g → g.is_async = 0) :
    compTurn (.SetComp elt gens scope pos) k it acc env = turnC (.SetComp elt gens scope pos) gens k (do let v ← eval elt env; standAt elt.pos; let _ ← call (.builtin "set.add") [acc, v]) it acc env t i ifs := by
  unfold compTurn turnC nextC
  simp only [h]
  cases h' : gens[k + 1]? with
  | none => rfl
  | some g' =>
    obtain ⟨t1, i1, ifs1, a⟩ := g'
    have := h0 _ h'
    simp only at this
    subst this
    rfl
theorem turnD {kx vx : Expr} {gens : List Comprehension} {scope : Scope} {pos : Pos} {k : Nat} {it : Value} {d : Addr} {env : Env} {t i : Expr} {ifs : List Expr} (h : gens[k]? = some ⟨t, i, ifs, 0⟩) (h0 : ∀ g, gens[k + 1]? = some g → g.is_async = 0) :
    compTurn (.DictComp kx vx gens scope pos) k it (.ref d) env = turnC (.DictComp kx vx gens scope pos) gens k (do
        let kv ← eval kx env
        let vv ← holding [kv] (eval vx env)
        standAt { kx.pos with endLine := vx.pos.endLine, endCol := vx.pos.endCol }
        holding [kv, vv] (dictSet d kv vv)) it (.ref d) env t i ifs := by
  unfold compTurn turnC nextC
  simp only [h]
  cases h' : gens[k + 1]? with
  | none => rfl
  | some g' =>
    obtain ⟨t1, i1, ifs1, a⟩ := g'
    have := h0 _ h'
    simp only at this
    subst this
    rfl

/-! ### targets -/
mutual
def T.slots : T → List Nat
  | .nm i => [i]
  | .tp ts => ts.slots
def Ts.slots : Ts → List Nat
  | .nil => []
  | .cons t ts => t.slots ++ ts.slots
end
def Ts.len : Ts → Nat
  | .nil => 0
  | .cons _ ts => ts.len + 1
/-- slots outside own as they were -/
def Same (own : List Nat) (σ σ' : L2.St) : Prop := σ'.length = σ.length ∧ ∀ i, i ∉ own → σ'[i]? = σ[i]?
theorem Same.refl {own : List Nat} {σ : L2.St} : Same own σ σ := ⟨rfl, fun _ _ => rfl⟩
theorem Same.trans {own : List Nat} {σ σ1 σ2 : L2.St} (a : Same own σ σ1) (b : Same own σ1 σ2) : Same own σ σ2 := ⟨b.1.trans a.1, fun i h => (b.2 i h).trans (a.2 i h)⟩
theorem Same.sub {own own' : List Nat} {σ σ' : L2.St} (a : Same own σ σ') (h : ∀ i ∈ own, i ∈ own') : Same own' σ σ' := ⟨a.1, fun i n => a.2 i fun m => n (h i m)⟩
/-- what the names do not know of the slots at own -/
def Free (own : List Nat) (l : Loc) : Prop := ∀ i ∈ own, ∀ d, l[i]? ≠ some (some d)
theorem Cn.rel.same {G : Cn} {A : List Addr} {l : Loc} {st : Sto} {σ σ' : L2.St} {H : Hp} {own : List Nat} (r : G.rel A l st σ H) (s : Same own σ σ') (f : Free own l) : G.rel A l st σ' H := by
  have at' : ∀ i d, l[i]? = some (some d) → σ'[i]? = σ[i]? := fun i d e => s.2 i fun m => f i m d e
  refine ⟨r.len.trans s.1.symm, fun i d e => ?_, fun i j a d e n1 m1 m2 e1 e2 e3 e4 => ?_, r.old, r.sto⟩
  · obtain ⟨v, h1, h2⟩ := r.slot i d e
    exact ⟨v, by rw [at' i d e]; exact h1, h2⟩
  · exact r.own i j a d e n1 m1 m2 e1 e2 (by rw [← at' i d e1]; exact e3) (by rw [← at' j e e2]; exact e4)
theorem Cn.rel.setF {G : Cn} {A : List Addr} {l : Loc} {st : Sto} {σ : L2.St} {H : Hp} {i : Nat} {v : V} {d : D} (r : G.rel A l st σ H) (hm : md G.Γ i = .F) (hi : i < l.length) (h : Rep (G.b.up A) H v d) : G.rel A (l.set i (some d)) st (σ.set i (some v)) H := by
  refine ⟨by simp [r.len], fun j e he => ?_, fun j k a e e' n1 m1 m2 e1 e2 e3 e4 => ?_, r.old, r.sto⟩
  · by_cases hj : i = j
    · subst hj
      rw [List.getElem?_set_self hi] at he
      cases he
      exact ⟨v, List.getElem?_set_self (by rw [← r.len]; exact hi), by rw [hm]; exact h⟩
    · rw [List.getElem?_set_ne hj] at he
      obtain ⟨w, h1, h2⟩ := r.slot j e he
      exact ⟨w, by rw [List.getElem?_set_ne hj]; exact h1, h2⟩
  · have ne : ∀ j, md G.Γ j = .O → i ≠ j := fun j hO z => by subst z; rw [hm] at hO; cases hO
    rw [List.getElem?_set_ne (ne j m1)] at e1 e3
    rw [List.getElem?_set_ne (ne k m2)] at e2 e4
    exact r.own j k a e e' n1 m1 m2 e1 e2 e3 e4
/-- how a target takes what stands for d -/
def tG (G : Cn) (t : T) : TG := fun v σ H Q => ∃ A l st d W, G.rel A l st σ H ∧ Rep (G.b.up A) H v d ∧ asT t d l W ∧ ∀ l' σ', W l' → G.rel A l' st σ' H → Same t.slots σ σ' → (∀ i, i ∉ t.slots → l'[i]? = l[i]?) → Q σ' H
def tGs (G : Cn) (ts : Ts) : TGs := fun vs σ H Q => ∃ A l st ds W, G.rel A l st σ H ∧ Reps (G.b.up A) H vs ds ∧ asTs ts ds l W ∧ ∀ l' σ', W l' → G.rel A l' st σ' H → Same ts.slots σ σ' → (∀ i, i ∉ ts.slots → l'[i]? = l[i]?) → Q σ' H
section
variable {G : Cn} {X : Cx} {pos : Pos} {nm : Str} {i : Nat}
theorem PG.mono {tg : Expr} {t t' : TG} (h : PG X tg t) (m : ∀ v σ H Q, t' v σ H Q → t v σ H Q) : PG X tg t' := ⟨fun pins s σ H v u Q I r hw => h.run pins s σ H v u Q I r (m _ _ _ _ hw)⟩
theorem PGs.mono {tg : List Expr} {t t' : TGs} (h : PGs X tg t) (m : ∀ v σ H Q, t' v σ H Q → t v σ H Q) : PGs X tg t' := ⟨fun pins s σ H v u Q I r hw => h.run pins s σ H v u Q I r (m _ _ _ _ hw)⟩
theorem g_nm (hN : X.N.Nodup) (hi : X.N[i]? = some nm) (hx : L2.Loc X.env.scope nm) (hf : X.fn nm = true ∨ X.env.scope.names.lookup nm = some .local) (hm : md G.Γ i = .F) : PG X (.Name nm pos) (tG G (.nm i)) := by
  refine PG.mono (pg_name hN hi hx hf) ?_
  rintro v σ H Q ⟨A, l, st, d, W, r, hr, ha, q⟩
  simp only [asT] at ha
  refine q _ _ ha.2 (r.setF hm ha.1 hr) ⟨by simp, fun j n => ?_⟩ fun j n => ?_
  · rw [List.getElem?_set_ne]
    simp only [T.slots, List.mem_singleton] at n
    exact fun z => n z.symm
  · rw [List.getElem?_set_ne]
    simp only [T.slots, List.mem_singleton] at n
    exact fun z => n z.symm
theorem g_nil : PGs X [] (tGs G .nil) := by
  refine PGs.mono pgs_nil ?_
  rintro v σ H Q ⟨A, l, st, ds, W, r, hr, ha, q⟩
  cases hr with
  | nil =>
    simp only [asTs] at ha
    exact ⟨rfl, q l σ ha r .refl fun _ _ => rfl⟩
  | cons _ _ => simp only [asTs] at ha
mutual
theorem asT_ex : ∀ (t : T) {d : D} {l : Loc} {Q : Loc → Prop}, asT t d l Q → ∃ l', Q l'
  | .nm i, _, _, _, g => ⟨_, g.2⟩
  | .tp ts, .tup ds, _, _, g => (asTs_ex ts g).2
  | .tp _, .none, _, _, g => g.elim
  | .tp _, .bool _, _, _, g => g.elim
  | .tp _, .int _, _, _, g => g.elim
  | .tp _, .str _, _, _, g => g.elim
  | .tp _, .lst _, _, _, g => g.elim
  | .tp _, .set _, _, _, g => g.elim
  | .tp _, .dct _ _, _, _, g => g.elim
  | .tp _, .rng _ _, _, _, g => g.elim
  | .tp _, .exc _ _, _, _, g => g.elim
  | .tp _, .fn _, _, _, g => g.elim
  | .tp _, .ref _, _, _, g => g.elim
  | .tp _, .script, _, _, g => g.elim
theorem asTs_ex : ∀ (ts : Ts) {ds : List D} {l : Loc} {Q : Loc → Prop}, asTs ts ds l Q → ds.length = Ts.len ts ∧ ∃ l', Q l'
  | .nil, [], _, _, g => ⟨rfl, _, g⟩
  | .nil, _ :: _, _, _, g => g.elim
  | .cons _ _, [], _, _, g => g.elim
  | .cons t ts, d :: ds, _, _, g => by
    obtain ⟨l1, g1⟩ := asT_ex t g
    obtain ⟨h1, h2⟩ := asTs_ex ts g1
    exact ⟨by simp [Ts.len, h1], h2⟩
end
theorem g_cons {e : Expr} {es : List Expr} {t : T} {ts : Ts} (h1 : PG X e (tG G t)) (h2 : PGs X es (tGs G ts)) (hs : (assignEach (e :: es) X.env).map (·.2) = assign e X.env :: (assignEach es X.env).map (·.2)) : PGs X (e :: es) (tGs G (.cons t ts)) := by
  refine PGs.mono (pgs_cons h1 h2 hs) ?_
  rintro v σ H Q ⟨A, l, st, ds, W, r, hr, ha, q⟩
  cases hr with
  | nil => simp only [asTs] at ha
  | cons hr hrs =>
    simp only [asTs] at ha
    refine ⟨_, _, rfl, A, l, st, _, _, r, hr, ha, fun l1 σ1 w1 r1 s1 o1 => ⟨A, l1, st, _, W, r1, hrs, w1, fun l2 σ2 w2 r2 s2 o2 => q l2 σ2 w2 r2 ?_ fun i n => ?_⟩⟩
    · exact (s1.sub (fun i m => by simp [Ts.slots, m])).trans (s2.sub fun i m => by simp [Ts.slots, m])
    · simp only [Ts.slots, List.mem_append, not_or] at n
      rw [o2 i n.2, o1 i n.1]
theorem g_tp {es : List Expr} {k : Nat} {ts : Ts} (F : Fc G X) (hc : X.calm = true) (h : PGs X es (tGs G ts)) (hn : (assignEach es X.env).length = ts.len) (hst : (assignEach es X.env).findIdx? (·.1) = none) : PG X (.Tuple es k pos) (tG G (.tp ts)) := by
  refine PG.mono (pg_tup hc h hn hst) ?_
  rintro v σ H Q ⟨A, l, st, d, W, r, hr, ha, q⟩
  cases hr <;> simp only [asT] at ha
  rename_i h1 n h2
  exact ⟨_, _, rfl, F.K ▸ (.inl (.inr ⟨_, h1⟩)), by rw [h2.length]; exact (asTs_ex ts ha).1, A, l, st, _, W, r, h2, ha, q⟩
end

/-! ### tests -/
def tF (G : Cn) (es : Es) : TT := fun σ H QQ => ∃ A l st, G.rel A l st σ H ∧
  wpF G.sub G.C es l st fun b st' => ∀ A' H', Stp A A' H H' → G.rel A' l st' σ H' → QQ b H'
section
variable {G : Cn} {X : Cx}
theorem PTs.mono {e : List Expr} {t t' : TT} (h : PTs X e t) (m : ∀ σ H Q, t' σ H Q → t σ H Q) : PTs X e t' := ⟨fun pins s σ H Q I hw => h.run pins s σ H Q I (m σ H Q hw)⟩
theorem f_nil : PTs X [] (tF G .nil) := PTs.mono pts_nil fun σ H Q ⟨A, l, st, r, g⟩ => g A H (Stp.refl _ _) r
theorem f_one {c : Expr} {e : E} (F : Fc G X) (hx : G.EX = fun _ _ _ => False) (h : PT X c (tT G e)) : PTs X [c] (tF G (.cons e .nil)) := by
  refine PTs.mono (pts_one h) ?_
  rintro σ H Q ⟨A, l, st, r, g⟩
  simp only [wpF] at g
  refine ⟨A, l, st, r, wpE_mono F.C e (fun d st1 g1 => ?_) (fun _ _ q => q.elim) g⟩
  obtain ⟨b, e, q⟩ := truR_some g1
  unfold truR
  rw [e]
  cases b <;> exact q
end

/-! ### the clauses -/
/-- how the heap goes on while a comprehension makes the thing at D -/
structure EvD (c : RC) (Z : Addr) (A A' : List Addr) (H H' : Hp) : Prop where
  pre : A <+: A'
  pres : Pres c A A' H H'
  keep : ∀ a u, H a = some u → a ∉ A → a ≠ Z → H' a = some u ∧ a ∉ A'
theorem EvD.refl {c : RC} {Z : Addr} {A : List Addr} {H : Hp} : EvD c Z A A H H := ⟨List.prefix_refl _, Pres.refl, fun _ _ h n _ => ⟨h, n⟩⟩
theorem EvD.trans {c : RC} {Z : Addr} {A A1 A2 : List Addr} {H H1 H2 : Hp} (a : EvD c Z A A1 H H1) (b : EvD c Z A1 A2 H1 H2) : EvD c Z A A2 H H2 :=
  ⟨a.pre.trans b.pre, a.pres.trans b.pres, fun x u h n ne => b.keep x u (a.keep x u h n ne).1 (a.keep x u h n ne).2 ne⟩
theorem EvD.stp {c : RC} {Z : Addr} {A A' : List Addr} {H H' : Hp} (ob : Obs A H) (k : Stp A A' H H') : EvD c Z A A' H H' := ⟨k.pre, Pres.stp ob k, fun a u h n _ => k.keep a u h n⟩
theorem EvD.wr {c : RC} {Z : Addr} {A : List Addr} {H : Hp} {u o : HO} (h0 : H Z = some u) (m : isSto u) : EvD c Z A A H (upd H Z o) := ⟨List.prefix_refl _, Pres.wr h0 m, fun a w h n ne => ⟨by rw [upd_ne ne]; exact h, n⟩⟩
/-- the state while the thing at D is made -/
structure CSt (G : Cn) (Z : Addr) (mk : Acc → D) (A : List Addr) (a : Acc) (l : Loc) (st : Sto) (σ : L2.St) (H : Hp) : Prop where
  rel : G.rel A l st σ H
  acc : RepO (G.b.up A) H (.ref Z) (mk a)
  nA : Z ∉ A
  nw : G.H0 Z = none
theorem CSt.step {G : Cn} {Z : Addr} {mk : Acc → D} {A A' : List Addr} {a : Acc} {l : Loc} {st st' : Sto} {σ : L2.St} {H H' : Hp} (c : CSt G Z mk A a l st σ H) (k : Stp A A' H H') (r : G.rel A' l st' σ H') : CSt G Z mk A' a l st' σ H' := by
  obtain ⟨x, u, e, hu, _, _⟩ := c.acc.ref
  cases e
  exact ⟨r, RepO.keep (c := G.b.up A) c.rel.obs k c.nA c.acc, (k.keep _ _ hu c.nA).2, c.nw⟩
/-- what code does with an item, with what is made so far: W says it -/
def BodyOk (X : Cx) (G : Cn) (Z : Addr) (mk : Acc → D) (own : List Nat) (code : Sem Fin → Sem Fin) (W : Acc → Loc → Sto → (Acc → Sto → Prop) → Prop) : Prop :=
  ∀ (pins : List (Addr × Obj)) (s : Shared) (σ : L2.St) (H : Hp) (A : List Addr) (a : Acc) (l : Loc) (st : Sto) (Q : Acc → Sto → Prop) (K : Sem Fin) (QK : Fin → Shared → Prop) (EE : Value → Shared → Prop), Inv X pins σ H s → CSt G Z mk A a l st σ H → Free own l → W a l st Q →
    (∀ s' σ' H' A' a' st', Inv X pins σ' H' s' → Same own σ σ' → CSt G Z mk A' a' l st' σ' H' → EvD G.b Z A A' H H' → Q a' st' → wpAny (model X.prog X.w) X.A K QK EE s') →
    wpAny (model X.prog X.w) X.A (code K) QK EE s
/-- what is to be seen of a comprehension's form -/
structure CKind (e : Expr) (k : Nat) (env : Env) : Prop where
  quiet : ∀ it acc, (Code.compLoop e k it acc env).quiet = true
  under : ∀ (A : Around) it acc, A.under (.compLoop e k it acc env) = A
  den : ∀ (prog : Program) (w : World) it acc, (model prog w).den (.compLoop e k it acc env) = (compTurn e k it acc env).onRaise (fun x => do noteFrame x env; theTreesLotGoes x)
/-- one clause's turns -/
def clF (G : Cn) (t : T) (ifs : Es) (W : Acc → Loc → Sto → (Acc → Sto → Prop) → Prop) (l : Loc) (x : D) (a : Acc) (st : Sto) (K : Acc → Sto → Prop) : Prop :=
  asT t x l fun l => wpF G.sub G.C ifs l st fun b st => if b then W a l st K else K a st
section
variable {G : Cn} {X : Cx} {Z : Addr} {mk : Acc → D}
theorem Free.set {own : List Nat} {l l' : Loc} (f : Free own l) {sl : List Nat} (o : ∀ i, i ∉ sl → l'[i]? = l[i]?) (d : ∀ i ∈ own, i ∉ sl) : Free own l' := fun i m x => by rw [o i (d i m)]; exact f i m x
theorem loop_ok {e tg iter : Expr} {ifs : List Expr} {gens : List Comprehension} {k : Nat} {emit : Sem Unit} {env : Env} {t : T} {es : Es} {own : List Nat} {W : Acc → Loc → Sto → (Acc → Sto → Prop) → Prop} {R : Result → Shared → Prop}
    (F : Fc G X) (hc : X.calm = true) (hxe : X.xe = fun _ _ => False) (henv : X.env = env) (hid : Z ∈ G.b.hid)
    (hturn : ∀ it, compTurn e k it (.ref Z) env = turnC e gens k emit it (.ref Z) env tg iter ifs) (kd : CKind e k env)
    (hg : PG X tg (tG G t)) (hf : PTs X ifs (tF G es)) (hb : BodyOk X G Z mk own (nextC e gens (k + 1) emit (.ref Z) env) W) (hW : ∀ a l st Q Q', (∀ a st, Q a st → Q' a st) → W a l st Q → W a l st Q') (dis : ∀ i ∈ own, i ∉ t.slots)
    {pins : List (Addr × Obj)} {s : Shared} {σ : L2.St} {H : Hp} {A : List Addr} {a : Acc} {l : Loc} {st : Sto} {Q : Acc → Sto → Prop} {J : L2.It} {fp : List Addr} {it : Addr} {tn : Nat → Heap → Prop} {xs : List D} {S : List Addr}
    (I : Inv X pins σ H s) (c : CSt G Z mk A a l st σ H) (fr : Free (t.slots ++ own) l) (T : Turn X.prog X.w X.K tg J fp it tn) (t0 : tn 0 s.heap) (f0 : ∀ b ∈ fp, FpOk X pins H b) (go : Goes G.b A H J xs S)
    (w : forL xs (clF G t es W l) a st Q)
    (hR : ∀ s' σ' H' A' a' st', Inv X pins σ' H' s' → Same (t.slots ++ own) σ σ' → CSt G Z mk A' a' l st' σ' H' → EvD G.b Z A A' H H' → Q a' st' → R (.ok .next) s') :
    codeAny (model X.prog X.w) X.A (.compLoop e k (.ref it) (.ref Z) env) R s := by
  have nS : ∀ b ∈ S, b ≠ Z := fun b hb z => (go.ob b hb).1.2 (by rw [z]; exact hid)
  have stat : ∀ {H' : Hp}, (∀ b ∈ fp, H' b = none) → ∀ b ∈ fp, FpOk X pins H' b := fun hn b hb => ⟨hn b hb, (f0 b hb).2⟩
  refine codeAny_loop (kd.quiet _ _) (fun n s' => ∃ i σ' H' A' a' st', n = xs.length - i ∧ Inv X pins σ' H' s' ∧ tn i s'.heap ∧ (∀ b ∈ fp, H' b = none) ∧ Same (t.slots ++ own) σ σ' ∧ CSt G Z mk A' a' l st' σ' H' ∧ EvD G.b Z A A' H H' ∧ i ≤ xs.length ∧ forL (xs.drop i) (clF G t es W l) a' st' Q)
    ?_ xs.length ⟨0, σ, H, A, a, st, by simp, I, t0, fun b hb => (f0 b hb).1, .refl, c, .refl, Nat.zero_le _, w⟩
  rintro n s5 ⟨i, σ5, H5, A5, a5, st5, rfl, I5, tn5, n5, sm5, c5, ev5, hi, w5⟩
  have hok : wpAny (model X.prog X.w) X.A (compTurn e k (.ref it) (.ref Z) env) (fun fin s' => match fin with
      | .done f => R (.ok f) s'
      | .again c' => c' = .compLoop e k (.ref it) (.ref Z) env ∧ ∃ m, m < xs.length - i ∧ ∃ i σ' H' A' a' st', m = xs.length - i ∧ Inv X pins σ' H' s' ∧ tn i s'.heap ∧ (∀ b ∈ fp, H' b = none) ∧ Same (t.slots ++ own) σ σ' ∧ CSt G Z mk A' a' l st' σ' H' ∧ EvD G.b Z A A' H H' ∧ i ≤ xs.length ∧ forL (xs.drop i) (clF G t es W l) a' st' Q) (fun _ _ => False) s5 := by
    rw [hturn]
    unfold turnC
    refine wpAny_bind (wpAny_standAt (wpAny_bind ?_))
    have kS : ∀ b ∈ S, H5 b = H b := fun b hb => by
      obtain ⟨⟨n1, n2⟩, u, hu, _⟩ := go.ob b hb
      rw [(ev5.keep b u hu n1 (nS b hb)).1, hu]
    by_cases hlt : i < xs.length
    · have hx : xs[i]? = some xs[i] := List.getElem?_eq_getElem hlt
      obtain ⟨g1, g2⟩ := go.go i _ A5 H5 hx ev5.pres kS
      refine thnF (T.item X rfl rfl rfl hc i pins s5 σ5 H5 (fun _ _ => False) I5 (stat n5) tn5 g1) fun r s6 ⟨u, hr, h6⟩ => ?_
      subst hr
      refine wpAny_bind (thnF h6 fun _ s7 ⟨x, H7, I7, r7, y7, tn7, n7⟩ => ?_)
      obtain ⟨e7, rx⟩ := g2 x H7 y7
      subst e7
      have I7' := I7.pinned (stat n7) (T.obj _ _ tn7)
      rw [List.drop_eq_getElem_cons hlt] at w5
      simp only [forL, clF] at w5
      have hga := hg.run _ s7 σ5 H7 x u (fun σ' H' => H' = H7 ∧ Same t.slots σ5 σ' ∧ ∃ l', G.rel A5 l' st5 σ' H7 ∧ (∀ i, i ∉ t.slots → l'[i]? = l[i]?) ∧ wpF G.sub G.C es l' st5 fun b st => if b then W a5 l' st fun a st => forL (xs.drop (i + 1)) (clF G t es W l) a st Q else forL (xs.drop (i + 1)) (clF G t es W l) a5 st Q) I7' r7
        ⟨A5, l, st5, xs[i], _, c5.rel, rx, w5, fun l' σ' w' r' sm' o' => ⟨rfl, sm', l', r', o', w'⟩⟩
      rw [henv, hxe] at hga
      refine wpAny_bind (thnF hga fun _ s8 ⟨σ8, H8, I8, e8, sm8, l8, r8, o8, w8⟩ => ?_)
      subst e8
      have hfa := hf.run _ s8 σ8 H8 (fun b H' => ∃ A' st', Stp A5 A' H8 H' ∧ G.rel A' l8 st' σ8 H' ∧ if b then W a5 l8 st' fun a st => forL (xs.drop (i + 1)) (clF G t es W l) a st Q else forL (xs.drop (i + 1)) (clF G t es W l) a5 st' Q) I8
        ⟨A5, l8, st5, r8, wpF_mono F.C es (fun b st q A' H' k' r' => ⟨A', st, k', r', q⟩) w8⟩
      rw [henv, hxe] at hfa
      refine wpAny_bind (thnF hfa fun b s9 ⟨H9, I9, A9, st9, k9, r9, w9⟩ => ?_)
      have c8 : CSt G Z mk A5 a5 l8 st5 σ8 H8 := ⟨r8, c5.acc, c5.nA, c5.nw⟩
      have c9 : CSt G Z mk A9 a5 l8 st9 σ8 H9 := c8.step k9 r9
      have ev9 : EvD G.b Z A A9 H H9 := ev5.trans (EvD.stp c5.rel.obs k9)
      -- the turn's end
      have fin : ∀ {s' σ' H' A' a' st'}, Inv X (pins ++ pinsAt fp s7.heap) σ' H' s' → Same own σ8 σ' → CSt G Z mk A' a' l8 st' σ' H' → EvD G.b Z A9 A' H9 H' → forL (xs.drop (i + 1)) (clF G t es W l) a' st' Q →
          ∃ m, m < xs.length - i ∧ ∃ i σ' H' A' a' st', m = xs.length - i ∧ Inv X pins σ' H' s' ∧ tn i s'.heap ∧ (∀ b ∈ fp, H' b = none) ∧ Same (t.slots ++ own) σ σ' ∧ CSt G Z mk A' a' l st' σ' H' ∧ EvD G.b Z A A' H H' ∧ i ≤ xs.length ∧ forL (xs.drop i) (clF G t es W l) a' st' Q := by
        intro s' σ' H' A' a' st' I' sm' c' ev' w'
        have pin' : ∀ b ∈ fp, ∀ o, s7.heap.get? b = some o → s'.heap.get? b = some o ∧ H' b = none := fun b hb o e =>
          let z := I'.pin (b, o) (List.mem_append_right _ (List.mem_append_right _ (mem_pinsAt hb e)))
          ⟨z.1, z.2.1⟩
        have sm2 : Same (t.slots ++ own) σ5 σ' := (sm8.sub fun i m => List.mem_append_left _ m).trans (sm'.sub fun i m => List.mem_append_right _ m)
        refine ⟨xs.length - (i + 1), by omega, i + 1, σ', H', A', a', st', rfl, I'.unpinned, T.keep _ _ _ tn7 fun b hb o e => (pin' b hb o e).1, fun b hb => ?_, sm5.trans sm2, ⟨?_, c'.acc, c'.nA, c'.nw⟩, ev9.trans ev', hlt, w'⟩
        · obtain ⟨o, e, _⟩ := T.obj _ _ tn7 b hb
          exact (pin' b hb o e).2
        · refine ⟨by rw [c5.rel.len, ← sm2.1], fun j d e => ?_, fun j j' x d d' n1 m1 m2 e1 e2 e3 e4 => ?_, c'.rel.old, c'.rel.sto⟩
          · exact c'.rel.slot j d (by rw [o8 j fun m => fr j (List.mem_append_left _ m) d e]; exact e)
          · exact c'.rel.own j j' x d d' n1 m1 m2 (by rw [o8 j fun m => fr j (List.mem_append_left _ m) d e1]; exact e1) (by rw [o8 j' fun m => fr j' (List.mem_append_left _ m) d' e2]; exact e2) e3 e4
      cases b with
      | false =>
        exact wpAny_pure ⟨rfl, fin I9 .refl c9 .refl w9⟩
      | true =>
        refine hb _ s9 σ8 H9 A9 a5 l8 st9 _ _ _ _ I9 c9 ?_ w9 fun s' σ' H' A' a' st' I' sm' c' ev' w' => wpAny_pure ⟨rfl, fin I' sm' c' ev' w'⟩
        exact Free.set (fun i m d => fr i (List.mem_append_right _ m) d) o8 dis
    · have e : i = xs.length := by omega
      subst e
      refine thnF (T.done X rfl rfl rfl hc xs.length pins s5 σ5 H5 (fun _ _ => False) I5 (stat n5) tn5 (go.stop A5 H5 ev5.pres kS)) fun r s6 ⟨hr, I6⟩ => ?_
      subst hr
      rw [List.drop_length] at w5
      exact wpAny_pure (hR s6 σ5 H5 A5 a5 st5 I6 sm5 c5 ev5 w5)
  rw [kd.under]
  show wpAny _ _ ((model X.prog X.w).den _) _ _ s5
  rw [kd.den]
  exact wpAny_noted (wpAny_mono hok (fun _ _ q => q) fun _ _ z => z.elim)

/-! ### a clause's start -/
structure SKind (e : Expr) (gens : List Comprehension) (k : Nat) (env : Env) : Prop where
  quiet : ∀ it acc, (Code.compLoop e k it acc env).quiet = true
  under : ∀ (A : Around) it acc, A.under (.compStart e k it acc env) = A
  den : ∀ (prog : Program) (w : World) it acc, (model prog w).den (.compStart e k it acc env) = (compStart e k it acc env).onRaise (fun x => do noteFrame x env; standAt theWindowsPlace)
  cl : clausesOf e = gens
theorem start_ok {e tg iter : Expr} {ifs : List Expr} {gens : List Comprehension} {k : Nat} {env : Env} {it acc : Value} {R : Result → Shared → Prop} {s : Shared} {A : Around} {prog : Program} {w : World} (sk : SKind e gens k env) (hk : gens[k]? = some ⟨tg, iter, ifs, 0⟩)
    (h0 : codeAny (model prog w) A (.compLoop e k it acc env) R s)
    (h : wpAny (model prog w) A (pyIter it) (fun it' s' => codeAny (model prog w) A (.compLoop e k it' acc env) R s') (fun _ _ => False) s) :
    codeAny (model prog w) A (.compStart e k it acc env) R s := by
  refine codeAny_of_tree ?_
  rw [sk.under, sk.den]
  refine wpAny_notedAt (wpAny_mono (Q := fun fin s' => match fin with | .done f => R (.ok f) s' | .again c' => c'.quiet = true ∧ codeAny (model prog w) A c' R s') (E := fun _ _ => False) ?_ (fun _ _ q => q) fun _ _ z => z.elim)
  unfold compStart
  simp only [sk.cl, hk, Option.elim]
  show wpAny _ _ (ask >>= _) _ _ s
  refine wpAny_bind (wpAny_askSetting (wpAny_ite ?_))
  split
  · first
      | exact wpAny_bind (wpAny_pure (wpAny_pure (And.intro (sk.quiet _ _) h0)))
      | exact wpAny_pure (And.intro (sk.quiet _ _) h0)
  · refine wpAny_bind (wpAny_rule ?_)
    first
      | exact wpAny_bind (wpAny_standAt (wpAny_bind (wpAny_mono h (fun it' s' h' => wpAny_pure (And.intro (sk.quiet _ _) h')) fun _ _ x => x)))
      | (show wpAny _ _ (standAt iter.pos >>= _) _ _ s; exact wpAny_bind (wpAny_standAt (wpAny_bind (wpAny_mono h (fun it' s' h' => wpAny_pure (And.intro (sk.quiet _ _) h')) fun _ _ x => x))))
/-- what a walked thing gives -/
def tI (G : Cn) (it : It) : TI := fun σ H R => ∃ A l st, G.rel A l st σ H ∧ wpI G.sub G.C it l st (fun xs st' => ∀ J A' H' S, Stp A A' H H' → G.rel A' l st' σ H' → Goes G.b A' H' J xs S → R J H') fun x st' => G.EX x l st'
/-- the next clause -/
theorem body_next {e tg iter : Expr} {ifs : List Expr} {gens : List Comprehension} {k : Nat} {emit : Sem Unit} {env : Env} {t : T} {es : Es} {itx : It} {own : List Nat} {W : Acc → Loc → Sto → (Acc → Sto → Prop) → Prop}
    (F : Fc G X) (hc : X.calm = true) (hxe : X.xe = fun _ _ => False) (hx : G.EX = fun _ _ _ => False) (henv : X.env = env) (hid : Z ∈ G.b.hid) (hk : gens[k]? = some ⟨tg, iter, ifs, 0⟩)
    (hturn : ∀ it, compTurn e k it (.ref Z) env = turnC e gens k emit it (.ref Z) env tg iter ifs) (kd : CKind e k env) (sk : SKind e gens k env)
    (hg : PG X tg (tG G t)) (hf : PTs X ifs (tF G es)) (hi : PI X tg iter (tI G itx)) (hfold : ∀ x, foldedSetIterable iter env x = pure x) (hb : BodyOk X G Z mk own (nextC e gens (k + 1) emit (.ref Z) env) W)
    (hW : ∀ a l st Q Q', (∀ a st, Q a st → Q' a st) → W a l st Q → W a l st Q') (dis : ∀ i ∈ own, i ∉ t.slots) :
    BodyOk X G Z mk (t.slots ++ own) (nextC e gens k emit (.ref Z) env) (fun a l st Q => wpI G.sub G.C itx l st (fun xs st => forL xs (clF G t es W l) a st Q) noE) := by
  intro pins s σ H A a l st Q K QK EE I c fr w hK
  unfold nextC
  rw [hk]
  have hpi := hi.run pins s σ H (fun J H' => ∃ A' st' xs S, Stp A A' H H' ∧ G.rel A' l st' σ H' ∧ Goes G.b A' H' J xs S ∧ forL xs (clF G t es W l) a st' Q) I
    ⟨A, l, st, c.rel, wpI_mono F.C itx (fun xs st' w' J A' H' S k' r' g' => ⟨A', st', xs, S, k', r', g', w'⟩) (fun _ _ z => z.elim) w⟩
  rw [henv, hxe] at hpi
  show wpAny _ _ (eval iter env >>= _) _ _ _
  refine wpAny_bind (thnF hpi fun v s1 h1 => ?_)
  refine wpAny_bind (wpAny_standAt (wpAny_bind (wpAny_of_eq (hfold v) ?_)))
  refine wpAny_bind (wpAny_holding (thnF h1 fun itv s2 h2 => ?_))
  obtain ⟨it, fp, tn, J, H2, e2, I2, T, tn0, f0, A2, st2, xs, S, k2, r2, go, w2⟩ := h2
  subst e2
  have c2 : CSt G Z mk A2 a l st2 σ H2 := c.step k2 r2
  have ev2 : EvD G.b Z A A2 H H2 := EvD.stp c.rel.obs k2
  have lp : codeAny (model X.prog X.w) X.A (.compLoop e k (.ref it) (.ref Z) env) (fun r s' => match r with
      | .ok _ => wpAny (model X.prog X.w) X.A K QK EE s'
      | .error _ => False) s2 :=
    loop_ok (R := fun r s' => match r with
      | .ok _ => wpAny (model X.prog X.w) X.A K QK EE s'
      | .error _ => False) F hc hxe henv hid hturn kd hg hf hb hW dis I2 c2 fr T tn0 f0 go w2 fun s' σ' H' A' a' st' I' sm' c' ev' w' => hK s' σ' H' A' a' st' I' sm' c' (ev2.trans ev') w'
  refine wpAny_bind (wpAny_runOwn ?_)
  rw [Around.mark_none]
  refine codeAny_mono (start_ok sk hk lp (T.self X.A 0 _ _ _ tn0 lp)) fun r s' hr => ?_
  cases r with
  | ok f => exact hr
  | error x => exact hr.elim
theorem kindL {elt : Expr} {gens : List Comprehension} {scope : Scope} {pos : Pos} {k : Nat} {env : Env} : CKind (.ListComp elt gens scope pos) k env := ⟨fun _ _ => rfl, fun _ _ _ => rfl, fun _ _ _ _ => rfl⟩
theorem kindS {elt : Expr} {gens : List Comprehension} {scope : Scope} {pos : Pos} {k : Nat} {env : Env} : CKind (.SetComp elt gens scope pos) k env := ⟨fun _ _ => rfl, fun _ _ _ => rfl, fun _ _ _ _ => rfl⟩
theorem kindD {kx vx : Expr} {gens : List Comprehension} {scope : Scope} {pos : Pos} {k : Nat} {env : Env} : CKind (.DictComp kx vx gens scope pos) k env := ⟨fun _ _ => rfl, fun _ _ _ => rfl, fun _ _ _ _ => rfl⟩
theorem skL {elt : Expr} {gens : List Comprehension} {scope : Scope} {pos : Pos} {k : Nat} {env : Env} : SKind (.ListComp elt gens scope pos) gens k env := ⟨fun _ _ => rfl, fun _ _ _ => rfl, fun _ _ _ _ => rfl, rfl⟩
theorem skS {elt : Expr} {gens : List Comprehension} {scope : Scope} {pos : Pos} {k : Nat} {env : Env} : SKind (.SetComp elt gens scope pos) gens k env := ⟨fun _ _ => rfl, fun _ _ _ => rfl, fun _ _ _ _ => rfl, rfl⟩
theorem skD {kx vx : Expr} {gens : List Comprehension} {scope : Scope} {pos : Pos} {k : Nat} {env : Env} : SKind (.DictComp kx vx gens scope pos) gens k env := ⟨fun _ _ => rfl, fun _ _ _ => rfl, fun _ _ _ _ => rfl, rfl⟩
end
end Py
end

section
set_option Elab.async false
set_option linter.all false
set_option maxRecDepth 100000
set_option autoImplicit false
/-! Sim11: a comprehension's block. -/
namespace Py
open PySem L2 PyProof.Rows

@[reducible] def RC.hide (c : RC) (hs : List Addr) : RC := { c with hid := hs }
mutual
theorem Rep.hide {c : RC} {H : Hp} (hs : List Addr) : ∀ {v : V} {d : D}, Rep c H v d → Rep (c.hide hs) H v d
  | _, _, .non => .non
  | _, _, .bl b => .bl b
  | _, _, .int i => .int i
  | _, _, .str x => .str x
  | _, _, .tup h n r => .tup h n (Reps.hide hs r)
  | _, _, .lst h r => .lst h (Reps.hide hs r)
  | _, _, .dct h e r n => .dct h e (Reps.hide hs r) n
  | _, _, .set h d e1 e2 e3 e5 e6 => .set h d e1 e2 (Reps.hide hs e3) e5 e6
  | _, _, .rng h => .rng h
  | _, _, .fn h => .fn h
  | _, _, .ref h => .ref h
  | _, _, .script h l => .script h l
  | _, _, .exc x h e hd r => .exc x h e hd (Rep.hide hs r)
theorem Reps.hide {c : RC} {H : Hp} (hs : List Addr) : ∀ {vs : List V} {ds : List D}, Reps c H vs ds → Reps (c.hide hs) H vs ds
  | _, _, .nil => .nil
  | _, _, .cons a b => .cons (Rep.hide hs a) (Reps.hide hs b)
end
theorem RepO.hide {c : RC} {H : Hp} (hs : List Addr) {v : V} {d : D} (h : RepO c H v d) : RepO (c.hide hs) H v d := by
  cases h with
  | lst h r => exact .lst h (Reps.hide hs r)
  | dct h e r n => exact .dct h e (Reps.hide hs r) n
  | set h d e1 e2 e3 e5 e6 => exact .set h d e1 e2 (Reps.hide hs e3) e5 e6
/-- the frame within a block that makes the thing at Z -/
@[reducible] def Cn.blk (G : Cn) (Z : Addr) : Cn := { G with b := G.b.hide (Z :: G.b.hid), EX := fun _ _ _ => False }
theorem StoOk.hide {c : RC} {st : Sto} {H : Hp} (hs : List Addr) (s : StoOk c st H) : StoOk (c.hide hs) st H :=
  ⟨s.len, s.nd, fun n o e => by
    obtain ⟨a, ha, r⟩ := s.ob n o e
    refine ⟨a, ha, ?_⟩
    cases o with
    | inst _ _ => exact r.elim
    | dct _ _ => exact r.elim
    | lst _ =>
      obtain ⟨vs, e1, e2⟩ := r
      exact ⟨vs, e1, Reps.hide hs e2⟩⟩
section
variable {G : Cn} {A A' : List Addr} {l : Loc} {st st' : Sto} {σ : L2.St} {H H' : Hp} {Z : Addr}
theorem Pres.hide {c : RC} {hs hs' : List Addr} (p : Pres (c.hide hs) A A' H H') : Pres (c.hide hs') A A' H H' :=
  ⟨fun v d h => by
    have := p.rep v d (Rep.hide (c := (c.hide hs').up A) hs h)
    exact Rep.hide (c := (c.hide hs).up A') hs' this, p.frz⟩
/-- into the block -/
theorem Cn.rel.into (r : G.rel A l st σ H) (no : ∀ (a : Addr) (d : D), RepO (G.b.up A) H (.ref a) d → a ≠ Z) : (G.blk Z).rel A l st σ H := by
  refine ⟨r.len, fun i d e => ?_, r.own, r.old, StoOk.hide (c := G.b.up A) _ r.sto⟩
  obtain ⟨v, e1, e2⟩ := r.slot i d e
  refine ⟨v, e1, ?_⟩
  have out : ∀ a, RepO (G.b.up A) H (.ref a) d → a ∉ G.b.hid → a ∉ Z :: G.b.hid := fun a h n m => by
    rcases List.mem_cons.mp m with q | q
    · exact no a d h q
    · exact n q
  cases hm : md G.Γ i with
  | F => rw [hm] at e2; exact Rep.hide (c := G.b.up A) _ e2
  | O =>
    rw [hm] at e2
    obtain ⟨h, a, rfl, n, z⟩ := e2
    exact ⟨RepO.hide (c := G.b.up A) _ h, a, rfl, ⟨n.1, out a h n.2⟩, z⟩
  | B =>
    rw [hm] at e2
    rcases e2 with h | ⟨h, a, rfl, n, z⟩
    · exact .inl (Rep.hide (c := G.b.up A) _ h)
    · exact .inr ⟨RepO.hide (c := G.b.up A) _ h, a, rfl, ⟨n.1, out a h n.2⟩, z⟩
/-- what was ahead of the block, behind it -/
theorem Cn.rel.ev (r : G.rel A l st σ H) (hZ : H Z = none) (e : EvD G.b Z A A' H H') (s : StoOk (G.b.up A') st' H') : G.rel A' l st' σ H' := by
  have ne : ∀ b u, H b = some u → b ≠ Z := fun b u h z => by rw [z, hZ] at h; cases h
  have ro : ∀ {b d}, b ∉ A → RepO (G.b.up A) H (.ref b) d → RepO (G.b.up A') H' (.ref b) d ∧ b ∉ A' := fun {b d} n h => by
    cases h with
    | lst h r =>
      obtain ⟨k1, k2⟩ := e.keep _ _ h n (ne _ _ h)
      exact ⟨.lst k1 (e.pres.reps r), k2⟩
    | dct h e' r n' =>
      obtain ⟨k1, k2⟩ := e.keep _ _ h n (ne _ _ h)
      exact ⟨.dct k1 e' (e.pres.reps r) n', k2⟩
    | set h d e1 e2 e3 e5 e6 =>
      obtain ⟨k1, k2⟩ := e.keep _ _ h n (ne _ _ h)
      exact ⟨.set k1 d e1 e2 (e.pres.reps e3) e5 e6, k2⟩
  refine ⟨r.len, fun i d ei => ?_, r.own, ⟨r.old.pre.trans e.pre, fun a u h n => ?_⟩, s⟩
  · obtain ⟨v, e1, e2⟩ := r.slot i d ei
    refine ⟨v, e1, ?_⟩
    cases hm : md G.Γ i with
    | F => rw [hm] at e2; exact e.pres.rep _ _ e2
    | O =>
      rw [hm] at e2
      obtain ⟨h, a, rfl, n, z⟩ := e2
      obtain ⟨k1, k2⟩ := ro n.1 h
      exact ⟨k1, a, rfl, ⟨k2, n.2⟩, z⟩
    | B =>
      rw [hm] at e2
      rcases e2 with h | ⟨h, a, rfl, n, z⟩
      · exact .inl (e.pres.rep _ _ h)
      · obtain ⟨k1, k2⟩ := ro n.1 h
        exact .inr ⟨k1, a, rfl, ⟨k2, n.2⟩, z⟩
  · obtain ⟨k1, k2⟩ := r.old.keep a u h n
    exact e.keep a u k1 k2 (ne _ _ k1)
theorem wipe_get {own : List Nat} : ∀ {l : Loc} {i : Nat} {d : D}, (wipe l own)[i]? = some (some d) → l[i]? = some (some d) ∧ i ∉ own := by
  induction own with
  | nil => intro l i d h; exact ⟨h, by simp⟩
  | cons j own ih =>
    intro l i d h
    obtain ⟨h1, h2⟩ := ih (l := l.set j none) h
    by_cases e : j = i
    · subst e
      by_cases hj : j < l.length
      · rw [List.getElem?_set_self hj] at h1; cases h1
      · rw [List.getElem?_eq_none (by simpa using hj)] at h1; cases h1
    · rw [List.getElem?_set_ne e] at h1
      exact ⟨h1, by simp [h2, Ne.symm e]⟩
theorem wipe_len (own : List Nat) : ∀ l : Loc, (wipe l own).length = l.length := by
  induction own with
  | nil => intro l; rfl
  | cons j own ih => intro l; exact (ih _).trans (by simp)
/-- the block's own names forgotten -/
theorem Cn.rel.wiped {vs : List Nat} {own : List Nat} (r : G.rel A l st σ H) (h : ∀ i, i ∈ vs → i ∈ own) : G.rel A (wipe l own) st (L2.wipe σ vs) H := by
  refine ⟨by rw [wipe_len, L2.wipe_length]; exact r.len, fun i d e => ?_, fun i j a d e n1 m1 m2 e1 e2 e3 e4 => ?_, r.old, r.sto⟩
  · obtain ⟨e1, n⟩ := wipe_get e
    obtain ⟨v, h1, h2⟩ := r.slot i d e1
    exact ⟨v, by rw [L2.wipe_out fun m => n (h i m)]; exact h1, h2⟩
  · exact r.own i j a d e n1 m1 m2 (wipe_get e1).1 (wipe_get e2).1 (L2.wipe_some e3).1 (L2.wipe_some e4).1
end

/-- the block's clauses, behind the first one's source -/
structure BlkIn (X : Cx) (G : Cn) (e : Expr) (gens : List Comprehension) (emit : Addr → Env → Sem Unit) (tg : Expr) (ifs : List Expr) (t : T) (es : Es) (mk : Acc → D) (own : List Nat) (W : Acc → Loc → Sto → (Acc → Sto → Prop) → Prop) : Prop where
  tg : PG X tg (tG G t)
  ifs : PTs X ifs (tF G es)
  body : ∀ Z, Z ∈ G.b.hid → BodyOk X G Z mk own (nextC e gens 1 (emit Z X.env) (.ref Z) X.env) W
theorem comp_core {X : Cx} {G : Cn} {e tg iter : Expr} {ifs : List Expr} {gens rest : List Comprehension} {emit : Addr → Env → Sem Unit} {scope : Scope} {own : List (Str × Nat)} {pos' : Pos} {t : T} {es : Es} {itx : It} {mk : Acc → D} {own1 ownl : List Nat}
    {W : Acc → Loc → Sto → (Acc → Sto → Prop) → Prop} {newAcc : Sem Value} {ob : Obj} {O0 : Addr → HO} {use : Option (Value → Sem Unit)} {Qf : Value → Shared → Prop} {QV : VK} {pins : List (Addr × Obj)} {s : Shared} {σ : L2.St} {H : Hp} {A : List Addr} {l : Loc} {st : Sto}
    (F : Fc G X) (hc : X.calm = true) (hN : X.N.Nodup) (ok : BlkOk X.N X.env.scope scope own) (hcl : clausesOf e = gens) (hgens : gens = ⟨tg, iter, ifs, 0⟩ :: rest)
    (hi : PI X tg iter (tI G itx)) (hs : ∀ x, foldedSetIterable iter X.env x = pure x)
    (hnew : ∀ (s : Shared) (Q : Value → Shared → Prop), Q (.ref s.heap.objs.size) { s with heap := s.heap.push ob } → wpAny (model X.prog X.w) X.A newAcc Q X.xe s)
    (hob : ∀ (s : Shared) (H : Hp), sysModules < s.heap.objs.size → ObjOk X.prog X.w (upd H s.heap.objs.size (O0 s.heap.objs.size)) (s.heap.push ob) s.heap.objs.size (O0 s.heap.objs.size))
    (hrep : ∀ (c : RC) (H : Hp) (p : Addr), c.w = X.w → H p = some (O0 p) → RepO c H (.ref p) (mk ([], [])))
    (hin : ∀ (s : Shared) (H : Hp) (C : Addr) (cl : List (Str × Addr)) (fp : List Addr) (Z : Addr), BlkIn (X.blk s H scope (compEnvC scope cl C X.env) fp) (G.blk Z) e gens emit tg ifs t es mk own1 W)
    (hturn : ∀ it Z env, compTurn e 0 it (.ref Z) env = turnC e gens 0 (emit Z env) it (.ref Z) env tg iter ifs) (kd : ∀ env, CKind e 0 env) (sk : ∀ env, SKind e gens 0 env)
    (hW : ∀ a l st Q Q', (∀ a st, Q a st → Q' a st) → W a l st Q → W a l st Q') (dis : ∀ i ∈ own1, i ∉ t.slots) (ho : ∀ i, i ∈ own.map (·.2) → i ∈ ownl) (ho2 : ∀ i ∈ t.slots ++ own1, i ∈ ownl)
    (I : Inv X pins σ H s) (r : G.rel A l st σ H)
    (hw : wpI G.sub G.C itx l st (fun xs st => forL xs (clF (G.blk 0) t es W (wipe l ownl)) ([], []) st fun a st' => ∀ Z A' H', Stp A A' H H' → G.rel A' l st' σ H' → RN (G.b.up A') H H' (.ref Z) (mk a) → QV (.ref Z) H') noE)
    (hRR : ∀ Z C s' m H', Inv X pins σ H' s' → QV (.ref Z) H' → s'.heap.Ns C m → FpOk X pins H' C → compPost (model X.prog X.w) X.A X.xe use Qf (.ref Z) C (.ok .next) s') :
    wpAny (model X.prog X.w) X.A (comprehension e scope X.env pos' newAcc false (eval iter X.env) use) Qf X.xe s := by
  have hfree : ∀ y ∈ scope.names, y.2 = .free → ∃ c, X.env.cells.lookup y.1 = some c := fun y hy e => by
    rcases ok.free y hy e with k | k
    · exact I.ok.has _ (.inl k)
    · exact I.ok.has _ (.inr k)
  have h : tI G itx σ H fun J H1 => ∃ A1 st1 xs S, Stp A A1 H H1 ∧ G.rel A1 l st1 σ H1 ∧ Goes G.b A1 H1 J xs S ∧ forL xs (clF (G.blk 0) t es W (wipe l ownl)) ([], []) st1 fun a st' => ∀ Z A' H', Stp A A' H H' → G.rel A' l st' σ H' → RN (G.b.up A') H H' (.ref Z) (mk a) → QV (.ref Z) H' :=
    ⟨A, l, st, r, wpI_mono F.C itx (fun xs st' w' J A' H' S k' r' g' => ⟨A', st', xs, S, k', r', g', w'⟩) (fun _ _ z => z.elim) hw⟩
  have hgi : (⟨tg, iter, ifs, 0⟩ : Comprehension).iter = iter := rfl
  refine wpAny_comprehension_free (use := use) (g := ⟨tg, iter, ifs, 0⟩) (gs := rest) (hcl.trans hgens) hs (closure_ok hfree) ok.kind (fun y hy e => by rw [ok.uniq y hy, e])
    (thn (hi.run pins s σ H _ I h) fun xv s1 hx => thn hx fun itv s2 h2 => ?_)
  obtain ⟨it, fp, tn, J, H2, e2, I2, T, st2, f2, A1, sto1, xs, S, k1, r1, go, w1⟩ := h2
  subst e2
  refine hnew _ _ (newEnv_comp ?_)
  generalize hD : s2.heap.objs.size = Z
  have hDn : H2 Z = none := I2.hok.fresh (Nat.le_of_eq hD)
  generalize hs3 : ({ s2 with heap := s2.heap.push ob } : Shared) = s3
  have I3 : Inv X pins σ (upd H2 Z (O0 Z)) s3 := by
    rw [← hs3]
    refine I2.laid (t' := s2.toks) (fun b o e => Heap.get?_push_of_some _ e) (Nat.le_of_eq hD) ?_
    have := hob s2 H2 I2.big
    rw [hD] at this
    exact this
  have h3 : s3.heap = s2.heap.push ob := by rw [← hs3]
  have sz : ∀ b ∈ fp, b < s2.heap.objs.size := fun b hb => by
    obtain ⟨o, e, _⟩ := T.obj _ _ st2 b hb
    exact Heap.lt_size e
  have f3 : ∀ b ∈ fp, FpOk X pins (upd H2 Z (O0 Z)) b ∧ b < s3.heap.objs.size := fun b hb => by
    have hlt := sz b hb
    refine ⟨⟨?_, (f2 b hb).2⟩, by rw [h3, Heap.size_push]; exact Nat.lt_succ_of_lt hlt⟩
    rw [upd_ne (by rw [← hD]; exact Nat.ne_of_lt hlt)]
    exact (f2 b hb).1
  have st3 : tn 0 s3.heap := T.keep _ _ _ st2 fun b _ o e => by rw [h3]; exact Heap.get?_push_of_some _ e
  have I4 := block_start I3 ok hN f3
  have hb := hin s3 (upd H2 Z (O0 Z)) s3.heap.objs.size (cellsFrom (s3.heap.objs.size + 1) scope.names (cloFrom X.env.cells scope.names [])) fp Z
  -- the relation within the block
  have nA : Z ∉ A1 := Obs.fresh r1.obs hDn
  have r1b : (G.blk Z).rel A1 l sto1 σ H2 := r1.into fun a d h z => by
    obtain ⟨x, u, e', hu, _⟩ := h.ref
    cases e'; rw [z, hDn] at hu; cases hu
  have rZ : (G.blk Z).rel A1 (wipe l ownl) sto1 (L2.wipe σ (own.map (·.2))) (upd H2 Z (O0 Z)) := Cn.rel.wiped (G := G.blk Z) (r1b.new hDn) ho
  have c0 : CSt (G.blk Z) Z mk A1 ([], []) (wipe l ownl) sto1 (L2.wipe σ (own.map (·.2))) (upd H2 Z (O0 Z)) := ⟨rZ, hrep _ _ _ F.w upd_same, nA, r1.old.free hDn fun m => nA (List.IsPrefix.mem m r1.old.pre)⟩
  have go3 : Goes (G.blk Z).b A1 (upd H2 Z (O0 Z)) J xs S := by
    have pr : ∀ {A' H'}, Pres (G.blk Z).b A1 A' (upd H2 Z (O0 Z)) H' → Pres G.b A1 A' H2 H' := fun {A' H'} p => (Pres.stp r1.obs (Stp.new hDn)).trans (Pres.hide (c := G.b) (hs := Z :: G.b.hid) (hs' := G.b.hid) p)
    have nz : ∀ b ∈ S, b ≠ Z := fun b hb z => by
      obtain ⟨_, u, hu, _⟩ := go.ob b hb
      rw [z, hDn] at hu; cases hu
    refine ⟨fun b hb => ?_, fun i d A' H' hx p k => ?_, fun A' H' p k => go.stop A' H' (pr p) fun b hb => by rw [k b hb, upd_ne (nz b hb)]⟩
    · obtain ⟨⟨n1, n2⟩, u, hu, hs⟩ := go.ob b hb
      refine ⟨⟨n1, fun m => ?_⟩, u, by rw [upd_ne (nz b hb)]; exact hu, hs⟩
      rcases List.mem_cons.mp m with q | q
      · exact nz b hb q
      · exact n2 q
    · obtain ⟨g1, g2⟩ := go.go i d A' H' hx (pr p) fun b hb => by rw [k b hb, upd_ne (nz b hb)]
      exact ⟨g1, fun x H'' y => ⟨(g2 x H'' y).1, Rep.hide (c := G.b.up A') _ (g2 x H'' y).2⟩⟩
  show codeAny _ _ (.compStart e 0 (.ref it) (.ref Z) (compEnvC scope (cellsFrom (s3.heap.objs.size + 1) scope.names (cloFrom X.env.cells scope.names [])) s3.heap.objs.size X.env)) (compPost (model X.prog X.w) X.A X.xe use Qf (.ref Z) s3.heap.objs.size) { s3 with heap := pushCells (s3.heap.push { cls := .type "dict", data := .dict #[] }) scope.names }
  have nfp : ∀ b ∈ fp, (upd H2 Z (O0 Z)) b = none := fun b hb => (f3 b hb).1.1
  generalize hce : compEnvC scope (cellsFrom (s3.heap.objs.size + 1) scope.names (cloFrom X.env.cells scope.names [])) s3.heap.objs.size X.env = ce at I4 hb ⊢
  have cL : ce.locals = s3.heap.objs.size := by subst hce; rfl
  generalize hH3 : upd H2 Z (O0 Z) = H3 at I3 I4 hb rZ c0 go3 nfp f3
  generalize hs4 : ({ s3 with heap := pushCells (s3.heap.push { cls := .type "dict", data := .dict #[] }) scope.names } : Shared) = s4 at I4 ⊢
  have st4 : tn 0 s4.heap := T.keep _ _ _ st3 fun b _ o e => by rw [← hs4]; exact pushCells_keeps _ _ _ _ (Heap.get?_push_of_some _ e)
  have f4 : ∀ b ∈ fp, FpOk (X.blk s3 H3 scope ce fp) [] H3 b := fun b hb =>
    ⟨nfp b hb, (I4.ok.exf b hb).1, I4.ok.exfs b hb, .inl hb, fun x c e => (I4.ok.exf b hb).2 x c e, fun p hp => absurd (show p ∈ ([] : List (Addr × Obj)) ++ [] from hp) (by simp)⟩
  have Fb : Fc (G.blk Z) (X.blk s3 H3 scope ce fp) := ⟨F.K, F.w, F.C, ⟨F.rm.un⟩⟩
  have hid : Z ∈ (G.blk Z).b.hid := List.mem_cons_self
  have frz : Free (t.slots ++ own1) (wipe l ownl) := fun i m d e => (wipe_get e).2 (ho2 i m)
  have loop : codeAny (model X.prog X.w) X.A (.compLoop e 0 (.ref it) (.ref Z) ce) (compPost (model X.prog X.w) X.A X.xe use Qf (.ref Z) s3.heap.objs.size) s4 := by
    refine loop_ok (X := X.blk s3 H3 scope ce fp) (G := G.blk Z) (emit := emit Z ce) Fb hc rfl rfl hid (fun it => hturn it Z ce) (kd ce) hb.tg hb.ifs (hb.body Z hid) hW dis I4 c0 frz T st4 f4 go3 w1 ?_
    intro s6 σ6 H6 A6 a6 st6 I6 sm6 c6 ev6 q6
    have I7 : Inv X pins σ H6 s6 := I3.call' (ch := fp) I6.os I6.base I6.hok I6.bare fun b hb => ⟨(f3 b hb).1.2.2.2.1, (f3 b hb).1.2.1, (f3 b hb).1.2.2.2.2.1, (f3 b hb).1.2.2.2.2.2⟩
    have nC : H6 s3.heap.objs.size = none := by
      have z : H6 ce.locals = none := I6.free
      rw [cL] at z
      exact z
    obtain ⟨m, hn, _⟩ := I6.loc
    have hn : s6.heap.Ns ce.locals m := hn
    rw [cL] at hn
    have ev7 : EvD G.b Z A1 A6 H2 H6 := by
      have e1 : EvD G.b Z A1 A1 H2 H3 := by rw [← hH3]; exact EvD.stp r1.obs (Stp.new hDn)
      exact e1.trans ⟨ev6.pre, Pres.hide (c := G.b) (hs := Z :: G.b.hid) (hs' := G.b.hid) ev6.pres, ev6.keep⟩
    have s7 : StoOk (G.b.up A6) st6 H6 := StoOk.hide (c := ((G.blk Z).b).up A6) G.b.hid c6.rel.sto
    have r7 : G.rel A6 l st6 σ H6 := r1.ev hDn ev7 s7
    have k7 : Stp A A6 H H6 := by
      refine ⟨k1.pre.trans ev7.pre, fun a u h n => ?_⟩
      obtain ⟨q1, q2⟩ := k1.keep a u h n
      exact ev7.keep a u q1 q2 fun z => by rw [z, hDn] at q1; cases q1
    refine hRR Z s3.heap.objs.size s6 m H6 I7 (q6 Z A6 H6 k7 r7 ⟨RepO.hide (c := ((G.blk Z).b).up A6) G.b.hid c6.acc, Z, rfl, c6.nA, k1.free hDn fun m => nA (List.IsPrefix.mem m k1.pre)⟩) hn (I3.fpOk (Nat.le_refl _) nC)
  exact start_ok (gens := gens) (ifs := ifs) (tg := tg) (iter := iter) (sk ce) (by rw [hgens]; rfl) loop (T.self X.A 0 _ _ _ st4 loop)
end Py
end

section
set_option Elab.async false
set_option linter.all false
set_option maxRecDepth 100000
set_option autoImplicit false
/-! Sim12: calls: what a def promises where no repr runs. -/
namespace Py
open PySem L2 PyProof.Rows

/-- a def's promise, where nothing is being shown -/
structure FnG (P : Program) (w : World) (K : PySem.W.Frag) (mg : Str → Option Value) (base : Heap) (CX : CXT) (k : Nat) (f : Addr) (fd : FuncData) (ps : List Str) (sp : Sp) : Prop where
  len : ∀ vs H Q E, sp vs H Q E → vs.length = ps.length
  run : ∀ (A : Around) (outer : List Env) (s : Shared) (H : Hp) (args : Args) (us : List Value) (vs : List V) (Q : VK) (E : XK), Room k A → A.guards = some [] → Env0 P w K mg base A outer s H → BindsTo s fd args (ps.zip us) → Vals vs us → sp vs H Q E →
    codeAny (model P w) A (.call (.ref f) args) (CR CX outer P w H s Q E) s
/-- by its body -/
theorem fnG_of {CX : CXT} {P : Program} {w : World} {K : PySem.W.Frag} {mg : Str → Option Value} {base : Heap} {k : Nat} {f : Addr} {name qual : Str} {params : Arguments} {body : List Stmt} {scope : Scope} {dV kV doc pm cdv ct oc : Value} {an od : Option Addr}
    {osl : Array (Option Value)} {N ps : List Str} {sp : Sp} (lk : K.lookup f = some ⟨oc, od, .func (PySem.W.fnOf name qual params body scope dV kV doc pm an cdv ct), osl⟩) (hcd : PySem.W.codeIn K cdv qual = true) (S : FnScope N ps scope)
    (len : ∀ vs H Q E, sp vs H Q E → vs.length = ps.length)
    (hbody : ∀ (A : Around) (outer : List Env) (s : Shared) (H : Hp) (vs : List V) (Q : VK) (E : XK), Room k (A.deeper (envOfC qual scope s.heap.objs.size f cdv)) → A.guards = some [] → sp vs H Q E →
      ∃ t, PSs (cxOf CX P w K mg base N qual scope f cdv A outer s H E) body t ∧ t { nx := fun _ H' => Q .non H', rt := Q } (start N vs) H) :
    FnG P w K mg base CX (k + 1) f (PySem.W.fnOf name qual params body scope dV kV doc pm an cdv ct) ps sp := by
  refine ⟨len, fun A outer s H args us vs Q E hr hgd e0 hb r hsp => ?_⟩
  have hl := len _ _ _ _ hsp
  have KX : K.In s.heap := e0.mod.kin.keeps fun b o e => (e0.bs b o e).1
  have lim : s.heap.NoLimit := e0.mod.nolimit.keeps fun b o e => (e0.bs b o e).1
  have hkind : ∀ y ∈ ps.zip us, scope.names.lookup y.1 = some .local ∨ (scope.names.lookup y.1 = some .cell ∧ ((cellsFrom (s.heap.objs.size + 1) scope.names []).lookup y.1).isSome = true) := fun ⟨n, v⟩ hy => by
    rcases S.par n (List.of_mem_zip hy).1 with q | q
    · exact .inl q
    · exact .inr ⟨q, PySem.W.cellsFrom_some _ _ _ (.inl q)⟩
  refine codeAny_call_function hr.depth (KX _ _ lk) rfl S.co S.gen rfl (PySem.W.codeRec_of KX hcd) (hb _ _ _ _ ?_)
  refine wpAny_newFunctionEnv_cells S.kind hkind fun env he s1 x => ?_
  subst he
  refine ⟨lim.keeps x.toInCall.keep, codeAny_func ?_⟩
  obtain ⟨t, ht, hq⟩ := hbody A outer s H vs Q E (hr.deeper _) hgd hsp
  have I : Inv (cxOf CX P w K mg base N qual scope f cdv A outer s H E) [] (start N vs) H s1 := inv_start S hr.hd e0 hl r x
  refine wpAny_mono (ht.run [] s1 (start N vs) H _ I hq) (fun fl s' hs => ?_) fun e s' hs => hs
  have fin : ∀ {σ' : L2.St} {H' : Hp} {v : V} {u : Value}, Inv (cxOf CX P w K mg base N qual scope f cdv A outer s H E) [] σ' H' s' → RelV v u → Q v H' → CE outer P w H s Q u s' :=
    fun {σ' H' v u} J rv q => ⟨v, H', J.os, J.bare, J.base, J.hok, rv, q⟩
  cases fl with
  | ret u =>
    obtain ⟨v, σ', H', J, rv, q⟩ := hs
    exact fin J rv q
  | next =>
    obtain ⟨σ', H', J, q⟩ := hs
    exact fin (v := V.non) (u := Value.none) J rfl q
  | brk =>
    obtain ⟨_, _, _, q⟩ := hs
    exact False.elim q
  | cont =>
    obtain ⟨_, _, _, q⟩ := hs
    exact False.elim q
theorem run_fnG {X : Cx} {CX : CXT} {k : Nat} {f : Addr} {fd : FuncData} {ps : List Str} {sp : Sp} {E : XK} {pins : List (Addr × Obj)} {σ : L2.St} {H : Hp} {s : Shared} {Q : VK} {us : List Value} {vs : List V} {args : Args} (F : FnG X.prog X.w X.K X.mg X.base CX k f fd ps sp) (hr : Room k X.A) (hgd : X.A.guards = some []) (hb : BindsTo s fd args (ps.zip us)) (hx : PassesAt CX X σ E)
    (I : Inv X pins σ H s) (r : Vals vs us) (h : sp vs H Q E) : wpAny (model X.prog X.w) X.A (call (.ref f) args.pos args.kw) (EP X pins σ Q) X.xe s := by
  refine wpAny_call (codeAny_mono (F.run X.A X.stack s H args us vs Q E hr hgd I.env0 hb r h) fun r s' hq => ?_)
  cases r with
  | error e => exact hx pins H s e s' I hq
  | ok fl =>
    cases fl with
    | ret u => exact I.after hq
    | next => exact False.elim hq
    | brk => exact False.elim hq
    | cont => exact False.elim hq
end Py
end

section
set_option Elab.async false
set_option linter.all false
set_option maxRecDepth 100000
set_option maxHeartbeats 1000000
set_option autoImplicit false
/-! Sim13: what a comprehension does with an item: list.append, set.add, d[k] = v. -/
namespace Py
open PySem PySem.Spec L2 PyProof.Rows

/-! ### set.add of a flat key -/
section
variable {P : Program} {w : World} {A : Around} {E : Value → Shared → Prop} {s : Shared} {a : Addr} {K : Type} [DecidableEq K] {knd : KeyKind P w K}
/-- a set of keys, in its sequence -/
structure SetAt (w : World) (h : Heap) (a : Addr) (o : Obj) (es : List (Int × Value)) : Prop where
  ho : h.get? a = some o
  is : IsSet w o es
theorem setK_tail {g : Bool → Sem Unit} (hg : ∀ (b : Bool) (s₁ : Shared) (Q' : Unit → Shared → Prop), Q' () s₁ → wpAny (model P w) A (g b) Q' E s₁)
    {o : Obj} {es : Array (Int × Value)} {ep : Nat} {t : SetTable} (ho : s.heap.get? a = some o) (hex : o.ExactSet) (hd : o.data = .set es ep t)
    {es1 : Array (Int × Value)} {t2 : SetTable} (hb1 : es1.size < scanBound) (hf2 : t2.fits es1.size = true) (hr : Ris t2.place.toList) (hl : w.params.followText "set-order" = true ∨ t2.led = true) {wasDummy : Bool} {R : Option Bool → Shared → Prop}
    (hR : ∀ h' o' es', Heap.SameBut a s.heap h' → SetAt w h' a o' es' → es'.Perm es1.toList → R (some true) { s with heap := h' }) :
    wpAny (model P w) A (do
        storeSet a es1 t2
        if (!wasDummy && t2.tooFull) = true then do
            g (relayAll t2 es1 (SetTable.grown es1.size)).2.2
            storeSet a (relayAll t2 es1 (SetTable.grown es1.size)).1 (relayAll t2 es1 (SetTable.grown es1.size)).2.1
            pure (some true)
          else pure (some true)) R E s := by
  refine wpAny_bind (wpAny_storeSet_of ho hd ?_ (fits_of_scanBound hb1))
  have ho1 := store_at (es' := es1) (t' := t2) ho hd
  have sb1 := Heap.SameBut.update s.heap a (Obj.putSet es1 t2)
  split
  · have pm := relayAll_perm t2 es1 (SetTable.grown es1.size)
    have hf3 := relayAll_fits t2 es1 (SetTable.grown es1.size)
    have hr3 := relayAll_ris t2 es1 (SetTable.grown es1.size)
    have hl3 := relayAll_led t2 es1 (SetTable.grown es1.size)
    generalize relayAll t2 es1 (SetTable.grown es1.size) = Z at pm hf3 hr3 hl3 ⊢
    obtain ⟨es2, t3, gave⟩ := Z
    dsimp only at pm hf3 hr3 hl3 ⊢
    have hsz : es2.size = es1.size := by rw [← Array.length_toList, pm.length_eq, Array.length_toList]
    have hb2 : es2.size < scanBound := by rw [hsz]; exact hb1
    refine wpAny_bind (hg _ _ _ ?_)
    refine wpAny_bind (wpAny_storeSet_of ho1 rfl ?_ (fits_of_scanBound hb2))
    have ho2 := store_at (es' := es2) (t' := t3) ho1 rfl
    refine wpAny_pure (hR _ _ es2.toList (sb1.trans (Heap.SameBut.update _ a _)) ⟨ho2, ?_⟩ pm)
    exact ⟨hex, by rw [Array.length_toList]; exact hb2, ep + 1 + 1, t3, by simp, by rw [Array.length_toList]; exact hf3, hr3, hl.imp id fun z => by rw [hl3]; exact z⟩
  · refine wpAny_pure (hR _ _ es1.toList sb1 ⟨ho1, ?_⟩ (List.Perm.refl _))
    exact ⟨hex, by rw [Array.length_toList]; exact hb1, ep + 1, t2, by simp, by rw [Array.length_toList]; exact hf2, hr, hl⟩
theorem setK_hashed {o : Obj} {es : List (Int × Value)} {k : K} {x : Value} {Q : Bool → Shared → Prop} (hkey : knd.is k x = true) (hsc : x.scannable = true) (S : SetAt w s.heap a o es) (hel : ElemsOf knd es) (room : es.length + 1 < scanBound)
    (h1 : (∃ e ∈ es, knd.is k e.2 = true) → Q false s)
    (h2 : (¬ ∃ e ∈ es, knd.is k e.2 = true) → ∀ h' o' es', Heap.SameBut a s.heap h' → SetAt w h' a o' es' → es'.Perm (es ++ [(knd.hash k, x)]) → Q true { s with heap := h' }) :
    wpAny (model P w) A (setAddHashed a x (knd.hash k)) Q E s := by
  obtain ⟨ho, hex, hb, ep, t, hd, hf, hr, hl⟩ := S
  have hf' : t.fits es.toArray.size = true := by simpa using hf
  have hel' : ElemsOf knd es.toArray.toList := by simpa using hel
  unfold setAddHashed setAddHashedIn
  refine wpAny_holding (wpAny_bind (wpAny_setState_of ho hd hf' ?_))
  dsimp only
  rw [byScan_of hsc (by simpa using hb) hel']
  simp only [↓reduceIte]
  unfold setAddByScan
  refine wpAny_bind ?_
  refine wpAny_bind (wpAny_rule ?_)
  refine wpAny_bind (wpAny_setScan_of hkey ho hd hf' hel' ?_)
  cases hfi : List.findIdx? (fun e => knd.is k e.2) es.toArray.toList with
  | some j =>
    dsimp only
    obtain ⟨hj, pj, _⟩ := List.findIdx?_eq_some_iff_getElem.mp hfi
    refine wpAny_pure (wpAny_pure ?_)
    exact h1 ⟨es[j]'(by simpa using hj), List.getElem_mem _, by simpa using pj⟩
  | none =>
    dsimp only
    have hn : ¬ ∃ e ∈ es, knd.is k e.2 = true := fun ⟨e, he, q⟩ => by
      have c := List.findIdx?_eq_none_iff.mp hfi e (by simpa using he)
      rw [q] at c
      cases c
    have hQ := h2 hn
    have hgw : ∀ (b : Bool) {s₁ : Shared} {Q' : Unit → Shared → Prop}, Q' () s₁ → wpAny (model P w) A (match b with | true => rule "set.scan.the-table-gave-way" | false => pure ()) Q' E s₁ :=
      fun b s₁ Q' q => by cases b <;> first | exact wpAny_pure q | exact wpAny_rule q
    have pm := layNew_perm t es.toArray (knd.hash k) x
    have hf1 := layNew_fits t es.toArray (knd.hash k) x
    have hr1 := layNew_ris t es.toArray (knd.hash k) x hr
    have hl1 := layNew_led t es.toArray (knd.hash k) x
    generalize layNew t es.toArray (knd.hash k) x = Z at pm hf1 hr1 hl1 ⊢
    obtain ⟨es1, t1, wasDummy, gave⟩ := Z
    dsimp only at pm hf1 hr1 hl1 ⊢
    rw [Array.toList_push, List.toList_toArray] at pm
    have hsz : es1.size = es.length + 1 := by rw [← Array.length_toList, pm.length_eq, List.length_append]; rfl
    have hb1 : es1.size < scanBound := by rw [hsz]; exact room
    have hled : w.params.followText "set-order" = true ∨ t1.led = true := hl.imp id fun z => by rw [hl1]; exact z
    refine wpAny_bind (hgw _ ?_)
    split
    · refine wpAny_bind ?_
      rw [hashByValue_scannable 8 hsc]
      refine wpAny_pure ?_
      refine setK_tail ?_ ho hex hd hb1 ?_ ?_ ?_ ?_
      · intro b s₁ Q' q; cases b <;> first | exact wpAny_pure q | exact wpAny_rule q
      · first | (split <;> first | exact hf1 | exact SetTable.fits_plain_off hf1) | exact hf1
      · first | (split <;> exact hr1) | exact hr1
      · first | (split <;> exact hled) | exact hled
      · intro h' o' es' sb r p; dsimp only; exact wpAny_pure (hQ h' o' es' sb r (p.trans pm))
    · refine wpAny_bind (wpAny_pure ?_)
      simp only [↓reduceIte]
      refine setK_tail ?_ ho hex hd hb1 hf1 hr1 hled ?_
      · intro b s₁ Q' q; cases b <;> first | exact wpAny_pure q | exact wpAny_rule q
      · intro h' o' es' sb r p; dsimp only; exact wpAny_pure (hQ h' o' es' sb r (p.trans pm))
theorem setK_add {o : Obj} {es : List (Int × Value)} {k : K} {x : Value} {Q : Value → Shared → Prop} (hkey : knd.is k x = true) (hsc : x.scannable = true) (S : SetAt w s.heap a o es) (hel : ElemsOf knd es) (room : es.length + 1 < scanBound)
    (h1 : (∃ e ∈ es, knd.is k e.2 = true) → Q .none { s with toks := s.toks + 1 })
    (h2 : (¬ ∃ e ∈ es, knd.is k e.2 = true) → ∀ h' o' es', Heap.SameBut a s.heap h' → SetAt w h' a o' es' → es'.Perm (es ++ [(knd.hash k, x)]) → Q .none { s with heap := h', toks := s.toks + 1 }) :
    wpAny (model P w) A (call (.builtin "set.add") [.ref a, x]) Q E s := by
  have hT : s.TypeIs (.ref a) "set" := ⟨_, S.ho, S.is.1.1⟩
  refine wpAny_call_entry F.slot_set_add hT F.entry_set_add ?_ (F.args_set_add_2 _ _)
  unfold Builtin.«set.add» Builtin.Frozenset.oneOther
  simp only [List.isEmpty_nil, bind_assoc]
  unfold Builtin.Frozenset.addrOf setAdd
  refine wpAny_bind (wpAny_pure ?_)
  try dsimp only
  refine wpAny_bind (wpAny_pure ?_)
  try dsimp only
  refine wpAny_bind ?_
  refine wpAny_holding ?_
  refine wpAny_bind (knd.pyHash hkey ?_)
  refine setK_hashed (s := { s with toks := s.toks + 1 }) hkey hsc S hel room (fun h => ?_) fun h h' o' es' sb r p => ?_
  · show wpAny _ _ (ret Value.none) _ _ _
    exact wpAny_pure ⟨_, rfl, h1 h⟩
  · show wpAny _ _ (ret Value.none) _ _ _
    exact wpAny_pure ⟨_, rfl, h2 h h' o' es' sb r p⟩
end
theorem rawOk {P : Program} {w : World} {H : Hp} {h : Heap} {a : Addr} {o : Obj} (e : h.get? a = some o) : ObjOk P w H h a (Raw a o) := ⟨e, ⟨o, e⟩, fun _ _ p k => k _ p⟩
theorem hashV_key (w : World) (k : Key) : hashV w (kV k) = keyH w k := by cases k <;> rfl
theorem key_scan {k : Key} {u : Value} (r : RelV (kV k) u) : u.scannable = true := by
  cases k with
  | inl i => obtain ⟨t, rfl⟩ := r; rfl
  | inr x => obtain ⟨t, rfl⟩ := r; rfl
/-- a set's elements, as keys -/
theorem set_elems {c : RC} {H : Hp} {P : Program} {w : World} : ∀ {es : List (Int × Value)} {kvs : List V} {ks : List D}, es.map (·.1) = kvs.map (hashV w) → Vals kvs (es.map (·.2)) → Reps c H kvs ks → (∀ k ∈ ks, k.flat = true) →
    ElemsOf (mixKind P w) es ∧ ∀ q : Key, (∃ e ∈ es, (mixKind P w).is q e.2 = true) ↔ kD q ∈ ks
  | [], [], ks, _, _, r, _ => by
    cases r
    exact ⟨(fun e he => by cases he), fun q => by simp⟩
  | [], v :: kvs, _, h, _, _, _ => by cases h
  | e :: es, [], _, h, _, _, _ => by cases h
  | e :: es, v :: kvs, ks, h, hv, r, hf => by
    cases r with
    | cons r rs =>
      rename_i d ds
      cases hv with
      | cons rv hv =>
        simp only [List.map_cons, List.cons.injEq] at h
        obtain ⟨i1, i2⟩ := set_elems h.2 hv rs fun k m => hf k (List.mem_cons_of_mem _ m)
        obtain ⟨q, rfl⟩ := flat_kD (hf d List.mem_cons_self)
        have ev : v = kV q := RepU.key (.inl r)
        subst ev
        have is : (mixKind P w).is q e.2 = true := kV_is rv
        refine ⟨fun x hx => ?_, fun p => ?_⟩
        · rcases List.mem_cons.mp hx with z | z
          · subst z; exact ⟨⟨q, is, by rw [h.1]; exact hashV_key w q⟩, key_scan rv⟩
          · exact i1 x z
        · constructor
          · rintro ⟨x, hx, hi⟩
            rcases List.mem_cons.mp hx with z | z
            · subst z
              rw [(mixKind P w).inj _ _ _ hi is]
              exact List.mem_cons_self
            · exact List.mem_cons_of_mem _ ((i2 p).mp ⟨x, z, hi⟩)
          · intro m
            rcases List.mem_cons.mp m with z | z
            · rw [kD_inj z]; exact ⟨e, List.mem_cons_self, is⟩
            · obtain ⟨x, hx, hi⟩ := (i2 p).mpr z
              exact ⟨x, List.mem_cons_of_mem _ hx, hi⟩

theorem perm4 {c : RC} {H : Hp} {w : World} : ∀ {es' es : List (Int × Value)}, es'.Perm es → ∀ {kvs : List V} {ks : List D}, es.map (·.1) = kvs.map (hashV w) → Vals kvs (es.map (·.2)) → Reps c H kvs ks →
    ∃ kvs' ks', es'.map (·.1) = kvs'.map (hashV w) ∧ Vals kvs' (es'.map (·.2)) ∧ Reps c H kvs' ks' ∧ ks'.Perm ks := by
  intro es' es p
  have p' := p.symm
  clear p
  induction p' with
  | nil => exact fun h1 h2 h3 => ⟨_, _, h1, h2, h3, List.Perm.refl _⟩
  | cons x p ih =>
    intro kvs ks h1 h2 h3
    cases kvs with
    | nil => cases h1
    | cons v kvs =>
      cases h3 with
      | cons r rs =>
        cases h2 with
        | cons rv hv =>
          simp only [List.map_cons, List.cons.injEq] at h1
          obtain ⟨kvs', ks', b1, b2, b3, b4⟩ := ih h1.2 hv rs
          exact ⟨v :: kvs', _ :: ks', by simp [h1.1, b1], .cons rv b2, .cons r b3, b4.cons _⟩
  | swap x y l =>
    intro kvs ks h1 h2 h3
    cases kvs with
    | nil => cases h1
    | cons v kvs =>
      cases kvs with
      | nil => simp at h1
      | cons v2 kvs =>
        cases h3 with
        | cons r rs =>
          cases rs with
          | cons r2 rs =>
            cases h2 with
            | cons rv hv =>
              cases hv with
              | cons rv2 hv =>
                simp only [List.map_cons, List.cons.injEq] at h1
                exact ⟨v2 :: v :: kvs, _ :: _ :: _, by simp [h1], .cons rv2 (.cons rv hv), .cons r2 (.cons r rs), List.Perm.swap _ _ _⟩
  | trans p1 p2 ih1 ih2 =>
    intro kvs ks h1 h2 h3
    obtain ⟨kvs1, ks1, b1, b2, b3, b4⟩ := ih1 h1 h2 h3
    obtain ⟨kvs2, ks2, d1, d2, d3, d4⟩ := ih2 b1 b2 b3
    exact ⟨kvs2, ks2, d1, d2, d3, d4.trans b4⟩

/-! ### bodies -/
section
variable {G : Cn} {X : Cx} {Z : Addr} {e : Expr} {gens : List Comprehension}
theorem nextC_end {k : Nat} {emit : Sem Unit} {acc : Value} {env : Env} {K : Sem Fin} (h : gens[k]? = none) : nextC e gens k emit acc env K = (do emit; K) := by
  unfold nextC
  rw [h]
theorem CSt.put {mk : Acc → D} {A : List Addr} {a a' : Acc} {l : Loc} {st : Sto} {σ : L2.St} {H : Hp} {o u : HO} (c : CSt G Z mk A a l st σ H) (hid : Z ∈ G.b.hid) (h0 : H Z = some u) (m : isSto u) (r : RepO (G.b.up A) (upd H Z o) (.ref Z) (mk a')) : CSt G Z mk A a' l st σ (upd H Z o) := by
  refine ⟨⟨c.rel.len, fun i d ei => ?_, c.rel.own, ⟨c.rel.old.pre, fun b w hb n => ?_⟩, ObRep.wr c.rel.sto h0 m c.nA⟩, r, c.nA, c.nw⟩
  · obtain ⟨v, e1, e2⟩ := c.rel.slot i d ei
    refine ⟨v, e1, ?_⟩
    cases hm : md G.Γ i with
    | F => rw [hm] at e2; exact Rep.wr h0 m e2
    | O =>
      rw [hm] at e2
      obtain ⟨h, b, rfl, n, z⟩ := e2
      exact ⟨RepO.wr h0 m (fun q => n.2 (by rw [q]; exact hid)) h, b, rfl, n, z⟩
    | B =>
      rw [hm] at e2
      rcases e2 with h | ⟨h, b, rfl, n, z⟩
      · exact .inl (Rep.wr h0 m h)
      · exact .inr ⟨RepO.wr h0 m (fun q => n.2 (by rw [q]; exact hid)) h, b, rfl, n, z⟩
  · obtain ⟨q1, q2⟩ := c.rel.old.keep b w hb n
    exact ⟨by rw [upd_ne fun z => by rw [z, c.nw] at hb; cases hb]; exact q1, q2⟩


abbrev mkL : Acc → D := fun a => .lst a.1
abbrev mkS : Acc → D := fun a => .set a.1
abbrev mkDc : Acc → D := fun a => .dct a.1 a.2
abbrev wL (G : Cn) (ex : E) : Acc → Loc → Sto → (Acc → Sto → Prop) → Prop := fun a l st K => wpE G.sub G.C ex l st (fun x st => appR a.1 x fun xs => K (xs, []) st) noE
abbrev wSt (G : Cn) (ex : E) : Acc → Loc → Sto → (Acc → Sto → Prop) → Prop := fun a l st K => wpE G.sub G.C ex l st (fun x st => addR a.1 x fun xs => K (xs, []) st) noE
abbrev wDc (G : Cn) (k v : E) : Acc → Loc → Sto → (Acc → Sto → Prop) → Prop := fun a l st K => wpE G.sub G.C k l st (fun x st => wpE G.sub G.C v l st (fun y st => putR a x y fun a => K a st) noE) noE
/-- a value of a block -/
theorem blk_val {x : Expr} {ex : E} {R : RM} {pins : List (Addr × Obj)} {s : Shared} {σ : L2.St} {H : Hp} {A : List Addr} {l : Loc} {st : Sto} {QE : Value → Shared → Prop} {EE : Value → Shared → Prop} {Qd : KD} {env : Env} (F : Fc G X) (hxe : X.xe = fun _ _ => False) (henv : X.env = env) (h : PE X x (tE G R ex)) (I : Inv X pins σ H s) (r : G.rel A l st σ H)
    (w : wpE G.sub G.C ex l st Qd noE) (q : ∀ v u A' H' s' d st', Inv X pins σ H' s' → RelV v u → Stp A A' H H' → G.rel A' l st' σ H' → R (G.b.up A') H H' v d → Qd d st' → QE u s') : wpAny (model X.prog X.w) X.A (eval x env) QE EE s := by
  have e := h.run pins s σ H (fun v H' => ∃ A' d st', Stp A A' H H' ∧ G.rel A' l st' σ H' ∧ R (G.b.up A') H H' v d ∧ Qd d st') I
    ⟨A, l, st, r, wpE_mono F.C ex (fun d st' w' v A' H' k r' hv => ⟨A', d, st', k, r', hv, w'⟩) (fun _ _ z => z.elim) w⟩
  rw [henv, hxe] at e
  exact thnF e fun u s' ⟨v, H', I', rv, A', d, st', k, r', hv, w'⟩ => q v u A' H' s' d st' I' rv k r' hv w'
theorem body_L {elt : Expr} {ex : E} {k : Nat} {env : Env} (F : Fc G X) (hxe : X.xe = fun _ _ => False) (henv : X.env = env) (hid : Z ∈ G.b.hid) (hk : gens[k]? = none) (h : PE X elt (tE G RF ex)) :
    BodyOk X G Z mkL [] (nextC e gens k (do let _ ← call (.builtin "list.append") [.ref Z, ← eval elt env]) (.ref Z) env) (wL G ex) := by
  intro pins s σ H A a l st Q K QK EE I c fr w hK
  rw [nextC_end hk]
  refine wpAny_bind (wpAny_bind (blk_val F hxe henv h I c.rel w fun v u A' H' s1 d st1 I1 rv k1 r1 hv w1 => ?_))
  have c1 := c.step k1 r1
  cases c1.acc with
  | lst h1 rs =>
    refine wpAny_bind (app_ok I1 h1 (by rw [rs.length]; exact w1.1) rv fun s2 I2 => wpAny_pure ?_)
    refine hK s2 σ _ A' _ st1 I2 .refl (c1.put hid h1 trivial (.lst upd_same ((Reps.wr h1 trivial rs).append (.cons (Rep.wr h1 trivial hv) .nil)))) ((EvD.stp c.rel.obs k1).trans (EvD.wr h1 trivial)) w1.2
theorem body_S {elt : Expr} {ex : E} {k : Nat} {env : Env} (F : Fc G X) (hxe : X.xe = fun _ _ => False) (henv : X.env = env) (hid : Z ∈ G.b.hid) (hk : gens[k]? = none) (h : PE X elt (tE G RF ex)) :
    BodyOk X G Z mkS [] (nextC e gens k (do let v ← eval elt env; standAt elt.pos; let _ ← call (.builtin "set.add") [.ref Z, v]) (.ref Z) env) (wSt G ex) := by
  intro pins s σ H A a l st Q K QK EE I c fr w hK
  rw [nextC_end hk]
  refine wpAny_bind (wpAny_bind (blk_val F hxe henv h I c.rel w fun v u A' H' s1 d st1 I1 rv k1 r1 hv w1 => wpAny_bind (wpAny_standAt (wpAny_bind ?_))))
  have c1 := c.step k1 r1
  obtain ⟨fk, lt, w2⟩ := w1
  have fk' : d.flat = true := fk
  obtain ⟨q, rfl⟩ := flat_kD fk'
  have ev : v = kV q := RepU.key (.inl hv)
  subst ev
  cases c1.acc with
  | set h0 is e1 e2 e3 e5 e6 =>
    rename_i o es ks' kvs
    have ho : s1.heap.get? Z = some o := (I1.hok Z _ h0).1
    have hw : X.w = G.b.w := F.w.symm
    have fl : ∀ k ∈ ks', k.flat = true := fun k m => e6.2 k (e5.mem_iff.mp m)
    obtain ⟨el, mm⟩ := set_elems (P := X.prog) (w := X.w) (by rw [e1, hw]) e2 e3 fl
    have len : es.length = a.1.length := by
      have h1 : es.length = kvs.length := by have := congrArg List.length e1; simpa using this
      rw [h1, e3.length, e5.length_eq]
    refine setK_add (knd := mixKind X.prog X.w) (o := o) (es := es) (kV_is rv) (key_scan rv) ⟨ho, by rw [hw]; exact is⟩ el (by rw [len]; show a.1.length + 1 < 4096; omega) (fun hin => ?_) fun hnin h' o' es' sb sa pm => ?_
    · have m : kD q ∈ a.1 := e5.mem_iff.mp ((mm q).mp hin)
      rw [if_pos m] at w2
      exact wpAny_pure (hK _ σ H' A' (a.1, []) st1 (I1.tok _) .refl ⟨c1.rel, c1.acc, c1.nA, c1.nw⟩ (EvD.stp c.rel.obs k1) w2)
    · have m : kD q ∉ a.1 := fun z => hnin ((mm q).mpr (e5.mem_iff.mpr z))
      rw [if_neg m] at w2
      obtain ⟨kvs', ks'', b1, b2, b3, b4⟩ := perm4 (c := G.b.up A') (H := H') (w := G.b.w) pm (kvs := kvs ++ [kV q]) (ks := ks' ++ [kD q]) (by
        rw [List.map_append, List.map_append, e1]
        show _ ++ [keyH X.w q] = _ ++ [hashV G.b.w (kV q)]
        rw [hashV_key, hw]) (by rw [List.map_append]; exact Vals.append e2 (.cons rv .nil)) (e3.append (.cons hv .nil))
      have I2 := I1.write (x := Z) (e := Z) (t' := s1.toks + 1) (h' := h') (o := Raw Z o') (by rw [h0]; trivial) (.inl rfl) (fun b u hb hu => (sb.2 b hb).trans hu) ⟨_, sa.ho⟩ (rawOk sa.ho)
      refine wpAny_pure (hK _ σ _ A' (a.1 ++ [kD q], []) st1 I2 .refl (c1.put hid h0 trivial ?_) ((EvD.stp c.rel.obs k1).trans (EvD.wr h0 trivial)) w2)
      refine .set upd_same (by rw [← hw]; exact sa.is) b1 b2 (Reps.wr h0 trivial b3) (b4.trans (e5.append_right _)) ⟨nd_snoc e6.1 m, fun k mk => ?_⟩
      rcases List.mem_append.mp mk with z | z
      · exact e6.2 k z
      · obtain rfl : k = kD q := by simpa using z
        exact fk'
theorem body_D {kx vx : Expr} {ek ev : E} {k : Nat} {env : Env} (F : Fc G X) (hxe : X.xe = fun _ _ => False) (henv : X.env = env) (hid : Z ∈ G.b.hid) (hk : gens[k]? = none) (h1 : PE X kx (tE G RF ek)) (h2 : PE X vx (tE G RF ev)) :
    BodyOk X G Z mkDc [] (nextC e gens k (do
        let kv ← eval kx env
        let vv ← holding [kv] (eval vx env)
        standAt { kx.pos with endLine := vx.pos.endLine, endCol := vx.pos.endCol }
        holding [kv, vv] (dictSet Z kv vv)) (.ref Z) env) (wDc G ek ev) := by
  intro pins s σ H A a l st Q K QK EE I c fr w hK
  rw [nextC_end hk]
  refine wpAny_bind (wpAny_bind (blk_val F hxe henv h1 I c.rel w fun v u A1 H1 s1 d st1 I1 rv k1 r1 hv w1 => ?_))
  refine wpAny_bind (wpAny_holding (blk_val F hxe henv h2 I1 r1 w1 fun v2 u2 A2 H2 s2 d2 st2 I2 rv2 k2 r2 hv2 w2 => wpAny_bind (wpAny_standAt (wpAny_holding ?_))))
  have c2 := (c.step k1 r1).step k2 r2
  obtain ⟨fk, lt, w2⟩ := w2
  obtain ⟨q, rfl⟩ := flat_kD (show d.flat = true from fk)
  have ev : v = kV q := RepU.key (.inl hv)
  subst ev
  cases c2.acc with
  | dct h0 e rs nd =>
    rename_i kvs
    have hl : kvs.length = a.1.length := by rw [e, List.length_map]
    refine d_dictSet I2 h0 (by rw [hl]; exact lt) rv rv2 fun s3 I3 => ?_
    have hv2' : Rep (G.b.up A2) H2 v2 d2 := hv2
    refine hK s3 σ _ A2 _ st2 I3 .refl (c2.put hid h0 trivial (.dct upd_same ?_ ?_ ?_)) (((EvD.stp c.rel.obs k1).trans (EvD.stp r1.obs k2)).trans (EvD.wr h0 trivial)) w2
    · rw [put_kvs, ← e]
    · have := reps_put (c := G.b.up A2) (H := upd H2 Z (.dK (putK kvs q v2))) (kvs := kvs) (q := q) (by rw [← e]; exact nd) (Reps.wr h0 trivial rs) (Rep.wr h0 trivial hv2')
      rw [← e] at this
      exact this
    · exact nd_put nd _
end
end Py
end

section
set_option Elab.async false
set_option linter.all false
set_option maxRecDepth 100000
set_option maxHeartbeats 1000000
set_option autoImplicit false
/-! Sim14: comprehensions as expressions, and as what a name takes. -/
namespace Py
open PySem PySem.Spec L2 PyProof.Rows
def Cl.slots : Cl → List Nat
  | .nil => []
  | .for_ t _ _ c => t.slots ++ c.slots
def noSet : Expr → Bool
  | .Set .. => false
  | _ => true
theorem fold_of {e : Expr} {env : Env} (h : noSet e = true) (x : Value) : foldedSetIterable e env x = pure x := by
  cases e <;> first | rfl | exact absurd h Bool.false_ne_true
abbrev emL (elt : Expr) : Addr → Env → Sem Unit := fun Z env => do let _ ← call (.builtin "list.append") [.ref Z, ← eval elt env]
abbrev emS (elt : Expr) : Addr → Env → Sem Unit := fun Z env => do let v ← eval elt env; standAt elt.pos; let _ ← call (.builtin "set.add") [.ref Z, v]
abbrev emD (kx vx : Expr) : Addr → Env → Sem Unit := fun Z env => do
        let kv ← eval kx env
        let vv ← holding [kv] (eval vx env)
        standAt { kx.pos with endLine := vx.pos.endLine, endCol := vx.pos.endCol }
        holding [kv, vv] (dictSet Z kv vv)
/-- no clause is async -/
def noAsync (gens : List Comprehension) : Bool := gens.all fun g => g.is_async == 0
theorem noAsync_at {gens : List Comprehension} (h : noAsync gens = true) {k : Nat} {g : Comprehension} (e : gens[k]? = some g) : g.is_async = 0 := by
  have := List.all_eq_true.mp h g (List.mem_of_getElem? e)
  simpa using this
section
variable {X : Cx} {G : Cn} {tg iter elt kx vx : Expr} {ifs : List Expr} {rest : List Comprehension} {scope : Scope} {own : List (Str × Nat)} {pos : Pos} {t : T} {es : Es} {itx : It} {ownl own1 : List Nat} {W : Acc → Loc → Sto → (Acc → Sto → Prop) → Prop}
/-- the wish behind a list comprehension -/
def tCo (G : Cn) (itx : It) (t : T) (es : Es) (W : Acc → Loc → Sto → (Acc → Sto → Prop) → Prop) (ownl : List Nat) (mk : Acc → D) : TE := fun σ H QV => ∃ A l st, G.rel A l st σ H ∧
  wpI G.sub G.C itx l st (fun xs st => forL xs (clF (G.blk 0) t es W (wipe l ownl)) ([], []) st fun a st' => ∀ Z A' H', Stp A A' H H' → G.rel A' l st' σ H' → RN (G.b.up A') H H' (.ref Z) (mk a) → QV (.ref Z) H') noE
/-- what is asked of a comprehension's parts -/
structure CoOk (X : Cx) (G : Cn) (tg iter : Expr) (ifs : List Expr) (rest : List Comprehension) (scope : Scope) (own : List (Str × Nat)) (t : T) (itx : It) (ownl own1 : List Nat) (W : Acc → Loc → Sto → (Acc → Sto → Prop) → Prop) : Prop where
  F : Fc G X
  hc : X.calm = true
  hN : X.N.Nodup
  ok : BlkOk X.N X.env.scope scope own
  na : noAsync (⟨tg, iter, ifs, 0⟩ :: rest) = true
  hi : PI X tg iter (tI G itx)
  ns : noSet iter = true
  hW : ∀ a l st Q Q', (∀ a st, Q a st → Q' a st) → W a l st Q → W a l st Q'
  dis : ∀ i ∈ own1, i ∉ t.slots
  ho : ∀ i, i ∈ own.map (·.2) → i ∈ ownl
  ho2 : ∀ i ∈ t.slots ++ own1, i ∈ ownl
section
variable {pins : List (Addr × Obj)} {s : Shared} {σ : L2.St} {H : Hp} {pos' : Pos} {use : Option (Value → Sem Unit)} {Qf : Value → Shared → Prop} {QV : VK}
theorem core_L (c : CoOk X G tg iter ifs rest scope own t itx ownl own1 W)
    (hin : ∀ (s : Shared) (H : Hp) (C : Addr) (cl : List (Str × Addr)) (fp : List Addr) (Z : Addr), BlkIn (X.blk s H scope (compEnvC scope cl C X.env) fp) (G.blk Z) (.ListComp elt (⟨tg, iter, ifs, 0⟩ :: rest) scope pos) (⟨tg, iter, ifs, 0⟩ :: rest) (emL elt) tg ifs t es mkL own1 W)
    (I : Inv X pins σ H s) (h : tCo G itx t es W ownl mkL σ H QV)
    (hRR : ∀ Z C s' m H', Inv X pins σ H' s' → QV (.ref Z) H' → s'.heap.Ns C m → FpOk X pins H' C → compPost (model X.prog X.w) X.A X.xe use Qf (.ref Z) C (.ok .next) s') :
    wpAny (model X.prog X.w) X.A (comprehension (.ListComp elt (⟨tg, iter, ifs, 0⟩ :: rest) scope pos) scope X.env pos' (newList []) false (eval iter X.env) use) Qf X.xe s := by
  obtain ⟨A, l, st, r, g⟩ := h
  refine comp_core (mk := mkL) (t := t) (es := es) (own1 := own1) (ownl := ownl) (W := W) (emit := emL elt) (O0 := fun _ => .lst []) (ob := { cls := .type "list", data := .seq #[] 0 }) c.F c.hc c.hN c.ok rfl rfl c.hi (fold_of c.ns) ?_ ?_ ?_ hin ?_ (fun _ => kindL) (fun _ => skL) c.hW c.dis c.ho c.ho2 I r g hRR
  · intro s Q q
    exact wpAny_newObj_type q (by show 0 ≤ sizeLine; decide)
  · intro s H _
    exact ⟨Nat.zero_le _, [], 0, .nil, Heap.get?_push_size _ rfl⟩
  · intro c H p _ e
    exact .lst e .nil
  · intro it Z env
    exact turnL rfl fun g e => noAsync_at c.na e
theorem core_S (c : CoOk X G tg iter ifs rest scope own t itx ownl own1 W)
    (hin : ∀ (s : Shared) (H : Hp) (C : Addr) (cl : List (Str × Addr)) (fp : List Addr) (Z : Addr), BlkIn (X.blk s H scope (compEnvC scope cl C X.env) fp) (G.blk Z) (.SetComp elt (⟨tg, iter, ifs, 0⟩ :: rest) scope pos) (⟨tg, iter, ifs, 0⟩ :: rest) (emS elt) tg ifs t es mkS own1 W)
    (I : Inv X pins σ H s) (h : tCo G itx t es W ownl mkS σ H QV)
    (hRR : ∀ Z C s' m H', Inv X pins σ H' s' → QV (.ref Z) H' → s'.heap.Ns C m → FpOk X pins H' C → compPost (model X.prog X.w) X.A X.xe use Qf (.ref Z) C (.ok .next) s') :
    wpAny (model X.prog X.w) X.A (comprehension (.SetComp elt (⟨tg, iter, ifs, 0⟩ :: rest) scope pos) scope X.env pos' (newSet (.type "set")) false (eval iter X.env) use) Qf X.xe s := by
  obtain ⟨A, l, st, r, g⟩ := h
  refine comp_core (mk := mkS) (t := t) (es := es) (own1 := own1) (ownl := ownl) (W := W) (emit := emS elt) (O0 := fun p => Raw p { cls := .type "set", dict := none, data := .set #[] 0 (.fresh 0 0 (!X.w.params.followText "set-order")) }) (ob := { cls := .type "set", dict := none, data := .set #[] 0 (.fresh 0 0 (!X.w.params.followText "set-order")) }) c.F c.hc c.hN c.ok rfl rfl c.hi (fold_of c.ns) ?_ ?_ ?_ hin ?_ (fun _ => kindS) (fun _ => skS) c.hW c.dis c.ho c.ho2 I r g hRR
  · intro s Q q
    exact PpSet.newSet_ok q
  · intro s H _
    exact rawOk (Heap.get?_push_size _ rfl)
  · intro c H p hw e
    refine .set (es := []) (kvs := []) (ks' := []) e ⟨⟨rfl, rfl, rfl⟩, by decide, 0, _, rfl, rfl, List.Pairwise.nil, ?_⟩ rfl .nil .nil (List.Perm.refl _) ⟨List.nodup_nil, fun k m => by cases m⟩
    rw [hw]
    show _ ∨ (!X.w.params.followText "set-order") = true
    cases X.w.params.followText "set-order"
    · exact .inr rfl
    · exact .inl rfl
  · intro it Z env
    exact turnS rfl fun g e => noAsync_at c.na e
theorem core_D (c : CoOk X G tg iter ifs rest scope own t itx ownl own1 W)
    (hin : ∀ (s : Shared) (H : Hp) (C : Addr) (cl : List (Str × Addr)) (fp : List Addr) (Z : Addr), BlkIn (X.blk s H scope (compEnvC scope cl C X.env) fp) (G.blk Z) (.DictComp kx vx (⟨tg, iter, ifs, 0⟩ :: rest) scope pos) (⟨tg, iter, ifs, 0⟩ :: rest) (emD kx vx) tg ifs t es mkDc own1 W)
    (I : Inv X pins σ H s) (h : tCo G itx t es W ownl mkDc σ H QV)
    (hRR : ∀ Z C s' m H', Inv X pins σ H' s' → QV (.ref Z) H' → s'.heap.Ns C m → FpOk X pins H' C → compPost (model X.prog X.w) X.A X.xe use Qf (.ref Z) C (.ok .next) s') :
    wpAny (model X.prog X.w) X.A (comprehension (.DictComp kx vx (⟨tg, iter, ifs, 0⟩ :: rest) scope pos) scope X.env pos' newDict false (eval iter X.env) use) Qf X.xe s := by
  obtain ⟨A, l, st, r, g⟩ := h
  refine comp_core (mk := mkDc) (t := t) (es := es) (own1 := own1) (ownl := ownl) (W := W) (emit := emD kx vx) (O0 := fun _ => .dK []) (ob := { cls := .type "dict", data := .dict #[] }) c.F c.hc c.hN c.ok rfl rfl c.hi (fold_of c.ns) ?_ ?_ ?_ hin ?_ (fun _ => kindD) (fun _ => skD) c.hW c.dis c.ho c.ho2 I r g hRR
  · intro s Q q
    exact wpAny_newObj_type q
  · intro s H hb
    exact dk_empty s.heap hb
  · intro c H p _ e
    exact .dct e rfl .nil List.nodup_nil
  · intro it Z env
    exact turnD rfl fun g e => noAsync_at c.na e
end
theorem PE.co {x : Expr} {tt : TE} (h : ∀ (pins : List (Addr × Obj)) (s : Shared) (σ : L2.St) (H : Hp) (Q : VK), Inv X pins σ H s → tt σ H Q → ∃ (e : Expr) (sc : Scope) (p : Pos) (nw f : Sem Value), eval x X.env = comprehension e sc X.env p nw false f none ∧
    ∀ Qf : Value → Shared → Prop, (∀ Z C s' m H', Inv X pins σ H' s' → Q (.ref Z) H' → s'.heap.Ns C m → FpOk X pins H' C → compPost (model X.prog X.w) X.A X.xe none Qf (.ref Z) C (.ok .next) s') → wpAny (model X.prog X.w) X.A (comprehension e sc X.env p nw false f none) Qf X.xe s) : PE X x tt := by
  refine ⟨fun pins s σ H Q I hw => ?_⟩
  obtain ⟨e, sc, p, nw, f, he, hc⟩ := h pins s σ H Q I hw
  rw [he]
  refine hc _ fun D C s' m H' I' q hn f => ⟨m, hn, fun h'' sb => ?_⟩
  obtain ⟨f0, f1, f2, f3, f4, f5⟩ := f
  exact ⟨.ref D, H', I'.turned (t' := s'.toks) (fun b o hb e => (sb.2 b hb).trans e) f0 f1 f3 f4 f5, rfl, q⟩
theorem wL_mono (F : Fc G X) (ex : E) : ∀ a l st K K', (∀ a st, K a st → K' a st) → wL G ex a l st K → wL G ex a l st K' := fun a l st K K' h g => wpE_mono F.C ex (fun x st => appR_mono fun xs => h _ _) (fun _ _ z => z) g
theorem wS_mono (F : Fc G X) (ex : E) : ∀ a l st K K', (∀ a st, K a st → K' a st) → wSt G ex a l st K → wSt G ex a l st K' := fun a l st K K' h g => wpE_mono F.C ex (fun x st => addR_mono fun xs => h _ _) (fun _ _ z => z) g
theorem wD_mono (F : Fc G X) (k v : E) : ∀ a l st K K', (∀ a st, K a st → K' a st) → wDc G k v a l st K → wDc G k v a l st K' := fun a l st K K' h g => wpE_mono F.C k (fun x st => wpE_mono F.C v (fun y st => putR_mono fun p => h _ _) (fun _ _ z => z)) (fun _ _ z => z) g
theorem tCo_E {σ : L2.St} {H : Hp} {QQ : VK} {ex : E} {c : Cl} {mk : Acc → D} (F : Fc G X) (hmk : ∀ a, (mk a).isCon = true) {Wf : Acc → Loc → Sto → (Acc → Sto → Prop) → Prop} (hWf : ∀ a l st K K', (∀ a st, K a st → K' a st) → Wf a l st K → Wf a l st K')
    (hw : ∀ l st Q X, wpE G.sub G.C ex l st Q X = wpC G.sub G.C (.for_ t itx es c) ownl Wf ([], []) l st fun a st => Q (mk a) st)
    (h : tE G RX ex σ H QQ) : tCo G itx t es (wpD G.sub G.C c Wf) ownl mk σ H QQ := by
  obtain ⟨A, l, st, r, g⟩ := h
  rw [hw] at g
  exact ⟨A, l, st, r, wpC_mono F.C (.for_ t itx es c) (Q' := fun a st' => ∀ Z A' H', Stp A A' H H' → G.rel A' l st' σ H' → RN (G.b.up A') H H' (.ref Z) (mk a) → QQ (.ref Z) H') hWf (fun a st q Z A' H' k r' hn => q _ A' H' k r' ⟨fun _ => hn, fun z => absurd ((hmk a).symm.trans z) (by decide)⟩) g⟩
section
variable {c : Cl} {ex ek ev : E}
theorem s_lc (cc : CoOk X G tg iter ifs rest scope own t itx ownl c.slots (wpD G.sub G.C c (wL G ex)))
    (hin : ∀ (s : Shared) (H : Hp) (C : Addr) (cl : List (Str × Addr)) (fp : List Addr) (Z : Addr), BlkIn (X.blk s H scope (compEnvC scope cl C X.env) fp) (G.blk Z) (.ListComp elt (⟨tg, iter, ifs, 0⟩ :: rest) scope pos) (⟨tg, iter, ifs, 0⟩ :: rest) (emL elt) tg ifs t es mkL c.slots (wpD G.sub G.C c (wL G ex))) :
    PE X (.ListComp elt (⟨tg, iter, ifs, 0⟩ :: rest) scope pos) (tE G RX (.lc ownl ex (.for_ t itx es c))) :=
  PE.co fun pins s σ H Q I h => ⟨_, _, _, _, _, rfl, fun Qf hRR => core_L cc hin I (tCo_E cc.F (fun _ => rfl) (wL_mono cc.F ex) (fun _ _ _ _ => rfl) h) hRR⟩
theorem s_sc (cc : CoOk X G tg iter ifs rest scope own t itx ownl c.slots (wpD G.sub G.C c (wSt G ex)))
    (hin : ∀ (s : Shared) (H : Hp) (C : Addr) (cl : List (Str × Addr)) (fp : List Addr) (Z : Addr), BlkIn (X.blk s H scope (compEnvC scope cl C X.env) fp) (G.blk Z) (.SetComp elt (⟨tg, iter, ifs, 0⟩ :: rest) scope pos) (⟨tg, iter, ifs, 0⟩ :: rest) (emS elt) tg ifs t es mkS c.slots (wpD G.sub G.C c (wSt G ex))) :
    PE X (.SetComp elt (⟨tg, iter, ifs, 0⟩ :: rest) scope pos) (tE G RX (.sc ownl ex (.for_ t itx es c))) :=
  PE.co fun pins s σ H Q I h => ⟨_, _, _, _, _, rfl, fun Qf hRR => core_S cc hin I (tCo_E cc.F (fun _ => rfl) (wS_mono cc.F ex) (fun _ _ _ _ => rfl) h) hRR⟩
theorem s_dc (cc : CoOk X G tg iter ifs rest scope own t itx ownl c.slots (wpD G.sub G.C c (wDc G ek ev)))
    (hin : ∀ (s : Shared) (H : Hp) (C : Addr) (cl : List (Str × Addr)) (fp : List Addr) (Z : Addr), BlkIn (X.blk s H scope (compEnvC scope cl C X.env) fp) (G.blk Z) (.DictComp kx vx (⟨tg, iter, ifs, 0⟩ :: rest) scope pos) (⟨tg, iter, ifs, 0⟩ :: rest) (emD kx vx) tg ifs t es mkDc c.slots (wpD G.sub G.C c (wDc G ek ev))) :
    PE X (.DictComp kx vx (⟨tg, iter, ifs, 0⟩ :: rest) scope pos) (tE G RX (.dc ownl ek ev (.for_ t itx es c))) :=
  PE.co fun pins s σ H Q I h => ⟨_, _, _, _, _, rfl, fun Qf hRR => core_D cc hin I (tCo_E cc.F (fun _ => rfl) (wD_mono cc.F ek ev) (fun _ _ _ _ => rfl) h) hRR⟩
end
end
end Py
end

section
set_option Elab.async false
set_option linter.all false
set_option maxRecDepth 100000
set_option maxHeartbeats 1000000
set_option autoImplicit false
/-! Sim15: slices, ranges of two, displays of dicts, c_set, calls of defs. -/
namespace Py
open PySem PySem.Spec L2 PyProof.Rows
section
variable {X : Cx} {G : Cn} {a b : Expr} {ea eb : E} {p p2 pos : Pos} {tg : Expr}

/-! ### slices -/
def tO (G : Cn) (o : Oe) : TO := fun σ H QQ => ∃ A l st, G.rel A l st σ H ∧
  wpO G.sub G.C o l st (fun u st' => endR u fun i => ∀ A' H', Stp A A' H H' → G.rel A' l st' σ H' → QQ i H') fun x st' => G.EX x l st'
theorem PO.mono {e : Option Expr} {t t' : TO} (h : PO X e t) (m : ∀ σ H Q, t' σ H Q → t σ H Q) : PO X e t' := ⟨fun pins s σ H Q I hw => h.run pins s σ H Q I (m σ H Q hw)⟩
theorem o_none : PO X none (tO G .none) := PO.mono po_none fun σ H Q ⟨A, l, st, r, g⟩ => by
  simp only [wpO, endR] at g
  exact g A H (Stp.refl _ _) r
theorem o_some (F : Fc G X) (h : PE X a (tE G RU ea)) : PO X (some a) (tO G (.some ea)) := PO.mono (po_some h) fun σ H Q ⟨A, l, st, r, g⟩ => by
  simp only [wpO] at g
  refine ⟨A, l, st, r, wpE_mono F.C ea (fun d st1 g1 v A1 H1 k1 r1 hx => ?_) (fun _ _ q => q) g⟩
  cases d <;> simp only [endR] at g1
  exact ⟨_, hx.int, g1 A1 H1 k1 r1⟩
theorem s_sl {lo hi : Option Expr} {ol oh : Oe} (F : Fc G X) (ha : PE X a (tE G RU ea)) (hl : PO X lo (tO G ol)) (hh : PO X hi (tO G oh)) : PE X (.Subscript a (.Slice lo hi none p2) pos) (tE G RX (.sl ea ol oh)) := by
  refine PE.mono (pe_slice (sl_U (c := G.b) F.K) ha hl hh) ?_
  rintro σ H QQ ⟨A, l, st, r, g⟩
  simp only [wpE] at g
  refine ⟨A, l, st, r, wpE_mono F.C ea (fun dx st1 g1 x A1 H1 k1 r1 hx => ?_) (fun _ _ q => q) g⟩
  refine ⟨A1, l, st1, r1, wpO_mono F.C ol (fun u st2 g2 => ?_) (fun _ _ q => q) g1⟩
  refine endR_mono (fun u g2 A2 H2 k2 r2 => ?_) g2
  refine ⟨A2, l, st2, r2, wpO_mono F.C oh (fun u st3 g3 => ?_) (fun _ _ q => q) g2⟩
  refine endR_mono (fun u g3 A3 H3 k3 r3 => ?_) g3
  exact ⟨A3, dx, _, r3.obs, r2.keepU k3 (r1.keepU k2 hx), g3, fun d v H' q n hv => q v A3 H' (k1.trans (k2.trans (k3.trans n.stp))) (n.rel r3) (hv.back (k1.trans (k2.trans k3)))⟩

/-! ### ranges -/
theorem wpEs_mono' (F : Fc G X) (es : Es) {l : Loc} {st : Sto} {Q Q' : List D → Sto → Prop} {E : KD} (h : ∀ ds st, ds.length = es.len → Q ds st → Q' ds st) (g : wpEs G.sub G.C es l st Q E) : wpEs G.sub G.C es l st Q' E :=
  wpEs_mono F.C es (fun ds st q => h ds st q.1 q.2) (fun _ _ q => q) (wpEs_len F.C es g)
theorem i_r1 (F : Fc G X) (hg : Gl X "range") (hm : X.mg "range" = none) (ns : noStar a = true) (ha : PE X a (tE G RU ea)) : PI X tg (.Call (.Name "range" p) [a] [] pos) (tI G (.rg (.cons ea .nil))) := by
  have h := pi_range1 (tg := tg) (p := p) (pos := pos) hg hm (s_consU F ha s_nilU (star_of ns)) (star_of ns)
  refine ⟨fun pins s σ H R I hw => h.run pins s σ H R I ?_⟩
  obtain ⟨A, l, st, r, g⟩ := hw
  simp only [wpI] at g
  refine ⟨A, l, st, r, wpEs_mono' F _ (fun ds st1 hl g1 vs A1 H1 k1 r1 hx => ?_) g⟩
  simp only [Es.len] at hl
  match ds, hl, g1, hx with
  | [d], _, g1, hx =>
    obtain ⟨v, rfl, hv⟩ := paired1 hx
    cases d <;> simp only [rgR] at g1
    have hz := small62_of g1.1
    exact ⟨_, by rw [hv.int], hz.1, hz.2, g1.2 _ A1 H1 [] k1 r1 goes_rng⟩
theorem len2 {α : Type} : ∀ {l : List α}, l.length = 2 → ∃ a b, l = [a, b]
  | [a, b], _ => ⟨a, b, rfl⟩
theorem i_r2 (F : Fc G X) (hg : Gl X "range") (hm : X.mg "range" = none) (ns : noStar a = true) (ns' : noStar b = true) (ha : PE X a (tE G RU ea)) (hb : PE X b (tE G RU eb)) : PI X tg (.Call (.Name "range" p) [a, b] [] pos) (tI G (.rg (.cons ea (.cons eb .nil)))) := by
  have hs2 : starEach [b] X.env = [(false, eval b X.env)] := star_of ns'
  have hs : starEach [a, b] X.env = [(false, eval a X.env), (false, eval b X.env)] := by rw [star_of ns, hs2]
  have h := pi_range2 (tg := tg) (p := p) (pos := pos) hg hm (s_consU F ha (s_consU F hb s_nilU (star_of ns')) (star_of ns)) hs hs2
  refine ⟨fun pins s σ H R I hw => h.run pins s σ H R I ?_⟩
  obtain ⟨A, l, st, r, g⟩ := hw
  simp only [wpI] at g
  refine ⟨A, l, st, r, wpEs_mono' F _ (fun ds st1 hl g1 vs A1 H1 k1 r1 hx => ?_) g⟩
  simp only [Es.len] at hl
  obtain ⟨d, d', rfl⟩ := len2 hl
  cases hx with
  | cons hx hy =>
    cases hy with
    | cons hy hn =>
      cases hn
      unfold rgR at g1
      split at g1
      · rename_i e; cases e
      · rename_i e
        cases e
        have hz := small62_of g1.1.1
        have hz' := small62_of g1.1.2
        exact ⟨_, _, by rw [hx.int, hy.int], ⟨hz.1, hz.2, hz'.1, hz'.2⟩, g1.2 _ A1 H1 [] k1 r1 goes_rng⟩
      · exact g1.elim

/-! ### displays of dicts, the keys constants -/
def keysOf : Es → Option (List Key)
  | .nil => some []
  | .cons (.cst (.int i)) es => (keysOf es).map (.inl i :: ·)
  | .cons (.cst (.str x)) es => (keysOf es).map (.inr x :: ·)
  | .cons _ _ => none
theorem keysOf_wp {sub : Str → Str → Bool} {C : CallS} : ∀ {ks : Es} {qs : List Key}, keysOf ks = some qs → ∀ {l : Loc} {st : Sto} {Q : List D → Sto → Prop} {E : KD}, wpEs sub C ks l st Q E → Q (qs.map kD) st
  | .nil, qs, h, l, st, Q, E, g => by
    simp only [keysOf, Option.some.injEq] at h
    subst h
    simp only [wpEs] at g
    exact g
  | .cons e es, qs, h, l, st, Q, E, g => by
    cases e <;> try simp only [keysOf, reduceCtorEq] at h
    rename_i d
    cases d <;> simp only [keysOf, reduceCtorEq] at h
    · obtain ⟨qs', h1, rfl⟩ := Option.map_eq_some_iff.mp h
      simp only [wpEs, wpE] at g
      exact keysOf_wp h1 g
    · obtain ⟨qs', h1, rfl⟩ := Option.map_eq_some_iff.mp h
      simp only [wpEs, wpE] at g
      exact keysOf_wp h1 g
def trsOf (G : Cn) : List Key → Es → List (TE × TE)
  | q :: qs, .cons e es => ((fun _ H Q => Q (kV q) H), tE G RF e) :: trsOf G qs es
  | _, _ => []
theorem pairs_run (F : Fc G X) {l : Loc} : ∀ (qs : List Key) (vs : Es) {σ : L2.St} {H : Hp} {A : List Addr} {st : Sto} {Q : List (V × V) → Hp → Prop}, qs.length = vs.len → G.rel A l st σ H →
    wpEs G.sub G.C vs l st (fun ds st' => ∀ zs A' H', Stp A A' H H' → G.rel A' l st' σ H' → Reps (G.b.up A') H' zs ds → Q ((qs.zip zs).map fun p => (kV p.1, p.2)) H') (fun x st' => G.EX x l st') → tPairs (trsOf G qs vs) σ H Q
  | [], .nil, σ, H, A, st, Q, _, r, g => by
    simp only [wpEs] at g
    exact g [] A H (Stp.refl _ _) r .nil
  | q :: qs, .cons e es, σ, H, A, st, Q, hl, r, g => by
    simp only [wpEs] at g
    refine ⟨A, l, st, r, wpE_mono F.C e (fun d st1 g1 v A1 H1 k1 r1 hx => ?_) (fun _ _ q => q) g⟩
    refine pairs_run F qs es (by simpa [Es.len] using hl) r1 (wpEs_mono F.C es (fun ds st2 g2 zs A2 H2 k2 r2 hz => ?_) (fun _ _ q => q) g1)
    exact g2 (v :: zs) A2 H2 (k1.trans k2) r2 (.cons (Rep.keep (c := G.b.up A1) r1.obs k2 hx) hz)
  | [], .cons _ _, _, _, _, _, _, hl, _, _ => by simp [Es.len] at hl
  | _ :: _, .nil, _, _, _, _, _, hl, _, _ => by simp [Es.len] at hl
theorem s_dict {keys : List (Option Expr)} {values : List Expr} {ks vs : Es} {qs : List Key} (F : Fc G X) (hk : keysOf ks = some qs) (hl : qs.length = vs.len) (h : PPs X pos keys values (trsOf G qs vs)) (hall : keys.all (·.isSome) = true) (hlen : keys.length = values.length) (h0 : keys ≠ []) (h15 : keys.length ≤ 15) (hq : qs.length ≤ 15) :
    PE X (.Dict keys values pos) (tE G RX (.dict ks vs)) := by
  refine PE.mono (pe_disp h hall hlen h0 h15) ?_
  rintro σ H QQ ⟨A, l, st, r, g⟩ p hp
  simp only [wpE] at g
  have g1 := keysOf_wp hk g
  have r1 := r.new (o := .dK []) hp
  refine pairs_run F qs vs hl r1 (wpEs_mono' F vs (fun ds st2 hd g2 zs A2 H2 k2 r2 hz => ?_) g1)
  have nA : p ∉ A := Obs.fresh r.obs hp
  obtain ⟨e2, nA2⟩ := k2.keep p _ upd_same nA
  have kk : Stp A A2 H H2 := (Stp.new hp).trans k2
  have lz : zs.length = qs.length := by rw [hz.length, hd, hl]
  refine ⟨e2, qs.zip zs, rfl, by rw [List.length_zip, lz, Nat.min_self]; exact hq, ?_⟩
  obtain ⟨r3, k3⟩ := Cn.rel.wrNew (o := .dK (mergeK [] (qs.zip zs))) r kk r2 hp nA2 e2 trivial
  have e1 : (qs.zip zs).map (·.2) = zs := by rw [List.map_snd_zip (by omega)]
  have e0 : (qs.zip zs).map (fun p => kD p.1) = qs.map kD := by
    have : (qs.zip zs).map (fun p => kD p.1) = ((qs.zip zs).map (·.1)).map kD := by simp
    rw [this, List.map_fst_zip (by omega)]
  obtain ⟨m1, m2, m3⟩ := merge_reps (c := G.b.up A2) (H := H2) (qs.zip zs) (kvs := []) (vs := []) (by rw [e1]; exact hz) List.nodup_nil .nil
  rw [e0] at m1 m2
  refine g2.2 _ A2 _ k3 r3 ⟨fun _ => ⟨.dct upd_same m1.symm (Reps.wr e2 trivial m2) (by have m4 := m3; rw [m1] at m4; exact m4), p, rfl, nA2, hp⟩, fun z => by cases z⟩
end
end Py
end

section
set_option Elab.async false
set_option linter.all false
set_option maxRecDepth 100000
set_option maxHeartbeats 1000000
set_option autoImplicit false
/-! Sim16: calls of defs. -/
namespace Py
open PySem PySem.Spec L2 PyProof.Rows
/-- the class and the dict of an exception that stands for x -/
def RepX (c : RC) (H : Hp) (cls : Value) (dd : Option Addr) (x : D) : Prop :=
  ∃ nm d C dx w, x = .exc nm d ∧ c.xc nm C ∧ cls = .ref C ∧ dd = some dx ∧ H dx = some (.xd [("value", w)]) ∧ Rep c H w d
theorem RepX.hide {c : RC} {H : Hp} (hs : List Addr) {cls : Value} {dd : Option Addr} {x : D} (h : RepX c H cls dd x) : RepX (c.hide hs) H cls dd x := by
  obtain ⟨nm, d, C, dx, w, h1, h2, h3, h4, h5, h6⟩ := h
  exact ⟨nm, d, C, dx, w, h1, h2, h3, h4, h5, Rep.hide hs h6⟩
/-- what a def promises: what C says -/
def spF (c : RC) (C : CallS) (f : Str) : Sp := fun vs H Q E => ∃ A st ds, StoOk (c.up A) st H ∧ Reps (c.up A) H vs ds ∧
  C f ds st (fun d st' => ∀ v A' H', Stp A A' H H' → StoOk (c.up A') st' H' → Rep (c.up A') H' v d → Q v H') fun x st' => ∀ cls dd A' H', Stp A A' H H' → StoOk (c.up A') st' H' → RepX (c.up A') H' cls dd x → E cls dd H'
/-- what is wanted of an exception here -/
def exK (G : Cn) : L2.St → XK := fun σ cls dd H => ∃ x l st A, G.rel A l st σ H ∧ RepX (G.b.up A) H cls dd x ∧ G.EX x l st
section
variable {X : Cx} {G : Cn} {x : Expr} {xs : List Expr} {es : Es} {p pos : Pos} {k i : Nat} {f nm : Str} {a : Addr} {fd : FuncData} {ps ks : List Str} {kws : List Keyword}
/-- a def that may be called -/
structure FnAt (X : Cx) (G : Cn) (f : Str) (a : Addr) (k : Nat) (fd : FuncData) (ps : List Str) : Prop where
  mg : X.mg f = some (.ref a)
  bg : G.b.mg f = some (.ref a)
  kp : PySem.W.keepIn X.K (.ref a) = true
  bi : Binds X.K fd ps []
  fn : FnG X.prog X.w X.K X.mg X.base (L2.CX X.prog X.w) k a fd ps (spF (G.b.hide []) G.C f)
  rm : Room k X.A
theorem sp_of (F : Fc G X) {A0 A : List Addr} {l : Loc} {st : Sto} {σ : L2.St} {H0 H : Hp} {vs : List V} {ds : List D} {QQ : VK} (k1 : Stp A0 A H0 H) (r : G.rel A l st σ H) (hv : Reps (G.b.up A) H vs ds)
    (g : G.C f ds st (fun d st' => ∀ v A' H', Stp A0 A' H0 H' → G.rel A' l st' σ H' → RF (G.b.up A') H0 H' v d → QQ v H') fun x st' => G.EX x l st') : spF (G.b.hide []) G.C f vs H QQ (exK G σ) := by
  refine ⟨A, st, ds, StoOk.hide (c := G.b.up A) [] r.sto, Reps.hide (c := G.b.up A) [] hv, F.C _ _ _ _ _ _ _ (fun d st' q v A' H' k2 s' h => ?_) (fun x st' q cls dd A' H' k2 s' h => ?_) g⟩
  · exact q v A' H' (k1.trans k2) (r.step k2 (StoOk.hide (c := (G.b.hide []).up A') G.b.hid s')) (Rep.hide (c := (G.b.hide []).up A') G.b.hid h)
  · exact ⟨x, l, st', A', r.step k2 (StoOk.hide (c := (G.b.hide []).up A') G.b.hid s'), RepX.hide (c := (G.b.hide []).up A') G.b.hid h, q⟩
theorem run_at (A : FnAt X G f a k fd ps) (hgd : X.A.guards = some []) (hx : ∀ σ, PassesAt (L2.CX X.prog X.w) X σ (exK G σ)) {pins : List (Addr × Obj)} {s : Shared} {σ : L2.St} {H : Hp} {us : List Value} {vs : List V} {QQ : VK} (I : Inv X pins σ H s) (r : Vals vs us)
    (h : spF (G.b.hide []) G.C f vs H QQ (exK G σ)) : wpAny (model X.prog X.w) X.A (call (.ref a) us []) (EP X pins σ QQ) X.xe s := by
  have hl : us.length = ps.length := by rw [← r.length]; exact A.fn.len _ _ _ _ h
  have b := A.bi s us I.kIn (by rw [List.append_nil]; exact hl)
  rw [List.append_nil] at b
  exact run_fnG (args := ⟨us, []⟩) A.fn A.rm hgd b (hx σ) I r h
theorem s_call (F : Fc G X) (A : FnAt X G f a k fd ps) (hgd : X.A.guards = some []) (hx : ∀ σ, PassesAt (L2.CX X.prog X.w) X σ (exK G σ)) (hg : Gl X f) (hdb : (f == ("__debug__" : Str)) = false) (ha : PA X (x :: xs) (tEs G RLF es)) (ns : (x :: xs).all noStar = true) :
    PE X (.Call (.Name f p) (x :: xs) [] pos) (tE G RF (.call f es)) := by
  rw [List.all_cons, Bool.and_eq_true] at ns
  refine ⟨fun pins s σ H Q I h => ?_⟩
  obtain ⟨A0, l, st, r, g⟩ := h
  simp only [wpE] at g
  refine wpAny_Call_Name_kw (ld_glob I hg A.mg ?_ hdb)
  refine PySem.W.callWith_K (h₀ := X.base) I.ok.mod.kin A.kp (thn (ha.run pos pins s σ H (fun vs H1 => spF (G.b.hide []) G.C f vs H1 Q (exK G σ)) I ⟨A0, l, st, r, wpEs_mono F.C es (fun ds st1 g1 vs A1 H1 k1 r1 hv => sp_of F k1 r1 hv g1) (fun _ _ q => q) g⟩)
    fun us s1 ⟨vs, H1, I1, r, q⟩ => ⟨I1.kIn, run_at A hgd hx I1 r q⟩) (star_of ns.1) (any_of ns.2)
theorem s_call0 (F : Fc G X) (A : FnAt X G f a k fd ps) (hgd : X.A.guards = some []) (hx : ∀ σ, PassesAt (L2.CX X.prog X.w) X σ (exK G σ)) (hg : Gl X f) (hdb : (f == ("__debug__" : Str)) = false) : PE X (.Call (.Name f p) [] [] pos) (tE G RF (.call f .nil)) := by
  refine ⟨fun pins s σ H Q I h => ?_⟩
  obtain ⟨A0, l, st, r, g⟩ := h
  simp only [wpE, wpEs] at g
  refine wpAny_Call_Name_kw (ld_glob I hg A.mg ?_ hdb)
  exact PySem.W.callWith_K0 I.kIn A.kp (run_at (us := []) (vs := []) A hgd hx I .nil (sp_of F (Stp.refl _ _) r .nil g))

/-! ### keywords -/
theorem PK.mono {t t' : TA} (h : PK X kws t) (m : ∀ σ H Q, t' σ H Q → t σ H Q) : PK X kws t' := ⟨fun pos pins s σ H Q I hw => h.run pos pins s σ H Q I (m _ _ _ hw)⟩
theorem k_nil : PK X [] (tEs G RLF .nil) := PK.mono pk_nil fun σ H QQ ⟨A, l, st, r, g⟩ => by
  simp only [wpEs] at g
  exact g [] A H (Stp.refl _ _) r .nil
theorem k_cons {nm : Option Str} {kpos : Pos} {e : E} (F : Fc G X) (ha : PE X x (tE G RF e)) (hr : PK X kws (tEs G RLF es)) : PK X (⟨nm, x, kpos⟩ :: kws) (tEs G RLF (.cons e es)) := by
  refine PK.mono (pk_cons ha hr) ?_
  rintro σ H QQ ⟨A, l, st, r, g⟩
  simp only [wpEs] at g
  refine ⟨A, l, st, r, wpE_mono F.C e (fun d st1 g1 v A1 H1 k1 r1 hx => ?_) (fun _ _ q => q) g⟩
  refine ⟨A1, l, st1, r1, wpEs_mono F.C es (fun ds st2 g2 vs A2 H2 k2 r2 hv => ?_) (fun _ _ q => q) g1⟩
  exact g2 (v :: vs) A2 H2 (k1.trans k2) r2 (.cons (Rep.keep (c := G.b.up A1) r1.obs k2 hx) hv)
def pickG {α : Type} (d : α) (l : List α) (pm : List Nat) : List α := pm.map fun j => l.getD j d
theorem vals_pick {vs : List V} {us : List Value} (r : Vals vs us) : ∀ pm : List Nat, Vals (pickG V.non vs pm) (pickG Value.none us pm)
  | [] => .nil
  | j :: pm => .cons (by
      have : ∀ {vs : List V} {us : List Value} (j : Nat), Vals vs us → RelV (vs.getD j V.non) (us.getD j Value.none) := by
        intro vs us j r
        induction r generalizing j with
        | nil => simp; rfl
        | cons a b ih =>
          cases j with
          | zero => simpa using a
          | succ j => simpa using ih j
      exact this j r) (vals_pick r pm)
theorem reps_pick {c : RC} {H : Hp} {vs : List V} {ds : List D} (r : Reps c H vs ds) : ∀ pm : List Nat, Reps c H (pickG V.non vs pm) (pick ds pm)
  | [] => .nil
  | j :: pm => .cons (by
      have : ∀ {vs : List V} {ds : List D} (j : Nat), Reps c H vs ds → Rep c H (vs.getD j V.non) (ds.getD j D.none) := by
        intro vs
        induction vs with
        | nil => intro ds j r; cases r; simp; exact .non
        | cons v vs ih =>
          intro ds j r
          cases r with
          | cons a b =>
            cases j with
            | zero => simpa using a
            | succ j => simpa using ih j b
      exact this j r) (reps_pick r pm)
/-- a def that is called with keywords alone -/
structure KwAt (X : Cx) (fd : FuncData) (ps ks : List Str) (pm : List Nat) : Prop where
  to : ∀ (s : Shared) (ws : List Value), X.K.In s.heap → ws.length = ks.length → BindsTo s fd ⟨[], ks.zip ws⟩ (ps.zip (pickG Value.none ws pm))
theorem s_callK (F : Fc G X) {pm : List Nat} (A : FnAt X G f a k fd ps) (B : KwAt X fd ps ks pm) (hgd : X.A.guards = some []) (hx : ∀ σ, PassesAt (L2.CX X.prog X.w) X σ (exK G σ)) (hg : Gl X f) (hdb : (f == ("__debug__" : Str)) = false) (ha : PK X kws (tEs G RLF es))
    (hall : (backToKw pos (keywordEach kws X.env)).all (·.1.isSome) = true) (hks : (backToKw pos (keywordEach kws X.env)).filterMap (·.1) = ks) (hpl : (backToKw pos (keywordEach kws X.env)).any (·.1.isNone) = false) (hlen : es.len = ks.length) :
    PE X (.Call (.Name f p) [] kws pos) (tE G RF (.callK f 0 es pm)) := by
  refine ⟨fun pins s σ H Q I h => ?_⟩
  obtain ⟨A0, l, st, r, g⟩ := h
  simp only [wpE] at g
  refine wpAny_Call_Name_kw (ld_glob I hg A.mg ?_ hdb)
  refine PySem.W.callWith_KW0 (h₀ := X.base) I.ok.mod.kin A.kp hall (thn (ha.run pos pins s σ H (fun vs H1 => vs.length = ks.length ∧ spF (G.b.hide []) G.C f (pickG V.non vs pm) H1 Q (exK G σ)) I ⟨A0, l, st, r, wpEs_mono' F es (fun ds st1 hl g1 vs A1 H1 k1 r1 hv => ⟨by rw [hv.length, hl, hlen], sp_of F k1 r1 (reps_pick hv pm) g1⟩) g⟩)
    fun ws s1 ⟨zs, H1, I1, rz, hl, q⟩ => ⟨I1.kIn, ?_⟩) (by rw [hpl]; rfl)
  rw [hks]
  exact run_fnG (args := ⟨[], ks.zip ws⟩) A.fn A.rm hgd (B.to s1 ws I1.kIn (by rw [← rz.length]; exact hl)) (hx σ) I1 (vals_pick rz pm) q

/-! ### the def that a name holds -/
theorem s_callV (F : Fc G X) (hA : ∀ f a ds st Q E, G.b.mg f = some (.ref a) → G.C f ds st Q E → ∃ k fd ps, FnAt X G f a k fd ps) (hkp : ∀ f a, G.b.mg f = some (.ref a) → PySem.W.keepIn X.K (.ref a) = true) (hgd : X.A.guards = some []) (hx : ∀ σ, PassesAt (L2.CX X.prog X.w) X σ (exK G σ)) (hN : X.N[i]? = some nm) (hv : Vis X.env.scope nm) (hm : md G.Γ i = .F)
    (hdb : (nm == ("__debug__" : Str)) = false) (hcd : (nm == ("__classdict__" : Str)) = false) (ha : PA X (x :: xs) (tEs G RLF es)) (ns : (x :: xs).all noStar = true) : PE X (.Call (.Name nm p) (x :: xs) [] pos) (tE G RF (.callV i es)) := by
  rw [List.all_cons, Bool.and_eq_true] at ns
  refine ⟨fun pins s σ H Q I h => ?_⟩
  obtain ⟨A0, l, st, r, g⟩ := h
  simp only [wpE] at g
  obtain ⟨d, e, g⟩ := getL_some g
  cases d <;> simp only at g
  rename_i f
  obtain ⟨v, e1, e2⟩ := r.slot i _ e
  rw [hm] at e2
  cases e2 with
  | fn hb =>
    rename_i a
    refine wpAny_Call_Name_kw (thn ((pe_var (pos := p) hN hv hdb hcd).run pins s σ H (fun v H1 => v = .ref a ∧ H1 = H) I ⟨.ref a, e1, rfl, rfl⟩) fun u s1 ⟨v, H1, I1, r1, q1⟩ => ?_)
    obtain ⟨rfl, rfl⟩ := q1
    cases r1
    refine PySem.W.callWith_K (h₀ := X.base) I.ok.mod.kin (hkp f a hb) (thn (ha.run pos pins s1 σ H1 (fun vs H1 => (∃ k fd ps, FnAt X G f a k fd ps) ∧ spF (G.b.hide []) G.C f vs H1 Q (exK G σ)) I1 ⟨A0, l, st, r, wpEs_mono F.C es (fun ds st1 g1 vs A1 H1 k1 r1 hv => ⟨hA f a _ _ _ _ hb g1, sp_of F k1 r1 hv g1⟩) (fun _ _ q => q) g⟩)
      fun us s1 ⟨vs, H1, I1, r, ⟨k, fd, ps, A⟩, q⟩ => ⟨I1.kIn, run_at A hgd hx I1 r q⟩) (star_of ns.1) (any_of ns.2)
end
end Py
end

section
set_option Elab.async false
set_option linter.all false
set_option maxRecDepth 100000
set_option maxHeartbeats 3200000
set_option autoImplicit false
/-! Sim17: set(..) of a list of flat keys (the steps of the call are turned from PyProof's call_set_list and HandS's set_update_ints). -/
namespace Py
open PySem PySem.Spec L2 PyProof.Rows
/-- a set of the keys qs -/
def SetQ (w : World) (h : Heap) (a : Addr) (qs : List Key) : Prop :=
  ∃ (o : Obj) (es : List (Int × Value)) (qs' : List Key), SetAt w h a o es ∧ es.map (·.1) = qs'.map (keyH w) ∧ Vals (qs'.map kV) (es.map (·.2)) ∧ qs'.Perm qs ∧ qs.Nodup
section
variable {P : Program} {w : World} {A : Around} {E : Value → Shared → Prop} {s : Shared} {a : Addr}
theorem keys_elems : ∀ {es : List (Int × Value)} {qs : List Key}, es.map (·.1) = qs.map (keyH w) → Vals (qs.map kV) (es.map (·.2)) →
    ElemsOf (mixKind P w) es ∧ ∀ q : Key, (∃ e ∈ es, (mixKind P w).is q e.2 = true) ↔ q ∈ qs
  | [], [], _, _ => ⟨(fun e he => by cases he), fun q => by simp⟩
  | [], q :: qs, h, _ => by cases h
  | e :: es, [], h, _ => by cases h
  | e :: es, q :: qs, h, hv => by
    simp only [List.map_cons] at hv
    cases hv with
    | cons rv hv =>
      simp only [List.map_cons, List.cons.injEq] at h
      obtain ⟨i1, i2⟩ := keys_elems h.2 hv
      have is : (mixKind P w).is q e.2 = true := kV_is rv
      refine ⟨fun x hx => ?_, fun p => ?_⟩
      · rcases List.mem_cons.mp hx with z | z
        · subst z; exact ⟨⟨q, is, h.1⟩, key_scan rv⟩
        · exact i1 x z
      · constructor
        · rintro ⟨x, hx, hi⟩
          rcases List.mem_cons.mp hx with z | z
          · subst z
            rw [(mixKind P w).inj _ _ _ hi is]
            exact List.mem_cons_self
          · exact List.mem_cons_of_mem _ ((i2 p).mp ⟨x, z, hi⟩)
        · intro m
          rcases List.mem_cons.mp m with z | z
          · rw [z]; exact ⟨e, List.mem_cons_self, is⟩
          · obtain ⟨x, hx, hi⟩ := (i2 p).mpr z
            exact ⟨x, List.mem_cons_of_mem _ hx, hi⟩
theorem vals_at : ∀ {vs : List V} {us : List Value} {i : Nat} {u : Value}, Vals vs us → us[i]? = some u → ∃ v, vs[i]? = some v ∧ RelV v u
  | _, _, i, u, .nil, e => by simp at e
  | _, _, 0, u, .cons a b, e => by
    simp only [List.getElem?_cons_zero, Option.some.injEq] at e
    exact ⟨_, rfl, e ▸ a⟩
  | _, _, i + 1, u, .cons a b, e => by
    simp only [List.getElem?_cons_succ] at e ⊢
    exact vals_at b e
theorem perm5 : ∀ {es' es : List (Int × Value)}, es'.Perm es → ∀ {qs : List Key}, es.map (·.1) = qs.map (keyH w) → Vals (qs.map kV) (es.map (·.2)) →
    ∃ qs' : List Key, es'.map (·.1) = qs'.map (keyH w) ∧ Vals (qs'.map kV) (es'.map (·.2)) ∧ qs'.Perm qs := by
  intro es' es p
  have p' := p.symm
  clear p
  induction p' with
  | nil => exact fun h1 h2 => ⟨_, h1, h2, List.Perm.refl _⟩
  | cons x p ih =>
    intro qs h1 h2
    cases qs with
    | nil => simp at h1
    | cons q qs =>
      simp only [List.map_cons] at h2
      cases h2 with
      | cons rv hv =>
        simp only [List.map_cons, List.cons.injEq] at h1
        obtain ⟨qs', b1, b2, b4⟩ := ih h1.2 hv
        exact ⟨q :: qs', by simp [h1.1, b1], .cons rv b2, b4.cons _⟩
  | swap x y l =>
    intro qs h1 h2
    cases qs with
    | nil => simp at h1
    | cons q qs =>
      cases qs with
      | nil => simp at h1
      | cons q2 qs =>
        simp only [List.map_cons] at h2
        cases h2 with
        | cons rv hv =>
          cases hv with
          | cons rv2 hv =>
            simp only [List.map_cons, List.cons.injEq] at h1
            exact ⟨q2 :: q :: qs, by simp [h1], .cons rv2 (.cons rv hv), List.Perm.swap _ _ _⟩
  | trans p1 p2 ih1 ih2 =>
    intro qs h1 h2
    obtain ⟨qs1, b1, b2, b4⟩ := ih1 h1 h2
    obtain ⟨qs2, d1, d2, d4⟩ := ih2 b1 b2
    exact ⟨qs2, d1, d2, d4.trans b4⟩
def hasQ (qs : List Key) (q : Key) : Bool := qs.any fun p => decide (p = q)
theorem hasQ_iff {qs : List Key} {q : Key} : hasQ qs q = true ↔ q ∈ qs := by simp [hasQ]
def putQ (qs : List Key) (q : Key) : List Key := if hasQ qs q = true then qs else qs ++ [q]
theorem SetQ.at {h h' : Heap} {qs : List Key} (x : SetQ w h a qs) (k : ∀ o, h.get? a = some o → h'.get? a = some o) : SetQ w h' a qs := by
  obtain ⟨o, es, qs', ⟨h1, h2⟩, r⟩ := x
  exact ⟨o, es, qs', ⟨k o h1, h2⟩, r⟩
theorem setQ_hashed {qs : List Key} {q : Key} {x : Value} {Q : Bool → Shared → Prop} (R : SetQ w s.heap a qs) (rx : RelV (kV q) x) (room : qs.length + 1 < scanBound)
    (hQ : ∀ b h', Heap.SameBut a s.heap h' → SetQ w h' a (putQ qs q) → Q b { s with heap := h' }) : wpAny (model P w) A (setAddHashed a x (keyH w q)) Q E s := by
  obtain ⟨o, es, qs', S, e1, e2, pm, nd⟩ := R
  obtain ⟨el, mm⟩ := keys_elems (P := P) e1 e2
  have len : es.length = qs.length := by
    have h1 : es.length = qs'.length := by have := congrArg List.length e1; simpa using this
    rw [h1, pm.length_eq]
  refine setK_hashed (knd := mixKind P w) (k := q) (kV_is rx) (key_scan rx) S el (by rw [len]; exact room) (fun hin => ?_) fun hnin h' o' es' sb sa pe => ?_
  · have m : q ∈ qs := pm.mem_iff.mp ((mm q).mp hin)
    have := hQ false s.heap (Heap.SameBut.refl a s.heap)
    unfold putQ at this
    rw [if_pos (hasQ_iff.mpr m)] at this
    exact this ⟨o, es, qs', S, e1, e2, pm, nd⟩
  · have m : q ∉ qs := fun z => hnin ((mm q).mpr (pm.mem_iff.mpr z))
    obtain ⟨qs2, b1, b2, b4⟩ := perm5 (w := w) pe (qs := qs' ++ [q]) (by rw [List.map_append, List.map_append, e1]; rfl) (by rw [List.map_append, List.map_append]; exact Vals.append e2 (.cons rx .nil))
    refine hQ true h' sb ?_
    unfold putQ
    rw [if_neg fun z => m (hasQ_iff.mp z)]
    exact ⟨o', es', qs2, sa, b1, b2, b4.trans (pm.append_right _), nd_snoc nd m⟩
def putsQ : List Key → List Key → List Key
  | acc, [] => acc
  | acc, q :: qs => putsQ (putQ acc q) qs
theorem putsQ_snoc : ∀ (l acc : List Key) (q : Key), putsQ acc (l ++ [q]) = putQ (putsQ acc l) q
  | [], _, _ => rfl
  | x :: l, acc, q => putsQ_snoc l (putQ acc x) q
theorem putQ_len (acc : List Key) (q : Key) : (putQ acc q).length ≤ acc.length + 1 := by
  unfold putQ
  split <;> simp
theorem putsQ_len : ∀ (l acc : List Key), (putsQ acc l).length ≤ acc.length + l.length
  | [], acc => by simp [putsQ]
  | x :: l, acc => by
    have h1 := putsQ_len l (putQ acc x)
    have h2 := putQ_len acc x
    simp only [putsQ, List.length_cons]
    omega
theorem set_update_keys {I : Addr} {fp wr : List Addr} {G : Array GenState → Array GenState → Prop} {n : Nat} {Pv : Nat → Value → Prop} {St : Nat → Shared → Prop} {R : Result → Shared → Prop}
    (W : WalksS P w A.in1 I fp wr G n Pv St) (S : Addr) (hSf : S ∉ fp) (qs : List Key) (hn : n = qs.length) (hb : qs.length + 1 < scanBound) (hval : ∀ i v, Pv i v → ∃ q, qs[i]? = some q ∧ RelV (kV q) v) :
    ∀ (k i : Nat) (s : Shared), n - i = k → i ≤ n → St i s → SetQ w s.heap S (putsQ [] (qs.take i)) →
      (∀ s', Moved (S :: wr) G s s' → SetQ w s'.heap S (putsQ [] qs) → R (.ok (.ret .none)) s') →
      codeAny (model P w) A (.builtin "set.update.loop" ⟨[.ref S, .ref I], []⟩) R s := by
  have hSw : S ∉ wr := fun h => hSf (W.sub _ h)
  have hsub : ∀ b ∈ wr, b ∈ S :: wr := fun b hb => List.mem_cons_of_mem _ hb
  intro k
  induction k with
  | zero =>
    intro i s hk' hi hst hS hR
    have hin : i = n := by omega
    subst hin
    refine codeAny_builtin F.entry_set_update_loop ?_
    rw [Around.under_plainId F.plain_set_update_loop _]
    show wpAny _ A.in1 (pyNext (.ref I) >>= _) _ _ s
    refine wpAny_bind (W.done s _ _ hst fun s' hm => ?_)
    show wpAny _ A.in1 (ret Value.none) _ _ s'
    have e : qs.take i = qs := List.take_of_length_le (by omega)
    rw [e] at hS
    exact wpAny_pure (hR s' (hm.mono hsub) (hS.at fun o e => hm.heap S o hSw e))
  | succ k ih =>
    intro i s hk' hi hst hS hR
    have hlt : i < n := by omega
    refine codeAny_builtin F.entry_set_update_loop ?_
    rw [Around.under_plainId F.plain_set_update_loop _]
    show wpAny _ A.in1 (pyNext (.ref I) >>= _) _ _ s
    refine wpAny_bind (W.item i s _ _ hlt hst fun v s' hP hst' hm => ?_)
    obtain ⟨z, hz, rz⟩ := hval i v hP
    have hS' : SetQ w s'.heap S (putsQ [] (qs.take i)) := hS.at fun o e => hm.heap S o hSw e
    show wpAny _ A.in1 (holding [v] (setAdd S v) >>= _) _ _ s'
    refine wpAny_bind (wpAny_holding ?_)
    unfold setAdd
    refine wpAny_holding ?_
    refine wpAny_bind ((mixKind P w).pyHash (k := z) (kV_is rz) ?_)
    have hlen := putsQ_len (qs.take i) []
    refine setQ_hashed (s := { s' with toks := s'.toks + 1 }) hS' rz (by simp only [List.length_nil, List.length_take] at hlen; omega) fun b h' hsb hS2 => ?_
    have hS3 : SetQ w h' S (putsQ [] (qs.take (i + 1))) := by
      rw [List.take_add_one, hz]
      simp only [Option.toList_some]
      rw [putsQ_snoc]
      exact hS2
    refine wpAny_pure ⟨plainId_quiet F.plain_set_update_loop _, ih (i + 1) _ (by omega) hlt (W.frame _ s' _ _ hst' (Nat.le_succ _) fun b hb o e => ?_) hS3 fun s'' hm'' hS'' => ?_⟩
    · rw [hsb.2 b (fun h : b = S => hSf (by rw [← h]; exact hb))]; exact e
    · refine hR s'' (Moved.trans W.gtrans ((hm.mono hsub).then_heap (Nat.le_succ _) fun b o hb e => ?_) hm'') hS''
      rw [hsb.2 b (fun h : b = S => hb (by rw [h]; exact List.mem_cons_self))]; exact e
theorem setQ_new {h : Heap} (ho : h.get? a = some { cls := .type "set", dict := none, data := .set #[] 0 (.fresh 0 0 (!w.params.followText "set-order")) }) : SetQ w h a [] := by
  refine ⟨_, [], [], ⟨ho, ⟨rfl, rfl, rfl⟩, by decide, 0, _, rfl, rfl, List.Pairwise.nil, ?_⟩, rfl, .nil, List.Perm.refl _, List.nodup_nil⟩
  show _ ∨ (!w.params.followText "set-order") = true
  cases w.params.followText "set-order"
  · exact .inr rfl
  · exact .inl rfl
theorem call_set_keys {l : Addr} {items : Array Value} (qs : List Key) {Q : Value → Shared → Prop} (hh : A.handled = none) (hl : s.heap.IsList l items) (hit : Vals (qs.map kV) items.toList) (hb : qs.length + 1 < scanBound)
    (h : ∀ (h' : Heap) (tk : Nat), SetQ w h' s.heap.objs.size (putsQ [] qs) → (∀ b o, s.heap.get? b = some o → h'.get? b = some o) → Q (.ref s.heap.objs.size) { s with heap := h', toks := tk }) :
    wpAny (model P w) A (call (.type "set") [.ref l]) Q E s := by
  have hisz : items.size = qs.length := by
    have q := Vals.length hit
    simp only [List.length_map, Array.length_toList] at q
    exact q.symm
  obtain ⟨c, tl, hmro⟩ := F.called_set.mro
  have hmade := F.called_set.made
  have hsub := F.called_set.sub
  refine wpAny_call (codeAny_of_tree ?_)
  show wpAny _ _ (callAny (.type "set") _) _ _ _
  refine wpAny_pure ⟨Code.quiet_builtin _ (by decide +kernel), codeAny_builtin F.entry_type_call ?_⟩
  rw [Around.under_plain (weight_type_call_type "set" [.ref l] []) rfl]
  have h1 := F.called_set.notType
  have h2 := F.called_set.canCreate
  have hct := F.typeCall_set_1 (.ref l)
  repeat (any_goals (first | assumption | wp_step))
  refine codeAny_mono (code_set_led1 (.ref l) (E := E) (Q₁ := fun obj s₁ => obj = .ref s.heap.objs.size ∧ s₁ = { s with heap := s.heap.push { cls := .type "set", dict := none, data := .set #[] 0 (.fresh 0 0 (!w.params.followText "set-order")) } }) ⟨rfl, rfl⟩) fun r s₁ hr => ?_
  cases r with
  | error e => exact hr
  | ok fl =>
    cases fl with
    | ret obj =>
      obtain ⟨rfl, rfl⟩ := hr
      have hS : (s.heap.push { cls := .type "set", dict := none, data := .set #[] 0 (.fresh 0 0 (!w.params.followText "set-order")) }).get? s.heap.objs.size = some { cls := .type "set", dict := none, data := .set #[] 0 (.fresh 0 0 (!w.params.followText "set-order")) } := Heap.get?_push_size _ rfl
      have hT : Shared.TypeIs { s with heap := s.heap.push { cls := .type "set", dict := none, data := .set #[] 0 (.fresh 0 0 (!w.params.followText "set-order")) } } (.ref s.heap.objs.size) "set" := ⟨_, hS, rfl⟩
      have hli := F.called_set.init.lookup
      have hbi := F.called_set.init.bind (.ref s.heap.objs.size)
      repeat (any_goals (first | assumption | wp_step))
      refine codeAny_mono (codeAny_call_builtin (R := wants (fun r s₂ => r = .none ∧ ∃ h' tk, s₂ = { s with heap := h', toks := tk } ∧ SetQ w h' s.heap.objs.size (putsQ [] qs) ∧
          (∀ b o, s.heap.get? b = some o → h'.get? b = some o)) E) F.called_set.init.plain F.entry_set_init (check_set_init_1 hT ?_)) fun r₂ s₂ hr₂ => ?_
      · obtain ⟨ol, hol, hcl, nl, hdl⟩ := hl
        obtain ⟨ocls, odict, odata, oslots⟩ := ol
        simp only at hcl hdl
        subst hcl; subst hdl
        have hol' : (s.heap.push { cls := .type "set", dict := none, data := .set #[] 0 (.fresh 0 0 (!w.params.followText "set-order")) }).get? l = some { cls := .type "list", dict := odict, data := .seq items nl, slots := oslots } := Heap.get?_push_of_some _ hol
        have hsls := F.sub_list_set
        have hslf := F.sub_list_frozenset
        have hne : (Value.type "list" == Value.type "dict") = false := by decide
        have hl1 : (s.heap.push { cls := .type "set", dict := none, data := .set #[] 0 (.fresh 0 0 (!w.params.followText "set-order")) }).IsList l items := ⟨_, hol', rfl, nl, rfl⟩
        unfold Builtin.«set.__init__» noKeywords Builtin.Frozenset.updateFrom
        generalize hPI : pyIter = PI
        wp_walk
        subst hPI
        refine wpAny_pyIter_list hl1 ?_
        refine wpAny_bind (wpAny_runValue ?_)
        have hlS : l < s.heap.objs.size := Heap.lt_size hol
        have hh3 : A.in1.in1.in1.handled = none := by simp [hh]
        have hneI : l ≠ (s.heap.push { cls := .type "set", dict := none, data := .set #[] 0 (.fresh 0 0 (!w.params.followText "set-order")) }).objs.size := by
          rw [Heap.size_push]; exact Nat.ne_of_lt (Nat.lt_succ_of_lt hlS)
        have hSf : s.heap.objs.size ∉ [(s.heap.push { cls := .type "set", dict := none, data := .set #[] 0 (.fresh 0 0 (!w.params.followText "set-order")) }).objs.size, l] := by
          rw [Heap.size_push]; simp only [List.mem_cons, List.mem_singleton, List.not_mem_nil, or_false, not_or]
          exact ⟨Nat.ne_of_lt (Nat.lt_succ_self _), Nat.ne_of_gt hlS⟩
        have hval : ∀ (i : Nat) (v : Value), items[i]? = some v → ∃ q, qs[i]? = some q ∧ RelV (kV q) v := fun i v hv => by
          have hv' : items.toList[i]? = some v := by rw [Array.getElem?_toList]; exact hv
          obtain ⟨x, e1, e2⟩ := vals_at hit hv'
          rw [List.getElem?_map] at e1
          obtain ⟨q, e3, rfl⟩ := Option.map_eq_some_iff.mp e1
          exact ⟨q, e3, e2⟩
        refine set_update_keys ((Walks.list hh3 _ l hneI items).toS) s.heap.objs.size
          hSf qs hisz hb hval (items.size - 0) 0 _ (by omega) (Nat.zero_le _)
          ⟨⟨_, Heap.get?_push_size _ rfl, rfl, rfl⟩, (hl1.push _)⟩ ?hS0 ?hR
        case hS0 =>
          have hget : ((s.heap.push { cls := .type "set", dict := none, data := .set #[] 0 (.fresh 0 0 (!w.params.followText "set-order")) }).push { cls := .type "list_iterator", data := .fields #[.ref l, .int 0 0] }).get? s.heap.objs.size
              = some { cls := .type "set", dict := none, data := .set #[] 0 (.fresh 0 0 (!w.params.followText "set-order")) } := Heap.get?_push_of_some _ hS
          exact setQ_new hget
        case hR =>
          intro s' hm hS'
          obtain ⟨h', g2, d', tk', os'⟩ := s'
          have eg : g2 = s.gens := hm.gens
          have ed : d' = s.drawn := hm.drawn
          have eo : os' = s.os := hm.os
          subst eg; subst ed; subst eo
          show wpAny _ _ _ _ _ _
          refine wpAny_pure ?_
          show wpAny _ _ (ret Value.none) _ _ _
          refine wpAny_pure ⟨rfl, h', tk', rfl, hS', fun b o e => ?_⟩
          have hb0 : b < s.heap.objs.size := Heap.lt_size e
          have hb1 : b ≠ s.heap.objs.size := Nat.ne_of_lt hb0
          have hb2 : b ≠ (s.heap.push { cls := .type "set", dict := none, data := .set #[] 0 (.fresh 0 0 (!w.params.followText "set-order")) }).objs.size := by
            rw [Heap.size_push]; exact Nat.ne_of_lt (Nat.lt_succ_of_lt hb0)
          exact hm.heap b o (by simp only [List.mem_cons, List.mem_singleton, List.not_mem_nil, or_false, not_or]; exact ⟨hb1, hb2⟩) (Heap.get?_push_of_some _ (Heap.get?_push_of_some _ e))
      · cases r₂ with
        | error e => exact hr₂
        | ok fl₂ =>
          cases fl₂ with
          | ret r =>
            obtain ⟨rfl, h', tk, rfl, hS', hk'⟩ := hr₂
            repeat (any_goals (first | assumption | wp_step))
            exact h _ _ hS' hk'
          | _ => exact hr₂.elim
    | _ => exact hr.elim
end
theorem dedup_keys : ∀ (qs acc : List Key), dedup (acc.map kD) (qs.map kD) = (putsQ acc qs).map kD
  | [], acc => rfl
  | q :: qs, acc => by
    simp only [List.map_cons, dedup, putsQ]
    by_cases h : q ∈ acc
    · rw [if_pos (List.mem_map.mpr ⟨q, h, rfl⟩)]
      unfold putQ
      rw [if_pos (hasQ_iff.mpr h)]
      exact dedup_keys qs acc
    · rw [if_neg fun z => by obtain ⟨p, hp, e⟩ := List.mem_map.mp z; exact h (by rw [← kD_inj e]; exact hp)]
      unfold putQ
      rw [if_neg fun z => h (hasQ_iff.mp z)]
      rw [← dedup_keys qs (acc ++ [q]), List.map_append]
      rfl
theorem reps_keysU {c : RC} {H : Hp} : ∀ {vs : List V} {ds : List D}, Reps c H vs ds → keysOk ds = true → ∃ qs : List Key, vs = qs.map kV ∧ ds = qs.map kD
  | _, _, .nil, _ => ⟨[], rfl, rfl⟩
  | _, _, .cons a b, h => by
    simp only [keysOk, keyOk, List.all_cons, Bool.and_eq_true] at h
    obtain ⟨qs, e1, e2⟩ := reps_keysU b (by simpa [keysOk, keyOk] using h.2)
    obtain ⟨q, rfl⟩ := flat_kD h.1
    have := RepU.key (.inl a)
    subst this
    exact ⟨q :: qs, by simp [e1], by simp [e2]⟩
theorem reps_mk {c : RC} {H : Hp} : ∀ qs : List Key, Reps c H (qs.map kV) (qs.map kD)
  | [] => .nil
  | q :: qs => .cons (rep_key q) (reps_mk qs)
theorem c_set {c : RC} {X : Cx} (hw : c.w = X.w) (hc : X.calm = true) : Call1 c X (.type "set") setR := by
  intro pins s σ H xs us Q I rs h
  obtain ⟨v, A, d, P, rfl, ob, hx, h, q⟩ := h
  obtain ⟨u, rfl, rx⟩ := vals1 rs
  cases d <;> simp only [setR] at h
  rename_i ds
  obtain ⟨a, vs, rfl, h1, r1⟩ := hx.lst
  cases rx
  obtain ⟨qs, rfl, rfl⟩ := reps_keysU r1 h.1.1
  obtain ⟨z, its, n, r, hl, e⟩ := Inv.lstR I h1
  have hlen : qs.length ≤ 1000 := by simpa using h.1.2
  refine call_set_keys (P := X.prog) (w := X.w) qs (I.ok.hd hc) (items := its.toArray) ⟨_, e, rfl, _, rfl⟩ (by simpa using r) (by show qs.length + 1 < 4096; omega) fun h' tk hS k => ?_
  obtain ⟨o, es, qs', S, e1, e2, pm, nd⟩ := hS
  refine ⟨.ref s.heap.objs.size, _, I.laid (t' := tk) (o := Raw s.heap.objs.size o) (fun b o e => k b o e) (Nat.le_refl _) (rawOk S.ho), rfl, q.nw ob h.2 (I.hok.fresh (Nat.le_refl _)) ?_⟩
  refine .set (kvs := qs'.map kV) (ks' := qs'.map kD) upd_same (by show IsSet c.w o es; rw [hw]; exact S.is) ?_ e2 (reps_mk qs') ?_ ⟨?_, fun k m => ?_⟩
  · rw [e1, List.map_map]
    congr 1
    funext q
    show _ = hashV c.w (kV q)
    rw [hashV_key, hw]
  · have := dedup_keys qs []
    simp only [List.map_nil] at this
    rw [this]
    exact pm.map kD
  · have := dedup_keys qs []
    simp only [List.map_nil] at this
    rw [this]
    exact List.Pairwise.map _ (fun a b h e => h (kD_inj e)) nd
  · have := dedup_keys qs []
    simp only [List.map_nil] at this
    rw [this] at m
    obtain ⟨p, _, rfl⟩ := List.mem_map.mp m
    cases p <;> rfl
end Py
end

section
set_option Elab.async false
set_option linter.all false
set_option maxRecDepth 100000
set_option maxHeartbeats 1000000
set_option autoImplicit false
/-! Sim18: the checker of expressions, which says that a syntax is that of the written text; what it says holds. -/
namespace Py
open PySem PySem.Spec L2 PyProof.Rows
/-- what is known of the text around -/
structure SC where
  N : List Str
  sc : Scope
  raw : Scope
  Γ : List Md
  inb : Bool
  calm : Bool
  cs : List (Str × D)
  fs : List Str
  kw : List (Str × List Str × List Nat)
  /-- the classes of errors that may be raised; those that an except may name -/
  xs : List Str
  hs : List Str
def okN (x : Str) : Bool := !(x == ("__debug__" : Str)) && !(x == ("__classdict__" : Str))
def SC.gl (S : SC) (x : Str) : Bool := okN x && match S.sc.names.lookup x with
  | some .globalImplicit => true
  | _ => false
def SC.vis (S : SC) (x : Str) : Bool := match S.sc.names.lookup x with
  | some .local => true
  | some .cell => true
  | some .free => true
  | _ => false
def SC.asn (S : SC) (x : Str) : Bool := match S.raw.names.lookup x with
  | some .local => true
  | some .cell => true
  | _ => false
def SC.nm (S : SC) (i : Nat) (x : Str) : Bool := decide (S.N[i]? = some x) && S.vis x && okN x
def SC.isF (S : SC) (i : Nat) : Bool := decide (md S.Γ i = .F)
def noB (Γ : List Md) : Bool := Γ.all fun m => decide (m ≠ .B)
def SC.hasX (S : SC) (f : Str) : Bool := S.xs.any fun g => decide (g = f)
def SC.hasH (S : SC) (f : Str) : Bool := S.hs.any fun g => decide (g = f)
def SC.hasF (S : SC) (f : Str) : Bool := S.fs.any fun g => decide (g = f)
/-- the scope of a block -/
def SC.into (S : SC) (scope : Scope) : SC := { S with sc := relS scope S.sc, raw := scope, inb := true }
def isU : E → Bool
  | .bor _ => true
  | _ => false
def isX : E → Bool
  | .bin .. => true
  | .blt (.isinst _) _ => false
  | .blt .. => true
  | .lst .. => true
  | .lc .. => true
  | .sc .. => true
  | .dc .. => true
  | .dict .. => true
  | .sl .. => true
  | _ => false
def resOf (e : E) : RM := if isU e then RU else if isX e then RX else RF
/-- the built-ins of one value -/
def bfN : Bf → Option (Str × Value)
  | .len => some ("len", .builtin "len")
  | .tuple => some ("tuple", .type "tuple")
  | .list => some ("list", .type "list")
  | .dict => some ("dict", .type "dict")
  | .set => some ("set", .type "set")
  | .sorted => some ("sorted", .builtin "sorted")
  | .all => some ("all", .builtin "all")
  | .any => some ("any", .builtin "any")
  | .sum => some ("sum", .builtin "sum")
  | .max => some ("max", .builtin "max")
  | .min => some ("min", .builtin "min")
  | .abs => some ("abs", .builtin "abs")
  | .int => some ("int", .type "int")
  | .str => some ("str", .type "str")
  | .repr => some ("repr", .builtin "repr")
  | _ => none
def bltN : List Str := ["len", "tuple", "list", "dict", "set", "sorted", "all", "any", "sum", "max", "min", "abs", "int", "str", "repr", "isinstance", "bool", "range"]
/-- tests whose truth is asked of their value -/
def anyT : Expr → Bool
  | .Name .. => true
  | .Constant .. => true
  | .BinOp .. => true
  | .Call .. => true
  | .Subscript .. => true
  | .Tuple .. => true
  | .List .. => true
  | .ListComp .. => true
  | .SetComp .. => true
  | .DictComp .. => true
  | .Dict .. => true
  | .UnaryOp .USub _ _ => true
  | _ => false
def plainIx : Expr → Bool
  | .Slice .. => false
  | _ => true
def isNone : Expr → Bool
  | .Constant .none _ _ => true
  | _ => false
def blkOk (S : SC) (scope : Scope) (own : List (Str × Nat)) : Bool :=
  decide (scope.kind = .function) && scope.names.all (fun y => decide (scope.names.lookup y.1 = some y.2)) && own.all (fun p => decide (S.N[p.2]? = some p.1)) &&
    scope.names.all (fun y => if y.2 = .free then decide (S.sc.names.lookup y.1 = some .cell) || decide (S.sc.names.lookup y.1 = some .free) else true) &&
    scope.names.all (fun y => if y.2 = .local ∨ y.2 = .cell then (own.any fun p => decide (p.1 = y.1)) || !(S.N.any fun n => decide (n = y.1)) else true)
def ownOf (S : SC) (own : List Nat) : List (Str × Nat) := own.map fun i => (S.N.getD i "", i)
mutual
def chkT : T → SC → Expr → Bool
  | .nm i, S, x => match x with
    | .Name nm _ => decide (S.N[i]? = some nm) && S.asn nm && S.isF i
    | _ => false
  | .tp ts, S, x => match x with
    | .Tuple es _ _ => S.calm && es.all noStar && decide (es.length = ts.len) && chkTs ts S es
    | _ => false
def chkTs : Ts → SC → List Expr → Bool
  | .nil, S, xs => match xs with
    | [] => true
    | _ => false
  | .cons t ts, S, xs => match xs with
    | x :: xs => chkT t S x && chkTs ts S xs
    | [] => false
end
mutual
/-- e is the syntax of x; t: x stands as a test -/
def chk : E → Bool → SC → Expr → Bool
  | .slot i, t, S, x => match x with
    | .Name nm _ => S.nm i nm && S.isF i
    | _ => false
  | .bor i, t, S, x => match x with
    | .Name nm _ => S.nm i nm
    | _ => false
  | .cst d, t, S, x => match x with
    | .Constant k _ _ => decide (cstOf k = some d)
    | _ => false
  | .glob y d, t, S, x => match x with
    | .Name nm _ => decide (y = nm) && S.gl nm && decide (S.cs.lookup nm = some d)
    | _ => false
  | .fnv f, t, S, x => match x with
    | .Name nm _ => decide (f = nm) && S.gl nm && S.hasF nm
    | _ => false
  | .bin o a b, t, S, x => match x with
    | .BinOp xa op xb _ => decide (op = opOf o) && chk a false S xa && chk b false S xb
    | _ => false
  | .neg a, t, S, x => match x with
    | .UnaryOp .USub xa _ => chk a false S xa
    | _ => false
  | .not_ a, t, S, x => match x with
    | .UnaryOp .Not xa _ => chk a t S xa
    | _ => false
  | .cmp c a b, t, S, x => match x with
    | .Compare xa [op] [xb] _ => decide (op = cmOf c) && !behindInMarks op xb && chk a false S xa && chk b false S xb
    | _ => false
  | .cmp2 c c' a b d, t, S, x => match x with
    | .Compare xa [op, op'] [xb, xd] _ => decide (op = cmOf c) && decide (op' = cmOf c') && !lastMarks [op, op'] [xb, xd] && chk a false S xa && chk b false S xb && chk d false S xd
    | _ => false
  | .and_ a b, t, S, x => match x with
    | .BoolOp .And (xa :: xb :: rest) p => (t || (!isU a && !isU b)) && chk a t S xa && (match rest with
      | [] => chk b t S xb
      | _ :: _ => chk b t S (.BoolOp .And (xb :: rest) p))
    | _ => false
  | .or_ a b, t, S, x => match x with
    | .BoolOp .Or (xa :: xb :: rest) p => (t || (!isU a && !isU b)) && chk a t S xa && (match rest with
      | [] => chk b t S xb
      | _ :: _ => chk b t S (.BoolOp .Or (xb :: rest) p))
    | _ => false
  | .ite c a b, t, S, x => match x with
    | .IfExp xc xa xb _ => !t && !isU a && !isU b && chk c true S xc && chk a false S xa && chk b false S xb
    | _ => false
  | .isK n a k, t, S, x => match x with
    | .Compare xa [.Is] [xb] _ => !n && decide (k = .none) && isNone xb && chk a false S xa
    | .Compare xa [.IsNot] [xb] _ => n && decide (k = .none) && isNone xb && chk a false S xa
    | _ => false
  | .call f es, t, S, x => match x with
    | .Call (.Name nm _) xs [] _ => decide (f = nm) && S.gl nm && S.hasF nm && xs.all noStar && chks es false S xs && noB S.Γ
    | _ => false
  | .callK f n es pm, t, S, x => match x with
    | .Call (.Name nm _) [] kws _ => decide (n = 0) && decide (f = nm) && S.gl nm && (S.kw.any fun q => decide (q.1 = f) && decide (q.2.1.map some = kws.map (·.arg)) && decide (q.2.2 = pm)) && chkK es S kws && noB S.Γ
    | _ => false
  | .callV i es, t, S, x => match x with
    | .Call (.Name nm _) (xa :: xs) [] _ => S.nm i nm && S.isF i && (xa :: xs).all noStar && chks es false S (xa :: xs) && noB S.Γ && S.calm
    | _ => false
  | .blt bf es, t, S, x => match x with
    | .Call (.Name nm _) xs [] _ => S.gl nm && S.calm && xs.all noStar && (match bf, xs with
      | .isinst [ty], [xa, .Name q _] => decide (nm = "isinstance") && decide (ty = q) && S.gl q && (tyT q).isSome && chks es true S [xa]
      | .isinst _, _ => false
      | bf, [xa] => (match bfN bf with
        | some p => decide (nm = p.1)
        | none => false) && chks es true S [xa]
      | _, _ => false)
    | _ => false
  | .ix a i, t, S, x => match x with
    | .Subscript xa xi _ => plainIx xi && chk a false S xa && chk i false S xi
    | _ => false
  | .sl a lo hi, t, S, x => match x with
    | .Subscript xa (.Slice xl xh none _) _ => chk a false S xa && chkO lo S xl && chkO hi S xh
    | _ => false
  | .rev _, _, _, _ => false
  | .tup es, t, S, x => match x with
    | .Tuple xs _ _ => decide (es.len ≤ 16777216) && xs.all noStar && chks es false S xs
    | _ => false
  | .lst es, t, S, x => match x with
    | .List xs _ => decide (es.len ≤ 16777216) && xs.all noStar && chks es false S xs
    | _ => false
  | .dict ks vs, t, S, x => match x with
    | .Dict (k :: keys) values _ => (match keysOf ks with
      | some qs => decide (qs.length = vs.len) && decide (qs.length ≤ 15) && decide ((k :: keys).length = qs.length) && ((k :: keys).zip qs).all (fun p => match p with
          | (some (.Constant (.int i) _ _), .inl j) => decide (i = j)
          | (some (.Constant (.str s) _ _), .inr r) => decide (s = r)
          | _ => false) && decide ((k :: keys).length = values.length) && chks vs false S values
      | none => false)
    | _ => false
  | .lc own e (.for_ tg it ifs c), t, S, x => match x with
    | .ListComp elt (g :: rest) scope _ => S.calm && decide (g.is_async = 0) && noAsync rest && blkOk S scope (ownOf S own) && noSet g.iter && chkI it S g.iter && chkT tg (S.into scope) g.target && chkF ifs (S.into scope) g.ifs && chkC c (S.into scope) rest &&
      chk e false (S.into scope) elt && !isU e && (c.slots.all fun i => !(tg.slots.any fun j => j == i)) && (tg.slots ++ c.slots).all (fun i => own.any fun j => j == i)
    | _ => false
  | .lc _ _ .nil, _, _, _ => false
  | .sc own e (.for_ tg it ifs c), t, S, x => match x with
    | .SetComp elt (g :: rest) scope _ => S.calm && decide (g.is_async = 0) && noAsync rest && blkOk S scope (ownOf S own) && noSet g.iter && chkI it S g.iter && chkT tg (S.into scope) g.target && chkF ifs (S.into scope) g.ifs && chkC c (S.into scope) rest &&
      chk e false (S.into scope) elt && !isU e && (c.slots.all fun i => !(tg.slots.any fun j => j == i)) && (tg.slots ++ c.slots).all (fun i => own.any fun j => j == i)
    | _ => false
  | .sc _ _ .nil, _, _, _ => false
  | .dc own k v (.for_ tg it ifs c), t, S, x => match x with
    | .DictComp kx vx (g :: rest) scope _ => S.calm && decide (g.is_async = 0) && noAsync rest && blkOk S scope (ownOf S own) && noSet g.iter && chkI it S g.iter && chkT tg (S.into scope) g.target && chkF ifs (S.into scope) g.ifs && chkC c (S.into scope) rest &&
      chk k false (S.into scope) kx && !isU k && chk v false (S.into scope) vx && !isU v && (c.slots.all fun i => !(tg.slots.any fun j => j == i)) && (tg.slots ++ c.slots).all (fun i => own.any fun j => j == i)
    | _ => false
  | .dc _ _ _ .nil, _, _, _ => false
  | .mkO e, t, S, x => match e with
    | .lst es => chk (.lst es) false S x
    | _ => false
  | .val a, t, S, x => match a with
    | .slot i => match x with
      | .Attribute (.Name nm _) at_ _ => decide (at_ = "value") && S.nm i nm && S.isF i
      | _ => false
    | _ => false
  | .get _ _ _, _, _, _ => false
  | .sortK _ _ _, _, _, _ => false
/-- es are those of xs, left to right; u: each may be only looked at -/
def chks : Es → Bool → SC → List Expr → Bool
  | .nil, u, S, xs => match xs with
    | [] => true
    | _ => false
  | .cons e es, u, S, xs => match xs with
    | x :: xs => (u || !isU e) && chk e false S x && chks es u S xs
    | [] => false
def chkK : Es → SC → List Keyword → Bool
  | .nil, S, xs => match xs with
    | [] => true
    | _ => false
  | .cons e es, S, xs => match xs with
    | x :: xs => !isU e && chk e false S x.value && chkK es S xs
    | [] => false
def chkO : Oe → SC → Option Expr → Bool
  | .none, S, x => match x with
    | none => true
    | _ => false
  | .some e, S, x => match x with
    | some x => chk e false S x
    | none => false
def chkI : It → SC → Expr → Bool
  | .ex e, S, x => !isU e && chk e false S x
  | .lk i, S, x => match x with
    | .Name nm _ => S.nm i nm
    | _ => false
  | .rg es, S, x => match x with
    | .Call (.Name nm _) [xa] [] _ => decide (nm = "range") && S.gl nm && noStar xa && chks es true S [xa]
    | .Call (.Name nm _) [xa, xb] [] _ => decide (nm = "range") && S.gl nm && noStar xa && noStar xb && chks es true S [xa, xb]
    | _ => false
  | _, _, _ => false
/-- the further clauses of a block -/
def chkC : Cl → SC → List Comprehension → Bool
  | .nil, S, gs => match gs with
    | [] => true
    | _ => false
  | .for_ tg it ifs c, S, gs => match gs with
    | g :: rest => decide (g.is_async = 0) && noSet g.iter && chkI it S g.iter && chkT tg S g.target && chkF ifs S g.ifs && chkC c S rest && (c.slots.all fun i => !(tg.slots.any fun j => j == i))
    | [] => false
def chkF : Es → SC → List Expr → Bool
  | .nil, S, xs => match xs with
    | [] => true
    | _ => false
  | .cons e es, S, xs => match es, xs with
    | .nil, [x] => chk e true S x
    | _, _ => false
termination_by structural e => e
end
end Py
end

section
set_option Elab.async false
set_option linter.all false
set_option maxRecDepth 100000
set_option maxHeartbeats 2000000
set_option autoImplicit false
/-! Sim19: what the checker says holds. -/
namespace Py
open PySem PySem.Spec L2 PyProof.Rows
/-- the text around is as S says -/
structure Ok (S : SC) (X : Cx) (G : Cn) : Prop where
  F : Fc G X
  hN : X.N = S.N
  nd : X.N.Nodup
  sc : X.env.scope = S.sc
  Γ : G.Γ = S.Γ
  cm : S.calm = true → X.calm = true
  gd : X.A.guards = some []
  inb : S.inb = true → X.xe = (fun _ _ => False) ∧ G.EX = fun _ _ _ => False
  fn : ∀ x, S.raw.names.lookup x = some .cell → X.fn x = true
  rw : ∀ x k, k ≠ .free → S.raw.names.lookup x = some k → S.sc.names.lookup x = some k
  cs : ∀ x d, S.cs.lookup x = some d → ∃ u v, X.mg x = some u ∧ RelV v u ∧ ∀ c H, Rep c H v d
  fs : ∀ f, S.hasF f = true → ∃ a k fd ps, FnAt X G f a k fd ps
  fv : ∀ f a, G.b.mg f = some (.ref a) → PySem.W.keepIn X.K (.ref a) = true ∧ (S.calm = true → ∀ ds st Q E, G.C f ds st Q E → ∃ k fd ps, FnAt X G f a k fd ps)
  kw : ∀ q ∈ S.kw, ∃ a k fd ps, FnAt X G q.1 a k fd ps ∧ KwAt X fd ps q.2.1 q.2.2
  bl : ∀ x ∈ bltN, X.mg x = none
  pass : noB S.Γ = true → ∀ σ, PassesAt (L2.CX X.prog X.w) X σ (exK G σ)
  xa : ∀ nm C, G.b.xc nm C → AskC X.prog X.K C
section
variable {S : SC} {X : Cx} {G : Cn} {x : Expr} {e : E}
theorem okN_1 {x : Str} (h : okN x = true) : (x == ("__debug__" : Str)) = false := by
  unfold okN at h
  simp only [Bool.and_eq_true, Bool.not_eq_true'] at h
  exact h.1
theorem okN_2 {x : Str} (h : okN x = true) : (x == ("__classdict__" : Str)) = false := by
  unfold okN at h
  simp only [Bool.and_eq_true, Bool.not_eq_true'] at h
  exact h.2
theorem Ok.gl (o : Ok S X G) {x : Str} (h : S.gl x = true) : Gl X x ∧ (x == ("__debug__" : Str)) = false := by
  unfold SC.gl at h
  rw [Bool.and_eq_true] at h
  refine ⟨?_, okN_1 h.1⟩
  show X.env.scope.names.lookup x = some .globalImplicit
  rw [o.sc]
  revert h
  cases S.sc.names.lookup x with
  | none => simp
  | some k => cases k <;> simp
theorem Ok.nm (o : Ok S X G) {i : Nat} {x : Str} (h : S.nm i x = true) : X.N[i]? = some x ∧ Vis X.env.scope x ∧ (x == ("__debug__" : Str)) = false ∧ (x == ("__classdict__" : Str)) = false := by
  unfold SC.nm at h
  simp only [Bool.and_eq_true, decide_eq_true_eq] at h
  refine ⟨by rw [o.hN]; exact h.1.1, ?_, okN_1 h.2, okN_2 h.2⟩
  have h2 := h.1.2
  unfold SC.vis at h2
  unfold Vis
  rw [o.sc]
  revert h2
  cases S.sc.names.lookup x with
  | none => simp
  | some k => cases k <;> simp
theorem Ok.isF (o : Ok S X G) {i : Nat} (h : S.isF i = true) : md G.Γ i = .F := by
  rw [o.Γ]
  exact of_decide_eq_true h
theorem Ok.bln (o : Ok S X G) {x : Str} (h : x ∈ bltN) : X.mg x = none := o.bl x h

theorem toU (F : Fc G X) (h : PE X x (tE G (resOf e) e)) : PE X x (tE G RU e) := by
  unfold resOf at h
  split at h
  · exact h
  · split at h
    · exact RU.of (RF.of h F.C) F.C
    · exact RU.of h F.C
theorem toF (F : Fc G X) (hu : isU e = false) (h : PE X x (tE G (resOf e) e)) : PE X x (tE G RF e) := by
  unfold resOf at h
  rw [hu] at h
  simp only [Bool.false_eq_true, if_false] at h
  split at h
  · exact RF.of h F.C
  · exact h
def Good (t : Bool) (X : Cx) (G : Cn) (x : Expr) (e : E) : Prop := match t with
  | false => PE X x (tE G (resOf e) e)
  | true => PT X x (tT G e)
theorem any_ok {x : Expr} {env : Env} (h : anyT x = true) (whole : Sem Value) : isTrue x env whole = (do let v ← whole; standAt x.pos; holding [v] (truthy v)) := by
  cases x <;> first
    | rfl
    | (simp only [anyT, Bool.false_eq_true] at h; done)
    | (rename_i op _ _; cases op <;> first | rfl | (simp only [anyT, Bool.false_eq_true] at h))
theorem fin (F : Fc G X) {t : Bool} (h : PE X x (tE G (resOf e) e)) (ha : anyT x = true) : Good t X G x e := by
  cases t with
  | false => exact h
  | true => exact t_any F (toU F h) (any_ok ha)
theorem pe_bool1 {op : BoolOp} {pos : Pos} {t : TE} (h : PE X x t) : PE X (.BoolOp op [x] pos) t := ⟨fun pins s σ H Q I hw => h.run pins s σ H Q I hw⟩
theorem pw_of {op : BoolOp} {vs : List Expr} {pos : Pos} {t : TT} (h : PT X (.BoolOp op vs pos) t) : PW X (.BoolOp op vs pos) t := ⟨fun whole pins s σ H Q I hw => h.run pins s σ H Q I hw⟩

/-! ### targets -/
theorem asg_of {e : Expr} {es : List Expr} {env : Env} (h : noStar e = true) : assignEach (e :: es) env = (false, assign e env) :: assignEach es env := by
  cases e <;> first | rfl | exact absurd h Bool.false_ne_true
theorem asg_len {env : Env} : ∀ {es : List Expr}, es.all noStar = true → (assignEach es env).length = es.length ∧ (assignEach es env).findIdx? (·.1) = none
  | [], _ => ⟨rfl, rfl⟩
  | e :: es, h => by
    rw [List.all_cons, Bool.and_eq_true] at h
    obtain ⟨h1, h2⟩ := asg_len (env := env) h.2
    rw [asg_of h.1]
    refine ⟨by simp [h1], ?_⟩
    rw [List.findIdx?_cons]
    simp [h2]
theorem Ok.asn (o : Ok S X G) {x : Str} (h : S.asn x = true) : L2.Loc X.env.scope x ∧ (X.fn x = true ∨ X.env.scope.names.lookup x = some .local) := by
  unfold SC.asn at h
  unfold L2.Loc
  rw [o.sc]
  cases e : S.raw.names.lookup x with
  | none => rw [e] at h; simp at h
  | some k =>
    rw [e] at h
    cases k with
    | «local» => have := o.rw x _ (by decide) e; exact ⟨.inl this, .inr this⟩
    | cell => have := o.rw x _ (by decide) e; exact ⟨.inr this, .inl (o.fn x e)⟩
    | free => simp at h
    | globalExplicit => simp at h
    | globalImplicit => simp at h
mutual
theorem chkT_ok : ∀ (t : T) {S : SC} {x : Expr} {X : Cx} {G : Cn}, Ok S X G → chkT t S x = true → PG X x (tG G t)
  | .nm i, S, x, X, G, o, h => by
    cases x <;> simp only [chkT, Bool.false_eq_true] at h
    simp only [Bool.and_eq_true, decide_eq_true_eq] at h
    obtain ⟨h1, h2⟩ := o.asn h.1.2
    exact g_nm o.nd (by rw [o.hN]; exact h.1.1) h1 h2 (o.isF h.2)
  | .tp ts, S, x, X, G, o, h => by
    cases x <;> simp only [chkT, Bool.false_eq_true] at h
    simp only [Bool.and_eq_true, decide_eq_true_eq] at h
    obtain ⟨h1, h2⟩ := asg_len (env := X.env) h.1.1.2
    exact g_tp o.F (o.cm h.1.1.1) (chkTs_ok ts o h.1.1.2 h.2) (by rw [h1, h.1.2]) h2
theorem chkTs_ok : ∀ (ts : Ts) {S : SC} {xs : List Expr} {X : Cx} {G : Cn}, Ok S X G → xs.all noStar = true → chkTs ts S xs = true → PGs X xs (tGs G ts)
  | .nil, S, xs, X, G, o, hs, h => by
    cases xs with
    | nil => exact g_nil
    | cons _ _ => simp only [chkTs, Bool.false_eq_true] at h
  | .cons t ts, S, xs, X, G, o, hs, h => by
    cases xs with
    | nil => simp only [chkTs, Bool.false_eq_true] at h
    | cons x xs =>
      simp only [chkTs, Bool.and_eq_true] at h
      rw [List.all_cons, Bool.and_eq_true] at hs
      exact g_cons (chkT_ok t o h.1) (chkTs_ok ts o hs.2 h.2) (by rw [asg_of hs.1]; rfl)
end

/-! ### blocks -/
theorem Ok.blk {scope : Scope} {C : Addr} {cl : List (Str × Addr)} {fp : List Addr} {s : Shared} {H : Hp} {Z : Addr} (o : Ok S X G) : Ok (S.into scope) (X.blk s H scope (compEnvC scope cl C X.env) fp) (G.blk Z) where
  F := ⟨o.F.K, o.F.w, o.F.C, ⟨o.F.rm.un⟩⟩
  hN := o.hN
  nd := o.nd
  sc := by
    show relabel scope X.env = relS scope S.sc
    rw [← o.sc]; rfl
  Γ := o.Γ
  cm := o.cm
  gd := o.gd
  inb := fun _ => ⟨rfl, rfl⟩
  fn := fun x h => by
    show (scope.names.lookup x == some NameKind.cell) = true
    have h' : scope.names.lookup x = some NameKind.cell := h
    rw [h']; rfl
  rw := fun x k n h => lookup_relS_keep n h
  cs := o.cs
  fs := fun f h => let ⟨a, k, fd, ps, A⟩ := o.fs f h; ⟨a, k, fd, ps, ⟨A.mg, A.bg, A.kp, A.bi, A.fn, A.rm⟩⟩
  fv := fun f a h => let ⟨h1, h2⟩ := o.fv f a h; ⟨h1, fun hc ds st Q E g => let ⟨k, fd, ps, A⟩ := h2 hc ds st Q E g; ⟨k, fd, ps, ⟨A.mg, A.bg, A.kp, A.bi, A.fn, A.rm⟩⟩⟩
  kw := fun q h => let ⟨a, k, fd, ps, A, B⟩ := o.kw q h; ⟨a, k, fd, ps, ⟨A.mg, A.bg, A.kp, A.bi, A.fn, A.rm⟩, ⟨B.to⟩⟩
  bl := o.bl
  pass := fun _ σ pins H s e s' I h => by
    obtain ⟨a, B, H', cls, d, _, _, _, _, _, _, _, x, l, st, A, _, _, z⟩ := h
    exact z.elim
  xa := o.xa
theorem Ok.bk (o : Ok S X G) {scope : Scope} {own : List Nat} (h : blkOk S scope (ownOf S own) = true) : BlkOk X.N X.env.scope scope (ownOf S own) := by
  unfold blkOk at h
  simp only [Bool.and_eq_true, decide_eq_true_eq, List.all_eq_true] at h
  obtain ⟨⟨⟨⟨h1, h2⟩, h3⟩, h4⟩, h5⟩ := h
  refine ⟨h1, h2, fun p hp => by rw [o.hN]; exact h3 p hp, fun y hy e => ?_, fun y hy e => ?_⟩
  · have := h4 y hy
    rw [if_pos e] at this
    rw [o.sc]
    simpa using this
  · have := h5 y hy
    rw [if_pos e] at this
    rw [o.hN]
    simp only [Bool.or_eq_true, List.any_eq_true, decide_eq_true_eq, Bool.not_eq_true', List.any_eq_false] at this
    rcases this with ⟨p, hp, e⟩ | n
    · exact .inl (List.mem_map.mpr ⟨p, hp, e⟩)
    · exact .inr fun m => (by simpa using n y.1 m)
theorem own_ix (own : List Nat) : ∀ i, i ∈ (ownOf S own).map (·.2) → i ∈ own := fun i m => by
  unfold ownOf at m
  simpa using m
end
end Py
end

section
set_option Elab.async false
set_option linter.all false
set_option maxRecDepth 100000
set_option maxHeartbeats 4000000
set_option autoImplicit false
/-! Sim20: what the checker of expressions says holds. -/
namespace Py
open PySem PySem.Spec L2 PyProof.Rows
section
variable {S : SC} {X : Cx} {G : Cn}
abbrev RLu (u : Bool) : RL := if u then RLU else RLF
/-- what a checked built-in does -/
theorem bf_ok (o : Ok S X G) (hc : S.calm = true) {bf : Bf} {nm : Str} {f : Value} (h : bfN bf = some (nm, f)) :
    Call1 G.b X f (blt1 G.sub bf) ∧ ((∃ id, f = .builtin id) ∨ ∃ T, f = .type T) ∧ X.mg nm = none ∧ bootBuiltins nm = some f ∧ nm ≠ "__name__" := by
  have c := o.cm hc
  have F := o.F
  cases bf <;> simp only [bfN, Option.some.injEq, Prod.mk.injEq, reduceCtorEq] at h <;> obtain ⟨rfl, rfl⟩ := h
  · exact ⟨c_len F.K, .inl ⟨_, rfl⟩, o.bl _ (by decide), by decide +kernel, by decide⟩
  · exact ⟨c_tuple F.K, .inr ⟨_, rfl⟩, o.bl _ (by decide), by decide +kernel, by decide⟩
  · exact ⟨c_list F.K, .inr ⟨_, rfl⟩, o.bl _ (by decide), by decide +kernel, by decide⟩
  · exact ⟨c_dict F.K c, .inr ⟨_, rfl⟩, o.bl _ (by decide), by decide +kernel, by decide⟩
  · exact ⟨c_set F.w c, .inr ⟨_, rfl⟩, o.bl _ (by decide), by decide +kernel, by decide⟩
  · exact ⟨c_sorted F.w F.K F.rm c, .inl ⟨_, rfl⟩, o.bl _ (by decide), by decide +kernel, by decide⟩
  · exact ⟨c_all c, .inl ⟨_, rfl⟩, o.bl _ (by decide), by decide +kernel, by decide⟩
  · exact ⟨c_any c, .inl ⟨_, rfl⟩, o.bl _ (by decide), by decide +kernel, by decide⟩
  · exact ⟨c_sum c, .inl ⟨_, rfl⟩, o.bl _ (by decide), by decide +kernel, by decide⟩
  · exact ⟨c_max c, .inl ⟨_, rfl⟩, o.bl _ (by decide), by decide +kernel, by decide⟩
  · exact ⟨c_min c, .inl ⟨_, rfl⟩, o.bl _ (by decide), by decide +kernel, by decide⟩
  · exact ⟨c_abs, .inl ⟨_, rfl⟩, o.bl _ (by decide), by decide +kernel, by decide⟩
  · exact ⟨c_int, .inr ⟨_, rfl⟩, o.bl _ (by decide), by decide +kernel, by decide⟩
  · exact ⟨c_str, .inr ⟨_, rfl⟩, o.bl _ (by decide), by decide +kernel, by decide⟩
  · exact ⟨c_repr F.K F.rm o.gd, .inl ⟨_, rfl⟩, o.bl _ (by decide), by decide +kernel, by decide⟩
theorem ty_ok (o : Ok S X G) {q : Str} (h : (tyT q).isSome = true) : ∃ T, tyT q = some T ∧ X.mg q = none ∧ bootBuiltins q = some (.type T) ∧ q ≠ "__name__" := by
  unfold tyT at h ⊢
  by_cases h1 : q = "bool"
  · subst h1; exact ⟨_, rfl, o.bl _ (by decide), by decide +kernel, by decide⟩
  by_cases h2 : q = "int"
  · subst h2; exact ⟨_, rfl, o.bl _ (by decide), by decide +kernel, by decide⟩
  by_cases h3 : q = "str"
  · subst h3; exact ⟨_, rfl, o.bl _ (by decide), by decide +kernel, by decide⟩
  by_cases h4 : q = "tuple"
  · subst h4; exact ⟨_, rfl, o.bl _ (by decide), by decide +kernel, by decide⟩
  by_cases h5 : q = "list"
  · subst h5; exact ⟨_, rfl, o.bl _ (by decide), by decide +kernel, by decide⟩
  by_cases h6 : q = "dict"
  · subst h6; exact ⟨_, rfl, o.bl _ (by decide), by decide +kernel, by decide⟩
  · rw [if_neg h1, if_neg h2, if_neg h3, if_neg h4, if_neg h5, if_neg h6] at h; cases h
theorem plain_of {b : Expr} (h : plainIx b = true) : PlainIx b := fun o i => by
  cases b <;> first | rfl | exact absurd h Bool.false_ne_true
theorem isNone_of {e : Expr} (h : isNone e = true) : ∃ j p, e = .Constant .none j p := by
  cases e <;> simp only [isNone, Bool.false_eq_true] at h
  rename_i k j p
  cases k <;> simp only [Bool.false_eq_true] at h
  exact ⟨_, _, rfl⟩
/-- the keys of a display -/
inductive DispKeys : List (Option Expr) → List Key → Prop
  | nil : DispKeys [] []
  | int {i : Int} {j : Nat} {p : Pos} {ks : List (Option Expr)} {qs : List Key} : DispKeys ks qs → DispKeys (some (.Constant (.int i) j p) :: ks) (.inl i :: qs)
  | str {x : Str} {j : Nat} {p : Pos} {ks : List (Option Expr)} {qs : List Key} : DispKeys ks qs → DispKeys (some (.Constant (.str x) j p) :: ks) (.inr x :: qs)
theorem disp_keys : ∀ {keys : List (Option Expr)} {qs : List Key}, ((keys.zip qs).all fun p => match p with
          | (some (.Constant (.int i) _ _), .inl j) => decide (i = j)
          | (some (.Constant (.str s) _ _), .inr r) => decide (s = r)
          | _ => false) = true → keys.length = qs.length → DispKeys keys qs
  | [], [], _, _ => .nil
  | [], _ :: _, _, h => by simp at h
  | _ :: _, [], _, h => by simp at h
  | k :: ks, q :: qs, h, hl => by
    simp only [List.zip_cons_cons, List.all_cons, Bool.and_eq_true] at h
    have ih := disp_keys h.2 (by simpa using hl)
    have h1 := h.1
    split at h1
    · rename_i e
      simp only [Prod.mk.injEq] at e
      obtain ⟨rfl, rfl⟩ := e
      have := of_decide_eq_true h1
      subst this
      exact .int ih
    · rename_i e
      simp only [Prod.mk.injEq] at e
      obtain ⟨rfl, rfl⟩ := e
      have := of_decide_eq_true h1
      subst this
      exact .str ih
    · cases h1
theorem disp_all {keys : List (Option Expr)} {qs : List Key} (h : DispKeys keys qs) : keys.all (·.isSome) = true := by
  induction h with
  | nil => rfl
  | int _ ih => simpa using ih
  | str _ ih => simpa using ih
theorem kw_of {env : Env} {pos : Pos} : ∀ {kws : List Keyword} {ks : List Str}, kws.map (·.arg) = ks.map some →
    (backToKw pos (keywordEach kws env)).all (·.1.isSome) = true ∧ (backToKw pos (keywordEach kws env)).filterMap (·.1) = ks ∧ (backToKw pos (keywordEach kws env)).any (·.1.isNone) = false
  | [], ks, h => by
    cases ks with
    | nil => exact ⟨rfl, rfl, rfl⟩
    | cons _ _ => simp at h
  | ⟨a, v, p⟩ :: kws, ks, h => by
    cases ks with
    | nil => simp at h
    | cons k ks =>
      simp only [List.map_cons, List.cons.injEq] at h
      obtain ⟨h1, h2⟩ := h
      have h1' : a = some k := h1
      subst h1'
      obtain ⟨i1, i2, i3⟩ := kw_of (env := env) (pos := pos) h2
      have e : backToKw pos (keywordEach (⟨some k, v, p⟩ :: kws) env) = (some k, do let v ← eval v env; standAt pos; pure v) :: backToKw pos (keywordEach kws env) := rfl
      rw [e]
      refine ⟨?_, ?_, ?_⟩
      · simpa using i1
      · simpa using i2
      · simpa using i3
theorem chkK_len {S : SC} : ∀ {es : Es} {xs : List Keyword}, chkK es S xs = true → es.len = xs.length
  | .nil, xs, h => by
    cases xs with
    | nil => rfl
    | cons _ _ => simp only [chkK, Bool.false_eq_true] at h
  | .cons e es, xs, h => by
    cases xs with
    | nil => simp only [chkK, Bool.false_eq_true] at h
    | cons x xs =>
      simp only [chkK, Bool.and_eq_true] at h
      have := chkK_len h.2
      simp [Es.len, this]
end
section
variable {X : Cx} {G : Cn} {i : Nat} {nm : Str} {pos pos' : Pos}
/-- e.value, e an error -/
theorem s_val (F : Fc G X) (xa : ∀ nm C, G.b.xc nm C → AskC X.prog X.K C) (hN : X.N[i]? = some nm) (hv : Vis X.env.scope nm) (hm : md G.Γ i = .F) (hd : (nm == ("__debug__" : Str)) = false) (hcd : (nm == ("__classdict__" : Str)) = false) :
    PE X (.Attribute (.Name nm pos) "value" pos') (tE G RF (.val (.slot i))) := by
  refine ⟨fun pins s σ H Q I h => ?_⟩
  obtain ⟨A, l, st, r, g⟩ := h
  simp only [wpE] at g
  obtain ⟨d, e, g⟩ := getL_some g
  cases d <;> simp only at g
  rename_i cn d
  obtain ⟨v, e1, e2⟩ := r.slot i _ e
  rw [hm] at e2
  cases e2 with
  | @exc a C dx o' o _ w _ x hH ho hdx rw' =>
    have T := xa _ _ x
    refine attr_of (by rfl) (thn ((pe_var (pos := pos) hN hv hd hcd).run pins s σ H (fun v H1 => v = .ref a ∧ H1 = H) I ⟨.ref a, e1, rfl, rfl⟩) fun u s1 ⟨v, H1, I1, r1, q1⟩ => ?_)
    obtain ⟨rfl, rfl⟩ := q1
    cases r1
    obtain ⟨hc, hdd, vs, hdat⟩ := ho
    have hraw : ObjOk X.prog X.w H1 s1.heap a (Raw a o) := (I1.hok a _ hH).2
    have ha : s1.heap.get? a = some o := hraw.1
    have hx : ObjOk X.prog X.w H1 s1.heap dx (.xd [(("value" : Str), w)]) := I1.hok dx _ hdx
    obtain ⟨mA, hns, hr⟩ := hx
    obtain ⟨od, hod, hl⟩ := lookIn_ns hns
    have l2 : List.lookup ("value" : Str) [(("value" : Str), w)] = some w := by simp [List.lookup]
    obtain ⟨u, hu, ru⟩ := RelO.some_of (v := w) (o := mA "value") (by rw [← l2]; exact hr "value")
    have J : PySem.W.InstAt s1.heap a o C (some od) := ⟨ha, hc, by unfold PySem.W.notCls; rw [hdat] <;> rfl, by rw [hdd]; exact hod⟩
    exact PySem.HandSPX.exc_get I1.kIn J T.ga T.gg T.exC (PySem.W.findObj_own T.hdC T.noN rfl (by rw [hl, hu])) (handed_of ru) ⟨w, H1, I1.tok _, ru, g w A H1 (Stp.refl _ _) r rw'⟩
end
/-! ### a new list of the store -/
mutual
theorem Rep.ext {c : RC} {H : Hp} {A A' : List Addr} (p : A <+: A') : ∀ {v : V} {d : D}, Rep (c.up A) H v d → Rep (c.up A') H v d
  | _, _, .non => .non
  | _, _, .bl b => .bl b
  | _, _, .int i => .int i
  | _, _, .str x => .str x
  | _, _, .tup h n r => .tup h n (Reps.ext p r)
  | _, _, .lst h r => .lst h (Reps.ext p r)
  | _, _, .dct h e r n => .dct h e (Reps.ext p r) n
  | _, _, .set h d e1 e2 e3 e5 e6 => .set h d e1 e2 (Reps.ext p e3) e5 e6
  | _, _, .rng h => .rng h
  | _, _, .fn h => .fn h
  | _, _, .ref h => .ref (pre_get p h)
  | _, _, .script h l => .script h l
  | _, _, .exc x h e hd r => .exc x h e hd (Rep.ext p r)
theorem Reps.ext {c : RC} {H : Hp} {A A' : List Addr} (p : A <+: A') : ∀ {vs : List V} {ds : List D}, Reps (c.up A) H vs ds → Reps (c.up A') H vs ds
  | _, _, .nil => .nil
  | _, _, .cons a b => .cons (Rep.ext p a) (Reps.ext p b)
end
theorem RepO.ext {c : RC} {H : Hp} {A A' : List Addr} (p : A <+: A') {v : V} {d : D} (h : RepO (c.up A) H v d) : RepO (c.up A') H v d := by
  cases h with
  | lst h r => exact .lst h (Reps.ext p r)
  | dct h e r m => exact .dct h e (Reps.ext p r) m
  | set h d e1 e2 e3 e5 e6 => exact .set h d e1 e2 (Reps.ext p e3) e5 e6
section
variable {X : Cx} {G : Cn} {x : Expr} {e : E}
theorem s_mkO (F : Fc G X) (h : PE X x (tE G RX e)) : PE X x (tE G RF (.mkO e)) := by
  refine PE.mono h ?_
  rintro σ H QQ ⟨A, l, st, r, g⟩
  simp only [wpE] at g
  refine ⟨A, l, st, r, wpE_mono F.C e (fun d st1 q v A1 H1 k1 r1 hv => ?_) (fun _ _ q => q) g⟩
  cases d <;> simp only [mkOR] at q
  rename_i xs
  obtain ⟨ho, a, rfl, na, ha⟩ := hv.1 rfl
  have p : A1 <+: A1 ++ [a] := List.prefix_append _ _
  have ne : ∀ b o, H b = some o → b ≠ a := fun b o e z => by rw [z, ha] at e; cases e
  have hlen : A1.length = st1.obs.length := r1.sto.len
  refine q (.ref a) (A1 ++ [a]) H1 ⟨k1.pre.trans p, fun b o e n => ?_⟩ ⟨r1.len, fun i d e => ?_, r1.own, ⟨r1.old.pre.trans p, fun b o e n => ?_⟩, ⟨?_, ?_, fun n ob e => ?_⟩⟩ (.ref ?_)
  · obtain ⟨q1, q2⟩ := k1.keep b o e n
    refine ⟨q1, fun m => ?_⟩
    rcases List.mem_append.mp m with m | m
    · exact q2 m
    · exact ne b o e (by simpa using m)
  · obtain ⟨v, e1, e2⟩ := r1.slot i d e
    refine ⟨v, e1, ?_⟩
    obtain ⟨v0, f1, f2⟩ := r.slot i d e
    rw [e1] at f1
    cases f1
    have nn : ∀ b u, v = .ref b → H b = some u → b ∉ A1 → b ∉ A1 ++ [a] := fun b u ev hu nb m => by
      rcases List.mem_append.mp m with m | m
      · exact nb m
      · exact ne b u hu (by simpa using m)
    cases hm : md G.Γ i with
    | F => rw [hm] at e2; exact Rep.ext p e2
    | O =>
      rw [hm] at e2 f2
      obtain ⟨h1, b, rfl, nb, z⟩ := e2
      obtain ⟨g1, b', eb, _⟩ := f2
      cases eb
      obtain ⟨_, u, eu, hu, _⟩ := g1.ref
      cases eu
      exact ⟨RepO.ext p h1, b, rfl, ⟨nn b u rfl hu nb.1, nb.2⟩, z⟩
    | B =>
      rw [hm] at e2 f2
      rcases e2 with e2 | ⟨h1, b, rfl, nb, z⟩
      · exact .inl (Rep.ext p e2)
      · obtain ⟨u0, hu0⟩ := z
        by_cases hb : b ∈ G.A0
        · exact absurd (List.IsPrefix.mem hb r1.old.pre) nb.1
        · have := (r.old.keep b u0 hu0 hb).1
          exact .inr ⟨RepO.ext p h1, b, rfl, ⟨nn b u0 rfl this nb.1, nb.2⟩, ⟨u0, hu0⟩⟩
  · obtain ⟨q1, q2⟩ := r1.old.keep b o e n
    refine ⟨q1, fun m => ?_⟩
    rcases List.mem_append.mp m with m | m
    · exact q2 m
    · exact ne b o (r.old.keep b o e n).1 (by simpa using m)
  · show (A1 ++ [a]).length = (st1.obs ++ [Ob.lst xs]).length
    simp [hlen]
  · show (A1 ++ [a]).Nodup
    refine List.nodup_append.mpr ⟨r1.sto.nd, by simp, fun b hb c hc z => ?_⟩
    have : c = a := by simpa using hc
    subst this
    exact na (z ▸ hb)
  · show ∃ b, (A1 ++ [a])[n]? = some b ∧ _
    have e : (st1.obs ++ [Ob.lst xs])[n]? = some ob := e
    by_cases hn : n < st1.obs.length
    · rw [List.getElem?_append_left hn] at e
      obtain ⟨b, hb, rr⟩ := r1.sto.ob n ob e
      refine ⟨b, by rw [List.getElem?_append_left (by rw [hlen]; exact hn)]; exact hb, ?_⟩
      cases ob with
      | inst _ _ => exact rr.elim
      | dct _ _ => exact rr.elim
      | lst _ =>
        obtain ⟨vs, e1, e2⟩ := rr
        exact ⟨vs, e1, Reps.ext p e2⟩
    · have hn' : n = st1.obs.length := by
        have := (List.getElem?_eq_some_iff.mp e).1
        simp at this
        omega
      subst hn'
      simp at e
      subst e
      refine ⟨a, by rw [← hlen]; simp, ?_⟩
      cases ho with
      | lst h1 rs => exact ⟨_, h1, Reps.ext p rs⟩
  · show (A1 ++ [a])[st1.obs.length]? = some a
    rw [← hlen]; simp
end
end Py
end

section
set_option Elab.async false
set_option linter.all false
set_option maxRecDepth 100000
set_option maxHeartbeats 8000000
set_option autoImplicit false
/-! Sim21: what the checker of expressions says holds: the proof. -/
namespace Py
open PySem PySem.Spec L2 PyProof.Rows
theorem cl_mono {G : Cn} {X : Cx} (F : Fc G X) (c : Cl) {f : Acc → Loc → Sto → (Acc → Sto → Prop) → Prop} (hf : ∀ a l st K K', (∀ a st, K a st → K' a st) → f a l st K → f a l st K') :
    ∀ a l st Q Q', (∀ a st, Q a st → Q' a st) → wpD G.sub G.C c f a l st Q → wpD G.sub G.C c f a l st Q' := fun a l st Q Q' h g => wpD_mono F.C c hf h g
theorem dis_of {a b : List Nat} (h : (a.all fun i => !(b.any fun j => j == i)) = true) : ∀ i ∈ a, i ∉ b := fun i m n => by
  have := List.all_eq_true.mp h i m
  simp at this
  exact this i n rfl
theorem sub_of {a b : List Nat} (h : (a.all fun i => b.any fun j => j == i) = true) : ∀ i ∈ a, i ∈ b := fun i m => by
  have := List.all_eq_true.mp h i m
  simpa using this
mutual
theorem chk_ok : ∀ (e : E) {t : Bool} {S : SC} {x : Expr} {X : Cx} {G : Cn}, Ok S X G → chk e t S x = true → Good t X G x e
  | .slot i, t, S, x, X, G, o, h => by
    cases x <;> simp only [chk, Bool.false_eq_true, Bool.and_eq_true] at h
    obtain ⟨h1, h2, h3, h4⟩ := o.nm h.1
    exact fin o.F (s_slot h1 h2 (o.isF h.2) h3 h4) rfl
  | .bor i, t, S, x, X, G, o, h => by
    cases x <;> simp only [chk, Bool.false_eq_true, Bool.and_eq_true] at h
    obtain ⟨h1, h2, h3, h4⟩ := o.nm h
    exact fin o.F (s_bor h1 h2 h3 h4) rfl
  | .cst d, t, S, x, X, G, o, h => by
    cases x <;> simp only [chk, Bool.false_eq_true, decide_eq_true_eq] at h
    exact fin o.F (s_cst h) rfl
  | .glob y d, t, S, x, X, G, o, h => by
    cases x <;> simp only [chk, Bool.false_eq_true, Bool.and_eq_true, decide_eq_true_eq] at h
    obtain ⟨⟨rfl, h1⟩, h2⟩ := h
    obtain ⟨g1, g2⟩ := o.gl h1
    obtain ⟨u, v, e1, e2, e3⟩ := o.cs _ _ h2
    exact fin o.F (s_glob g1 e1 e2 g2 e3) rfl
  | .fnv f, t, S, x, X, G, o, h => by
    cases x <;> simp only [chk, Bool.false_eq_true, Bool.and_eq_true, decide_eq_true_eq] at h
    obtain ⟨⟨rfl, h1⟩, h2⟩ := h
    obtain ⟨g1, g2⟩ := o.gl h1
    obtain ⟨a, k, fd, ps, A⟩ := o.fs _ h2
    exact fin o.F (s_fnv g1 A.mg A.bg g2) rfl
  | .bin op a b, t, S, x, X, G, o, h => by
    cases x <;> simp only [chk, Bool.false_eq_true, Bool.and_eq_true, decide_eq_true_eq] at h
    exact fin o.F (s_bin h.1.1 o.F (toU o.F (chk_ok a (t := false) o h.1.2)) (toU o.F (chk_ok b (t := false) o h.2))) rfl
  | .neg a, t, S, x, X, G, o, h => by
    cases x <;> simp only [chk, Bool.false_eq_true] at h
    rename_i op xa pos
    cases op <;> simp only [Bool.false_eq_true] at h
    exact fin o.F (s_neg o.F (toU o.F (chk_ok a (t := false) o h))) rfl
  | .not_ a, t, S, x, X, G, o, h => by
    cases x <;> simp only [chk, Bool.false_eq_true] at h
    rename_i op xa pos
    cases op <;> simp only [Bool.false_eq_true] at h
    cases t with
    | false => exact s_not o.F (toU o.F (chk_ok a (t := false) o h))
    | true => exact t_not o.F (chk_ok a (t := true) o h)
  | .cmp c a b, t, S, x, X, G, o, h => by
    unfold chk at h
    split at h
    · simp only [Bool.and_eq_true, decide_eq_true_eq, Bool.not_eq_true'] at h
      obtain ⟨⟨⟨h1, h2⟩, h3⟩, h4⟩ := h
      have ha := toU o.F (chk_ok a (t := false) o h3)
      have hb := toU o.F (chk_ok b (t := false) o h4)
      cases t with
      | false => exact s_cmp h1 o.F (cm_all o.F.K o.F.rm c) ha hb h2
      | true => exact t_cmp h1 o.F (cm_all o.F.K o.F.rm c) ha hb h2
    · cases h
  | .cmp2 c c' a b d, t, S, x, X, G, o, h => by
    unfold chk at h
    split at h
    · simp only [Bool.and_eq_true, decide_eq_true_eq, Bool.not_eq_true'] at h
      obtain ⟨⟨⟨⟨⟨h1, h1'⟩, h2⟩, h3⟩, h4⟩, h5⟩ := h
      have ha := toU o.F (chk_ok a (t := false) o h3)
      have hb := toU o.F (chk_ok b (t := false) o h4)
      have hd := toU o.F (chk_ok d (t := false) o h5)
      cases t with
      | false => exact s_cmp2 h1 h1' o.F (cm_all o.F.K o.F.rm c) (cm_all o.F.K o.F.rm c') ha hb hd h2
      | true => exact t_cmp2 h1 h1' o.F (cm_all o.F.K o.F.rm c) (cm_all o.F.K o.F.rm c') ha hb hd h2
    · cases h
  | .and_ a b, t, S, x, X, G, o, h => by
    unfold chk at h
    split at h
    · rename_i xa xb rest p
      simp only [Bool.and_eq_true, Bool.or_eq_true, Bool.not_eq_true'] at h
      obtain ⟨⟨h1, h2⟩, h3⟩ := h
      cases t with
      | false =>
        simp only [Bool.false_eq_true, false_or] at h1
        have ha := toF o.F h1.1 (chk_ok a (t := false) o h2)
        cases rest with
        | nil => exact s_and (pos' := p) o.F ha (pe_bool1 (toF o.F h1.2 (chk_ok b (t := false) o h3)))
        | cons r rest => exact s_and (pos' := p) o.F ha (toF o.F h1.2 (chk_ok b (t := false) o h3))
      | true =>
        have ha : PT X xa (tT G a) := chk_ok a (t := true) o h2
        cases rest with
        | nil => exact (t_and o.F ha (pw_and1 (show PT X xb (tT G b) from chk_ok b (t := true) o h3))).pt
        | cons r rest => exact (t_and o.F ha (pw_of (show PT X _ (tT G b) from chk_ok b (t := true) o h3))).pt
    · cases h
  | .or_ a b, t, S, x, X, G, o, h => by
    unfold chk at h
    split at h
    · rename_i xa xb rest p
      simp only [Bool.and_eq_true, Bool.or_eq_true, Bool.not_eq_true'] at h
      obtain ⟨⟨h1, h2⟩, h3⟩ := h
      cases t with
      | false =>
        simp only [Bool.false_eq_true, false_or] at h1
        have ha := toF o.F h1.1 (chk_ok a (t := false) o h2)
        cases rest with
        | nil => exact s_or o.F ha (pe_bool1 (toF o.F h1.2 (chk_ok b (t := false) o h3)))
        | cons r rest => exact s_or o.F ha (toF o.F h1.2 (chk_ok b (t := false) o h3))
      | true =>
        have ha : PT X xa (tT G a) := chk_ok a (t := true) o h2
        cases rest with
        | nil => exact (t_or o.F ha (pw_or1 (show PT X xb (tT G b) from chk_ok b (t := true) o h3))).pt
        | cons r rest => exact (t_or o.F ha (pw_of (show PT X _ (tT G b) from chk_ok b (t := true) o h3))).pt
    · cases h
  | .ite c a b, t, S, x, X, G, o, h => by
    cases x <;> simp only [chk, Bool.false_eq_true, Bool.and_eq_true, Bool.not_eq_true'] at h
    obtain ⟨⟨⟨⟨⟨rfl, h1⟩, h2⟩, h3⟩, h4⟩, h5⟩ := h
    exact s_ite o.F (chk_ok c (t := true) o h3) (toF o.F h1 (chk_ok a (t := false) o h4)) (toF o.F h2 (chk_ok b (t := false) o h5))
  | .isK n a k, t, S, x, X, G, o, h => by
    unfold chk at h
    split at h
    · simp only [Bool.and_eq_true, decide_eq_true_eq, Bool.not_eq_true'] at h
      obtain ⟨⟨⟨rfl, rfl⟩, h2⟩, h3⟩ := h
      obtain ⟨j, p, rfl⟩ := isNone_of h2
      have ha := toU o.F (chk_ok a (t := false) o h3)
      cases t with
      | false => exact s_is o.F ha
      | true => exact t_is o.F ha
    · simp only [Bool.and_eq_true, decide_eq_true_eq, Bool.not_eq_true'] at h
      obtain ⟨⟨⟨rfl, rfl⟩, h2⟩, h3⟩ := h
      obtain ⟨j, p, rfl⟩ := isNone_of h2
      have ha := toU o.F (chk_ok a (t := false) o h3)
      cases t with
      | false => exact s_isnt o.F ha
      | true => exact t_isnt o.F ha
    · cases h
  | .call f es, t, S, x, X, G, o, h => by
    unfold chk at h
    split at h
    · simp only [Bool.and_eq_true, decide_eq_true_eq] at h
      obtain ⟨⟨⟨⟨⟨rfl, h1⟩, h2⟩, h3⟩, h4⟩, hB⟩ := h
      rename_i xs _
      obtain ⟨g1, g2⟩ := o.gl h1
      obtain ⟨a, k, fd, ps, A⟩ := o.fs _ h2
      have ha : PA X xs (tEs G RLF es) := chks_ok es (u := false) o h3 h4
      refine fin o.F ?_ rfl
      cases xs with
      | nil =>
        cases es with
        | nil => exact s_call0 o.F A o.gd (o.pass hB) g1 g2
        | cons _ _ => simp only [chks, Bool.false_eq_true] at h4
      | cons y ys => exact s_call o.F A o.gd (o.pass hB) g1 g2 ha h3
    · cases h
  | .callK f n es pm, t, S, x, X, G, o, h => by
    unfold chk at h
    split at h
    · simp only [Bool.and_eq_true, decide_eq_true_eq, List.any_eq_true] at h
      obtain ⟨⟨⟨⟨⟨rfl, rfl⟩, h1⟩, q, hq, ⟨e1, e2⟩, e3⟩, h4⟩, hB⟩ := h
      rename_i kws pos
      obtain ⟨g1, g2⟩ := o.gl h1
      obtain ⟨a, k, fd, ps, A, B⟩ := o.kw q hq
      subst e1 e3
      have hn : kws.map (·.arg) = q.2.1.map some := e2.symm
      obtain ⟨k1, k2, k3⟩ := kw_of (env := X.env) (pos := pos) hn
      exact fin o.F (s_callK o.F A B o.gd (o.pass hB) g1 g2 (chkK_ok es o h4) k1 k2 k3 (by
        have h1 := chkK_len h4
        have h2 := congrArg List.length e2
        simp only [List.length_map] at h2
        omega)) rfl
    · cases h
  | .callV i es, t, S, x, X, G, o, h => by
    unfold chk at h
    split at h
    · simp only [Bool.and_eq_true] at h
      obtain ⟨⟨⟨⟨⟨h1, h2⟩, h3⟩, h4⟩, hB⟩, hc⟩ := h
      obtain ⟨n1, n2, n3, n4⟩ := o.nm h1
      exact fin o.F (s_callV o.F (fun f a ds st Q E hb g => (o.fv f a hb).2 hc ds st Q E g) (fun f a hb => (o.fv f a hb).1) o.gd (o.pass hB) n1 n2 (o.isF h2) n3 n4 (chks_ok es (u := false) o h3 h4) h3) rfl
    · cases h
  | .blt bf es, t, S, x, X, G, o, h => by
    unfold chk at h
    split at h
    · simp only [Bool.and_eq_true] at h
      obtain ⟨⟨⟨h1, hc⟩, h2⟩, h3⟩ := h
      obtain ⟨g1, g2⟩ := o.gl h1
      refine fin o.F ?_ rfl
      split at h3
      · simp only [Bool.and_eq_true, decide_eq_true_eq] at h3
        obtain ⟨⟨⟨⟨rfl, rfl⟩, h4⟩, h5⟩, h6⟩ := h3
        obtain ⟨g3, g4⟩ := o.gl h4
        obtain ⟨T, t1, t2, t3, t4⟩ := ty_ok o h5
        rw [List.all_cons, Bool.and_eq_true] at h2
        cases es with
        | nil => simp only [chks, Bool.false_eq_true] at h6
        | cons e es =>
          cases es with
          | cons _ _ => simp only [chks, Bool.and_eq_true, Bool.false_eq_true, and_false] at h6
          | nil =>
            simp only [chks, Bool.and_eq_true] at h6
            exact s_isi o.F g1 (o.bl _ (by decide)) g3 t2 t3 t1 t4 g4 h2.1 (toU o.F (chk_ok e (t := false) o h6.1.2))
      · cases h3
      · rename_i _ xa hni
        simp only [Bool.and_eq_true] at h3
        obtain ⟨h4, h6⟩ := h3
        rw [List.all_cons, Bool.and_eq_true] at h2
        cases hb : bfN bf with
        | none => rw [hb] at h4; cases h4
        | some p =>
          rw [hb] at h4
          have hp := of_decide_eq_true h4
          obtain ⟨nm', f⟩ := p
          dsimp only at hp
          subst hp
          obtain ⟨b1, b2, b3, b4, b5⟩ := bf_ok o hc hb
          cases es with
          | nil => simp only [chks, Bool.false_eq_true] at h6
          | cons e es =>
            cases es with
            | cons _ _ => simp only [chks, Bool.and_eq_true, Bool.false_eq_true, and_false] at h6
            | nil =>
              simp only [chks, Bool.and_eq_true] at h6
              have hr : resOf (.blt bf (.cons e .nil)) = RX := by
                cases bf <;> first | rfl | (simp only [bfN, reduceCtorEq] at hb)
              rw [hr]
              exact s_blt1 o.F b1 b2 g1 b3 b4 b5 g2 h2.1 (toU o.F (chk_ok e (t := false) o h6.1.2))
      · cases h3
    · cases h
  | .ix a i, t, S, x, X, G, o, h => by
    cases x <;> simp only [chk, Bool.false_eq_true, Bool.and_eq_true] at h
    exact fin o.F (s_ix o.F (ix_O o.F.K o.F.rm) (toU o.F (chk_ok a (t := false) o h.1.2)) (toU o.F (chk_ok i (t := false) o h.2)) (plain_of h.1.1)) rfl
  | .sl a lo hi, t, S, x, X, G, o, h => by
    unfold chk at h
    split at h
    · simp only [Bool.and_eq_true] at h
      exact fin o.F (s_sl o.F (toU o.F (chk_ok a (t := false) o h.1.1)) (chkO_ok lo o h.1.2) (chkO_ok hi o h.2)) rfl
    · cases h
  | .rev _, t, S, x, X, G, o, h => by simp only [chk, Bool.false_eq_true] at h
  | .tup es, t, S, x, X, G, o, h => by
    cases x <;> simp only [chk, Bool.false_eq_true, Bool.and_eq_true, decide_eq_true_eq] at h
    exact fin o.F (s_tup o.F h.1.1 (chks_ok es (u := false) o h.1.2 h.2)) rfl
  | .lst es, t, S, x, X, G, o, h => by
    cases x <;> simp only [chk, Bool.false_eq_true, Bool.and_eq_true, decide_eq_true_eq] at h
    exact fin o.F (s_lst o.F h.1.1 (chks_ok es (u := false) o h.1.2 h.2)) rfl
  | .dict ks vs, t, S, x, X, G, o, h => by
    unfold chk at h
    split at h
    · rename_i k keys values pos
      split at h
      · rename_i qs hq
        simp only [Bool.and_eq_true, decide_eq_true_eq] at h
        obtain ⟨⟨⟨⟨⟨h1, h2⟩, h3⟩, h4⟩, h5⟩, h6⟩ := h
        have hz := disp_keys h4 h3
        exact fin o.F (s_dict o.F hq h1 (chkP_ok vs o h6 (k :: keys) qs hz h1) (disp_all hz) h5 (by simp) (by omega) h2) rfl
      · cases h
    · cases h
  | .lc own e (.for_ tg it ifs c), t, S, x, X, G, o, h => by
    unfold chk at h
    split at h
    · rename_i elt g rest scope pos
      obtain ⟨tgx, iterx, ifsx, as⟩ := g
      simp only [Bool.and_eq_true, decide_eq_true_eq, Bool.not_eq_true'] at h
      obtain ⟨⟨⟨⟨⟨⟨⟨⟨⟨⟨⟨⟨hc, rfl⟩, hna⟩, hbk⟩, hns⟩, hi⟩, ht⟩, hf⟩, hcl⟩, he⟩, hu⟩, hdis⟩, hsub⟩ := h
      have na : noAsync (⟨tgx, iterx, ifsx, 0⟩ :: rest) = true := by simp only [noAsync, List.all_cons, Bool.and_eq_true]; exact ⟨rfl, hna⟩
      refine fin o.F (s_lc ⟨o.F, o.cm hc, o.nd, o.bk hbk, na, chkI_ok it tgx o hi, hns, cl_mono o.F c (wL_mono o.F e), dis_of hdis, own_ix own, sub_of hsub⟩ fun s H C cl fp Z => ?_) rfl
      have oB := o.blk (scope := scope) (C := C) (cl := cl) (fp := fp) (s := s) (H := H) (Z := Z)
      refine ⟨chkT_ok tg oB ht, chkF_ok ifs oB rfl hf, fun Z' hZ => ?_⟩
      exact chkC_ok c oB hc rfl hcl (by rfl) hZ (fun k it' t i f hk => turnL hk fun g e => noAsync_at na e) (fun k => kindL) (fun k => skL) (wL_mono oB.F e) fun k hk => body_L oB.F rfl rfl hZ hk (toF oB.F hu (chk_ok e (t := false) oB he))
    · cases h
  | .lc _ _ .nil, t, S, x, X, G, o, h => by simp only [chk, Bool.false_eq_true] at h
  | .sc own e (.for_ tg it ifs c), t, S, x, X, G, o, h => by
    unfold chk at h
    split at h
    · rename_i elt g rest scope pos
      obtain ⟨tgx, iterx, ifsx, as⟩ := g
      simp only [Bool.and_eq_true, decide_eq_true_eq, Bool.not_eq_true'] at h
      obtain ⟨⟨⟨⟨⟨⟨⟨⟨⟨⟨⟨⟨hc, rfl⟩, hna⟩, hbk⟩, hns⟩, hi⟩, ht⟩, hf⟩, hcl⟩, he⟩, hu⟩, hdis⟩, hsub⟩ := h
      have na : noAsync (⟨tgx, iterx, ifsx, 0⟩ :: rest) = true := by simp only [noAsync, List.all_cons, Bool.and_eq_true]; exact ⟨rfl, hna⟩
      refine fin o.F (s_sc ⟨o.F, o.cm hc, o.nd, o.bk hbk, na, chkI_ok it tgx o hi, hns, cl_mono o.F c (wS_mono o.F e), dis_of hdis, own_ix own, sub_of hsub⟩ fun s H C cl fp Z => ?_) rfl
      have oB := o.blk (scope := scope) (C := C) (cl := cl) (fp := fp) (s := s) (H := H) (Z := Z)
      refine ⟨chkT_ok tg oB ht, chkF_ok ifs oB rfl hf, fun Z' hZ => ?_⟩
      exact chkC_ok c oB hc rfl hcl (by rfl) hZ (fun k it' t i f hk => turnS hk fun g e => noAsync_at na e) (fun k => kindS) (fun k => skS) (wS_mono oB.F e) fun k hk => body_S oB.F rfl rfl hZ hk (toF oB.F hu (chk_ok e (t := false) oB he))
    · cases h
  | .sc _ _ .nil, t, S, x, X, G, o, h => by simp only [chk, Bool.false_eq_true] at h
  | .dc own ek ev (.for_ tg it ifs c), t, S, x, X, G, o, h => by
    unfold chk at h
    split at h
    · rename_i kx vx g rest scope pos
      obtain ⟨tgx, iterx, ifsx, as⟩ := g
      simp only [Bool.and_eq_true, decide_eq_true_eq, Bool.not_eq_true'] at h
      obtain ⟨⟨⟨⟨⟨⟨⟨⟨⟨⟨⟨⟨⟨⟨hc, rfl⟩, hna⟩, hbk⟩, hns⟩, hi⟩, ht⟩, hf⟩, hcl⟩, he⟩, hu⟩, he'⟩, hu'⟩, hdis⟩, hsub⟩ := h
      have na : noAsync (⟨tgx, iterx, ifsx, 0⟩ :: rest) = true := by simp only [noAsync, List.all_cons, Bool.and_eq_true]; exact ⟨rfl, hna⟩
      refine fin o.F (s_dc ⟨o.F, o.cm hc, o.nd, o.bk hbk, na, chkI_ok it tgx o hi, hns, cl_mono o.F c (wD_mono o.F ek ev), dis_of hdis, own_ix own, sub_of hsub⟩ fun s H C cl fp Z => ?_) rfl
      have oB := o.blk (scope := scope) (C := C) (cl := cl) (fp := fp) (s := s) (H := H) (Z := Z)
      refine ⟨chkT_ok tg oB ht, chkF_ok ifs oB rfl hf, fun Z' hZ => ?_⟩
      exact chkC_ok c oB hc rfl hcl (by rfl) hZ (fun k it' t i f hk => turnD hk fun g e => noAsync_at na e) (fun k => kindD) (fun k => skD) (wD_mono oB.F ek ev) fun k hk => body_D oB.F rfl rfl hZ hk (toF oB.F hu (chk_ok ek (t := false) oB he)) (toF oB.F hu' (chk_ok ev (t := false) oB he'))
    · cases h
  | .dc _ _ _ .nil, t, S, x, X, G, o, h => by simp only [chk, Bool.false_eq_true] at h
  | .mkO e, t, S, x, X, G, o, h => by
    unfold chk at h
    split at h
    · rename_i es
      have hx := chk_ok (.lst es) (t := false) o h
      have hm : PE X x (tE G RF (.mkO (.lst es))) := s_mkO o.F hx
      cases x <;> simp only [chk, Bool.false_eq_true] at h
      exact fin o.F hm rfl
    · cases h
  | .val a, t, S, x, X, G, o, h => by
    unfold chk at h
    split at h
    · split at h
      · simp only [Bool.and_eq_true, decide_eq_true_eq] at h
        obtain ⟨⟨rfl, h1⟩, h2⟩ := h
        obtain ⟨n1, n2, n3, n4⟩ := o.nm h1
        cases t with
        | false => exact s_val o.F o.xa n1 n2 (o.isF h2) n3 n4
        | true => exact t_any o.F (RU.of (s_val o.F o.xa n1 n2 (o.isF h2) n3 n4) o.F.C) (fun _ => rfl)
      · cases h
    · cases h
  | .get _ _ _, t, S, x, X, G, o, h => by simp only [chk, Bool.false_eq_true] at h
  | .sortK _ _ _, t, S, x, X, G, o, h => by simp only [chk, Bool.false_eq_true] at h
theorem chks_ok : ∀ (es : Es) {u : Bool} {S : SC} {xs : List Expr} {X : Cx} {G : Cn}, Ok S X G → xs.all noStar = true → chks es u S xs = true → PA X xs (tEs G (RLu u) es)
  | .nil, u, S, xs, X, G, o, hs, h => by
    cases xs with
    | nil => cases u <;> first | exact s_nilF | exact s_nilU
    | cons _ _ => simp only [chks, Bool.false_eq_true] at h
  | .cons e es, u, S, xs, X, G, o, hs, h => by
    cases xs with
    | nil => simp only [chks, Bool.false_eq_true] at h
    | cons x xs =>
      simp only [chks, Bool.and_eq_true, Bool.or_eq_true, Bool.not_eq_true'] at h
      rw [List.all_cons, Bool.and_eq_true] at hs
      have he := chk_ok e (t := false) o h.1.2
      have ih := chks_ok es o hs.2 h.2
      cases u with
      | false => exact s_consF o.F (toF o.F (by simpa using h.1.1) he) ih (star_of hs.1)
      | true => exact s_consU o.F (toU o.F he) ih (star_of hs.1)
theorem chkK_ok : ∀ (es : Es) {S : SC} {xs : List Keyword} {X : Cx} {G : Cn}, Ok S X G → chkK es S xs = true → PK X xs (tEs G RLF es)
  | .nil, S, xs, X, G, o, h => by
    cases xs with
    | nil => exact k_nil
    | cons _ _ => simp only [chkK, Bool.false_eq_true] at h
  | .cons e es, S, xs, X, G, o, h => by
    cases xs with
    | nil => simp only [chkK, Bool.false_eq_true] at h
    | cons x xs =>
      obtain ⟨nm, v, p⟩ := x
      simp only [chkK, Bool.and_eq_true, Bool.not_eq_true'] at h
      exact k_cons o.F (toF o.F h.1.1 (chk_ok e (t := false) o h.1.2)) (chkK_ok es o h.2)
/-- the values of a display -/
theorem chkP_ok : ∀ (es : Es) {S : SC} {xs : List Expr} {X : Cx} {G : Cn} {pos : Pos}, Ok S X G → chks es false S xs = true → ∀ (keys : List (Option Expr)) (qs : List Key), DispKeys keys qs → qs.length = es.len → PPs X pos keys xs (trsOf G qs es)
  | .nil, S, xs, X, G, pos, o, h, keys, qs, hk, hl => by
    cases hk with
    | nil =>
      cases xs with
      | nil => exact pps_nil
      | cons _ _ => simp only [chks, Bool.false_eq_true] at h
    | int _ => simp [Es.len] at hl
    | str _ => simp [Es.len] at hl
  | .cons e es, S, xs, X, G, pos, o, h, keys, qs, hk, hl => by
    cases xs with
    | nil => simp only [chks, Bool.false_eq_true] at h
    | cons x xs =>
      simp only [chks, Bool.and_eq_true, Bool.or_eq_true, Bool.false_eq_true, false_or, Bool.not_eq_true'] at h
      have he := toF o.F h.1.1 (chk_ok e (t := false) o h.1.2)
      cases hk with
      | nil => simp [Es.len] at hl
      | int hk => exact pps_cons pe_int he (chkP_ok es o h.2 _ _ hk (by simpa [Es.len] using hl))
      | str hk => exact pps_cons pe_str he (chkP_ok es o h.2 _ _ hk (by simpa [Es.len] using hl))
theorem chkO_ok : ∀ (e : Oe) {S : SC} {x : Option Expr} {X : Cx} {G : Cn}, Ok S X G → chkO e S x = true → PO X x (tO G e)
  | .none, S, x, X, G, o, h => by
    cases x with
    | none => exact o_none
    | some _ => simp only [chkO, Bool.false_eq_true] at h
  | .some e, S, x, X, G, o, h => by
    cases x with
    | none => simp only [chkO, Bool.false_eq_true] at h
    | some x =>
      simp only [chkO] at h
      exact o_some o.F (toU o.F (chk_ok e (t := false) o h))
theorem chkI_ok : ∀ (it : It) (tg : Expr) {S : SC} {x : Expr} {X : Cx} {G : Cn}, Ok S X G → chkI it S x = true → PI X tg x (tI G it)
  | .ex e, tg, S, x, X, G, o, h => by
    simp only [chkI, Bool.and_eq_true, Bool.not_eq_true'] at h
    exact i_ex o.F (toF o.F h.1 (chk_ok e (t := false) o h.2))
  | .lk i, tg, S, x, X, G, o, h => by
    cases x <;> simp only [chkI, Bool.false_eq_true] at h
    obtain ⟨h1, h2, h3, h4⟩ := o.nm h
    exact i_lk o.F h1 h2 h3 h4
  | .rg es, tg, S, x, X, G, o, h => by
    unfold chkI at h
    split at h
    · simp only [Bool.and_eq_true, decide_eq_true_eq] at h
      obtain ⟨⟨⟨rfl, h1⟩, h2⟩, h3⟩ := h
      obtain ⟨g1, g2⟩ := o.gl h1
      cases es with
      | nil => simp only [chks, Bool.false_eq_true] at h3
      | cons e es =>
        cases es with
        | cons _ _ => simp only [chks, Bool.and_eq_true, Bool.false_eq_true, and_false] at h3
        | nil =>
          simp only [chks, Bool.and_eq_true] at h3
          exact i_r1 o.F g1 (o.bl _ (by decide)) h2 (toU o.F (chk_ok e (t := false) o h3.1.2))
    · simp only [Bool.and_eq_true, decide_eq_true_eq] at h
      obtain ⟨⟨⟨⟨rfl, h1⟩, h2⟩, h2'⟩, h3⟩ := h
      obtain ⟨g1, g2⟩ := o.gl h1
      cases es with
      | nil => simp only [chks, Bool.false_eq_true] at h3
      | cons e es =>
        cases es with
        | nil => simp only [chks, Bool.and_eq_true, Bool.false_eq_true, and_false] at h3
        | cons e' es =>
          cases es with
          | cons _ _ => simp only [chks, Bool.and_eq_true, Bool.false_eq_true, and_false] at h3
          | nil =>
            simp only [chks, Bool.and_eq_true] at h3
            exact i_r2 o.F g1 (o.bl _ (by decide)) h2 h2' (toU o.F (chk_ok e (t := false) o h3.1.2)) (toU o.F (chk_ok e' (t := false) o h3.2.1.2))
    · cases h
  | .zip _, tg, S, x, X, G, o, h => by simp only [chkI, Bool.false_eq_true] at h
  | .enum _, tg, S, x, X, G, o, h => by simp only [chkI, Bool.false_eq_true] at h
  | .items _, tg, S, x, X, G, o, h => by simp only [chkI, Bool.false_eq_true] at h
  | .vals _, tg, S, x, X, G, o, h => by simp only [chkI, Bool.false_eq_true] at h
  | .rev _, tg, S, x, X, G, o, h => by simp only [chkI, Bool.false_eq_true] at h
theorem chkC_ok : ∀ (c : Cl) {S : SC} {X : Cx} {G : Cn}, Ok S X G → S.calm = true → S.inb = true → ∀ {gs : List Comprehension}, chkC c S gs = true → ∀ {e : Expr} {gens : List Comprehension} {k : Nat} {emit : Sem Unit} {Z : Addr} {mk : Acc → D} {f : Acc → Loc → Sto → (Acc → Sto → Prop) → Prop},
    gens.drop k = gs → Z ∈ G.b.hid → (∀ k it t i ifs, gens[k]? = some ⟨t, i, ifs, 0⟩ → compTurn e k it (.ref Z) X.env = turnC e gens k emit it (.ref Z) X.env t i ifs) → (∀ k, CKind e k X.env) → (∀ k, SKind e gens k X.env) →
    (∀ a l st K K', (∀ a st, K a st → K' a st) → f a l st K → f a l st K') → (∀ k, gens[k]? = none → BodyOk X G Z mk [] (nextC e gens k emit (.ref Z) X.env) f) → BodyOk X G Z mk c.slots (nextC e gens k emit (.ref Z) X.env) (wpD G.sub G.C c f)
  | .nil, S, X, G, o, hc, hb, gs, h, e, gens, k, emit, Z, mk, f, hgs, hid, ht, kd, sk, hf, h0 => by
    cases gs with
    | cons _ _ => simp only [chkC, Bool.false_eq_true] at h
    | nil =>
      have hk : gens[k]? = none := by
        rw [List.getElem?_eq_none_iff]
        exact List.drop_eq_nil_iff.mp hgs
      exact h0 k hk
  | .for_ tg it ifs c, S, X, G, o, hc, hb, gs, h, e, gens, k, emit, Z, mk, f, hgs, hid, ht, kd, sk, hf, h0 => by
    cases gs with
    | nil => simp only [chkC, Bool.false_eq_true] at h
    | cons g rest =>
      obtain ⟨tgx, iterx, ifsx, as⟩ := g
      simp only [chkC, Bool.and_eq_true, decide_eq_true_eq] at h
      obtain ⟨⟨⟨⟨⟨⟨rfl, hns⟩, hi⟩, htg⟩, hfi⟩, hcl⟩, hdis⟩ := h
      have hk : gens[k]? = some ⟨tgx, iterx, ifsx, 0⟩ := by
        have := congrArg (fun l => l[0]?) hgs
        simpa using this
      have hr : gens.drop (k + 1) = rest := by
        have := congrArg List.tail hgs
        simpa [List.tail_drop] using this
      obtain ⟨hxe, hEX⟩ := o.inb hb
      exact body_next o.F (o.cm hc) hxe hEX rfl hid hk (fun it => ht k it _ _ _ hk) (kd k) (sk k) (chkT_ok tg o htg) (chkF_ok ifs o hb hfi) (chkI_ok it tgx o hi) (fold_of hns) (chkC_ok c o hc hb hcl hr hid ht kd sk hf h0) (cl_mono o.F c hf) (dis_of hdis)
theorem chkF_ok : ∀ (es : Es) {S : SC} {X : Cx} {G : Cn}, Ok S X G → S.inb = true → ∀ {xs : List Expr}, chkF es S xs = true → PTs X xs (tF G es)
  | .nil, S, X, G, o, hb, xs, h => by
    cases xs with
    | nil => exact f_nil
    | cons _ _ => simp only [chkF, Bool.false_eq_true] at h
  | .cons e .nil, S, X, G, o, hb, xs, h => by
    cases xs with
    | nil => simp only [chkF, Bool.false_eq_true] at h
    | cons x xs =>
      cases xs with
      | cons _ _ => simp only [chkF, Bool.false_eq_true] at h
      | nil =>
        simp only [chkF] at h
        exact f_one o.F (o.inb hb).2 (chk_ok e (t := true) o h)
  | .cons e (.cons _ _), S, X, G, o, hb, xs, h => by simp only [chkF, Bool.false_eq_true] at h
end
end Py
end

section
set_option Elab.async false
set_option linter.all false
set_option maxRecDepth 100000
set_option maxHeartbeats 2000000
set_option autoImplicit false
/-! Sim22: statements: readings, names that take values, freezing, small statements. -/
namespace Py
open PySem PySem.Spec L2 PyProof.Rows
@[reducible] def Cn.at (G : Cn) (Γ : List Md) : Cn := { G with Γ := Γ }
@[reducible] def SC.at (S : SC) (Γ : List Md) : SC := { S with Γ := Γ }
/-- what is wanted behind a statement, by what the meaning wants: Γn how the slots stand behind it (none: nothing comes behind), Γl how at a loop's head -/
structure KnD (G : Cn) (As : List Addr) (Hs : Hp) (Γn : Option (List Md)) (Γl : List Md) (k : Kn) (D : Ends) : Prop where
  nx : ∀ Γ, Γn = some Γ → ∀ l st σ A H, (G.at Γ).rel A l st σ H → Pres G.b As A Hs H → k.nx l st → D.nx σ H
  rt : ∀ d st v A H, Stp G.A0 A G.H0 H → StoOk (G.b.up A) st H → Rep (G.b.up A) H v d → k.rt d st → D.rt v H
  bk : ∀ l st σ A H, (G.at Γl).rel A l st σ H → Pres G.b As A Hs H → k.bk l st → D.bk σ H
  ct : ∀ l st σ A H, (G.at Γl).rel A l st σ H → Pres G.b As A Hs H → k.ct l st → D.ct σ H
  ex : ∀ x l st, k.ex x l st → G.EX x l st
def tS (G : Cn) (s : Sm) (Γn : Option (List Md)) (Γl : List Md) : TS := fun D σ H => ∃ A l st k, G.rel A l st σ H ∧ wpS G.sub G.C s k l st ∧ KnD G A H Γn Γl k D
def tSs (G : Cn) (s : Sms) (Γn : Option (List Md)) (Γl : List Md) : TS := fun D σ H => ∃ A l st k, G.rel A l st σ H ∧ wpSs G.sub G.C s k l st ∧ KnD G A H Γn Γl k D
section
variable {X : Cx} {G : Cn} {Γ Γ' Γl : List Md} {A A' : List Addr} {l : Loc} {st st' : Sto} {σ : L2.St} {H H' H2 : Hp}
theorem md_set {i j : Nat} {m : Md} (h : i < Γ.length) : md (Γ.set i m) j = if i = j then m else md Γ j := by
  unfold md
  simp only [List.getD_eq_getElem?_getD, List.getElem?_set]
  split
  · rename_i e; subst e; simp
  · rfl

/-! ### a name takes a new thing of its own -/
theorem Cn.rel.setO {i : Nat} {v : V} {d : D} (r0 : G.rel A l st σ H) (k : Stp A A' H H') (r : G.rel A' l st' σ H') (hid : G.b.hid = []) (hi : i < G.Γ.length) (hl : i < l.length) (hn : RN (G.b.up A') H H' v d) : (G.at (G.Γ.set i .O)).rel A' (l.set i (some d)) st' (σ.set i (some v)) H' := by
  obtain ⟨ho, a, rfl, na, ha⟩ := hn
  have hσ : i < σ.length := by rw [← r.len]; exact hl
  have h0 : G.H0 a = none := r0.old.free ha fun m => na (List.IsPrefix.mem (List.IsPrefix.mem m r0.old.pre) k.pre)
  have other : ∀ (j : Nat) (b : Addr) (e : D), md G.Γ j = .O → l[j]? = some (some e) → σ[j]? = some (some (.ref b)) → b ≠ a := by
    intro j b e hm he hs z
    obtain ⟨v, e1, e2⟩ := r0.slot j e he
    rw [hs] at e1; cases e1
    rw [hm] at e2
    obtain ⟨h, b', eb, _⟩ := e2
    cases eb
    obtain ⟨_, u, e', hu, _⟩ := h.ref
    cases e'
    rw [z, ha] at hu; cases hu
  refine ⟨by simp [r.len], fun j e he => ?_, fun j j' b e e' n m1 m2 e1 e2 e3 e4 => ?_, r.old, r.sto⟩
  · rw [md_set hi]
    by_cases hj : i = j
    · subst hj
      rw [List.getElem?_set_self hl] at he
      cases he
      rw [if_pos rfl]
      exact ⟨_, List.getElem?_set_self hσ, ho, a, rfl, ⟨na, by show a ∉ G.b.hid; rw [hid]; simp⟩, h0⟩
    · rw [List.getElem?_set_ne hj] at he
      rw [if_neg hj]
      obtain ⟨w, h1, h2⟩ := r.slot j e he
      exact ⟨w, by rw [List.getElem?_set_ne hj]; exact h1, h2⟩
  · rw [md_set hi] at m1 m2
    by_cases hj : i = j
    · subst hj
      have hj' : ¬ i = j' := n
      rw [if_neg hj'] at m2
      rw [List.getElem?_set_ne hj'] at e2 e4
      rw [List.getElem?_set_self hσ] at e3
      cases e3
      exact other j' a e' m2 e2 e4 rfl
    · rw [if_neg hj] at m1
      rw [List.getElem?_set_ne hj] at e1 e3
      by_cases hj' : i = j'
      · subst hj'
        rw [List.getElem?_set_self hσ] at e4
        cases e4
        exact other j a e m1 e1 e3 rfl
      · rw [if_neg hj'] at m2
        rw [List.getElem?_set_ne hj'] at e2 e4
        exact r.own j j' b e e' n m1 m2 e1 e2 e3 e4
/-- what a name owns is frozen -/
theorem Cn.rel.frzO {i : Nat} (r : G.rel A l st σ H) (hi : i < G.Γ.length) (hB : ∀ j, md G.Γ j ≠ .B) : ∃ L, ∀ H2, Frz L H H2 → (G.at (G.Γ.set i .F)).rel A l st σ H2 := by
  cases hl : l[i]? with
  | none =>
    refine ⟨[], fun H2 f => ?_⟩
    rw [f.nil]
    refine ⟨r.len, fun j e he => ?_, fun j j' b e e' n m1 m2 e1 e2 e3 e4 => ?_, r.old, r.sto⟩
    · rw [md_set hi, if_neg fun z => by rw [z, he] at hl; cases hl]
      exact r.slot j e he
    · rw [md_set hi] at m1 m2
      split at m1
      · cases m1
      · split at m2
        · cases m2
        · exact r.own j j' b e e' n m1 m2 e1 e2 e3 e4
  | some o =>
    cases o with
    | none =>
      refine ⟨[], fun H2 f => ?_⟩
      rw [f.nil]
      refine ⟨r.len, fun j e he => ?_, fun j j' b e e' n m1 m2 e1 e2 e3 e4 => ?_, r.old, r.sto⟩
      · rw [md_set hi, if_neg fun z => by rw [z, he] at hl; cases hl]
        exact r.slot j e he
      · rw [md_set hi] at m1 m2
        split at m1
        · cases m1
        · split at m2
          · cases m2
          · exact r.own j j' b e e' n m1 m2 e1 e2 e3 e4
    | some d =>
      obtain ⟨v, e1, e2⟩ := r.slot i d hl
      cases hm : md G.Γ i with
      | F =>
        rw [hm] at e2
        refine ⟨[], fun H2 f => ?_⟩
        rw [f.nil]
        refine ⟨r.len, fun j e he => ?_, fun j j' b e e' n m1 m2 e1 e2 e3 e4 => ?_, r.old, r.sto⟩
        · rw [md_set hi]
          by_cases hj : i = j
          · subst hj
            rw [hl] at he; cases he
            rw [if_pos rfl]
            exact ⟨v, e1, e2⟩
          · rw [if_neg hj]; exact r.slot j e he
        · rw [md_set hi] at m1 m2
          split at m1
          · cases m1
          · split at m2
            · cases m2
            · exact r.own j j' b e e' n m1 m2 e1 e2 e3 e4
      | O =>
        rw [hm] at e2
        obtain ⟨ho, a, rfl, na, h0⟩ := e2
        refine ⟨[a], fun H2 f => ⟨r.len, fun j e he => ?_, fun j j' b e e' n m1 m2 e1 e2 e3 e4 => ?_, ⟨r.old.pre, fun b o e n => ?_⟩, r.sto.frz f fun b m => ?_⟩⟩
        · rw [md_set hi]
          by_cases hj : i = j
          · subst hj
            rw [hl] at he; cases he
            rw [if_pos rfl]
            exact ⟨_, e1, RepO.toF f List.mem_cons_self ho⟩
          · rw [if_neg hj]
            obtain ⟨w, h1, h2⟩ := r.slot j e he
            refine ⟨w, h1, ?_⟩
            cases hmj : md G.Γ j with
            | F => rw [hmj] at h2; exact Rep.frz f h2
            | O =>
              rw [hmj] at h2
              refine RepM.frz f (fun b m _ z => ?_) h2
              obtain rfl : b = a := by simpa using m
              exact r.own i j b d e hj hm hmj hl he e1 (by rw [h1, z])
            | B =>
              rw [hmj] at h2
              exact absurd hmj (hB j)
        · rw [md_set hi] at m1 m2
          split at m1
          · cases m1
          · split at m2
            · cases m2
            · exact r.own j j' b e e' n m1 m2 e1 e2 e3 e4
        · obtain ⟨q1, q2⟩ := r.old.keep b o e n
          refine ⟨?_, q2⟩
          rw [f.out (by simp; rintro rfl; rw [h0] at e; cases e)]
          exact q1
        · obtain rfl : b = a := by simpa using m
          exact na.1
      | B => exact absurd hm (hB i)

/-! ### small statements -/
section
variable {x : Expr} {e : E} {pos : Pos} {i : Nat} {Γn : Option (List Md)} {body : List Stmt} {s : Sm} {ss : Sms}
theorem KnD.tail {k : Kn} {D : Ends} {Γ1 : List Md} {nx : KL} {nxD : L2.St → Hp → Prop} (h : KnD G A H Γn Γl k D) (hn : ∀ l st σ A' H', (G.at Γ1).rel A' l st σ H' → Pres G.b A A' H H' → nx l st → nxD σ H') : KnD G A H (some Γ1) Γl { k with nx := nx } { D with nx := nxD } :=
  ⟨fun Γ e l st σ A H r p q => by cases e; exact hn l st σ A H r p q, h.rt, h.bk, h.ct, h.ex⟩
/-- from a later start -/
theorem KnD.later {k : Kn} {D : Ends} (h : KnD G A H Γn Γl k D) (p : Pres G.b A A' H H') : KnD G A' H' Γn Γl k D :=
  ⟨fun Γ e l st σ A H r p' q => h.nx Γ e l st σ A H r (p.trans p') q, h.rt, fun l st σ A H r p' q => h.bk l st σ A H r (p.trans p') q, fun l st σ A H r p' q => h.ct l st σ A H r (p.trans p') q, h.ex⟩
theorem Pres.ofFrz {c : RC} {A : List Addr} {L : List Addr} (f : Frz L H H2) : Pres c A A H H2 := ⟨fun v d h => Rep.frz f h, fun a o u h => f.at h fun z => z⟩
/-- one statement behind another -/
theorem ss_cons {a : Stmt} {rest : List Stmt} {Γ1 : List Md} (h1 : PS X a (tS G s (some Γ1) Γl)) (h2 : PSs X rest (tSs (G.at Γ1) ss Γn Γl)) : PSs X (a :: rest) (tSs G (.cons s ss) Γn Γl) := by
  refine PSs.mono (pss_cons h1 h2) ?_
  rintro D σ H ⟨A, l, st, k, r, w, kd⟩
  simp only [wpSs] at w
  refine ⟨A, l, st, _, r, w, kd.tail fun l' st' σ' A' H' r' p q => ?_⟩
  have kd := kd.later p
  exact ⟨A', l', st', k, r', q, ⟨kd.nx, kd.rt, kd.bk, kd.ct, kd.ex⟩⟩
/-- the last one, behind which nothing comes -/
theorem ss_last {a : Stmt} {rest : List Stmt} (h1 : PS X a (tS G s none Γl)) : PSs X (a :: rest) (tSs G (.cons s ss) Γn Γl) := by
  refine PSs.mono (pss_cons h1 pss_never) ?_
  rintro D σ H ⟨A, l, st, k, r, w, kd⟩
  simp only [wpSs] at w
  exact ⟨A, l, st, _, r, w, ⟨(fun Γ e => by cases e), kd.rt, kd.bk, kd.ct, kd.ex⟩⟩
theorem ss_nil (hΓ : Γn = some G.Γ) : PSs X [] (tSs G .nil Γn Γl) := by
  refine PSs.mono pss_nil ?_
  rintro D σ H ⟨A, l, st, k, r, w, kd⟩
  simp only [wpSs] at w
  exact kd.nx _ hΓ l st σ A H r .refl w
theorem ss_frz (hi : i < G.Γ.length) (hB : ∀ j, md G.Γ j ≠ .B) (h2 : PSs X body (tSs (G.at (G.Γ.set i .F)) ss Γn Γl)) : PSs X body (tSs G (.cons (.frz i) ss) Γn Γl) := by
  refine PSs.mono (PSs.frz h2) ?_
  rintro D σ H ⟨A, l, st, k, r, w, kd⟩
  simp only [wpSs, wpS] at w
  obtain ⟨L, hL⟩ := r.frzO hi hB
  exact ⟨L, fun H2 f => ⟨A, l, st, k, hL H2 f, w, have kd := kd.later (Pres.ofFrz f); ⟨kd.nx, kd.rt, kd.bk, kd.ct, kd.ex⟩⟩⟩
theorem st_ret (F : Fc G X) (h : PE X x (tE G RF e)) : PS X (.Return (some x) pos) (tS G (.ret e) Γn Γl) := by
  refine PS.mono (ps_ret h) ?_
  rintro D σ H ⟨A, l, st, k, r, w, kd⟩
  simp only [wpS] at w
  refine ⟨A, l, st, r, wpE_mono F.C e (fun d st1 q v A1 H1 k1 r1 hv => kd.rt d st1 v A1 H1 r1.old r1.sto hv q) (fun x st q => kd.ex x l st q) w⟩
theorem st_retN : PS X (.Return none pos) (tS G .retN Γn Γl) := by
  refine PS.mono ps_retN ?_
  rintro D σ H ⟨A, l, st, k, r, w, kd⟩
  simp only [wpS] at w
  exact kd.rt .none st .non A H r.old r.sto .non w
theorem st_pass (hΓ : Γn = some G.Γ) : PS X (.Pass pos) (tS G .pass Γn Γl) := by
  refine PS.mono ps_pass ?_
  rintro D σ H ⟨A, l, st, k, r, w, kd⟩
  simp only [wpS] at w
  exact kd.nx _ hΓ l st σ A H r .refl w
theorem st_brk (hΓ : G.Γ = Γl) : PS X (.Break pos) (tS G .brk Γn Γl) := by
  refine PS.mono ps_break ?_
  rintro D σ H ⟨A, l, st, k, r, w, kd⟩
  simp only [wpS] at w
  subst hΓ
  exact kd.bk l st σ A H r .refl w
theorem st_cnt (hΓ : G.Γ = Γl) : PS X (.Continue pos) (tS G .cnt Γn Γl) := by
  refine PS.mono ps_continue ?_
  rintro D σ H ⟨A, l, st, k, r, w, kd⟩
  simp only [wpS] at w
  subst hΓ
  exact kd.ct l st σ A H r .refl w
theorem st_expr {R : RM} (F : Fc G X) (hΓ : Γn = some G.Γ) (h : PE X x (tE G R e)) (hs : swapsWith x none pos.line X.env = pure false) : PS X (.Expr x pos) (tS G (.expr e) Γn Γl) := by
  refine PS.mono (ps_expr h hs) ?_
  rintro D σ H ⟨A, l, st, k, r, w, kd⟩
  simp only [wpS] at w
  exact ⟨A, l, st, r, wpE_mono F.C e (fun d st1 q v A1 H1 k1 r1 hv => kd.nx _ hΓ l st1 σ A1 H1 r1 (Pres.stp r.obs k1) q) (fun x st q => kd.ex x l st q) w⟩
theorem st_asg {tg : Expr} {t : T} (F : Fc G X) (hΓ : Γn = some G.Γ) (h : PE X x (tE G RF e)) (hg : PG X tg (tG G t)) (hs : swapsWithSole [tg] x pos.line X.env = pure false) (hw : swappedStores [tg] x X.env = pure none) (h1 : (assignEach [tg] X.env).map (·.2) = [assign tg X.env]) :
    PS X (.Assign [tg] x pos) (tS G (.asg t e) Γn Γl) := by
  refine PS.mono (ps_asg h hg hs hw h1) ?_
  rintro D σ H ⟨A, l, st, k, r, w, kd⟩
  simp only [wpS] at w
  refine ⟨A, l, st, r, wpE_mono F.C e (fun d st1 q v A1 H1 k1 r1 hv => ?_) (fun x st q => kd.ex x l st q) w⟩
  exact ⟨A1, l, st1, d, _, r1, hv, q, fun l' σ' w' r' _ _ => kd.nx _ hΓ l' st1 σ' A1 H1 r' (Pres.stp r.obs k1) w'⟩
theorem st_own {nm : Str} {pos' : Pos} (F : Fc G X) (hid : G.b.hid = []) (hi : i < G.Γ.length) (hΓ : Γn = some (G.Γ.set i .O)) (hN : X.N.Nodup) (hx : X.N[i]? = some nm) (hl : L2.Loc X.env.scope nm) (hf : X.fn nm = true ∨ X.env.scope.names.lookup nm = some .local) (h : PE X x (tE G RX e)) (hs : swapsWith x (some (.Name nm pos')) pos.line X.env = pure false) :
    PS X (.Assign [.Name nm pos'] x pos) (tS G (.own i e) Γn Γl) := by
  refine PS.mono (ps_set hN hx hl h hs hf) ?_
  rintro D σ H ⟨A, l, st, k, r, w, kd⟩
  simp only [wpS] at w
  refine ⟨A, l, st, r, wpE_mono F.C e (fun d st1 q v A1 H1 k1 r1 hv => ?_) (fun x st q => kd.ex x l st q) w⟩
  obtain ⟨⟨q1, q2⟩, q3⟩ := q
  exact kd.nx _ hΓ _ st1 _ A1 H1 (r.setO k1 r1 hid hi q2 (hv.1 q1)) (Pres.stp r.obs k1) q3
theorem st_if {c : Expr} {ec : E} {xa xb : List Stmt} {a b : Sms} (F : Fc G X) (hc : PT X c (tT G ec)) (ha : PSs X xa (tSs G a Γn Γl)) (hb : PSs X xb (tSs G b Γn Γl)) : PS X (.If c xa xb pos) (tS G (.if_ ec a b) Γn Γl) := by
  refine PS.mono (ps_if hc ha hb) ?_
  rintro D σ H ⟨A, l, st, k, r, w, kd⟩
  simp only [wpS] at w
  refine ⟨A, l, st, r, wpE_mono F.C ec (fun d st1 q => truR_mono (fun b q A1 H1 k1 r1 => ?_) q) (fun x st q => kd.ex x l st q) w⟩
  cases b with
  | true => exact ⟨A1, l, st1, k, r1, q, kd.later (Pres.stp r.obs k1)⟩
  | false => exact ⟨A1, l, st1, k, r1, q, kd.later (Pres.stp r.obs k1)⟩
end
end
end Py
end

section
set_option Elab.async false
set_option linter.all false
set_option maxRecDepth 100000
set_option maxHeartbeats 2000000
set_option autoImplicit false
/-! Sim23: for loops. -/
namespace Py
open PySem PySem.Spec L2 PyProof.Rows
/-- what is walked stands still: the loop's body may change what it owns -/
def tI0 (G : Cn) (it : It) : TI := fun σ H R => ∃ A l st, G.rel A l st σ H ∧ wpI G.sub G.C it l st (fun xs st' => ∀ J A' H', Stp A A' H H' → G.rel A' l st' σ H' → Goes G.b A' H' J xs [] → R J H') fun x st' => G.EX x l st'
section
variable {X : Cx} {G : Cn} {a b x tg : Expr} {ea eb ee : E} {p pos : Pos} {S : SC}
theorem i_ex0 (F : Fc G X) (he : PE X x (tE G RF ee)) : PI X tg x (tI0 G (.ex ee)) := by
  have h := pi_val he (piv_walk (c := G.b) (tg := tg) F.K)
  refine ⟨fun pins s σ H R I hw => h.run pins s σ H R I ?_⟩
  obtain ⟨A, l, st, r, g⟩ := hw
  simp only [wpI] at g
  refine ⟨A, l, st, r, wpE_mono F.C ee (fun d st1 g1 v A1 H1 k1 r1 hx => ?_) (fun _ _ q => q) g⟩
  exact ⟨A1, d, _, r1.obs, hx, g1, fun xs J hw hg => hw J A1 H1 k1 r1 hg⟩
theorem i_r10 (F : Fc G X) (hg : Gl X "range") (hm : X.mg "range" = none) (ns : noStar a = true) (ha : PE X a (tE G RU ea)) : PI X tg (.Call (.Name "range" p) [a] [] pos) (tI0 G (.rg (.cons ea .nil))) := by
  have h := pi_range1 (tg := tg) (p := p) (pos := pos) hg hm (s_consU F ha s_nilU (star_of ns)) (star_of ns)
  refine ⟨fun pins s σ H R I hw => h.run pins s σ H R I ?_⟩
  obtain ⟨A, l, st, r, g⟩ := hw
  simp only [wpI] at g
  refine ⟨A, l, st, r, wpEs_mono' F _ (fun ds st1 hl g1 vs A1 H1 k1 r1 hx => ?_) g⟩
  simp only [Es.len] at hl
  match ds, hl, g1, hx with
  | [d], _, g1, hx =>
    obtain ⟨v, rfl, hv⟩ := paired1 hx
    cases d <;> simp only [rgR] at g1
    have hz := small62_of g1.1
    exact ⟨_, by rw [hv.int], hz.1, hz.2, g1.2 _ A1 H1 k1 r1 goes_rng⟩
theorem i_r20 (F : Fc G X) (hg : Gl X "range") (hm : X.mg "range" = none) (ns : noStar a = true) (ns' : noStar b = true) (ha : PE X a (tE G RU ea)) (hb : PE X b (tE G RU eb)) : PI X tg (.Call (.Name "range" p) [a, b] [] pos) (tI0 G (.rg (.cons ea (.cons eb .nil)))) := by
  have hs2 : starEach [b] X.env = [(false, eval b X.env)] := star_of ns'
  have hs : starEach [a, b] X.env = [(false, eval a X.env), (false, eval b X.env)] := by rw [star_of ns, hs2]
  have h := pi_range2 (tg := tg) (p := p) (pos := pos) hg hm (s_consU F ha (s_consU F hb s_nilU (star_of ns')) (star_of ns)) hs hs2
  refine ⟨fun pins s σ H R I hw => h.run pins s σ H R I ?_⟩
  obtain ⟨A, l, st, r, g⟩ := hw
  simp only [wpI] at g
  refine ⟨A, l, st, r, wpEs_mono' F _ (fun ds st1 hl g1 vs A1 H1 k1 r1 hx => ?_) g⟩
  simp only [Es.len] at hl
  obtain ⟨d, d', rfl⟩ := len2 hl
  cases hx with
  | cons hx hy =>
    cases hy with
    | cons hy hn =>
      cases hn
      unfold rgR at g1
      split at g1
      · rename_i e; cases e
      · rename_i e
        cases e
        have hz := small62_of g1.1.1
        have hz' := small62_of g1.1.2
        exact ⟨_, _, by rw [hx.int, hy.int], ⟨hz.1, hz.2, hz'.1, hz'.2⟩, g1.2 _ A1 H1 k1 r1 goes_rng⟩
      · exact g1.elim
/-- what a for statement may walk -/
def chkI0 (it : It) (S : SC) (x : Expr) : Bool := match it with
  | .ex _ => chkI it S x
  | .rg _ => chkI it S x
  | _ => false
theorem chkI0_ok (it : It) (tg : Expr) (o : Ok S X G) (h : chkI0 it S x = true) : PI X tg x (tI0 G it) := by
  cases it <;> simp only [chkI0, Bool.false_eq_true] at h
  · simp only [chkI, Bool.and_eq_true, Bool.not_eq_true'] at h
    exact i_ex0 o.F (toF o.F h.1 (chk_ok _ (t := false) o h.2))
  · rename_i es
    unfold chkI at h
    split at h
    · simp only [Bool.and_eq_true, decide_eq_true_eq] at h
      obtain ⟨⟨⟨rfl, h1⟩, h2⟩, h3⟩ := h
      obtain ⟨g1, g2⟩ := o.gl h1
      cases es with
      | nil => simp only [chks, Bool.false_eq_true] at h3
      | cons e es =>
        cases es with
        | cons _ _ => simp only [chks, Bool.and_eq_true, Bool.false_eq_true, and_false] at h3
        | nil =>
          simp only [chks, Bool.and_eq_true] at h3
          exact i_r10 o.F g1 (o.bl _ (by decide)) h2 (toU o.F (chk_ok e (t := false) o h3.1.2))
    · simp only [Bool.and_eq_true, decide_eq_true_eq] at h
      obtain ⟨⟨⟨⟨rfl, h1⟩, h2⟩, h2'⟩, h3⟩ := h
      obtain ⟨g1, g2⟩ := o.gl h1
      cases es with
      | nil => simp only [chks, Bool.false_eq_true] at h3
      | cons e es =>
        cases es with
        | nil => simp only [chks, Bool.and_eq_true, Bool.false_eq_true, and_false] at h3
        | cons e' es =>
          cases es with
          | cons _ _ => simp only [chks, Bool.and_eq_true, Bool.false_eq_true, and_false] at h3
          | nil =>
            simp only [chks, Bool.and_eq_true] at h3
            exact i_r20 o.F g1 (o.bl _ (by decide)) h2 h2' (toU o.F (chk_ok e (t := false) o h3.1.2)) (toU o.F (chk_ok e' (t := false) o h3.2.1.2))
    · cases h
theorem st_for {t : T} {it : It} {body : Sms} {xs : List Stmt} {Γn : Option (List Md)} {Γl Γb : List Md} (F : Fc G X) (hp : PassesOwn (model X.prog X.w) X.A X.env X.xe) (hc : X.calm = true) (hΓ : Γn = some G.Γ) (hi : PI X tg x (tI0 G it)) (hg : PG X tg (tG G t)) (hb : PSs X xs (tSs G body (some G.Γ) G.Γ)) (hs : ∀ v, foldedSetIterable x X.env v = pure v) :
    PS X (.For tg x xs [] pos) (tS G (.for_ t it body) Γn Γl) := by
  refine PS.mono (ps_for hp hc hi hg hb hs) ?_
  rintro D σ H ⟨A, l, st, k, r, w, kd⟩
  simp only [wpS] at w
  refine ⟨A, l, st, r, wpI_mono F.C it (fun ds st1 w1 J A1 H1 k1 r1 go => ?_) (fun x st q => kd.ex x l st q) w⟩
  have p1 : Pres G.b A A1 H H1 := Pres.stp r.obs k1
  refine ⟨fun i m σ' H' => m = ds.length - i ∧ i ≤ ds.length ∧ ∃ A' l' st', G.rel A' l' st' σ' H' ∧ Pres G.b A1 A' H1 H' ∧ forS (ds.drop i) (fun x nx l st => asT t x l fun l => wpSs G.sub G.C body { k with nx := nx, ct := nx, bk := k.nx } l st) k.nx l' st', ⟨_, rfl, Nat.zero_le _, A1, l, st1, r1, .refl, w1⟩, ?_⟩
  rintro i m σ' H' ⟨rfl, hi, A', l', st', r', p', w'⟩
  by_cases hlt : i < ds.length
  · have hx : ds[i]? = some ds[i] := List.getElem?_eq_getElem hlt
    obtain ⟨g1, g2⟩ := go.go i _ A' H' hx p' (fun a m => by cases m)
    refine .inr ⟨g1, fun σ'' H'' => i + 1 ≤ ds.length ∧ ∃ A'' l'' st'', G.rel A'' l'' st'' σ'' H'' ∧ Pres G.b A1 A'' H1 H'' ∧ forS (ds.drop (i + 1)) (fun x nx l st => asT t x l fun l => wpSs G.sub G.C body { k with nx := nx, ct := nx, bk := k.nx } l st) k.nx l'' st'',
      fun σ'' H'' n => ⟨ds.length - (i + 1), by omega, rfl, n.1, n.2⟩, fun v H2 y => ?_⟩
    obtain ⟨rfl, rv⟩ := g2 v H2 y
    rw [List.drop_eq_getElem_cons hlt] at w'
    simp only [forS] at w'
    refine ⟨A', l', st', ds[i], _, r', rv, w', fun l2 σ2 w2 r2 _ _ => ?_⟩
    refine ⟨A', l2, st', _, r2, w2, ?_⟩
    refine ⟨fun Γ e l3 st3 σ3 A3 H3 r3 p3 q => ?_, kd.rt, fun l3 st3 σ3 A3 H3 r3 p3 q => ?_, fun l3 st3 σ3 A3 H3 r3 p3 q => ?_, kd.ex⟩
    · cases e
      exact ⟨hlt, A3, l3, st3, r3, p'.trans p3, q⟩
    · exact kd.nx _ hΓ l3 st3 σ3 A3 H3 r3 (p1.trans (p'.trans p3)) q
    · exact ⟨hlt, A3, l3, st3, r3, p'.trans p3, q⟩
  · have e : i = ds.length := by omega
    subst e
    rw [List.drop_length] at w'
    exact .inl ⟨go.stop A' H' p' (fun a m => by cases m), kd.nx _ hΓ l' st' σ' A' H' r' (p1.trans p') w'⟩
end
end Py
end

section
set_option Elab.async false
set_option linter.all false
set_option maxRecDepth 100000
set_option maxHeartbeats 2000000
set_option autoImplicit false
/-! Sim24: what changes what a name owns. -/
namespace Py
open PySem PySem.Spec L2 PyProof.Rows
section
variable {X : Cx} {G : Cn} {A A' : List Addr} {l : Loc} {st st' : Sto} {σ : L2.St} {H H' : Hp} {i : Nat} {x y : Expr} {e ek ev : E} {nm : Str} {p pos apos cpos : Pos} {Γn : Option (List Md)} {Γl : List Md}
/-- what a name owns is changed -/
theorem Cn.rel.wrO {a : Addr} {d d' : D} {o : HO} (hB : ∀ j, md G.Γ j ≠ .B) (r : G.rel A l st σ H) (hm : md G.Γ i = .O) (hl : l[i]? = some (some d)) (hs : σ[i]? = some (some (.ref a))) (hr : RepO (G.b.up A) (upd H a o) (.ref a) d') : G.rel A (l.set i (some d')) st σ (upd H a o) ∧ Pres G.b A A H (upd H a o) := by
  obtain ⟨v, e1, e2⟩ := r.slot i d hl
  rw [hs] at e1; cases e1
  rw [hm] at e2
  obtain ⟨ho, a', ea, na, h0⟩ := e2
  cases ea
  obtain ⟨_, u, e', hu, _, hsto⟩ := ho.ref
  cases e'
  have hi : i < l.length := (List.getElem?_eq_some_iff.mp hl).1
  refine ⟨⟨by simp [r.len], fun j e he => ?_, fun j j' b e e' n m1 m2 e1 e2 e3 e4 => ?_, ⟨r.old.pre, fun b w hb n => ?_⟩, ObRep.wr r.sto hu hsto na.1⟩, Pres.wr hu hsto⟩
  · by_cases hj : i = j
    · subst hj
      rw [List.getElem?_set_self hi] at he
      cases he
      rw [hm]
      exact ⟨_, hs, hr, a, rfl, na, h0⟩
    · rw [List.getElem?_set_ne hj] at he
      obtain ⟨w, h1, h2⟩ := r.slot j e he
      refine ⟨w, h1, ?_⟩
      cases hmj : md G.Γ j with
      | F => rw [hmj] at h2; exact Rep.wr hu hsto h2
      | O =>
        rw [hmj] at h2
        obtain ⟨h, b, rfl, nb, z⟩ := h2
        exact ⟨RepO.wr hu hsto (fun q => r.own i j a d e hj hm hmj hl he hs (by rw [h1, q])) h, b, rfl, nb, z⟩
      | B =>
        exact absurd hmj (hB j)
  · have back : ∀ {j : Nat} {e : D}, (l.set i (some d'))[j]? = some (some e) → ∃ e0, l[j]? = some (some e0) := by
      intro j e he
      by_cases hj : i = j
      · subst hj; exact ⟨d, hl⟩
      · rw [List.getElem?_set_ne hj] at he; exact ⟨e, he⟩
    obtain ⟨f1, g1⟩ := back e1
    obtain ⟨f2, g2⟩ := back e2
    exact r.own j j' b f1 f2 n m1 m2 g1 g2 e3 e4
  · obtain ⟨q1, q2⟩ := r.old.keep b w hb n
    exact ⟨by rw [upd_ne fun z => by rw [z, h0] at hb; cases hb]; exact q1, q2⟩
/-- what a name owns, at the address it holds -/
theorem Cn.rel.ownAt {d : D} (r : G.rel A l st σ H) (hm : md G.Γ i = .O) (hl : l[i]? = some (some d)) : ∃ a, σ[i]? = some (some (.ref a)) ∧ RepO (G.b.up A) H (.ref a) d := by
  obtain ⟨v, e1, e2⟩ := r.slot i d hl
  rw [hm] at e2
  obtain ⟨ho, a, rfl, _⟩ := e2
  exact ⟨a, e1, ho⟩
theorem lst_ty {K : PySem.W.Frag} {a : Addr} {xs : List V} (h : H a = some (.lst xs)) : tyV K "list" (.ref a) H := .inl ⟨rfl, xs, SqL.of h⟩
theorem few_of {env : Env} (ns : noStar x = true) : ((backTo cpos (starEach [x] env)).all (fun x => !x.1) && (backToKw cpos (keywordEach [] env)).all (fun x => x.1.isSome)
      && decide (([x] : List Expr).length + ([] : List Keyword).length + (if ([] : List Keyword).isEmpty then 0 else 1) < 30)) = true := by
  rw [star_of ns]
  rfl
theorem st_app (F : Fc G X) (hB : ∀ j, md G.Γ j ≠ .B) (hΓ : Γn = some G.Γ) (hN : X.N[i]? = some nm) (hv : Vis X.env.scope nm) (hm : md G.Γ i = .O) (hd : (nm == ("__debug__" : Str)) = false) (hcd : (nm == ("__classdict__" : Str)) = false) (ns : noStar x = true) (h : PE X x (tE G RF e)) (hline : (apos.endLine == cpos.line) = true) :
    PS X (.Expr (.Call (.Attribute (.Name nm p) "append" apos) [x] [] cpos) pos) (tS G (.app i e) Γn Γl) := by
  have hb := pe_bm (apos := apos) (cpos := cpos) PySem.F.plainAttrs_list PySem.F.slot_list_append PySem.F.type_list_append (mt_append (X := X)) (pe_var (pos := p) hN hv hd hcd) (pa_cons h pa_nil (star_of ns)) rfl (few_of ns) hline (star_of ns) rfl
  refine PS.mono (ps_expr hb rfl) ?_
  rintro D σ H ⟨A, l, st, k, r, w, kd⟩
  simp only [wpS] at w
  obtain ⟨d, hl, w⟩ := getL_some w
  obtain ⟨a, hs, ho⟩ := r.ownAt hm hl
  cases d <;> simp only at w
  rename_i ds
  refine ⟨.ref a, hs, ?_, ?_⟩
  · cases ho with
    | lst h1 _ => exact lst_ty h1
  refine ⟨A, l, st, r, wpE_mono F.C e (fun y st1 q v A1 H1 k1 r1 hv => ?_) (fun x st q => kd.ex x l st q) w⟩
  obtain ⟨a1, hs1, ho1⟩ := r1.ownAt hm hl
  rw [hs] at hs1; cases hs1
  cases ho1 with
  | lst h1 rs =>
    refine ⟨a, _, v, rfl, rfl, h1, by rw [rs.length]; exact q.1, ?_⟩
    obtain ⟨r2, p2⟩ := r1.wrO hB hm hl hs (d' := .lst (ds ++ [y])) (o := .lst (_ ++ [v])) (.lst upd_same ((Reps.wr h1 trivial rs).append (.cons (Rep.wr h1 trivial hv) .nil)))
    exact kd.nx _ hΓ _ st1 σ A1 _ r2 ((Pres.stp r.obs k1).trans p2) q.2
end
end Py
end

section
set_option Elab.async false
set_option linter.all false
set_option maxRecDepth 100000
set_option maxHeartbeats 2000000
set_option autoImplicit false
/-! Sim25: extend, d[k] = v, two names at once. -/
namespace Py
open PySem PySem.Spec L2 PyProof.Rows
section
variable {X : Cx} {G : Cn} {A A' : List Addr} {l : Loc} {st st' : Sto} {σ : L2.St} {H H' : Hp} {i j : Nat} {x y : Expr} {e ek ev : E} {nm nm2 : Str} {p p2 pos apos cpos : Pos} {Γn : Option (List Md)} {Γl : List Md}
theorem st_ext (F : Fc G X) (hB : ∀ j, md G.Γ j ≠ .B) (hΓ : Γn = some G.Γ) (hN : X.N[i]? = some nm) (hv : Vis X.env.scope nm) (hm : md G.Γ i = .O) (hd : (nm == ("__debug__" : Str)) = false) (hcd : (nm == ("__classdict__" : Str)) = false) (ns : noStar x = true) (h : PE X x (tE G RX e)) (hline : (apos.endLine == cpos.line) = true) :
    PS X (.Expr (.Call (.Attribute (.Name nm p) "extend" apos) [x] [] cpos) pos) (tS G (.ext i e) Γn Γl) := by
  have hb := pe_bm (apos := apos) (cpos := cpos) PySem.F.plainAttrs_list PySem.F.slot_list_extend PySem.F.type_list_extend (mt_extend (X := X)) (pe_var (pos := p) hN hv hd hcd) (pa_cons h pa_nil (star_of ns)) rfl (few_of ns) hline (star_of ns) rfl
  refine PS.mono (ps_expr hb rfl) ?_
  rintro D σ H ⟨A, l, st, k, r, w, kd⟩
  simp only [wpS] at w
  obtain ⟨d, hl, w⟩ := getL_some w
  obtain ⟨a, hs, ho⟩ := r.ownAt hm hl
  cases d <;> simp only at w
  rename_i ds
  refine ⟨.ref a, hs, ?_, ?_⟩
  · cases ho with
    | lst h1 _ => exact lst_ty h1
  refine ⟨A, l, st, r, wpE_mono F.C e (fun y st1 q v A1 H1 k1 r1 hv => ?_) (fun x st q => kd.ex x l st q) w⟩
  cases y <;> simp only at q
  rename_i ys
  obtain ⟨hn, b, rfl, nb, hb⟩ := hv.1 rfl
  obtain ⟨a1, hs1, ho1⟩ := r1.ownAt hm hl
  rw [hs] at hs1; cases hs1
  cases ho1 with
  | lst h1 rs =>
    cases hn with
    | lst h2 rs2 =>
      refine ⟨a, b, _, _, rfl, rfl, h1, h2, by rw [rs.length, rs2.length]; exact q.1, ?_⟩
      obtain ⟨r2, p2⟩ := r1.wrO hB hm hl hs (d' := .lst (ds ++ ys)) (o := .lst (_ ++ _)) (.lst upd_same (Reps.wr h1 trivial (rs.append rs2)))
      exact kd.nx _ hΓ _ st1 σ A1 _ r2 ((Pres.stp r.obs k1).trans p2) q.2
theorem st_setIx {pos' : Pos} (F : Fc G X) (hB : ∀ j, md G.Γ j ≠ .B) (hΓ : Γn = some G.Γ) (hN : X.N[i]? = some nm) (hv : Vis X.env.scope nm) (hm : md G.Γ i = .O) (hd : (nm == ("__debug__" : Str)) = false) (hcd : (nm == ("__classdict__" : Str)) = false) (h : PE X x (tE G RF ek)) (hvv : PE X y (tE G RF ev))
    (hs : swapsWith y (some (.Subscript (.Name nm p) x pos')) pos.line X.env = pure false) :
    PS X (.Assign [.Subscript (.Name nm p) x pos'] y pos) (tS G (.setIx i ek ev) Γn Γl) := by
  refine PS.mono (ps_dput (by have := F.rm.un; omega) (pe_var (pos := p) hN hv hd hcd) h hvv hs) ?_
  rintro D σ H ⟨A, l, st, k, r, w, kd⟩
  simp only [wpS] at w
  refine ⟨A, l, st, r, wpE_mono F.C ev (fun dv st1 w1 v A1 H1 k1 r1 hv1 => ?_) (fun x st q => kd.ex x l st q) w⟩
  obtain ⟨d, hl, w1⟩ := getL_some w1
  obtain ⟨a, hs, ho⟩ := r1.ownAt hm hl
  refine ⟨.ref a, hs, A1, l, st1, r1, wpE_mono F.C ek (fun dk st2 q z A2 H2 k2 r2 hz => ?_) (fun x st q => kd.ex x l st q) w1⟩
  cases d <;> simp only at q
  rename_i ks vs
  obtain ⟨fk, lt, q⟩ := q
  obtain ⟨qk, rfl⟩ := flat_kD (show dk.flat = true from fk)
  have ez : z = kV qk := RepU.key (.inl hz)
  subst ez
  obtain ⟨a2, hs2, ho2⟩ := r2.ownAt hm hl
  rw [hs] at hs2; cases hs2
  have hv2 : Rep (G.b.up A2) H2 v dv := Rep.keep (c := G.b.up A1) r1.obs k2 hv1
  cases ho2 with
  | dct h1 e1 rs nd =>
    rename_i kvs
    have hl' : kvs.length = ks.length := by rw [e1, List.length_map]
    refine ⟨a, _, rfl, DPut.k h1 (by rw [hl']; exact lt), ?_⟩
    obtain ⟨r3, p3⟩ := r2.wrO hB hm hl hs (d' := .dct (dPutK ks (kD qk)) (dPutV ks vs (kD qk) dv)) (o := .dK (putK kvs qk v)) (.dct upd_same (by rw [put_kvs, ← e1]) (by
      have := reps_put (c := G.b.up A2) (H := upd H2 a (.dK (putK kvs qk v))) (kvs := kvs) (q := qk) (by rw [← e1]; exact nd) (Reps.wr h1 trivial rs) (Rep.wr h1 trivial hv2)
      rw [← e1] at this
      exact this) (nd_put nd _))
    exact kd.nx _ hΓ _ st2 σ A2 _ r3 (((Pres.stp r.obs k1).trans (Pres.stp r1.obs k2)).trans p3) q
/-- a, b = x, y -/
theorem st_par {kt k2 : Nat} {pt pt2 : Pos} {ea eb : E} (F : Fc G X) (hc : X.calm = true) (hΓ : Γn = some G.Γ) (hN : X.N.Nodup) (hi : X.N[i]? = some nm) (hj : X.N[j]? = some nm2) (hij : i ≠ j) (hx : X.env.scope.names.lookup nm = some .local) (hy : X.env.scope.names.lookup nm2 = some .local) (mi : md G.Γ i = .F) (mj : md G.Γ j = .F)
    (ha : PE X x (tE G RF ea)) (hb : PE X y (tE G RF eb)) (ns : noStar x = true) (ns' : noStar y = true) (hw : swappedStores [.Tuple [.Name nm p, .Name nm2 p2] kt pt] (.Tuple [x, y] k2 pt2) X.env = pure (some [nm, nm2])) :
    PS X (.Assign [.Tuple [.Name nm p, .Name nm2 p2] kt pt] (.Tuple [x, y] k2 pt2) pos) (tS G (.asg (.tp (.cons (.nm i) (.cons (.nm j) .nil))) (.tup (.cons ea (.cons eb .nil)))) Γn Γl) := by
  refine PS.mono (ps_par hc hN hi hj hij hx hy (s_consF F ha (s_consF F hb s_nilF (star_of ns')) (star_of ns)) hw rfl) ?_
  rintro D σ H ⟨A, l, st, k, r, w, kd⟩
  simp only [wpS, wpE] at w
  refine ⟨A, l, st, r, wpEs_mono F.C _ (fun ds st1 q0 vs A1 H1 k1 r1 hv => ?_) (fun x st q => kd.ex x l st q) (wpEs_len F.C _ w)⟩
  obtain ⟨hl, q⟩ := q0
  simp only [Es.len] at hl
  obtain ⟨d, d', rfl⟩ := len2 hl
  cases hv with
  | cons h1 hv =>
    cases hv with
    | cons h2 hv =>
      cases hv
      simp only [asT, asTs] at q
      obtain ⟨q1, q2, q3⟩ := q
      refine ⟨_, _, rfl, ?_⟩
      exact kd.nx _ hΓ _ st1 _ A1 H1 ((r1.setF mi q1 h1).setF mj q2 h2) (Pres.stp r.obs k1) q3
/-- a list of the store is written -/
theorem Cn.rel.wrA {G : Cn} {A : List Addr} {l : Loc} {st : Sto} {σ : L2.St} {H : Hp} {n j : Nat} {p : Addr} {vs : List V} {xs : List D} {v : V} {d : D} (r : G.rel A l st σ H) (hp : A[n]? = some p) (ho : st.obs[n]? = some (.lst xs)) (hv : H p = some (.lst vs)) (rs : Reps (G.b.up A) H vs xs) (rv : Rep (G.b.up A) H v d) :
    G.rel A l { st with obs := st.obs.set n (.lst (xs.set j d)) } σ (upd H p (.lst (vs.set j v))) := by
  have hs : isSto (.lst vs) := trivial
  have pm : p ∈ A := List.mem_of_getElem? hp
  refine ⟨r.len, fun i e he => ?_, r.own, ⟨r.old.pre, fun b o e n => ?_⟩, ⟨?_, r.sto.nd, fun m ob e => ?_⟩⟩
  · obtain ⟨w, e1, e2⟩ := r.slot i e he
    refine ⟨w, e1, ?_⟩
    cases hm : md G.Γ i with
    | F => rw [hm] at e2; exact Rep.wr hv hs e2
    | O =>
      rw [hm] at e2
      obtain ⟨h, b, rfl, nb, z⟩ := e2
      exact ⟨RepO.wr hv hs (fun z => nb.1 (z ▸ pm)) h, b, rfl, nb, z⟩
    | B =>
      rw [hm] at e2
      rcases e2 with h | ⟨h, b, rfl, nb, z⟩
      · exact .inl (Rep.wr hv hs h)
      · exact .inr ⟨RepO.wr hv hs (fun z => nb.1 (z ▸ pm)) h, b, rfl, nb, z⟩
  · obtain ⟨q1, q2⟩ := r.old.keep b o e n
    exact ⟨by rw [upd_ne (fun z => q2 (by rw [z]; exact pm))]; exact q1, q2⟩
  · show A.length = _
    rw [List.length_set]; exact r.sto.len
  · have e : (st.obs.set n (.lst (xs.set j d)))[m]? = some ob := e
    show ∃ b, A[m]? = some b ∧ _
    by_cases hm : n = m
    · subst hm
      rw [List.getElem?_set_self (List.getElem?_eq_some_iff.mp ho).1] at e
      cases e
      exact ⟨p, hp, _, upd_same, Reps.set (Rep.wr hv hs rv) j (Reps.wr hv hs rs)⟩
    · rw [List.getElem?_set_ne hm] at e
      obtain ⟨b, hb, rr⟩ := r.sto.ob m ob e
      have hb : A[m]? = some b := hb
      have nb : b ≠ p := fun z => by
        subst z
        obtain ⟨l1, e1⟩ := List.getElem?_eq_some_iff.mp hb
        obtain ⟨l2, e2⟩ := List.getElem?_eq_some_iff.mp hp
        exact hm ((List.getElem_inj r.sto.nd).mp (e2.trans e1.symm))
      refine ⟨b, hb, ?_⟩
      cases ob with
      | inst _ _ => exact rr.elim
      | dct _ _ => exact rr.elim
      | lst _ =>
        obtain ⟨ws, e1, e2⟩ := rr
        exact ⟨ws, (upd_ne nb).trans e1, Reps.wr hv hs e2⟩
theorem st_setO {xa xk y : Expr} {ea ek ev : E} {pos' : Pos} (F : Fc G X) (hΓ : Γn = some G.Γ) (ha : PE X xa (tE G RF ea)) (hk : PE X xk (tE G RF ek)) (hvv : PE X y (tE G RF ev))
    (hs : swapsWithSole [.Subscript xa xk pos'] y pos.line X.env = pure false) (hw : swappedStores [.Subscript xa xk pos'] y X.env = pure none)
    (hax : ∀ v, assign (.Subscript xa xk pos') X.env v = (do
      let ov ← holding [v] (eval xa X.env)
      let iv ← holding [v, ov] (eval xk X.env)
      standAt pos'
      holding [v, ov, iv] (setItem ov iv v)
      release [v, ov, iv] [])) :
    PS X (.Assign [.Subscript xa xk pos'] y pos) (tS G (.setO ea ek ev) Γn Γl) := by
  refine PS.mono (ps_asg hvv (pg_sub ha hk set_list hax) hs hw rfl) ?_
  rintro D σ H ⟨A, l, st, k, r, w, kd⟩
  simp only [wpS] at w
  refine ⟨A, l, st, r, wpE_mono F.C ev (fun dv st1 w1 v A1 H1 k1 r1 hv => ?_) (fun x st q => kd.ex x l st q) w⟩
  refine ⟨A1, l, st1, r1, wpE_mono F.C ea (fun da st2 w2 o A2 H2 k2 r2 ho => ?_) (fun x st q => kd.ex x l st q) w1⟩
  refine ⟨A2, l, st2, r2, wpE_mono F.C ek (fun dk st3 w3 i A3 H3 k3 r3 hi => ?_) (fun x st q => kd.ex x l st q) w2⟩
  unfold setOR at w3
  split at w3
  · rename_i n j
    split at w3
    · rename_i xs hxs
      obtain ⟨⟨j0, j1⟩, w3⟩ := w3
      have ho3 : Rep (G.b.up A3) H3 o (.ref n) := Rep.keep (c := G.b.up A2) r2.obs k3 ho
      cases ho3 with
      | ref hp =>
        rename_i p
        cases hi
        obtain ⟨p', hp', rr⟩ := r3.sto.ob n _ hxs
        have hp2 : (G.b.up A3).A[n]? = some p := hp
        rw [hp2] at hp'
        cases hp'
        obtain ⟨vs, h1, rs⟩ := rr
        have hl := rs.length
        have hv3 : Rep (G.b.up A3) H3 v dv := Rep.keep (c := G.b.up A1) r1.obs (k2.trans k3) hv
        refine ⟨p, vs, j, j.toNat, rfl, rfl, h1, ?_, ?_⟩
        · unfold ixN
          rw [if_pos j0, if_pos (by omega)]
        · have r4 := r3.wrA (j := j.toNat) hp hxs h1 rs hv3
          exact kd.nx _ hΓ _ _ σ A3 _ r4 ((Pres.stp r.obs ((k1.trans k2).trans k3)).trans (Pres.wr h1 trivial)) w3
    · exact w3.elim
  · exact w3.elim
theorem assign_ix {xa xk : Expr} {env : Env} {pos' : Pos} (h : plainIx xk = true) (v : Value) : assign (.Subscript xa xk pos') env v = (do
      let ov ← holding [v] (eval xa env)
      let iv ← holding [v, ov] (eval xk env)
      standAt pos'
      holding [v, ov, iv] (setItem ov iv v)
      release [v, ov, iv] []) := by
  cases xk <;> first | rfl | exact absurd h Bool.false_ne_true
end
end Py
end

section
set_option Elab.async false
set_option linter.all false
set_option maxRecDepth 100000
set_option maxHeartbeats 4000000
set_option autoImplicit false
/-! Sim26: a name takes a list comprehension. -/
namespace Py
open PySem PySem.Spec L2 PyProof.Rows
section
variable {S : SC} {X : Cx} {G : Cn} {tgx iterx elt : Expr} {ifsx : List Expr} {rest : List Comprehension} {scope : Scope} {pos py spos : Pos} {own : List Nat} {e : E} {tg : T} {it : It} {ifs : Es} {c : Cl} {i : Nat} {y : Str} {Γn : Option (List Md)} {Γl : List Md}
theorem lc_data {t : Bool} {as : Int} (o : Ok S X G) (h : chk (.lc own e (.for_ tg it ifs c)) t S (.ListComp elt (⟨tgx, iterx, ifsx, as⟩ :: rest) scope pos) = true) :
    as = 0 ∧ CoOk X G tgx iterx ifsx rest scope (ownOf S own) tg it own c.slots (wpD G.sub G.C c (wL G e)) ∧
    ∀ (s : Shared) (H : Hp) (C : Addr) (cl : List (Str × Addr)) (fp : List Addr) (Z : Addr), BlkIn (X.blk s H scope (compEnvC scope cl C X.env) fp) (G.blk Z) (.ListComp elt (⟨tgx, iterx, ifsx, 0⟩ :: rest) scope pos) (⟨tgx, iterx, ifsx, 0⟩ :: rest) (emL elt) tgx ifsx tg ifs mkL c.slots (wpD G.sub G.C c (wL G e)) := by
  simp only [chk, Bool.and_eq_true, decide_eq_true_eq, Bool.not_eq_true'] at h
  obtain ⟨⟨⟨⟨⟨⟨⟨⟨⟨⟨⟨⟨hc, rfl⟩, hna⟩, hbk⟩, hns⟩, hi⟩, ht⟩, hf⟩, hcl⟩, he⟩, hu⟩, hdis⟩, hsub⟩ := h
  have na : noAsync (⟨tgx, iterx, ifsx, 0⟩ :: rest) = true := by simp only [noAsync, List.all_cons, Bool.and_eq_true]; exact ⟨rfl, hna⟩
  refine ⟨rfl, ⟨o.F, o.cm hc, o.nd, o.bk hbk, na, chkI_ok it tgx o hi, hns, cl_mono o.F c (wL_mono o.F e), dis_of hdis, own_ix own, sub_of hsub⟩, fun s H C cl fp Z => ?_⟩
  have oB := o.blk (scope := scope) (C := C) (cl := cl) (fp := fp) (s := s) (H := H) (Z := Z)
  refine ⟨chkT_ok tg oB ht, chkF_ok ifs oB rfl hf, fun Z' hZ => ?_⟩
  exact chkC_ok c oB hc rfl hcl (by rfl) hZ (fun k it' t i f hk => turnL hk fun g e => noAsync_at na e) (fun k => kindL) (fun k => skL) (wL_mono oB.F e) fun k hk => body_L oB.F rfl rfl hZ hk (toF oB.F hu (chk_ok e (t := false) oB he))
/-- name = [..] on one line, the name a local -/
theorem ps_setCo {as : Int} (o : Ok S X G) (h : chk (.lc own e (.for_ tg it ifs c)) false S (.ListComp elt (⟨tgx, iterx, ifsx, as⟩ :: rest) scope pos) = true) (hy : X.N[i]? = some y) (hyl : X.env.scope.names.lookup y = some .local)
    (hsw : swapsWith (.ListComp elt (⟨tgx, iterx, ifsx, as⟩ :: rest) scope pos) (some (.Name y py)) spos.line X.env = pure true) :
    PS X (.Assign [.Name y py] (.ListComp elt (⟨tgx, iterx, ifsx, as⟩ :: rest) scope pos) spos) (fun D σ H => tE G RX (.lc own e (.for_ tg it ifs c)) σ H fun v H1 => D.nx (σ.set i (some v)) H1) := by
  obtain ⟨rfl, cc, hin⟩ := lc_data o h
  refine ⟨fun pins s σ H D I h => ?_⟩
  rw [exec_Assign_Name_used _ _ _ _ hsw]
  refine wpAny_bind (wpAny_standAt (wpAny_bind ?_))
  show wpAny _ X.A (do let _ ← comprehension (.ListComp elt (⟨tgx, iterx, ifsx, 0⟩ :: rest) scope pos) scope X.env (firstIterPos (⟨tgx, iterx, ifsx, 0⟩ :: rest) pos) (newList []) false (eval iterx X.env) (some (assign (.Name y py) X.env))) _ _ s
  have hco := tCo_E (QQ := fun v H1 => D.nx (σ.set i (some v)) H1) cc.F (fun _ => rfl) (wL_mono cc.F e) (fun _ _ _ _ => rfl) h
  refine wpAny_bind (thn (core_L (Qf := fun _ s' => SP X pins D .next s') (use := some (assign (.Name y py) X.env)) cc hin I hco fun L C s' m H' I' q hn f => ?_) fun _ s' hq => wpAny_pure (wpAny_pure hq))
  show wpAny _ _ (assign (.Name y py) X.env (.ref L)) _ _ _
  refine wpAny_assign_Name (store_ok2 (v := V.ref L) I' o.nd hy (.inl hyl) rfl (fun s2 I2 ⟨a, sb, ha⟩ => ?_) (.inr hyl))
  obtain ⟨f0, f1, f2, f3, f4, f5⟩ := f
  have haC : C ≠ a := by
    rcases ha with z | z
    · rw [z]; exact f1
    · exact fun e => f4 y a z e.symm
  refine ⟨m, hn.sameBut sb haC, fun h3 sb3 => ?_⟩
  exact ⟨_, H', I2.turned (t' := s2.toks) (fun b o hb e => (sb3.2 b hb).trans e) f0 f1 f3 f4 f5, q⟩
theorem PS.frzE {a : Stmt} {t : TS} (h : PS X a t) : PS X a (fun D σ H => t { D with nx := fun σ' H' => ∃ L, ∀ H2, Frz L H' H2 → D.nx σ' H2 } σ H) := by
  refine ⟨fun pins s σ H D I hw => ?_⟩
  refine thn (h.run pins s σ H _ I hw) fun f s1 q => ?_
  cases f with
  | next =>
    obtain ⟨σ', H', I', L, q⟩ := q
    obtain ⟨H2, f, I2⟩ := frz_all L I'
    exact ⟨σ', H2, I2, q H2 f⟩
  | ret v => exact q
  | brk => exact q
  | cont => exact q
theorem st_ownCo {as : Int} (o : Ok S X G) (hid : G.b.hid = []) (hil : i < G.Γ.length) (hΓ : Γn = some (G.Γ.set i .O)) (h : chk (.lc own e (.for_ tg it ifs c)) false S (.ListComp elt (⟨tgx, iterx, ifsx, as⟩ :: rest) scope pos) = true) (hy : X.N[i]? = some y) (hyl : X.env.scope.names.lookup y = some .local)
    (hsw : swapsWith (.ListComp elt (⟨tgx, iterx, ifsx, as⟩ :: rest) scope pos) (some (.Name y py)) spos.line X.env = pure true) :
    PS X (.Assign [.Name y py] (.ListComp elt (⟨tgx, iterx, ifsx, as⟩ :: rest) scope pos) spos) (tS G (.own i (.lc own e (.for_ tg it ifs c))) Γn Γl) := by
  refine PS.mono (ps_setCo o h hy hyl hsw) ?_
  rintro D σ H ⟨A, l, st, k, r, w, kd⟩
  simp only [wpS] at w
  refine ⟨A, l, st, r, wpE_mono o.F.C _ (fun d st1 q v A1 H1 k1 r1 hv => ?_) (fun x st q => kd.ex x l st q) w⟩
  obtain ⟨⟨q1, q2⟩, q3⟩ := q
  exact kd.nx _ hΓ _ st1 _ A1 H1 (r.setO k1 r1 hid hil q2 (hv.1 q1)) (Pres.stp r.obs k1) q3
/-- the same, for a name whose list nobody changes -/
theorem st_asgCo {as : Int} (o : Ok S X G) (hΓ : Γn = some G.Γ) (hm : md G.Γ i = .F) (h : chk (.lc own e (.for_ tg it ifs c)) false S (.ListComp elt (⟨tgx, iterx, ifsx, as⟩ :: rest) scope pos) = true) (hy : X.N[i]? = some y) (hyl : X.env.scope.names.lookup y = some .local)
    (hsw : swapsWith (.ListComp elt (⟨tgx, iterx, ifsx, as⟩ :: rest) scope pos) (some (.Name y py)) spos.line X.env = pure true) :
    PS X (.Assign [.Name y py] (.ListComp elt (⟨tgx, iterx, ifsx, as⟩ :: rest) scope pos) spos) (tS G (.asg (.nm i) (.lc own e (.for_ tg it ifs c))) Γn Γl) := by
  refine PS.mono (PS.frzE (ps_setCo o h hy hyl hsw)) ?_
  rintro D σ H ⟨A, l, st, k, r, w, kd⟩
  simp only [wpS] at w
  refine ⟨A, l, st, r, wpE_mono o.F.C _ (fun d st1 q v A1 H1 k1 r1 hv => ?_) (fun x st q => kd.ex x l st q) w⟩
  simp only [asT] at q
  cases hc : d.isCon with
  | false => exact ⟨[], fun H2 f => by rw [f.nil]; exact kd.nx _ hΓ _ st1 _ A1 H1 (r1.setF hm q.1 (hv.2 hc)) (Pres.stp r.obs k1) q.2⟩
  | true =>
    obtain ⟨hr, a, rfl, na, ha⟩ := hv.1 hc
    refine ⟨[a], fun H2 f => ?_⟩
    obtain ⟨r2, k2⟩ := Cn.rel.frzNew r k1 r1 ha na f
    exact kd.nx _ hΓ _ st1 _ A1 H2 (r2.setF hm q.1 (RepO.toF f List.mem_cons_self hr)) (Pres.stp r.obs k2) q.2
end
end Py
end

section
set_option Elab.async false
set_option linter.all false
set_option maxRecDepth 100000
set_option maxHeartbeats 2000000
set_option autoImplicit false
/-! SimX: raise, try. -/
namespace Py
open PySem PySem.Spec L2 PyProof.Rows
/-- an error leaves, wherever the slots stand -/
def exA (G : Cn) : WX := fun cls d σ H => ∃ Γ, noB Γ = true ∧ exK (G.at Γ) σ cls d H
section
variable {X : Cx} {G : Cn} {a : Expr} {e : E} {x : Str} {C : Addr} {p pos pos2 : Pos} {Γn : Option (List Md)} {Γl : List Md}
theorem st_raise (F : Fc G X) (hB : noB G.Γ = true) (hc : X.calm = true) (tk : Takes X (exA G)) (T : AskC X.prog X.K C) (hx : G.b.xc x C) (gC : X.mg x = some (.ref C)) (gS : X.mg "super" = none) (hdp : X.A.depth + 5 < recursionLimit)
    (ha : PA X [a] (tEs G RLF (.cons e .nil))) (hg : Gl X x) (hdb : (x == ("__debug__" : Str)) = false) (hs : noStar a = true) :
    PS X (.Raise (some (.Call (.Name x p) [a] [] pos)) none pos2) (tS G (.raise x e) Γn Γl) := by
  refine PS.mono (ps_raise hc tk (pmk_ask T gC gS hdp ha hg hdb (star_of hs))) ?_
  rintro D σ H ⟨A, l, st, k, r, w, kd⟩
  simp only [wpS] at w
  refine ⟨A, l, st, r, ?_⟩
  simp only [wpEs]
  refine wpE_mono F.C e (fun d st1 q vs A1 H1 k1 r1 hv => ?_) (fun x st q => kd.ex x l st q) w
  cases hv with
  | cons h1 hn =>
    cases hn
    rename_i v
    refine ⟨v, rfl, fun dx hdx => ⟨G.Γ, hB, .exc x d, l, st1, A1, ?_, ⟨x, d, C, dx, v, rfl, hx, rfl, rfl, upd_same, ?_⟩, kd.ex _ _ _ q⟩⟩
    · exact r1.new hdx
    · exact Rep.keep (c := G.b.up A1) r1.obs (Stp.new hdx) h1
end

/-! ### the caught error is tracked -/
section
variable {X : Cx} {pins : List (Addr × Obj)} {σ : L2.St} {H : Hp} {s : Shared} {a : Addr} {oe : Obj}
theorem Inv.track {vs : Array Value} (I : Inv X pins σ H s) (ha : s.heap.get? a = some oe) (hd : oe.data = .fields vs) (na : H a = none) (n0 : X.s_0.heap.get? a = none) (nL : a ≠ X.env.locals) (np : ∀ p ∈ X.pn ++ pins, p.1 ≠ a) :
    Inv X pins σ (upd H a (.frz oe (Raw a oe))) s := by
  have ne0 : ∀ b o, X.s_0.heap.get? b = some o → b ≠ a := fun b o e z => by rw [z, n0] at e; cases e
  refine ⟨I.ok, I.os, I.bare, ⟨I.base.keep, I.base.slot, fun b o e n hx => ?_, I.base.there, fun b xs e => ?_, fun b o u e => ?_, fun b ps e => ?_⟩, I.loc, I.cell, ?_, fun x c e => ?_, fun p hp => ?_, fun b u e => ?_, I.len⟩
  · rw [upd_ne (ne0 b o e)]
    exact I.base.free b o e n hx
  · have q := I.base.tups b xs e
    rw [upd_ne (ne_of_none q na)]; exact q
  · have q := I.base.frzs b o u e
    rw [upd_ne (ne_of_none q na)]; exact q
  · obtain ⟨m, q⟩ := I.base.tbls b ps e
    exact ⟨m, by rw [upd_ne (ne_of_none q na)]; exact q⟩
  · rw [upd_ne (Ne.symm nL)]; exact I.free
  · rw [upd_ne]
    · exact I.freeC x c e
    · rintro rfl
      obtain ⟨v, o, ho, hdd⟩ := I.cell x c e
      rw [ha] at ho; cases ho
      rw [hd] at hdd; cases hdd
  · obtain ⟨e, n, ne, nf, d⟩ := I.pin p hp
    exact ⟨e, by rw [upd_ne (np p hp)]; exact n, ne, nf, d⟩
  · by_cases hb : b = a
    · subst hb
      rw [upd_same] at e
      cases e
      refine ⟨ha, ha, ⟨_, ha⟩, fun h1 h2 e k => k _ e⟩
    · rw [upd_ne hb] at e
      exact (I.hok b u e).stay (fun c v hc q => q) (fun c q => by rw [upd_ne (ne_of_none q na)]; exact q) fun c xs q => by rw [upd_ne (ne_of_none q na)]; exact q
/-- into a suite, back from it -/
theorem Inv.suite0 (I : Inv X pins σ H s) : Inv (X.suite a (X.pn ++ pins)) [] σ H s :=
  ⟨I.ok.suite _ _, I.os, I.bare, I.base, I.loc, I.cell, I.free, I.freeC, fun p hp => I.pin p (by rw [List.append_nil] at hp; exact hp), I.hok, I.len⟩
theorem Inv.unsuite0 {pn' : List (Addr × Obj)} (I : Inv (X.suite a (X.pn ++ pins)) pn' σ H s) (ok : X.Ok) : Inv X pins σ H s :=
  ⟨ok, I.os, I.bare, I.base, I.loc, I.cell, I.free, I.freeC, fun p hp => I.pin p (List.mem_append_left _ hp), I.hok, I.len⟩
end

/-! ### try .. except .. as .. -/
/-- what stands where an error is caught -/
def Held (cls : Value) (d : Option Addr) (oe : Obj) : Prop := Zc cls d oe ∧ ∃ vs, oe.data = .fields vs
/-- the end of a clause: its name goes -/
def endsAs (D : Ends) (i : Nat) : Ends := { nx := fun σ' H' => D.nx (σ'.set i none) H', rt := D.rt, bk := fun σ' H' => D.bk (σ'.set i none) H', ct := fun σ' H' => D.ct (σ'.set i none) H' }
def wAll (K : PySem.W.Frag) (Wout : WX) (D : Ends) : List (Value × Nat × TS) → WX
  | [] => Wout
  | (c, i, ts) :: r => fun cls d σ H => ∃ b, PySem.W.exmOne K cls c = some b ∧ (b = true → ∀ a oe, H a = none → Held cls d oe → ts (endsAs D i) (σ.set i (some (.ref a))) (upd H a (.frz oe (Raw a oe)))) ∧ (b = false → wAll K Wout D r cls d σ H)
inductive HdsAs (X : Cx) : List ExceptHandler → List (Value × Nat × TS) → Prop
  | nil : HdsAs X [] []
  | cons {x n : Str} {c : Value} {i : Nat} {ts : TS} {b₀ : Stmt} {suite : List Stmt} {np pos' : Pos} {hds : List ExceptHandler} {l : List (Value × Nat × TS)} (hc : Names X x c) (hi : X.N[i]? = some n) (hl : X.env.kindOf n = some .local)
      (hsu : ∀ (a : Addr) (pn : List (Addr × Obj)), PSs (X.suite a pn) (b₀ :: suite) ts) (r : HdsAs X hds l) :
      HdsAs X (.ExceptHandler (some (.Name x np)) (some n) (b₀ :: suite) pos' :: hds) ((c, i, ts) :: l)
section
variable {X : Cx} {body : List Stmt} {h₀ : ExceptHandler} {hds : List ExceptHandler} {l : List (Value × Nat × TS)} {pos : Pos} {tb : WX → TS} {Wout : WX}
theorem ps_try_all (hs : X.stack = X.env :: X.outer) (hf : X.env.frame = some X.env.locals) (hex : X.ex = []) (hN : X.N.Nodup) (tk : Takes X Wout)
    (hb : ∀ (W : WX) (pn : List (Addr × Obj)) (xe : Value → Shared → Prop), Takes (X.tr pn xe) W → PassesOwn (model X.prog X.w) X.A X.env xe → PSs (X.tr pn xe) body (tb W))
    (hh : HdsAs X (h₀ :: hds) l) : PS X (.Try body (h₀ :: hds) [] [] pos) (fun D σ H => tb (wAll X.K Wout D l) D σ H) := by
  refine ⟨fun pins s σ H D I h => ?_⟩
  have ok := I.ok
  have hfr : X.A.frames = some (X.env :: X.outer) := by rw [ok.frames, hs]
  refine wpAny_Try_except ?_
  refine wpAny_mono ((hb (wAll X.K Wout D l) (X.pn ++ pins) (fun e s₁ => wpAny (model X.prog X.w) X.A (noteFrame e X.env) (fun _ s₂ => wpAny (model X.prog X.w) X.A (setFlight e none) (fun _ s₃ =>
    wpAny (model X.prog X.w) X.A (handleBy e X.env (h₀ :: hds)) (SP X pins D) X.xe s₃) X.xe s₂) X.xe s₁) (fun u s' xx => ?_) PassesOwn.looking).run [] s σ H D (I.toTry _) h) (fun f s1 hsp => ?_) (fun e s1 he => he)
  · -- the catch
    obtain ⟨a, B, sI, pins', σ', H', cls, d, rfl, J', nb, up, sky, na, os, ag, w⟩ := xx
    have J : Inv X pins σ' H' sI := J'.ofTry ok
    have sky' : Sky B (X.env :: X.outer) a (Zc cls d) X.env.locals s'.heap := by rw [← hs]; exact sky
    show wpAny (model X.prog X.w) X.A (noteFrame (.ref a) X.env) _ _ _
    refine Sky.land Zc.steady hfr hf sky' fun h3 fl3 up3 => ?_
    have J3 : Inv X pins σ' H' { s' with heap := h3 } := J.landed nb fl3.1 (up.trans up3) os ag
    obtain ⟨oe3, vs3, he3, hz3, hd3⟩ := fl3.there
    have notFr : ∀ {h : Heap} {o : Obj} {vs : Array Value}, h.FunFrames B (X.env :: X.outer) → h.get? a = some o → o.data = .fields vs → a ∉ frs (X.env :: X.outer) := fun {h o vs} ff e dd hm => by
      obtain ⟨_, o', e', hnf⟩ := ff.mem hm
      rw [e] at e'; cases e'
      exact hnf _ dd
    have nfr := notFr fl3.2.2.1 he3 hd3
    have nL : a ≠ X.env.locals := fun z => nfr (List.mem_filterMap.mpr ⟨X.env, List.mem_cons_self, by rw [hf, z]⟩)
    have nF : a ∉ X.fs := fun hm => by
      obtain ⟨e, he, q⟩ := List.mem_filterMap.mp hm
      exact nfr (List.mem_filterMap.mpr ⟨e, List.mem_cons_of_mem _ he, q⟩)
    have nI : sI.heap.get? a = none := by
      cases e : sI.heap.get? a with
      | none => rfl
      | some o =>
        have := nb a o e (by show a ∉ frs X.stack; rw [hs]; exact nfr)
        rw [fl3.2.1] at this
        cases this
    have n0 : X.s_0.heap.get? a = none := by
      cases e : X.s_0.heap.get? a with
      | none => rfl
      | some o =>
        obtain ⟨o', q⟩ := J.base.there a o e (by rw [hex]; simp)
        rw [nI] at q; cases q
    have npin : ∀ p ∈ X.pn ++ pins, p.1 ≠ a := fun p hp z => by
      have := (J.pin p hp).1
      rw [z, nI] at this; cases this
    have S3 := J3.suite he3 hd3 na nL nF
    have go : ∀ {hds' : List ExceptHandler} {l' : List (Value × Nat × TS)}, HdsAs X hds' l' → wAll X.K Wout D l' cls d σ' H' →
        wpAny (model X.prog X.w) X.A (handleBy (.ref a) X.env hds') (SP X pins D) X.xe { s' with heap := h3 } := by
      intro hds' l' hk
      induction hk with
      | nil =>
        intro w
        refine wpAny_handleBy_nil ?_
        obtain ⟨k1, k2, k3, oe, vs, T, oT, ts', he, hz, hd, h1, hr⟩ := id fl3
        unfold PySem.passOn
        refine wpAny_bind (wpAny_field he hd h1 ?_)
        rw [if_neg (show ¬ ((Value.ref T == Value.none) = true) from by simp)]
        have fin : wpAny (model X.prog X.w) X.A (setFlight (.ref a) X.env.frame) (fun _ s4 => wpAny (model X.prog X.w) X.A (throw (.ref a) : Sem Flow) (SP X pins D) X.xe s4) X.xe { s' with heap := h3 } := by
          rw [hf]
          refine HandSPX.setFlight_upZ fl3 fun h4 hh4 up4 => wpAny_throw (tk _ _ ?_)
          exact ⟨a, B, sI, pins, σ', H', cls, d, rfl, J, nb, (up.trans up3).trans up4, .inr (.inr (by rw [hs]; exact hh4)), na, os, ag, w⟩
        first
          | exact wpAny_bind (wpAny_pure (wpAny_bind fin))
          | exact wpAny_bind fin
      | @cons x n c i ts b₀ suite np pos' hds2 l2 hc hi hln hsu r ih =>
        intro w
        obtain ⟨b, hb1, hyes, hno⟩ := w
        refine wpAny_handleBy_cons (codeAny_handlers_test ?_) (by intro q; cases q)
        have LT : PySem.W.Looks (model X.prog X.w) h3 (typeOf (.ref a)) cls := fun A Q E s k q => wpAny_typeOf_ref (k _ _ he3) (by rw [hz3.1]; exact q)
        have LM := PySem.W.exm_one (M := model X.prog X.w) (J3.kIn) LT hb1
        have test : ∀ {Q : Value → Shared → Prop} {E : Value → Shared → Prop}, Q c { s' with heap := h3 } → wpAny (model X.prog X.w) (X.A.mark (some (.ref a))) (eval (.Name x np) X.env) Q E { s' with heap := h3 } := fun {Q E} q => by
          obtain ⟨hg, hdbg, hm | ⟨hm, hv, hnn⟩⟩ := hc
          · exact ld_glob (X := X.suite a ((a, oe3) :: (X.pn ++ pins))) S3 hg hm q hdbg
          · exact ld_blt (X := X.suite a ((a, oe3) :: (X.pn ++ pins))) S3 hg hm hv q hnn hdbg
        refine test (LM.here ?_)
        cases b with
        | true =>
          refine codeAny_handlers_suite_as ?_
          refine HandSPX.lands_againZ fl3 fun h4 fl4 up4 => ?_
          have J4 : Inv X pins σ' H' { s' with heap := h4 } := J.landed nb fl4.1 ((up.trans up3).trans up4) os ag
          obtain ⟨oe4, vs4, he4, hz4, hd4⟩ := fl4.there
          have S4 : Inv (X.suite a (X.pn ++ pins)) [] σ' _ { s' with heap := h4 } := Py.Inv.suite0 (Py.Inv.track J4 he4 hd4 na n0 nL npin)
          refine store_ok (X := X.suite a (X.pn ++ pins)) (v := .ref a) S4 hN hi (.inl hln) rfl (fun s5 S5 => ?_) (.inr hln)
          refine wpAny_mono ((hsu a (X.pn ++ pins)).run [] s5 _ _ (endsAs D i) S5 (hyes rfl a oe4 na ⟨hz4, _, hd4⟩)) (fun f s6 hsp => ?_) (fun _ _ z => False.elim z)
          have end_ : ∀ {σ6 : L2.St} {H6 : Hp} {Q : Shared → Prop}, Inv (X.suite a (X.pn ++ pins)) [] σ6 H6 s6 → (∀ s7, Inv X pins (σ6.set i none) H6 s7 → Q s7) →
              wpAny (model X.prog X.w) X.A (do bindName X.env n .none; unbindBehindTheSuite X.env n pos') (fun _ s7 => Q s7) X.xe s6 := fun {σ6 H6 Q} S6 hq => gone_ok (Py.Inv.unsuite0 S6 ok) hN hi hln hq
          cases f with
          | next =>
            obtain ⟨σ6, H6, S6, q6⟩ := hsp
            exact end_ S6 fun s7 J7 => ⟨_, _, J7, q6⟩
          | brk =>
            obtain ⟨σ6, H6, S6, q6⟩ := hsp
            exact end_ S6 fun s7 J7 => ⟨_, _, J7, q6⟩
          | cont =>
            obtain ⟨σ6, H6, S6, q6⟩ := hsp
            exact end_ S6 fun s7 J7 => ⟨_, _, J7, q6⟩
          | ret u =>
            obtain ⟨v6, σ6, H6, S6, r6, q6⟩ := hsp
            exact end_ S6 fun s7 J7 => ⟨_, _, _, J7, r6, q6⟩
        | false =>
          show wpAny _ X.A (handleBy (.ref a) X.env hds2) _ _ _
          exact ih (hno rfl)
    exact go hh w
  · cases f with
    | next =>
      obtain ⟨σ', H', J', q⟩ := hsp
      exact wpAny_execs_nil ⟨σ', H', J'.ofTry ok, q⟩
    | brk =>
      obtain ⟨σ', H', J', q⟩ := hsp
      exact ⟨σ', H', J'.ofTry ok, q⟩
    | cont =>
      obtain ⟨σ', H', J', q⟩ := hsp
      exact ⟨σ', H', J'.ofTry ok, q⟩
    | ret u =>
      obtain ⟨v, σ', H', J', r, q⟩ := hsp
      exact ⟨v, σ', H', J'.ofTry ok, r, q⟩
end
end Py
end

section
set_option Elab.async false
set_option linter.all false
set_option maxRecDepth 100000
set_option maxHeartbeats 4000000
set_option autoImplicit false
/-! SimY: the frame of statements; try .. except as a statement. -/
namespace Py
open PySem PySem.Spec L2 PyProof.Rows
/-- the frame, however the slots stand -/
structure OkA (S : SC) (X : Cx) (G : Cn) : Prop where
  ok : ∀ Γ, Ok (S.at Γ) X (G.at Γ)
  hid : G.b.hid = []
  po : PassesOwn (model X.prog X.w) X.A X.env X.xe
  dp : X.A.depth + 5 < recursionLimit
  tk : S.calm = true → Takes X (exA G)
  xs : ∀ nm, S.hasX nm = true → ∃ C, X.mg nm = some (.ref C) ∧ G.b.xc nm C
  gS : X.mg "super" = none
  hm : ∀ t, S.hasH t = true → ∃ Ct, X.mg t = some (.ref Ct) ∧ ∀ nm C, G.b.xc nm C → PySem.W.exmOne X.K (.ref C) (.ref Ct) = some (G.sub nm t)
  hs : X.stack = X.env :: X.outer
  hf : X.env.frame = some X.env.locals
  ex : X.ex = []
theorem OkA.at {S : SC} {X : Cx} {G : Cn} (o : OkA S X G) (Γ : List Md) : OkA (S.at Γ) X (G.at Γ) :=
  ⟨o.ok, o.hid, o.po, o.dp, o.tk, o.xs, o.gS, o.hm, o.hs, o.hf, o.ex⟩
theorem OkA.now {S : SC} {X : Cx} {G : Cn} (o : OkA S X G) (e : G.Γ = S.Γ) : Ok S X G := by
  have h := o.ok S.Γ
  obtain ⟨b, H0, A0, Γ, sub, C, EX⟩ := G
  cases e
  exact h
/-- all frozen -/
def isFs (Γ : List Md) : Bool := Γ.all fun m => decide (m = .F)
theorem isFs_md {Γ : List Md} (h : isFs Γ = true) (j : Nat) : md Γ j = .F := by
  unfold md
  rw [List.getD_eq_getElem?_getD]
  cases q : Γ[j]? with
  | none => rfl
  | some m => exact of_decide_eq_true (List.all_eq_true.mp h m (List.mem_of_getElem? q))
theorem noB_md {Γ : List Md} (h : noB Γ = true) (j : Nat) : md Γ j ≠ .B := fun e => by
  unfold md at e
  rw [List.getD_eq_getElem?_getD] at e
  cases q : Γ[j]? with
  | none => rw [q] at e; cases e
  | some m =>
    rw [q] at e
    have := List.all_eq_true.mp h m (List.mem_of_getElem? q)
    have e' : m = .B := e
    rw [e'] at this
    simp at this
/-- from a later entry -/
@[reducible] def Cn.from (G : Cn) (A : List Addr) (H : Hp) : Cn := { G with H0 := H, A0 := A }
@[reducible] def Cn.ex (G : Cn) (E : D → Loc → Sto → Prop) : Cn := { G with EX := E }
section
variable {G : Cn} {A A' : List Addr} {l : Loc} {st : Sto} {σ : L2.St} {H H' H2 : Hp} {Γ Γ' : List Md}
theorem rel_from (r : G.rel A l st σ H) (hF : ∀ j, md G.Γ j = .F) : (G.from A H).rel A l st σ H :=
  ⟨r.len, fun i d e => let ⟨v, e1, e2⟩ := r.slot i d e; ⟨v, e1, by rw [hF i] at e2; show RepM _ _ _ (md G.Γ i) v d; rw [hF i]; exact e2⟩, fun i j a d e n m1 => (by have m1 : md G.Γ i = .O := m1; rw [hF i] at m1; cases m1), Stp.refl _ _, r.sto⟩
theorem rel_back (r : ((G.from A H).at Γ).rel A' l st σ H') (o : Stp G.A0 A G.H0 H) (hF : ∀ j, md Γ j = .F) (hF' : ∀ j, md Γ' j = .F) : (G.at Γ').rel A' l st σ H' :=
  ⟨r.len, fun i d e => let ⟨v, e1, e2⟩ := r.slot i d e; ⟨v, e1, by have e2 : RepM _ _ _ (md Γ i) v d := e2; rw [hF i] at e2; show RepM _ _ _ (md Γ' i) v d; rw [hF' i]; exact e2⟩, fun i j a d e n m1 => (by have m1 : md Γ' i = .O := m1; rw [hF' i] at m1; cases m1), o.trans r.old, r.sto⟩
theorem rel_Γ (r : (G.at Γ).rel A' l st σ H') (hF : ∀ j, md Γ j = .F) (hF' : ∀ j, md Γ' j = .F) : (G.at Γ').rel A' l st σ H' :=
  ⟨r.len, fun i d e => let ⟨v, e1, e2⟩ := r.slot i d e; ⟨v, e1, by have e2 : RepM _ _ _ (md Γ i) v d := e2; rw [hF i] at e2; show RepM _ _ _ (md Γ' i) v d; rw [hF' i]; exact e2⟩, fun i j a d e n m1 => (by have m1 : md Γ' i = .O := m1; rw [hF' i] at m1; cases m1), r.old, r.sto⟩
theorem rel_back' (r : ((G.from A H).at Γ).rel A' l st σ H') (o : Stp G.A0 A G.H0 H) (hB : noB Γ = true) : (G.at Γ).rel A' l st σ H' := by
  refine ⟨r.len, fun i d e => ?_, r.own, o.trans r.old, r.sto⟩
  obtain ⟨v, e1, e2⟩ := r.slot i d e
  refine ⟨v, e1, ?_⟩
  have e2 : RepM _ H _ (md Γ i) v d := e2
  show RepM _ G.H0 _ (md Γ i) v d
  cases hm : md Γ i with
  | F => rw [hm] at e2; exact e2
  | O =>
    rw [hm] at e2
    obtain ⟨h, a, rfl, n, h0⟩ := e2
    exact ⟨h, a, rfl, n, o.free h0 fun m => n.1 (List.IsPrefix.mem (List.IsPrefix.mem m o.pre) r.old.pre)⟩
  | B => exact absurd hm (noB_md hB i)
/-- what the names own -/
def owned (Γ : List Md) (l : Loc) (σ : L2.St) : List Addr := (List.range l.length).filterMap fun i => match l[i]?, σ[i]? with
  | some (some _), some (some (V.ref a)) => if md Γ i = .O then some a else none
  | _, _ => none
theorem mem_owned {Γ : List Md} {l : Loc} {σ : L2.St} {i : Nat} {d : D} {a : Addr} (h1 : l[i]? = some (some d)) (h2 : σ[i]? = some (some (.ref a))) (h3 : md Γ i = .O) : a ∈ owned Γ l σ := by
  refine List.mem_filterMap.mpr ⟨i, List.mem_range.mpr (List.getElem?_eq_some_iff.mp h1).1, ?_⟩
  simp [h1, h2, h3]
theorem of_mem_owned {Γ : List Md} {l : Loc} {σ : L2.St} {a : Addr} (h : a ∈ owned Γ l σ) : ∃ i d, l[i]? = some (some d) ∧ σ[i]? = some (some (.ref a)) ∧ md Γ i = .O := by
  obtain ⟨i, _, e⟩ := List.mem_filterMap.mp h
  split at e
  · rename_i d b e1 e2
    split at e
    · rename_i m
      cases e
      exact ⟨i, d, e1, e2, m⟩
    · cases e
  · cases e
/-- all that is owned is frozen -/
theorem rel_frzAll (r : (G.at Γ).rel A l st σ H) (hB : noB Γ = true) (hF : ∀ j, md Γ' j = .F) (f : Frz (owned Γ l σ) H H2) : (G.at Γ').rel A l st σ H2 := by
  have own : ∀ b ∈ owned Γ l σ, G.H0 b = none ∧ b ∉ A := fun b hb => by
    obtain ⟨i, d, e1, e2, m⟩ := of_mem_owned hb
    obtain ⟨v, q1, q2⟩ := r.slot i d e1
    rw [e2] at q1; cases q1
    have q2 : RepM _ _ _ (md Γ i) _ d := q2
    rw [m] at q2
    obtain ⟨_, a, z, n, h0⟩ := q2
    cases z
    exact ⟨h0, n.1⟩
  refine ⟨r.len, fun i d e => ?_, fun i j a d e n m1 => (by have m1 : md Γ' i = .O := m1; rw [hF i] at m1; cases m1), ⟨r.old.pre, fun b o e n => ?_⟩, r.sto.frz f fun b m => (own b m).2⟩
  · obtain ⟨v, e1, e2⟩ := r.slot i d e
    refine ⟨v, e1, ?_⟩
    show RepM _ _ _ (md Γ' i) v d
    rw [hF i]
    have e2 : RepM _ _ _ (md Γ i) v d := e2
    cases hm : md Γ i with
    | F => rw [hm] at e2; exact Rep.frz f e2
    | O =>
      rw [hm] at e2
      obtain ⟨h, a, rfl, _⟩ := e2
      exact RepO.toF f (mem_owned e e1 hm) h
    | B => exact absurd hm (noB_md hB i)
  · obtain ⟨q1, q2⟩ := r.old.keep b o e n
    refine ⟨?_, q2⟩
    rw [f.out fun z => by have := (own b z).1; rw [show G.H0 b = some o from e] at this; cases this]
    exact q1
end
/-- within an except suite: no calls, no errors -/
@[reducible] def SC.suite (S : SC) : SC := { S with calm := false, fs := [], kw := [], xs := [], hs := [] }
theorem okA_suite {S : SC} {X : Cx} {G : Cn} (o : OkA S X G) (hi : S.inb = false) (a : Addr) (pn : List (Addr × Obj)) : OkA S.suite (X.suite a pn) (G.ex fun _ _ _ => False) := by
  refine ⟨fun Γ => ?_, o.hid, PassesOwn.never, o.dp, fun z => (by cases z), fun nm z => (by simp [SC.hasX] at z), o.gS, fun t z => (by simp [SC.hasH] at z), o.hs, o.hf, o.ex⟩
  have k := o.ok Γ
  refine ⟨⟨k.F.K, k.F.w, k.F.C, ⟨k.F.rm.un⟩⟩, k.hN, k.nd, k.sc, rfl, fun z => (by cases z), k.gd, fun z => ⟨rfl, rfl⟩, k.fn, k.rw, k.cs, fun f z => (by simp [SC.hasF] at z), fun f a h => ⟨(k.fv f a h).1, fun z => (by cases z)⟩, fun q z => (by cases z), k.bl, fun _ σ pins H s e s' I h => ?_, k.xa⟩
  obtain ⟨_, _, _, _, _, _, _, _, _, _, _, _, _, _, _, _, _, _, z⟩ := h
  exact z.elim
/-- the clauses of a try and their syntax -/
inductive HdsCk (S : SC) (X : Cx) (G : Cn) (Γn : Option (List Md)) (Γl : List Md) : Hs → List ExceptHandler → List (Value × Nat × TS) → Prop
  | nil : HdsCk S X G Γn Γl .nil [] []
  | cons {t n : Str} {i : Nat} {ss : Sms} {b₀ : Stmt} {suite : List Stmt} {np pos' : Pos} {hs : Hs} {hds : List ExceptHandler} {l : List (Value × Nat × TS)} {rh : Option (List Md)} {Ct : Addr}
      (hH : S.hasH t = true) (gl : S.gl t = true) (hN : S.N[i]? = some n) (hl : S.sc.names.lookup n = some .local) (hr : rh = none ∨ (rh = some S.Γ ∧ Γn = some S.Γ))
      (hss : ∀ (a : Addr) (pn : List (Addr × Obj)), PSs (X.suite a pn) (b₀ :: suite) (tSs ((G.at S.Γ).ex fun _ _ _ => False) ss rh Γl)) (hCt : X.mg t = some (.ref Ct)) (r : HdsCk S X G Γn Γl hs hds l) :
      HdsCk S X G Γn Γl (.cons [t] (some i) ss hs) (.ExceptHandler (some (.Name t np)) (some n) (b₀ :: suite) pos' :: hds) ((.ref Ct, i, fun D σ H => ∃ L, ∀ H2, Frz L H H2 → tSs ((G.at S.Γ).ex fun _ _ _ => False) ss rh Γl D σ H2) :: l)
theorem HdsCk.as {S : SC} {X : Cx} {G : Cn} {Γn : Option (List Md)} {Γl : List Md} (o : OkA S X G) : ∀ {hs : Hs} {hds : List ExceptHandler} {l : List (Value × Nat × TS)}, HdsCk S X G Γn Γl hs hds l → HdsAs X hds l
  | _, _, _, .nil => .nil
  | _, _, _, .cons hH gl hN hl hr hss hCt r => by
    have k := o.ok S.Γ
    refine .cons ?_ (by rw [k.hN]; exact hN) ?_ (fun a pn => PSs.frz (hss a pn)) (HdsCk.as o r)
    · obtain ⟨g1, g2⟩ := k.gl (S := S.at S.Γ) gl
      exact ⟨g1, g2, .inl hCt⟩
    · show X.env.scope.names.lookup _ = some .local
      rw [k.sc]
      exact hl
/-- what is wanted of an error of the body -/
def EXW (G : Cn) (A : List Addr) (H : Hp) (W : WX) : D → Loc → Sto → Prop := fun x l st => ∀ Γ σ' A' H' cls dd, noB Γ = true → ((G.from A H).at Γ).rel A' l st σ' H' → RepX (G.b.up A') H' cls dd x → W cls dd σ' H'
/-- a place is emptied -/
theorem rel_unset {G : Cn} {A : List Addr} {l : Loc} {st : Sto} {σ : L2.St} {H : Hp} {i : Nat} (r : G.rel A l st σ H) : G.rel A (l.set i none) st (σ.set i none) H := by
  refine ⟨by simp [r.len], fun j e he => ?_, fun j j' b e e' n m1 m2 e1 e2 e3 e4 => ?_, r.old, r.sto⟩
  · by_cases hj : i = j
    · subst hj
      by_cases hl : i < l.length
      · rw [List.getElem?_set_self hl] at he; cases he
      · rw [List.getElem?_eq_none (by simpa using hl)] at he; cases he
    · rw [List.getElem?_set_ne hj] at he ⊢
      exact r.slot j e he
  · by_cases hj : i = j
    · subst hj
      by_cases hl : i < l.length
      · rw [List.getElem?_set_self hl] at e1; cases e1
      · rw [List.getElem?_eq_none (by simpa using hl)] at e1; cases e1
    · by_cases hj' : i = j'
      · subst hj'
        by_cases hl : i < l.length
        · rw [List.getElem?_set_self hl] at e2; cases e2
        · rw [List.getElem?_eq_none (by simpa using hl)] at e2; cases e2
      · rw [List.getElem?_set_ne hj] at e1 e3
        rw [List.getElem?_set_ne hj'] at e2 e4
        exact r.own j j' b e e' n m1 m2 e1 e2 e3 e4
theorem HdsCk.w {S : SC} {X : Cx} {G : Cn} {Γn : Option (List Md)} {Γl : List Md} (o : OkA S X G) (hF : isFs S.Γ = true) (hFl : isFs Γl = true) (eΓ : G.Γ = S.Γ) {A : List Addr} {H : Hp} {l0 : Loc} {st0 : Sto} {σ0 : L2.St} {k : Kn} {D0 : Ends} (r0 : G.rel A l0 st0 σ0 H) (kd : KnD G A H Γn Γl k D0) :
    ∀ {hs : Hs} {hds : List ExceptHandler} {lw : List (Value × Nat × TS)}, HdsCk S X G Γn Γl hs hds lw → ∀ {x : D} {l : Loc} {st : Sto}, wpH G.sub G.C hs x k l st → ∀ Γ σ' A' H' cls dd, noB Γ = true → ((G.from A H).at Γ).rel A' l st σ' H' → RepX (G.b.up A') H' cls dd x → wAll X.K (exA G) D0 lw cls dd σ' H'
  | _, _, _, .nil, x, l, st, w, Γ, σ', A', H', cls, dd, hB, r, rx => by
    simp only [wpH] at w
    exact ⟨Γ, hB, x, l, st, A', rel_back' r r0.old hB, rx, kd.ex _ _ _ w⟩
  | _, _, _, .cons (t := t) (n := n) (i := i) (ss := ss) (rh := rh) (Ct := Ct) hH gl hN hl hr hss hCt rest, x, l, st, w, Γ, σ', A', H', cls, dd, hB, r, rx => by
    obtain ⟨Ct', hCt', hm⟩ := o.hm _ hH
    rw [hCt] at hCt'
    cases hCt'
    obtain ⟨nm, d, C, dx, wv, rfl, hxc, rfl, rfl, hdx, hw⟩ := id rx
    refine ⟨G.sub nm t, hm nm C hxc, fun hb a oe na held => ?_, fun hb => ?_⟩
    · simp only [wpH] at w
      have hany : ([t].any (isOf G.sub (.exc nm d))) = true := by
        show (G.sub nm t || false) = true
        rw [hb]; rfl
      rw [if_pos hany] at w
      obtain ⟨hi, w⟩ := w
      have r1 : ((G.from A H).at Γ).rel A' l st σ' (upd H' a (.frz oe (Raw a oe))) := r.new na
      refine ⟨owned Γ l σ', fun H3 f => ?_⟩
      have r2 := rel_frzAll (G := G.from A H) (Γ' := S.Γ) r1 hB (isFs_md hF) f
      have r3 : (G.at S.Γ).rel A' l st σ' H3 := rel_back r2 r0.old (isFs_md hF) (isFs_md hF)
      have da : dx ≠ a := ne_of_none hdx na
      have hrep : Rep (G.b.up A') H3 (.ref a) (.exc nm d) :=
        .exc hxc (f.at upd_same fun z => z) ⟨held.1.1, held.1.2, held.2⟩ (f.at ((upd_ne da).trans hdx) fun z => z) (Rep.frz f (Rep.keep (c := G.b.up A') r.obs (Stp.new na) hw))
      have r4 := Cn.rel.setF (G := G.at S.Γ) r3 (isFs_md hF i) hi hrep
      refine ⟨A', _, st, _, ⟨r4.len, r4.slot, r4.own, r4.old, r4.sto⟩, w, ?_⟩
      have p0 : Pres G.b A A' H H3 := Pres.stp (c := G.b) r0.obs r2.old
      refine ⟨fun Γ1 e l6 st6 σ6 A6 H6 r6 p q => ?_, kd.rt, fun l6 st6 σ6 A6 H6 r6 p q => ?_, fun l6 st6 σ6 A6 H6 r6 p q => ?_, fun _ _ _ z => z⟩
      · rcases hr with e' | ⟨e', e2⟩
        · rw [e'] at e; cases e
        · rw [e'] at e; cases e
          have r6' : (G.at S.Γ).rel A6 l6 st6 σ6 H6 := ⟨r6.len, r6.slot, r6.own, r6.old, r6.sto⟩
          exact kd.nx _ e2 _ _ _ _ _ (rel_unset r6') (p0.trans p) q
      · have r6' : (G.at Γl).rel A6 l6 st6 σ6 H6 := ⟨r6.len, r6.slot, r6.own, r6.old, r6.sto⟩
        exact kd.bk _ _ _ _ _ (rel_unset r6') (p0.trans p) q
      · have r6' : (G.at Γl).rel A6 l6 st6 σ6 H6 := ⟨r6.len, r6.slot, r6.own, r6.old, r6.sto⟩
        exact kd.ct _ _ _ _ _ (rel_unset r6') (p0.trans p) q
    · simp only [wpH] at w
      have hany : ¬ ([t].any (isOf G.sub (.exc nm d))) = true := by
        show ¬ (G.sub nm t || false) = true
        rw [hb]; decide
      rw [if_neg hany] at w
      exact HdsCk.w o hF hFl eΓ r0 kd rest w Γ σ' A' H' _ _ hB r rx
/-- the frame of a try's body -/
@[reducible] def Cn.tr (G : Cn) (A : List Addr) (H : Hp) (W : WX) : Cn := (G.from A H).ex (EXW G A H W)
theorem okA_tr {S : SC} {X : Cx} {G : Cn} (o : OkA S X G) (hi : S.inb = false) {A : List Addr} {H : Hp} {W : WX} {pn : List (Addr × Obj)} {xe : Value → Shared → Prop} (tk : Takes (X.tr pn xe) W) (po : PassesOwn (model X.prog X.w) X.A X.env xe) : OkA S (X.tr pn xe) (G.tr A H W) := by
  have key : ∀ cls d σ' H', exA (G.tr A H W) cls d σ' H' → W cls d σ' H' := by
    rintro cls d σ' H' ⟨Γ, hB, x, l, st, A', r, rx, ex⟩
    exact ex Γ σ' A' H' cls d hB ⟨r.len, r.slot, r.own, r.old, r.sto⟩ rx
  refine ⟨fun Γ => ?_, o.hid, po, o.dp, fun _ => tk.imp key, o.xs, o.gS, o.hm, o.hs, o.hf, o.ex⟩
  have k := o.ok Γ
  have fnA : ∀ {f a k' fd ps}, FnAt X (G.at Γ) f a k' fd ps → FnAt (X.tr pn xe) ((G.tr A H W).at Γ) f a k' fd ps := fun A1 => ⟨A1.mg, A1.bg, A1.kp, A1.bi, A1.fn, A1.rm⟩
  refine ⟨⟨k.F.K, k.F.w, k.F.C, ⟨k.F.rm.un⟩⟩, k.hN, k.nd, k.sc, rfl, k.cm, k.gd, fun z => ?_, k.fn, k.rw, k.cs, fun f h => ?_, fun f a h => ⟨(k.fv f a h).1, fun hc ds st Q E g => ?_⟩, fun q h => ?_, k.bl, fun hB σ => ?_, k.xa⟩
  · have z' : S.inb = true := z
    rw [hi] at z'; cases z'
  · obtain ⟨a, k', fd, ps, A1⟩ := k.fs f h
    exact ⟨a, k', fd, ps, fnA A1⟩
  · obtain ⟨k', fd, ps, A1⟩ := (k.fv f a h).2 hc ds st Q E g
    exact ⟨k', fd, ps, fnA A1⟩
  · obtain ⟨a, k', fd, ps, A1, B1⟩ := k.kw q h
    exact ⟨a, k', fd, ps, fnA A1, ⟨B1.to⟩⟩
  · intro pins H' s e s' I c
    exact tk e s' (XE.of_call I (fun cls d H1 hx => key cls d σ H1 ⟨Γ, hB, hx⟩) c)
theorem st_try {S : SC} {X : Cx} {G : Cn} {Γn : Option (List Md)} {Γl : List Md} {body : Sms} {hs : Hs} {xb : List Stmt} {h₀ : ExceptHandler} {hds : List ExceptHandler} {rb : Option (List Md)} {lw : List (Value × Nat × TS)} {pos : Pos}
    (o : OkA S X G) (eΓ : G.Γ = S.Γ) (hc : S.calm = true) (hi : S.inb = false) (hF : isFs S.Γ = true) (hFl : isFs Γl = true) (hr : rb = none ∨ (rb = some S.Γ ∧ Γn = some S.Γ))
    (hb : ∀ X' G', OkA S X' G' → G'.Γ = S.Γ → PSs X' xb (tSs G' body rb Γl)) (hh : HdsCk S X G Γn Γl hs (h₀ :: hds) lw) :
    PS X (.Try xb (h₀ :: hds) [] [] pos) (tS G (.try_ body hs) Γn Γl) := by
  refine PS.mono (ps_try_all (l := lw) (Wout := exA G) (tb := fun W D σ H => ∃ A, tSs (G.tr A H W) body rb Γl D σ H) o.hs o.hf o.ex ((o.ok S.Γ).nd) (o.tk hc) (fun W pn xe tk po => ⟨fun pins s σ H D I ⟨A, h⟩ => ?_⟩) (hh.as o)) ?_
  · exact (hb _ _ (okA_tr o hi tk po) eΓ).run pins s σ H D I h
  rintro D σ H ⟨A, l, st, k, r, w, kd⟩
  simp only [wpS] at w
  have hFm : ∀ j, md G.Γ j = .F := by rw [eΓ]; exact isFs_md hF
  have r1 := rel_from r hFm
  refine ⟨A, A, l, st, _, ⟨r1.len, r1.slot, r1.own, r1.old, r1.sto⟩, w, ?_⟩
  refine ⟨fun Γ e l' st' σ' A' H' r' p q => ?_, fun d st' v A' H' s ok hv q => kd.rt d st' v A' H' (r.old.trans s) ok hv q, fun l' st' σ' A' H' r' p q => ?_, fun l' st' σ' A' H' r' p q => ?_, fun x l' st' q Γ σ' A' H' cls dd hB r' rx => HdsCk.w o hF hFl eΓ r kd hh q Γ σ' A' H' cls dd hB r' rx⟩
  · rcases hr with e' | ⟨e', e2⟩
    · rw [e'] at e; cases e
    · rw [e'] at e; cases e
      have r2 : ((G.from A H).at S.Γ).rel A' l' st' σ' H' := ⟨r'.len, r'.slot, r'.own, r'.old, r'.sto⟩
      exact kd.nx _ e2 _ _ _ _ _ (rel_back r2 r.old (isFs_md hF) (isFs_md hF)) p q
  · have r2 : ((G.from A H).at Γl).rel A' l' st' σ' H' := ⟨r'.len, r'.slot, r'.own, r'.old, r'.sto⟩
    exact kd.bk _ _ _ _ _ (rel_back r2 r.old (isFs_md hFl) (isFs_md hFl)) p q
  · have r2 : ((G.from A H).at Γl).rel A' l' st' σ' H' := ⟨r'.len, r'.slot, r'.own, r'.old, r'.sto⟩
    exact kd.ct _ _ _ _ _ (rel_back r2 r.old (isFs_md hFl) (isFs_md hFl)) p q
end Py
end

section
set_option Elab.async false
set_option linter.all false
set_option maxRecDepth 100000
set_option maxHeartbeats 4000000
set_option autoImplicit false
/-! Sim27: the checker of statements. -/
namespace Py
open PySem PySem.Spec L2 PyProof.Rows
def noComp : Expr → Bool
  | .ListComp .. => false
  | .SetComp .. => false
  | .DictComp .. => false
  | _ => true
def noTup : Expr → Bool
  | .Tuple .. => false
  | .List .. => false
  | _ => true
/-- a tuple of constants is one constant -/
def bothFolded (tg v : Expr) : Bool := match tg, v with
  | .Tuple _ _ _, .Tuple vs _ _ => vs.all (foldedForSure 8)
  | _, _ => false
/-- a comprehension is stored by the block's own end -/
def swOk (S : SC) (y : Str) (py _pos : Pos) (scope : Scope) (cpos : Pos) : Bool := decide (S.sc.kind = .function) && decide (S.sc.names.lookup y = some .local) && (py.line == cpos.line) && !(scope.names.any fun (n, k) => n == y && (k == .local || k == .cell))
def when (b : Bool) (r : Option (List Md)) : Option (Option (List Md)) := if b then some r else none
/-- two ways that come together -/
def joined : Option (List Md) → Option (List Md) → Option (Option (List Md))
  | none, r => some r
  | some a, none => some (some a)
  | some a, some b => if a = b then some (some a) else none
mutual
def chkS : Sm → SC → List Md → Stmt → Option (Option (List Md))
  | .expr e, S, Γl, x => match x with
    | .Expr x pos => when (noComp x && chk e false S x) (some S.Γ)
    | _ => none
  | .asg t e, S, Γl, x => match x with
    | .Assign [tg] v pos => if noComp v then
        if noTup v || noTup tg || bothFolded tg v then when (!isU e && chk e false S v && chkT t S tg && noStar tg) (some S.Γ) else match t, e, tg, v with
          | .tp (.cons (.nm i) (.cons (.nm j) .nil)), .tup (.cons ea (.cons eb .nil)), .Tuple [.Name y py, .Name z pz] _ _, .Tuple [xa, xb] _ _ =>
            when (S.calm && decide (S.sc.kind = .function) && decide (S.N[i]? = some y) && decide (S.N[j]? = some z) && decide (i ≠ j) && !(z == y) && (pz.line == py.line) && decide (S.sc.names.lookup y = some .local) && decide (S.sc.names.lookup z = some .local) && S.isF i && S.isF j &&
              !isU ea && !isU eb && noStar xa && noStar xb && (!foldedForSure 8 xa || !foldedForSure 8 xb) && (!constantsAlone 8 xa || !constantsAlone 8 xb) && chk ea false S xa && chk eb false S xb) (some S.Γ)
          | _, _, _, _ => none
      else match t, e, tg, v with
        | .nm i, .lc own e' (.for_ tt it ifs c), .Name y py, .ListComp elt (⟨tgx, iterx, ifsx, as⟩ :: rest) scope cpos => when (swOk S y py pos scope cpos && S.isF i && decide (S.N[i]? = some y) && chk e false S v) (some S.Γ)
        | _, _, _, _ => none
    | _ => none
  | .own i e, S, Γl, x => match x with
    | .Assign [.Name y py] v pos => if noComp v then when (isX e && chk e false S v && decide (S.N[i]? = some y) && S.asn y && decide (i < S.Γ.length)) (some (S.Γ.set i .O)) else match e, v with
        | .lc own e' (.for_ tt it ifs c), .ListComp elt (⟨tgx, iterx, ifsx, as⟩ :: rest) scope cpos => when (swOk S y py pos scope cpos && decide (S.N[i]? = some y) && decide (i < S.Γ.length) && chk e false S v) (some (S.Γ.set i .O))
        | _, _ => none
    | _ => none
  | .app i e, S, Γl, x => match x with
    | .Expr (.Call (.Attribute (.Name nm _) m apos) [v] [] cpos) _ => when (decide (m = "append") && S.nm i nm && decide (md S.Γ i = .O) && noB S.Γ && noStar v && (apos.endLine == cpos.line) && !isU e && chk e false S v) (some S.Γ)
    | _ => none
  | .ext i e, S, Γl, x => match x with
    | .Expr (.Call (.Attribute (.Name nm _) m apos) [v] [] cpos) _ => when (decide (m = "extend") && S.nm i nm && decide (md S.Γ i = .O) && noB S.Γ && noStar v && (apos.endLine == cpos.line) && isX e && chk e false S v) (some S.Γ)
    | _ => none
  | .setO a k v, S, Γl, x => match x with
    | .Assign [.Subscript xa xk _] xv _ => when (noComp xv && plainIx xk && !isU a && !isU k && !isU v && chk a false S xa && chk k false S xk && chk v false S xv) (some S.Γ)
    | _ => none
  | .setIx i k v, S, Γl, x => match x with
    | .Assign [.Subscript (.Name nm _) xk _] xv _ => when (noComp xv && S.nm i nm && decide (md S.Γ i = .O) && noB S.Γ && !isU k && !isU v && chk k false S xk && chk v false S xv) (some S.Γ)
    | _ => none
  | .if_ c a b, S, Γl, x => match x with
    | .If xc xa xb _ => if chk c true S xc then match chkSs a S Γl xa, chkSs b S Γl xb with
      | some r, some r' => joined r r'
      | _, _ => none else none
    | _ => none
  | .for_ t it body, S, Γl, x => match x with
    | .For tg xi xs [] _ => if S.calm && noSet xi && chkI0 it S xi && chkT t S tg then match chkSs body S S.Γ xs with
      | some none => some (some S.Γ)
      | some (some Γ) => if Γ = S.Γ then some (some S.Γ) else none
      | none => none else none
    | _ => none
  | .ret e, S, Γl, x => match x with
    | .Return (some v) _ => when (!isU e && chk e false S v) none
    | _ => none
  | .retN, S, Γl, x => match x with
    | .Return none _ => some none
    | _ => none
  | .pass, S, Γl, x => match x with
    | .Pass _ => some (some S.Γ)
    | _ => none
  | .brk, S, Γl, x => match x with
    | .Break _ => when (decide (S.Γ = Γl)) none
    | _ => none
  | .cnt, S, Γl, x => match x with
    | .Continue _ => when (decide (S.Γ = Γl)) none
    | _ => none
  | .raise c e, S, Γl, x => match x with
    | .Raise (some (.Call (.Name nm _) [xa] [] _)) none _ => when (decide (nm = c) && S.calm && S.hasX nm && S.gl nm && noB S.Γ && noStar xa && !isU e && chk e false S xa) none
    | _ => none
  | .try_ body hs, S, Γl, x => match x with
    | .Try xb (h :: hds) [] [] _ => if S.calm && !S.inb && isFs S.Γ && isFs Γl then match chkSs body S Γl xb with
      | some rb => if rb = none ∨ rb = some S.Γ then (if chkH hs S Γl (h :: hds) then some (some S.Γ) else none) else none
      | none => none else none
    | _ => none
  | _, _, _, _ => none
def chkSs : Sms → SC → List Md → List Stmt → Option (Option (List Md))
  | .nil, S, Γl, xs => match xs with
    | [] => some (some S.Γ)
    | _ => none
  | .cons s ss, S, Γl, xs => match s with
    | .frz i => if decide (i < S.Γ.length) && noB S.Γ then chkSs ss (S.at (S.Γ.set i .F)) Γl xs else none
    | s => match xs with
      | x :: xs => match chkS s S Γl x with
        | some (some Γ1) => chkSs ss (S.at Γ1) Γl xs
        | some none => some none
        | none => none
      | [] => none
def chkH : Hs → SC → List Md → List ExceptHandler → Bool
  | .nil, S, Γl, xs => match xs with
    | [] => true
    | _ => false
  | .cons cs i ss hs, S, Γl, xs => match i, xs with
    | some i, .ExceptHandler (some (.Name t _)) (some n) (b₀ :: suite) _ :: hds => decide (cs = [t]) && S.hasH t && S.gl t && decide (S.N[i]? = some n) && decide (S.sc.names.lookup n = some .local) && (match chkSs ss S.suite Γl (b₀ :: suite) with
      | some r => decide (r = none ∨ r = some S.Γ)
      | none => false) && chkH hs S Γl hds
    | _, _ => false
termination_by structural e => e
end
end Py
end

section
set_option Elab.async false
set_option linter.all false
set_option maxRecDepth 100000
set_option maxHeartbeats 4000000
set_option autoImplicit false
/-! Sim28: what the checker of statements says holds. -/
namespace Py
open PySem PySem.Spec L2 PyProof.Rows
theorem ss_any {X : Cx} {G : Cn} {ss : Sms} {Γn : Option (List Md)} {Γl : List Md} {xs : List Stmt} (h : PSs X xs (tSs G ss none Γl)) : PSs X xs (tSs G ss Γn Γl) := PSs.mono h fun D σ H ⟨A, l, st, k, r, w, kd⟩ => ⟨A, l, st, k, r, w, ⟨(fun Γ e => by cases e), kd.rt, kd.bk, kd.ct, kd.ex⟩⟩
theorem sw_no {x : Expr} {tg : Option Expr} {n : Nat} {env : Env} (h : noComp x = true) : swapsWith x tg n env = pure false := by
  cases x <;> first | rfl | exact absurd h Bool.false_ne_true
theorem sole_no {x tg : Expr} {n : Nat} {env : Env} (h : noComp x = true) : swapsWithSole [tg] x n env = pure false := by
  cases x <;> first | rfl | exact absurd h Bool.false_ne_true
theorem stores_no {tg x : Expr} {env : Env} (h : noTup x = true) : swappedStores [tg] x env = pure none := by
  cases x <;> first | exact absurd h Bool.false_ne_true | (cases tg <;> rfl)
theorem stores_no2 {tg x : Expr} {env : Env} (h : noTup tg = true) : swappedStores [tg] x env = pure none := by
  cases tg <;> first | exact absurd h Bool.false_ne_true | rfl
theorem toX {X : Cx} {G : Cn} {x : Expr} {e : E} (hx : isX e = true) (h : PE X x (tE G (resOf e) e)) : PE X x (tE G RX e) := by
  have hr : resOf e = RX := by
    unfold resOf
    have hu : isU e = false := by cases e <;> first | rfl | (simp only [isX, Bool.false_eq_true] at hx)
    rw [hu, hx]; rfl
  rw [hr] at h
  exact h
theorem sw_yes {S : SC} {X : Cx} {G : Cn} {y : Str} {py pos cpos : Pos} {scope : Scope} (o : Ok S X G) (h : swOk S y py pos scope cpos = true) : X.env.scope.names.lookup y = some .local ∧
    ∀ (elt : Expr) (gs : List Comprehension) (l : Nat), swapsWith (.ListComp elt gs scope cpos) (some (.Name y py)) l X.env = pure true := by
  unfold swOk at h
  simp only [Bool.and_eq_true, decide_eq_true_eq, Bool.not_eq_true'] at h
  obtain ⟨⟨⟨h1, h2⟩, h3⟩, h4⟩ := h
  refine ⟨by rw [o.sc]; exact h2, fun elt gs l => sw_true (by rw [o.sc]; exact h1) (by rw [o.sc]; exact h2) h3 h4⟩
theorem stores_folded {ts vs : List Expr} {kt k2 : Nat} {tp p2 : Pos} {env : Env} (h : vs.all (foldedForSure 8) = true) : swappedStores [.Tuple ts kt tp] (.Tuple vs k2 p2) env = pure none := by
  unfold swappedStores
  simp only [h, if_true]
  repeat' split
  all_goals rfl
theorem stores_two {a b : Expr} {y z : Str} {py pz : Pos} {kt k2 : Nat} {tp p2 : Pos} {env : Env} (h1 : foldedForSure 8 a = false ∨ foldedForSure 8 b = false) (h2 : constantsAlone 8 a = false ∨ constantsAlone 8 b = false) (na : noStar a = true) (nb : noStar b = true)
    (hk : env.scope.kind = .function) (hy : env.scope.names.lookup y = some .local) (hz : env.scope.names.lookup z = some .local) (hl : (pz.line == py.line) = true) (hyz : (z == y) = false) :
    swappedStores [.Tuple [.Name y py, .Name z pz] kt tp] (.Tuple [a, b] k2 p2) env = pure (some [y, z]) := by
  have ky : env.kindOf y = some .local := hy
  have kz : env.kindOf z = some .local := hz
  have hb : env.blockKind = .function := by unfold Env.blockKind; rw [hk]; rfl
  have f1 : [a, b].all (foldedForSure 8) = false := by rcases h1 with h | h <;> simp [h]
  have f2 : [a, b].all (constantsAlone 8) = false := by rcases h2 with h | h <;> simp [h]
  have f3 : ([a, b].any fun | .Starred .. => true | _ => false) = false := by
    cases a <;> first | exact absurd na Bool.false_ne_true | (cases b <;> first | exact absurd nb Bool.false_ne_true | rfl)
  unfold swappedStores
  simp only [f1, f2, f3, hb, ky, kz, List.filterMap_cons, List.filterMap_nil, List.head?_cons, Option.map_some, Option.getD_some, Expr.pos, hl, beq_self_eq_true, Bool.and_self, if_true]
  have e : ([y, z] : List Str).eraseDups = [y, z] := by
    simp [List.eraseDups, List.eraseDupsBy, List.eraseDupsBy.loop, hyz]
  simp [e]
  intro h
  exfalso
  rcases h with h | h
  · cases a <;> first | exact absurd na Bool.false_ne_true | exact absurd h Bool.false_ne_true
  · cases b <;> first | exact absurd nb Bool.false_ne_true | exact absurd h Bool.false_ne_true
theorem stores_both {tg v : Expr} {env : Env} (h : bothFolded tg v = true) : swappedStores [tg] v env = pure none := by
  cases tg <;> cases v <;> first | exact stores_folded h | exact absurd h Bool.false_ne_true
theorem joined_l {r r' : Option (List Md)} {R : Option (List Md)} (h : joined r r' = some R) : r = none ∨ r = R := by
  cases r with
  | none => exact .inl rfl
  | some a =>
    cases r' with
    | none => simp only [joined, Option.some.injEq] at h; exact .inr h
    | some b =>
      simp only [joined] at h
      split at h
      · simp only [Option.some.injEq] at h; exact .inr h
      · cases h
theorem joined_r {r r' : Option (List Md)} {R : Option (List Md)} (h : joined r r' = some R) : r' = none ∨ r' = R := by
  cases r with
  | none => simp only [joined, Option.some.injEq] at h; exact .inr h
  | some a =>
    cases r' with
    | none => exact .inl rfl
    | some b =>
      simp only [joined] at h
      split at h
      · rename_i e; simp only [Option.some.injEq] at h; exact .inr (e ▸ h)
      · cases h
theorem when_some {b : Bool} {r : Option (List Md)} {R : Option (List Md)} (h : when b r = some R) : b = true ∧ r = R := by
  unfold when at h
  split at h
  · rename_i e; exact ⟨e, by simpa using h⟩
  · cases h
mutual
theorem chkS_ok : ∀ (s : Sm) {S : SC} {X : Cx} {G : Cn} {Γl : List Md} {x : Stmt} {Γn : Option (List Md)}, OkA S X G → G.Γ = S.Γ → chkS s S Γl x = some Γn → PS X x (tS G s Γn Γl)
  | .expr e, S, X, G, Γl, x, Γn, oA, eΓ, h => by
    have o := oA.now eΓ
    cases x <;> simp only [chkS, reduceCtorEq] at h
    obtain ⟨h1, rfl⟩ := when_some h
    simp only [Bool.and_eq_true] at h1
    exact st_expr o.F (by rw [eΓ]) (chk_ok e (t := false) o h1.2) (sw_no h1.1)
  | .ret e, S, X, G, Γl, x, Γn, oA, eΓ, h => by
    have o := oA.now eΓ
    unfold chkS at h
    split at h
    · obtain ⟨h1, rfl⟩ := when_some h
      simp only [Bool.and_eq_true, Bool.not_eq_true'] at h1
      exact st_ret o.F (toF o.F h1.1 (chk_ok e (t := false) o h1.2))
    · cases h
  | .retN, S, X, G, Γl, x, Γn, oA, eΓ, h => by
    unfold chkS at h
    split at h
    · exact st_retN
    · cases h
  | .pass, S, X, G, Γl, x, Γn, oA, eΓ, h => by
    cases x <;> simp only [chkS, reduceCtorEq, Option.some.injEq] at h
    exact st_pass (by rw [← h, eΓ])
  | .brk, S, X, G, Γl, x, Γn, oA, eΓ, h => by
    cases x <;> simp only [chkS, reduceCtorEq] at h
    obtain ⟨h1, rfl⟩ := when_some h
    exact st_brk (by rw [eΓ]; exact of_decide_eq_true h1)
  | .cnt, S, X, G, Γl, x, Γn, oA, eΓ, h => by
    cases x <;> simp only [chkS, reduceCtorEq] at h
    obtain ⟨h1, rfl⟩ := when_some h
    exact st_cnt (by rw [eΓ]; exact of_decide_eq_true h1)
  | .asg t e, S, X, G, Γl, x, Γn, oA, eΓ, h => by
    have o := oA.now eΓ
    unfold chkS at h
    split at h
    · split at h
      · rename_i hc
        split at h
        · rename_i ht
          obtain ⟨h1, rfl⟩ := when_some h
          simp only [Bool.and_eq_true, Bool.not_eq_true'] at h1
          simp only [Bool.or_eq_true] at ht
          exact st_asg o.F (by rw [eΓ]) (toF o.F h1.1.1.1 (chk_ok e (t := false) o h1.1.1.2)) (chkT_ok t o h1.1.2) (sw_no hc) (ht.elim (fun z => z.elim stores_no stores_no2) stores_both) (by rw [asg_of h1.2]; rfl)
        · split at h
          · obtain ⟨h1, rfl⟩ := when_some h
            simp only [Bool.and_eq_true, decide_eq_true_eq, Bool.not_eq_true', Bool.or_eq_true] at h1
            obtain ⟨⟨⟨⟨⟨⟨⟨⟨⟨⟨⟨⟨⟨⟨⟨⟨⟨⟨c1, c2⟩, c3⟩, c4⟩, c5⟩, c6⟩, c7⟩, c8⟩, c9⟩, c10⟩, c11⟩, c12⟩, c13⟩, c14⟩, c15⟩, c16⟩, c17⟩, c18⟩, c19⟩ := h1
            rename_i ea eb _ _ _ _ _ _ _ _ _ _ _ _
            exact st_par o.F (o.cm c1) (by rw [eΓ]) o.nd (by rw [o.hN]; exact c3) (by rw [o.hN]; exact c4) c5 (by rw [o.sc]; exact c8) (by rw [o.sc]; exact c9) (o.isF c10) (o.isF c11) (toF o.F c12 (chk_ok _ (t := false) o c18)) (toF o.F c13 (chk_ok _ (t := false) o c19)) c14 c15 (stores_two c16 c17 c14 c15 (by rw [o.sc]; exact c2) (by rw [o.sc]; exact c8) (by rw [o.sc]; exact c9) c7 c6)
          · cases h
      · split at h
        · obtain ⟨h1, rfl⟩ := when_some h
          simp only [Bool.and_eq_true, decide_eq_true_eq] at h1
          obtain ⟨⟨⟨h1, h2⟩, h3⟩, h4⟩ := h1
          obtain ⟨s1, s2⟩ := sw_yes (X := X) o h1
          exact st_asgCo o (by rw [eΓ]) (o.isF h2) h4 (by rw [o.hN]; exact h3) s1 (s2 _ _ _)
        · cases h
    · cases h
  | .own i e, S, X, G, Γl, x, Γn, oA, eΓ, h => by
    have o := oA.now eΓ
    unfold chkS at h
    split at h
    · split at h
      · rename_i hc
        obtain ⟨h1, rfl⟩ := when_some h
        simp only [Bool.and_eq_true, decide_eq_true_eq] at h1
        obtain ⟨⟨⟨⟨hx, he⟩, hn⟩, ha⟩, hi⟩ := h1
        obtain ⟨a1, a2⟩ := o.asn ha
        exact st_own o.F oA.hid (by rw [eΓ]; exact hi) (by rw [eΓ]) o.nd (by rw [o.hN]; exact hn) a1 a2 (toX hx (chk_ok e (t := false) o he)) (sw_no hc)
      · split at h
        · obtain ⟨h1, rfl⟩ := when_some h
          simp only [Bool.and_eq_true, decide_eq_true_eq] at h1
          obtain ⟨⟨⟨h1, h2⟩, h3⟩, h4⟩ := h1
          obtain ⟨s1, s2⟩ := sw_yes (X := X) o h1
          exact st_ownCo o oA.hid (by rw [eΓ]; exact h3) (by rw [eΓ]) h4 (by rw [o.hN]; exact h2) s1 (s2 _ _ _)
        · cases h
    · cases h
  | .app i e, S, X, G, Γl, x, Γn, oA, eΓ, h => by
    have o := oA.now eΓ
    unfold chkS at h
    split at h
    · obtain ⟨h1, rfl⟩ := when_some h
      simp only [Bool.and_eq_true, decide_eq_true_eq, Bool.not_eq_true'] at h1
      obtain ⟨⟨⟨⟨⟨⟨⟨rfl, h2⟩, h3⟩, h4⟩, h5⟩, h6⟩, h7⟩, h8⟩ := h1
      obtain ⟨n1, n2, n3, n4⟩ := o.nm h2
      exact st_app o.F (by rw [eΓ]; exact noB_md h4) (by rw [eΓ]) n1 n2 (by rw [eΓ]; exact h3) n3 n4 h5 (toF o.F h7 (chk_ok e (t := false) o h8)) h6
    · cases h
  | .ext i e, S, X, G, Γl, x, Γn, oA, eΓ, h => by
    have o := oA.now eΓ
    unfold chkS at h
    split at h
    · obtain ⟨h1, rfl⟩ := when_some h
      simp only [Bool.and_eq_true, decide_eq_true_eq, Bool.not_eq_true'] at h1
      obtain ⟨⟨⟨⟨⟨⟨⟨rfl, h2⟩, h3⟩, h4⟩, h5⟩, h6⟩, h7⟩, h8⟩ := h1
      obtain ⟨n1, n2, n3, n4⟩ := o.nm h2
      exact st_ext o.F (by rw [eΓ]; exact noB_md h4) (by rw [eΓ]) n1 n2 (by rw [eΓ]; exact h3) n3 n4 h5 (toX h7 (chk_ok e (t := false) o h8)) h6
    · cases h
  | .setO a k v, S, X, G, Γl, x, Γn, oA, eΓ, h => by
    have o := oA.now eΓ
    unfold chkS at h
    split at h
    · obtain ⟨h1, rfl⟩ := when_some h
      simp only [Bool.and_eq_true, Bool.not_eq_true'] at h1
      obtain ⟨⟨⟨⟨⟨⟨⟨h0, h2⟩, h3⟩, h4⟩, h5⟩, h6⟩, h7⟩, h8⟩ := h1
      exact st_setO o.F (by rw [eΓ]) (toF o.F h3 (chk_ok a (t := false) o h6)) (toF o.F h4 (chk_ok k (t := false) o h7)) (toF o.F h5 (chk_ok v (t := false) o h8)) (sole_no h0) (stores_no2 rfl) (assign_ix h2)
    · cases h
  | .setIx i k v, S, X, G, Γl, x, Γn, oA, eΓ, h => by
    have o := oA.now eΓ
    unfold chkS at h
    split at h
    · obtain ⟨h1, rfl⟩ := when_some h
      simp only [Bool.and_eq_true, decide_eq_true_eq, Bool.not_eq_true'] at h1
      obtain ⟨⟨⟨⟨⟨⟨⟨h0, h2⟩, h3⟩, h4⟩, h5⟩, h6⟩, h7⟩, h8⟩ := h1
      obtain ⟨n1, n2, n3, n4⟩ := o.nm h2
      exact st_setIx o.F (by rw [eΓ]; exact noB_md h4) (by rw [eΓ]) n1 n2 (by rw [eΓ]; exact h3) n3 n4 (toF o.F h5 (chk_ok k (t := false) o h7)) (toF o.F h6 (chk_ok v (t := false) o h8)) (sw_no h0)
    · cases h
  | .if_ c a b, S, X, G, Γl, x, Γn, oA, eΓ, h => by
    have o := oA.now eΓ
    unfold chkS at h
    split at h
    · split at h
      · rename_i hc
        split at h
        · rename_i r r' h1 h2
          have i1 := chkSs_ok a oA eΓ h1
          have i2 := chkSs_ok b oA eΓ h2
          refine st_if o.F (chk_ok c (t := true) o hc) ?_ ?_
          · rcases joined_l h with rfl | rfl
            · exact ss_any i1
            · exact i1
          · rcases joined_r h with rfl | rfl
            · exact ss_any i2
            · exact i2
        · cases h
      · cases h
    · cases h
  | .for_ t it body, S, X, G, Γl, x, Γn, oA, eΓ, h => by
    have o := oA.now eΓ
    unfold chkS at h
    split at h
    · rename_i tgx xi xs pos
      split at h
      · rename_i hc
        simp only [Bool.and_eq_true] at hc
        obtain ⟨⟨⟨h1, h2⟩, h3⟩, h4⟩ := hc
        have key : ∀ {Γn : Option (List Md)}, Γn = some S.Γ → PSs X xs (tSs G body (some G.Γ) G.Γ) → PS X (.For tgx xi xs [] pos) (tS G (.for_ t it body) Γn Γl) := fun {Γn} e hb => st_for (Γb := []) o.F oA.po (o.cm h1) (by rw [e, eΓ]) (chkI0_ok it _ o h3) (chkT_ok t o h4) hb (fold_of h2)
        split at h
        · rename_i hb
          simp only [Option.some.injEq] at h
          refine key h.symm ?_
          rw [eΓ]
          exact ss_any (chkSs_ok body oA eΓ hb)
        · rename_i Γ hb
          split at h
          · rename_i e
            simp only [Option.some.injEq] at h
            refine key h.symm ?_
            rw [eΓ]
            have := chkSs_ok body oA eΓ hb
            rw [e] at this
            exact this
          · cases h
        · cases h
      · cases h
    · cases h
  | .aug _ _ _, S, X, G, Γl, x, Γn, oA, eΓ, h => by simp only [chkS, reduceCtorEq] at h
  | .augIx _ _ _ _, S, X, G, Γl, x, Γn, oA, eΓ, h => by simp only [chkS, reduceCtorEq] at h
  | .upd _ _, S, X, G, Γl, x, Γn, oA, eΓ, h => by simp only [chkS, reduceCtorEq] at h
  | .sort _, S, X, G, Γl, x, Γn, oA, eΓ, h => by simp only [chkS, reduceCtorEq] at h
  | .sdApp _ _ _, S, X, G, Γl, x, Γn, oA, eΓ, h => by simp only [chkS, reduceCtorEq] at h
  | .sdSet _ _ _ _, S, X, G, Γl, x, Γn, oA, eΓ, h => by simp only [chkS, reduceCtorEq] at h
  | .ifSd _ _ _ _ _ _, S, X, G, Γl, x, Γn, oA, eΓ, h => by simp only [chkS, reduceCtorEq] at h
  | .while_ _ _, S, X, G, Γl, x, Γn, oA, eΓ, h => by simp only [chkS, reduceCtorEq] at h
  | .raise c e, S, X, G, Γl, x, Γn, oA, eΓ, h => by
    have o := oA.now eΓ
    unfold chkS at h
    split at h
    · obtain ⟨h1, rfl⟩ := when_some h
      simp only [Bool.and_eq_true, decide_eq_true_eq, Bool.not_eq_true'] at h1
      obtain ⟨⟨⟨⟨⟨⟨⟨rfl, h2⟩, h3⟩, h4⟩, h5⟩, h6⟩, h7⟩, h8⟩ := h1
      obtain ⟨g1, g2⟩ := o.gl h4
      obtain ⟨C, c1, c2⟩ := oA.xs _ h3
      exact st_raise o.F (by rw [eΓ]; exact h5) (o.cm h2) (oA.tk h2) (o.xa _ _ c2) c2 c1 oA.gS oA.dp (s_consF o.F (toF o.F h7 (chk_ok e (t := false) o h8)) s_nilF (star_of h6)) g1 g2 h6
    · cases h
  | .try_ body hs, S, X, G, Γl, x, Γn, oA, eΓ, h => by
    unfold chkS at h
    split at h
    · rename_i xb h0 hds pos
      split at h
      · rename_i hc
        simp only [Bool.and_eq_true, Bool.not_eq_true'] at hc
        obtain ⟨⟨⟨c1, c2⟩, c3⟩, c4⟩ := hc
        split at h
        · rename_i rb hrb
          split at h
          · rename_i hr
            split at h
            · rename_i hh
              simp only [Option.some.injEq] at h
              subst h
              obtain ⟨lw, hck⟩ := chkH_ok hs oA c2 eΓ (Γn := some S.Γ) rfl hh
              exact st_try oA eΓ c1 c2 c3 c4 (hr.imp id fun z => ⟨z, rfl⟩) (fun X' G' o' e' => chkSs_ok body o' e' hrb) hck
            · cases h
          · cases h
        · cases h
      · cases h
    · cases h
  | .frz _, S, X, G, Γl, x, Γn, oA, eΓ, h => by simp only [chkS, reduceCtorEq] at h
theorem chkSs_ok : ∀ (ss : Sms) {S : SC} {X : Cx} {G : Cn} {Γl : List Md} {xs : List Stmt} {Γn : Option (List Md)}, OkA S X G → G.Γ = S.Γ → chkSs ss S Γl xs = some Γn → PSs X xs (tSs G ss Γn Γl)
  | .nil, S, X, G, Γl, xs, Γn, oA, eΓ, h => by
    cases xs with
    | nil =>
      simp only [chkSs, Option.some.injEq] at h
      exact ss_nil (by rw [← h, eΓ])
    | cons _ _ => simp only [chkSs, reduceCtorEq] at h
  | .cons s ss, S, X, G, Γl, xs, Γn, oA, eΓ, h => by
    unfold chkSs at h
    split at h
    · split at h
      · rename_i i hc
        simp only [Bool.and_eq_true, decide_eq_true_eq] at hc
        refine ss_frz (by rw [eΓ]; exact hc.1) (by rw [eΓ]; exact noB_md hc.2) ?_
        rw [eΓ]
        exact chkSs_ok ss (oA.at _) rfl h
      · cases h
    · split at h
      · split at h
        · rename_i Γ1 h1
          exact ss_cons (chkS_ok s oA eΓ h1) (chkSs_ok ss (oA.at Γ1) rfl h)
        · rename_i h1
          simp only [Option.some.injEq] at h
          subst h
          exact ss_last (chkS_ok s oA eΓ h1)
        · cases h
      · cases h
theorem chkH_ok : ∀ (hs : Hs) {S : SC} {X : Cx} {G : Cn} {Γn : Option (List Md)} {Γl : List Md} {xs : List ExceptHandler}, OkA S X G → S.inb = false → G.Γ = S.Γ → Γn = some S.Γ → chkH hs S Γl xs = true → ∃ lw, HdsCk S X G Γn Γl hs xs lw
  | .nil, S, X, G, Γn, Γl, xs, oA, hi, eΓ, eN, h => by
    cases xs with
    | nil => exact ⟨_, .nil⟩
    | cons _ _ => simp only [chkH, Bool.false_eq_true] at h
  | .cons cs i ss hs, S, X, G, Γn, Γl, xs, oA, hi, eΓ, eN, h => by
    unfold chkH at h
    split at h
    · rename_i i t _ n b₀ suite _ hds
      simp only [Bool.and_eq_true, decide_eq_true_eq] at h
      obtain ⟨⟨⟨⟨⟨⟨rfl, h2⟩, h3⟩, h4⟩, h5⟩, h6⟩, h7⟩ := h
      split at h6
      · rename_i r hr
        have h6 := of_decide_eq_true h6
        obtain ⟨lw, hck⟩ := chkH_ok hs oA hi eΓ eN h7
        obtain ⟨Ct, hCt, _⟩ := oA.hm _ h2
        exact ⟨_, .cons h2 h3 h4 h5 (h6.imp id fun z => ⟨z, eN⟩) (fun a pn => chkSs_ok ss (okA_suite (oA.at S.Γ) hi a pn) rfl hr) hCt hck⟩
      · cases h6
    · cases h
end
end Py
end

section
set_option Elab.async false
set_option linter.all false
set_option maxRecDepth 100000
set_option maxHeartbeats 2000000
set_option autoImplicit false
/-! Sim29: a def's body. -/
namespace Py
open PySem PySem.Spec L2 PyProof.Rows
def allF (N : List Str) : List Md := List.replicate N.length .F
theorem md_allF (N : List Str) (i : Nat) : md (allF N) i = .F := by
  unfold md allF
  rw [List.getD_eq_getElem?_getD, List.getElem?_replicate]
  split <;> rfl
/-- how a def starts -/
theorem start_rel {c : RC} {A : List Addr} {H : Hp} {N : List Str} {vs : List V} {ds : List D} {st : Sto} (hr : Reps (c.up A) H vs ds) (hs : StoOk (c.up A) st H) :
    Rel (c.up A) H A (allF N) (ds.map some ++ List.replicate (N.length - vs.length) none) st (L2.start N vs) H := by
  have hl := hr.length
  refine ⟨by simp [L2.start, hl], fun i d e => ?_, fun i j a d e n m1 => ?_, Stp.refl _ _, hs⟩
  · rw [md_allF]
    unfold L2.start
    by_cases hi : i < ds.length
    · rw [List.getElem?_append_left (by simpa using hi), List.getElem?_map] at e
      obtain ⟨d', e1, e2⟩ := Option.map_eq_some_iff.mp e
      cases e2
      obtain ⟨v, h1, h2⟩ := hr.get e1
      exact ⟨v, by rw [List.getElem?_append_left (by simpa [hl] using hi), List.getElem?_map, h1]; rfl, h2⟩
    · rw [List.getElem?_append_right (by simpa using Nat.le_of_not_lt hi), List.getElem?_replicate] at e
      split at e <;> cases e
  · rw [md_allF] at m1; cases m1
/-- the frame of a def's body -/
def fnC (c : RC) (sub : Str → Str → Bool) (C : CallS) (N : List Str) (A : List Addr) (H : Hp) (E : XK) : Cn :=
  { b := c.hide [], H0 := H, A0 := A, Γ := allF N, sub := sub, C := C, EX := fun x _ st' => ∀ cls dd A' H', Stp A A' H H' → StoOk ((c.hide []).up A') st' H' → RepX ((c.hide []).up A') H' cls dd x → E cls dd H' }
theorem body_ok {c : RC} {Tb : Tab} {n np m : Nat} {f : Str} {ss : Sms} {S : SC} {X : Cx} {body : List Stmt} {r : Option (List Md)} {vs : List V} {H : Hp} {Q : VK} {E : XK} (hf : Tb.fn f = some (.body np m ss)) (hm : m = S.N.length) (hΓ : S.Γ = allF S.N)
    (hc : chkSs ss S [] body = some r) (hsp : spF (c.hide []) (wpCall Tb (n + 1)) f vs H Q E) (hO : ∀ A, OkA S X (fnC c Tb.sub (wpCall Tb n) S.N A H E)) :
    ∃ t, PSs X body t ∧ t { nx := fun _ H' => Q .non H', rt := Q } (L2.start S.N vs) H := by
  obtain ⟨A, st, ds, hs, hr, g⟩ := hsp
  unfold wpCall at g
  rw [hf] at g
  obtain ⟨hl, g⟩ := g
  have e : m - np = S.N.length - vs.length := by rw [hm, ← hl, hr.length]
  rw [e] at g
  refine ⟨_, chkSs_ok ss (hO A) hΓ.symm hc, A, _, st, _, start_rel (c := c.hide []) hr hs, g, ?_⟩
  · refine ⟨fun Γ _ l st' σ A' H' r' _ q => ?_, fun d st' v A' H' k s' hv q => q v A' H' k s' hv, fun _ _ _ _ _ _ _ q => q.elim, fun _ _ _ _ _ _ _ q => q.elim, fun x l st' q => q⟩
    exact q .non A' H' r'.old r'.sto .non
end Py
end

section
set_option Elab.async false
set_option linter.all false
set_option maxRecDepth 100000
set_option maxHeartbeats 2000000
set_option autoImplicit false
/-! Sim30: the frame of a def's body is as the checker takes it. -/
namespace Py
open PySem PySem.Spec L2 PyProof.Rows
/-- what is known of the row, of the defs below by what C says -/
structure Row (P : Program) (w : World) (K : PySem.W.Frag) (mg : Str → Option Value) (base : Heap) (c : RC) (C : CallS) (S : SC) (sub : Str → Str → Bool) (k : Nat) : Prop where
  eK : c.K = K
  ew : c.w = w
  mC : CMono C
  k7 : 7 ≤ k
  cs : ∀ x d, S.cs.lookup x = some d → ∃ u v, mg x = some u ∧ RelV v u ∧ ∀ c H, Rep c H v d
  bl : ∀ x ∈ bltN, mg x = none
  fs : ∀ f, S.hasF f = true → ∃ a fd ps, mg f = some (.ref a) ∧ c.mg f = some (.ref a) ∧ PySem.W.keepIn K (.ref a) = true ∧ L2.Binds K fd ps [] ∧ FnG P w K mg base (L2.CX P w) k a fd ps (spF (c.hide []) C f) ∧ (∃ oc od osl, K.lookup a = some ⟨oc, od, .func fd, osl⟩) ∧ fd.params.args.map (·.arg) = ps
  fv : ∀ f a, c.mg f = some (.ref a) → PySem.W.keepIn K (.ref a) = true ∧ ∀ ds st Q E, C f ds st Q E → S.hasF f = true
  xs : ∀ nm, S.hasX nm = true → ∃ C, mg nm = some (.ref C) ∧ c.xc nm C
  xa : ∀ nm C, c.xc nm C → AskC P K C
  gS : mg "super" = none
  hm : ∀ t, S.hasH t = true → ∃ Ct, mg t = some (.ref Ct) ∧ ∀ nm C, c.xc nm C → PySem.W.exmOne K (.ref C) (.ref Ct) = some (sub nm t)
  kw : ∀ q ∈ S.kw, S.hasF q.1 = true ∧ ∀ a oc od fd osl, mg q.1 = some (.ref a) → K.lookup a = some ⟨oc, od, .func fd, osl⟩ → ∀ (s : Shared) (ws : List Value), K.In s.heap → ws.length = q.2.1.length → BindsTo s fd ⟨[], q.2.1.zip ws⟩ ((fd.params.args.map (·.arg)).zip (pickG Value.none ws q.2.2))
section
variable {P : Program} {w : World} {K : PySem.W.Frag} {mg : Str → Option Value} {base : Heap} {c : RC} {C : CallS} {S : SC} {k : Nat} {sub : Str → Str → Bool} {ps : List Str} {qual : Str} {f : Addr} {cdv : Value} {A : Around} {outer : List Env} {s : Shared} {H : Hp} {E : XK} {A0 : List Addr}
theorem okA_of (R : Row P w K mg base c C S sub k) (FS : FnScope S.N ps S.sc) (hraw : S.raw = S.sc) (hin : S.inb = false) (hr : Room k (A.deeper (envOfC qual S.sc s.heap.objs.size f cdv))) (hgd : A.guards = some []) :
    OkA S (cxOf (L2.CX P w) P w K mg base S.N qual S.sc f cdv A outer s H E) (fnC c sub C S.N A0 H E) := by
  have tk : Takes (cxOf (L2.CX P w) P w K mg base S.N qual S.sc f cdv A outer s H E) (fun cls d _ H => E cls d H) := takes_of rfl rfl rfl rfl
  have key : ∀ cls d σ' H1, exA (fnC c sub C S.N A0 H E) cls d σ' H1 → E cls d H1 := by
    rintro cls d σ' H1 ⟨Γ, hB, x, l, st, A1, r, rx, ex⟩
    exact ex cls d A1 H1 r.old r.sto rx
  refine ⟨fun Γ => ?_, rfl, passes_of (K := fun e s'' => L2.CX P w outer H s E e s'') rfl, ?_, fun _ => tk.imp key, R.xs, R.gS, R.hm, rfl, rfl, rfl⟩
  rotate_left
  · have := hr.dp
    have := R.k7
    show (A.deeper _).depth + 5 < recursionLimit
    omega
  have fn : ∀ g, S.hasF g = true → ∃ a k fd ps, FnAt (cxOf (L2.CX P w) P w K mg base S.N qual S.sc f cdv A outer s H E) ((fnC c sub C S.N A0 H E).at Γ) g a k fd ps := fun g h => by
    obtain ⟨a, fd, ps, h1, h2, h3, h4, h5, _⟩ := R.fs g h
    exact ⟨a, k, fd, ps, ⟨h1, h2, h3, h4, h5, hr⟩⟩
  refine ⟨⟨R.eK, R.ew, R.mC, ⟨?_⟩⟩, rfl, FS.nd, rfl, rfl, fun _ => rfl, hgd, fun h => ?_, fun _ _ => rfl, fun x k _ h => ?_, R.cs, fn, fun g a h => ⟨(R.fv g a h).1, fun _ ds st Q E hc => ?_⟩, fun q hq => ?_, R.bl, fun _ σ => ?_, R.xa⟩
  · have := hr.un
    have := R.k7
    show (A.deeper _).units + 300 < cLine
    omega
  · have h' : S.inb = true := h
    rw [hin] at h'; cases h'
  · have h' : S.raw.names.lookup x = some k := h
    rw [hraw] at h'
    exact h'
  · obtain ⟨a', k', fd, ps, A1⟩ := fn g ((R.fv g a h).2 ds st Q E hc)
    have e : c.mg g = some (.ref a') := A1.bg
    have h' : c.mg g = some (.ref a) := h
    rw [h'] at e
    cases e
    exact ⟨k', fd, ps, A1⟩
  · obtain ⟨h1, h2⟩ := R.kw q hq
    obtain ⟨a, fd, ps, e1, e2, e3, e4, e5, ⟨oc, od, osl, e6⟩, rfl⟩ := R.fs q.1 h1
    exact ⟨a, k, fd, _, ⟨e1, e2, e3, e4, e5, hr⟩, ⟨h2 a oc od fd osl e1 e6⟩⟩
  · intro pins H' s' e s'' I hcx
    refine passes_call (E := exK ((fnC c sub C S.N A0 H E).at Γ) σ) tk (fun cls d σ' H1 hx => ?_) pins σ H' s' e s'' I hcx
    obtain ⟨x, l, st, A1, r, rx, ex⟩ := hx
    exact ex cls d A1 H1 r.old r.sto rx
end
end Py
end

section
set_option Elab.async false
set_option linter.all false
set_option maxRecDepth 100000
set_option maxHeartbeats 2000000
set_option autoImplicit false
/-! Sim31: all defs keep what the meaning says, by induction on the fuel. -/
namespace Py
open PySem PySem.Spec L2 PyProof.Rows
/-- a def of the row and its checked syntax -/
structure FnSt (P : Program) (w : World) (K : PySem.W.Frag) (c : RC) (mg : Str → Option Value) (Tb : Tab) (S : SC) (f : Str) (a : Addr) (fd : FuncData) (ps : List Str) : Prop where
  mg : mg f = some (.ref a)
  bg : c.mg f = some (.ref a)
  kp : PySem.W.keepIn K (.ref a) = true
  bi : L2.Binds K fd ps []
  ex : ∃ (name qual : Str) (params : Arguments) (body : List Stmt) (dV kV doc pm cdv ct oc : Value) (an od : Option Addr) (osl : Array (Option Value)) (ss : Sms) (r : Option (List Md)),
    fd = PySem.W.fnOf name qual params body S.sc dV kV doc pm an cdv ct ∧ K.lookup a = some ⟨oc, od, .func fd, osl⟩ ∧ PySem.W.codeIn K cdv qual = true ∧ Tb.fn f = some (.body ps.length S.N.length ss) ∧ chkSs ss S [] body = some r
  pa : fd.params.args.map (·.arg) = ps
  sc : FnScope S.N ps S.sc
  raw : S.raw = S.sc
  inb : S.inb = false
  Γ : S.Γ = allF S.N
section
variable {P : Program} {w : World} {K : PySem.W.Frag} {mg : Str → Option Value} {base : Heap} {c : RC} {Tb : Tab} {S : SC} {f : Str} {a : Addr} {fd : FuncData} {ps : List Str}
theorem FnSt.lk (X : FnSt P w K c mg Tb S f a fd ps) : ∃ oc od osl, K.lookup a = some ⟨oc, od, .func fd, osl⟩ := by
  obtain ⟨_, _, _, _, _, _, _, _, _, _, oc, _, od, osl, _, _, _, lk, _⟩ := X.ex
  exact ⟨oc, od, osl, lk⟩
theorem fn_zero (X : FnSt P w K c mg Tb S f a fd ps) (k : Nat) : FnG P w K mg base (L2.CX P w) k a fd ps (spF (c.hide []) (wpCall Tb 0) f) :=
  ⟨fun vs H Q E h => by obtain ⟨A, st, ds, _, _, z⟩ := h; exact z.elim, fun A outer s H args us vs Q E _ _ _ _ _ h => by obtain ⟨A, st, ds, _, _, z⟩ := h; exact z.elim⟩
theorem fn_succ (X : FnSt P w K c mg Tb S f a fd ps) {n k : Nat} (R : Row P w K mg base c (wpCall Tb n) S Tb.sub k) : FnG P w K mg base (L2.CX P w) (k + 1) a fd ps (spF (c.hide []) (wpCall Tb (n + 1)) f) := by
  obtain ⟨name, qual, params, body, dV, kV, doc, pm, cdv, ct, oc, an, od, osl, ss, r, rfl, lk, hcd, hfn, hch⟩ := X.ex
  refine fnG_of (N := S.N) lk hcd X.sc (fun vs H Q E h => ?_) fun A outer s H vs Q E hr hgd hsp => ?_
  · obtain ⟨A, st, ds, _, hv, g⟩ := h
    unfold wpCall at g
    rw [hfn] at g
    rw [hv.length]
    exact g.1
  · exact body_ok hfn rfl X.Γ hch hsp fun A0 => okA_of R X.sc X.raw X.inb hr hgd
/-- a def that is known by its promise -/
structure FnKn (P : Program) (w : World) (K : PySem.W.Frag) (mg : Str → Option Value) (base : Heap) (c : RC) (C : CallS) (k : Nat) (f : Str) (a : Addr) (fd : FuncData) (ps : List Str) : Prop where
  gm : mg f = some (.ref a)
  bg : c.mg f = some (.ref a)
  kp : PySem.W.keepIn K (.ref a) = true
  bi : L2.Binds K fd ps []
  fn : FnG P w K mg base (L2.CX P w) k a fd ps (spF (c.hide []) C f)
  lk : ∃ oc od osl, K.lookup a = some ⟨oc, od, .func fd, osl⟩
  pa : fd.params.args.map (·.arg) = ps
/-- all of a row -/
structure Rows (P : Program) (w : World) (K : PySem.W.Frag) (mg : Str → Option Value) (base : Heap) (c : RC) (Tb : Tab) (fsL : List Str) (csL : List (Str × D)) (kwL : List (Str × List Str × List Nat)) (xsL hsL : List Str) : Prop where
  eK : c.K = K
  ew : c.w = w
  cs : ∀ x d, csL.lookup x = some d → ∃ u v, mg x = some u ∧ RelV v u ∧ ∀ c H, Rep c H v d
  bl : ∀ x ∈ bltN, mg x = none
  st : ∀ f ∈ fsL, ∃ S a fd ps, FnSt P w K c mg Tb S f a fd ps ∧ S.fs = fsL ∧ S.cs = csL ∧ S.kw = kwL ∧ S.xs = xsL ∧ S.hs = hsL
  xs : ∀ nm ∈ xsL, ∃ C, mg nm = some (.ref C) ∧ c.xc nm C
  xa : ∀ nm C, c.xc nm C → AskC P K C
  gS : mg "super" = none
  hm : ∀ t ∈ hsL, ∃ Ct, mg t = some (.ref Ct) ∧ ∀ nm C, c.xc nm C → PySem.W.exmOne K (.ref C) (.ref Ct) = some (Tb.sub nm t)
  fv : ∀ f a, c.mg f = some (.ref a) → PySem.W.keepIn K (.ref a) = true ∧ ∀ n ds st Q E, wpCall Tb n f ds st Q E → f ∈ fsL
  kw : ∀ q ∈ kwL, q.1 ∈ fsL ∧ ∀ a oc od fd osl, mg q.1 = some (.ref a) → K.lookup a = some ⟨oc, od, .func fd, osl⟩ → ∀ (s : Shared) (ws : List Value), K.In s.heap → ws.length = q.2.1.length → BindsTo s fd ⟨[], q.2.1.zip ws⟩ ((fd.params.args.map (·.arg)).zip (pickG Value.none ws q.2.2))
theorem all_fns {fsL : List Str} {csL : List (Str × D)} {kwL : List (Str × List Str × List Nat)} {xsL hsL : List Str} (R : Rows P w K mg base c Tb fsL csL kwL xsL hsL) : ∀ n f, f ∈ fsL → ∃ a fd ps, FnKn P w K mg base c (wpCall Tb n) (n + 10) f a fd ps := by
  intro n
  induction n with
  | zero =>
    intro f hf
    obtain ⟨S, a, fd, ps, X, _⟩ := R.st f hf
    exact ⟨a, fd, ps, X.mg, X.bg, X.kp, X.bi, fn_zero X _, X.lk, X.pa⟩
  | succ n ih =>
    intro f hf
    obtain ⟨S, a, fd, ps, X, e1, e2, e3, e4, e5⟩ := R.st f hf
    · have has : ∀ g, S.hasF g = true ↔ g ∈ fsL := fun g => by
        unfold SC.hasF
        rw [e1]
        simp
      have R' : Row P w K mg base c (wpCall Tb n) S Tb.sub (n + 10) := by
        refine ⟨R.eK, R.ew, wpCall_mono Tb n, by omega, by rw [e2]; exact R.cs, R.bl, fun g hg => ?_, fun g a h => ⟨(R.fv g a h).1, fun ds st Q E hc => (has g).mpr ((R.fv g a h).2 n ds st Q E hc)⟩, fun nm h => R.xs nm (by unfold SC.hasX at h; rw [e4] at h; simpa using h), R.xa, R.gS, fun t h => R.hm t (by unfold SC.hasH at h; rw [e5] at h; simpa using h), fun q hq => ?_⟩
        · obtain ⟨a, fd, ps, Y⟩ := ih g ((has g).mp hg)
          exact ⟨a, fd, ps, Y.gm, Y.bg, Y.kp, Y.bi, Y.fn, Y.lk, Y.pa⟩
        · rw [e3] at hq
          obtain ⟨h1, h2⟩ := R.kw q hq
          exact ⟨(has _).mpr h1, h2⟩
      exact ⟨a, fd, ps, X.mg, X.bg, X.kp, X.bi, fn_succ X R', X.lk, X.pa⟩
end
end Py
end

section
set_option Elab.async false
set_option linter.all false
set_option maxRecDepth 100000
set_option maxHeartbeats 2000000
set_option autoImplicit false
/-! Sim32: what is looked at behind the top; the head of a law. -/
namespace Py
open PySem PySem.Spec L2 PyProof.Rows
open PySem.W (Frag)
/-! ### the part of the heap that is told: no lists -/
def isLst (o : Obj) : Bool := match o with
  | ⟨.type t, _, .seq _ _, _⟩ => decide (t = "list")
  | _ => false
def frL (g : Addr → Option Obj) (as : List Addr) : Frag := (He.frG g as).filter fun q => !isLst q.2
theorem frL_mem {g : Addr → Option Obj} {as : List Addr} {a : Addr} {o : Obj} (h : (frL g as).lookup a = some o) : g a = some o ∧ isLst o = false := by
  obtain ⟨h1, h2⟩ := List.mem_filter.mp (He.lookup_mem h)
  exact ⟨He.frG_mem h1, by
    cases q : isLst o with
    | false => rfl
    | true =>
      have h3 : (!isLst o) = true := h2
      rw [q] at h3
      cases h3⟩
theorem frL_in {as : List Addr} {h : Heap} : (frL h.get? as).In h := fun _ _ e => (frL_mem e).1
/-- what is reached -/
def asA (g : Addr → Option Obj) : Nat → List Addr
  | 0 => [mainGlobals, cStatics]
  | n + 1 => He.growD g (asA g n)
/-! ### a class of errors -/
def askClsB (K : Frag) (C : Addr) : Bool := match K.lookup C with
  | some ⟨.type "type", _, .cls cd, sl⟩ => (match cd.mro, sl.toList with
    | .ref C' :: bm, [_, _, _, _, some (.builtin n), _] => C' == C && n == "ValueError.__new__" && !cd.hasDel && cd.hasDict && PySem.HandSPX.refsVE bm
    | _, _ => false)
  | _ => false
theorem askCls_ok {K : Frag} {C : Addr} (q : askClsB K C = true) : ∃ nm q N bs bm sn sub ab col dd k0 k1 k2 k3 k5, K.lookup C = some (excClassObj nm q C N bs bm true sn sub ab col dd k0 k1 k2 k3 k5 "ValueError.__new__") ∧ PySem.HandSPX.refsVE bm = true := by
  unfold askClsB at q
  split at q
  · rename_i dd cd sl ho
    split at q
    · rename_i C' bm k0 k1 k2 k3 n k5 hm hs
      simp only [Bool.and_eq_true, beq_iff_eq, Bool.not_eq_true'] at q
      obtain ⟨⟨⟨⟨rfl, rfl⟩, hdel⟩, hdd⟩, ht⟩ := q
      obtain ⟨nm, bs, mro, ns, qn, hd, sn, sub, ab, col, del⟩ := cd
      dsimp only at hm hdel hdd
      subst hm hdel hdd
      have hsl : sl = #[k0, k1, k2, k3, some (.builtin "ValueError.__new__"), k5] := by
        obtain ⟨l⟩ := sl
        simp only at hs
        rw [hs]
      subst hsl
      exact ⟨nm, qn, ns, bs, bm, sn, sub, ab, col, dd, k0, k1, k2, k3, k5, ho, ht⟩
    · cases q
  · cases q
/-- where the base's __init__ stands -/
def iniAt (K : Frag) (base : Str) : Addr := He.ma K (He.ga K base) "__init__"
abbrev IniV : Type := Option (Str × Str × Arguments × FuncBody × Scope × Addr × Bool × Addr)
def isNonV : Value → Bool
  | .none => true
  | _ => false
def clOne : List (Str × Addr) → Bool
  | [(n, _)] => n == ("__class__" : Str)
  | _ => false
def iniW (K : Frag) (base : Str) : IniV := match K.lookup (iniAt K base) with
  | some ⟨_, _, .func fd, _⟩ => some (fd.name, fd.qualname, fd.params, fd.body, fd.scope, fd.globals, clOne fd.closure && isNonV fd.defaults && isNonV fd.kwdefaults, fd.builtins)
  | _ => none
def iniVal (base : Str) (t : Str) : IniV := some ("__init__", base ++ ".__init__", qA ⟨4, 17, 4, 21⟩ ⟨4, 23, 4, 28⟩, .stmts (qB t ⟨5, 8, 5, 13⟩ ⟨5, 8, 5, 15⟩ ⟨5, 25, 5, 39⟩ ⟨5, 8, 5, 40⟩ ⟨6, 8, 6, 12⟩ ⟨6, 8, 6, 18⟩ ⟨6, 21, 6, 26⟩ ⟨6, 8, 6, 26⟩), qS, mainGlobals, true, builtinsNs)
def iniB (prog : Program) (K : Frag) (base : Str) (C : Addr) : Bool :=
  He.eqO (PySem.W.findIn K (.ref C) "__init__") (some (some (.ref (iniAt K base)))) && decide (PySem.W.typeIn K (.ref (iniAt K base)) = some (.type "function")) && (match K.lookup (iniAt K base) with
    | some ⟨_, _, .func fd, _⟩ => (match fd.closure, fd.code with
      | [(_, cc)], .ref cda => PySem.W.codeIn K (.ref cda) fd.qualname && (match K.lookup cc with
        | some ⟨_, _, .cell (some (.ref D)), _⟩ => He.eqO (PySem.W.ks_superIn K C D "__init__") (some (some (.builtin "ValueError.__init__"))) && (PySem.W.clsIn K D).isSome && decide (PySem.W.mroIn K C (.ref D) = some true)
        | _ => false) && (match K.lookup cda with
        | some ⟨_, _, .fields vs, _⟩ => (match vs[2]? with
          | some (Value.str file _) => (prog.main.file : Str) == file
          | _ => false)
        | _ => false)
      | _, _ => false)
    | _ => false)
def askB (prog : Program) (K : Frag) (base : Str) (C : Addr) : Bool :=
  askClsB K C && He.eqO (PySem.W.findIn K (.ref C) "__setattr__") (some (some (.builtin "object.__setattr__"))) && He.eqO (PySem.W.findIn K (.ref C) "__getattribute__") (some (some (.builtin "BaseException.__getattribute__"))) && He.eqO (PySem.W.findIn K (.ref C) "__getattr__") (some none) && He.eqO (PySem.W.findIn K (.ref C) "value") (some none) &&
  PySem.W.keepIn K (.ref C) && decide (PySem.W.subIn K (.ref C) (.type "BaseException") = some true) && decide (PySem.W.typeIn K (.ref C) = some (.type "type")) && PySem.W.hasDictIn K C && decide (PySem.W.subIn K (.ref C) (.type "ValueError") = some true) && He.eqO (PySem.W.nsIn K cStatics "thirdparty.any") (some none) && He.eqO (PySem.W.nsIn K mainGlobals "super") (some none) &&
  !(prog.main.scope.names.lookup ("super" : Str)).isSome && iniB prog K base C
theorem ask_ok {prog : Program} {K : Frag} {base t : Str} {C : Addr} (hi : iniW K base = iniVal base t) (h : askB prog K base C = true) : AskC prog K C := by
  unfold askB at h
  simp only [Bool.and_eq_true, decide_eq_true_eq, Bool.not_eq_true'] at h
  obtain ⟨⟨⟨⟨⟨⟨⟨⟨⟨⟨⟨⟨⟨h1, h2⟩, h3⟩, h4⟩, h5⟩, h6⟩, h7⟩, h8⟩, h9⟩, h10⟩, h11⟩, h12⟩, h13⟩, h14⟩ := h
  refine ⟨askCls_ok h1, He.eqO_ok h2, He.eqO_ok h3, He.eqO_ok h4, He.eqO_ok h5, h6, h7, h8, h9, h10, He.eqO_ok h11, He.eqO_ok h12, h13, ?_⟩
  unfold iniB at h14
  simp only [Bool.and_eq_true, decide_eq_true_eq] at h14
  obtain ⟨⟨i1, i2⟩, i3⟩ := h14
  unfold iniW at hi
  split at i3
  · rename_i oc od fd osl lk
    rw [lk] at hi
    split at i3
    · rename_i nmc cc cda hcl hcd
      simp only [Bool.and_eq_true] at i3
      obtain ⟨⟨i4, i5⟩, i6⟩ := i3
      split at i5
      · rename_i cl cld D csl lcc
        simp only [Bool.and_eq_true, decide_eq_true_eq] at i5
        obtain ⟨⟨j1, j2⟩, j3⟩ := i5
        split at i6
        · rename_i ccl cdd vs ccs lcda
          split at i6
          · rename_i file tf hvs
            obtain ⟨cdD, hD⟩ := Option.isSome_iff_exists.mp j2
            obtain ⟨n1, n2, n3, n4, n5, n6, n7, n8, n9, n10, n11, n12, n13, n14, n15⟩ := fd
            dsimp only at hcl hcd i4 hi
            subst hcl hcd
            unfold iniVal at hi
            simp only [Option.some.injEq, Prod.mk.injEq, Bool.and_eq_true] at hi
            obtain ⟨e1, e2, e3, e4, e5, e6, ⟨⟨e7, e8⟩, e9⟩, e10⟩ := hi
            have e7 : nmc = ("__class__" : Str) := eq_of_beq e7
            have e8 : n8 = .none := by cases n8 <;> first | rfl | cases e8
            have e9 : n9 = .none := by cases n9 <;> first | rfl | cases e9
            subst e1 e2 e3 e4 e5 e6 e7 e8 e9 e10
            exact ⟨iniAt K base, D, cc, cda, cdD, vs, file, tf, ccl, cl, cdd, cld, ccs, csl, He.eqO_ok i1, i2, He.eqO_ok j1, hD, j3, lcc, lcda, hvs, i6, oc, od, n10, n11, n12, n14, osl, _, _, _, _, _, _, _, _, _, _, _, _, lk, i4⟩
          · cases i6
        · cases i6
      · cases i5
    · cases i3
  · cases i3
/-! ### a law's table -/
/-- a def: its name, its place in the top, its parameters, its names, its syntax -/
structure DefX where
  name : Str
  at_ : Nat
  ps : List Str
  N : List Str
  ss : Sms
def topA (p : Program) (i : Nat) : Stmt := p.main.body.getD i (.Pass ⟨0, 0, 0, 0⟩)
def DefX.d (p : Program) (d : DefX) : He.DefD := ⟨(d.name, none), d.name, d.name, defArgs (topA p d.at_), defBody (topA p d.at_), defScope (topA p d.at_), [], []⟩
structure LawX where
  tabl : List DefX
  cs : List (Str × D)
  kw : List (Str × List Str × List Nat)
  cl : List Str
  xs : List Str
  hs : List Str
  sub : Str → Str → Bool
  base : Str
  text : Str
def LawX.fs (L : LawX) : List Str := L.tabl.map (·.name)
def LawX.S (L : LawX) (p : Program) (d : DefX) : SC :=
  { N := d.N, sc := defScope (topA p d.at_), raw := defScope (topA p d.at_), Γ := allF d.N, inb := false, calm := true, cs := L.cs, fs := L.fs, kw := L.kw, xs := L.xs, hs := L.hs }
def LawX.Tb (L : LawX) : Tab := ⟨fun f => (L.tabl.find? fun d => decide (d.name = f)).map fun d => .body d.ps.length d.N.length d.ss, L.sub⟩
def scopeB (N ps : List Str) (sc : Scope) : Bool :=
  decide (sc.kind = .function) && !sc.isCoroutine && !sc.isGenerator && decide N.Nodup && decide (N.take ps.length = ps) && (ps.all fun x => decide (sc.names.lookup x = some .local) || decide (sc.names.lookup x = some .cell)) && sc.names.all fun y => decide (y.2 ≠ .free)
theorem scope_ok {N ps : List Str} {sc : Scope} (h : scopeB N ps sc = true) : FnScope N ps sc := by
  unfold scopeB at h
  simp only [Bool.and_eq_true, decide_eq_true_eq, Bool.not_eq_true', List.all_eq_true, Bool.or_eq_true] at h
  obtain ⟨⟨⟨⟨⟨⟨h1, h2⟩, h3⟩, h4⟩, h5⟩, h6⟩, h7⟩ := h
  exact ⟨h1, h2, h3, h4, h5, h6, h7⟩
def LawX.okD (L : LawX) (p : Program) (d : DefX) : Bool := (chkSs d.ss (L.S p d) [] (defBody (topA p d.at_))).isSome && scopeB d.N d.ps (defScope (topA p d.at_)) && decide ((defArgs (topA p d.at_)).args.map (·.arg) = d.ps)
def LawX.ok (L : LawX) (p : Program) : Bool := decide L.fs.Nodup && L.tabl.all (L.okD p) && L.kw.all (fun q => L.fs.any fun f => decide (f = q.1)) && L.xs.all (fun x => L.cl.any fun c => decide (c = x)) && L.hs.all (fun x => L.cl.any fun c => decide (c = x))
/-- what is looked at of the constants, the classes -/
def csB (K : Frag) (q : Str × D) : Bool := match q.2 with
  | .int i => (He.Fa.int q.1 i).ok K
  | .str z => (He.Fa.str q.1 z).ok K
  | _ => false
def LawX.exB (L : LawX) (p : Program) (K : Frag) : Bool :=
  (L.tabl.all fun d => (He.Fa.glo d.name).ok K) && (bltN.all fun x => (He.Fa.free x).ok K) && L.cs.all (csB K) && (He.Fa.free "super").ok K && (L.cl.all fun c => (He.Fa.glo c).ok K && askB p K L.base (He.ga K c)) &&
    L.cl.all fun c => L.hs.all fun t => decide (PySem.W.exmOne K (.ref (He.ga K c)) (.ref (He.ga K t)) = some (L.sub c t))
/-! ### the hook -/
abbrev AlL : Type := He.AlD × Bool × IniV
def LawX.fn (L : LawX) (p : Program) : List He.DefD := L.tabl.map (DefX.d p)
def LawX.obsK (L : LawX) (p : Program) (K : Frag) : AlL := (He.obsD [] (L.fn p) K, L.exB p K, iniW K L.base)
def LawX.val (L : LawX) (p : Program) : AlL := (He.valD (L.fn p), true, iniVal L.base L.text)
def LawX.obsG (L : LawX) (p : Program) (n : Nat) (g : Addr → Option Obj) : AlL := L.obsK p (frL g (asA g n))
/-- what is told of a part of the heap -/
structure Told (L : LawX) (p : Program) (K : Frag) : Prop where
  obs : L.obsK p K = L.val p
  nol : ∀ a o, K.lookup a = some o → isLst o = false
def LawX.hook (L : LawX) (p : Program) (n : Nat) : PySem.W.Hook where
  α := AlL
  obs := fun s => L.obsG p n s.heap.get?
  val := fun _ => L.val p
  says := fun _ h => ∃ K : Frag, K.In h ∧ Told L p K
  of := fun _ _ e => ⟨_, frL_in, e, fun _ _ q => (frL_mem q).2⟩
  keeps := fun _ _ _ ⟨K, hK, c⟩ k => ⟨K, PySem.W.Frag.In.keeps hK k, c⟩
theorem LawX.obs_eq {L : LawX} {p : Program} {n : Nat} {g : Addr → Option Obj} {s : Shared} (h : ∀ a, g a = s.heap.get? a) : L.obsG p n g = (L.hook p n).obs s := by
  have e : g = s.heap.get? := funext h
  rw [e] <;> rfl
/-- how arguments are bound: to be shown def by def -/
def BindB (p : Program) (d : DefX) : Prop := ∀ (kV doc pm : Value) (an : Option Addr) (cdv ct : Value) (us : List Value), us.length = d.ps.length →
  bindArgs (PySem.W.fnOf d.name d.name (defArgs (topA p d.at_)) (defBody (topA p d.at_)) (defScope (topA p d.at_)) .none kV doc pm an cdv ct) ⟨us, []⟩ = pure (d.ps.zip us)
def BindK (p : Program) (d : DefX) (ks : List Str) (pm : List Nat) : Prop := ∀ (kV doc pmv : Value) (an : Option Addr) (cdv ct : Value) (ws : List Value), ws.length = ks.length →
  bindArgs (PySem.W.fnOf d.name d.name (defArgs (topA p d.at_)) (defBody (topA p d.at_)) (defScope (topA p d.at_)) .none kV doc pmv an cdv ct) ⟨[], ks.zip ws⟩ = pure (d.ps.zip (pickG Value.none ws pm))
section
variable {L : LawX} {p : Program} {w : World} {K : Frag} {h : Heap} {mg : Str → Option Value} {base : Heap}
/-- what is fixed through the run -/
def LawX.rc (L : LawX) (w : World) (K : Frag) (mg : Str → Option Value) : RC := { K := K, w := w, mg := fun f => if f ∈ L.fs then mg f else none, A := [], hid := [], xc := fun nm C => nm ∈ L.cl ∧ mg nm = some (.ref C) }
theorem find_nodup {d : DefX} : ∀ {l : List DefX}, (l.map (·.name)).Nodup → d ∈ l → l.find? (fun e => decide (e.name = d.name)) = some d
  | [], _, h => by cases h
  | e :: l, hn, h => by
    rw [List.map_cons, List.nodup_cons] at hn
    rw [List.find?_cons]
    rcases List.mem_cons.mp h with rfl | h
    · simp
    · have ne : e.name ≠ d.name := fun z => hn.1 (by rw [z]; exact List.mem_map_of_mem h)
      simp only [ne, decide_false]
      exact find_nodup hn.2 h
theorem Told.def_ (T : Told L p K) {d : DefX} (hd : d ∈ L.tabl) : ∃ fd, FunD K d.name d.name (defArgs (topA p d.at_)) (defBody (topA p d.at_)) (defScope (topA p d.at_)) [] [] (He.ga K d.name) fd := by
  have c : He.SaysD [] (L.fn p) K := congrArg (fun z : AlL => z.1) T.obs
  obtain ⟨fd, F⟩ := c.defs (d := DefX.d p d) (List.mem_map_of_mem hd)
  exact ⟨fd, F⟩
theorem Told.ex (T : Told L p K) : L.exB p K = true := congrArg (fun z : AlL => z.2.1) T.obs
theorem Told.ini (T : Told L p K) : iniW K L.base = iniVal L.base L.text := congrArg (fun z : AlL => z.2.2) T.obs
theorem rows_of (T : Told L p K) (hL : L.ok p = true) (hb : ∀ d ∈ L.tabl, BindB p d) (hk : ∀ q ∈ L.kw, ∀ d ∈ L.tabl, d.name = q.1 → BindK p d q.2.1 q.2.2) (X : K.In h) (G : h.Ns mainGlobals mg) :
    Rows p w K mg base (L.rc w K mg) L.Tb L.fs L.cs L.kw L.xs L.hs := by
  have ex := T.ex
  unfold LawX.exB at ex
  simp only [Bool.and_eq_true, List.all_eq_true, decide_eq_true_eq] at ex
  obtain ⟨⟨⟨⟨⟨x1, x2⟩, x3⟩, x4⟩, x5⟩, x6⟩ := ex
  unfold LawX.ok at hL
  simp only [Bool.and_eq_true, List.all_eq_true, decide_eq_true_eq, List.any_eq_true] at hL
  obtain ⟨⟨⟨⟨l1, l2⟩, l3⟩, l4⟩, l5⟩ := hL
  have glo : ∀ d ∈ L.tabl, mg d.name = some (.ref (He.ga K d.name)) := fun d hd => He.glo_ok X G (x1 d hd)
  have inFs : ∀ f, f ∈ L.fs → ∃ d ∈ L.tabl, d.name = f := fun f hf => by
    obtain ⟨d, hd, e⟩ := List.mem_map.mp hf
    exact ⟨d, hd, e⟩
  have clm : ∀ c ∈ L.cl, mg c = some (.ref (He.ga K c)) ∧ AskC p K (He.ga K c) := fun c hc => ⟨He.glo_ok X G (x5 c hc).1, ask_ok T.ini (x5 c hc).2⟩
  refine ⟨rfl, rfl, fun x d e => ?_, fun x hx => He.free_ok X G (x2 x hx), fun f hf => ?_, fun nm hn => ?_, fun nm C hc => ?_, He.free_ok X G x4, fun t ht => ?_, fun f a e => ?_, fun q hq => ?_⟩
  · have hm : (x, d) ∈ L.cs := by
      revert e
      induction L.cs with
      | nil => intro e; cases e
      | cons q r ih =>
        intro e
        obtain ⟨y, z⟩ := q
        have e2 : (match x == y with | true => some z | false => r.lookup x) = some d := e
        cases hq : x == y with
        | true =>
          rw [hq] at e2
          cases e2
          rw [beq_iff_eq.mp hq]
          exact List.mem_cons_self
        | false =>
          rw [hq] at e2
          exact List.mem_cons_of_mem _ (ih e2)
    have := x3 _ hm
    unfold csB at this
    split at this
    · rename_i i hd
      obtain ⟨t, ht⟩ := He.int_ok X G this
      have hd : d = .int i := hd
      subst hd
      exact ⟨_, .int i, ht, ⟨t, rfl⟩, fun _ _ => .int i⟩
    · rename_i z hd
      obtain ⟨t, ht⟩ := He.str_ok X G this
      have hd : d = .str z := hd
      subst hd
      exact ⟨_, .str z, ht, ⟨t, rfl⟩, fun _ _ => .str z⟩
    · cases this
  · obtain ⟨d, hd, rfl⟩ := inFs f hf
    obtain ⟨fd, F⟩ := T.def_ hd
    obtain ⟨oc, od, dV, kV, doc, pm, an, cdv, ct, osl, e1, e2, e3, e4, e5⟩ := F.ex
    have okd := l2 d hd
    unfold LawX.okD at okd
    simp only [Bool.and_eq_true, decide_eq_true_eq] at okd
    obtain ⟨⟨o1, o2⟩, o3⟩ := okd
    obtain ⟨r, hr⟩ := Option.isSome_iff_exists.mp o1
    refine ⟨L.S p d, He.ga K d.name, fd, d.ps, ⟨glo d hd, ?_, F.kp, ?_, ?_, ?_, scope_ok o2, rfl, rfl, rfl⟩, rfl, rfl, rfl, rfl, rfl⟩
    · show (if d.name ∈ L.fs then mg d.name else none) = _
      rw [if_pos hf]; exact glo d hd
    · exact F.bindsN (hb d hd)
    · refine ⟨d.name, d.name, _, _, dV, kV, doc, pm, cdv, ct, oc, an, od, osl, d.ss, r, e1, e2, e3, ?_, hr⟩
      show (L.tabl.find? _).map _ = _
      rw [find_nodup l1 hd]
      rfl
    · rw [e1]; exact o3
  · obtain ⟨c, hc, rfl⟩ := l4 nm hn
    exact ⟨_, (clm c hc).1, hc, (clm c hc).1⟩
  · obtain ⟨h1, h2⟩ := hc
    obtain ⟨g1, g2⟩ := clm nm h1
    rw [h2] at g1
    cases g1
    exact g2
  · obtain ⟨c, hc, rfl⟩ := l5 t ht
    refine ⟨_, (clm c hc).1, fun nm C hC => ?_⟩
    obtain ⟨h1, h2⟩ := hC
    have g1 := (clm nm h1).1
    rw [h2] at g1
    cases g1
    exact x6 nm h1 c ht
  · have e : (if f ∈ L.fs then mg f else none) = some (.ref a) := e
    split at e
    · rename_i hf
      obtain ⟨d, hd, rfl⟩ := inFs f hf
      rw [glo d hd] at e
      cases e
      obtain ⟨fd, F⟩ := T.def_ hd
      exact ⟨F.kp, fun _ _ _ _ _ _ => hf⟩
    · cases e
  · obtain ⟨f, hf, rfl⟩ := l3 q hq
    refine ⟨hf, fun a oc od fd osl m lk s ws _ hl => ?_⟩
    obtain ⟨d, hd, e⟩ := inFs q.1 hf
    obtain ⟨fd', F⟩ := T.def_ hd
    obtain ⟨oc', od', dV, kV, doc, pm, an, cdv, ct, osl', e1, e2, e3, e4, e5⟩ := F.ex
    rw [← e, glo d hd] at m
    cases m
    rw [e2] at lk
    cases lk
    have hdV : dV = .none := by
      rcases e4 with ⟨_, z⟩ | ⟨z, _⟩
      · exact z
      · exact absurd rfl z
    subst hdV
    have okd := l2 d hd
    unfold LawX.okD at okd
    simp only [Bool.and_eq_true, decide_eq_true_eq] at okd
    rw [e1]
    show BindsTo s _ _ (((defArgs (topA p d.at_)).args.map (·.arg)).zip _)
    rw [okd.2]
    exact .of_eq (hk q hq d hd e kV doc pm an cdv ct ws hl)
end
end Py
end

section
set_option Elab.async false
set_option linter.all false
set_option maxRecDepth 100000
set_option maxHeartbeats 2000000
set_option autoImplicit false
/-! Sim33: a law, from what its meaning says. -/
namespace Py
open PySem PySem.Spec L2 PyProof.Rows
open PySem.W (Frag)
/-- the script alone is tracked, known to the object -/
def scriptH (a : Addr) (o : Obj) (ns : List Int) : Hp := fun b => if b = a then some (.frz o (.lst (ns.map V.int))) else none
theorem reps_script {c : RC} {H : Hp} : ∀ ns : List Int, Reps c H (ns.map V.int) (ns.map D.int)
  | [] => .nil
  | n :: ns => .cons (.int n) (reps_script ns)
theorem walk_law {l : PySem.W.OpenLaw} {q : Program} {loose : List Str} {XP : (Str → Option Value) → Heap → Prop} {dr : DefRec} {L : LawX} {n j : Nat} (hm : l.most = some 63) (hdf : dr.params.defaults = []) (hnm : dr.name = ("law" : Str))
    (hL : L.ok l.prog = true) (hb : ∀ d ∈ L.tabl, BindB l.prog d) (hk : ∀ q ∈ L.kw, ∀ d ∈ L.tabl, d.name = q.1 → BindK l.prog d q.2.1 q.2.2) (hlaw : (L.fs.any fun f => decide (f = "law")) = true) (hr : n ≤ 200)
    (math : ∀ ns : List Int, ns.length ≤ 63 → wpCall L.Tb n "law" [.lst (ns.map D.int)] ⟨[]⟩ (fun d _ => d = .bool true) (fun _ _ => False)) :
    PySem.W.WalkO q loose XP (L.hook l.prog j).says l.row.toRowW dr [] (fun f vs => PySem.call f vs) := by
  refine Att.attach_call hm hdf fun w s₀ s₁ mg mb fa o pm cd doc a vs ns G Y ho hd hcd hmg hobj hints hlen hg => ?_
  obtain ⟨K, KX, T⟩ := Y
  have hKa : K.lookup a = none := by
    cases e : K.lookup a with
    | none => rfl
    | some u =>
      have h1 := T.nol a u e
      have h2 := KX a u e
      rw [hobj] at h2
      cases h2
      cases h1
  have hlaw' : ("law" : Str) ∈ L.fs := by
    obtain ⟨f, hf, e⟩ := List.any_eq_true.mp hlaw
    rw [← of_decide_eq_true e]; exact hf
  let ob : Obj := { cls := .type "list", data := .seq vs.toArray }
  let H : Hp := scriptH a ob ns
  have Ha : H a = some (.frz ob (.lst (ns.map V.int))) := if_pos rfl
  have Hn : ∀ b, b ≠ a → H b = none := fun b hb => if_neg hb
  have hok : HOk l.prog w H s₁.heap := fun b u e => by
    by_cases hb : b = a
    · subst hb
      rw [Ha] at e
      cases e
      exact ⟨hobj, by rw [List.length_map, sizeLine_eq]; omega, vs, _, vals_ints hints, hobj⟩
    · rw [Hn b hb] at e
      cases e
  have out : ∀ {b : Addr} {u : Obj}, s₁.heap.get? b = some u → b ≠ a → (hidT s₁.heap H).get? b = some u := fun e n => hidT_get e (Hn _ n)
  have nsK : ∀ {b : Addr} {m : Str → Option Value}, s₁.heap.Ns b m → (hidT s₁.heap H).Ns b m := fun {b m} ⟨u, es, ep, e, d, r⟩ => ⟨u, es, ep, out e (fun z => by
    rw [z, hobj] at e
    cases e
    cases d), d, r⟩
  have hKb : K.In (hidT s₁.heap H) := fun b u e => out (KX b u e) fun z => by
    rw [z, hKa] at e
    cases e
  have hM : Mod K mg (hidT s₁.heap H) := ⟨hKb, nsK G.T.g, ⟨mb, nsK G.T.b, G.T.builtins⟩, let ⟨mc, h1, h2⟩ := G.T.nolimit; ⟨mc, nsK h1, h2⟩⟩
  have e0 : Env0 l.prog w K mg (hidT s₁.heap H) callerA [] s₁ H := ⟨rfl, hM, fun b u e => of_hidT e, Nat.le_of_eq (hidT_size _ _), trivial, fun b hb => (by cases hb), hok, .of_eq hg⟩
  have R := rows_of (base := hidT s₁.heap H) (w := w) T hL hb hk KX G.T.g
  obtain ⟨a', fd, ps, Z⟩ := all_fns R n "law" hlaw'
  have ea : a' = fa := by
    have := Z.gm
    rw [← hnm, hmg] at this
    cases this
    rfl
  subst ea
  have hsp : spF ((L.rc w K mg).hide []) (wpCall L.Tb n) "law" [V.ref a] H (fun v _ => v = .bl true) fun _ _ _ => False := by
    refine ⟨[], ⟨[]⟩, [.lst (ns.map D.int)], ⟨rfl, List.nodup_nil, fun m ob e => by cases e⟩, .cons (.lst ⟨ob, Ha⟩ (reps_script ns)) .nil, ?_⟩
    refine wpCall_mono L.Tb n _ _ _ _ _ _ _ (fun d st q => ?_) (fun x st q => q.elim) (math ns hlen)
    subst q
    intro v A' H' _ _ r
    cases r
    rfl
  have hl1 : ps.length = 1 := (Z.fn.len _ _ _ _ hsp).symm
  have hbi := Z.bi s₁ [.ref a] KX (by rw [hl1]; rfl)
  have hroom : Room (n + 10) callerA := ⟨rfl, by
    have e : callerA.depth = 1 + claimMargin := rfl
    rw [e]
    have : claimMargin + 1 + 3 * 210 + 5 < recursionLimit := by decide
    omega, by
    have e : callerA.units = 4 := rfl
    rw [e]
    have : 4 + 16 * 210 + 200 < cLine := by decide
    omega⟩
  refine codeAny_mono (Z.fn.run callerA [] s₁ H ⟨[.ref a], []⟩ [.ref a] [.ref a] _ _ hroom rfl e0 hbi (.cons rfl .nil) hsp) fun r s' h => ?_
  cases r with
  | error e =>
    obtain ⟨_, _, _, _, _, _, _, _, _, _, _, _, z⟩ := h
    exact z.elim
  | ok fl =>
    cases fl with
    | next => exact False.elim h
    | brk => exact False.elim h
    | cont => exact False.elim h
    | ret u =>
      obtain ⟨v, H', os, bare, un, hok', r', q⟩ := h
      have q' : v = .bl true := q
      subst q'
      obtain rfl : u = Value.bool true := r'
      refine ⟨rfl, OldK.of_keep fun b u e => ?_, os, bare⟩
      by_cases hb : b = a
      · subst hb
        rw [hobj] at e
        cases e
        exact (hok' _ _ (un.frzs _ _ _ Ha)).1
      · exact un.keep b u e (Hn b hb) (by intro z; cases z) (by simp)
end Py
end

section
set_option autoImplicit false
set_option maxHeartbeats 4000000
set_option linter.all false
/-! Ev: an evaluator of the part that draws nothing; what it finds, the meaning says. -/
namespace Py
open PySem (Str)

/-- what comes of it: nothing that is told, a value, an error -/
inductive Out (α : Type) where
  | no | ok (a : α) | er (x : D)
  deriving DecidableEq
def Out.bind {α β : Type} : Out α → (α → Out β) → Out β
  | .no, _ => .no
  | .ok a, f => f a
  | .er x, _ => .er x
@[simp] theorem Out.bind_ok {α β : Type} (a : α) (f : α → Out β) : (Out.ok a).bind f = f a := rfl
@[simp] theorem Out.bind_er {α β : Type} (x : D) (f : α → Out β) : (Out.er x : Out α).bind f = .er x := rfl
@[simp] theorem Out.bind_no {α β : Type} (f : α → Out β) : (Out.no : Out α).bind f = .no := rfl
def Out.run {α : Type} (o : Out α) (Q : α → Sto → Prop) (E : KD) (st : Sto) : Prop := match o with
  | .no => False
  | .ok a => Q a st
  | .er x => E x st
/-- no errors -/
def Out.calm {α : Type} : Out α → Out α
  | .er _ => .no
  | o => o
/-- Option as Out -/
def opt {α : Type} : Option α → Out α
  | some a => .ok a
  | none => .no
@[simp] theorem opt_some {α : Type} (a : α) : opt (some a) = .ok a := rfl
@[simp] theorem opt_none {α : Type} : opt (none : Option α) = .no := rfl
theorem Out.run_bind {α β : Type} {o : Out α} {f : α → Out β} {Q : β → Sto → Prop} {E : KD} {st : Sto} (h : (o.bind f).run Q E st) : o.run (fun a st => (f a).run Q E st) E st := by
  cases o <;> exact h
theorem Out.run_mono {α : Type} {o : Out α} {Q Q' : α → Sto → Prop} {E E' : KD} {st : Sto} (h : o.run Q E st) (q : ∀ a st, Q a st → Q' a st) (e : ∀ x st, E x st → E' x st) : o.run Q' E' st := by
  cases o
  · exact h
  · exact q _ _ h
  · exact e _ _ h
/-- a condition -/
def grd (b : Bool) (α : Option D) : Option D := if b then α else none

/-! ### operations as functions -/
def itV : D → Option (List D)
  | .lst xs => some xs
  | .tup xs => some xs
  | .dct ks _ => some ks
  | .str s => some (chars s)
  | .rng a b => some (intL a (b - a).toNat)
  | _ => none
def walkV : D → Option (List D)
  | .set _ => none
  | .rng _ _ => none
  | d => itV d
instance (i : Int) : Decidable (small62 i) := by unfold small62; infer_instance
instance (i : Int) : Decidable (small i) := by unfold small; infer_instance
def rgV : List D → Option (List D)
  | [.int b] => if small62 b then some (intL 0 b.toNat) else none
  | [.int a, .int b] => if small62 a ∧ small62 b then some (intL a (b - a).toNat) else none
  | _ => none
def dictV (xs : List D) : Option D := (asPairs xs).bind fun ps => if keysOk (ps.map (·.1)) = true ∧ ps.length ≤ 16777216 then some (.dct (dPuts [] [] ps).1 (dPuts [] [] ps).2) else none
def lenV : D → Option D
  | .str s => if s.length ≤ 16777216 then some (.int s.length) else none
  | .tup xs => some (.int xs.length)
  | .lst xs => some (.int xs.length)
  | .dct ks _ => some (.int ks.length)
  | _ => none
def tupleV : D → Option D
  | .tup xs => some (.tup xs)
  | .lst xs => some (.tup xs)
  | _ => none
def listV : D → Option D
  | .tup xs => some (.lst xs)
  | .lst xs => some (.lst xs)
  | _ => none
def dictOfV : D → Option D
  | .dct ks vs => some (.dct ks vs)
  | .lst xs => dictV xs
  | .tup xs => dictV xs
  | _ => none
def setV : D → Option D
  | .lst xs => if keysOk xs = true ∧ xs.length ≤ 1000 then some (.set (dedup [] xs)) else none
  | _ => none
/-- sorted, by putting in -/
def insD (x : D) : List D → List D
  | [] => [x]
  | y :: ys => if ltD y x then y :: insD x ys else x :: y :: ys
def sortI : List D → List D
  | [] => []
  | x :: xs => insD x (sortI xs)
/-- the elements of a set may stand in any sequence: they must be unlike -/
def sortedV : D → Option D
  | .rng _ _ => none
  | .set xs => if sortOk xs = true ∧ xs.length ≤ 16777216 ∧ xs.Nodup then some (.lst (sortI xs)) else none
  | d => (itV d).bind fun xs => if sortOk xs = true ∧ xs.length ≤ 16777216 then some (.lst (sortI xs)) else none
def onLV {α : Type} (f : List D → Option α) : D → Option α
  | .lst xs => f xs
  | _ => none
def absV : D → Option D
  | .int a => some (.int (if a < 0 then -a else a))
  | _ => none
def intV : D → Option D
  | .int a => some (.int a)
  | .bool b => some (.int (if b then 1 else 0))
  | _ => none
def strV : D → Option D
  | .int a => if a.natAbs.log2 < 1920 then some (.str (toString a : String)) else none
  | _ => none
def rangeV : D → Option D
  | .int b => if small62 b then some (.rng 0 b) else none
  | _ => none
def maxI : List Int → Option Int
  | [] => none
  | [x] => some x
  | x :: xs => (maxI xs).map fun m => if m < x then x else m
def minI : List Int → Option Int
  | [] => none
  | [x] => some x
  | x :: xs => (minI xs).map fun m => if x < m then x else m
def blt1V (sub : Str → Str → Bool) (b : Bf) (d : D) : Option D := match b with
  | .len => lenV d
  | .tuple => tupleV d
  | .list => listV d
  | .dict => dictOfV d
  | .set => setV d
  | .sorted => sortedV d
  | .all => (onLV boolsOf d).map fun bs => .bool (bs.all id)
  | .any => (onLV boolsOf d).map fun bs => .bool (bs.any id)
  | .sum => (onLV intsOf d).map fun ns => .int ns.sum
  | .max => (onLV intsOf d).bind fun ns => (maxI ns).map .int
  | .min => (onLV intsOf d).bind fun ns => (minI ns).map .int
  | .abs => absV d
  | .int => intV d
  | .str => strV d
  | .repr => if d.reprOk then some (.str d.shown) else none
  | .isinst ts => if isiOk d ts then some (.bool (ts.any (isOf sub d))) else none
  | .range => rangeV d
def blt2V (b : Bf) (x y : D) : Option D := match b, x, y with
  | .max, .int a, .int b => some (.int (if b > a then b else a))
  | .min, .int a, .int b => some (.int (if b < a then b else a))
  | .range, .int a, .int b => if small62 a ∧ small62 b then some (.rng a b) else none
  | _, _, _ => none
def bltV (sub : Str → Str → Bool) (b : Bf) : List D → Option D
  | [d] => blt1V sub b d
  | [x, y] => blt2V b x y
  | _ => none
def opV : Op → D → D → Option D
  | .add, .int a, .int b => some (.int (a + b))
  | .add, .str a, .str b => if a.length + b.length ≤ 16777216 then some (.str (a ++ b)) else none
  | .add, .tup a, .tup b => if a.length + b.length ≤ 16777216 then some (.tup (a ++ b)) else none
  | .add, .lst a, .lst b => if a.length + b.length ≤ 16777216 then some (.lst (a ++ b)) else none
  | .sub, .int a, .int b => some (.int (a - b))
  | .mul, .int a, .int b => if small a ∨ small b then some (.int (a * b)) else none
  | .mul, .tup a, .int b => if a ≠ [] ∧ a.length ≤ 1000 ∧ 2 ≤ b ∧ b ≤ 1000 then some (.tup ((List.replicate b.toNat a).flatten)) else none
  | .mul, .lst a, .int b => if (-9223372036854775808 ≤ b ∧ b < 9223372036854775808) ∧ a.length * b.toNat ≤ 16777216 then some (.lst ((List.replicate b.toNat a).flatten)) else none
  | .fdiv, .int a, .int b => if 0 < b ∧ b < 1073741824 then some (.int (a / b)) else none
  | .mod, .int a, .int b => if 0 < b then some (.int (a % b)) else none
  | .pow, .int a, .int b => if 0 ≤ b ∧ b ≤ 1000000 ∧ a.natAbs < 18446744073709551616 then some (.int (a ^ b.toNat)) else none
  | _, _, _ => none
def inV (x : D) : D → Option Bool
  | .lst ys => if (x.cmpOk && ys.all D.cmpOk) = true then some (ys.any fun y => pyEq y x) else none
  | .tup ys => if (x.cmpOk && ys.all D.cmpOk) = true then some (ys.any fun y => pyEq y x) else none
  | .dct ks _ => if keyOk ks x = true then some (decide (x ∈ ks)) else none
  | .str y => match x with
    | .str z => some (strIn z y)
    | _ => none
  | _ => none
def cmV : Cm → D → D → Option Bool
  | .eq, a, b => if (a.cmpOk && b.cmpOk) = true then some (pyEq a b) else none
  | .ne, a, b => if (a.cmpOk && b.cmpOk) = true then some (!pyEq a b) else none
  | .lt, .int a, .int b => some (decide (a < b))
  | .le, .int a, .int b => some (decide (a ≤ b))
  | .gt, .int a, .int b => some (decide (b < a))
  | .ge, .int a, .int b => some (decide (b ≤ a))
  | .lt, a, b => if (alk a b && a.cmpOk && b.cmpOk && !decide (a = .none)) = true then some (ltD a b) else none
  | .isIn, a, b => inV a b
  | .notIn, a, b => (inV a b).map (!·)
  | _, _, _ => none
def ixV : D → D → Option D
  | .lst xs, .int i => atI xs i
  | .tup xs, .int i => atI xs i
  | .str s, .int i => if s.length ≤ 16777216 then (atI s.cps.toList i).map fun c => .str ⟨#[c]⟩ else none
  | .dct ks vs, k => if keyOk ks k = true then dGet ks vs k else none
  | _, _ => none
def endV : Option D → Option (Option Int)
  | none => some none
  | some (.int i) => some (some i)
  | _ => none
def slV : D → Option Int → Option Int → Option D
  | .lst xs, lo, hi => some (.lst (cut xs lo hi))
  | .tup xs, lo, hi => some (.tup (cut xs lo hi))
  | .str s, lo, hi => if s.length ≤ 16777216 then some (.str ⟨(cut s.cps.toList lo hi).toArray⟩) else none
  | _, _, _ => none
def revV : D → Option D
  | .lst xs => some (.lst xs.reverse)
  | .tup xs => some (.tup xs.reverse)
  | _ => none
def seqV : List D → Option (List (List D))
  | [] => some []
  | .lst xs :: ds => (seqV ds).map (xs :: ·)
  | .tup xs :: ds => (seqV ds).map (xs :: ·)
  | .str s :: ds => (seqV ds).map (chars s :: ·)
  | _ :: _ => none
def addV (xs : List D) (x : D) : Option (List D) := if keyOk xs x = true ∧ xs.length < 1000 then some (if x ∈ xs then xs else xs ++ [x]) else none
def putV (p : List D × List D) (k v : D) : Option (List D × List D) := if keyOk p.1 k = true ∧ p.1.length < 16777216 then some (dPutK p.1 k, dPutV p.1 p.2 k v) else none
def appV (xs : List D) (x : D) : Option (List D) := if xs.length < 16777216 then some (xs ++ [x]) else none
def getV : Loc → Nat → Option D
  | some d :: _, 0 => some d
  | _ :: l, i + 1 => getV l i
  | _, _ => none
mutual
def asV : T → D → Loc → Option Loc
  | .nm i, d, l => if i < l.length then some (l.set i (some d)) else none
  | .tp ts, .tup ds, l => asVs ts ds l
  | .tp _, _, _ => none
def asVs : Ts → List D → Loc → Option Loc
  | .nil, [], l => some l
  | .cons t ts, d :: ds, l => (asV t d l).bind fun l' => asVs ts ds l'
  | _, _, _ => none
end
def valV : D → Option D
  | .exc _ v => some v
  | _ => none
def dgetV (d k y : D) : Option D := match d with
  | .dct ks vs => if keyOk ks k = true then some ((dGet ks vs k).getD y) else none
  | _ => none
def negV : D → Option D
  | .int i => some (.int (-i))
  | _ => none
def lkV : D → Option (List D)
  | .lst xs => some xs
  | _ => none
def itemsV : D → Option (List D)
  | .dct ks vs => some (List.zipWith (fun a b => .tup [a, b]) ks vs)
  | _ => none
def valsV : D → Option (List D)
  | .dct _ vs => some vs
  | _ => none
def fnV : D → Option Str
  | .fn f => some f
  | _ => none

/-! ### each says what the relation says -/
theorem itV_ok {d : D} {xs : List D} {Q : List D → Prop} (h : itV d = some xs) (q : Q xs) : itR d Q := by
  cases d <;> simp only [itV, Option.some.injEq, reduceCtorEq] at h <;> subst h <;> exact q
theorem walkV_ok {d : D} {xs : List D} {Q : List D → Prop} (h : walkV d = some xs) (q : Q xs) : walkR d Q := by
  cases d <;> simp only [walkV, reduceCtorEq] at h <;> exact itV_ok h q
theorem rgV_ok {ds : List D} {xs : List D} {Q : List D → Prop} (h : rgV ds = some xs) (q : Q xs) : rgR ds Q := by
  unfold rgV at h
  split at h <;> first | (split at h <;> first | (rename_i c; cases h; exact ⟨c, q⟩) | cases h) | cases h
theorem dictV_ok {xs : List D} {r : D} {Q : D → Prop} (h : dictV xs = some r) (q : Q r) : dictR xs Q := by
  unfold dictV at h
  unfold dictR
  cases e : asPairs xs with
  | none => rw [e] at h; cases h
  | some ps =>
    rw [e] at h
    simp only [Option.bind_some] at h
    split at h
    · rename_i c; cases h; exact ⟨c, q⟩
    · cases h
theorem lenV_ok {d r : D} {Q : D → Prop} (h : lenV d = some r) (q : Q r) : lenR d Q := by
  cases d <;> simp only [lenV, Option.some.injEq, reduceCtorEq] at h <;> first | (subst h; exact q) | (split at h <;> first | (rename_i c; cases h; exact ⟨c, q⟩) | cases h)
theorem tupleV_ok {d r : D} {Q : D → Prop} (h : tupleV d = some r) (q : Q r) : tupleR d Q := by
  cases d <;> simp only [tupleV, Option.some.injEq, reduceCtorEq] at h <;> (subst h; exact q)
theorem listV_ok {d r : D} {Q : D → Prop} (h : listV d = some r) (q : Q r) : listR d Q := by
  cases d <;> simp only [listV, Option.some.injEq, reduceCtorEq] at h <;> (subst h; exact q)
theorem dictOfV_ok {d r : D} {Q : D → Prop} (h : dictOfV d = some r) (q : Q r) : dictOfR d Q := by
  cases d <;> simp only [dictOfV, Option.some.injEq, reduceCtorEq] at h <;> first | (subst h; exact q) | exact dictV_ok h q
theorem setV_ok {d r : D} {Q : D → Prop} (h : setV d = some r) (q : Q r) : setR d Q := by
  cases d <;> simp only [setV, reduceCtorEq] at h <;> (split at h <;> first | (rename_i c; cases h; exact ⟨c, q⟩) | cases h)
theorem absV_ok {d r : D} {Q : D → Prop} (h : absV d = some r) (q : Q r) : absR d Q := by
  cases d <;> simp only [absV, Option.some.injEq, reduceCtorEq] at h <;> (subst h; exact q)
theorem intV_ok {d r : D} {Q : D → Prop} (h : intV d = some r) (q : Q r) : intR d Q := by
  cases d <;> simp only [intV, Option.some.injEq, reduceCtorEq] at h <;> (subst h; exact q)
theorem strV_ok {d r : D} {Q : D → Prop} (h : strV d = some r) (q : Q r) : strR d Q := by
  cases d <;> simp only [strV, reduceCtorEq] at h <;> (split at h <;> first | (rename_i c; cases h; exact ⟨c, q⟩) | cases h)
theorem rangeV_ok {d r : D} {Q : D → Prop} (h : rangeV d = some r) (q : Q r) : rangeR d Q := by
  cases d <;> simp only [rangeV, reduceCtorEq] at h <;> (split at h <;> first | (rename_i c; cases h; exact ⟨c, q⟩) | cases h)
theorem onLV_ok {α : Type} {f : List D → Option α} {d : D} {r : α} {R : α → Prop} (h : onLV f d = some r) (q : R r) : onL f R d := by
  cases d <;> simp only [onLV, reduceCtorEq] at h
  show optR _ _
  rw [h]; exact q
theorem maxI_ok : ∀ {ns : List Int} {m : Int}, maxI ns = some m → ns ≠ [] ∧ m ∈ ns ∧ ∀ y, y ∈ ns → y ≤ m
  | [], m, h => by cases h
  | [x], m, h => by cases h; exact ⟨by simp, by simp, fun y hy => by simp at hy; omega⟩
  | x :: y :: xs, m, h => by
    unfold maxI at h
    cases e : maxI (y :: xs) with
    | none => rw [e] at h; cases h
    | some k =>
      rw [e] at h
      simp only [Option.map_some, Option.some.injEq] at h
      obtain ⟨_, h1, h2⟩ := maxI_ok e
      refine ⟨by simp, ?_, fun z hz => ?_⟩
      · split at h
        · subst h; simp
        · subst h; exact List.mem_cons_of_mem _ h1
      · rcases List.mem_cons.mp hz with rfl | hz
        · split at h <;> omega
        · have := h2 z hz
          split at h <;> omega
theorem minI_ok : ∀ {ns : List Int} {m : Int}, minI ns = some m → ns ≠ [] ∧ m ∈ ns ∧ ∀ y, y ∈ ns → m ≤ y
  | [], m, h => by cases h
  | [x], m, h => by cases h; exact ⟨by simp, by simp, fun y hy => by simp at hy; omega⟩
  | x :: y :: xs, m, h => by
    unfold minI at h
    cases e : minI (y :: xs) with
    | none => rw [e] at h; cases h
    | some k =>
      rw [e] at h
      simp only [Option.map_some, Option.some.injEq] at h
      obtain ⟨_, h1, h2⟩ := minI_ok e
      refine ⟨by simp, ?_, fun z hz => ?_⟩
      · split at h
        · subst h; simp
        · subst h; exact List.mem_cons_of_mem _ h1
      · rcases List.mem_cons.mp hz with rfl | hz
        · split at h <;> omega
        · have := h2 z hz
          split at h <;> omega

/-! ### the order of data that can be compared -/
mutual
theorem alk_symm : ∀ a b : D, alk a b = true → alk b a = true
  | .none, b, h => by cases b <;> simp [alk] at h ⊢
  | .bool _, b, h => by cases b <;> simp [alk] at h ⊢
  | .int _, b, h => by cases b <;> simp [alk] at h ⊢
  | .str _, b, h => by cases b <;> simp [alk] at h ⊢
  | .tup xs, b, h => by
    cases b <;> simp only [alk, Bool.false_eq_true] at h ⊢
    exact alks_symm _ _ h
  | .lst xs, b, h => by
    cases b <;> simp only [alk, Bool.false_eq_true] at h ⊢
    exact alks_symm _ _ h
  | .set _, b, h => by cases b <;> simp [alk] at h
  | .dct _ _, b, h => by cases b <;> simp [alk] at h
  | .rng _ _, b, h => by cases b <;> simp [alk] at h
  | .exc _ _, b, h => by cases b <;> simp [alk] at h
  | .fn _, b, h => by cases b <;> simp [alk] at h
  | .ref _, b, h => by cases b <;> simp [alk] at h
  | .script, b, h => by cases b <;> simp [alk] at h
theorem alks_symm : ∀ a b : List D, alks a b = true → alks b a = true
  | [], b, h => by cases b <;> simp [alks]
  | x :: xs, b, h => by
    cases b with
    | nil => simp [alks]
    | cons y ys =>
      simp only [alks, Bool.and_eq_true] at h ⊢
      exact ⟨alk_symm _ _ h.1, alks_symm _ _ h.2⟩
end
mutual
theorem alk_eq : ∀ a b : D, alk a b = true → (pyEq a b = true ↔ a = b)
  | .none, b, h => by cases b <;> simp [alk, pyEq] at h ⊢
  | .bool _, b, h => by cases b <;> simp [alk, pyEq] at h ⊢
  | .int _, b, h => by cases b <;> simp [alk, pyEq] at h ⊢
  | .str _, b, h => by cases b <;> simp [alk, pyEq] at h ⊢
  | .tup xs, b, h => by
    cases b <;> simp only [alk, Bool.false_eq_true] at h
    simp only [pyEq, D.tup.injEq]
    exact alks_eq _ _ h
  | .lst xs, b, h => by
    cases b <;> simp only [alk, Bool.false_eq_true] at h
    simp only [pyEq, D.lst.injEq]
    exact alks_eq _ _ h
  | .set _, b, h => by cases b <;> simp [alk] at h
  | .dct _ _, b, h => by cases b <;> simp [alk] at h
  | .rng _ _, b, h => by cases b <;> simp [alk] at h
  | .exc _ _, b, h => by cases b <;> simp [alk] at h
  | .fn _, b, h => by cases b <;> simp [alk] at h
  | .ref _, b, h => by cases b <;> simp [alk] at h
  | .script, b, h => by cases b <;> simp [alk] at h
theorem alks_eq : ∀ a b : List D, alks a b = true → (pyEqs a b = true ↔ a = b)
  | [], b, h => by cases b <;> simp [pyEqs]
  | x :: xs, b, h => by
    cases b with
    | nil => simp [pyEqs]
    | cons y ys =>
      simp only [alks, Bool.and_eq_true] at h
      simp only [pyEqs, Bool.and_eq_true, List.cons.injEq]
      rw [alk_eq _ _ h.1, alks_eq _ _ h.2]
end
theorem str_ext {a b : Str} (h : a.cps.toList = b.cps.toList) : a = b := by
  obtain ⟨⟨a⟩⟩ := a
  obtain ⟨⟨b⟩⟩ := b
  cases h
  rfl
mutual
theorem lt_tri : ∀ a b : D, alk a b = true → ltD a b = false → ltD b a = false → a = b
  | .none, b, h, _, _ => by cases b <;> simp [alk] at h ⊢
  | .bool x, b, h, p, q => by
    cases b <;> simp [alk] at h ⊢
    rename_i y
    cases x <;> cases y <;> simp [ltD] at p q ⊢
  | .int x, b, h, p, q => by
    cases b <;> simp [alk, ltD] at h p q ⊢
    omega
  | .str x, b, h, p, q => by
    cases b <;> simp [alk, ltD] at h p q ⊢
    exact str_ext (List.le_antisymm q p)
  | .tup xs, b, h, p, q => by
    cases b <;> simp only [alk, Bool.false_eq_true] at h
    simp only [ltD] at p q
    rw [lts_tri _ _ h p q]
  | .lst xs, b, h, p, q => by
    cases b <;> simp only [alk, Bool.false_eq_true] at h
    simp only [ltD] at p q
    rw [lts_tri _ _ h p q]
  | .set _, b, h, _, _ => by cases b <;> simp [alk] at h
  | .dct _ _, b, h, _, _ => by cases b <;> simp [alk] at h
  | .rng _ _, b, h, _, _ => by cases b <;> simp [alk] at h
  | .exc _ _, b, h, _, _ => by cases b <;> simp [alk] at h
  | .fn _, b, h, _, _ => by cases b <;> simp [alk] at h
  | .ref _, b, h, _, _ => by cases b <;> simp [alk] at h
  | .script, b, h, _, _ => by cases b <;> simp [alk] at h
theorem lts_tri : ∀ a b : List D, alks a b = true → ltDs a b = false → ltDs b a = false → a = b
  | [], b, h, p, q => by cases b <;> simp [ltDs] at p ⊢
  | x :: xs, b, h, p, q => by
    cases b with
    | nil => simp [ltDs] at q
    | cons y ys =>
      simp only [alks, Bool.and_eq_true] at h
      have e1 := alk_eq _ _ h.1
      have e2 := alk_eq _ _ (alk_symm _ _ h.1)
      simp only [ltDs] at p q
      by_cases e : x = y
      · subst e
        rw [if_pos (e1.mpr rfl)] at p q
        rw [lts_tri _ _ h.2 p q]
      · rw [if_neg (fun z => e (e1.mp z))] at p
        rw [if_neg (fun z => e (e2.mp z).symm)] at q
        exact absurd (lt_tri _ _ h.1 p q) e
end
mutual
theorem lt_irr : ∀ a : D, ltD a a = false
  | .none => rfl
  | .bool x => by cases x <;> rfl
  | .int x => by simp [ltD]
  | .str x => by simp [ltD, List.lt_irrefl]
  | .tup xs => by simp only [ltD]; exact lts_irr xs
  | .lst xs => by simp only [ltD]; exact lts_irr xs
  | .set _ => rfl
  | .dct _ _ => rfl
  | .rng _ _ => rfl
  | .exc _ _ => rfl
  | .fn _ => rfl
  | .ref _ => rfl
  | .script => rfl
theorem lts_irr : ∀ a : List D, ltDs a a = false
  | [] => rfl
  | x :: xs => by
    simp only [ltDs]
    split
    · exact lts_irr xs
    · exact lt_irr x
end
mutual
theorem lt_tr : ∀ a b c : D, alk a b = true → alk b c = true → alk a c = true → ltD a b = true → ltD b c = true → ltD a c = true
  | .none, b, c, h, _, _, p, _ => by cases b <;> simp [ltD] at p
  | .bool x, b, c, h, h2, _, p, q => by
    cases b <;> cases c <;> simp [alk, ltD] at h h2 p q ⊢
    simp_all
  | .int x, b, c, h, h2, _, p, q => by
    cases b <;> cases c <;> simp [alk, ltD] at h h2 p q ⊢
    omega
  | .str x, b, c, h, h2, _, p, q => by
    cases b <;> cases c <;> simp [alk, ltD] at h h2 p q ⊢
    exact List.lt_trans p q
  | .tup xs, b, c, h, h2, h3, p, q => by
    cases b <;> cases c <;> simp only [alk, ltD, Bool.false_eq_true] at h h2 h3 p q ⊢
    exact lts_tr _ _ _ h h2 h3 p q
  | .lst xs, b, c, h, h2, h3, p, q => by
    cases b <;> cases c <;> simp only [alk, ltD, Bool.false_eq_true] at h h2 h3 p q ⊢
    exact lts_tr _ _ _ h h2 h3 p q
  | .set _, b, c, h, _, _, _, _ => by cases b <;> simp [alk] at h
  | .dct _ _, b, c, h, _, _, _, _ => by cases b <;> simp [alk] at h
  | .rng _ _, b, c, h, _, _, _, _ => by cases b <;> simp [alk] at h
  | .exc _ _, b, c, h, _, _, _, _ => by cases b <;> simp [alk] at h
  | .fn _, b, c, h, _, _, _, _ => by cases b <;> simp [alk] at h
  | .ref _, b, c, h, _, _, _, _ => by cases b <;> simp [alk] at h
  | .script, b, c, h, _, _, _, _ => by cases b <;> simp [alk] at h
theorem lts_tr : ∀ a b c : List D, alks a b = true → alks b c = true → alks a c = true → ltDs a b = true → ltDs b c = true → ltDs a c = true
  | a, b, [], h, h2, h3, p, q => by cases b <;> simp [ltDs] at q
  | [], b, z :: zs, h, h2, h3, p, q => by simp [ltDs]
  | x :: xs, b, z :: zs, h, h2, h3, p, q => by
    cases b with
    | nil => simp [ltDs] at p
    | cons y ys =>
      simp only [alks, Bool.and_eq_true] at h h2 h3
      have e1 := alk_eq _ _ h.1
      have e2 := alk_eq _ _ h2.1
      have e3 := alk_eq _ _ h3.1
      simp only [ltDs] at p q ⊢
      by_cases n1 : x = y
      · subst n1
        rw [if_pos (e1.mpr rfl)] at p
        by_cases n2 : x = z
        · subst n2
          rw [if_pos (e2.mpr rfl)] at q ⊢
          exact lts_tr _ _ _ h.2 h2.2 h3.2 p q
        · rw [if_neg (fun w => n2 (e2.mp w))] at q ⊢
          exact q
      · rw [if_neg (fun w => n1 (e1.mp w))] at p
        by_cases n2 : y = z
        · subst n2
          rw [if_neg (fun w => n1 (e3.mp w))]
          exact p
        · rw [if_neg (fun w => n2 (e2.mp w))] at q
          by_cases n3 : x = z
          · subst n3
            have := lt_tr _ _ _ h.1 h2.1 h3.1 p q
            rw [lt_irr] at this
            cases this
          · rw [if_neg (fun w => n3 (e3.mp w))]
            exact lt_tr _ _ _ h.1 h2.1 h3.1 p q
end
mutual
theorem lt_asym : ∀ a b : D, alk a b = true → ltD a b = true → ltD b a = false
  | .none, b, h, p => by cases b <;> simp [ltD] at p
  | .bool x, b, h, p => by
    cases b <;> simp [alk, ltD] at h p ⊢
    simp_all
  | .int x, b, h, p => by
    cases b <;> simp [alk, ltD] at h p ⊢
    omega
  | .str x, b, h, p => by
    cases b <;> simp [alk, ltD] at h p ⊢
    exact List.le_of_lt p
  | .tup xs, b, h, p => by
    cases b <;> simp only [alk, ltD, Bool.false_eq_true] at h p ⊢
    exact lts_asym _ _ h p
  | .lst xs, b, h, p => by
    cases b <;> simp only [alk, ltD, Bool.false_eq_true] at h p ⊢
    exact lts_asym _ _ h p
  | .set _, b, h, _ => by cases b <;> simp [alk] at h
  | .dct _ _, b, h, _ => by cases b <;> simp [alk] at h
  | .rng _ _, b, h, _ => by cases b <;> simp [alk] at h
  | .exc _ _, b, h, _ => by cases b <;> simp [alk] at h
  | .fn _, b, h, _ => by cases b <;> simp [alk] at h
  | .ref _, b, h, _ => by cases b <;> simp [alk] at h
  | .script, b, h, _ => by cases b <;> simp [alk] at h
theorem lts_asym : ∀ a b : List D, alks a b = true → ltDs a b = true → ltDs b a = false
  | a, [], h, p => by cases a <;> simp [ltDs] at p
  | [], y :: ys, h, p => by simp [ltDs]
  | x :: xs, y :: ys, h, p => by
    simp only [alks, Bool.and_eq_true] at h
    have e1 := alk_eq _ _ h.1
    have e2 := alk_eq _ _ (alk_symm _ _ h.1)
    simp only [ltDs] at p ⊢
    by_cases n : x = y
    · subst n
      rw [if_pos (e1.mpr rfl)] at p ⊢
      exact lts_asym _ _ h.2 p
    · rw [if_neg (fun w => n (e1.mp w))] at p
      rw [if_neg (fun w => n (e2.mp w).symm)]
      exact lt_asym _ _ h.1 p
end
/-- all of a list alike: one sorted list -/
theorem sort_perm {xs ys : List D} (ha : ∀ x ∈ xs, ∀ y ∈ xs, alk x y = true) (p : ys.Perm xs) : sortD ys = sortD xs := by
  have mem : ∀ y ∈ ys, y ∈ xs := fun y h => p.mem_iff.mp h
  let S := {x : D // x ∈ xs}
  let le : S → S → Bool := fun a b => !ltD b.1 a.1
  have tot : ∀ a b : S, (le a b || le b a) = true := by
    intro a b
    show (!ltD b.1 a.1 || !ltD a.1 b.1) = true
    cases h : ltD b.1 a.1 with
    | false => rfl
    | true => rw [lt_asym _ _ (ha _ b.2 _ a.2) h]; rfl
  have tr : ∀ a b c : S, le a b = true → le b c = true → le a c = true := by
    intro a b c h1 h2
    show (!ltD c.1 a.1) = true
    cases h : ltD c.1 a.1 with
    | false => rfl
    | true =>
      exfalso
      have h1 : (!ltD b.1 a.1) = true := h1
      have h2 : (!ltD c.1 b.1) = true := h2
      simp only [Bool.not_eq_true'] at h1 h2
      by_cases h3 : ltD a.1 b.1 = true
      · have := lt_tr _ _ _ (ha _ c.2 _ a.2) (ha _ a.2 _ b.2) (ha _ c.2 _ b.2) h h3
        rw [h2] at this; cases this
      · have e := lt_tri _ _ (ha _ a.2 _ b.2) (by simpa using h3) h1
        rw [e] at h
        rw [h2] at h; cases h
  have anti : ∀ a b : S, le a b = true → le b a = true → a = b := by
    intro a b h1 h2
    have h1 : (!ltD b.1 a.1) = true := h1
    have h2 : (!ltD a.1 b.1) = true := h2
    simp only [Bool.not_eq_true'] at h1 h2
    exact Subtype.ext (lt_tri _ _ (ha _ a.2 _ b.2) h2 h1)
  let f : (x : D) → x ∈ xs → S := fun x h => ⟨x, h⟩
  let yy : List S := ys.pmap f mem
  let xx : List S := xs.pmap f (fun _ h => h)
  have ey : yy.map (·.1) = ys := by
    show (ys.pmap f mem).map _ = ys
    rw [List.map_pmap]
    simp [f]
  have ex : xx.map (·.1) = xs := by
    show (xs.pmap f _).map _ = xs
    rw [List.map_pmap]
    simp [f]
  have my : (yy.mergeSort le).map (·.1) = sortD ys := by
    unfold sortD
    rw [List.map_mergeSort (s := fun a b => !ltD b a) (fun a _ b _ => rfl), ey]
  have mx : (xx.mergeSort le).map (·.1) = sortD xs := by
    unfold sortD
    rw [List.map_mergeSort (s := fun a b => !ltD b a) (fun a _ b _ => rfl), ex]
  have pp : yy.Perm xx := List.Perm.pmap f p
  have : yy.mergeSort le = xx.mergeSort le := by
    refine List.Perm.eq_of_pairwise (fun a b _ _ h1 h2 => anti a b h1 h2) (List.pairwise_mergeSort tr tot yy) (List.pairwise_mergeSort tr tot xx) ?_
    exact (List.mergeSort_perm yy le).trans (pp.trans (List.mergeSort_perm xx le).symm)
  rw [← my, ← mx, this]
theorem insD_perm (x : D) : ∀ ys : List D, (insD x ys).Perm (x :: ys)
  | [] => .refl _
  | y :: ys => by
    unfold insD
    split
    · exact ((insD_perm x ys).cons y).trans (List.Perm.swap x y ys)
    · exact .refl _
theorem sortI_perm : ∀ xs : List D, (sortI xs).Perm xs
  | [] => .refl _
  | x :: xs => (insD_perm x _).trans ((sortI_perm xs).cons x)
theorem insD_up (x : D) : ∀ ys : List D, (∀ a ∈ x :: ys, ∀ b ∈ x :: ys, alk a b = true) → ys.Pairwise (fun a b => ltD b a = false) → (insD x ys).Pairwise (fun a b => ltD b a = false)
  | [], _, _ => by simp [insD]
  | y :: ys, h, p => by
    rw [List.pairwise_cons] at p
    unfold insD
    split
    · rename_i c
      rw [List.pairwise_cons]
      refine ⟨fun z hz => ?_, insD_up x ys (fun a ha b hb => h a ?_ b ?_) p.2⟩
      · have := (insD_perm x ys).mem_iff.mp hz
        rcases List.mem_cons.mp this with rfl | hz
        · exact lt_asym _ _ (h y (by simp) z (by simp)) c
        · exact p.1 z hz
      · rcases List.mem_cons.mp ha with e | e
        · rw [e]; simp
        · exact List.mem_cons_of_mem _ (List.mem_cons_of_mem _ e)
      · rcases List.mem_cons.mp hb with e | e
        · rw [e]; simp
        · exact List.mem_cons_of_mem _ (List.mem_cons_of_mem _ e)
    · rename_i c
      have c : ltD y x = false := by simpa using c
      rw [List.pairwise_cons, List.pairwise_cons]
      refine ⟨fun z hz => ?_, p⟩
      rcases List.mem_cons.mp hz with rfl | hz'
      · exact c
      · cases q : ltD z x with
        | false => rfl
        | true =>
          exfalso
          by_cases e : ltD y z = true
          · have := lt_tr _ _ _ (h y (by simp) z (by simp [hz'])) (h z (by simp [hz']) x (by simp)) (h y (by simp) x (by simp)) e q
            rw [c] at this; cases this
          · have := lt_tri _ _ (h y (by simp) z (by simp [hz'])) (by simpa using e) (p.1 z hz')
            rw [← this, c] at q; cases q
theorem sortI_up : ∀ xs : List D, (∀ a ∈ xs, ∀ b ∈ xs, alk a b = true) → (sortI xs).Pairwise (fun a b => ltD b a = false)
  | [], _ => List.Pairwise.nil
  | x :: xs, h => by
    refine insD_up x _ (fun a ha b hb => h a ?_ b ?_) (sortI_up xs fun a ha b hb => h a (by simp [ha]) b (by simp [hb]))
    · rcases List.mem_cons.mp ha with e | e
      · rw [e]; simp
      · exact List.mem_cons_of_mem _ ((sortI_perm xs).mem_iff.mp e)
    · rcases List.mem_cons.mp hb with e | e
      · rw [e]; simp
      · exact List.mem_cons_of_mem _ ((sortI_perm xs).mem_iff.mp e)
/-- what stands sorted is sorted -/
theorem sortD_up {xs : List D} (h : xs.Pairwise (fun a b => ltD b a = false)) : sortD xs = xs := by
  unfold sortD
  refine List.mergeSort_of_pairwise (h.imp fun {a b} q => ?_)
  rw [q]; rfl
theorem sortI_eq {xs : List D} (h : ∀ a ∈ xs, ∀ b ∈ xs, alk a b = true) : sortI xs = sortD xs := by
  rw [← sort_perm h (sortI_perm xs)]
  exact (sortD_up (sortI_up xs h)).symm
theorem sortOk_alk {xs : List D} (h : sortOk xs = true) : ∀ a ∈ xs, ∀ b ∈ xs, alk a b = true := by
  unfold sortOk at h
  simp only [Bool.and_eq_true, List.all_eq_true] at h
  exact fun x hx y hy => (h.1 x hx y hy).1
theorem sortedV_ok {d r : D} {Q : D → Prop} (h : sortedV d = some r) (q : Q r) : sortedR d Q := by
  cases d with
  | set xs =>
    simp only [sortedV] at h
    split at h
    · rename_i c
      cases h
      intro ys p
      have ha := sortOk_alk c.1
      refine ⟨⟨?_, by unfold Sz; rw [p.length_eq]; exact c.2.1⟩, ?_⟩
      · have := c.1
        unfold sortOk at this ⊢
        simp only [Bool.and_eq_true, List.all_eq_true, Bool.or_eq_true] at this ⊢
        refine ⟨fun x hx y hy => this.1 x (p.mem_iff.mp hx) y (p.mem_iff.mp hy), this.2.elim (fun z => .inl fun x hx => z x (p.mem_iff.mp hx)) fun z => .inr fun x hx => z x (p.mem_iff.mp hx)⟩
      · rw [sort_perm ha p, ← sortI_eq ha]; exact q
    · cases h
  | rng _ _ => cases h
  | none => cases h
  | bool _ => cases h
  | int _ => cases h
  | exc _ _ => cases h
  | fn _ => cases h
  | ref _ => cases h
  | script => cases h
  | lst xs =>
    simp only [sortedV, itV, Option.bind_some] at h
    split at h
    · rename_i c; cases h; exact ⟨c, by rw [← sortI_eq (sortOk_alk c.1)]; exact q⟩
    · cases h
  | tup xs =>
    simp only [sortedV, itV, Option.bind_some] at h
    split at h
    · rename_i c; cases h; exact ⟨c, by rw [← sortI_eq (sortOk_alk c.1)]; exact q⟩
    · cases h
  | dct xs ys =>
    simp only [sortedV, itV, Option.bind_some] at h
    split at h
    · rename_i c; cases h; exact ⟨c, by rw [← sortI_eq (sortOk_alk c.1)]; exact q⟩
    · cases h
  | str xs =>
    simp only [sortedV, itV, Option.bind_some] at h
    split at h
    · rename_i c; cases h; exact ⟨c, by rw [← sortI_eq (sortOk_alk c.1)]; exact q⟩
    · cases h
theorem blt1V_ok {sub : Str → Str → Bool} {b : Bf} {d r : D} {Q : D → Prop} (h : blt1V sub b d = some r) (q : Q r) : blt1 sub b d Q := by
  cases b <;> simp only [blt1V, blt1] at h ⊢
  · exact lenV_ok h q
  · exact tupleV_ok h q
  · exact listV_ok h q
  · exact dictOfV_ok h q
  · exact setV_ok h q
  · exact sortedV_ok h q
  · obtain ⟨bs, e, rfl⟩ := Option.map_eq_some_iff.mp h; exact onLV_ok e q
  · obtain ⟨bs, e, rfl⟩ := Option.map_eq_some_iff.mp h; exact onLV_ok e q
  · obtain ⟨bs, e, rfl⟩ := Option.map_eq_some_iff.mp h; exact onLV_ok e q
  · obtain ⟨ns, e, h⟩ := Option.bind_eq_some_iff.mp h
    obtain ⟨m, e2, rfl⟩ := Option.map_eq_some_iff.mp h
    obtain ⟨m1, m2, m3⟩ := maxI_ok e2
    exact onLV_ok e ⟨m1, fun k h1 h2 => by
      have : k = m := by have := m3 k h1; have := h2 m m2; omega
      rw [this]; exact q⟩
  · obtain ⟨ns, e, h⟩ := Option.bind_eq_some_iff.mp h
    obtain ⟨m, e2, rfl⟩ := Option.map_eq_some_iff.mp h
    obtain ⟨m1, m2, m3⟩ := minI_ok e2
    exact onLV_ok e ⟨m1, fun k h1 h2 => by
      have : k = m := by have := m3 k h1; have := h2 m m2; omega
      rw [this]; exact q⟩
  · exact absV_ok h q
  · exact intV_ok h q
  · exact strV_ok h q
  · split at h
    · rename_i c; cases h; exact ⟨c, q⟩
    · cases h
  · split at h
    · rename_i c; cases h; exact ⟨c, q⟩
    · cases h
  · exact rangeV_ok h q
theorem blt2V_ok {b : Bf} {x y r : D} {Q : D → Prop} (h : blt2V b x y = some r) (q : Q r) : blt2 b x y Q := by
  unfold blt2V at h
  split at h
  · cases h; exact q
  · cases h; exact q
  · split at h
    · rename_i c; cases h; exact ⟨c.1, c.2, q⟩
    · cases h
  · cases h
theorem bltV_ok {sub : Str → Str → Bool} {b : Bf} {ds : List D} {r : D} {Q : D → Prop} (h : bltV sub b ds = some r) (q : Q r) : bltR sub b ds Q := by
  match ds, h with
  | [d], h => exact blt1V_ok h q
  | [x, y], h => exact blt2V_ok h q
theorem opV_ok {o : Op} {a b r : D} {Q : D → Prop} (h : opV o a b = some r) (q : Q r) : opR o a b Q := by
  unfold opV at h
  split at h <;> first
    | (cases h; done)
    | (cases h; exact q)
    | (split at h <;> first | (rename_i c; cases h; exact ⟨c, q⟩) | (rename_i c; cases h; exact ⟨c.1, c.2, q⟩) | cases h)
theorem inV_ok {a b : D} {r : Bool} {Q : Bool → Prop} (h : inV a b = some r) (q : Q r) : inR a b Q := by
  unfold inV at h
  split at h
  · split at h
    · rename_i c; cases h; exact ⟨c, q⟩
    · cases h
  · split at h
    · rename_i c; cases h; exact ⟨c, q⟩
    · cases h
  · split at h
    · rename_i c; cases h; exact ⟨c, q⟩
    · cases h
  · split at h
    · cases h; exact q
    · cases h
  · cases h
theorem cmV_ok {c : Cm} {a b : D} {r : Bool} {Q : Bool → Prop} (h : cmV c a b = some r) (q : Q r) : cmR c a b Q := by
  unfold cmV at h
  unfold cmR
  split at h
  · split at h
    · rename_i c; cases h; exact ⟨c, q⟩
    · cases h
  · split at h
    · rename_i c; cases h; exact ⟨c, q⟩
    · cases h
  · cases h; exact q
  · cases h; exact q
  · cases h; exact q
  · cases h; exact q
  · split at h
    · rename_i n c
      cases h
      have n' : ∀ x y : Int, a = .int x → b = .int y → False := n
      cases a <;> first | exact ⟨c, q⟩ | (cases b <;> first | exact ⟨c, q⟩ | exact (n' _ _ rfl rfl).elim)
    · cases h
  · exact inV_ok h q
  · obtain ⟨m, e, rfl⟩ := Option.map_eq_some_iff.mp h
    exact inV_ok e q
  · cases h
theorem ixV_ok {a b r : D} {Q : D → Prop} (h : ixV a b = some r) (q : Q r) : ixR a b Q := by
  unfold ixV at h
  unfold ixR
  split at h
  · simp only [h]; exact q
  · simp only [h]; exact q
  · split at h
    · rename_i c
      obtain ⟨m, e, rfl⟩ := Option.map_eq_some_iff.mp h
      simp only [e]
      exact ⟨c, q⟩
    · cases h
  · split at h
    · rename_i c
      simp only [h]
      exact ⟨c, q⟩
    · cases h
  · cases h
theorem ixO_ok {st : Sto} {a b r : D} {Q : D → Prop} (h : ixV a b = some r) (q : Q r) : ixO st a b Q := by
  unfold ixO
  split
  · cases h
  · exact ixV_ok h q
theorem endV_ok {a : Option D} {r : Option Int} {Q : Option Int → Prop} (h : endV a = some r) (q : Q r) : endR a Q := by
  unfold endV at h
  split at h <;> first | (cases h; exact q) | cases h
theorem slV_ok {a r : D} {u v : Option Int} {Q : D → Prop} (h : slV a u v = some r) (q : Q r) : slR a u v Q := by
  unfold slV at h
  split at h
  · cases h; exact q
  · cases h; exact q
  · split at h
    · rename_i c; cases h; exact ⟨c, q⟩
    · cases h
  · cases h
theorem revV_ok {a r : D} {Q : D → Prop} (h : revV a = some r) (q : Q r) : revR a Q := by
  unfold revV at h
  split at h <;> first | (cases h; exact q) | cases h
theorem seqV_ok : ∀ {ds : List D} {r : List (List D)} {Q : List (List D) → Prop}, seqV ds = some r → Q r → seqR ds Q
  | [], r, Q, h, q => by cases h; exact q
  | .lst xs :: ds, r, Q, h, q => by
    obtain ⟨m, e, rfl⟩ := Option.map_eq_some_iff.mp h
    exact seqV_ok (ds := ds) e q
  | .tup xs :: ds, r, Q, h, q => by
    obtain ⟨m, e, rfl⟩ := Option.map_eq_some_iff.mp h
    exact seqV_ok (ds := ds) e q
  | .str s :: ds, r, Q, h, q => by
    obtain ⟨m, e, rfl⟩ := Option.map_eq_some_iff.mp h
    exact seqV_ok (ds := ds) e q
  | .none :: ds, r, Q, h, q => by cases h
  | .bool _ :: ds, r, Q, h, q => by cases h
  | .int _ :: ds, r, Q, h, q => by cases h
  | .set _ :: ds, r, Q, h, q => by cases h
  | .dct _ _ :: ds, r, Q, h, q => by cases h
  | .rng _ _ :: ds, r, Q, h, q => by cases h
  | .exc _ _ :: ds, r, Q, h, q => by cases h
  | .fn _ :: ds, r, Q, h, q => by cases h
  | .ref _ :: ds, r, Q, h, q => by cases h
  | .script :: ds, r, Q, h, q => by cases h
theorem addV_ok {xs r : List D} {x : D} {Q : List D → Prop} (h : addV xs x = some r) (q : Q r) : addR xs x Q := by
  unfold addV at h
  split at h
  · rename_i c; cases h; exact ⟨c.1, c.2, q⟩
  · cases h
theorem putV_ok {p r : List D × List D} {k v : D} {Q : List D × List D → Prop} (h : putV p k v = some r) (q : Q r) : putR p k v Q := by
  unfold putV at h
  split at h
  · rename_i c; cases h; exact ⟨c.1, c.2, q⟩
  · cases h
theorem appV_ok {xs r : List D} {x : D} {Q : List D → Prop} (h : appV xs x = some r) (q : Q r) : appR xs x Q := by
  unfold appV at h
  split at h
  · rename_i c; cases h; exact ⟨c, q⟩
  · cases h
theorem getV_ok : ∀ {l : Loc} {i : Nat} {r : D} {Q : D → Prop}, getV l i = some r → Q r → getL l i Q
  | some d :: _, 0, r, Q, h, q => by cases h; exact q
  | some _ :: l, i + 1, r, Q, h, q => getV_ok (l := l) (i := i) h q
  | none :: l, i + 1, r, Q, h, q => getV_ok (l := l) (i := i) h q
  | none :: _, 0, r, Q, h, q => by cases h
  | [], _, r, Q, h, q => by simp [getV] at h
mutual
theorem asV_ok : ∀ (t : T) {d : D} {l r : Loc} {Q : Loc → Prop}, asV t d l = some r → Q r → asT t d l Q
  | .nm i, d, l, r, Q, h, q => by
    simp only [asV] at h
    split at h
    · rename_i c; cases h; exact ⟨c, q⟩
    · cases h
  | .tp ts, d, l, r, Q, h, q => by
    cases d <;> simp only [asV, reduceCtorEq] at h
    exact asVs_ok ts h q
theorem asVs_ok : ∀ (ts : Ts) {ds : List D} {l r : Loc} {Q : Loc → Prop}, asVs ts ds l = some r → Q r → asTs ts ds l Q
  | .nil, ds, l, r, Q, h, q => by
    cases ds <;> simp only [asVs, reduceCtorEq, Option.some.injEq] at h
    subst h
    simpa [asTs] using q
  | .cons t ts, ds, l, r, Q, h, q => by
    cases ds with
    | nil => simp [asVs] at h
    | cons d ds =>
      simp only [asVs] at h
      obtain ⟨m, e, h⟩ := Option.bind_eq_some_iff.mp h
      simp only [asTs]
      exact asV_ok t e (asVs_ok ts h q)
end

/-! ### the evaluator -/
abbrev CallV := Str → List D → Out D
/-- one after another, something carried -/
def evL {α : Type} : List D → (D → α → Out α) → α → Out α
  | [], _, a => .ok a
  | x :: xs, f, a => (f x a).bind fun a' => evL xs f a'
mutual
def evE (sub : Str → Str → Bool) (C : CallV) : E → Loc → Out D
  | .slot i, l => opt (getV l i)
  | .bor i, l => opt (getV l i)
  | .cst d, _ => .ok d
  | .glob _ d, _ => .ok d
  | .fnv f, _ => .ok (.fn f)
  | .bin o a b, l => (evE sub C a l).bind fun x => (evE sub C b l).bind fun y => opt (opV o x y)
  | .neg a, l => (evE sub C a l).bind fun x => opt (negV x)
  | .not_ a, l => (evE sub C a l).bind fun x => (opt (tru x)).bind fun b => .ok (.bool (!b))
  | .cmp c a b, l => (evE sub C a l).bind fun x => (evE sub C b l).bind fun y => (opt (cmV c x y)).bind fun r => .ok (.bool r)
  | .cmp2 c c' a b d, l => (evE sub C a l).bind fun x => (evE sub C b l).bind fun y => (opt (cmV c x y)).bind fun r =>
      if r then (evE sub C d l).bind fun z => (opt (cmV c' y z)).bind fun r' => .ok (.bool r') else .ok (.bool false)
  | .and_ a b, l => (evE sub C a l).bind fun x => (opt (tru x)).bind fun r => if r then evE sub C b l else .ok x
  | .or_ a b, l => (evE sub C a l).bind fun x => (opt (tru x)).bind fun r => if r then .ok x else evE sub C b l
  | .ite c a b, l => (evE sub C c l).bind fun x => (opt (tru x)).bind fun r => if r then evE sub C a l else evE sub C b l
  | .isK n a k, l => (evE sub C a l).bind fun x => .ok (.bool (if n then !decide (x = k) else decide (x = k)))
  | .call f es, l => (evEs sub C es l).bind fun ds => C f ds
  | .callK f _ es pm, l => (evEs sub C es l).bind fun ds => C f (pick ds pm)
  | .callV i es, l => (opt ((getV l i).bind fnV)).bind fun f => (evEs sub C es l).bind fun ds => C f ds
  | .blt b es, l => (evEs sub C es l).bind fun ds => opt (bltV sub b ds)
  | .ix a i, l => (evE sub C a l).bind fun x => (evE sub C i l).bind fun y => opt (ixV x y)
  | .sl a lo hi, l => (evE sub C a l).bind fun x => (evO sub C lo l).bind fun u => (opt (endV u)).bind fun u => (evO sub C hi l).bind fun v => (opt (endV v)).bind fun v => opt (slV x u v)
  | .rev a, l => (evE sub C a l).bind fun x => opt (revV x)
  | .tup es, l => (evEs sub C es l).bind fun ds => .ok (.tup ds)
  | .lst es, l => (evEs sub C es l).bind fun ds => .ok (.lst ds)
  | .dict ks vs, l => (evEs sub C ks l).bind fun ds => (evEs sub C vs l).bind fun es => if keysOk ds = true then .ok (.dct (dPuts [] [] (ds.zip es)).1 (dPuts [] [] (ds.zip es)).2) else .no
  | .lc own e c, l => (evC sub C c own (fun a l => (evE sub C e l).calm.bind fun x => opt ((appV a.1 x).map fun xs => (xs, []))) ([], []) l).calm.bind fun a => .ok (.lst a.1)
  | .sc own e c, l => (evC sub C c own (fun a l => (evE sub C e l).calm.bind fun x => opt ((addV a.1 x).map fun xs => (xs, []))) ([], []) l).calm.bind fun a => .ok (.set a.1)
  | .dc own k v c, l => (evC sub C c own (fun a l => (evE sub C k l).calm.bind fun x => (evE sub C v l).calm.bind fun y => opt (putV a x y)) ([], []) l).calm.bind fun a => .ok (.dct a.1 a.2)
  | .val a, l => (evE sub C a l).bind fun x => opt (valV x)
  | .get a k x, l => (evE sub C a l).bind fun d => (evE sub C k l).bind fun k => (evE sub C x l).bind fun y => opt (dgetV d k y)
  | .sortK _ _ _, _ => .no
  | .mkO _, _ => .no
def evEs (sub : Str → Str → Bool) (C : CallV) : Es → Loc → Out (List D)
  | .nil, _ => .ok []
  | .cons e es, l => (evE sub C e l).bind fun x => (evEs sub C es l).bind fun xs => .ok (x :: xs)
def evO (sub : Str → Str → Bool) (C : CallV) : Oe → Loc → Out (Option D)
  | .none, _ => .ok none
  | .some e, l => (evE sub C e l).bind fun x => .ok (some x)
def evI (sub : Str → Str → Bool) (C : CallV) : It → Loc → Out (List D)
  | .ex e, l => (evE sub C e l).bind fun x => opt (walkV x)
  | .lk i, l => opt ((getV l i).bind lkV)
  | .rg es, l => (evEs sub C es l).bind fun ds => opt (rgV ds)
  | .zip es, l => (evEs sub C es l).bind fun ds => (opt (seqV ds)).bind fun xss => .ok (zipD xss)
  | .enum e, l => (evE sub C e l).bind fun x => (opt (seqV [x])).bind fun xss => .ok (enumD 0 (xss.headD []))
  | .items e, l => (evE sub C e l).bind fun x => opt (itemsV x)
  | .vals e, l => (evE sub C e l).bind fun x => opt (valsV x)
  | .rev e, l => (evE sub C e l).bind fun x => (opt (seqV [x])).bind fun xss => .ok (xss.headD []).reverse
def evD (sub : Str → Str → Bool) (C : CallV) : Cl → (Acc → Loc → Out Acc) → Acc → Loc → Out Acc
  | .nil, f, a, l => f a l
  | .for_ t it ifs c, f, a, l => (evI sub C it l).calm.bind fun xs => evL xs (fun x a => (opt (asV t x l)).bind fun l => (evF sub C ifs l).bind fun b => if b then evD sub C c f a l else .ok a) a
def evC (sub : Str → Str → Bool) (C : CallV) : Cl → List Nat → (Acc → Loc → Out Acc) → Acc → Loc → Out Acc
  | .nil, _, _, _, _ => .no
  | .for_ t it ifs c, own, f, a, l => (evI sub C it l).calm.bind fun xs => evL xs (fun x a => (opt (asV t x (wipe l own))).bind fun l => (evF sub C ifs l).bind fun b => if b then evD sub C c f a l else .ok a) a
def evF (sub : Str → Str → Bool) (C : CallV) : Es → Loc → Out Bool
  | .nil, _ => .ok true
  | .cons e es, l => (evE sub C e l).calm.bind fun x => (opt (tru x)).bind fun b => if b then evF sub C es l else .ok false
termination_by structural e => e
end

/-! ### what it finds, the meaning says -/
/-- the evaluator's calls say what the meaning's calls say -/
def CallOk (CV : CallV) (C : CallS) : Prop := ∀ f ds st Q E, (CV f ds).run Q E st → C f ds st Q E
theorem opt_run {α : Type} {o : Option α} {Q : α → Sto → Prop} {E : KD} {st : Sto} (h : (opt o).run Q E st) : ∃ a, o = some a ∧ Q a st := by
  cases o with
  | none => exact h.elim
  | some a => exact ⟨a, rfl, h⟩
theorem optb_run {α β : Type} {o : Option α} {f : α → Out β} {Q : β → Sto → Prop} {E : KD} {st : Sto} (h : ((opt o).bind f).run Q E st) : ∃ a, o = some a ∧ (f a).run Q E st := opt_run (Out.run_bind h)
theorem calm_run {α : Type} {o : Out α} {Q : α → Sto → Prop} {E E' : KD} {st : Sto} (h : o.calm.run Q E st) : o.run Q E' st := by
  cases o
  · exact h
  · exact h
  · exact h.elim
theorem calm_any {α : Type} {o : Out α} {Q : α → Sto → Prop} {E E' : KD} {st : Sto} (h : o.calm.run Q E st) : o.calm.run Q E' st := by
  cases o
  · exact h
  · exact h
  · exact h.elim
theorem truR_of {x : D} {b : Bool} {Q : Bool → Prop} (h : tru x = some b) (q : Q b) : truR x Q := by
  unfold truR
  rw [h]
  exact q
theorem evL_run {α : Type} {f : D → α → Out α} {F : D → α → Sto → (α → Sto → Prop) → Prop} {X : KD} (hf : ∀ x a st K, (f x a).run K X st → F x a st K) : ∀ (xs : List D) (a : α) (st : Sto) (Q : α → Sto → Prop), (evL xs f a).run Q X st → forL xs F a st Q
  | [], a, st, Q, h => h
  | x :: xs, a, st, Q, h => hf x a st _ (Out.run_mono (Out.run_bind h) (fun a st q => evL_run hf xs a st Q q) (fun _ _ q => q))
section
variable {sub : Str → Str → Bool} {CV : CallV} {C : CallS} (hC : CallOk CV C)
include hC
mutual
theorem evE_ok : ∀ (e : E) {l : Loc} {st : Sto} {Q X : KD}, (evE sub CV e l).run Q X st → wpE sub C e l st Q X
  | .slot i, l, st, Q, X, h => by
    simp only [evE] at h; simp only [wpE]
    obtain ⟨a, e, q⟩ := opt_run h; exact getV_ok e q
  | .bor i, l, st, Q, X, h => by
    simp only [evE] at h; simp only [wpE]
    obtain ⟨a, e, q⟩ := opt_run h; exact getV_ok e q
  | .cst d, l, st, Q, X, h => by simp only [wpE]; exact h
  | .glob _ d, l, st, Q, X, h => by simp only [wpE]; exact h
  | .fnv d, l, st, Q, X, h => by simp only [wpE]; exact h
  | .bin o a b, l, st, Q, X, h => by
    simp only [evE] at h; simp only [wpE]
    refine evE_ok a (Out.run_mono (Out.run_bind h) (fun x st h => ?_) fun _ _ q => q)
    refine evE_ok b (Out.run_mono (Out.run_bind h) (fun y st h => ?_) fun _ _ q => q)
    obtain ⟨r, e, q⟩ := opt_run h
    exact opV_ok e q
  | .neg a, l, st, Q, X, h => by
    simp only [evE] at h; simp only [wpE]
    refine evE_ok a (Out.run_mono (Out.run_bind h) (fun x st h => ?_) fun _ _ q => q)
    obtain ⟨r, e, q⟩ := opt_run h
    cases x <;> simp only [negV, reduceCtorEq, Option.some.injEq] at e
    subst e; exact q
  | .not_ a, l, st, Q, X, h => by
    simp only [evE] at h; simp only [wpE]
    refine evE_ok a (Out.run_mono (Out.run_bind h) (fun x st h => ?_) fun _ _ q => q)
    obtain ⟨r, e, q⟩ := optb_run h
    exact truR_of e q
  | .cmp c a b, l, st, Q, X, h => by
    simp only [evE] at h; simp only [wpE]
    refine evE_ok a (Out.run_mono (Out.run_bind h) (fun x st h => ?_) fun _ _ q => q)
    refine evE_ok b (Out.run_mono (Out.run_bind h) (fun y st h => ?_) fun _ _ q => q)
    obtain ⟨r, e, q⟩ := optb_run h
    exact cmV_ok e q
  | .cmp2 c c' a b d, l, st, Q, X, h => by
    simp only [evE] at h; simp only [wpE]
    refine evE_ok a (Out.run_mono (Out.run_bind h) (fun x st h => ?_) fun _ _ q => q)
    refine evE_ok b (Out.run_mono (Out.run_bind h) (fun y st h => ?_) fun _ _ q => q)
    obtain ⟨r, e, q⟩ := optb_run h
    refine cmV_ok e ?_
    cases r with
    | false => exact q
    | true =>
      refine evE_ok d (Out.run_mono (Out.run_bind q) (fun z st h => ?_) fun _ _ q => q)
      obtain ⟨r, e, q⟩ := optb_run h
      exact cmV_ok e q
  | .and_ a b, l, st, Q, X, h => by
    simp only [evE] at h; simp only [wpE]
    refine evE_ok a (Out.run_mono (Out.run_bind h) (fun x st h => ?_) fun _ _ q => q)
    obtain ⟨r, e, q⟩ := optb_run h
    refine truR_of e ?_
    cases r with
    | false => exact q
    | true => exact evE_ok b q
  | .or_ a b, l, st, Q, X, h => by
    simp only [evE] at h; simp only [wpE]
    refine evE_ok a (Out.run_mono (Out.run_bind h) (fun x st h => ?_) fun _ _ q => q)
    obtain ⟨r, e, q⟩ := optb_run h
    refine truR_of e ?_
    cases r with
    | true => exact q
    | false => exact evE_ok b q
  | .ite c a b, l, st, Q, X, h => by
    simp only [evE] at h; simp only [wpE]
    refine evE_ok c (Out.run_mono (Out.run_bind h) (fun x st h => ?_) fun _ _ q => q)
    obtain ⟨r, e, q⟩ := optb_run h
    refine truR_of e ?_
    cases r with
    | true => exact evE_ok a q
    | false => exact evE_ok b q
  | .isK n a k, l, st, Q, X, h => by
    simp only [evE] at h; simp only [wpE]
    exact evE_ok a (Out.run_mono (Out.run_bind h) (fun x st h => h) fun _ _ q => q)
  | .call f es, l, st, Q, X, h => by
    simp only [evE] at h; simp only [wpE]
    exact evEs_ok es (Out.run_mono (Out.run_bind h) (fun x st h => hC _ _ _ _ _ h) fun _ _ q => q)
  | .callK f n es pm, l, st, Q, X, h => by
    simp only [evE] at h; simp only [wpE]
    exact evEs_ok es (Out.run_mono (Out.run_bind h) (fun x st h => hC _ _ _ _ _ h) fun _ _ q => q)
  | .callV i es, l, st, Q, X, h => by
    simp only [evE] at h; simp only [wpE]
    obtain ⟨f, e, h⟩ := optb_run h
    obtain ⟨d, e1, e2⟩ := Option.bind_eq_some_iff.mp e
    refine getV_ok e1 ?_
    cases d <;> simp only [fnV, reduceCtorEq, Option.some.injEq] at e2
    subst e2
    exact evEs_ok es (Out.run_mono (Out.run_bind h) (fun x st h => hC _ _ _ _ _ h) fun _ _ q => q)
  | .blt b es, l, st, Q, X, h => by
    simp only [evE] at h; simp only [wpE]
    refine evEs_ok es (Out.run_mono (Out.run_bind h) (fun x st h => ?_) fun _ _ q => q)
    obtain ⟨r, e, q⟩ := opt_run h
    exact bltV_ok e q
  | .ix a i, l, st, Q, X, h => by
    simp only [evE] at h; simp only [wpE]
    refine evE_ok a (Out.run_mono (Out.run_bind h) (fun x st h => ?_) fun _ _ q => q)
    refine evE_ok i (Out.run_mono (Out.run_bind h) (fun y st h => ?_) fun _ _ q => q)
    obtain ⟨r, e, q⟩ := opt_run h
    exact ixO_ok e q
  | .sl a lo hi, l, st, Q, X, h => by
    simp only [evE] at h; simp only [wpE]
    refine evE_ok a (Out.run_mono (Out.run_bind h) (fun x st h => ?_) fun _ _ q => q)
    refine evO_ok lo (Out.run_mono (Out.run_bind h) (fun u st h => ?_) fun _ _ q => q)
    obtain ⟨r, e, h⟩ := optb_run h
    refine endV_ok e ?_
    refine evO_ok hi (Out.run_mono (Out.run_bind h) (fun u st h => ?_) fun _ _ q => q)
    obtain ⟨r, e, h⟩ := optb_run h
    refine endV_ok e ?_
    obtain ⟨r, e, q⟩ := opt_run h
    exact slV_ok e q
  | .rev a, l, st, Q, X, h => by
    simp only [evE] at h; simp only [wpE]
    refine evE_ok a (Out.run_mono (Out.run_bind h) (fun x st h => ?_) fun _ _ q => q)
    obtain ⟨r, e, q⟩ := opt_run h
    exact revV_ok e q
  | .tup es, l, st, Q, X, h => by
    simp only [evE] at h; simp only [wpE]
    exact evEs_ok es (Out.run_mono (Out.run_bind h) (fun x st h => h) fun _ _ q => q)
  | .lst es, l, st, Q, X, h => by
    simp only [evE] at h; simp only [wpE]
    exact evEs_ok es (Out.run_mono (Out.run_bind h) (fun x st h => h) fun _ _ q => q)
  | .dict ks vs, l, st, Q, X, h => by
    simp only [evE] at h; simp only [wpE]
    refine evEs_ok ks (Out.run_mono (Out.run_bind h) (fun x st h => ?_) fun _ _ q => q)
    refine evEs_ok vs (Out.run_mono (Out.run_bind h) (fun y st h => ?_) fun _ _ q => q)
    split at h
    · rename_i c; exact ⟨c, h⟩
    · exact h.elim
  | .lc own e c, l, st, Q, X, h => by
    simp only [evE] at h; simp only [wpE]
    refine evC_ok c (fun a l st K h => ?_) (calm_run (Out.run_bind h))
    refine evE_ok e (Out.run_mono (calm_run (E := noE) (Out.run_bind h)) (fun x st h => ?_) fun _ _ q => q)
    obtain ⟨r, e, q⟩ := opt_run h
    obtain ⟨m, e2, e3⟩ := Option.map_eq_some_iff.mp e
    subst e3
    exact appV_ok e2 q
  | .sc own e c, l, st, Q, X, h => by
    simp only [evE] at h; simp only [wpE]
    refine evC_ok c (fun a l st K h => ?_) (calm_run (Out.run_bind h))
    refine evE_ok e (Out.run_mono (calm_run (E := noE) (Out.run_bind h)) (fun x st h => ?_) fun _ _ q => q)
    obtain ⟨r, e, q⟩ := opt_run h
    obtain ⟨m, e2, e3⟩ := Option.map_eq_some_iff.mp e
    subst e3
    exact addV_ok e2 q
  | .dc own k v c, l, st, Q, X, h => by
    simp only [evE] at h; simp only [wpE]
    refine evC_ok c (fun a l st K h => ?_) (calm_run (Out.run_bind h))
    refine evE_ok k (Out.run_mono (calm_run (E := noE) (Out.run_bind h)) (fun x st h => ?_) fun _ _ q => q)
    refine evE_ok v (Out.run_mono (calm_run (E := noE) (Out.run_bind h)) (fun y st h => ?_) fun _ _ q => q)
    obtain ⟨r, e, q⟩ := opt_run h
    exact putV_ok e q
  | .val a, l, st, Q, X, h => by
    simp only [evE] at h; simp only [wpE]
    refine evE_ok a (Out.run_mono (Out.run_bind h) (fun x st h => ?_) fun _ _ q => q)
    obtain ⟨r, e, q⟩ := opt_run h
    cases x <;> simp only [valV, reduceCtorEq, Option.some.injEq] at e
    subst e; exact q
  | .get a k x, l, st, Q, X, h => by
    simp only [evE] at h; simp only [wpE]
    refine evE_ok a (Out.run_mono (Out.run_bind h) (fun d st h => ?_) fun _ _ q => q)
    refine evE_ok k (Out.run_mono (Out.run_bind h) (fun k st h => ?_) fun _ _ q => q)
    refine evE_ok x (Out.run_mono (Out.run_bind h) (fun y st h => ?_) fun _ _ q => q)
    obtain ⟨r, e, q⟩ := opt_run h
    cases d <;> simp only [dgetV, reduceCtorEq] at e
    split at e
    · rename_i c; cases e; exact ⟨c, q⟩
    · cases e
  | .sortK _ _ _, l, st, Q, X, h => by simp only [evE] at h; exact h.elim
  | .mkO _, l, st, Q, X, h => by simp only [evE] at h; exact h.elim
theorem evEs_ok : ∀ (e : Es) {l : Loc} {st : Sto} {Q : List D → Sto → Prop} {X : KD}, (evEs sub CV e l).run Q X st → wpEs sub C e l st Q X
  | .nil, l, st, Q, X, h => by simp only [wpEs]; exact h
  | .cons e es, l, st, Q, X, h => by
    simp only [evEs] at h; simp only [wpEs]
    refine evE_ok e (Out.run_mono (Out.run_bind h) (fun x st h => ?_) fun _ _ q => q)
    exact evEs_ok es (Out.run_mono (Out.run_bind h) (fun y st h => h) fun _ _ q => q)
theorem evO_ok : ∀ (e : Oe) {l : Loc} {st : Sto} {Q : Option D → Sto → Prop} {X : KD}, (evO sub CV e l).run Q X st → wpO sub C e l st Q X
  | .none, l, st, Q, X, h => by simp only [wpO]; exact h
  | .some e, l, st, Q, X, h => by
    simp only [evO] at h; simp only [wpO]
    exact evE_ok e (Out.run_mono (Out.run_bind h) (fun x st h => h) fun _ _ q => q)
theorem evI_ok : ∀ (e : It) {l : Loc} {st : Sto} {Q : List D → Sto → Prop} {X : KD}, (evI sub CV e l).run Q X st → wpI sub C e l st Q X
  | .ex e, l, st, Q, X, h => by
    simp only [evI] at h; simp only [wpI]
    refine evE_ok e (Out.run_mono (Out.run_bind h) (fun x st h => ?_) fun _ _ q => q)
    obtain ⟨r, e, q⟩ := opt_run h
    exact walkV_ok e q
  | .lk i, l, st, Q, X, h => by
    simp only [evI] at h; simp only [wpI]
    obtain ⟨r, e, q⟩ := opt_run h
    obtain ⟨d, e1, e2⟩ := Option.bind_eq_some_iff.mp e
    refine getV_ok e1 ?_
    cases d <;> simp only [lkV, reduceCtorEq, Option.some.injEq] at e2
    subst e2
    exact q
  | .rg es, l, st, Q, X, h => by
    simp only [evI] at h; simp only [wpI]
    refine evEs_ok es (Out.run_mono (Out.run_bind h) (fun x st h => ?_) fun _ _ q => q)
    obtain ⟨r, e, q⟩ := opt_run h
    exact rgV_ok e q
  | .zip es, l, st, Q, X, h => by
    simp only [evI] at h; simp only [wpI]
    refine evEs_ok es (Out.run_mono (Out.run_bind h) (fun x st h => ?_) fun _ _ q => q)
    obtain ⟨r, e, q⟩ := optb_run h
    exact seqV_ok e q
  | .enum e, l, st, Q, X, h => by
    simp only [evI] at h; simp only [wpI]
    refine evE_ok e (Out.run_mono (Out.run_bind h) (fun x st h => ?_) fun _ _ q => q)
    obtain ⟨r, e, q⟩ := optb_run h
    exact seqV_ok e q
  | .items e, l, st, Q, X, h => by
    simp only [evI] at h; simp only [wpI]
    refine evE_ok e (Out.run_mono (Out.run_bind h) (fun x st h => ?_) fun _ _ q => q)
    obtain ⟨r, e, q⟩ := opt_run h
    cases x <;> simp only [itemsV, reduceCtorEq, Option.some.injEq] at e
    subst e; exact q
  | .vals e, l, st, Q, X, h => by
    simp only [evI] at h; simp only [wpI]
    refine evE_ok e (Out.run_mono (Out.run_bind h) (fun x st h => ?_) fun _ _ q => q)
    obtain ⟨r, e, q⟩ := opt_run h
    cases x <;> simp only [valsV, reduceCtorEq, Option.some.injEq] at e
    subst e; exact q
  | .rev e, l, st, Q, X, h => by
    simp only [evI] at h; simp only [wpI]
    refine evE_ok e (Out.run_mono (Out.run_bind h) (fun x st h => ?_) fun _ _ q => q)
    obtain ⟨r, e, q⟩ := optb_run h
    exact seqV_ok e q
theorem evD_ok : ∀ (c : Cl) {f : Acc → Loc → Out Acc} {F : Acc → Loc → Sto → (Acc → Sto → Prop) → Prop} {a : Acc} {l : Loc} {st : Sto} {Q : Acc → Sto → Prop}, (∀ a l st K, (f a l).run K noE st → F a l st K) → (evD sub CV c f a l).run Q noE st → wpD sub C c F a l st Q
  | .nil, f, F, a, l, st, Q, hf, h => by simp only [wpD]; exact hf _ _ _ _ h
  | .for_ t it ifs c, f, F, a, l, st, Q, hf, h => by
    simp only [evD] at h; simp only [wpD]
    refine evI_ok it (Out.run_mono (calm_run (E := noE) (Out.run_bind h)) (fun xs st h => ?_) fun _ _ q => q)
    refine evL_run (X := noE) (fun x a st K h => ?_) xs a st Q h
    obtain ⟨l', e, h⟩ := optb_run h
    refine asV_ok t e ?_
    refine evF_ok ifs (Out.run_mono (Out.run_bind h) (fun b st h => ?_) fun _ _ q => q)
    cases b with
    | true => exact evD_ok c hf h
    | false => exact h
theorem evC_ok : ∀ (c : Cl) {own : List Nat} {f : Acc → Loc → Out Acc} {F : Acc → Loc → Sto → (Acc → Sto → Prop) → Prop} {a : Acc} {l : Loc} {st : Sto} {Q : Acc → Sto → Prop}, (∀ a l st K, (f a l).run K noE st → F a l st K) → (evC sub CV c own f a l).run Q noE st → wpC sub C c own F a l st Q
  | .nil, own, f, F, a, l, st, Q, hf, h => by simp only [evC] at h; exact h.elim
  | .for_ t it ifs c, own, f, F, a, l, st, Q, hf, h => by
    simp only [evC] at h; simp only [wpC]
    refine evI_ok it (Out.run_mono (calm_run (E := noE) (Out.run_bind h)) (fun xs st h => ?_) fun _ _ q => q)
    refine evL_run (X := noE) (fun x a st K h => ?_) xs a st Q h
    obtain ⟨l', e, h⟩ := optb_run h
    refine asV_ok t e ?_
    refine evF_ok ifs (Out.run_mono (Out.run_bind h) (fun b st h => ?_) fun _ _ q => q)
    cases b with
    | true => exact evD_ok c hf h
    | false => exact h
theorem evF_ok : ∀ (e : Es) {l : Loc} {st : Sto} {Q : Bool → Sto → Prop}, (evF sub CV e l).run Q noE st → wpF sub C e l st Q
  | .nil, l, st, Q, h => by simp only [wpF]; exact h
  | .cons e es, l, st, Q, h => by
    simp only [evF] at h; simp only [wpF]
    refine evE_ok e (Out.run_mono (calm_run (E := noE) (Out.run_bind h)) (fun x st h => ?_) fun _ _ q => q)
    obtain ⟨r, e, h⟩ := optb_run h
    refine truR_of e ?_
    cases r with
    | true => exact evF_ok es h
    | false => exact h
end
end
end Py
end

section
set_option autoImplicit false
set_option maxHeartbeats 4000000
set_option linter.all false
/-! Ev2: the evaluator of statements and defs. -/
namespace Py
open PySem (Str)
inductive SO where
  | no | nx (l : Loc) | rt (d : D) | bk (l : Loc) | ct (l : Loc) | ex (x : D) (l : Loc)
  deriving DecidableEq
def SO.run (o : SO) (k : Kn) (st : Sto) : Prop := match o with
  | .no => False
  | .nx l => k.nx l st
  | .rt d => k.rt d st
  | .bk l => k.bk l st
  | .ct l => k.ct l st
  | .ex x l => k.ex x l st
/-- an expression's value, then more -/
def Out.thn {α : Type} (o : Out α) (l : Loc) (f : α → SO) : SO := match o with
  | .no => .no
  | .ok a => f a
  | .er x => .ex x l
def SO.then (o : SO) (f : Loc → SO) : SO := match o with
  | .nx l => f l
  | o => o
@[simp] theorem Out.thn_ok {α : Type} (a : α) (l : Loc) (f : α → SO) : (Out.ok a).thn l f = f a := rfl
@[simp] theorem Out.thn_er {α : Type} (x : D) (l : Loc) (f : α → SO) : (Out.er x : Out α).thn l f = .ex x l := rfl
@[simp] theorem Out.thn_no {α : Type} (l : Loc) (f : α → SO) : (Out.no : Out α).thn l f = .no := rfl
@[simp] theorem SO.then_nx (l : Loc) (f : Loc → SO) : (SO.nx l).then f = f l := rfl
@[simp] theorem SO.then_rt (d : D) (f : Loc → SO) : (SO.rt d).then f = .rt d := rfl
@[simp] theorem SO.then_ex (d : D) (l : Loc) (f : Loc → SO) : (SO.ex d l).then f = .ex d l := rfl
@[simp] theorem SO.then_bk (l : Loc) (f : Loc → SO) : (SO.bk l).then f = .bk l := rfl
@[simp] theorem SO.then_ct (l : Loc) (f : Loc → SO) : (SO.ct l).then f = .ct l := rfl
@[simp] theorem SO.then_no (f : Loc → SO) : SO.no.then f = .no := rfl
/-- an option, then more -/
def otn {α : Type} (o : Option α) (f : α → SO) : SO := match o with
  | some a => f a
  | none => .no
@[simp] theorem otn_some {α : Type} (a : α) (f : α → SO) : otn (some a) f = f a := rfl
@[simp] theorem otn_none {α : Type} (f : α → SO) : otn none f = .no := rfl
/-- a loop's turns -/
def evFor : List D → (D → Loc → SO) → Loc → SO
  | [], _, l => .nx l
  | x :: xs, f, l => match f x l with
    | .nx l => evFor xs f l
    | .ct l => evFor xs f l
    | .bk l => .nx l
    | o => o
def evWh : Nat → (Loc → Out Bool) → (Loc → SO) → Loc → SO
  | 0, _, _, _ => .no
  | n + 1, c, f, l => (c l).thn l fun b => if b then match f l with
    | .nx l => evWh n c f l
    | .ct l => evWh n c f l
    | .bk l => .nx l
    | o => o
    else .nx l
mutual
def evS (sub : Str → Str → Bool) (C : CallV) (w : Nat) : Sm → Loc → SO
  | .expr e, l => (evE sub C e l).thn l fun _ => .nx l
  | .asg t e, l => (evE sub C e l).thn l fun d => otn (asV t d l) .nx
  | .own i e, l => (evE sub C e l).thn l fun d => if d.isCon = true ∧ i < l.length then .nx (l.set i (some d)) else .no
  | .aug i o e, l => otn (getV l i) fun a => (evE sub C e l).thn l fun b => otn (opV o a b) fun r => .nx (l.set i (some r))
  | .setO _ _ _, _ => .no
  | .setIx i a v, l => (evE sub C v l).thn l fun v => otn (getV l i) fun d => (evE sub C a l).thn l fun a => match d with
    | .dct ks vs => otn (putV (ks, vs) a v) fun p => .nx (l.set i (some (.dct p.1 p.2)))
    | _ => .no
  | .augIx i a o v, l => (evE sub C a l).thn l fun a => otn (getV l i) fun d => otn (ixV d a) fun old => (evE sub C v l).thn l fun v => otn (opV o old v) fun r => match d with
    | .dct ks vs => otn (putV (ks, vs) a r) fun p => .nx (l.set i (some (.dct p.1 p.2)))
    | .lst xs => match a with
      | .int j => if 0 ≤ j ∧ j < xs.length then .nx (l.set i (some (.lst (xs.set j.toNat r)))) else .no
      | _ => .no
    | _ => .no
  | .app i e, l => otn ((getV l i).bind lkV) fun xs => (evE sub C e l).thn l fun x => otn (appV xs x) fun xs => .nx (l.set i (some (.lst xs)))
  | .ext i e, l => otn ((getV l i).bind lkV) fun xs => (evE sub C e l).thn l fun x => otn (lkV x) fun ys => if xs.length + ys.length ≤ 16777216 then .nx (l.set i (some (.lst (xs ++ ys)))) else .no
  | .upd i e, l => otn (getV l i) fun d => match d with
    | .dct ks vs => (evE sub C e l).thn l fun x => match x with
      | .dct ks' vs' => if keysOk (ks ++ ks') = true ∧ ks.length + ks'.length ≤ 16777216 then .nx (l.set i (some (.dct (dPuts ks vs (ks'.zip vs')).1 (dPuts ks vs (ks'.zip vs')).2))) else .no
      | _ => .no
    | _ => .no
  | .sort i, l => otn ((getV l i).bind lkV) fun xs => if sortOk xs = true ∧ xs.length ≤ 16777216 then .nx (l.set i (some (.lst (sortI xs)))) else .no
  | .sdApp _ _ _, _ => .no
  | .sdSet _ _ _ _, _ => .no
  | .ifSd _ _ _ _ _ _, _ => .no
  | .if_ c a b, l => (evE sub C c l).thn l fun x => otn (tru x) fun r => if r then evSs sub C w a l else evSs sub C w b l
  | .for_ t it body, l => (evI sub C it l).thn l fun xs => evFor xs (fun x l => otn (asV t x l) fun l => evSs sub C w body l) l
  | .while_ c body, l => evWh w (fun l => (evE sub C c l).bind fun x => opt (tru x)) (fun l => evSs sub C w body l) l
  | .ret e, l => (evE sub C e l).thn l .rt
  | .retN, _ => .rt .none
  | .brk, l => .bk l
  | .cnt, l => .ct l
  | .pass, l => .nx l
  | .raise c e, l => (evE sub C e l).thn l fun d => .ex (.exc c d) l
  | .try_ body hs, l => match evSs sub C w body l with
    | .ex x l => evH sub C w hs x l
    | o => o
  | .frz _, l => .nx l
def evSs (sub : Str → Str → Bool) (C : CallV) (w : Nat) : Sms → Loc → SO
  | .nil, l => .nx l
  | .cons s ss, l => (evS sub C w s l).then fun l => evSs sub C w ss l
def evH (sub : Str → Str → Bool) (C : CallV) (w : Nat) : Hs → D → Loc → SO
  | .nil, x, l => .ex x l
  | .cons cs i ss hs, x, l => if cs.any (isOf sub x) then
      match i with
      | some i => if i < l.length then match evSs sub C w ss (l.set i (some x)) with
        | .nx l => .nx (l.set i none)
        | .bk l => .bk (l.set i none)
        | .ct l => .ct (l.set i none)
        | .rt d => .rt d
        | _ => .no
        else .no
      | none => match evSs sub C w ss l with
        | .ex _ _ => .no
        | o => o
    else evH sub C w hs x l
termination_by structural e => e
end
/-- a def called: w turns of a while at most -/
def evCall (P : Tab) (w : Nat) : Nat → CallV
  | 0, _, _ => .no
  | n + 1, f, ds => match P.fn f with
    | some (.body ps m ss) => if ds.length = ps then match evSs P.sub (evCall P w n) w ss (ds.map some ++ List.replicate (m - ps) none) with
      | .nx _ => .ok .none
      | .rt d => .ok d
      | .ex x _ => .er x
      | _ => .no
      else .no
    | _ => .no
theorem thn_run {α : Type} {o : Out α} {l : Loc} {f : α → SO} {k : Kn} {st : Sto} (h : (o.thn l f).run k st) : o.run (fun a st => (f a).run k st) (fun x st => k.ex x l st) st := by
  cases o <;> exact h
theorem otn_run {α : Type} {o : Option α} {f : α → SO} {k : Kn} {st : Sto} (h : (otn o f).run k st) : ∃ a, o = some a ∧ (f a).run k st := by
  cases o with
  | none => exact h.elim
  | some a => exact ⟨a, rfl, h⟩
theorem then_run {o : SO} {f : Loc → SO} {k : Kn} {st : Sto} (h : (o.then f).run k st) : o.run { k with nx := fun l st => (f l).run k st } st := by
  cases o <;> exact h
theorem SO.run_mono {o : SO} {k k' : Kn} {st : Sto} (h : o.run k st) (n : ∀ l, k.nx l st → k'.nx l st) (r : ∀ d, k.rt d st → k'.rt d st) (b : ∀ l, k.bk l st → k'.bk l st) (c : ∀ l, k.ct l st → k'.ct l st) (e : ∀ x l, k.ex x l st → k'.ex x l st) : o.run k' st := by
  cases o
  · exact h
  · exact n _ h
  · exact r _ h
  · exact b _ h
  · exact c _ h
  · exact e _ _ h
theorem lkV_some {d : D} {xs : List D} (h : lkV d = some xs) : d = .lst xs := by
  cases d <;> simp only [lkV, reduceCtorEq, Option.some.injEq] at h
  rw [h]
section
variable {sub : Str → Str → Bool} {CV : CallV} {C : CallS} (hC : CallOk CV C) {w : Nat}
theorem evFor_run {f : D → Loc → SO} {F : D → KL → Loc → Sto → Prop} {k : Kn} (hf : ∀ x (nx : KL) l st, (f x l).run { k with nx := nx, ct := nx, bk := k.nx } st → F x nx l st) : ∀ (xs : List D) (l : Loc) (st : Sto), (evFor xs f l).run k st → forS xs F k.nx l st
  | [], l, st, h => h
  | x :: xs, l, st, h => by
    unfold evFor at h
    refine hf x _ l st ?_
    cases e : f x l with
    | no => rw [e] at h; exact h
    | nx l' => rw [e] at h; exact evFor_run hf xs l' st h
    | rt d => rw [e] at h; exact h
    | bk l' => rw [e] at h; exact h
    | ct l' => rw [e] at h; exact evFor_run hf xs l' st h
    | ex x l' => rw [e] at h; exact h
theorem evWh_run {c : Loc → Out Bool} {f : Loc → SO} {F : KL → Loc → Sto → Prop} {k : Kn} (hf : ∀ (nx : KL) l st, ((c l).thn l fun b => if b then f l else .bk l).run { k with nx := nx, ct := nx, bk := k.nx } st → F nx l st) : ∀ (n : Nat) (l : Loc) (st : Sto), (evWh n c f l).run k st → whL n F l st
  | 0, l, st, h => h
  | n + 1, l, st, h => by
    unfold evWh at h
    refine hf _ l st ?_
    cases e : c l with
    | no => rw [e] at h; exact h
    | er x => rw [e] at h; exact h
    | ok b =>
      rw [e] at h
      simp only [Out.thn_ok] at h ⊢
      cases b with
      | false => exact h
      | true =>
        simp only [if_true] at h ⊢
        cases e2 : f l with
        | no => rw [e2] at h; exact h
        | nx l' => rw [e2] at h; exact evWh_run hf n l' st h
        | rt d => rw [e2] at h; exact h
        | bk l' => rw [e2] at h; exact h
        | ct l' => rw [e2] at h; exact evWh_run hf n l' st h
        | ex x l' => rw [e2] at h; exact h
include hC
mutual
theorem evS_ok : ∀ (s : Sm) {k : Kn} {l : Loc} {st : Sto}, (evS sub CV w s l).run k st → wpS sub C s k l st
  | .expr e, k, l, st, h => by
    simp only [evS] at h; simp only [wpS]
    exact evE_ok hC e (thn_run h)
  | .asg t e, k, l, st, h => by
    simp only [evS] at h; simp only [wpS]
    refine evE_ok hC e (Out.run_mono (thn_run h) (fun d st h => ?_) fun _ _ q => q)
    obtain ⟨l', e, q⟩ := otn_run h
    exact asV_ok t e q
  | .own i e, k, l, st, h => by
    simp only [evS] at h; simp only [wpS]
    refine evE_ok hC e (Out.run_mono (thn_run h) (fun d st h => ?_) fun _ _ q => q)
    split at h
    · rename_i c; exact ⟨c, h⟩
    · exact h.elim
  | .aug i o e, k, l, st, h => by
    simp only [evS] at h; simp only [wpS]
    obtain ⟨a, e1, h⟩ := otn_run h
    refine getV_ok e1 (evE_ok hC e (Out.run_mono (thn_run h) (fun d st h => ?_) fun _ _ q => q))
    obtain ⟨r, e2, q⟩ := otn_run h
    exact opV_ok e2 q
  | .setO _ _ _, k, l, st, h => by simp only [evS] at h; exact h.elim
  | .setIx i a v, k, l, st, h => by
    simp only [evS] at h; simp only [wpS]
    refine evE_ok hC v (Out.run_mono (thn_run h) (fun v st h => ?_) fun _ _ q => q)
    obtain ⟨d, e1, h⟩ := otn_run h
    refine getV_ok e1 (evE_ok hC a (Out.run_mono (thn_run h) (fun a st h => ?_) fun _ _ q => q))
    cases d <;> first | exact h | (obtain ⟨p, e2, q⟩ := otn_run h; exact putV_ok e2 q)
  | .augIx i a o v, k, l, st, h => by
    simp only [evS] at h; simp only [wpS]
    refine evE_ok hC a (Out.run_mono (thn_run h) (fun a st h => ?_) fun _ _ q => q)
    obtain ⟨d, e1, h⟩ := otn_run h
    obtain ⟨old, e2, h⟩ := otn_run h
    refine getV_ok e1 (ixV_ok e2 (evE_ok hC v (Out.run_mono (thn_run h) (fun v st h => ?_) fun _ _ q => q)))
    obtain ⟨r, e3, h⟩ := otn_run h
    refine opV_ok e3 ?_
    cases d <;> first
      | exact h
      | (obtain ⟨p, e2, q⟩ := otn_run h; exact putV_ok e2 q)
      | (cases a <;> first | exact h | (dsimp only at h; split at h <;> first | (rename_i c; exact ⟨c, h⟩) | exact h.elim))
  | .app i e, k, l, st, h => by
    simp only [evS] at h; simp only [wpS]
    obtain ⟨xs, e1, h⟩ := otn_run h
    obtain ⟨d, e2, e3⟩ := Option.bind_eq_some_iff.mp e1
    rw [lkV_some e3] at e2
    refine getV_ok e2 (evE_ok hC e (Out.run_mono (thn_run h) (fun d st h => ?_) fun _ _ q => q))
    obtain ⟨ys, e4, q⟩ := otn_run h
    exact appV_ok e4 q
  | .ext i e, k, l, st, h => by
    simp only [evS] at h; simp only [wpS]
    obtain ⟨xs, e1, h⟩ := otn_run h
    obtain ⟨d, e2, e3⟩ := Option.bind_eq_some_iff.mp e1
    rw [lkV_some e3] at e2
    refine getV_ok e2 (evE_ok hC e (Out.run_mono (thn_run h) (fun d st h => ?_) fun _ _ q => q))
    obtain ⟨ys, e4, h⟩ := otn_run h
    rw [lkV_some e4]
    split at h
    · rename_i c; exact ⟨c, h⟩
    · exact h.elim
  | .upd i e, k, l, st, h => by
    simp only [evS] at h; simp only [wpS]
    obtain ⟨d, e1, h⟩ := otn_run h
    refine getV_ok e1 ?_
    cases d <;> first
      | exact h
      | (refine evE_ok hC e (Out.run_mono (thn_run h) (fun x st h => ?_) fun _ _ q => q)
         cases x <;> first
           | exact h
           | (dsimp only at h; split at h <;> first | (rename_i c; exact ⟨c.1, c.2, h⟩) | exact h.elim))
  | .sort i, k, l, st, h => by
    simp only [evS] at h; simp only [wpS]
    obtain ⟨xs, e1, h⟩ := otn_run h
    obtain ⟨d, e2, e3⟩ := Option.bind_eq_some_iff.mp e1
    rw [lkV_some e3] at e2
    refine getV_ok e2 ?_
    split at h
    · rename_i c; exact ⟨c.1, c.2, by rw [← sortI_eq (sortOk_alk c.1)]; exact h⟩
    · exact h.elim
  | .sdApp _ _ _, k, l, st, h => by simp only [evS] at h; exact h.elim
  | .sdSet _ _ _ _, k, l, st, h => by simp only [evS] at h; exact h.elim
  | .ifSd _ _ _ _ _ _, k, l, st, h => by simp only [evS] at h; exact h.elim
  | .if_ c a b, k, l, st, h => by
    simp only [evS] at h; simp only [wpS]
    refine evE_ok hC c (Out.run_mono (thn_run h) (fun x st h => ?_) fun _ _ q => q)
    obtain ⟨r, e, h⟩ := otn_run h
    refine truR_of e ?_
    cases r with
    | true => exact evSs_ok a h
    | false => exact evSs_ok b h
  | .for_ t it body, k, l, st, h => by
    simp only [evS] at h; simp only [wpS]
    refine evI_ok hC it (Out.run_mono (thn_run h) (fun xs st h => ?_) fun _ _ q => q)
    refine evFor_run (fun x nx l st h => ?_) xs l st h
    obtain ⟨l', e, h⟩ := otn_run h
    exact asV_ok t e (evSs_ok body h)
  | .while_ c body, k, l, st, h => by
    simp only [evS] at h; simp only [wpS]
    refine ⟨w, evWh_run (fun nx l st h => ?_) w l st h⟩
    refine evE_ok hC c (Out.run_mono (Out.run_bind (thn_run h)) (fun x st h => ?_) fun _ _ q => q)
    obtain ⟨r, e, h⟩ := opt_run h
    refine truR_of e ?_
    cases r with
    | true => exact evSs_ok body h
    | false => exact h
  | .ret e, k, l, st, h => by
    simp only [evS] at h; simp only [wpS]
    exact evE_ok hC e (thn_run h)
  | .retN, k, l, st, h => by simp only [evS] at h; simp only [wpS]; exact h
  | .brk, k, l, st, h => by simp only [evS] at h; simp only [wpS]; exact h
  | .cnt, k, l, st, h => by simp only [evS] at h; simp only [wpS]; exact h
  | .pass, k, l, st, h => by simp only [evS] at h; simp only [wpS]; exact h
  | .raise c e, k, l, st, h => by
    simp only [evS] at h; simp only [wpS]
    exact evE_ok hC e (thn_run h)
  | .try_ body hs, k, l, st, h => by
    simp only [evS] at h; simp only [wpS]
    refine evSs_ok body ?_
    cases e : evSs sub CV w body l with
    | ex x l' => rw [e] at h; exact evH_ok hs h
    | no => rw [e] at h; exact h
    | nx _ => rw [e] at h; exact h
    | rt _ => rw [e] at h; exact h
    | bk _ => rw [e] at h; exact h
    | ct _ => rw [e] at h; exact h
  | .frz _, k, l, st, h => by simp only [evS] at h; simp only [wpS]; exact h
theorem evSs_ok : ∀ (s : Sms) {k : Kn} {l : Loc} {st : Sto}, (evSs sub CV w s l).run k st → wpSs sub C s k l st
  | .nil, k, l, st, h => by simp only [evSs] at h; simp only [wpSs]; exact h
  | .cons s ss, k, l, st, h => by
    simp only [evSs] at h; simp only [wpSs]
    refine evS_ok s (SO.run_mono (then_run h) (fun l q => evSs_ok ss q) (fun _ q => q) (fun _ q => q) (fun _ q => q) fun _ _ q => q)
theorem evH_ok : ∀ (s : Hs) {x : D} {k : Kn} {l : Loc} {st : Sto}, (evH sub CV w s x l).run k st → wpH sub C s x k l st
  | .nil, x, k, l, st, h => by simp only [evH] at h; simp only [wpH]; exact h
  | .cons cs i ss hs, x, k, l, st, h => by
    simp only [evH] at h; simp only [wpH]
    split at h
    · rename_i c
      rw [if_pos c]
      cases i with
      | some i =>
        dsimp only at h ⊢
        split at h
        · rename_i c
          refine ⟨c, evSs_ok ss ?_⟩
          cases e : evSs sub CV w ss (l.set i (some x)) with
          | no => rw [e] at h; exact h
          | nx _ => rw [e] at h; exact h
          | rt _ => rw [e] at h; exact h
          | bk _ => rw [e] at h; exact h
          | ct _ => rw [e] at h; exact h
          | ex _ _ => rw [e] at h; exact h
        · exact h.elim
      | none =>
        dsimp only at h ⊢
        refine evSs_ok ss ?_
        cases e : evSs sub CV w ss l with
        | no => rw [e] at h; exact h
        | nx _ => rw [e] at h; exact h
        | rt _ => rw [e] at h; exact h
        | bk _ => rw [e] at h; exact h
        | ct _ => rw [e] at h; exact h
        | ex _ _ => rw [e] at h; exact h
    · rename_i c
      rw [if_neg c]
      exact evH_ok hs h
end
end
theorem evCall_ok (P : Tab) (w : Nat) : ∀ n, CallOk (evCall P w n) (wpCall P n)
  | 0 => fun f ds st Q E h => h
  | n + 1 => fun f ds st Q E h => by
    unfold evCall at h
    unfold wpCall
    split at h
    · rename_i ps m ss e
      rw [e]
      split at h
      · rename_i c
        refine ⟨c, evSs_ok (w := w) (evCall_ok P w n) ss ?_⟩
        revert h
        cases evSs P.sub (evCall P w n) w ss (ds.map some ++ List.replicate (m - ps) none) <;> exact id
      · exact h.elim
    · exact h.elim
end Py
end

section
set_option autoImplicit false
set_option maxHeartbeats 4000000
set_option linter.all false
/-! Lib: loops, comprehensions, draws: the meaning's plain laws. -/
namespace Py
open PySem (Str)
/-! ### loops -/
theorem forL_inv {α : Type} {f : D → α → Sto → (α → Sto → Prop) → Prop} {I : Nat → α → Sto → Prop} {Q : α → Sto → Prop} : ∀ (xs : List D) (k : Nat) (a : α) (st : Sto),
    (∀ i x a st K, xs[i]? = some x → I (k + i) a st → (∀ a' st', I (k + i + 1) a' st' → K a' st') → f x a st K) → I k a st → (∀ a st, I (k + xs.length) a st → Q a st) → forL xs f a st Q
  | [], k, a, st, _, h, q => q a st h
  | x :: xs, k, a, st, hf, h, q => by
    refine hf 0 x a st _ rfl h fun a' st' h' => ?_
    refine forL_inv xs (k + 1) a' st' (fun i y a st K e g m => ?_) h' fun a st g => q a st (by rw [List.length_cons, show k + (xs.length + 1) = k + 1 + xs.length by omega]; exact g)
    have e1 : k + 1 + i = k + (i + 1) := by omega
    rw [e1] at g m
    exact hf (i + 1) y a st K (by simpa using e) g m
theorem forS_inv {f : D → KL → Loc → Sto → Prop} {I : Nat → Loc → Sto → Prop} {nx : KL} : ∀ (xs : List D) (k : Nat) (l : Loc) (st : Sto),
    (∀ i x l st (K : KL), xs[i]? = some x → I (k + i) l st → (∀ l' st', I (k + i + 1) l' st' → K l' st') → f x K l st) → I k l st → (∀ l st, I (k + xs.length) l st → nx l st) → forS xs f nx l st
  | [], k, l, st, _, h, q => q l st h
  | x :: xs, k, l, st, hf, h, q => by
    refine hf 0 x l st _ rfl h fun l' st' h' => ?_
    refine forS_inv xs (k + 1) l' st' (fun i y l st K e g m => ?_) h' fun l st g => q l st (by rw [List.length_cons, show k + (xs.length + 1) = k + 1 + xs.length by omega]; exact g)
    have e1 : k + 1 + i = k + (i + 1) := by omega
    rw [e1] at g m
    exact hf (i + 1) y l st K (by simpa using e) g m
/-! ### the box -/
/-- the box of draws, n draws left -/
def BoxOk (n : Nat) (st : Sto) : Prop := ∃ (ns : List Int) (k r : Int), st.obs = [.lst [.lst (ns.map D.int), .int k, .int r]] ∧ ns.length ≤ 63 ∧ 0 ≤ k ∧ 0 ≤ r ∧ k + n ≤ 1000000000000000000
theorem BoxOk.mono {n m : Nat} {st : Sto} (h : BoxOk n st) (l : m ≤ n) : BoxOk m st := by
  obtain ⟨ns, k, r, h1, h2, h3, h4, h5⟩ := h
  exact ⟨ns, k, r, h1, h2, h3, h4, by omega⟩
/-- what a draw of many gives -/
def Drawn (m r : Int) : Prop := 0 ≤ r ∧ (r < m ∨ r = 0)
/-- the two that make a box, that draw -/
def boxSs : Sms := (.cons (.ret (.mkO (.lst (.cons (.blt .list (.cons (.slot 0) .nil)) (.cons (.cst (.int 0)) (.cons (.cst (.int 0)) .nil)))))) .nil)
def drawSs (a b c : Int) : Sms := (.cons (.if_ (.cmp .lt (.slot 1) (.cst (.int 2))) (.cons (.ret (.cst (.int 0))) .nil) .nil) (.cons (.if_ (.cmp .gt (.ix (.slot 0) (.cst (.int 2))) (.cst (.int 0))) (.cons (.asg (.nm 2) (.bin .mod (.blt .int (.cons (.ix (.slot 0) (.cst (.int 2))) .nil)) (.slot 1))) (.cons (.setO (.slot 0) (.cst (.int 2)) (.bin .fdiv (.ix (.slot 0) (.cst (.int 2))) (.slot 1))) (.cons (.ret (.slot 2)) .nil))) .nil) (.cons (.asg (.nm 3) (.ix (.slot 0) (.cst (.int 1)))) (.cons (.setO (.slot 0) (.cst (.int 1)) (.bin .add (.slot 3) (.cst (.int 1)))) (.cons (.asg (.nm 4) (.ite (.cmp .gt (.blt .len (.cons (.ix (.slot 0) (.cst (.int 0))) .nil)) (.cst (.int 0))) (.ix (.ix (.slot 0) (.cst (.int 0))) (.bin .mod (.slot 3) (.blt .len (.cons (.ix (.slot 0) (.cst (.int 0))) .nil)))) (.cst (.int 0)))) (.cons (.if_ (.and_ (.cmp .lt (.slot 3) (.blt .len (.cons (.ix (.slot 0) (.cst (.int 0))) .nil))) (.cmp .ge (.slot 4) (.bin .pow (.cst (.int 10)) (.cst (.int 18))))) (.cons (.setO (.slot 0) (.cst (.int 2)) (.bin .fdiv (.slot 4) (.slot 1))) (.cons (.ret (.bin .mod (.blt .int (.cons (.slot 4) .nil)) (.slot 1))) .nil)) .nil) (.cons (.asg (.nm 5) (.bin .mod (.bin .mul (.bin .add (.bin .add (.bin .mod (.blt .int (.cons (.slot 4) .nil)) (.cst (.int 2147483629))) (.bin .mul (.cst (.int 5)) (.slot 3))) (.cst (.int 3))) (.cst (.int 48271))) (.cst (.int 2147483647)))) (.cons (.asg (.nm 5) (.bin .mod (.bin .add (.bin .add (.bin .mul (.slot 5) (.slot 5)) (.bin .mul (.bin .mul (.slot 3) (.slot 3)) (.cst (.int a)))) (.bin .mul (.cst (.int b)) (.slot 3))) (.cst (.int 2147483587)))) (.cons (.asg (.nm 5) (.bin .mod (.bin .mul (.bin .add (.bin .mul (.slot 5) (.cst (.int c))) (.slot 3)) (.bin .add (.slot 5) (.cst (.int 7)))) (.cst (.int 2147483629)))) (.cons (.ret (.bin .mod (.bin .fdiv (.slot 5) (.cst (.int 16))) (.slot 1))) .nil))))))))))
theorem box_ok {P : Tab} {n N : Nat} {f : Str} (hP : P.fn f = some (.body 1 1 boxSs)) {ns : List Int} (hn : ns.length ≤ 63) (hN : N ≤ 1000000000000000000) {Q : KD} {E : KD} (q : ∀ st, BoxOk N st → Q (.ref 0) st) : wpCall P (n + 1) f [.lst (ns.map D.int)] ⟨[]⟩ Q E := by
  unfold wpCall
  rw [hP]
  refine ⟨rfl, ?_⟩
  simp only [boxSs, wpSs, wpS, wpE, wpEs, getL, List.map_cons, List.map_nil, List.cons_append, bltR, blt1, listR, mkOR]
  exact q _ ⟨ns, 0, 0, rfl, hn, by omega, by omega, by omega⟩
theorem atI_0 {α : Type} {x : α} {xs : List α} : atI (x :: xs) 0 = some x := by
  unfold atI
  simp
theorem atI_1 {α : Type} {x y : α} {xs : List α} : atI (x :: y :: xs) 1 = some y := by
  unfold atI
  simp
theorem atI_2 {α : Type} {x y z : α} {xs : List α} : atI (x :: y :: z :: xs) 2 = some z := by
  unfold atI
  simp
theorem small_of {i : Int} (h : 0 ≤ i) (h2 : i ≤ 1000000000000000000) : small i := by
  unfold small; omega
theorem draw_ok {P : Tab} {n N : Nat} {f : Str} {a b c : Int} (hP : P.fn f = some (.body 2 6 (drawSs a b c))) (ha : small a) (hb : small b) (hc : small c) {m : Int} (hm : m < 1073741824) {st : Sto} (B : BoxOk (N + 1) st) {Q : KD} {E : KD}
    (q : ∀ r st', Drawn m r → BoxOk N st' → Q (.int r) st') : wpCall P (n + 1) f [.ref 0, .int m] st Q E := by
  obtain ⟨ns, k, r, hst, hn, hk, hr, hkn⟩ := B
  obtain ⟨obs⟩ := st
  dsimp only at hst
  subst hst
  unfold wpCall
  rw [hP]
  refine ⟨rfl, ?_⟩
  simp only [List.map_cons, List.map_nil, List.cons_append, List.nil_append, List.replicate]
  generalize hk0 : ({ nx := fun _ st => Q .none st, rt := Q, bk := fun _ _ => False, ct := fun _ _ => False, ex := fun x _ st => E x st } : Kn) = kn
  have rtq : kn.rt = Q := by rw [← hk0]
  clear hk0
  have s5 : small 5 := by unfold small; omega
  have s4 : small 48271 := by unfold small; omega
  have hk' : small k := small_of hk (by omega)
  have p18 : (10 : Int) ^ (18 : Int).toNat = 1000000000000000000 := by decide
  unfold drawSs
  rw [wpSs]
  simp only [wpS, wpE, wpEs, getL, cmR, truR, tru]
  by_cases h2 : m < 2
  · simp only [h2, decide_true, if_true, wpSs, wpS, wpE, rtq]
    exact q _ _ ⟨by omega, .inr rfl⟩ ⟨ns, k, r, rfl, hn, hk, hr, by omega⟩
  simp only [h2, decide_false, if_false, Bool.false_eq_true]
  rw [wpSs]
  dsimp only
  rw [wpSs]
  simp only [wpS, wpE, wpEs, getL, cmR, truR, tru, ixO, List.getElem?_cons_zero, atI_2, atI_1, atI_0]
  by_cases h3 : 0 < r
  · simp only [h3, decide_true, if_true]
    rw [wpSs]
    simp only [wpS, wpE, wpEs, getL, bltR, blt1, intR, opR, asT, List.length_cons, List.length_nil, List.set_cons_succ, List.set_cons_zero, ixO, List.getElem?_cons_zero, atI_2]
    refine ⟨by omega, by omega, ?_⟩
    rw [wpSs]
    simp only [wpS, wpE, wpEs, getL, bltR, blt1, intR, opR, asT, List.length_cons, List.length_nil, List.set_cons_succ, List.set_cons_zero, ixO, List.getElem?_cons_zero, atI_2, setOR]
    refine ⟨⟨by omega, by omega⟩, ⟨by omega, by omega⟩, ?_⟩
    rw [wpSs]
    simp only [wpS, wpE, getL, rtq]
    exact q _ _ ⟨Int.emod_nonneg _ (by omega), .inl (Int.emod_lt_of_pos _ (by omega))⟩ ⟨ns, k, r / m, rfl, hn, hk, Int.ediv_nonneg hr (by omega), by omega⟩
  simp only [h3, decide_false, if_false, Bool.false_eq_true]
  rw [wpSs]
  dsimp only
  rw [wpSs]
  simp only [wpS, wpE, wpEs, getL, opR, asT, List.length_cons, List.length_nil, List.set_cons_succ, List.set_cons_zero, ixO, List.getElem?_cons_zero, atI_1]
  refine ⟨by omega, ?_⟩
  rw [wpSs]
  simp only [wpS, wpE, wpEs, getL, opR, setOR, List.length_cons, List.length_nil, List.getElem?_cons_zero]
  refine ⟨⟨by omega, by omega⟩, ?_⟩
  have e1 : (1 : Int).toNat = 1 := rfl
  simp only [e1, List.set_cons_succ, List.set_cons_zero]
  have B' : BoxOk N ⟨[.lst [.lst (ns.map D.int), .int (k + 1), .int r]]⟩ := ⟨ns, k + 1, r, rfl, hn, by omega, hr, by omega⟩
  -- from the cell on
  have rest : ∀ z : Int, wpSs P.sub (wpCall P n) (.cons (.if_ (.and_ (.cmp .lt (.slot 3) (.blt .len (.cons (.ix (.slot 0) (.cst (.int 0))) .nil))) (.cmp .ge (.slot 4) (.bin .pow (.cst (.int 10)) (.cst (.int 18))))) (.cons (.setO (.slot 0) (.cst (.int 2)) (.bin .fdiv (.slot 4) (.slot 1))) (.cons (.ret (.bin .mod (.blt .int (.cons (.slot 4) .nil)) (.slot 1))) .nil)) .nil) (.cons (.asg (.nm 5) (.bin .mod (.bin .mul (.bin .add (.bin .add (.bin .mod (.blt .int (.cons (.slot 4) .nil)) (.cst (.int 2147483629))) (.bin .mul (.cst (.int 5)) (.slot 3))) (.cst (.int 3))) (.cst (.int 48271))) (.cst (.int 2147483647)))) (.cons (.asg (.nm 5) (.bin .mod (.bin .add (.bin .add (.bin .mul (.slot 5) (.slot 5)) (.bin .mul (.bin .mul (.slot 3) (.slot 3)) (.cst (.int a)))) (.bin .mul (.cst (.int b)) (.slot 3))) (.cst (.int 2147483587)))) (.cons (.asg (.nm 5) (.bin .mod (.bin .mul (.bin .add (.bin .mul (.slot 5) (.cst (.int c))) (.slot 3)) (.bin .add (.slot 5) (.cst (.int 7)))) (.cst (.int 2147483629)))) (.cons (.ret (.bin .mod (.bin .fdiv (.slot 5) (.cst (.int 16))) (.slot 1))) .nil)))))
      kn [some (.ref 0), some (.int m), none, some (.int k), some (.int z), none] ⟨[.lst [.lst (ns.map D.int), .int (k + 1), .int r]]⟩ := by
    intro z
    have last : wpSs P.sub (wpCall P n) (.cons (.asg (.nm 5) (.bin .mod (.bin .mul (.bin .add (.bin .add (.bin .mod (.blt .int (.cons (.slot 4) .nil)) (.cst (.int 2147483629))) (.bin .mul (.cst (.int 5)) (.slot 3))) (.cst (.int 3))) (.cst (.int 48271))) (.cst (.int 2147483647)))) (.cons (.asg (.nm 5) (.bin .mod (.bin .add (.bin .add (.bin .mul (.slot 5) (.slot 5)) (.bin .mul (.bin .mul (.slot 3) (.slot 3)) (.cst (.int a)))) (.bin .mul (.cst (.int b)) (.slot 3))) (.cst (.int 2147483587)))) (.cons (.asg (.nm 5) (.bin .mod (.bin .mul (.bin .add (.bin .mul (.slot 5) (.cst (.int c))) (.slot 3)) (.bin .add (.slot 5) (.cst (.int 7)))) (.cst (.int 2147483629)))) (.cons (.ret (.bin .mod (.bin .fdiv (.slot 5) (.cst (.int 16))) (.slot 1))) .nil))))
      kn [some (.ref 0), some (.int m), none, some (.int k), some (.int z), none] ⟨[.lst [.lst (ns.map D.int), .int (k + 1), .int r]]⟩ := by
      rw [wpSs]
      simp only [wpS, wpE, wpEs, getL, bltR, blt1, intR, opR, asT, List.length_cons, List.length_nil, List.set_cons_succ, List.set_cons_zero]
      refine ⟨by omega, .inl s5, .inr s4, by omega, by omega, ?_⟩
      generalize hu : (z % 2147483629 + 5 * k + 3) * 48271 % 2147483647 = u
      have hu0 : 0 ≤ u := by rw [← hu]; exact Int.emod_nonneg _ (by omega)
      have hu1 : u < 2147483647 := by rw [← hu]; exact Int.emod_lt_of_pos _ (by omega)
      rw [wpSs]
      simp only [wpS, wpE, wpEs, getL, bltR, blt1, intR, opR, asT, List.length_cons, List.length_nil, List.set_cons_succ, List.set_cons_zero]
      refine ⟨.inl (small_of hu0 (by omega)), .inl hk', .inr ha, .inl hb, by omega, by omega, ?_⟩
      generalize hv : (u * u + k * k * a + b * k) % 2147483587 = v
      have hv0 : 0 ≤ v := by rw [← hv]; exact Int.emod_nonneg _ (by omega)
      have hv1 : v < 2147483587 := by rw [← hv]; exact Int.emod_lt_of_pos _ (by omega)
      rw [wpSs]
      simp only [wpS, wpE, wpEs, getL, bltR, blt1, intR, opR, asT, List.length_cons, List.length_nil, List.set_cons_succ, List.set_cons_zero]
      refine ⟨.inr hc, .inr (small_of (by omega) (by omega)), by omega, by omega, ?_⟩
      rw [wpSs]
      simp only [wpS, wpE, wpEs, getL, bltR, blt1, intR, opR, asT, List.length_cons, List.length_nil, List.set_cons_succ, List.set_cons_zero, rtq]
      refine ⟨⟨by omega, by omega⟩, by omega, ?_⟩
      exact q _ _ ⟨Int.emod_nonneg _ (by omega), .inl (Int.emod_lt_of_pos _ (by omega))⟩ B'
    rw [wpSs]
    simp only [wpS, wpE, wpEs, getL, ixO, List.getElem?_cons_zero, atI_0, bltR, blt1, lenR, List.length_map, cmR, truR, tru]
    by_cases h4 : k < (ns.length : Int)
    · simp only [h4, decide_true, if_true, opR, p18]
      refine ⟨⟨by omega, by omega, by decide⟩, ?_⟩
      by_cases h5 : (1000000000000000000 : Int) ≤ z
      · simp only [h5, decide_true, if_true]
        rw [wpSs]
        simp only [wpS, wpE, wpEs, getL, opR, setOR, List.getElem?_cons_zero, List.length_cons, List.length_nil]
        refine ⟨⟨by omega, by omega⟩, ⟨by omega, by omega⟩, ?_⟩
        rw [wpSs]
        simp only [wpS, wpE, wpEs, getL, opR, bltR, blt1, intR, rtq]
        refine ⟨by omega, ?_⟩
        exact q _ _ ⟨Int.emod_nonneg _ (by omega), .inl (Int.emod_lt_of_pos _ (by omega))⟩ ⟨ns, k + 1, z / m, rfl, hn, by omega, Int.ediv_nonneg (by omega) (by omega), by omega⟩
      · simp only [h5, decide_false, if_false, Bool.false_eq_true]
        rw [wpSs]
        exact last
    · simp only [h4, decide_false, if_false, Bool.false_eq_true]
      rw [wpSs]
      exact last
  rw [wpSs]
  simp only [wpS, wpE, wpEs, getL, ixO, List.getElem?_cons_zero, atI_0, bltR, blt1, lenR, List.length_map, cmR, truR, tru]
  by_cases h6 : (0 : Int) < (ns.length : Int)
  · simp only [h6, decide_true, if_true, opR]
    refine ⟨by trivial, ?_⟩
    have h0 : 0 ≤ k % (ns.length : Int) := Int.emod_nonneg _ (by omega)
    have h1 : k % (ns.length : Int) < ns.length := Int.emod_lt_of_pos _ (by omega)
    generalize k % (ns.length : Int) = i at h0 h1 ⊢
    have e2 : atI (ns.map D.int) i = some (.int (ns[i.toNat]'(by omega))) := by
      unfold atI
      rw [if_pos h0, List.getElem?_map, List.getElem?_eq_getElem (by omega)]
      rfl
    simp only [ixR, e2, asT, List.length_cons, List.length_nil, List.set_cons_succ, List.set_cons_zero]
    exact ⟨by omega, rest _⟩
  · simp only [h6, decide_false, if_false, Bool.false_eq_true, asT, List.length_cons, List.length_nil, List.set_cons_succ, List.set_cons_zero]
    exact ⟨by omega, rest 0⟩
/-! ### comprehensions of the evaluator -/
section
variable {sub : Str → Str → Bool} {C : CallV}
theorem evL_lc {f : D → Acc → Out Acc} {p : D → Bool} {g : D → D} : ∀ (xs as : List D), (∀ x ∈ xs, ∀ a : List D, a.length < 16777216 → f x (a, []) = .ok (if p x then a ++ [g x] else a, [])) → as.length + xs.length ≤ 16777216 → evL xs f (as, []) = .ok (as ++ (xs.filter p).map g, [])
  | [], as, _, _ => by simp [evL]
  | x :: xs, as, h, l => by
    simp only [List.length_cons] at l
    simp only [evL]
    rw [h x (by simp) as (by omega), Out.bind_ok]
    cases e : p x with
    | true =>
      simp only [if_true]
      rw [evL_lc xs (as ++ [g x]) (fun y hy => h y (by simp [hy])) (by simp; omega)]
      simp [e]
    | false =>
      simp only [Bool.false_eq_true, if_false]
      rw [evL_lc xs as (fun y hy => h y (by simp [hy])) (by omega)]
      simp [e]
theorem ev_lc {own : List Nat} {e : E} {t : T} {it : It} {l : Loc} {xs : List D} {g : D → D} (hi : evI sub C it l = .ok xs) (hl : xs.length ≤ 16777216)
    (h : ∀ x ∈ xs, ∃ l', asV t x (wipe l own) = some l' ∧ evE sub C e l' = .ok (g x)) : evE sub C (.lc own e (.for_ t it .nil .nil)) l = .ok (.lst (xs.map g)) := by
  simp only [evE, evC, hi, Out.calm, Out.bind_ok]
  rw [evL_lc (p := fun _ => true) (g := g) xs [] (fun x hx a ha => ?_) (by simpa using hl)]
  · simp only [List.nil_append, Out.bind_ok]
    rw [List.filter_eq_self.mpr (fun _ _ => rfl)]
  · obtain ⟨l', e1, e2⟩ := h x hx
    simp only [e1, opt_some, Out.bind_ok, evF, if_true, evD, e2, Out.calm, appV, ha, Option.map_some]
theorem ev_lcf {own : List Nat} {e c : E} {t : T} {it : It} {l : Loc} {xs : List D} {p : D → Bool} {g : D → D} (hi : evI sub C it l = .ok xs) (hl : xs.length ≤ 16777216)
    (h : ∀ x ∈ xs, ∃ l', asV t x (wipe l own) = some l' ∧ (∃ y, evE sub C c l' = .ok y ∧ tru y = some (p x)) ∧ (p x = true → evE sub C e l' = .ok (g x))) : evE sub C (.lc own e (.for_ t it (.cons c .nil) .nil)) l = .ok (.lst ((xs.filter p).map g)) := by
  simp only [evE, evC, hi, Out.calm, Out.bind_ok]
  rw [evL_lc (p := p) (g := g) xs [] (fun x hx a ha => ?_) (by simpa using hl)]
  · simp
  · obtain ⟨l', e1, ⟨y, e2, e3⟩, e4⟩ := h x hx
    simp only [e1, opt_some, Out.bind_ok, evF, e2, Out.calm, e3]
    cases e5 : p x with
    | true => simp only [if_true, evD, e4 e5, Out.calm, Out.bind_ok, appV, ha, Option.map_some, opt_some]
    | false => simp only [Out.bind_ok, Bool.false_eq_true, if_false]
theorem boolsOf_map {g : D → Bool} : ∀ xs : List D, boolsOf (xs.map fun x => .bool (g x)) = some (xs.map g)
  | [] => rfl
  | x :: xs => by simp [boolsOf, boolsOf_map xs]
theorem blt_all {g : D → Bool} (xs : List D) : bltV sub .all [.lst (xs.map fun x => .bool (g x))] = some (.bool (xs.all g)) := by
  simp only [bltV, blt1V, onLV, boolsOf_map, Option.map_some, List.all_map]
  rfl
theorem blt_any {g : D → Bool} (xs : List D) : bltV sub .any [.lst (xs.map fun x => .bool (g x))] = some (.bool (xs.any g)) := by
  simp only [bltV, blt1V, onLV, boolsOf_map, Option.map_some, List.any_map]
  rfl
/-- all([e for t in it]) -/
theorem ev_all {own : List Nat} {e : E} {t : T} {it : It} {l : Loc} {xs : List D} {g : D → Bool} (hi : evI sub C it l = .ok xs) (hl : xs.length ≤ 16777216)
    (h : ∀ x ∈ xs, ∃ l', asV t x (wipe l own) = some l' ∧ evE sub C e l' = .ok (.bool (g x))) : evE sub C (.blt .all (.cons (.lc own e (.for_ t it .nil .nil)) .nil)) l = .ok (.bool (xs.all g)) := by
  have := ev_lc (g := fun x => .bool (g x)) hi hl h
  simp only [evE, evEs] at this ⊢
  rw [this]
  simp only [Out.bind_ok, blt_all, opt_some]
/-! ### what the built-ins find -/
theorem isi_tup_tuple {xs : List D} : bltV sub (.isinst ["tuple"]) [.tup xs] = some (.bool true) := by kernel_rfl
theorem isi_tup_list {xs : List D} : bltV sub (.isinst ["list"]) [.tup xs] = some (.bool false) := by kernel_rfl
theorem isi_tup_str {xs : List D} : bltV sub (.isinst ["str"]) [.tup xs] = some (.bool false) := by kernel_rfl
theorem isi_tup_int {xs : List D} : bltV sub (.isinst ["int"]) [.tup xs] = some (.bool false) := by kernel_rfl
theorem isi_tup_bool {xs : List D} : bltV sub (.isinst ["bool"]) [.tup xs] = some (.bool false) := by kernel_rfl
theorem isi_lst_tuple {xs : List D} : bltV sub (.isinst ["tuple"]) [.lst xs] = some (.bool false) := by kernel_rfl
theorem isi_lst_list {xs : List D} : bltV sub (.isinst ["list"]) [.lst xs] = some (.bool true) := by kernel_rfl
theorem isi_lst_str {xs : List D} : bltV sub (.isinst ["str"]) [.lst xs] = some (.bool false) := by kernel_rfl
theorem isi_lst_int {xs : List D} : bltV sub (.isinst ["int"]) [.lst xs] = some (.bool false) := by kernel_rfl
theorem isi_lst_bool {xs : List D} : bltV sub (.isinst ["bool"]) [.lst xs] = some (.bool false) := by kernel_rfl
theorem isi_str_tuple {x : Str} : bltV sub (.isinst ["tuple"]) [.str x] = some (.bool false) := by kernel_rfl
theorem isi_str_list {x : Str} : bltV sub (.isinst ["list"]) [.str x] = some (.bool false) := by kernel_rfl
theorem isi_str_str {x : Str} : bltV sub (.isinst ["str"]) [.str x] = some (.bool true) := by kernel_rfl
theorem isi_str_int {x : Str} : bltV sub (.isinst ["int"]) [.str x] = some (.bool false) := by kernel_rfl
theorem isi_str_bool {x : Str} : bltV sub (.isinst ["bool"]) [.str x] = some (.bool false) := by kernel_rfl
theorem isi_int_tuple {i : Int} : bltV sub (.isinst ["tuple"]) [.int i] = some (.bool false) := by kernel_rfl
theorem isi_int_list {i : Int} : bltV sub (.isinst ["list"]) [.int i] = some (.bool false) := by kernel_rfl
theorem isi_int_str {i : Int} : bltV sub (.isinst ["str"]) [.int i] = some (.bool false) := by kernel_rfl
theorem isi_int_int {i : Int} : bltV sub (.isinst ["int"]) [.int i] = some (.bool true) := by kernel_rfl
theorem isi_int_bool {i : Int} : bltV sub (.isinst ["bool"]) [.int i] = some (.bool false) := by kernel_rfl
theorem isi_bool_tuple {b : Bool} : bltV sub (.isinst ["tuple"]) [.bool b] = some (.bool false) := by kernel_rfl
theorem isi_bool_list {b : Bool} : bltV sub (.isinst ["list"]) [.bool b] = some (.bool false) := by kernel_rfl
theorem isi_bool_str {b : Bool} : bltV sub (.isinst ["str"]) [.bool b] = some (.bool false) := by kernel_rfl
theorem isi_bool_int {b : Bool} : bltV sub (.isinst ["int"]) [.bool b] = some (.bool true) := by kernel_rfl
theorem isi_bool_bool {b : Bool} : bltV sub (.isinst ["bool"]) [.bool b] = some (.bool true) := by kernel_rfl
theorem isi_none_tuple  : bltV sub (.isinst ["tuple"]) [.none] = some (.bool false) := by kernel_rfl
theorem isi_none_list  : bltV sub (.isinst ["list"]) [.none] = some (.bool false) := by kernel_rfl
theorem isi_none_str  : bltV sub (.isinst ["str"]) [.none] = some (.bool false) := by kernel_rfl
theorem isi_none_int  : bltV sub (.isinst ["int"]) [.none] = some (.bool false) := by kernel_rfl
theorem isi_none_bool  : bltV sub (.isinst ["bool"]) [.none] = some (.bool false) := by kernel_rfl
theorem len_tup {xs : List D} : bltV sub .len [.tup xs] = some (.int xs.length) := rfl
theorem tuple_tup {xs : List D} : bltV sub .tuple [.tup xs] = some (.tup xs) := rfl
theorem len_lst {xs : List D} : bltV sub .len [.lst xs] = some (.int xs.length) := rfl
theorem tuple_lst {xs : List D} : bltV sub .tuple [.lst xs] = some (.tup xs) := rfl
theorem dict_of {d : D} : bltV sub .dict [d] = dictOfV d := rfl
theorem tru_bool {b : Bool} : tru (.bool b) = some b := rfl
end
/-! ### statements that draw nothing, then the rest -/
def takeS : Nat → Sms → Sms
  | 0, _ => .nil
  | _ + 1, .nil => .nil
  | k + 1, .cons s ss => .cons s (takeS k ss)
def dropS : Nat → Sms → Sms
  | 0, ss => ss
  | _ + 1, .nil => .nil
  | k + 1, .cons _ ss => dropS k ss
theorem wp_split {sub : Str → Str → Bool} {CV : CallV} {C : CallS} (hC : CallOk CV C) {w : Nat} {kn : Kn} {st : Sto} : ∀ (k : Nat) (ss : Sms) (l l' : Loc), evSs sub CV w (takeS k ss) l = .nx l' → wpSs sub C (dropS k ss) kn l' st → wpSs sub C ss kn l st
  | 0, ss, l, l', h, q => by
    simp only [takeS, evSs] at h
    cases h
    exact q
  | k + 1, .nil, l, l', h, q => by
    simp only [takeS, evSs] at h
    cases h
    exact q
  | k + 1, .cons s ss, l, l', h, q => by
    simp only [takeS, evSs] at h
    rw [wpSs]
    refine evS_ok (w := w) hC s ?_
    cases e : evS sub CV w s l <;> rw [e] at h <;> simp only [SO.then_nx, SO.then_rt, SO.then_ex, SO.then_bk, SO.then_ct, SO.then_no, reduceCtorEq] at h
    exact wp_split hC k ss _ l' h q
theorem noC {C : CallS} : CallOk (fun _ _ => .no) C := fun _ _ _ _ _ h => h.elim
end Py
end

section
set_option Elab.async false
set_option linter.all false
set_option maxRecDepth 100000
set_option maxHeartbeats 4000000

namespace K02
open PySem Py
abbrev P : Program := PySem.Challenge.pw_askedbyforms_k02_what_a_house_and_a_ques
def d_is_integer : DefX := ⟨"is_integer", 4, ["value"], ["value"], (.cons (.ret (.and_ (.blt (.isinst ["int"]) (.cons (.slot 0) .nil)) (.not_ (.blt (.isinst ["bool"]) (.cons (.slot 0) .nil))))) .nil)⟩
def d_is_between : DefX := ⟨"is_between", 5, ["value", "low", "high"], ["value", "low", "high"], (.cons (.ret (.and_ (.call "is_integer" (.cons (.slot 0) .nil)) (.cmp2 .le .le (.slot 1) (.slot 0) (.slot 2)))) .nil)⟩
def d_is_pair : DefX := ⟨"is_pair", 6, ["value"], ["value"], (.cons (.ret (.and_ (.blt (.isinst ["tuple"]) (.cons (.slot 0) .nil)) (.cmp .eq (.blt .len (.cons (.slot 0) .nil)) (.cst (.int 2))))) .nil)⟩
def d_are_ascending : DefX := ⟨"are_ascending", 7, ["items"], ["items", "k"], (.cons (.ret (.blt .all (.cons (.lc [1] (.cmp .lt (.ix (.slot 0) (.slot 1)) (.ix (.slot 0) (.bin .add (.slot 1) (.cst (.int 1))))) (.for_ (.nm 1) (.rg (.cons (.bin .sub (.blt .len (.cons (.slot 0) .nil)) (.cst (.int 1))) .nil)) .nil .nil)) .nil))) .nil)⟩
def d_anew : DefX := ⟨"anew", 8, ["value"], ["value", "item"], (.cons (.if_ (.blt (.isinst ["list"]) (.cons (.slot 0) .nil)) (.cons (.ret (.lc [1] (.call "anew" (.cons (.slot 1) .nil)) (.for_ (.nm 1) (.ex (.slot 0)) .nil .nil))) .nil) .nil) (.cons (.if_ (.blt (.isinst ["tuple"]) (.cons (.slot 0) .nil)) (.cons (.ret (.blt .tuple (.cons (.lc [1] (.call "anew" (.cons (.slot 1) .nil)) (.for_ (.nm 1) (.ex (.slot 0)) .nil .nil)) .nil))) .nil) .nil) (.cons (.ret (.slot 0)) .nil)))⟩
def d_letters_of : DefX := ⟨"letters_of", 10, ["ties"], ["ties", "term", "name", "terms"], (.cons (.ret (.blt .sorted (.cons (.sc [2, 3, 1] (.slot 1) (.for_ (.tp (.cons (.nm 2) (.cons (.nm 3) .nil))) (.ex (.slot 0)) .nil (.for_ (.nm 1) (.ex (.slot 3)) (.cons (.blt (.isinst ["str"]) (.cons (.slot 1) .nil)) .nil) .nil))) .nil))) .nil)⟩
def d_is_name : DefX := ⟨"is_name", 26, ["value"], ["value", "sign"], (.cons (.ret (.and_ (.blt (.isinst ["str"]) (.cons (.slot 0) .nil)) (.and_ (.cmp2 .le .le (.cst (.int 1)) (.blt .len (.cons (.slot 0) .nil)) (.glob "MOST_SIGNS" (.int 8))) (.blt .all (.cons (.lc [1] (.cmp .isIn (.slot 1) (.glob "SIGNS" (.str "abcdefghijklmnopqrstuvwxyz"))) (.for_ (.nm 1) (.ex (.slot 0)) .nil .nil)) .nil))))) .nil)⟩
def d_is_tables : DefX := ⟨"is_tables", 27, ["value"], ["value", "one", "name", "columns"], (.cons (.if_ (.or_ (.not_ (.blt (.isinst ["tuple"]) (.cons (.slot 0) .nil))) (.not_ (.cmp2 .le .le (.cst (.int 1)) (.blt .len (.cons (.slot 0) .nil)) (.glob "MOST_TABLES" (.int 6))))) (.cons (.ret (.cst (.bool false))) .nil) .nil) (.cons (.if_ (.not_ (.blt .all (.cons (.lc [1] (.and_ (.call "is_pair" (.cons (.slot 1) .nil)) (.and_ (.call "is_name" (.cons (.ix (.slot 1) (.cst (.int 0))) .nil)) (.call "is_between" (.cons (.ix (.slot 1) (.cst (.int 1))) (.cons (.cst (.int 1)) (.cons (.glob "MOST_COLUMNS" (.int 3)) .nil)))))) (.for_ (.nm 1) (.ex (.slot 0)) .nil .nil)) .nil))) (.cons (.ret (.cst (.bool false))) .nil) .nil) (.cons (.ret (.call "are_ascending" (.cons (.lc [2, 3] (.slot 2) (.for_ (.tp (.cons (.nm 2) (.cons (.nm 3) .nil))) (.ex (.slot 0)) .nil .nil)) .nil))) .nil)))⟩
def d_are_terms : DefX := ⟨"are_terms", 28, ["value", "low", "high"], ["value", "low", "high", "term"], (.cons (.if_ (.or_ (.not_ (.blt (.isinst ["tuple"]) (.cons (.slot 0) .nil))) (.not_ (.cmp2 .le .le (.slot 1) (.blt .len (.cons (.slot 0) .nil)) (.slot 2)))) (.cons (.ret (.cst (.bool false))) .nil) .nil) (.cons (.ret (.blt .all (.cons (.lc [3] (.or_ (.call "is_integer" (.cons (.slot 3) .nil)) (.call "is_name" (.cons (.slot 3) .nil))) (.for_ (.nm 3) (.ex (.slot 0)) .nil .nil)) .nil))) .nil))⟩
def d_is_tie_over : DefX := ⟨"is_tie_over", 29, ["value", "columns"], ["value", "columns"], (.cons (.if_ (.or_ (.not_ (.call "is_pair" (.cons (.slot 0) .nil))) (.or_ (.not_ (.or_ (.call "is_name" (.cons (.ix (.slot 0) (.cst (.int 0))) .nil)) (.call "is_integer" (.cons (.ix (.slot 0) (.cst (.int 0))) .nil)))) (.cmp .notIn (.ix (.slot 0) (.cst (.int 0))) (.slot 1)))) (.cons (.ret (.cst (.bool false))) .nil) .nil) (.cons (.ret (.call "are_terms" (.cons (.ix (.slot 0) (.cst (.int 1))) (.cons (.ix (.slot 1) (.ix (.slot 0) (.cst (.int 0)))) (.cons (.ix (.slot 1) (.ix (.slot 0) (.cst (.int 0)))) .nil))))) .nil))⟩
def d_are_ties_over : DefX := ⟨"are_ties_over", 30, ["value", "columns", "low", "high"], ["value", "columns", "low", "high", "tie"], (.cons (.if_ (.or_ (.not_ (.blt (.isinst ["tuple"]) (.cons (.slot 0) .nil))) (.or_ (.cmp .lt (.blt .len (.cons (.slot 0) .nil)) (.slot 2)) (.and_ (.isK true (.slot 3) .none) (.cmp .gt (.blt .len (.cons (.slot 0) .nil)) (.slot 3))))) (.cons (.ret (.cst (.bool false))) .nil) .nil) (.cons (.ret (.blt .all (.cons (.lc [4] (.call "is_tie_over" (.cons (.slot 4) (.cons (.slot 1) .nil))) (.for_ (.nm 4) (.ex (.slot 0)) .nil .nil)) .nil))) .nil))⟩
def d_is_part_over : DefX := ⟨"is_part_over", 31, ["value", "columns", "most"], ["value", "columns", "most", "letters", "term"], (.cons (.if_ (.or_ (.not_ (.call "is_pair" (.cons (.slot 0) .nil))) (.or_ (.not_ (.call "are_terms" (.cons (.ix (.slot 0) (.cst (.int 0))) (.cons (.cst (.int 0)) (.cons (.glob "MOST_TERMS" (.int 3)) .nil))))) (.not_ (.call "are_ties_over" (.cons (.ix (.slot 0) (.cst (.int 1))) (.cons (.slot 1) (.cons (.cst (.int 0)) (.cons (.slot 2) .nil)))))))) (.cons (.ret (.cst (.bool false))) .nil) .nil) (.cons (.asg (.nm 3) (.call "letters_of" (.cons (.ix (.slot 0) (.cst (.int 1))) .nil))) (.cons (.if_ (.and_ (.isK true (.slot 2) .none) (.cmp .gt (.blt .len (.cons (.slot 3) .nil)) (.glob "MOST_LETTERS" (.int 6)))) (.cons (.ret (.cst (.bool false))) .nil) .nil) (.cons (.ret (.blt .all (.cons (.lc [4] (.or_ (.call "is_integer" (.cons (.slot 4) .nil)) (.cmp .isIn (.slot 4) (.slot 3))) (.for_ (.nm 4) (.ex (.ix (.slot 0) (.cst (.int 0)))) .nil .nil)) .nil))) .nil))))⟩
def d_is_question_over : DefX := ⟨"is_question_over", 32, ["value", "columns", "most"], ["value", "columns", "most", "part"], (.cons (.if_ (.or_ (.not_ (.blt (.isinst ["tuple"]) (.cons (.slot 0) .nil))) (.and_ (.isK true (.slot 2) .none) (.cmp .gt (.blt .len (.cons (.slot 0) .nil)) (.glob "MOST_PARTS" (.int 3))))) (.cons (.ret (.cst (.bool false))) .nil) .nil) (.cons (.if_ (.not_ (.blt .all (.cons (.lc [3] (.call "is_part_over" (.cons (.slot 3) (.cons (.slot 1) (.cons (.slot 2) .nil)))) (.for_ (.nm 3) (.ex (.slot 0)) .nil .nil)) .nil))) (.cons (.ret (.cst (.bool false))) .nil) .nil) (.cons (.ret (.blt .all (.cons (.lc [3] (.cmp .eq (.blt .len (.cons (.ix (.slot 3) (.cst (.int 0))) .nil)) (.blt .len (.cons (.ix (.ix (.slot 0) (.cst (.int 0))) (.cst (.int 0))) .nil))) (.for_ (.nm 3) (.ex (.slot 0)) .nil .nil)) .nil))) .nil)))⟩
def d_is_view : DefX := ⟨"is_view", 33, ["value", "columns"], ["value", "columns"], (.cons (.if_ (.or_ (.not_ (.call "is_pair" (.cons (.slot 0) .nil))) (.or_ (.not_ (.call "is_name" (.cons (.ix (.slot 0) (.cst (.int 0))) .nil))) (.not_ (.call "is_question_over" (.cons (.ix (.slot 0) (.cst (.int 1))) (.cons (.slot 1) (.cons (.glob "MOST_TIES" (.int 6)) .nil))))))) (.cons (.ret (.cst (.bool false))) .nil) .nil) (.cons (.ret (.and_ (.cmp .gt (.blt .len (.cons (.ix (.slot 0) (.cst (.int 1))) .nil)) (.cst (.int 0))) (.cmp .gt (.blt .len (.cons (.ix (.ix (.ix (.slot 0) (.cst (.int 1))) (.cst (.int 0))) (.cst (.int 0))) .nil)) (.cst (.int 0))))) .nil))⟩
def d_are_views : DefX := ⟨"are_views", 34, ["value", "columns"], ["value", "columns", "one", "names", "name", "question"], (.cons (.if_ (.or_ (.not_ (.blt (.isinst ["tuple"]) (.cons (.slot 0) .nil))) (.or_ (.cmp .gt (.blt .len (.cons (.slot 0) .nil)) (.glob "MOST_VIEWS" (.int 4))) (.not_ (.blt .all (.cons (.lc [2] (.call "is_view" (.cons (.slot 2) (.cons (.slot 1) .nil))) (.for_ (.nm 2) (.ex (.slot 0)) .nil .nil)) .nil))))) (.cons (.ret (.cst (.bool false))) .nil) .nil) (.cons (.asg (.nm 3) (.lc [4, 5] (.slot 4) (.for_ (.tp (.cons (.nm 4) (.cons (.nm 5) .nil))) (.ex (.slot 0)) .nil .nil))) (.cons (.ret (.and_ (.call "are_ascending" (.cons (.slot 3) .nil)) (.not_ (.blt .any (.cons (.lc [4] (.cmp .isIn (.slot 4) (.slot 1)) (.for_ (.nm 4) (.ex (.slot 3)) .nil .nil)) .nil))))) .nil)))⟩
def d_is_rule : DefX := ⟨"is_rule", 35, ["value", "columns"], ["value", "columns"], (.cons (.if_ (.or_ (.not_ (.call "is_pair" (.cons (.slot 0) .nil))) (.not_ (.call "are_ties_over" (.cons (.ix (.slot 0) (.cst (.int 0))) (.cons (.slot 1) (.cons (.cst (.int 1)) (.cons (.glob "MOST_BODY" (.int 3)) .nil))))))) (.cons (.ret (.cst (.bool false))) .nil) .nil) (.cons (.ret (.call "are_ties_over" (.cons (.ix (.slot 0) (.cst (.int 1))) (.cons (.slot 1) (.cons (.cst (.int 1)) (.cons (.glob "MOST_HEAD" (.int 2)) .nil)))))) .nil))⟩
def d_are_rules : DefX := ⟨"are_rules", 36, ["value", "columns"], ["value", "columns", "one", "k"], (.cons (.if_ (.or_ (.not_ (.blt (.isinst ["tuple"]) (.cons (.slot 0) .nil))) (.or_ (.cmp .gt (.blt .len (.cons (.slot 0) .nil)) (.glob "MOST_RULES" (.int 6))) (.not_ (.blt .all (.cons (.lc [2] (.call "is_rule" (.cons (.slot 2) (.cons (.slot 1) .nil))) (.for_ (.nm 2) (.ex (.slot 0)) .nil .nil)) .nil))))) (.cons (.ret (.cst (.bool false))) .nil) .nil) (.cons (.ret (.blt .all (.cons (.lc [3] (.cmp .notIn (.ix (.slot 0) (.slot 3)) (.sl (.slot 0) .none (.some (.slot 3)))) (.for_ (.nm 3) (.rg (.cons (.blt .len (.cons (.slot 0) .nil)) .nil)) .nil .nil)) .nil))) .nil))⟩
def d_are_columns : DefX := ⟨"are_columns", 37, ["value", "most"], ["value", "most", "column"], (.cons (.if_ (.or_ (.not_ (.blt (.isinst ["tuple"]) (.cons (.slot 0) .nil))) (.not_ (.blt .all (.cons (.lc [2] (.call "is_between" (.cons (.slot 2) (.cons (.cst (.int 0)) (.cons (.bin .sub (.slot 1) (.cst (.int 1))) .nil)))) (.for_ (.nm 2) (.ex (.slot 0)) .nil .nil)) .nil)))) (.cons (.ret (.cst (.bool false))) .nil) .nil) (.cons (.ret (.call "are_ascending" (.cons (.slot 0) .nil))) .nil))⟩
def d_is_tells : DefX := ⟨"is_tells", 38, ["value", "columns"], ["value", "columns", "most"], (.cons (.if_ (.or_ (.not_ (.blt (.isinst ["tuple"]) (.cons (.slot 0) .nil))) (.or_ (.cmp .ne (.blt .len (.cons (.slot 0) .nil)) (.cst (.int 3))) (.or_ (.not_ (.call "is_name" (.cons (.ix (.slot 0) (.cst (.int 0))) .nil))) (.cmp .notIn (.ix (.slot 0) (.cst (.int 0))) (.slot 1))))) (.cons (.ret (.cst (.bool false))) .nil) .nil) (.cons (.asg (.nm 2) (.ix (.slot 1) (.ix (.slot 0) (.cst (.int 0))))) (.cons (.ret (.and_ (.call "are_columns" (.cons (.ix (.slot 0) (.cst (.int 1))) (.cons (.slot 2) .nil))) (.and_ (.call "is_between" (.cons (.ix (.slot 0) (.cst (.int 2))) (.cons (.cst (.int 0)) (.cons (.bin .sub (.slot 2) (.cst (.int 1))) .nil)))) (.cmp .notIn (.ix (.slot 0) (.cst (.int 2))) (.ix (.slot 0) (.cst (.int 1))))))) .nil)))⟩
def d_is_form_over : DefX := ⟨"is_form_over", 39, ["value", "columns"], ["value", "columns"], (.cons (.if_ (.or_ (.not_ (.call "is_pair" (.cons (.slot 0) .nil))) (.or_ (.not_ (.call "is_name" (.cons (.ix (.slot 0) (.cst (.int 0))) .nil))) (.cmp .notIn (.ix (.slot 0) (.cst (.int 0))) (.slot 1)))) (.cons (.ret (.cst (.bool false))) .nil) .nil) (.cons (.ret (.call "are_columns" (.cons (.ix (.slot 0) (.cst (.int 1))) (.cons (.ix (.slot 1) (.ix (.slot 0) (.cst (.int 0)))) .nil)))) .nil))⟩
def d_are_all : DefX := ⟨"are_all", 40, ["value", "most", "columns", "is_one"], ["value", "most", "columns", "is_one", "one"], (.cons (.if_ (.or_ (.not_ (.blt (.isinst ["tuple"]) (.cons (.slot 0) .nil))) (.or_ (.cmp .gt (.blt .len (.cons (.slot 0) .nil)) (.slot 1)) (.not_ (.blt .all (.cons (.lc [4] (.callV 3 (.cons (.slot 4) (.cons (.slot 2) .nil))) (.for_ (.nm 4) (.ex (.slot 0)) .nil .nil)) .nil))))) (.cons (.ret (.cst (.bool false))) .nil) .nil) (.cons (.ret (.call "are_ascending" (.cons (.slot 0) .nil))) .nil))⟩
def d_is_house : DefX := ⟨"is_house", 41, ["value"], ["value", "columns"], (.cons (.if_ (.or_ (.not_ (.blt (.isinst ["tuple"]) (.cons (.slot 0) .nil))) (.or_ (.cmp .ne (.blt .len (.cons (.slot 0) .nil)) (.cst (.int 5))) (.not_ (.call "is_tables" (.cons (.ix (.slot 0) (.cst (.int 0))) .nil))))) (.cons (.ret (.cst (.bool false))) .nil) .nil) (.cons (.asg (.nm 1) (.blt .dict (.cons (.ix (.slot 0) (.cst (.int 0))) .nil))) (.cons (.if_ (.or_ (.not_ (.call "are_views" (.cons (.ix (.slot 0) (.cst (.int 1))) (.cons (.slot 1) .nil)))) (.not_ (.call "are_rules" (.cons (.ix (.slot 0) (.cst (.int 2))) (.cons (.slot 1) .nil))))) (.cons (.ret (.cst (.bool false))) .nil) .nil) (.cons (.if_ (.not_ (.call "are_all" (.cons (.ix (.slot 0) (.cst (.int 3))) (.cons (.glob "MOST_TELLS" (.int 6)) (.cons (.slot 1) (.cons (.fnv "is_tells") .nil)))))) (.cons (.ret (.cst (.bool false))) .nil) .nil) (.cons (.ret (.call "are_all" (.cons (.ix (.slot 0) (.cst (.int 4))) (.cons (.glob "MOST_FORMS" (.int 12)) (.cons (.call "columns_in" (.cons (.slot 0) .nil)) (.cons (.fnv "is_form_over") .nil)))))) .nil)))))⟩
def d_columns_in : DefX := ⟨"columns_in", 42, ["house"], ["house", "found", "name", "question"], (.cons (.own 1 (.blt .dict (.cons (.ix (.slot 0) (.cst (.int 0))) .nil))) (.cons (.for_ (.tp (.cons (.nm 2) (.cons (.nm 3) .nil))) (.ex (.ix (.slot 0) (.cst (.int 1)))) (.cons (.setIx 1 (.slot 2) (.blt .len (.cons (.ix (.ix (.slot 3) (.cst (.int 0))) (.cst (.int 0))) .nil))) .nil)) (.cons (.frz 1) (.cons (.ret (.slot 1)) .nil))))⟩
def d_need_house : DefX := ⟨"need_house", 43, ["house"], ["house"], (.cons (.if_ (.not_ (.call "is_house" (.cons (.slot 0) .nil))) (.cons (.raise "InvalidHouse" (.call "anew" (.cons (.slot 0) .nil))) .nil) .nil) .nil)⟩
def d_is_question : DefX := ⟨"is_question", 44, ["house", "value"], ["house", "value"], (.cons (.expr (.call "need_house" (.cons (.slot 0) .nil))) (.cons (.ret (.call "is_question_over" (.cons (.slot 1) (.cons (.call "columns_in" (.cons (.slot 0) .nil)) (.cons (.glob "MOST_TIES" (.int 6)) .nil))))) .nil))⟩
def d__law_box : DefX := ⟨"_law_box", 46, ["script"], ["script"], (.cons (.ret (.mkO (.lst (.cons (.blt .list (.cons (.slot 0) .nil)) (.cons (.cst (.int 0)) (.cons (.cst (.int 0)) .nil)))))) .nil)⟩
def d__law_draw : DefX := ⟨"_law_draw", 47, ["box", "many"], ["box", "many", "got", "k", "cell", "mixed"], (.cons (.if_ (.cmp .lt (.slot 1) (.cst (.int 2))) (.cons (.ret (.cst (.int 0))) .nil) .nil) (.cons (.if_ (.cmp .gt (.ix (.slot 0) (.cst (.int 2))) (.cst (.int 0))) (.cons (.asg (.nm 2) (.bin .mod (.blt .int (.cons (.ix (.slot 0) (.cst (.int 2))) .nil)) (.slot 1))) (.cons (.setO (.slot 0) (.cst (.int 2)) (.bin .fdiv (.ix (.slot 0) (.cst (.int 2))) (.slot 1))) (.cons (.ret (.slot 2)) .nil))) .nil) (.cons (.asg (.nm 3) (.ix (.slot 0) (.cst (.int 1)))) (.cons (.setO (.slot 0) (.cst (.int 1)) (.bin .add (.slot 3) (.cst (.int 1)))) (.cons (.asg (.nm 4) (.ite (.cmp .gt (.blt .len (.cons (.ix (.slot 0) (.cst (.int 0))) .nil)) (.cst (.int 0))) (.ix (.ix (.slot 0) (.cst (.int 0))) (.bin .mod (.slot 3) (.blt .len (.cons (.ix (.slot 0) (.cst (.int 0))) .nil)))) (.cst (.int 0)))) (.cons (.if_ (.and_ (.cmp .lt (.slot 3) (.blt .len (.cons (.ix (.slot 0) (.cst (.int 0))) .nil))) (.cmp .ge (.slot 4) (.bin .pow (.cst (.int 10)) (.cst (.int 18))))) (.cons (.setO (.slot 0) (.cst (.int 2)) (.bin .fdiv (.slot 4) (.slot 1))) (.cons (.ret (.bin .mod (.blt .int (.cons (.slot 4) .nil)) (.slot 1))) .nil)) .nil) (.cons (.asg (.nm 5) (.bin .mod (.bin .mul (.bin .add (.bin .add (.bin .mod (.blt .int (.cons (.slot 4) .nil)) (.cst (.int 2147483629))) (.bin .mul (.cst (.int 5)) (.slot 3))) (.cst (.int 3))) (.cst (.int 48271))) (.cst (.int 2147483647)))) (.cons (.asg (.nm 5) (.bin .mod (.bin .add (.bin .add (.bin .mul (.slot 5) (.slot 5)) (.bin .mul (.bin .mul (.slot 3) (.slot 3)) (.cst (.int 40692)))) (.bin .mul (.cst (.int 11)) (.slot 3))) (.cst (.int 2147483587)))) (.cons (.asg (.nm 5) (.bin .mod (.bin .mul (.bin .add (.bin .mul (.slot 5) (.cst (.int 69621))) (.slot 3)) (.bin .add (.slot 5) (.cst (.int 7)))) (.cst (.int 2147483629)))) (.cons (.ret (.bin .mod (.bin .fdiv (.slot 5) (.cst (.int 16))) (.slot 1))) .nil))))))))))⟩
def d__law_says : DefX := ⟨"_law_says", 48, ["said", "due"], ["said", "due"], (.cons (.ret (.and_ (.blt (.isinst ["bool"]) (.cons (.slot 0) .nil)) (.cmp .eq (.slot 0) (.slot 1)))) .nil)⟩
def d__law_forms : DefX := ⟨"_law_forms", 49, ["box", "columns", "many"], ["box", "columns", "many", "found", "turn", "name", "asked", "column"], (.cons (.own 3 (.lst .nil)) (.cons (.for_ (.nm 4) (.rg (.cons (.call "_law_draw" (.cons (.slot 0) (.cons (.bin .add (.slot 2) (.cst (.int 1))) .nil))) .nil)) (.cons (.asg (.nm 5) (.ix (.blt .sorted (.cons (.slot 1) .nil)) (.call "_law_draw" (.cons (.slot 0) (.cons (.blt .len (.cons (.slot 1) .nil)) .nil))))) (.cons (.asg (.nm 6) (.blt .tuple (.cons (.lc [7] (.slot 7) (.for_ (.nm 7) (.rg (.cons (.ix (.slot 1) (.slot 5)) .nil)) (.cons (.cmp .eq (.call "_law_draw" (.cons (.slot 0) (.cons (.cst (.int 2)) .nil))) (.cst (.int 0))) .nil) .nil)) .nil))) (.cons (.if_ (.cmp .notIn (.tup (.cons (.slot 5) (.cons (.slot 6) .nil))) (.bor 3)) (.cons (.app 3 (.tup (.cons (.slot 5) (.cons (.slot 6) .nil)))) .nil) .nil) .nil)))) (.cons (.ret (.blt .tuple (.cons (.blt .sorted (.cons (.bor 3) .nil)) .nil))) .nil)))⟩
def d__law_letters : DefX := ⟨"_law_letters", 50, ["ties"], ["ties", "found", "name", "terms", "term"], (.cons (.own 1 (.lst .nil)) (.cons (.for_ (.tp (.cons (.nm 2) (.cons (.nm 3) .nil))) (.ex (.slot 0)) (.cons (.ext 1 (.lc [4] (.slot 4) (.for_ (.nm 4) (.ex (.slot 3)) (.cons (.blt (.isinst ["str"]) (.cons (.slot 4) .nil)) .nil) .nil))) .nil)) (.cons (.ret (.blt .sorted (.cons (.blt .set (.cons (.bor 1) .nil)) .nil))) .nil)))⟩
def d__law_part : DefX := ⟨"_law_part", 51, ["box", "columns", "width", "most"], ["box", "columns", "width", "most", "ties", "turn", "name", "column", "letters", "head"], (.cons (.own 4 (.lst .nil)) (.cons (.for_ (.nm 5) (.rg (.cons (.call "_law_draw" (.cons (.slot 0) (.cons (.bin .add (.slot 3) (.cst (.int 1))) .nil))) .nil)) (.cons (.asg (.nm 6) (.ix (.blt .sorted (.cons (.slot 1) .nil)) (.call "_law_draw" (.cons (.slot 0) (.cons (.blt .len (.cons (.slot 1) .nil)) .nil))))) (.cons (.app 4 (.tup (.cons (.slot 6) (.cons (.blt .tuple (.cons (.lc [7] (.call "_law_term" (.cons (.slot 0) .nil)) (.for_ (.nm 7) (.rg (.cons (.ix (.slot 1) (.slot 6)) .nil)) .nil .nil)) .nil)) .nil)))) .nil))) (.cons (.frz 4) (.cons (.asg (.nm 8) (.call "_law_letters" (.cons (.slot 4) .nil))) (.cons (.asg (.nm 9) (.lc [5] (.ite (.and_ (.cmp .gt (.blt .len (.cons (.slot 8) .nil)) (.cst (.int 0))) (.cmp .gt (.call "_law_draw" (.cons (.slot 0) (.cons (.cst (.int 5)) .nil))) (.cst (.int 0)))) (.ix (.slot 8) (.call "_law_draw" (.cons (.slot 0) (.cons (.blt .len (.cons (.slot 8) .nil)) .nil)))) (.ix (.lst (.cons (.cst (.int 1)) (.cons (.cst (.int 2)) (.cons (.neg (.cst (.int 3))) .nil)))) (.call "_law_draw" (.cons (.slot 0) (.cons (.cst (.int 3)) .nil))))) (.for_ (.nm 5) (.rg (.cons (.slot 2) .nil)) .nil .nil))) (.cons (.ret (.tup (.cons (.blt .tuple (.cons (.slot 9) .nil)) (.cons (.blt .tuple (.cons (.slot 4) .nil)) .nil)))) .nil))))))⟩
def d__law_term : DefX := ⟨"_law_term", 52, ["box"], ["box"], (.cons (.ret (.ix (.lst (.cons (.cst (.str "x")) (.cons (.cst (.str "y")) (.cons (.cst (.str "x")) (.cons (.cst (.str "z")) (.cons (.cst (.int 1)) (.cons (.cst (.str "y")) (.cons (.cst (.int 2)) (.cons (.cst (.str "w")) .nil))))))))) (.call "_law_draw" (.cons (.slot 0) (.cons (.cst (.int 8)) .nil))))) .nil)⟩
def d__law_columns : DefX := ⟨"_law_columns", 53, ["house"], ["house", "found", "name", "question"], (.cons (.own 1 (.blt .dict (.cons (.ix (.slot 0) (.cst (.int 0))) .nil))) (.cons (.for_ (.tp (.cons (.nm 2) (.cons (.nm 3) .nil))) (.ex (.ix (.slot 0) (.cst (.int 1)))) (.cons (.setIx 1 (.slot 2) (.blt .len (.cons (.ix (.ix (.slot 3) (.cst (.int 0))) (.cst (.int 0))) .nil))) .nil)) (.cons (.frz 1) (.cons (.ret (.slot 1)) .nil))))⟩
def d__law_house : DefX := ⟨"_law_house", 54, ["box"], ["box", "tables", "views", "sign", "rules", "tells", "house"], (.cons (.asg (.nm 1) (.tup (.cons (.tup (.cons (.cst (.str "e")) (.cons (.cst (.int 2)) .nil))) (.cons (.tup (.cons (.cst (.str "p")) (.cons (.cst (.int 1)) .nil))) (.cons (.tup (.cons (.cst (.str "s")) (.cons (.cst (.int 3)) .nil))) .nil))))) (.cons (.asg (.nm 2) (.blt .tuple (.cons (.lc [3] (.tup (.cons (.bin .add (.cst (.str "v")) (.slot 3)) (.cons (.call "_law_view" (.cons (.slot 0) .nil)) .nil))) (.for_ (.nm 3) (.ex (.sl (.cst (.str "abcd")) .none (.some (.call "_law_draw" (.cons (.slot 0) (.cons (.cst (.int 3)) .nil)))))) .nil .nil)) .nil))) (.cons (.own 4 (.lst (.cons (.tup (.cons (.tup (.cons (.tup (.cons (.cst (.str "e")) (.cons (.tup (.cons (.cst (.str "x")) (.cons (.cst (.str "y")) .nil))) .nil))) .nil)) (.cons (.tup (.cons (.tup (.cons (.cst (.str "p")) (.cons (.tup (.cons (.cst (.str "x")) .nil)) .nil))) .nil)) .nil))) (.cons (.tup (.cons (.tup (.cons (.tup (.cons (.cst (.str "p")) (.cons (.tup (.cons (.cst (.str "x")) .nil)) .nil))) (.cons (.tup (.cons (.cst (.str "e")) (.cons (.tup (.cons (.cst (.int 1)) (.cons (.cst (.str "x")) .nil))) .nil))) .nil))) (.cons (.tup (.cons (.tup (.cons (.cst (.str "s")) (.cons (.tup (.cons (.cst (.str "x")) (.cons (.cst (.str "z")) (.cons (.cst (.int 2)) .nil)))) .nil))) (.cons (.tup (.cons (.cst (.str "s")) (.cons (.tup (.cons (.cst (.str "z")) (.cons (.cst (.str "z")) (.cons (.cst (.str "x")) .nil)))) .nil))) .nil))) .nil))) .nil)))) (.cons (.app 4 (.tup (.cons (.tup (.cons (.tup (.cons (.cst (.str "p")) (.cons (.tup (.cons (.cst (.int 3)) .nil)) .nil))) .nil)) (.cons (.tup (.cons (.tup (.cons (.cst (.str "s")) (.cons (.tup (.cons (.cst (.int 1)) (.cons (.cst (.int 1)) (.cons (.cst (.int 1)) .nil)))) .nil))) .nil)) .nil)))) (.cons (.asg (.nm 5) (.lst (.cons (.tup (.cons (.cst (.str "e")) (.cons (.tup .nil) (.cons (.cst (.int 0)) .nil)))) (.cons (.tup (.cons (.cst (.str "e")) (.cons (.tup (.cons (.cst (.int 0)) .nil)) (.cons (.cst (.int 1)) .nil)))) (.cons (.tup (.cons (.cst (.str "s")) (.cons (.tup (.cons (.cst (.int 0)) (.cons (.cst (.int 2)) .nil))) (.cons (.cst (.int 1)) .nil)))) (.cons (.tup (.cons (.cst (.str "s")) (.cons (.tup (.cons (.cst (.int 1)) .nil)) (.cons (.cst (.int 0)) .nil)))) .nil)))))) (.cons (.asg (.nm 6) (.tup (.cons (.slot 1) (.cons (.slot 2) (.cons (.blt .tuple (.cons (.sl (.bor 4) .none (.some (.call "_law_draw" (.cons (.slot 0) (.cons (.cst (.int 4)) .nil))))) .nil)) (.cons (.blt .tuple (.cons (.sl (.slot 5) (.some (.call "_law_draw" (.cons (.slot 0) (.cons (.cst (.int 2)) .nil)))) (.some (.bin .add (.cst (.int 1)) (.call "_law_draw" (.cons (.slot 0) (.cons (.cst (.int 4)) .nil)))))) .nil)) (.cons (.tup .nil) .nil))))))) (.cons (.ret (.bin .add (.sl (.slot 6) .none (.some (.cst (.int 4)))) (.tup (.cons (.call "_law_forms" (.cons (.slot 0) (.cons (.call "_law_columns" (.cons (.slot 6) .nil)) (.cons (.cst (.int 4)) .nil)))) .nil)))) .nil)))))))⟩
def d__law_view : DefX := ⟨"_law_view", 55, ["box"], ["box", "one"], (.cons (.asg (.nm 1) (.tup (.cons (.tup (.cons (.cst (.str "x")) (.cons (.cst (.int 2)) .nil))) (.cons (.tup (.cons (.tup (.cons (.cst (.str "e")) (.cons (.tup (.cons (.cst (.str "x")) (.cons (.cst (.str "y")) .nil))) .nil))) .nil)) .nil)))) (.cons (.ret (.ix (.lst (.cons (.tup (.cons (.slot 1) .nil)) (.cons (.tup (.cons (.slot 1) (.cons (.tup (.cons (.tup (.cons (.cst (.str "y")) (.cons (.cst (.str "y")) .nil))) (.cons (.tup (.cons (.tup (.cons (.cst (.str "s")) (.cons (.tup (.cons (.cst (.str "x")) (.cons (.cst (.str "y")) (.cons (.cst (.str "z")) .nil)))) .nil))) .nil)) .nil))) .nil))) (.cons (.tup (.cons (.tup (.cons (.tup (.cons (.cst (.str "x")) .nil)) (.cons (.tup (.cons (.tup (.cons (.cst (.str "p")) (.cons (.tup (.cons (.cst (.str "x")) .nil)) .nil))) (.cons (.tup (.cons (.cst (.str "p")) (.cons (.tup (.cons (.cst (.str "x")) .nil)) .nil))) .nil))) .nil))) .nil)) (.cons (.tup (.cons (.tup (.cons (.tup (.cons (.cst (.int 7)) (.cons (.cst (.int 7)) (.cons (.cst (.int 7)) .nil)))) (.cons (.tup .nil) .nil))) .nil)) .nil))))) (.call "_law_draw" (.cons (.slot 0) (.cons (.cst (.int 4)) .nil))))) .nil))⟩
def d__law_bent : DefX := ⟨"_law_bent", 56, ["box", "house"], ["box", "house", "tables", "views", "rules", "tells", "forms", "view", "rule", "rows", "sign"], (.cons (.asg (.tp (.cons (.nm 2) (.cons (.nm 3) (.cons (.nm 4) (.cons (.nm 5) (.cons (.nm 6) .nil)))))) (.slot 1)) (.cons (.asg (.tp (.cons (.nm 7) (.cons (.nm 8) .nil))) (.tup (.cons (.tup (.cons (.cst (.str "zz")) (.cons (.tup (.cons (.tup (.cons (.tup (.cons (.cst (.int 1)) .nil)) (.cons (.tup .nil) .nil))) .nil)) .nil))) (.cons (.tup (.cons (.tup (.cons (.tup (.cons (.cst (.str "e")) (.cons (.tup (.cons (.cst (.str "x")) (.cons (.cst (.str "y")) .nil))) .nil))) .nil)) (.cons (.tup (.cons (.tup (.cons (.cst (.str "e")) (.cons (.tup (.cons (.cst (.str "y")) (.cons (.cst (.str "x")) .nil))) .nil))) .nil)) .nil))) .nil)))) (.cons (.own 9 (.lst (.cons (.tup (.cons (.slot 1) (.cons (.cst (.bool true)) .nil))) (.cons (.tup (.cons (.blt .list (.cons (.slot 1) .nil)) (.cons (.cst (.bool false)) .nil))) (.cons (.tup (.cons (.sl (.slot 1) .none (.some (.cst (.int 4)))) (.cons (.cst (.bool false)) .nil))) (.cons (.tup (.cons (.tup (.cons (.slot 2) (.cons (.slot 3) (.cons (.tup (.cons (.slot 8) .nil)) (.cons (.slot 5) (.cons (.slot 6) .nil)))))) (.cons (.cst (.bool true)) .nil))) .nil)))))) (.cons (.app 9 (.tup (.cons (.tup (.cons (.slot 2) (.cons (.slot 3) (.cons (.tup (.cons (.slot 8) (.cons (.slot 8) .nil))) (.cons (.slot 5) (.cons (.slot 6) .nil)))))) (.cons (.cst (.bool false)) .nil)))) (.cons (.own 9 (.bin .add (.bor 9) (.lst (.cons (.tup (.cons (.tup (.cons (.slot 2) (.cons (.tup (.cons (.slot 7) (.cons (.slot 7) .nil))) (.cons (.slot 4) (.cons (.slot 5) (.cons (.tup .nil) .nil)))))) (.cons (.cst (.bool false)) .nil))) (.cons (.tup (.cons (.tup (.cons (.slot 2) (.cons (.tup (.cons (.slot 7) .nil)) (.cons (.slot 4) (.cons (.slot 5) (.cons (.tup (.cons (.tup (.cons (.cst (.str "zz")) (.cons (.tup (.cons (.cst (.int 0)) .nil)) .nil))) .nil)) .nil)))))) (.cons (.cst (.bool true)) .nil))) (.cons (.tup (.cons (.tup (.cons (.slot 2) (.cons (.tup (.cons (.tup (.cons (.cst (.str "zz")) (.cons (.tup .nil) .nil))) .nil)) (.cons (.slot 4) (.cons (.slot 5) (.cons (.tup .nil) .nil)))))) (.cons (.cst (.bool false)) .nil))) .nil)))))) (.cons (.own 9 (.bin .add (.bor 9) (.lst (.cons (.tup (.cons (.tup (.cons (.slot 2) (.cons (.tup (.cons (.tup (.cons (.cst (.str "e")) (.cons (.ix (.slot 7) (.cst (.int 1))) .nil))) .nil)) (.cons (.slot 4) (.cons (.slot 5) (.cons (.tup .nil) .nil)))))) (.cons (.cst (.bool false)) .nil))) (.cons (.tup (.cons (.tup (.cons (.slot 2) (.cons (.tup (.cons (.tup (.cons (.cst (.str "zz")) (.cons (.tup (.cons (.tup (.cons (.tup .nil) (.cons (.tup .nil) .nil))) .nil)) .nil))) .nil)) (.cons (.slot 4) (.cons (.slot 5) (.cons (.tup .nil) .nil)))))) (.cons (.cst (.bool false)) .nil))) .nil))))) (.cons (.app 9 (.tup (.cons (.tup (.cons (.slot 2) (.cons (.tup (.cons (.tup (.cons (.cst (.str "zz")) (.cons (.tup (.cons (.tup (.cons (.tup (.cons (.cst (.str "x")) .nil)) (.cons (.tup (.cons (.tup (.cons (.cst (.str "zz")) (.cons (.tup (.cons (.cst (.str "x")) .nil)) .nil))) .nil)) .nil))) .nil)) .nil))) .nil)) (.cons (.slot 4) (.cons (.slot 5) (.cons (.tup .nil) .nil)))))) (.cons (.cst (.bool false)) .nil)))) (.cons (.own 9 (.bin .add (.bor 9) (.lst (.cons (.tup (.cons (.tup (.cons (.slot 2) (.cons (.tup .nil) (.cons (.tup (.cons (.tup (.cons (.tup (.cons (.tup (.cons (.cst (.str "q")) (.cons (.tup (.cons (.cst (.str "x")) .nil)) .nil))) .nil)) (.cons (.ix (.slot 8) (.cst (.int 1))) .nil))) .nil)) (.cons (.slot 5) (.cons (.tup .nil) .nil)))))) (.cons (.cst (.bool false)) .nil))) (.cons (.tup (.cons (.tup (.cons (.slot 2) (.cons (.tup (.cons (.slot 7) .nil)) (.cons (.tup (.cons (.tup (.cons (.ix (.slot 8) (.cst (.int 0))) (.cons (.tup (.cons (.tup (.cons (.cst (.str "zz")) (.cons (.tup (.cons (.cst (.int 1)) .nil)) .nil))) .nil)) .nil))) .nil)) (.cons (.slot 5) (.cons (.tup .nil) .nil)))))) (.cons (.cst (.bool false)) .nil))) .nil))))) (.cons (.app 9 (.tup (.cons (.tup (.cons (.slot 2) (.cons (.tup .nil) (.cons (.tup (.cons (.tup (.cons (.ix (.slot 8) (.cst (.int 0))) (.cons (.tup .nil) .nil))) .nil)) (.cons (.tup .nil) (.cons (.tup .nil) .nil)))))) (.cons (.cst (.bool false)) .nil)))) (.cons (.own 9 (.bin .add (.bor 9) (.lst (.cons (.tup (.cons (.tup (.cons (.slot 2) (.cons (.tup .nil) (.cons (.tup (.cons (.tup (.cons (.tup .nil) (.cons (.ix (.slot 8) (.cst (.int 1))) .nil))) .nil)) (.cons (.tup .nil) (.cons (.tup .nil) .nil)))))) (.cons (.cst (.bool false)) .nil))) (.cons (.tup (.cons (.tup (.cons (.slot 2) (.cons (.tup .nil) (.cons (.tup (.cons (.tup (.cons (.bin .mul (.ix (.slot 8) (.cst (.int 0))) (.cst (.int 4))) (.cons (.ix (.slot 8) (.cst (.int 1))) .nil))) .nil)) (.cons (.tup .nil) (.cons (.tup .nil) .nil)))))) (.cons (.cst (.bool false)) .nil))) (.cons (.tup (.cons (.tup (.cons (.slot 2) (.cons (.tup .nil) (.cons (.tup (.cons (.tup (.cons (.bin .mul (.ix (.slot 8) (.cst (.int 0))) (.cst (.int 3))) (.cons (.bin .mul (.ix (.slot 8) (.cst (.int 1))) (.cst (.int 2))) .nil))) .nil)) (.cons (.tup .nil) (.cons (.tup .nil) .nil)))))) (.cons (.cst (.bool true)) .nil))) .nil)))))) (.cons (.own 9 (.bin .add (.bor 9) (.lst (.cons (.tup (.cons (.tup (.cons (.slot 2) (.cons (.tup .nil) (.cons (.tup (.cons (.tup (.cons (.ix (.slot 8) (.cst (.int 0))) (.cons (.bin .mul (.ix (.slot 8) (.cst (.int 1))) (.cst (.int 3))) .nil))) .nil)) (.cons (.tup .nil) (.cons (.tup .nil) .nil)))))) (.cons (.cst (.bool false)) .nil))) (.cons (.tup (.cons (.tup (.cons (.slot 2) (.cons (.tup .nil) (.cons (.tup .nil) (.cons (.tup (.cons (.tup (.cons (.cst (.str "e")) (.cons (.tup (.cons (.cst (.int 0)) .nil)) (.cons (.cst (.int 0)) .nil)))) .nil)) (.cons (.tup .nil) .nil)))))) (.cons (.cst (.bool false)) .nil))) (.cons (.tup (.cons (.tup (.cons (.slot 2) (.cons (.tup .nil) (.cons (.tup .nil) (.cons (.tup (.cons (.tup (.cons (.cst (.str "e")) (.cons (.tup (.cons (.cst (.int 0)) .nil)) (.cons (.cst (.int 2)) .nil)))) .nil)) (.cons (.tup .nil) .nil)))))) (.cons (.cst (.bool false)) .nil))) .nil)))))) (.cons (.own 9 (.bin .add (.bor 9) (.lst (.cons (.tup (.cons (.tup (.cons (.slot 2) (.cons (.tup .nil) (.cons (.tup .nil) (.cons (.tup (.cons (.tup (.cons (.cst (.str "s")) (.cons (.tup (.cons (.cst (.int 2)) (.cons (.cst (.int 0)) .nil))) (.cons (.cst (.int 1)) .nil)))) .nil)) (.cons (.tup .nil) .nil)))))) (.cons (.cst (.bool false)) .nil))) (.cons (.tup (.cons (.tup (.cons (.slot 2) (.cons (.tup .nil) (.cons (.tup .nil) (.cons (.tup (.cons (.tup (.cons (.cst (.str "s")) (.cons (.tup (.cons (.cst (.int 1)) .nil)) (.cons (.cst (.int 0)) .nil)))) (.cons (.tup (.cons (.cst (.str "s")) (.cons (.tup (.cons (.cst (.int 0)) (.cons (.cst (.int 2)) .nil))) (.cons (.cst (.int 1)) .nil)))) .nil))) (.cons (.tup .nil) .nil)))))) (.cons (.cst (.bool false)) .nil))) (.cons (.tup (.cons (.tup (.cons (.slot 2) (.cons (.tup (.cons (.slot 7) .nil)) (.cons (.tup .nil) (.cons (.tup (.cons (.tup (.cons (.cst (.str "zz")) (.cons (.tup .nil) (.cons (.cst (.int 0)) .nil)))) .nil)) (.cons (.tup .nil) .nil)))))) (.cons (.cst (.bool false)) .nil))) .nil)))))) (.cons (.own 9 (.bin .add (.bor 9) (.lst (.cons (.tup (.cons (.tup (.cons (.slot 2) (.cons (.tup .nil) (.cons (.tup .nil) (.cons (.tup .nil) (.cons (.tup (.cons (.tup (.cons (.cst (.str "p")) (.cons (.tup .nil) .nil))) (.cons (.tup (.cons (.cst (.str "e")) (.cons (.tup .nil) .nil))) .nil))) .nil)))))) (.cons (.cst (.bool false)) .nil))) (.cons (.tup (.cons (.tup (.cons (.slot 2) (.cons (.tup .nil) (.cons (.tup .nil) (.cons (.tup .nil) (.cons (.tup (.cons (.tup (.cons (.cst (.str "e")) (.cons (.tup (.cons (.cst (.int 1)) (.cons (.cst (.int 0)) .nil))) .nil))) .nil)) .nil)))))) (.cons (.cst (.bool false)) .nil))) .nil))))) (.cons (.own 9 (.bin .add (.bor 9) (.lst (.cons (.tup (.cons (.tup (.cons (.slot 2) (.cons (.tup .nil) (.cons (.tup .nil) (.cons (.tup .nil) (.cons (.tup (.cons (.tup (.cons (.cst (.str "e")) (.cons (.tup (.cons (.cst (.int 2)) .nil)) .nil))) .nil)) .nil)))))) (.cons (.cst (.bool false)) .nil))) (.cons (.tup (.cons (.tup (.cons (.slot 2) (.cons (.tup .nil) (.cons (.tup .nil) (.cons (.tup .nil) (.cons (.tup (.cons (.tup (.cons (.cst (.str "e")) (.cons (.tup (.cons (.cst (.int 0)) (.cons (.cst (.int 0)) .nil))) .nil))) .nil)) .nil)))))) (.cons (.cst (.bool false)) .nil))) .nil))))) (.cons (.own 9 (.bin .add (.bor 9) (.lst (.cons (.tup (.cons (.tup (.cons (.slot 2) (.cons (.tup .nil) (.cons (.tup .nil) (.cons (.tup .nil) (.cons (.lst (.cons (.tup (.cons (.cst (.str "e")) (.cons (.tup .nil) .nil))) .nil)) .nil)))))) (.cons (.cst (.bool false)) .nil))) (.cons (.tup (.cons (.tup (.cons (.slot 2) (.cons (.cst .none) (.cons (.tup .nil) (.cons (.tup .nil) (.cons (.tup .nil) .nil)))))) (.cons (.cst (.bool false)) .nil))) (.cons (.tup (.cons (.tup (.cons (.slot 2) (.cons (.blt .tuple (.cons (.lc [10] (.tup (.cons (.bin .add (.cst (.str "v")) (.slot 10)) (.cons (.tup (.cons (.tup (.cons (.tup (.cons (.cst (.int 1)) .nil)) (.cons (.tup .nil) .nil))) .nil)) .nil))) (.for_ (.nm 10) (.ex (.cst (.str "abcde"))) .nil .nil)) .nil)) (.cons (.tup .nil) (.cons (.tup .nil) (.cons (.tup .nil) .nil)))))) (.cons (.cst (.bool false)) .nil))) .nil)))))) (.cons (.own 9 (.bin .add (.bor 9) (.lst (.cons (.tup (.cons (.tup (.cons (.slot 2) (.cons (.blt .tuple (.cons (.lc [10] (.tup (.cons (.bin .add (.cst (.str "v")) (.slot 10)) (.cons (.tup (.cons (.tup (.cons (.tup (.cons (.cst (.int 1)) .nil)) (.cons (.tup .nil) .nil))) .nil)) .nil))) (.for_ (.nm 10) (.ex (.cst (.str "abcd"))) .nil .nil)) .nil)) (.cons (.tup .nil) (.cons (.tup .nil) (.cons (.tup .nil) .nil)))))) (.cons (.cst (.bool true)) .nil))) (.cons (.tup (.cons (.cst .none) (.cons (.cst (.bool false)) .nil))) .nil))))) (.cons (.own 9 (.bin .add (.bor 9) (.lst (.cons (.tup (.cons (.tup (.cons (.slot 2) (.cons (.tup .nil) (.cons (.tup .nil) (.cons (.tup (.cons (.tup (.cons (.cst (.str "e")) (.cons (.tup (.cons (.cst (.bool true)) .nil)) (.cons (.cst (.int 0)) .nil)))) .nil)) (.cons (.tup .nil) .nil)))))) (.cons (.cst (.bool false)) .nil))) (.cons (.tup (.cons (.tup (.cons (.slot 2) (.cons (.tup .nil) (.cons (.tup .nil) (.cons (.tup .nil) (.cons (.tup (.cons (.tup (.cons (.tup (.cons (.cst (.str "e")) .nil)) (.cons (.tup .nil) .nil))) .nil)) .nil)))))) (.cons (.cst (.bool false)) .nil))) .nil))))) (.cons (.ret (.ix (.bor 9) (.call "_law_draw" (.cons (.slot 0) (.cons (.blt .len (.cons (.bor 9) .nil)) .nil))))) .nil))))))))))))))))))⟩
def d__law_spoilt : DefX := ⟨"_law_spoilt", 57, ["box", "part"], ["box", "part", "tie", "head", "rows", "letters", "wide", "k"], (.cons (.asg (.tp (.cons (.nm 2) (.cons (.nm 3) .nil))) (.tup (.cons (.tup (.cons (.cst (.str "e")) (.cons (.tup (.cons (.cst (.str "x")) (.cons (.cst (.str "y")) .nil))) .nil))) (.cons (.ix (.slot 1) (.cst (.int 0))) .nil)))) (.cons (.asg (.nm 4) (.lst (.cons (.tup (.cons (.tup (.cons (.slot 1) .nil)) (.cons (.cst (.bool true)) .nil))) (.cons (.tup (.cons (.lst (.cons (.slot 1) .nil)) (.cons (.cst (.bool false)) .nil))) (.cons (.tup (.cons (.tup .nil) (.cons (.cst (.bool true)) .nil))) (.cons (.tup (.cons (.tup (.cons (.slot 1) (.cons (.slot 1) (.cons (.slot 1) .nil)))) (.cons (.cst (.bool true)) .nil))) (.cons (.tup (.cons (.bin .mul (.tup (.cons (.slot 1) .nil)) (.cst (.int 4))) (.cons (.cst (.bool false)) .nil))) (.cons (.tup (.cons (.tup (.cons (.slot 1) (.cons (.tup (.cons (.bin .add (.slot 3) (.tup (.cons (.cst (.int 1)) .nil))) (.cons (.tup .nil) .nil))) .nil))) (.cons (.cst (.bool false)) .nil))) (.cons (.tup (.cons (.tup (.cons (.tup (.cons (.tup (.cons (.cst (.str "q")) .nil)) (.cons (.tup (.cons (.slot 2) .nil)) .nil))) .nil)) (.cons (.cst (.bool false)) .nil))) .nil))))))))) (.cons (.asg (.nm 4) (.bin .add (.slot 4) (.lst (.cons (.tup (.cons (.tup (.cons (.tup (.cons (.tup (.cons (.cst (.str "x")) .nil)) (.cons (.tup (.cons (.tup (.cons (.cst (.str "e")) (.cons (.tup (.cons (.cst (.str "x")) .nil)) .nil))) .nil)) .nil))) .nil)) (.cons (.cst (.bool false)) .nil))) (.cons (.tup (.cons (.tup (.cons (.tup (.cons (.tup (.cons (.cst (.str "x")) .nil)) (.cons (.tup (.cons (.tup (.cons (.cst (.str "q")) (.cons (.tup (.cons (.cst (.str "x")) .nil)) .nil))) .nil)) .nil))) .nil)) (.cons (.cst (.bool false)) .nil))) (.cons (.tup (.cons (.tup (.cons (.tup (.cons (.tup .nil) (.cons (.bin .mul (.tup (.cons (.slot 2) .nil)) (.cst (.int 6))) .nil))) .nil)) (.cons (.cst (.bool true)) .nil))) (.cons (.tup (.cons (.tup (.cons (.tup (.cons (.tup .nil) (.cons (.bin .mul (.tup (.cons (.slot 2) .nil)) (.cst (.int 7))) .nil))) .nil)) (.cons (.cst (.bool false)) .nil))) (.cons (.tup (.cons (.tup (.cons (.tup (.cons (.tup (.cons (.cst (.int 1)) (.cons (.cst (.int 2)) (.cons (.cst (.int 3)) .nil)))) (.cons (.tup .nil) .nil))) .nil)) (.cons (.cst (.bool true)) .nil))) .nil)))))))) (.cons (.asg (.nm 4) (.bin .add (.slot 4) (.lst (.cons (.tup (.cons (.tup (.cons (.tup (.cons (.tup (.cons (.cst (.int 1)) (.cons (.cst (.int 2)) (.cons (.cst (.int 3)) (.cons (.cst (.int 4)) .nil))))) (.cons (.tup .nil) .nil))) .nil)) (.cons (.cst (.bool false)) .nil))) (.cons (.tup (.cons (.tup (.cons (.tup (.cons (.lst (.cons (.cst (.str "x")) .nil)) (.cons (.tup (.cons (.slot 2) .nil)) .nil))) .nil)) (.cons (.cst (.bool false)) .nil))) (.cons (.tup (.cons (.tup (.cons (.tup (.cons (.tup (.cons (.cst (.bool true)) .nil)) (.cons (.tup .nil) .nil))) .nil)) (.cons (.cst (.bool false)) .nil))) (.cons (.tup (.cons (.tup (.cons (.tup (.cons (.tup (.cons (.cst (.str "x")) .nil)) (.cons (.lst (.cons (.slot 2) .nil)) .nil))) .nil)) (.cons (.cst (.bool false)) .nil))) (.cons (.tup (.cons (.tup (.cons (.tup (.cons (.tup (.cons (.cst (.str "X")) .nil)) (.cons (.tup (.cons (.slot 2) .nil)) .nil))) .nil)) (.cons (.cst (.bool false)) .nil))) (.cons (.tup (.cons (.tup (.cons (.ix (.slot 1) (.cst (.int 0))) .nil)) (.cons (.cst (.bool false)) .nil))) .nil))))))))) (.cons (.asg (.nm 5) (.cst (.str "abcdefg"))) (.cons (.asg (.nm 6) (.blt .tuple (.cons (.lc [7] (.tup (.cons (.cst (.str "e")) (.cons (.tup (.cons (.ix (.slot 5) (.slot 7)) (.cons (.ix (.slot 5) (.bin .add (.slot 7) (.cst (.int 1)))) .nil))) .nil))) (.for_ (.nm 7) (.rg (.cons (.cst (.int 6)) .nil)) .nil .nil)) .nil))) (.cons (.asg (.nm 4) (.bin .add (.slot 4) (.lst (.cons (.tup (.cons (.tup (.cons (.tup (.cons (.tup .nil) (.cons (.sl (.slot 6) .none (.some (.cst (.int 5)))) .nil))) .nil)) (.cons (.cst (.bool true)) .nil))) (.cons (.tup (.cons (.tup (.cons (.tup (.cons (.tup .nil) (.cons (.slot 6) .nil))) .nil)) (.cons (.cst (.bool false)) .nil))) (.cons (.tup (.cons (.tup (.cons (.tup (.cons (.tup (.cons (.cst (.str "x")) (.cons (.cst (.str "x")) .nil))) (.cons (.tup (.cons (.slot 2) .nil)) .nil))) .nil)) (.cons (.cst (.bool true)) .nil))) (.cons (.tup (.cons (.tup (.cons (.tup (.cons (.tup .nil) (.cons (.tup (.cons (.tup (.cons (.cst (.str "e")) (.cons (.tup (.cons (.cst (.str "x")) (.cons (.cst .none) .nil))) .nil))) .nil)) .nil))) .nil)) (.cons (.cst (.bool false)) .nil))) (.cons (.tup (.cons (.cst .none) (.cons (.cst (.bool false)) .nil))) (.cons (.tup (.cons (.tup (.cons (.tup (.cons (.cst (.int 1)) (.cons (.tup (.cons (.slot 2) .nil)) .nil))) .nil)) (.cons (.cst (.bool false)) .nil))) .nil))))))))) (.cons (.ret (.ix (.slot 4) (.call "_law_draw" (.cons (.slot 0) (.cons (.blt .len (.cons (.slot 4) .nil)) .nil))))) .nil))))))))⟩
def d__law_refused : DefX := ⟨"_law_refused", 58, ["house"], ["house", "caught", "e"], (.cons (.asg (.nm 1) (.cst .none)) (.cons (.try_ (.cons (.expr (.call "is_question" (.cons (.slot 0) (.cons (.tup .nil) .nil)))) .nil) (.cons ["InvalidHouse"] (some 2) (.cons (.asg (.nm 1) (.slot 2)) .nil) .nil)) (.cons (.ret (.and_ (.isK true (.slot 1) .none) (.cmp .eq (.blt .repr (.cons (.val (.slot 1)) .nil)) (.blt .repr (.cons (.slot 0) .nil))))) .nil)))⟩
def d_law : DefX := ⟨"law", 59, ["script"], ["script", "box", "turn", "house", "wide", "odd", "due"], (.cons (.asg (.nm 1) (.call "_law_box" (.cons (.slot 0) .nil))) (.cons (.for_ (.nm 2) (.rg (.cons (.cst (.int 10)) .nil)) (.cons (.asg (.nm 3) (.call "_law_house" (.cons (.slot 1) .nil))) (.cons (.if_ (.not_ (.call "_law_says" (.cons (.callK "is_house" 0 (.cons (.slot 3) .nil) [0]) (.cons (.cst (.bool true)) .nil)))) (.cons (.ret (.cst (.bool false))) .nil) .nil) (.cons (.asg (.tp (.cons (.nm 5) (.cons (.nm 6) .nil))) (.call "_law_bent" (.cons (.slot 1) (.cons (.slot 3) .nil)))) (.cons (.if_ (.or_ (.not_ (.call "_law_says" (.cons (.call "is_house" (.cons (.slot 5) .nil)) (.cons (.slot 6) .nil)))) (.and_ (.not_ (.slot 6)) (.not_ (.call "_law_refused" (.cons (.slot 5) .nil))))) (.cons (.ret (.cst (.bool false))) .nil) .nil) (.cons (.asg (.nm 3) (.tup (.cons (.tup (.cons (.tup (.cons (.cst (.str "e")) (.cons (.cst (.int 2)) .nil))) (.cons (.tup (.cons (.cst (.str "p")) (.cons (.cst (.int 1)) .nil))) .nil))) (.cons (.tup .nil) (.cons (.tup .nil) (.cons (.tup .nil) (.cons (.call "_law_forms" (.cons (.slot 1) (.cons (.dict (.cons (.cst (.str "e")) (.cons (.cst (.str "p")) .nil)) (.cons (.cst (.int 2)) (.cons (.cst (.int 1)) .nil))) (.cons (.cst (.int 3)) .nil)))) .nil))))))) (.cons (.asg (.tp (.cons (.nm 5) (.cons (.nm 6) .nil))) (.call "_law_spoilt" (.cons (.slot 1) (.cons (.call "_law_part" (.cons (.slot 1) (.cons (.dict (.cons (.cst (.str "e")) (.cons (.cst (.str "p")) .nil)) (.cons (.cst (.int 2)) (.cons (.cst (.int 1)) .nil))) (.cons (.call "_law_draw" (.cons (.slot 1) (.cons (.cst (.int 3)) .nil))) (.cons (.cst (.int 3)) .nil))))) .nil)))) (.cons (.if_ (.not_ (.call "_law_says" (.cons (.callK "is_question" 0 (.cons (.slot 3) (.cons (.slot 5) .nil)) [0, 1]) (.cons (.slot 6) .nil)))) (.cons (.ret (.cst (.bool false))) .nil) .nil) (.cons (.asg (.nm 4) (.tup (.cons (.ix (.slot 3) (.cst (.int 0))) (.cons (.tup (.cons (.tup (.cons (.cst (.str "vw")) (.cons (.tup (.cons (.tup (.cons (.tup (.cons (.cst (.int 1)) (.cons (.cst (.int 2)) (.cons (.cst (.int 3)) .nil)))) (.cons (.tup .nil) .nil))) .nil)) .nil))) .nil)) (.cons (.tup .nil) (.cons (.tup .nil) (.cons (.tup .nil) .nil))))))) (.cons (.if_ (.not_ (.call "_law_says" (.cons (.call "is_question" (.cons (.slot 4) (.cons (.tup (.cons (.tup (.cons (.tup (.cons (.cst (.str "z")) .nil)) (.cons (.tup (.cons (.tup (.cons (.cst (.str "vw")) (.cons (.tup (.cons (.cst (.str "x")) (.cons (.cst (.str "y")) (.cons (.cst (.str "z")) .nil)))) .nil))) .nil)) .nil))) .nil)) .nil))) (.cons (.cst (.bool true)) .nil)))) (.cons (.ret (.cst (.bool false))) .nil) .nil) .nil)))))))))) (.cons (.ret (.cst (.bool true))) .nil)))⟩
def subT : List (Str × List Str) := [("AskError", ["AskError"]), ("InvalidHouse", ["InvalidHouse", "AskError"])]
def subB (c t : Str) : Bool := ((subT.lookup c).getD []).any fun u => decide (u = t)
def L : LawX := ⟨[d_is_integer, d_is_between, d_is_pair, d_are_ascending, d_anew, d_letters_of, d_is_name, d_is_tables, d_are_terms, d_is_tie_over, d_are_ties_over, d_is_part_over, d_is_question_over, d_is_view, d_are_views, d_is_rule, d_are_rules, d_are_columns, d_is_tells, d_is_form_over, d_are_all, d_is_house, d_columns_in, d_need_house, d_is_question, d__law_box, d__law_draw, d__law_says, d__law_forms, d__law_letters, d__law_part, d__law_term, d__law_columns, d__law_house, d__law_view, d__law_bent, d__law_spoilt, d__law_refused, d_law],
  [("SIGNS", (.str "abcdefghijklmnopqrstuvwxyz")), ("MOST_SIGNS", (.int 8)), ("MOST_TABLES", (.int 6)), ("MOST_COLUMNS", (.int 3)), ("MOST_VIEWS", (.int 4)), ("MOST_RULES", (.int 6)), ("MOST_TELLS", (.int 6)), ("MOST_FORMS", (.int 12)), ("MOST_PARTS", (.int 3)), ("MOST_TIES", (.int 6)), ("MOST_LETTERS", (.int 6)), ("MOST_TERMS", (.int 3)), ("MOST_BODY", (.int 3)), ("MOST_HEAD", (.int 2))],
  [("is_house", ["value"], [0]), ("is_question", ["house", "value"], [0, 1])],
  ["AskError", "InvalidHouse"], ["InvalidHouse"], ["InvalidHouse"], subB, "AskError", "askedbyforms"⟩
theorem b_is_integer : BindB P d_is_integer := fun _ _ _ _ _ _ us hl => match us, hl with | [_], _ => rfl
theorem b_is_between : BindB P d_is_between := fun _ _ _ _ _ _ us hl => match us, hl with | [_, _, _], _ => rfl
theorem b_is_pair : BindB P d_is_pair := fun _ _ _ _ _ _ us hl => match us, hl with | [_], _ => rfl
theorem b_are_ascending : BindB P d_are_ascending := fun _ _ _ _ _ _ us hl => match us, hl with | [_], _ => rfl
theorem b_anew : BindB P d_anew := fun _ _ _ _ _ _ us hl => match us, hl with | [_], _ => rfl
theorem b_letters_of : BindB P d_letters_of := fun _ _ _ _ _ _ us hl => match us, hl with | [_], _ => rfl
theorem b_is_name : BindB P d_is_name := fun _ _ _ _ _ _ us hl => match us, hl with | [_], _ => rfl
theorem b_is_tables : BindB P d_is_tables := fun _ _ _ _ _ _ us hl => match us, hl with | [_], _ => rfl
theorem b_are_terms : BindB P d_are_terms := fun _ _ _ _ _ _ us hl => match us, hl with | [_, _, _], _ => rfl
theorem b_is_tie_over : BindB P d_is_tie_over := fun _ _ _ _ _ _ us hl => match us, hl with | [_, _], _ => rfl
theorem b_are_ties_over : BindB P d_are_ties_over := fun _ _ _ _ _ _ us hl => match us, hl with | [_, _, _, _], _ => rfl
theorem b_is_part_over : BindB P d_is_part_over := fun _ _ _ _ _ _ us hl => match us, hl with | [_, _, _], _ => rfl
theorem b_is_question_over : BindB P d_is_question_over := fun _ _ _ _ _ _ us hl => match us, hl with | [_, _, _], _ => rfl
theorem b_is_view : BindB P d_is_view := fun _ _ _ _ _ _ us hl => match us, hl with | [_, _], _ => rfl
theorem b_are_views : BindB P d_are_views := fun _ _ _ _ _ _ us hl => match us, hl with | [_, _], _ => rfl
theorem b_is_rule : BindB P d_is_rule := fun _ _ _ _ _ _ us hl => match us, hl with | [_, _], _ => rfl
theorem b_are_rules : BindB P d_are_rules := fun _ _ _ _ _ _ us hl => match us, hl with | [_, _], _ => rfl
theorem b_are_columns : BindB P d_are_columns := fun _ _ _ _ _ _ us hl => match us, hl with | [_, _], _ => rfl
theorem b_is_tells : BindB P d_is_tells := fun _ _ _ _ _ _ us hl => match us, hl with | [_, _], _ => rfl
theorem b_is_form_over : BindB P d_is_form_over := fun _ _ _ _ _ _ us hl => match us, hl with | [_, _], _ => rfl
theorem b_are_all : BindB P d_are_all := fun _ _ _ _ _ _ us hl => match us, hl with | [_, _, _, _], _ => rfl
theorem b_is_house : BindB P d_is_house := fun _ _ _ _ _ _ us hl => match us, hl with | [_], _ => rfl
theorem b_columns_in : BindB P d_columns_in := fun _ _ _ _ _ _ us hl => match us, hl with | [_], _ => rfl
theorem b_need_house : BindB P d_need_house := fun _ _ _ _ _ _ us hl => match us, hl with | [_], _ => rfl
theorem b_is_question : BindB P d_is_question := fun _ _ _ _ _ _ us hl => match us, hl with | [_, _], _ => rfl
theorem b__law_box : BindB P d__law_box := fun _ _ _ _ _ _ us hl => match us, hl with | [_], _ => rfl
theorem b__law_draw : BindB P d__law_draw := fun _ _ _ _ _ _ us hl => match us, hl with | [_, _], _ => rfl
theorem b__law_says : BindB P d__law_says := fun _ _ _ _ _ _ us hl => match us, hl with | [_, _], _ => rfl
theorem b__law_forms : BindB P d__law_forms := fun _ _ _ _ _ _ us hl => match us, hl with | [_, _, _], _ => rfl
theorem b__law_letters : BindB P d__law_letters := fun _ _ _ _ _ _ us hl => match us, hl with | [_], _ => rfl
theorem b__law_part : BindB P d__law_part := fun _ _ _ _ _ _ us hl => match us, hl with | [_, _, _, _], _ => rfl
theorem b__law_term : BindB P d__law_term := fun _ _ _ _ _ _ us hl => match us, hl with | [_], _ => rfl
theorem b__law_columns : BindB P d__law_columns := fun _ _ _ _ _ _ us hl => match us, hl with | [_], _ => rfl
theorem b__law_house : BindB P d__law_house := fun _ _ _ _ _ _ us hl => match us, hl with | [_], _ => rfl
theorem b__law_view : BindB P d__law_view := fun _ _ _ _ _ _ us hl => match us, hl with | [_], _ => rfl
theorem b__law_bent : BindB P d__law_bent := fun _ _ _ _ _ _ us hl => match us, hl with | [_, _], _ => rfl
theorem b__law_spoilt : BindB P d__law_spoilt := fun _ _ _ _ _ _ us hl => match us, hl with | [_, _], _ => rfl
theorem b__law_refused : BindB P d__law_refused := fun _ _ _ _ _ _ us hl => match us, hl with | [_], _ => rfl
theorem b_law : BindB P d_law := fun _ _ _ _ _ _ us hl => match us, hl with | [_], _ => rfl
theorem binds : ∀ d ∈ L.tabl, BindB P d := by
  intro d hd
  simp only [L, List.mem_cons, List.not_mem_nil, or_false] at hd
  rcases hd with rfl | rfl | rfl | rfl | rfl | rfl | rfl | rfl | rfl | rfl | rfl | rfl | rfl | rfl | rfl | rfl | rfl | rfl | rfl | rfl | rfl | rfl | rfl | rfl | rfl | rfl | rfl | rfl | rfl | rfl | rfl | rfl | rfl | rfl | rfl | rfl | rfl | rfl | rfl
  · exact b_is_integer
  · exact b_is_between
  · exact b_is_pair
  · exact b_are_ascending
  · exact b_anew
  · exact b_letters_of
  · exact b_is_name
  · exact b_is_tables
  · exact b_are_terms
  · exact b_is_tie_over
  · exact b_are_ties_over
  · exact b_is_part_over
  · exact b_is_question_over
  · exact b_is_view
  · exact b_are_views
  · exact b_is_rule
  · exact b_are_rules
  · exact b_are_columns
  · exact b_is_tells
  · exact b_is_form_over
  · exact b_are_all
  · exact b_is_house
  · exact b_columns_in
  · exact b_need_house
  · exact b_is_question
  · exact b__law_box
  · exact b__law_draw
  · exact b__law_says
  · exact b__law_forms
  · exact b__law_letters
  · exact b__law_part
  · exact b__law_term
  · exact b__law_columns
  · exact b__law_house
  · exact b__law_view
  · exact b__law_bent
  · exact b__law_spoilt
  · exact b__law_refused
  · exact b_law
theorem k_0 : BindK P d_is_house ["value"] [0] := fun _ _ _ _ _ _ us hl => match us, hl with | [_], _ => rfl
theorem k_1 : BindK P d_is_question ["house", "value"] [0, 1] := fun _ _ _ _ _ _ us hl => match us, hl with | [_, _], _ => rfl
theorem names : (L.tabl.map (·.name)).Nodup := by decide +kernel
theorem bindk : ∀ q ∈ L.kw, ∀ d ∈ L.tabl, d.name = q.1 → BindK P d q.2.1 q.2.2 := by
  intro q hq d hd e
  have key : ∀ e : DefX, e ∈ L.tabl → e.name = d.name → d = e := fun e he z => by
    have h1 := find_nodup (d := d) names hd
    have h2 := find_nodup (d := e) names he
    rw [z, h1] at h2
    exact Option.some.inj h2
  simp only [L, List.mem_cons, List.not_mem_nil, or_false] at hq
  rcases hq with rfl | rfl
  · rw [key d_is_house (by simp [L]) (by rw [e]; rfl)]; exact k_0
  · rw [key d_is_question (by simp [L]) (by rw [e]; rfl)]; exact k_1
end K02
end

section
set_option Elab.async false
set_option linter.all false
set_option maxRecDepth 100000
set_option maxHeartbeats 4000000
namespace K02
open PySem Py
abbrev T := L.Tb
theorem fn_draw : T.fn "_law_draw" = some (.body 2 6 (drawSs 40692 11 69621)) := by kernel_rfl
theorem fn_box : T.fn "_law_box" = some (.body 1 1 boxSs) := by kernel_rfl
theorem fn_forms : T.fn "_law_forms" = some (.body 3 8 d__law_forms.ss) := by kernel_rfl
theorem ev_call {n : Nat} {f : Str} {ds : List D} {d : D} (h : evCall T 0 n f ds = .ok d) {st : Sto} {Q E : KD} (q : Q d st) : wpCall T n f ds st Q E := evCall_ok T 0 n f ds st Q E (by rw [h]; exact q)
theorem call_body {P : Tab} {n : Nat} {f : Str} {ps m : Nat} {ss : Sms} (h : P.fn f = some (.body ps m ss)) {ds : List D} (hl : ds.length = ps) {st : Sto} {Q E : KD}
    (w : wpSs P.sub (wpCall P n) ss { nx := fun _ st => Q .none st, rt := Q, bk := fun _ _ => False, ct := fun _ _ => False, ex := fun x _ st => E x st } (ds.map some ++ List.replicate (m - ps) none) st) : wpCall P (n + 1) f ds st Q E := by
  unfold wpCall
  rw [h]
  exact ⟨hl, w⟩
theorem draw {n N : Nat} {m : Int} {st : Sto} {Q E : KD} (B : BoxOk (N + 1) st) (hm : m < 1073741824) (q : ∀ r st', Drawn m r → BoxOk N st' → Q (.int r) st') : wpCall T (n + 1) "_law_draw" [.ref 0, .int m] st Q E :=
  draw_ok fn_draw (by unfold small; omega) (by unfold small; omega) (by unfold small; omega) hm B q
/-- what the draws choose out of range(n) -/
def subs : Nat → List (List D)
  | 0 => [[]]
  | n + 1 => subs n ++ (subs n).map (· ++ [.int n])
def formsOf (ks vs : List D) : List D := (sortI ks).flatMap fun k => match dGet ks vs k with
  | some (.int w) => (subs w.toNat).map fun a => .tup [k, .tup a]
  | _ => []
def wideOk : Option D → Bool
  | some (.int w) => decide (0 ≤ w ∧ w ≤ 3)
  | _ => false
def isTup2 : D → Bool
  | .tup (_ :: _) => true
  | _ => false
def colsGood (ks vs : List D) : Bool := sortOk ks && decide (ks.length ≤ 8 ∧ ks ≠ []) && ((sortI ks).all fun k => keyOk ks k && wideOk (dGet ks vs k)) &&
  ((formsOf ks vs).all fun x => x.cmpOk && pyEq x x && isTup2 x && decide (x.dep ≤ 40) && (formsOf ks vs).all fun y => alk x y && (decide (x = y) || ltD x y || ltD y x))
/-- the forms as they come -/
structure FormsOk (ks vs : List D) (many : Nat) (xs : List D) : Prop where
  nd : xs.Nodup
  len : xs.length ≤ many
  mem : ∀ x ∈ xs, x ∈ formsOf ks vs
theorem intL_get : ∀ (n : Nat) (a : Int) (i : Nat) (x : D), (intL a n)[i]? = some x → x = .int (a + i) ∧ i < n
  | 0, a, i, x, h => by simp [intL] at h
  | n + 1, a, 0, x, h => by simp [intL] at h; simp [h]
  | n + 1, a, i + 1, x, h => by
    simp only [intL, List.getElem?_cons_succ] at h
    obtain ⟨e, l⟩ := intL_get n (a + 1) i x h
    exact ⟨by rw [e]; congr 1; omega, by omega⟩
theorem intL_len : ∀ (n : Nat) (a : Int), (intL a n).length = n
  | 0, _ => rfl
  | n + 1, a => by simp [intL, intL_len n]
theorem sortI_len (xs : List D) : (sortI xs).length = xs.length := (sortI_perm xs).length_eq
theorem atI_mem {xs : List D} {r : Int} (h : 0 ≤ r) (l : r < xs.length) : ∃ x, atI xs r = some x ∧ x ∈ xs := by
  refine ⟨xs[r.toNat]'(by omega), ?_, List.getElem_mem _⟩
  unfold atI
  rw [if_pos h, List.getElem?_eq_getElem (by omega)]
theorem sub_len : ∀ (w : Nat) (xs : List D), xs ∈ subs w → xs.length ≤ w
  | 0, xs, h => by simp [subs] at h; simp [h]
  | w + 1, xs, h => by
    rcases List.mem_append.mp h with h | h
    · have := sub_len w xs h; omega
    · obtain ⟨y, hy, rfl⟩ := List.mem_map.mp h
      have := sub_len w y hy
      simp; omega
theorem forms_ok {n N many : Nat} {ks vs : List D} (G : colsGood ks vs = true) (hm : many ≤ 4) {st : Sto} (B : BoxOk (N + 1 + 4 * many) st) {Q E : KD}
    (q : ∀ xs st', FormsOk ks vs many xs → BoxOk N st' → Q (.tup (sortI xs)) st') : wpCall T (n + 2) "_law_forms" [.ref 0, .dct ks vs, .int many] st Q E := by
  simp only [colsGood, Bool.and_eq_true, decide_eq_true_eq, List.all_eq_true] at G
  obtain ⟨⟨⟨gs, gl, gn⟩, gk⟩, gf⟩ := G
  refine call_body fn_forms rfl ?_
  simp only [d__law_forms, List.map_cons, List.map_nil, List.cons_append, List.nil_append, List.replicate]
  generalize hk0 : ({ nx := fun _ st => Q .none st, rt := Q, bk := fun _ _ => False, ct := fun _ _ => False, ex := fun x _ st => E x st } : Kn) = kn
  have rtq : kn.rt = Q := by rw [← hk0]
  clear hk0
  rw [wpSs]
  simp only [wpS, wpE, wpEs, D.isCon, List.length_cons, List.length_nil, List.set_cons_succ, List.set_cons_zero]
  refine ⟨⟨trivial, by omega⟩, ?_⟩
  rw [wpSs, wpS]
  simp only [wpI, wpEs, wpE, getL, opR]
  refine draw (N := N + 4 * many) (by rw [show N + 4 * many + 1 = N + 1 + 4 * many by omega]; exact B) (by omega) fun r st1 dr B1 => ?_
  dsimp only [rgR]
  have hr : 0 ≤ r ∧ r ≤ many := by unfold Py.Drawn at dr; omega
  refine ⟨by unfold small62; omega, ?_⟩
  refine forS_inv (I := fun i l st => ∃ xs a b c d, l = [some (.ref 0), some (.dct ks vs), some (.int many), some (.lst xs), a, b, c, d] ∧ FormsOk ks vs i xs ∧ BoxOk (N + 4 * (many - i)) st) _ 0 _ _ ?_ ?_ ?_
  rotate_left
  · exact ⟨[], _, _, _, _, rfl, ⟨List.nodup_nil, by simp, by simp⟩, B1⟩
  · rintro l st2 ⟨xs, a, b, c, d, rfl, F, B2⟩
    rw [intL_len] at F B2
    rw [wpSs]
    simp only [wpS, wpE, wpEs, getL, bltR, blt1, sortedR, itR, rtq]
    have hx : xs.length ≤ 4 := by have := F.len; omega
    refine ⟨⟨?_, by unfold Sz; omega⟩, ?_⟩
    · simp only [sortOk, Bool.and_eq_true, Bool.or_eq_true, List.all_eq_true]
      refine ⟨fun x hx y hy => ?_, .inl fun x hx => ?_⟩
      · have g1 := gf x (F.mem x hx)
        have g2 := g1.2 y (F.mem y hy)
        exact ⟨g2.1, by simpa using g1.1.2⟩
      · have g1 := (gf x (F.mem x hx)).1.1.2
        cases x <;> simp only [isTup2, Bool.false_eq_true] at g1
        rename_i ts
        cases ts <;> simp only [isTup2, Bool.false_eq_true] at g1 ⊢
    · simp only [tupleR]
      rw [← sortI_eq fun x hx y hy => ((gf x (F.mem x hx)).2 y (F.mem y hy)).1]
      exact q xs _ ⟨F.nd, by have := F.len; omega, F.mem⟩ (B2.mono (by omega))
  · rintro i x l st2 K hx ⟨xs, a, b, c, d, rfl, F, B2⟩ hK
    obtain ⟨rfl, hi⟩ := intL_get _ _ _ _ hx
    rw [Nat.zero_add] at F B2 hK
    have him : i < many := by omega
    simp only [asT, List.length_cons, List.length_nil, List.set_cons_succ, List.set_cons_zero]
    refine ⟨by omega, ?_⟩
    rw [wpSs]
    simp only [wpS, wpE, wpEs, getL, bltR, blt1, sortedR, itR, lenR]
    refine ⟨⟨gs, by unfold Sz; omega⟩, ?_⟩
    refine draw (N := N + 4 * (many - (i + 1)) + 3) (by rw [show N + 4 * (many - (i + 1)) + 3 + 1 = N + 4 * (many - i) by omega]; exact B2) (by omega) fun r2 st3 dr2 B3 => ?_
    rw [← sortI_eq (sortOk_alk gs)]
    have hks : 0 < ks.length := by cases ks with | nil => exact absurd rfl gn | cons _ _ => simp
    have hr2 : 0 ≤ r2 ∧ r2 < ks.length := by unfold Py.Drawn at dr2; omega
    obtain ⟨k, ek, mk⟩ := atI_mem (xs := sortI ks) hr2.1 (by rw [sortI_len]; exact hr2.2)
    simp only [ixO, ixR, ek, asT, List.length_cons, List.length_nil, List.set_cons_succ, List.set_cons_zero]
    refine ⟨by omega, ?_⟩
    have gk' := gk k mk
    obtain ⟨w, hw, hw1, hw2⟩ : ∃ w, dGet ks vs k = some (.int w) ∧ 0 ≤ w ∧ w ≤ 3 := by
      have g2 := gk'.2
      revert g2
      cases dGet ks vs k with
      | none => simp [wideOk]
      | some v => cases v <;> simp [wideOk]
    rw [wpSs]
    simp only [wpS, wpE, wpEs, wpC, wpI, getL, ixO, ixR, hw]
    refine ⟨gk'.1, ?_⟩
    dsimp only [rgR]
    refine ⟨by unfold small62; omega, ?_⟩
    refine forL_inv (I := fun j a st => ∃ ys, a = (ys, []) ∧ ys ∈ subs j ∧ BoxOk (N + 4 * (many - (i + 1)) + (3 - j)) st) _ 0 _ _ ?_ ?_ ?_
    rotate_left
    · exact ⟨[], rfl, by simp [subs], B3⟩
    · rintro a st4 ⟨ys, rfl, hy, B4⟩
      rw [intL_len, Nat.zero_add] at hy B4
      simp only [bltR, blt1, tupleR, asT, List.length_cons, List.length_nil, List.set_cons_succ, List.set_cons_zero]
      refine ⟨by omega, ?_⟩
      have hf : .tup [k, .tup ys] ∈ formsOf ks vs := by
        unfold formsOf
        rw [List.mem_flatMap]
        refine ⟨k, mk, ?_⟩
        rw [hw]
        exact List.mem_map.mpr ⟨ys, hy, rfl⟩
      have gff := gf _ hf
      rw [wpSs]
      simp only [wpS, wpE, wpEs, getL, cmR, inR]
      refine ⟨?_, ?_⟩
      · simp only [Bool.and_eq_true, List.all_eq_true]
        exact ⟨gff.1.1.1.1, fun x hx => (gf x (F.mem x hx)).1.1.1.1⟩
      simp only [truR, tru]
      have B5 : BoxOk (N + 4 * (many - (i + 1))) st4 := B4.mono (by omega)
      by_cases hin : (xs.any fun y => pyEq y (.tup [k, .tup ys])) = true
      · simp only [hin, Bool.not_true, Bool.false_eq_true, if_false]
        rw [wpSs]
        dsimp only
        rw [wpSs]
        exact hK _ _ ⟨xs, _, _, _, _, rfl, ⟨F.nd, by have := F.len; omega, F.mem⟩, B5⟩
      · have hin : (xs.any fun y => pyEq y (.tup [k, .tup ys])) = false := by simpa using hin
        simp only [hin, Bool.not_false, if_true]
        rw [wpSs]
        simp only [wpS, wpE, wpEs, getL, appR, List.set_cons_succ, List.set_cons_zero]
        have := F.len
        refine ⟨by omega, ?_⟩
        rw [wpSs]
        dsimp only
        rw [wpSs]
        refine hK _ _ ⟨_, _, _, _, _, rfl, ⟨?_, by simp; omega, ?_⟩, B5⟩
        · rw [List.nodup_append]
          refine ⟨F.nd, by simp, fun x hx y hy => ?_⟩
          simp only [List.mem_singleton] at hy
          subst hy
          rintro rfl
          rw [List.any_eq_false] at hin
          exact hin _ hx gff.1.1.1.2
        · intro x hx
          rcases List.mem_append.mp hx with h | h
          · exact F.mem x h
          · simp only [List.mem_singleton] at h
            rw [h]; exact hf
    · rintro j x a st4 K2 hx ⟨ys, rfl, hy, B4⟩ hK2
      obtain ⟨rfl, hj⟩ := intL_get _ _ _ _ hx
      rw [Nat.zero_add] at hy B4 hK2
      simp only [asT, wipe, List.length_cons, List.length_nil, List.set_cons_succ, List.set_cons_zero]
      refine ⟨by omega, ?_⟩
      simp only [wpF, wpE, wpEs, getL]
      refine draw (N := N + 4 * (many - (i + 1)) + (3 - (j + 1))) (by rw [show N + 4 * (many - (i + 1)) + (3 - (j + 1)) + 1 = N + 4 * (many - (i + 1)) + (3 - j) by omega]; exact B4) (by omega) fun r3 st5 dr3 B5 => ?_
      simp only [cmR]
      refine ⟨by rfl, ?_⟩
      simp only [pyEq, truR, tru]
      by_cases h0 : r3 = 0
      · simp only [h0, beq_self_eq_true, if_true, wpD, wpE, getL, appR]
        have := sub_len _ _ hy
        refine ⟨by omega, hK2 _ _ ⟨_, rfl, ?_, B5⟩⟩
        simp only [subs]
        rw [Int.zero_add]
        exact List.mem_append_right _ (List.mem_map.mpr ⟨ys, hy, rfl⟩)
      · have : (r3 == 0) = false := by simp [h0]
        simp only [this, Bool.false_eq_true, if_false]
        exact hK2 _ _ ⟨ys, rfl, by simp only [subs]; exact List.mem_append_left _ hy, B5⟩
end K02
end

section
set_option Elab.async false
set_option linter.all false
set_option maxRecDepth 100000
set_option maxHeartbeats 4000000
namespace K02
open PySem Py
theorem fn_is_house : T.fn "is_house" = some (.body 1 2 d_is_house.ss) := by kernel_rfl
theorem fn_are_all : T.fn "are_all" = some (.body 4 5 d_are_all.ss) := by kernel_rfl
theorem fn_are_ascending : T.fn "are_ascending" = some (.body 1 2 d_are_ascending.ss) := by kernel_rfl
theorem ev_body {n : Nat} {f : Str} {ps m : Nat} {ss : Sms} (h : T.fn f = some (.body ps m ss)) {ds : List D} (hl : ds.length = ps) {d : D} (w : evSs T.sub (evCall T 0 n) 0 ss (ds.map some ++ List.replicate (m - ps) none) = .rt d) : evCall T 0 (n + 1) f ds = .ok d := by
  unfold evCall
  rw [h]
  simp only [hl, if_true, w]
theorem are_all_ok {n : Nat} {xs : List D} {most : Int} {c : D} {f : Str} {b : Bool} (h : ∀ x ∈ xs, evCall T 0 n f [x, c] = .ok (.bool true)) (hl : (xs.length : Int) ≤ most) (hm : most ≤ 1000) (ha : evCall T 0 n "are_ascending" [.tup xs] = .ok (.bool b)) :
    evCall T 0 (n + 1) "are_all" [.tup xs, .int most, c, .fn f] = .ok (.bool b) := by
  refine ev_body fn_are_all rfl ?_
  have e1 : ¬ most < (xs.length : Int) := by omega
  have e2 := ev_all (sub := T.sub) (C := evCall T 0 n) (own := [4]) (e := .callV 3 (.cons (.slot 4) (.cons (.slot 2) .nil))) (t := .nm 4) (it := .ex (.slot 0)) (l := [some (.tup xs), some (.int most), some c, some (.fn f), none]) (xs := xs) (g := fun _ => true)
    rfl (by omega) (fun x hx => ⟨_, rfl, by simp only [evSs, evS, evE, evEs, evO, evI, getV, opt_some, Out.bind_ok, Out.thn_ok, otn_some, SO.then_nx, SO.then_rt, if_true, if_false, Bool.false_eq_true, Bool.not_true, Bool.not_false, tru_bool, cmV, wipe, List.set_cons_zero, List.set_cons_succ, Option.bind_some, Option.map_some, fnV, decide_true, decide_false, isi_tup_tuple, isi_tup_list, isi_tup_str, isi_tup_int, isi_tup_bool, isi_lst_tuple, isi_lst_list, isi_lst_str, isi_lst_int, isi_lst_bool, isi_str_tuple, isi_str_list, isi_str_str, isi_str_int, isi_str_bool, isi_int_tuple, isi_int_list, isi_int_str, isi_int_int, isi_int_bool, isi_bool_tuple, isi_bool_list, isi_bool_str, isi_bool_int, isi_bool_bool, isi_none_tuple, isi_none_list, isi_none_str, isi_none_int, isi_none_bool, len_tup, tuple_tup, len_lst, tuple_lst, dict_of, h x hx]⟩)
  have e3 : xs.all (fun _ => true) = true := by simp
  rw [e3] at e2
  simp only [d_are_all, List.map_cons, List.map_nil, List.cons_append, List.nil_append, List.replicate]
  revert e2
  generalize (Py.E.blt .all (.cons (.lc [4] (.callV 3 (.cons (.slot 4) (.cons (.slot 2) .nil))) (.for_ (.nm 4) (.ex (.slot 0)) .nil .nil)) .nil)) = eA
  intro e2
  simp only [evSs, evS, evE, evEs, evO, evI, getV, opt_some, Out.bind_ok, Out.thn_ok, otn_some, SO.then_nx, SO.then_rt, if_true, if_false, Bool.false_eq_true, Bool.not_true, Bool.not_false, tru_bool, cmV, wipe, List.set_cons_zero, List.set_cons_succ, Option.bind_some, Option.map_some, fnV, decide_true, decide_false, isi_tup_tuple, isi_tup_list, isi_tup_str, isi_tup_int, isi_tup_bool, isi_lst_tuple, isi_lst_list, isi_lst_str, isi_lst_int, isi_lst_bool, isi_str_tuple, isi_str_list, isi_str_str, isi_str_int, isi_str_bool, isi_int_tuple, isi_int_list, isi_int_str, isi_int_int, isi_int_bool, isi_bool_tuple, isi_bool_list, isi_bool_str, isi_bool_int, isi_bool_bool, isi_none_tuple, isi_none_list, isi_none_str, isi_none_int, isi_none_bool, len_tup, tuple_tup, len_lst, tuple_lst, dict_of, e2, e1, ha]
theorem atI_of {xs : List D} {i : Nat} (h : i < xs.length) : atI xs (i : Int) = some xs[i] := by
  unfold atI
  rw [if_pos (by omega), List.getElem?_eq_getElem (by simpa using h)]
  rfl
theorem asc_ok {n : Nat} {xs : List D} (hl : xs.length ≤ 1000) (h : ∀ i (hi : i + 1 < xs.length), (alk xs[i] xs[i + 1] && xs[i].cmpOk && xs[i + 1].cmpOk && isTup2 xs[i] && ltD xs[i] xs[i + 1]) = true) :
    evCall T 0 (n + 1) "are_ascending" [.tup xs] = .ok (.bool true) := by
  refine ev_body fn_are_ascending rfl ?_
  have e2 := ev_all (sub := T.sub) (C := evCall T 0 n) (own := [1]) (e := .cmp .lt (.ix (.slot 0) (.slot 1)) (.ix (.slot 0) (.bin .add (.slot 1) (.cst (.int 1))))) (t := .nm 1) (it := .rg (.cons (.bin .sub (.blt .len (.cons (.slot 0) .nil)) (.cst (.int 1))) .nil)) (l := [some (.tup xs), none]) (xs := intL 0 ((xs.length : Int) - 1).toNat) (g := fun _ => true)
    (by simp only [evSs, evS, evE, evEs, evO, evI, getV, opt_some, Out.bind_ok, Out.thn_ok, otn_some, SO.then_nx, SO.then_rt, if_true, if_false, Bool.false_eq_true, Bool.not_true, Bool.not_false, tru_bool, cmV, wipe, List.set_cons_zero, List.set_cons_succ, Option.bind_some, Option.map_some, fnV, decide_true, decide_false, isi_tup_tuple, isi_tup_list, isi_tup_str, isi_tup_int, isi_tup_bool, isi_lst_tuple, isi_lst_list, isi_lst_str, isi_lst_int, isi_lst_bool, isi_str_tuple, isi_str_list, isi_str_str, isi_str_int, isi_str_bool, isi_int_tuple, isi_int_list, isi_int_str, isi_int_int, isi_int_bool, isi_bool_tuple, isi_bool_list, isi_bool_str, isi_bool_int, isi_bool_bool, isi_none_tuple, isi_none_list, isi_none_str, isi_none_int, isi_none_bool, len_tup, tuple_tup, len_lst, tuple_lst, dict_of, opV, rgV]; rw [if_pos (by unfold small62; omega)]; rfl) (by rw [intL_len]; omega) (fun x hx => ⟨_, rfl, by
      obtain ⟨i, hi, rfl⟩ := List.mem_iff_getElem.mp hx
      rw [intL_len] at hi
      obtain ⟨e, _⟩ := intL_get _ 0 i _ (List.getElem?_eq_getElem (by rw [intL_len]; exact hi))
      rw [e]
      have h1 := h i (by omega)
      have a1 := atI_of (xs := xs) (i := i) (by omega)
      have a2 := atI_of (xs := xs) (i := i + 1) (by omega)
      simp only [evSs, evS, evE, evEs, evO, evI, getV, opt_some, Out.bind_ok, Out.thn_ok, otn_some, SO.then_nx, SO.then_rt, if_true, if_false, Bool.false_eq_true, Bool.not_true, Bool.not_false, tru_bool, cmV, wipe, List.set_cons_zero, List.set_cons_succ, Option.bind_some, Option.map_some, fnV, decide_true, decide_false, isi_tup_tuple, isi_tup_list, isi_tup_str, isi_tup_int, isi_tup_bool, isi_lst_tuple, isi_lst_list, isi_lst_str, isi_lst_int, isi_lst_bool, isi_str_tuple, isi_str_list, isi_str_str, isi_str_int, isi_str_bool, isi_int_tuple, isi_int_list, isi_int_str, isi_int_int, isi_int_bool, isi_bool_tuple, isi_bool_list, isi_bool_str, isi_bool_int, isi_bool_bool, isi_none_tuple, isi_none_list, isi_none_str, isi_none_int, isi_none_bool, len_tup, tuple_tup, len_lst, tuple_lst, dict_of, opV, ixV, Int.zero_add, a1]
      rw [show (i : Int) + 1 = ((i + 1 : Nat) : Int) by omega, a2]
      simp only [evSs, evS, evE, evEs, evO, evI, getV, opt_some, Out.bind_ok, Out.thn_ok, otn_some, SO.then_nx, SO.then_rt, if_true, if_false, Bool.false_eq_true, Bool.not_true, Bool.not_false, tru_bool, cmV, wipe, List.set_cons_zero, List.set_cons_succ, Option.bind_some, Option.map_some, fnV, decide_true, decide_false, isi_tup_tuple, isi_tup_list, isi_tup_str, isi_tup_int, isi_tup_bool, isi_lst_tuple, isi_lst_list, isi_lst_str, isi_lst_int, isi_lst_bool, isi_str_tuple, isi_str_list, isi_str_str, isi_str_int, isi_str_bool, isi_int_tuple, isi_int_list, isi_int_str, isi_int_int, isi_int_bool, isi_bool_tuple, isi_bool_list, isi_bool_str, isi_bool_int, isi_bool_bool, isi_none_tuple, isi_none_list, isi_none_str, isi_none_int, isi_none_bool, len_tup, tuple_tup, len_lst, tuple_lst, dict_of]
      generalize xs[i] = a at h1
      generalize xs[i + 1] = b at h1
      simp only [Bool.and_eq_true] at h1
      obtain ⟨⟨⟨⟨q1, q2⟩, q3⟩, q4⟩, q5⟩ := h1
      cases a <;> simp only [isTup2, Bool.false_eq_true] at q4
      cases b <;> simp only [alk, Bool.false_eq_true] at q1
      simp [alk, q1, q2, q3, q5]⟩)
  have e3 : (intL 0 ((xs.length : Int) - 1).toNat).all (fun _ => true) = true := by simp
  rw [e3] at e2
  simp only [d_are_ascending, List.map_cons, List.map_nil, List.cons_append, List.nil_append, List.replicate]
  simp only [evSs, evS, e2, Out.thn_ok, SO.then_rt]
theorem is_house_ok {n : Nat} {t v r tl F c1 c2 : D} {b : Bool} (h1 : evCall T 0 n "is_tables" [t] = .ok (.bool true)) (h2 : dictOfV t = some c1) (h3 : evCall T 0 n "are_views" [v, c1] = .ok (.bool true)) (h4 : evCall T 0 n "are_rules" [r, c1] = .ok (.bool true))
    (h5 : evCall T 0 n "are_all" [tl, .int 6, c1, .fn "is_tells"] = .ok (.bool true)) (h6 : evCall T 0 n "columns_in" [.tup [t, v, r, tl, F]] = .ok c2) (h7 : evCall T 0 n "are_all" [F, .int 12, c2, .fn "is_form_over"] = .ok (.bool b)) :
    evCall T 0 (n + 1) "is_house" [.tup [t, v, r, tl, F]] = .ok (.bool b) := by
  refine ev_body fn_is_house rfl ?_
  simp only [d_is_house, List.map_cons, List.map_nil, List.cons_append, List.nil_append, List.replicate]
  have i0 : ixV (.tup [t, v, r, tl, F]) (.int 0) = some t := rfl
  have i1 : ixV (.tup [t, v, r, tl, F]) (.int 1) = some v := rfl
  have i2 : ixV (.tup [t, v, r, tl, F]) (.int 2) = some r := rfl
  have i3 : ixV (.tup [t, v, r, tl, F]) (.int 3) = some tl := rfl
  have i4 : ixV (.tup [t, v, r, tl, F]) (.int 4) = some F := rfl
  have l5 : cmV .ne (.int ([t, v, r, tl, F].length : Nat)) (.int 5) = some false := by rfl
  have as1 : ∀ d, asV (.nm 1) d [some (.tup [t, v, r, tl, F]), none] = some [some (.tup [t, v, r, tl, F]), some d] := fun _ => rfl
  simp only [evSs, evS, evE, evEs, getV, opt_some, Out.bind_ok, Out.thn_ok, otn_some, SO.then_nx, SO.then_rt, if_true, if_false, Bool.false_eq_true, Bool.not_true, Bool.not_false, tru_bool, isi_tup_tuple, len_tup, l5, i0, i1, i2, i3, i4, h1, h2, h3, h4, h5, h6, h7, dict_of, as1]
/-- the forms, sorted, are what is asked for -/
theorem forms_asc {n : Nat} {ks vs xs : List D} {many : Nat} (G : colsGood ks vs = true) (hm : many ≤ 4) (F : FormsOk ks vs many xs) : evCall T 0 (n + 1) "are_ascending" [.tup (sortI xs)] = .ok (.bool true) := by
  simp only [colsGood, Bool.and_eq_true, decide_eq_true_eq, List.all_eq_true] at G
  obtain ⟨⟨⟨gs, gl, gn⟩, gk⟩, gf⟩ := G
  have hl := F.len
  have ha : ∀ a ∈ xs, ∀ b ∈ xs, alk a b = true := fun a x b y => ((gf a (F.mem a x)).2 b (F.mem b y)).1
  have up := sortI_up xs ha
  have nd := (sortI_perm xs).nodup_iff.mpr F.nd
  have mem : ∀ x ∈ sortI xs, x ∈ formsOf ks vs := fun x hx => F.mem x ((sortI_perm xs).mem_iff.mp hx)
  refine asc_ok (by rw [sortI_len]; omega) fun i hi => ?_
  have m1 := mem _ (List.getElem_mem (show i < (sortI xs).length by omega))
  have m2 := mem _ (List.getElem_mem hi)
  have lt := List.pairwise_iff_getElem.mp up i (i + 1) (by omega) hi (by omega)
  have ne := List.pairwise_iff_getElem.mp nd i (i + 1) (by omega) hi (by omega)
  have g1 := gf _ m1
  have g2 := gf _ m2
  have g3 := g1.2 _ m2
  simp only [lt, Bool.or_false, Bool.or_eq_true, decide_eq_true_eq, ne, false_or] at g3
  rw [g3.1, g1.1.1.1.1, g2.1.1.1.1, g1.1.1.2, g3.2]
  rfl
theorem forms_all {n : Nat} {ks vs xs : List D} {many : Nat} (G : colsGood ks vs = true) (hm : many ≤ 4) (F : FormsOk ks vs many xs) (h : ∀ x ∈ formsOf ks vs, evCall T 0 (n + 1) "is_form_over" [x, .dct ks vs] = .ok (.bool true)) :
    evCall T 0 (n + 2) "are_all" [.tup (sortI xs), .int 12, .dct ks vs, .fn "is_form_over"] = .ok (.bool true) :=
  are_all_ok (fun x hx => h x (F.mem x ((sortI_perm xs).mem_iff.mp hx))) (by have := F.len; rw [sortI_len]; omega) (by omega) (forms_asc G hm F)
end K02
end

section
set_option Elab.async false
set_option linter.all false
set_option maxRecDepth 100000
set_option maxHeartbeats 4000000
namespace K02
open PySem Py
def s (x : String) : D := .str (Str.ofString x)
def i (n : Int) : D := .int n
def tables : D := .tup [.tup [s "e", i 2], .tup [s "p", i 1], .tup [s "s", i 3]]
def one : D := .tup [.tup [s "x", i 2], .tup [.tup [s "e", .tup [s "x", s "y"]]]]
def viewL : List D := [.tup [one], .tup [one, .tup [.tup [s "y", s "y"], .tup [.tup [s "s", .tup [s "x", s "y", s "z"]]]]],
  .tup [.tup [.tup [s "x"], .tup [.tup [s "p", .tup [s "x"]], .tup [s "p", .tup [s "x"]]]]], .tup [.tup [.tup [i 7, i 7, i 7], .tup []]]]
def viewsAll : List D := .tup [] :: (viewL.map fun a => .tup [.tup [s "va", a]]) ++ viewL.flatMap fun a => viewL.map fun b => .tup [.tup [s "va", a], .tup [s "vb", b]]
def rules3 : List D := [.tup [.tup [.tup [s "e", .tup [s "x", s "y"]]], .tup [.tup [s "p", .tup [s "x"]]]],
  .tup [.tup [.tup [s "p", .tup [s "x"]], .tup [s "e", .tup [i 1, s "x"]]], .tup [.tup [s "s", .tup [s "x", s "z", i 2]], .tup [s "s", .tup [s "z", s "z", s "x"]]]],
  .tup [.tup [.tup [s "p", .tup [i 3]]], .tup [.tup [s "s", .tup [i 1, i 1, i 1]]]]]
def rulesAll : List D := [.tup [], .tup (rules3.take 1), .tup (rules3.take 2), .tup rules3]
def tells4 : List D := [.tup [s "e", .tup [], i 0], .tup [s "e", .tup [i 0], i 1], .tup [s "s", .tup [i 0, i 2], i 1], .tup [s "s", .tup [i 1], i 0]]
def tellsAll : List D := [.tup (tells4.take 1), .tup (tells4.take 2), .tup (tells4.take 3), .tup tells4, .tup [], .tup ((tells4.take 2).drop 1), .tup ((tells4.take 3).drop 1), .tup (tells4.drop 1)]
def isT (o : Out D) : Bool := match o with
  | .ok (.bool true) => true
  | _ => false
theorem isT_ok {o : Out D} (h : isT o = true) : o = .ok (.bool true) := by
  unfold isT at h
  split at h
  · rfl
  · cases h
def c1 : D := (dictOfV tables).getD .none
def colsAt (v : D) : List D × List D := match evCall T 0 30 "columns_in" [.tup [tables, v, .none, .none, .none]] with
  | .ok (.dct ks vs) => (ks, vs)
  | _ => ([], [])
theorem c1_eq : dictOfV tables = some c1 := by kernel_rfl
theorem tables_ok (n : Nat) : evCall T 0 (n + 8) "is_tables" [tables] = .ok (.bool true) := by kernel_rfl
theorem views_ok (n : Nat) : ∀ v ∈ viewsAll, evCall T 0 (n + 10) "are_views" [v, c1] = .ok (.bool true) := by
  have : (viewsAll.all fun v => isT (evCall T 0 (n + 10) "are_views" [v, c1])) = true := by kernel_rfl
  intro v hv
  exact isT_ok (List.all_eq_true.mp this v hv)
theorem rules_ok (n : Nat) : ∀ v ∈ rulesAll, evCall T 0 (n + 10) "are_rules" [v, c1] = .ok (.bool true) := by
  have : (rulesAll.all fun v => isT (evCall T 0 (n + 10) "are_rules" [v, c1])) = true := by kernel_rfl
  intro v hv
  exact isT_ok (List.all_eq_true.mp this v hv)
theorem tells_ok (n : Nat) : ∀ v ∈ tellsAll, evCall T 0 (n + 10) "are_all" [v, .int 6, c1, .fn "is_tells"] = .ok (.bool true) := by
  have : (tellsAll.all fun v => isT (evCall T 0 (n + 10) "are_all" [v, .int 6, c1, .fn "is_tells"])) = true := by kernel_rfl
  intro v hv
  exact isT_ok (List.all_eq_true.mp this v hv)
theorem good_ok : ∀ v ∈ viewsAll, colsGood (colsAt v).1 (colsAt v).2 = true := by
  have : (viewsAll.all fun v => colsGood (colsAt v).1 (colsAt v).2) = true := by decide +kernel
  exact List.all_eq_true.mp this
theorem form_ok (n : Nat) : ∀ v ∈ viewsAll, ∀ x ∈ formsOf (colsAt v).1 (colsAt v).2, evCall T 0 (n + 10) "is_form_over" [x, .dct (colsAt v).1 (colsAt v).2] = .ok (.bool true) := by
  have : (viewsAll.all fun v => (formsOf (colsAt v).1 (colsAt v).2).all fun x => isT (evCall T 0 (n + 10) "is_form_over" [x, .dct (colsAt v).1 (colsAt v).2])) = true := by kernel_rfl
  intro v hv x hx
  exact isT_ok (List.all_eq_true.mp (List.all_eq_true.mp this v hv) x hx)
theorem cols_in (n : Nat) (r tl F : D) : ∀ v ∈ viewsAll, evCall T 0 (n + 10) "columns_in" [.tup [tables, v, r, tl, F]] = .ok (.dct (colsAt v).1 (colsAt v).2) := by
  intro v hv
  simp only [viewsAll, viewL, List.map_cons, List.map_nil, List.flatMap_cons, List.flatMap_nil, List.cons_append, List.nil_append, List.mem_cons, List.not_mem_nil, or_false] at hv
  rcases hv with rfl | rfl | rfl | rfl | rfl | rfl | rfl | rfl | rfl | rfl | rfl | rfl | rfl | rfl | rfl | rfl | rfl | rfl | rfl | rfl | rfl <;> kernel_rfl
theorem law_cols (n : Nat) (r tl F : D) : ∀ v ∈ viewsAll, evCall T 0 (n + 10) "_law_columns" [.tup [tables, v, r, tl, F]] = .ok (.dct (colsAt v).1 (colsAt v).2) := by
  intro v hv
  simp only [viewsAll, viewL, List.map_cons, List.map_nil, List.flatMap_cons, List.flatMap_nil, List.cons_append, List.nil_append, List.mem_cons, List.not_mem_nil, or_false] at hv
  rcases hv with rfl | rfl | rfl | rfl | rfl | rfl | rfl | rfl | rfl | rfl | rfl | rfl | rfl | rfl | rfl | rfl | rfl | rfl | rfl | rfl | rfl <;> kernel_rfl
end K02
end

section
set_option Elab.async false
set_option linter.all false
set_option maxRecDepth 100000
set_option maxHeartbeats 4000000
namespace K02
open PySem Py
theorem fn_view : T.fn "_law_view" = some (.body 1 2 d__law_view.ss) := by kernel_rfl
theorem fn_house : T.fn "_law_house" = some (.body 1 7 d__law_house.ss) := by kernel_rfl
/-- a list at a place that was drawn -/
theorem ix_drawn {st : Sto} {xs : List D} {r : Int} {m : Int} (dr : Py.Drawn m r) (hm : m = xs.length) (h0 : 0 < m) {Q : D → Prop} (q : ∀ x ∈ xs, Q x) : ixO st (.lst xs) (.int r) Q := by
  obtain ⟨x, e, m⟩ := atI_mem (xs := xs) (r := r) (by unfold Py.Drawn at dr; omega) (by unfold Py.Drawn at dr; omega)
  simp only [ixO, ixR, e]
  exact q x m
theorem view_ok {n N : Nat} {st : Sto} (B : BoxOk (N + 1) st) {Q E : KD} (q : ∀ v ∈ viewL, ∀ st', BoxOk N st' → Q v st') : wpCall T (n + 2) "_law_view" [.ref 0] st Q E := by
  refine call_body fn_view rfl ?_
  simp only [d__law_view, List.map_cons, List.map_nil, List.cons_append, List.nil_append, List.replicate]
  rw [wpSs]
  simp only [wpS, wpE, wpEs, asT, List.length_cons, List.length_nil, List.set_cons_succ, List.set_cons_zero]
  refine ⟨by omega, ?_⟩
  rw [wpSs]
  simp only [wpS, wpE, wpEs, getL]
  refine draw (N := N) B (by omega) fun r st' dr B' => ?_
  exact ix_drawn dr rfl (by omega) fun x hx => q x hx _ B'
def vw : Nat → List (List D)
  | 0 => [[]]
  | 1 => viewL.map fun a => [.tup [s "va", a]]
  | _ => viewL.flatMap fun a => viewL.map fun b => [.tup [s "va", a], .tup [s "vb", b]]
theorem vw_all : ∀ j, j ≤ 2 → ∀ vs ∈ vw j, .tup vs ∈ viewsAll := by
  have h0 : ((vw 0 ++ vw 1 ++ vw 2).all fun vs => decide (.tup vs ∈ viewsAll)) = true := by decide +kernel
  intro j hj vs hv
  have := List.all_eq_true.mp h0 vs (by
    simp only [List.mem_append]
    match j, hj with
    | 0, _ => exact .inl (.inl hv)
    | 1, _ => exact .inl (.inr hv)
    | 2, _ => exact .inr hv)
  simpa using this
theorem house_ok {n N : Nat} {st : Sto} (B : BoxOk (N + 30) st) {Q E : KD} (q : ∀ v ∈ viewsAll, ∀ r ∈ rulesAll, ∀ tl ∈ tellsAll, ∀ xs st', FormsOk (colsAt v).1 (colsAt v).2 4 xs → BoxOk N st' → Q (.tup [tables, v, r, tl, .tup (sortI xs)]) st') : wpCall T (n + 11) "_law_house" [.ref 0] st Q E := by
  refine call_body fn_house rfl ?_
  simp only [d__law_house, List.map_cons, List.map_nil, List.cons_append, List.nil_append, List.replicate]
  generalize hk0 : ({ nx := fun _ st => Q .none st, rt := Q, bk := fun _ _ => False, ct := fun _ _ => False, ex := fun x _ st => E x st } : Kn) = kn
  have rtq : kn.rt = Q := by rw [← hk0]
  clear hk0
  rw [wpSs]
  simp only [wpS, wpE, wpEs, asT, List.length_cons, List.length_nil, List.set_cons_succ, List.set_cons_zero]
  refine ⟨by omega, ?_⟩
  rw [wpSs]
  simp only [wpS, wpE, wpEs, wpC, wpI, wpO, getL]
  refine draw (N := N + 29) B (by omega) fun r st1 dr B1 => ?_
  simp only [endR, slR, walkR, itR]
  have hr : r = 0 ∨ r = 1 ∨ r = 2 := by unfold Py.Drawn at dr; omega
  refine ⟨by decide, ?_⟩
  generalize hxs : chars _ = xs
  have hx : xs.length ≤ 2 ∧ ∀ i x, xs[i]? = some x → i = 0 ∧ x = s "a" ∨ i = 1 ∧ x = s "b" := by
    have : xs = [] ∨ xs = [s "a"] ∨ xs = [s "a", s "b"] := by
      rw [← hxs]
      rcases hr with rfl | rfl | rfl
      · left; kernel_rfl
      · right; left; kernel_rfl
      · right; right; kernel_rfl
    rcases this with rfl | rfl | rfl
    · simp
    · refine ⟨by simp, fun i x h => ?_⟩
      match i, h with
      | 0, h => cases h; exact .inl ⟨rfl, rfl⟩
    · refine ⟨by simp, fun i x h => ?_⟩
      match i, h with
      | 0, h => cases h; exact .inl ⟨rfl, rfl⟩
      | 1, h => cases h; exact .inr ⟨rfl, rfl⟩
  refine forL_inv (I := fun j a st => ∃ vs, a = (vs, []) ∧ vs ∈ vw j ∧ BoxOk (N + 27 + (2 - j)) st) _ 0 _ _ ?_ ?_ ?_
  rotate_left
  · exact ⟨[], rfl, by simp [vw], B1⟩
  · rintro a st2 ⟨vs, rfl, hv, B2⟩
    rw [Nat.zero_add] at hv B2
    have hV := vw_all _ hx.1 vs hv
    have B2 : BoxOk (N + 27) st2 := B2.mono (by omega)
    simp only [bltR, blt1, tupleR, asT, List.length_cons, List.length_nil, List.set_cons_succ, List.set_cons_zero]
    refine ⟨by omega, ?_⟩
    rw [wpSs]
    simp only [wpS, wpE, wpEs, D.isCon, List.length_cons, List.length_nil, List.set_cons_succ, List.set_cons_zero]
    refine ⟨⟨trivial, by omega⟩, ?_⟩
    rw [wpSs]
    simp only [wpS, wpE, wpEs, getL, appR, List.length_cons, List.length_nil, List.set_cons_succ, List.set_cons_zero]
    refine ⟨by omega, ?_⟩
    rw [wpSs]
    simp only [wpS, wpE, wpEs, getL, asT, List.length_cons, List.length_nil, List.set_cons_succ, List.set_cons_zero]
    refine ⟨by omega, ?_⟩
    rw [wpSs]
    simp only [wpS, wpE, wpEs, wpO, getL, endR, slR, bltR, blt1, tupleR, opR]
    refine draw (N := N + 26) B2 (by omega) fun r1 st3 dr1 B3 => ?_
    simp only [endR, slR, bltR, blt1, tupleR, opR]
    refine draw (N := N + 25) B3 (by omega) fun r2 st4 dr2 B4 => ?_
    simp only [endR, slR, bltR, blt1, tupleR, opR]
    refine draw (N := N + 24) B4 (by omega) fun r3 st5 dr3 B5 => ?_
    simp only [endR, slR, bltR, blt1, tupleR, opR, asT, List.length_cons, List.length_nil, List.set_cons_succ, List.set_cons_zero]
    generalize hR : (D.tup (cut _ none (some r1))) = R
    generalize hT : (D.tup (cut _ (some r2) (some (1 + r3)))) = TL
    have mR : R ∈ rulesAll := by
      rw [← hR]
      have : r1 = 0 ∨ r1 = 1 ∨ r1 = 2 ∨ r1 = 3 := by unfold Py.Drawn at dr1; omega
      rcases this with rfl | rfl | rfl | rfl <;> decide +kernel
    have mT : TL ∈ tellsAll := by
      rw [← hT]
      have h2 : r2 = 0 ∨ r2 = 1 := by unfold Py.Drawn at dr2; omega
      have h3 : r3 = 0 ∨ r3 = 1 ∨ r3 = 2 ∨ r3 = 3 := by unfold Py.Drawn at dr3; omega
      rcases h2 with rfl | rfl <;> rcases h3 with rfl | rfl | rfl | rfl <;> decide +kernel
    refine ⟨by omega, ?_⟩
    rw [wpSs]
    simp only [wpS, wpE, wpEs, wpO, getL, endR, slR]
    refine ev_call (law_cols n R TL (.tup []) _ hV) ?_
    refine forms_ok (N := N) (many := 4) (good_ok _ hV) (by omega) (B5.mono (by omega)) fun ys st6 F B6 => ?_
    simp only [rtq]
    simp only [opR]
    refine ⟨?_, q _ hV R mR TL mT ys st6 F B6⟩
    show 4 + 1 ≤ 16777216
    omega
  · rintro j x a st2 K hj ⟨vs, rfl, hv, B2⟩ hK
    rw [Nat.zero_add] at hv B2 hK
    have hj2 := hx.2 j x hj
    simp only [asT, wipe, List.length_cons, List.length_nil, List.set_cons_succ, List.set_cons_zero]
    refine ⟨by omega, ?_⟩
    simp only [wpF, wpD, wpE, wpEs, getL]
    rcases hj2 with ⟨rfl, rfl⟩ | ⟨rfl, rfl⟩
    · simp only [s, opR, if_true]
      refine ⟨by decide, ?_⟩
      refine view_ok (n := n + 8) (N := N + 28) (B2.mono (by omega)) fun w hw st3 B3 => ?_
      simp only [appR]
      simp only [vw, List.mem_singleton] at hv
      subst hv
      exact ⟨by simp, hK _ _ ⟨_, rfl, List.mem_map.mpr ⟨w, hw, by kernel_rfl⟩, B3⟩⟩
    · simp only [s, opR, if_true]
      refine ⟨by decide, ?_⟩
      refine view_ok (n := n + 8) (N := N + 27) (B2.mono (by omega)) fun w hw st3 B3 => ?_
      simp only [appR]
      simp only [vw, List.mem_map] at hv
      obtain ⟨y, hy, rfl⟩ := hv
      exact ⟨by simp, hK _ _ ⟨_, rfl, List.mem_flatMap.mpr ⟨y, hy, List.mem_map.mpr ⟨w, hw, by kernel_rfl⟩⟩, B3⟩⟩
end K02
end

section
set_option Elab.async false
set_option linter.all false
set_option maxRecDepth 100000
set_option maxHeartbeats 4000000
namespace K02
open PySem Py
mutual
def lens : D → Bool
  | .tup xs => decide (xs.length ≤ 1000) && lensAll xs
  | .lst xs => decide (xs.length ≤ 1000) && lensAll xs
  | _ => true
def lensAll : List D → Bool
  | [] => true
  | x :: xs => lens x && lensAll xs
end
theorem lensAll_mem : ∀ {xs : List D}, lensAll xs = true → ∀ x ∈ xs, lens x = true
  | y :: ys, h, x, m => by
    simp only [lensAll, Bool.and_eq_true] at h
    rcases List.mem_cons.mp m with rfl | m
    · exact h.1
    · exact lensAll_mem h.2 x m
theorem plns_mem : ∀ {xs : List D}, plns xs = true → ∀ x ∈ xs, x.pln = true
  | y :: ys, h, x, m => by
    simp only [plns, Bool.and_eq_true] at h
    rcases List.mem_cons.mp m with rfl | m
    · exact h.1
    · exact plns_mem h.2 x m
theorem deps_mem : ∀ {xs : List D} {k : Nat}, deps xs ≤ k → ∀ x ∈ xs, x.dep ≤ k
  | y :: ys, k, h, x, m => by
    simp only [deps] at h
    rcases List.mem_cons.mp m with rfl | m
    · omega
    · exact deps_mem (by omega) x m
theorem mem_plns : ∀ {xs : List D}, (∀ x ∈ xs, x.pln = true) → plns xs = true
  | [], _ => rfl
  | y :: ys, h => by
    simp only [plns, Bool.and_eq_true]
    exact ⟨h y (by simp), mem_plns fun x m => h x (by simp [m])⟩
theorem mem_lens : ∀ {xs : List D}, (∀ x ∈ xs, lens x = true) → lensAll xs = true
  | [], _ => rfl
  | y :: ys, h => by
    simp only [lensAll, Bool.and_eq_true]
    exact ⟨h y (by simp), mem_lens fun x m => h x (by simp [m])⟩
theorem mem_deps {k : Nat} : ∀ {xs : List D}, (∀ x ∈ xs, x.dep ≤ k) → deps xs ≤ k
  | [], _ => by simp [deps]
  | y :: ys, h => by
    simp only [deps]
    have := h y (by simp)
    have := mem_deps (xs := ys) fun x m => h x (by simp [m])
    omega
theorem mem_show : ∀ {xs : List D}, (∀ x ∈ xs, x.pd.showable = true) → PyData.showableAll (pds xs) = true
  | [], _ => rfl
  | y :: ys, h => by
    simp only [pds, PyData.showableAll, Bool.and_eq_true]
    exact ⟨h y (by simp), mem_show fun x m => h x (by simp [m])⟩
/-- plain, not too deep, not too long -/
structure OkB (b d : Nat) (x : D) : Prop where
  pln : x.pln = true
  dep : x.dep ≤ d
  lens : lens x = true
  sh : x.pd.showable = true
  len : x.shown.length ≤ b
theorem OkB.mono {b b' d d' : Nat} {x : D} (h : OkB b d x) (l : b ≤ b') (m : d ≤ d') : OkB b' d' x := ⟨h.pln, by have := h.dep; omega, h.lens, h.sh, by have := h.len; omega⟩
theorem OkB.repr {b d : Nat} {x : D} (h : OkB b d x) (hb : b ≤ 16777216) (hd : d ≤ 40) : x.reprOk = true := by
  have h1 := h.len
  have h2 := h.dep
  simp only [D.reprOk, D.cmpOk, h.pln, h.sh, Bool.and_eq_true, decide_eq_true_eq]
  refine ⟨⟨⟨trivial, by omega⟩, trivial⟩, by omega⟩
theorem shownAll_len {b d : Nat} : ∀ {xs : List D}, (∀ x ∈ xs, OkB b d x) → ∀ t ∈ PyData.shownAll (pds xs), t.length ≤ b
  | [], _, t, m => by simp [pds, PyData.shownAll] at m
  | y :: ys, h, t, m => by
    simp only [pds, PyData.shownAll, List.mem_cons] at m
    rcases m with rfl | m
    · exact (h y (by simp)).len
    · exact shownAll_len (fun x m => h x (by simp [m])) t m
theorem shownAll_length : ∀ xs : List D, (PyData.shownAll (pds xs)).length = xs.length
  | [] => rfl
  | y :: ys => by simp [pds, PyData.shownAll, shownAll_length ys]
theorem piled_le {b : Nat} : ∀ {ts : List Str}, (∀ t ∈ ts, t.length ≤ b) → piled ts ≤ ts.length * (b + 2)
  | [], _ => by simp [piled_nil]
  | y :: ys, h => by
    have h1 := h y (by simp)
    have h2 := piled_le (ts := ys) fun t m => h t (by simp [m])
    rw [piled_cons]
    simp only [List.length_cons, Nat.succ_mul]
    omega
theorem tupleText_le {b : Nat} {ts : List Str} (h : ∀ t ∈ ts, t.length ≤ b) : (tupleText ts).length ≤ 3 + ts.length * (b + 2) := by
  unfold tupleText
  rw [strLen_append, strLen_append]
  have h1 : ((if ts.length == 1 then ",)" else ")" : String) : Str).length ≤ 2 := by
    split
    · decide
    · decide
  have h2 : ((("(" : Str))).length = 1 := rfl
  have h3 := piled_le h
  by_cases e : ts = []
  · subst e
    have : (Str.join ", " []).length = 0 := rfl
    omega
  · have := join_length_add ts e
    omega
mutual
/-- as long as what is shown, or longer -/
def bnd : D → Nat
  | .tup xs => 3 + bnds xs
  | .lst xs => 3 + bnds xs
  | .bool b => (D.bool b).shown.length
  | .int b => (D.int b).shown.length
  | .str b => (D.str b).shown.length
  | _ => 10
def bnds : List D → Nat
  | [] => 0
  | x :: xs => bnd x + 2 + bnds xs
end
theorem tupleText_piled (ts : List Str) : (tupleText ts).length ≤ 3 + piled ts := by
  unfold tupleText
  rw [strLen_append, strLen_append]
  have h1 : ((if ts.length == 1 then ",)" else ")" : String) : Str).length ≤ 2 := by
    split
    · decide
    · decide
  have h2 : ((("(" : Str))).length = 1 := rfl
  by_cases e : ts = []
  · subst e
    have : (Str.join ", " []).length = 0 := rfl
    omega
  · have := join_length_add ts e
    omega
theorem textFrom_piled : ∀ (ts : List Str) (k : Nat) (acc : Str), (textFrom k acc ts).length ≤ acc.length + piled ts
  | [], k, acc => by simp [textFrom]
  | t :: r, k, acc => by
    have h2 := textFrom_piled r (k + 1) (acc ++ (if k > 0 then ", " else "" : String) ++ t)
    rw [strLen_append, strLen_append] at h2
    have h3 : ((if k > 0 then ", " else "" : String) : Str).length ≤ 2 := by
      split <;> decide
    rw [piled_cons]
    simp only [textFrom]
    omega
mutual
theorem shown_bnd : ∀ x : D, x.shown.length ≤ bnd x
  | .tup xs => by
    have h := tupleText_piled (PyData.shownAll (pds xs))
    have g := shown_bnds xs
    show (tupleText (PyData.shownAll (pds xs))).length ≤ _
    simp only [bnd]
    omega
  | .lst xs => by
    have h := textFrom_piled (PyData.shownAll (pds xs)) 0 ("[" : Str)
    have g := shown_bnds xs
    show (listText (PyData.shownAll (pds xs))).length ≤ _
    unfold listText
    rw [strLen_append]
    simp only [bnd]
    have h1 : (("[" : Str)).length = 1 := rfl
    have h2 : (("]" : String) : Str).length = 1 := rfl
    have h3 : (("]" : Str)).length = 1 := rfl
    omega
  | .bool b => by simp only [bnd]; exact Nat.le_refl _
  | .int b => by simp only [bnd]; exact Nat.le_refl _
  | .str b => by simp only [bnd]; exact Nat.le_refl _
  | .none => by simp only [bnd]; exact (by decide : (PyData.shown .none).length ≤ 10)
  | .set _ => by simp only [bnd]; exact (by decide : (PyData.shown .none).length ≤ 10)
  | .dct _ _ => by simp only [bnd]; exact (by decide : (PyData.shown .none).length ≤ 10)
  | .rng _ _ => by simp only [bnd]; exact (by decide : (PyData.shown .none).length ≤ 10)
  | .exc _ _ => by simp only [bnd]; exact (by decide : (PyData.shown .none).length ≤ 10)
  | .fn _ => by simp only [bnd]; exact (by decide : (PyData.shown .none).length ≤ 10)
  | .ref _ => by simp only [bnd]; exact (by decide : (PyData.shown .none).length ≤ 10)
  | .script => by simp only [bnd]; exact (by decide : (PyData.shown .none).length ≤ 10)
theorem shown_bnds : ∀ xs : List D, piled (PyData.shownAll (pds xs)) ≤ bnds xs
  | [] => by simp [pds, PyData.shownAll, piled_nil]
  | x :: xs => by
    have h := shown_bnd x
    have g := shown_bnds xs
    simp only [pds, PyData.shownAll, piled_cons, bnds]
    have e : x.shown = x.pd.shown := rfl
    rw [e] at h
    omega
end
def okB (b d : Nat) (x : D) : Bool := x.pln && decide (x.dep ≤ d) && lens x && x.pd.showable && decide (bnd x ≤ b)
theorem OkB.of {b d : Nat} {x : D} (h : okB b d x = true) : OkB b d x := by
  simp only [okB, Bool.and_eq_true, decide_eq_true_eq] at h
  exact ⟨h.1.1.1.1, h.1.1.1.2, h.1.1.2, h.1.2, Nat.le_trans (shown_bnd x) h.2⟩
theorem textFrom_le {b : Nat} : ∀ {ts : List Str} {k : Nat} {acc : Str}, (∀ t ∈ ts, t.length ≤ b) → (textFrom k acc ts).length ≤ acc.length + ts.length * (b + 2)
  | [], k, acc, _ => by simp [textFrom]
  | t :: r, k, acc, h => by
    have h1 := h t (by simp)
    have h2 := textFrom_le (ts := r) (k := k + 1) (acc := acc ++ (if k > 0 then ", " else "" : String) ++ t) fun t m => h t (by simp [m])
    rw [strLen_append, strLen_append] at h2
    have h3 : ((if k > 0 then ", " else "" : String) : Str).length ≤ 2 := by
      split <;> decide
    simp only [textFrom, List.length_cons, Nat.succ_mul]
    omega
theorem OkB.tup {b d : Nat} {xs : List D} (h : ∀ x ∈ xs, OkB b d x) (hl : xs.length ≤ 1000) : OkB (3 + xs.length * (b + 2)) (d + 1) (.tup xs) := by
  refine ⟨mem_plns fun x m => (h x m).pln, ?_, ?_, mem_show fun x m => (h x m).sh, ?_⟩
  · have := mem_deps fun x m => (h x m).dep
    simp only [D.dep]
    omega
  · simp only [K02.lens, mem_lens fun x m => (h x m).lens, hl, decide_true, Bool.and_self]
  · have := tupleText_le (shownAll_len h)
    rw [shownAll_length] at this
    exact this
theorem OkB.lst {b d : Nat} {xs : List D} (h : ∀ x ∈ xs, OkB b d x) (hl : xs.length ≤ 1000) : OkB (3 + xs.length * (b + 2)) (d + 1) (.lst xs) := by
  refine ⟨mem_plns fun x m => (h x m).pln, ?_, ?_, mem_show fun x m => (h x m).sh, ?_⟩
  · have := mem_deps fun x m => (h x m).dep
    simp only [D.dep]
    omega
  · simp only [K02.lens, mem_lens fun x m => (h x m).lens, hl, decide_true, Bool.and_self]
  · have := textFrom_le (k := 0) (acc := ("[" : Str)) (shownAll_len h)
    rw [shownAll_length] at this
    show (listText _).length ≤ _
    unfold listText
    rw [strLen_append]
    have h1 : (("[" : Str)).length = 1 := rfl
    have h2 : (("]" : String) : Str).length = 1 := rfl
    have h3 : (("]" : Str)).length = 1 := rfl
    omega
theorem fn_anew : T.fn "anew" = some (.body 1 2 d_anew.ss) := by kernel_rfl
theorem fn_need : T.fn "need_house" = some (.body 1 1 d_need_house.ss) := by kernel_rfl
theorem fn_is_question : T.fn "is_question" = some (.body 2 2 d_is_question.ss) := by kernel_rfl
theorem fn_refused : T.fn "_law_refused" = some (.body 1 3 d__law_refused.ss) := by kernel_rfl
theorem anew_ok (n : Nat) : ∀ (k : Nat) (x : D), x.pln = true → x.dep ≤ k → lens x = true → evCall T 0 (n + k + 1) "anew" [x] = .ok x := by
  have lst (k : Nat) (xs : List D) (v : D) (hv : walkV v = some xs) (h : ∀ x ∈ xs, evCall T 0 k "anew" [x] = .ok x) (hl : xs.length ≤ 1000) : evE T.sub (evCall T 0 k) (.lc [1] (.call "anew" (.cons (.slot 1) .nil)) (.for_ (.nm 1) (.ex (.slot 0)) .nil .nil)) [some v, none] = .ok (.lst xs) := by
    have := ev_lc (sub := T.sub) (C := evCall T 0 k) (own := [1]) (e := .call "anew" (.cons (.slot 1) .nil)) (t := .nm 1) (it := .ex (.slot 0)) (l := [some v, none]) (xs := xs) (g := id)
      (by simp only [evSs, evS, evE, evEs, evO, evI, getV, opt_some, Out.bind_ok, Out.thn_ok, otn_some, SO.then_nx, SO.then_rt, if_true, if_false, Bool.false_eq_true, Bool.not_true, Bool.not_false, tru_bool, cmV, wipe, List.set_cons_zero, List.set_cons_succ, Option.bind_some, Option.map_some, fnV, decide_true, decide_false, isi_tup_tuple, isi_tup_list, isi_tup_str, isi_tup_int, isi_tup_bool, isi_lst_tuple, isi_lst_list, isi_lst_str, isi_lst_int, isi_lst_bool, isi_str_tuple, isi_str_list, isi_str_str, isi_str_int, isi_str_bool, isi_int_tuple, isi_int_list, isi_int_str, isi_int_int, isi_int_bool, isi_bool_tuple, isi_bool_list, isi_bool_str, isi_bool_int, isi_bool_bool, isi_none_tuple, isi_none_list, isi_none_str, isi_none_int, isi_none_bool, len_tup, tuple_tup, len_lst, tuple_lst, dict_of, hv]) (by omega) (fun x hx => ⟨_, rfl, by simp only [evSs, evS, evE, evEs, evO, evI, getV, opt_some, Out.bind_ok, Out.thn_ok, otn_some, SO.then_nx, SO.then_rt, if_true, if_false, Bool.false_eq_true, Bool.not_true, Bool.not_false, tru_bool, cmV, wipe, List.set_cons_zero, List.set_cons_succ, Option.bind_some, Option.map_some, fnV, decide_true, decide_false, isi_tup_tuple, isi_tup_list, isi_tup_str, isi_tup_int, isi_tup_bool, isi_lst_tuple, isi_lst_list, isi_lst_str, isi_lst_int, isi_lst_bool, isi_str_tuple, isi_str_list, isi_str_str, isi_str_int, isi_str_bool, isi_int_tuple, isi_int_list, isi_int_str, isi_int_int, isi_int_bool, isi_bool_tuple, isi_bool_list, isi_bool_str, isi_bool_int, isi_bool_bool, isi_none_tuple, isi_none_list, isi_none_str, isi_none_int, isi_none_bool, len_tup, tuple_tup, len_lst, tuple_lst, dict_of, h x hx, id]⟩)
    simpa using this
  have flat (k : Nat) (x : D) (h1 : bltV T.sub (.isinst ["list"]) [x] = some (.bool false)) (h2 : bltV T.sub (.isinst ["tuple"]) [x] = some (.bool false)) : evCall T 0 (k + 1) "anew" [x] = .ok x := by
    refine ev_body fn_anew rfl ?_
    simp only [d_anew, List.map_cons, List.map_nil, List.cons_append, List.nil_append, List.replicate]
    generalize (Py.E.lc [1] (.call "anew" (.cons (.slot 1) .nil)) (.for_ (.nm 1) (.ex (.slot 0)) .nil .nil)) = eA
    simp only [evSs, evS, evE, evEs, getV, opt_some, Out.bind_ok, Out.thn_ok, otn_some, SO.then_nx, SO.then_rt, h1, h2, tru_bool, if_false, Bool.false_eq_true]
  intro k
  induction k with
  | zero =>
    intro x hp hd hl
    cases x with
    | none => exact flat _ _ isi_none_list isi_none_tuple
    | bool b => exact flat _ _ isi_bool_list isi_bool_tuple
    | int b => exact flat _ _ isi_int_list isi_int_tuple
    | str b => exact flat _ _ isi_str_list isi_str_tuple
    | tup xs => simp only [D.dep] at hd; omega
    | lst xs => simp only [D.dep] at hd; omega
    | _ => simp only [D.pln, Bool.false_eq_true] at hp
  | succ k ih =>
    intro x hp hd hl
    cases x with
    | tup xs =>
      simp only [D.pln] at hp
      simp only [D.dep] at hd
      simp only [lens, Bool.and_eq_true, decide_eq_true_eq] at hl
      refine ev_body fn_anew rfl ?_
      have e := lst (n + (k + 1)) xs (.tup xs) rfl (fun x m => ih x (plns_mem hp x m) (deps_mem (by omega) x m) (lensAll_mem hl.2 x m)) hl.1
      simp only [d_anew, List.map_cons, List.map_nil, List.cons_append, List.nil_append, List.replicate]
      revert e
      generalize (Py.E.lc [1] (.call "anew" (.cons (.slot 1) .nil)) (.for_ (.nm 1) (.ex (.slot 0)) .nil .nil)) = eA
      intro e
      simp only [evSs, evS, evE, evEs, evO, evI, getV, opt_some, Out.bind_ok, Out.thn_ok, otn_some, SO.then_nx, SO.then_rt, if_true, if_false, Bool.false_eq_true, Bool.not_true, Bool.not_false, tru_bool, cmV, wipe, List.set_cons_zero, List.set_cons_succ, Option.bind_some, Option.map_some, fnV, decide_true, decide_false, isi_tup_tuple, isi_tup_list, isi_tup_str, isi_tup_int, isi_tup_bool, isi_lst_tuple, isi_lst_list, isi_lst_str, isi_lst_int, isi_lst_bool, isi_str_tuple, isi_str_list, isi_str_str, isi_str_int, isi_str_bool, isi_int_tuple, isi_int_list, isi_int_str, isi_int_int, isi_int_bool, isi_bool_tuple, isi_bool_list, isi_bool_str, isi_bool_int, isi_bool_bool, isi_none_tuple, isi_none_list, isi_none_str, isi_none_int, isi_none_bool, len_tup, tuple_tup, len_lst, tuple_lst, dict_of, e]
    | lst xs =>
      simp only [D.pln] at hp
      simp only [D.dep] at hd
      simp only [lens, Bool.and_eq_true, decide_eq_true_eq] at hl
      refine ev_body fn_anew rfl ?_
      have e := lst (n + (k + 1)) xs (.lst xs) rfl (fun x m => ih x (plns_mem hp x m) (deps_mem (by omega) x m) (lensAll_mem hl.2 x m)) hl.1
      simp only [d_anew, List.map_cons, List.map_nil, List.cons_append, List.nil_append, List.replicate]
      revert e
      generalize (Py.E.lc [1] (.call "anew" (.cons (.slot 1) .nil)) (.for_ (.nm 1) (.ex (.slot 0)) .nil .nil)) = eA
      intro e
      simp only [evSs, evS, evE, evEs, evO, evI, getV, opt_some, Out.bind_ok, Out.thn_ok, otn_some, SO.then_nx, SO.then_rt, if_true, if_false, Bool.false_eq_true, Bool.not_true, Bool.not_false, tru_bool, cmV, wipe, List.set_cons_zero, List.set_cons_succ, Option.bind_some, Option.map_some, fnV, decide_true, decide_false, isi_tup_tuple, isi_tup_list, isi_tup_str, isi_tup_int, isi_tup_bool, isi_lst_tuple, isi_lst_list, isi_lst_str, isi_lst_int, isi_lst_bool, isi_str_tuple, isi_str_list, isi_str_str, isi_str_int, isi_str_bool, isi_int_tuple, isi_int_list, isi_int_str, isi_int_int, isi_int_bool, isi_bool_tuple, isi_bool_list, isi_bool_str, isi_bool_int, isi_bool_bool, isi_none_tuple, isi_none_list, isi_none_str, isi_none_int, isi_none_bool, len_tup, tuple_tup, len_lst, tuple_lst, dict_of, e]
    | none => exact flat _ _ isi_none_list isi_none_tuple
    | bool b => exact flat _ _ isi_bool_list isi_bool_tuple
    | int b => exact flat _ _ isi_int_list isi_int_tuple
    | str b => exact flat _ _ isi_str_list isi_str_tuple
    | _ => simp only [D.pln, Bool.false_eq_true] at hp
theorem ev_raise {n : Nat} {f : Str} {ps m : Nat} {ss : Sms} (h : T.fn f = some (.body ps m ss)) {ds : List D} (hl : ds.length = ps) {d : D} {l : Py.Loc} (w : evSs T.sub (evCall T 0 n) 0 ss (ds.map some ++ List.replicate (m - ps) none) = .ex d l) : evCall T 0 (n + 1) f ds = .er d := by
  unfold evCall
  rw [h]
  simp only [hl, if_true, w]
theorem need_bad {n : Nat} {x : D} (h : evCall T 0 n "is_house" [x] = .ok (.bool false)) (ha : evCall T 0 n "anew" [x] = .ok x) : evCall T 0 (n + 1) "need_house" [x] = .er (.exc "InvalidHouse" x) := by
  refine ev_raise (l := [some x]) fn_need rfl ?_
  simp only [d_need_house, List.map_cons, List.map_nil, List.cons_append, List.nil_append, List.replicate]
  simp only [evSs, evS, evE, evEs, evO, evI, getV, opt_some, Out.bind_ok, Out.thn_ok, otn_some, SO.then_nx, SO.then_rt, if_true, if_false, Bool.false_eq_true, Bool.not_true, Bool.not_false, tru_bool, cmV, wipe, List.set_cons_zero, List.set_cons_succ, Option.bind_some, Option.map_some, fnV, decide_true, decide_false, isi_tup_tuple, isi_tup_list, isi_tup_str, isi_tup_int, isi_tup_bool, isi_lst_tuple, isi_lst_list, isi_lst_str, isi_lst_int, isi_lst_bool, isi_str_tuple, isi_str_list, isi_str_str, isi_str_int, isi_str_bool, isi_int_tuple, isi_int_list, isi_int_str, isi_int_int, isi_int_bool, isi_bool_tuple, isi_bool_list, isi_bool_str, isi_bool_int, isi_bool_bool, isi_none_tuple, isi_none_list, isi_none_str, isi_none_int, isi_none_bool, len_tup, tuple_tup, len_lst, tuple_lst, dict_of, h, ha]
  rfl
theorem is_question_bad {n : Nat} {x q e : D} (h : evCall T 0 n "need_house" [x] = .er e) : evCall T 0 (n + 1) "is_question" [x, q] = .er e := by
  refine ev_raise (l := [some x, some q]) fn_is_question rfl ?_
  simp only [d_is_question, List.map_cons, List.map_nil, List.cons_append, List.nil_append, List.replicate]
  simp only [evSs, evS, evE, evEs, evO, evI, getV, opt_some, Out.bind_ok, Out.thn_ok, otn_some, SO.then_nx, SO.then_rt, if_true, if_false, Bool.false_eq_true, Bool.not_true, Bool.not_false, tru_bool, cmV, wipe, List.set_cons_zero, List.set_cons_succ, Option.bind_some, Option.map_some, fnV, decide_true, decide_false, isi_tup_tuple, isi_tup_list, isi_tup_str, isi_tup_int, isi_tup_bool, isi_lst_tuple, isi_lst_list, isi_lst_str, isi_lst_int, isi_lst_bool, isi_str_tuple, isi_str_list, isi_str_str, isi_str_int, isi_str_bool, isi_int_tuple, isi_int_list, isi_int_str, isi_int_int, isi_int_bool, isi_bool_tuple, isi_bool_list, isi_bool_str, isi_bool_int, isi_bool_bool, isi_none_tuple, isi_none_list, isi_none_str, isi_none_int, isi_none_bool, len_tup, tuple_tup, len_lst, tuple_lst, dict_of, h]
  rfl
theorem refused_ok {n : Nat} {x : D} {b : Nat} (O : OkB b 12 x) (hb : b ≤ 16777216) (h : evCall T 0 (n + 13) "is_house" [x] = .ok (.bool false)) : evCall T 0 (n + 16) "_law_refused" [x] = .ok (.bool true) := by
  have hr := O.repr hb (by omega)
  have ha := anew_ok n 12 x O.pln O.dep O.lens
  have hq := is_question_bad (n := n + 14) (q := .tup []) (need_bad h ha)
  refine ev_body fn_refused rfl ?_
  simp only [d__law_refused, List.map_cons, List.map_nil, List.cons_append, List.nil_append, List.replicate]
  have e1 : bltV T.sub .repr [x] = some (.str x.shown) := by simp only [bltV, blt1V, hr, if_true]
  have isx : (([("InvalidHouse" : Str)]).any (isOf T.sub (.exc "InvalidHouse" x)) : Bool) = true := by kernel_rfl
  have as1 : ∀ d, asV (.nm 1) d [some x, none, none] = some [some x, some d, none] := fun _ => rfl
  have as2 : ∀ d e, asV (.nm 1) d [some x, some .none, e] = some [some x, some d, e] := fun _ _ => rfl
  have a2 : (2 : Nat) < ([some x, some .none, none] : Py.Loc).length := by simp
  simp only [evSs, evS, evE, evEs, evH, getV, opt_some, Out.bind_ok, Out.bind_er, Out.thn_ok, Out.thn_er, otn_some, SO.then_nx, SO.then_rt, SO.then_ex, hq, as1, isx, if_true, a2, List.set_cons_zero, List.set_cons_succ, as2, valV, e1]
  have d1 : decide (D.exc "InvalidHouse" x = D.none) = false := by simp
  have c1 : cmV .eq (.str x.shown) (.str x.shown) = some true := by simp [cmV, D.cmpOk, D.pln, D.dep, pyEq]
  simp only [d1, c1, tru_bool, Bool.not_false, opt_some, Out.bind_ok, if_true, Out.thn_ok, SO.then_rt]
end K02
end

section
set_option Elab.async false
set_option linter.all false
set_option maxRecDepth 100000
set_option maxHeartbeats 4000000
namespace K02
open PySem Py
/-- an odd house and what is_house says of it -/
def RowOk (x : D) (due : Bool) : Prop := (∀ m, evCall T 0 (m + 16) "is_house" [x] = .ok (.bool due)) ∧ (due = false → OkB 10000 12 x)
theorem house_is (m : Nat) {v r tl : D} (hv : v ∈ viewsAll) (hr : evCall T 0 (m + 15) "are_rules" [r, c1] = .ok (.bool true)) (ht : tl ∈ tellsAll) {xs : List D} (F : FormsOk (colsAt v).1 (colsAt v).2 4 xs) : evCall T 0 (m + 16) "is_house" [.tup [tables, v, r, tl, .tup (sortI xs)]] = .ok (.bool true) :=
  is_house_ok (tables_ok (m + 7)) c1_eq (views_ok (m + 5) v hv) hr (tells_ok (m + 5) tl ht) (cols_in (m + 5) r tl _ v hv) (forms_all (n := m + 13) (good_ok v hv) (by omega) F (form_ok (m + 4) v hv))
theorem is_house_bad {n : Nat} {t v r tl F c1 : D} (h1 : evCall T 0 n "is_tables" [t] = .ok (.bool true)) (h2 : dictOfV t = some c1) (h3 : evCall T 0 n "are_views" [v, c1] = .ok (.bool true)) (h4 : evCall T 0 n "are_rules" [r, c1] = .ok (.bool false)) :
    evCall T 0 (n + 1) "is_house" [.tup [t, v, r, tl, F]] = .ok (.bool false) := by
  refine ev_body fn_is_house rfl ?_
  simp only [d_is_house, List.map_cons, List.map_nil, List.cons_append, List.nil_append, List.replicate]
  have i0 : ixV (.tup [t, v, r, tl, F]) (.int 0) = some t := rfl
  have i1 : ixV (.tup [t, v, r, tl, F]) (.int 1) = some v := rfl
  have i2 : ixV (.tup [t, v, r, tl, F]) (.int 2) = some r := rfl
  have l5 : cmV .ne (.int ([t, v, r, tl, F].length : Nat)) (.int 5) = some false := by rfl
  have as1 : ∀ d, asV (.nm 1) d [some (.tup [t, v, r, tl, F]), none] = some [some (.tup [t, v, r, tl, F]), some d] := fun _ => rfl
  simp only [evSs, evS, evE, evEs, getV, opt_some, Out.bind_ok, Out.thn_ok, otn_some, SO.then_nx, SO.then_rt, if_true, if_false, Bool.false_eq_true, Bool.not_true, Bool.not_false, tru_bool, isi_tup_tuple, len_tup, l5, i0, i1, i2, h1, h2, h3, h4, dict_of, as1]
theorem fn_bent : T.fn "_law_bent" = some (.body 2 11 d__law_bent.ss) := by kernel_rfl
def lenS : Sms → Nat
  | .nil => 0
  | .cons _ ss => lenS ss + 1
def NB : Nat := lenS d__law_bent.ss - 1
def bentAt (v r tl F : D) : SO := evSs T.sub (fun _ _ => .no) 0 (takeS NB d__law_bent.ss) [some (.ref 0), some (.tup [tables, v, r, tl, F]), none, none, none, none, none, none, none, none, none]
def locOf : SO → Py.Loc
  | .nx l => l
  | _ => []
def rowsAt (v r tl F : D) : List D := match getV (locOf (bentAt v r tl F)) 9 with
  | some (.lst xs) => xs
  | _ => []
def rule1 : D := .tup [.tup [.tup [s "e", .tup [s "x", s "y"]]], .tup [.tup [s "e", .tup [s "y", s "x"]]]]
def restAt (r tl : D) : List D := (rowsAt .none r tl .none).drop 5
theorem bent_nx (v r tl F : D) : bentAt v r tl F = .nx (locOf (bentAt v r tl F)) := by kernel_rfl
theorem bent_0 (v r tl F : D) : getV (locOf (bentAt v r tl F)) 0 = some (.ref 0) := by kernel_rfl
theorem bent_9 (v r tl F : D) : getV (locOf (bentAt v r tl F)) 9 = some (.lst (rowsAt v r tl F)) := by kernel_rfl
theorem rows_at (v r tl F : D) : rowsAt v r tl F = [.tup [.tup [tables, v, r, tl, F], .bool true], .tup [.lst [tables, v, r, tl, F], .bool false], .tup [.tup [tables, v, r, tl], .bool false],
    .tup [.tup [tables, v, .tup [rule1], tl, F], .bool true], .tup [.tup [tables, v, .tup [rule1, rule1], tl, F], .bool false]] ++ restAt r tl := by kernel_rfl
def isF (o : Out D) : Bool := match o with
  | .ok (.bool false) => true
  | _ => false
theorem isF_ok {o : Out D} (h : isF o = true) : o = .ok (.bool false) := by
  unfold isF at h
  split at h
  · rfl
  · cases h
def rowGood (m : Nat) (x : D) : Bool := match x with
  | .tup [x, .bool true] => isT (evCall T 0 (m + 16) "is_house" [x])
  | .tup [x, .bool false] => isF (evCall T 0 (m + 16) "is_house" [x]) && okB 10000 12 x
  | _ => false
def partA (r tl : D) : List D := (restAt r tl).take 8
def partB : List D := (restAt .none .none).drop 8
theorem rest_at (r tl : D) : restAt r tl = partA r tl ++ partB := by kernel_rfl
theorem partA_good (m : Nat) : ∀ r ∈ rulesAll, ∀ tl ∈ tellsAll, ∀ x ∈ partA r tl, rowGood m x = true := by
  have : (rulesAll.all fun r => tellsAll.all fun tl => (partA r tl).all (rowGood m)) = true := by kernel_rfl
  intro r hr tl ht x hx
  exact List.all_eq_true.mp (List.all_eq_true.mp (List.all_eq_true.mp this r hr) tl ht) x hx
theorem partB_good (m : Nat) : ∀ x ∈ partB, rowGood m x = true := by
  have : (partB.all (rowGood m)) = true := by kernel_rfl
  intro x hx
  exact List.all_eq_true.mp this x hx
end K02
end

section
set_option Elab.async false
set_option linter.all false
set_option maxRecDepth 100000
set_option maxHeartbeats 4000000
namespace K02
open PySem Py
theorem row_of {x : D} (h : ∀ m, rowGood m x = true) : ∃ y b, x = .tup [y, .bool b] ∧ RowOk y b := by
  have h0 := h 0
  unfold rowGood at h0
  split at h0
  · refine ⟨_, true, rfl, fun m => isT_ok (by have := h m; simpa only [rowGood] using this), fun e => by cases e⟩
  · refine ⟨_, false, rfl, fun m => isF_ok ?_, fun _ => OkB.of ?_⟩
    · have := h m
      simp only [rowGood, Bool.and_eq_true] at this
      exact this.1
    · simp only [Bool.and_eq_true] at h0
      exact h0.2
  · cases h0
theorem comp_ok : okB 600 10 tables = true ∧ (viewsAll.all (okB 600 10)) = true ∧ (rulesAll.all (okB 600 10)) = true ∧ (tellsAll.all (okB 600 10)) = true ∧ okB 600 10 (.tup [rule1, rule1]) = true ∧ (viewsAll.all fun v => (formsOf (colsAt v).1 (colsAt v).2).all (okB 60 4)) = true := by decide +kernel
theorem formsB {v : D} (hv : v ∈ viewsAll) {xs : List D} (F : FormsOk (colsAt v).1 (colsAt v).2 4 xs) : OkB 600 10 (.tup (sortI xs)) := by
  have h := List.all_eq_true.mp comp_ok.2.2.2.2.2 v hv
  have hl := F.len
  have := OkB.tup (b := 60) (d := 4) (xs := sortI xs) (fun x hx => OkB.of (List.all_eq_true.mp h x (F.mem x ((sortI_perm xs).mem_iff.mp hx)))) (by rw [sortI_len]; omega)
  rw [sortI_len] at this
  exact this.mono (by omega) (by omega)
theorem five {P : D → Prop} {a b c d e : D} (ha : P a) (hb : P b) (hc : P c) (hd : P d) (he : P e) : ∀ x ∈ [a, b, c, d, e], P x := by
  intro x hx
  simp only [List.mem_cons, List.not_mem_nil, or_false] at hx
  rcases hx with rfl | rfl | rfl | rfl | rfl <;> assumption
theorem rows_ok {v r tl : D} (hv : v ∈ viewsAll) (hr : r ∈ rulesAll) (ht : tl ∈ tellsAll) {xs : List D} (F : FormsOk (colsAt v).1 (colsAt v).2 4 xs) : ∀ x ∈ rowsAt v r tl (.tup (sortI xs)), ∃ y b, x = .tup [y, .bool b] ∧ RowOk y b := by
  obtain ⟨k1, k2, k3, k4, k5, k6⟩ := comp_ok
  have o1 := OkB.of k1
  have o2 := OkB.of (List.all_eq_true.mp k2 v hv)
  have o3 := OkB.of (List.all_eq_true.mp k3 r hr)
  have o4 := OkB.of (List.all_eq_true.mp k4 tl ht)
  have o5 := OkB.of k5
  have o6 := formsB hv F
  rw [rows_at, rest_at]
  intro x hx
  simp only [List.cons_append, List.nil_append, List.mem_cons, List.mem_append] at hx
  rcases hx with rfl | rfl | rfl | rfl | rfl | hx | hx
  · exact ⟨_, _, rfl, fun m => house_is m hv (rules_ok (m + 5) r hr) ht F, fun e => by cases e⟩
  · exact ⟨_, _, rfl, fun m => by kernel_rfl, fun _ => (OkB.lst (five o1 o2 o3 o4 o6) (by simp)).mono (by simp) (by omega)⟩
  · refine ⟨_, _, rfl, fun m => by kernel_rfl, fun _ => (OkB.tup (b := 600) (d := 10) (fun x hx => ?_) (by simp)).mono (by simp) (by omega)⟩
    simp only [List.mem_cons, List.not_mem_nil, or_false] at hx
    rcases hx with rfl | rfl | rfl | rfl <;> assumption
  · exact ⟨_, _, rfl, fun m => house_is m hv (by kernel_rfl) ht F, fun e => by cases e⟩
  · exact ⟨_, _, rfl, fun m => is_house_bad (tables_ok (m + 7)) c1_eq (views_ok (m + 5) v hv) (by kernel_rfl), fun _ => (OkB.tup (five o1 o2 o5 o4 o6) (by simp)).mono (by simp) (by omega)⟩
  · exact row_of fun m => partA_good m r hr tl ht x hx
  · exact row_of fun m => partB_good m x hx
theorem drop_bent : dropS NB d__law_bent.ss = .cons (.ret (.ix (.bor 9) (.call "_law_draw" (.cons (.slot 0) (.cons (.blt .len (.cons (.bor 9) .nil)) .nil))))) .nil := by kernel_rfl
theorem rows_len (v r tl F : D) : (rowsAt v r tl F).length = 34 := by kernel_rfl
theorem bent_run (v r tl F : D) : ∃ loc, evSs T.sub (fun _ _ => .no) 0 (takeS NB d__law_bent.ss) [some (.ref 0), some (.tup [tables, v, r, tl, F]), none, none, none, none, none, none, none, none, none] = .nx loc ∧ getV loc 0 = some (.ref 0) ∧ getV loc 9 = some (.lst (rowsAt v r tl F)) :=
  ⟨_, bent_nx v r tl F, bent_0 v r tl F, bent_9 v r tl F⟩
theorem bent_ok {n N : Nat} {v r tl : D} (hv : v ∈ viewsAll) (hr : r ∈ rulesAll) (ht : tl ∈ tellsAll) {xs : List D} (F : FormsOk (colsAt v).1 (colsAt v).2 4 xs) {st : Sto} (B : BoxOk (N + 1) st) {Q E : KD}
    (q : ∀ y b st', RowOk y b → BoxOk N st' → Q (.tup [y, .bool b]) st') : wpCall T (n + 2) "_law_bent" [.ref 0, .tup [tables, v, r, tl, .tup (sortI xs)]] st Q E := by
  have hl := rows_len v r tl (.tup (sortI xs))
  have hx := rows_ok hv hr ht F
  obtain ⟨loc, h1, h2, h3⟩ := bent_run v r tl (.tup (sortI xs))
  revert hl hx h3
  generalize rowsAt v r tl (.tup (sortI xs)) = rows
  intro hl hx h3
  refine call_body fn_bent rfl ?_
  refine wp_split noC NB d__law_bent.ss _ _ h1 ?_
  rw [drop_bent, wpSs]
  simp only [wpS, wpE, wpEs]
  refine getV_ok h3 ?_
  refine getV_ok h2 ?_
  refine getV_ok h3 ?_
  simp only [bltR, blt1, lenR]
  refine draw (N := N) B (by omega) fun k st' dr B' => ?_
  refine ix_drawn dr rfl (by omega) fun x hx' => ?_
  obtain ⟨y, b, rfl, h⟩ := hx x hx'
  exact q y b _ h B'
end K02
end

section
set_option Elab.async false
set_option linter.all false
set_option maxRecDepth 100000
set_option maxHeartbeats 4000000
namespace K02
open PySem Py
theorem fn_letters : T.fn "_law_letters" = some (.body 1 5 d__law_letters.ss) := by kernel_rfl
theorem fn_letters_of : T.fn "letters_of" = some (.body 1 4 d_letters_of.ss) := by kernel_rfl
def isS : D → Bool
  | .str _ => true
  | _ => false
def tieTerms : D → List D
  | .tup [_, .tup ts] => ts
  | _ => []
def strsOf (ties : List D) : List D := ties.flatMap fun t => (tieTerms t).filter isS
def termsL : List D := [s "x", s "y", s "z", i 1, i 2, s "w"]
def tiesAll : List D := (termsL.flatMap fun a => termsL.map fun b => .tup [s "e", .tup [a, b]]) ++ termsL.map fun a => .tup [s "p", .tup [a]]
/-- a tie by its parts -/
def tieGood (t : D) : Bool := match t with
  | .tup [_, .tup ts] => decide (ts.length ≤ 2) && ts.all fun x => match x with
    | .str _ => true
    | .int _ => true
    | _ => false
  | _ => false
theorem ties_good : ∀ t ∈ tiesAll, tieGood t = true := by
  have : tiesAll.all tieGood = true := by decide +kernel
  exact List.all_eq_true.mp this
theorem tie_shape {t : D} (h : tieGood t = true) : ∃ name ts, t = .tup [name, .tup ts] ∧ ts.length ≤ 2 ∧ ∀ x ∈ ts, (∃ a, x = .str a) ∨ (∃ a, x = .int a) := by
  unfold tieGood at h
  split at h
  · simp only [Bool.and_eq_true, decide_eq_true_eq, List.all_eq_true] at h
    refine ⟨_, _, rfl, h.1, fun x hx => ?_⟩
    have := h.2 x hx
    cases x <;> simp at this ⊢
  · cases h
theorem isS_ev {x : D} (h : (∃ a, x = .str a) ∨ (∃ a, x = .int a)) : bltV T.sub (.isinst ["str"]) [x] = some (.bool (isS x)) := by
  rcases h with ⟨a, rfl⟩ | ⟨a, rfl⟩
  · exact isi_str_str
  · exact isi_int_str
theorem dedup_append : ∀ (acc a b : List D), dedup acc (a ++ b) = dedup (dedup acc a) b
  | acc, [], b => rfl
  | acc, x :: a, b => by
    simp only [List.cons_append, dedup]
    split
    · exact dedup_append acc a b
    · exact dedup_append _ a b
theorem dedup_len : ∀ (acc a : List D), (dedup acc a).length ≤ acc.length + a.length
  | acc, [] => by simp [dedup]
  | acc, x :: a => by
    simp only [dedup]
    split
    · have := dedup_len acc a; simp; omega
    · have := dedup_len (acc ++ [x]) a; simp at this ⊢; omega
theorem dedup_nodup : ∀ (acc a : List D), acc.Nodup → (dedup acc a).Nodup
  | acc, [], h => h
  | acc, x :: a, h => by
    simp only [dedup]
    split
    · exact dedup_nodup acc a h
    · rename_i c
      refine dedup_nodup _ a ?_
      rw [List.nodup_append]
      refine ⟨h, by simp, fun y hy z hz => ?_⟩
      simp only [List.mem_singleton] at hz
      subst hz
      rintro rfl
      exact c hy
theorem dedup_mem : ∀ (acc a : List D), ∀ x ∈ dedup acc a, x ∈ acc ∨ x ∈ a
  | acc, [], x, h => .inl h
  | acc, y :: a, x, h => by
    simp only [dedup] at h
    split at h
    · rcases dedup_mem acc a x h with h | h
      · exact .inl h
      · exact .inr (by simp [h])
    · rcases dedup_mem _ a x h with h | h
      · simp only [List.mem_append, List.mem_singleton] at h
        rcases h with h | h
        · exact .inl h
        · exact .inr (by simp [h])
      · exact .inr (by simp [h])
theorem strs_mem {ties : List D} {x : D} (h : x ∈ strsOf ties) : ∃ a, x = .str a := by
  obtain ⟨t, _, h⟩ := List.mem_flatMap.mp h
  have := (List.mem_filter.mp h).2
  cases x <;> simp only [isS, Bool.false_eq_true] at this
  exact ⟨_, rfl⟩
def lettersOf (ties : List D) : List D := sortI (dedup [] (strsOf ties))
theorem sorted_set {xs : List D} (h : ∀ x ∈ xs, ∃ a, x = D.str a) (hl : xs.length ≤ 1000) : bltV T.sub .sorted [.set (dedup [] xs)] = some (.lst (sortI (dedup [] xs))) := by
  have hd : ∀ x ∈ dedup [] xs, ∃ a, x = D.str a := fun x hx => by
    rcases dedup_mem [] xs x hx with h' | h'
    · cases h'
    · exact h x h'
  have h1 : sortOk (dedup [] xs) = true := by
    simp only [sortOk, Bool.and_eq_true, Bool.or_eq_true, List.all_eq_true]
    refine ⟨fun x hx y hy => ?_, .inr fun x hx => ?_⟩
    · obtain ⟨a, rfl⟩ := hd x hx
      obtain ⟨b, rfl⟩ := hd y hy
      exact ⟨rfl, by simp [D.dep]⟩
    · obtain ⟨a, rfl⟩ := hd x hx
      rfl
  have h2 := dedup_len [] xs
  have h3 := dedup_nodup [] xs List.nodup_nil
  simp only [List.length_nil] at h2
  simp only [bltV, blt1V, sortedV]
  rw [if_pos ⟨h1, by omega, h3⟩]
theorem strs_len : ∀ {ties : List D}, (∀ t ∈ ties, tieGood t = true) → (strsOf ties).length ≤ 2 * ties.length
  | [], _ => by simp [strsOf]
  | t :: ties, h => by
    obtain ⟨nm, ts, rfl, hl, _⟩ := tie_shape (h t (by simp))
    have := strs_len (ties := ties) fun t m => h t (by simp [m])
    have h2 := List.length_filter_le isS ts
    simp only [strsOf, List.flatMap_cons, tieTerms, List.length_append, List.length_cons] at this ⊢
    omega
theorem evFor_step {f : D → Py.Loc → SO} {x : D} {xs : List D} {l l' : Py.Loc} (h : f x l = .nx l') : evFor (x :: xs) f l = evFor xs f l' := by
  simp only [evFor, h]
theorem letters_ok {n : Nat} {ties : List D} (h : ∀ t ∈ ties, tieGood t = true) (hl : ties.length ≤ 3) : evCall T 0 (n + 1) "_law_letters" [.lst ties] = .ok (.lst (lettersOf ties)) := by
  refine ev_body fn_letters rfl ?_
  simp only [d__law_letters, List.map_cons, List.map_nil, List.cons_append, List.nil_append, List.replicate]
  have loop : ∀ (us as : List D) (a b c : Option D), (∀ t ∈ us, tieGood t = true) → as.length + 2 * us.length ≤ 100 → ∃ a' b' c', evFor us (fun x l => otn (asV (.tp (.cons (.nm 2) (.cons (.nm 3) .nil))) x l) fun l => evSs T.sub (evCall T 0 n) 0 (.cons (.ext 1 (.lc [4] (.slot 4) (.for_ (.nm 4) (.ex (.slot 3)) (.cons (.blt (.isinst ["str"]) (.cons (.slot 4) .nil)) .nil) .nil))) .nil) l) [some (.lst ties), some (.lst as), a, b, c] = .nx [some (.lst ties), some (.lst (as ++ strsOf us)), a', b', c'] := by
    intro us
    induction us with
    | nil => intro as a b c _ _; exact ⟨a, b, c, by simp [evFor, strsOf]⟩
    | cons t us ih =>
      intro as a b c g l
      obtain ⟨nm, ts, rfl, htl, hts⟩ := tie_shape (g t (by simp))
      have e := ev_lcf (sub := T.sub) (C := evCall T 0 n) (own := [4]) (e := .slot 4) (c := .blt (.isinst ["str"]) (.cons (.slot 4) .nil)) (t := .nm 4) (it := .ex (.slot 3)) (l := [some (.lst ties), some (.lst as), some nm, some (.tup ts), c]) (xs := ts) (p := isS) (g := id)
        rfl (by omega) (fun x hx => ⟨_, rfl, ⟨_, by simp only [evSs, evS, evE, evEs, evO, evI, getV, opt_some, Out.bind_ok, Out.thn_ok, otn_some, SO.then_nx, SO.then_rt, if_true, if_false, Bool.false_eq_true, Bool.not_true, Bool.not_false, tru_bool, cmV, wipe, List.set_cons_zero, List.set_cons_succ, Option.bind_some, Option.map_some, fnV, decide_true, decide_false, isi_tup_tuple, isi_tup_list, isi_tup_str, isi_tup_int, isi_tup_bool, isi_lst_tuple, isi_lst_list, isi_lst_str, isi_lst_int, isi_lst_bool, isi_str_tuple, isi_str_list, isi_str_str, isi_str_int, isi_str_bool, isi_int_tuple, isi_int_list, isi_int_str, isi_int_int, isi_int_bool, isi_bool_tuple, isi_bool_list, isi_bool_str, isi_bool_int, isi_bool_bool, isi_none_tuple, isi_none_list, isi_none_str, isi_none_int, isi_none_bool, len_tup, tuple_tup, len_lst, tuple_lst, dict_of, isS_ev (hts x hx)]; rfl, rfl⟩, fun _ => rfl⟩)
      rw [List.map_id] at e
      have h2 := List.length_filter_le isS ts
      simp only [List.length_cons] at l
      obtain ⟨a', b', c', e2⟩ := ih (as ++ ts.filter isS) (some nm) (some (.tup ts)) c (fun t m => g t (by simp [m])) (by simp; omega)
      refine ⟨a', b', c', ?_⟩
      have as1 : asV (.tp (.cons (.nm 2) (.cons (.nm 3) .nil))) (.tup [nm, .tup ts]) [some (.lst ties), some (.lst as), a, b, c] = some [some (.lst ties), some (.lst as), some nm, some (.tup ts), c] := rfl
      refine (evFor_step (l' := [some (.lst ties), some (.lst (as ++ ts.filter isS)), some nm, some (.tup ts), c]) ?_).trans (e2.trans ?_)
      · simp only [as1, otn_some, evSs, evS, getV, Option.bind_some, lkV, e, Out.thn_ok]
        rw [if_pos (by omega)]
        rfl
      · simp [strsOf, tieTerms]
  obtain ⟨a', b', c', e⟩ := loop ties [] none none none h (by simp; omega)
  have h1 := strs_len h
  have h2 : keysOk (strsOf ties) = true := by
    simp only [keysOk, keyOk, List.all_eq_true]
    intro x hx
    obtain ⟨a, rfl⟩ := strs_mem hx
    rfl
  have h3 := sorted_set (xs := strsOf ties) (fun x hx => strs_mem hx) (by omega)
  have h4 : bltV T.sub .set [.lst (strsOf ties)] = some (.set (dedup [] (strsOf ties))) := by
    simp only [bltV, blt1V, setV]
    rw [if_pos ⟨h2, by omega⟩]
  rw [List.nil_append] at e
  revert e
  generalize ((.cons (.ext 1 (.lc [4] (.slot 4) (.for_ (.nm 4) (.ex (.slot 3)) (.cons (.blt (.isinst ["str"]) (.cons (.slot 4) .nil)) .nil) .nil))) .nil) : Sms) = bd
  intro e
  have c1 : (if D.isCon (.lst []) = true ∧ 1 < ([some (.lst ties), none, none, none, none] : Py.Loc).length then SO.nx (([some (.lst ties), none, none, none, none] : Py.Loc).set 1 (some (.lst []))) else SO.no) = .nx [some (.lst ties), some (.lst []), none, none, none] := by
    rw [if_pos ⟨rfl, by simp⟩]; rfl
  simp only [evSs, evS, evE, evEs, evI, Out.bind_ok, Out.thn_ok, c1, SO.then_nx, getV, opt_some, walkV, itV, e, h3, h4, SO.then_rt]
  rfl
end K02
end

section
set_option Elab.async false
set_option linter.all false
set_option maxRecDepth 100000
set_option maxHeartbeats 4000000
namespace K02
open PySem Py
theorem evL_fold {f : D → Acc → Out Acc} {g : List D → D → List D} {c B : Nat} : ∀ (xs as : List D), (∀ x ∈ xs, ∀ a : List D, a.length + c ≤ B → f x (a, []) = .ok (g a x, []) ∧ (g a x).length ≤ a.length + c) → as.length + c * xs.length ≤ B → evL xs f (as, []) = .ok (xs.foldl g as, [])
  | [], as, _, _ => by simp [evL]
  | x :: xs, as, h, l => by
    simp only [List.length_cons, Nat.mul_succ] at l
    have h1 := h x (by simp) as (by omega)
    simp only [evL]
    rw [h1.1, Out.bind_ok, evL_fold xs (g as x) (fun y hy => h y (by simp [hy])) (by have := h1.2; omega)]
    simp
def addOne (a : List D) (x : D) : List D := if isS x then (if x ∈ a then a else a ++ [x]) else a
theorem fold_add : ∀ (ts a : List D), ts.foldl addOne a = dedup a (ts.filter isS)
  | [], a => rfl
  | x :: ts, a => by
    rw [List.foldl_cons, fold_add ts]
    unfold addOne
    cases e : isS x with
    | true =>
      simp only [if_true, List.filter_cons, e, dedup]
      split <;> rfl
    | false => simp [e]
theorem fold_ties : ∀ (ts a : List D), ts.foldl (fun a t => dedup a ((tieTerms t).filter isS)) a = dedup a (strsOf ts)
  | [], a => rfl
  | x :: ts, a => by
    rw [List.foldl_cons, fold_ties ts, ← dedup_append]
    rfl
theorem letters_of_ok {n : Nat} {ties : List D} (h : ∀ t ∈ ties, tieGood t = true) (hl : ties.length ≤ 10) : evCall T 0 (n + 1) "letters_of" [.tup ties] = .ok (.lst (lettersOf ties)) := by
  refine ev_body fn_letters_of rfl ?_
  simp only [d_letters_of, List.map_cons, List.map_nil, List.cons_append, List.nil_append, List.replicate]
  have e : evE T.sub (evCall T 0 n) (.sc [2, 3, 1] (.slot 1) (.for_ (.tp (.cons (.nm 2) (.cons (.nm 3) .nil))) (.ex (.slot 0)) .nil (.for_ (.nm 1) (.ex (.slot 3)) (.cons (.blt (.isinst ["str"]) (.cons (.slot 1) .nil)) .nil) .nil))) [some (.tup ties), none, none, none] = .ok (.set (dedup [] (strsOf ties))) := by
    simp only [evE, evC, evI, getV, opt_some, Out.bind_ok, walkV, itV, Out.calm]
    rw [evL_fold (c := 2) (B := 100) (g := fun a t => dedup a ((tieTerms t).filter isS)) ties [] (fun t ht a ha => ?_) (by simp; omega)]
    · rw [fold_ties]; rfl
    · obtain ⟨nm, ts, rfl, htl, hts⟩ := tie_shape (h t ht)
      refine ⟨?_, ?_⟩
      · have as1 : asV (.tp (.cons (.nm 2) (.cons (.nm 3) .nil))) (.tup [nm, .tup ts]) (wipe [some (.tup ties), none, none, none] [2, 3, 1]) = some [some (.tup ties), none, some nm, some (.tup ts)] := rfl
        simp only [as1, opt_some, Out.bind_ok, evF, if_true, evD, evI, evE, getV, walkV, itV, Out.calm]
        rw [evL_fold (c := 1) (B := 100) (g := addOne) ts a (fun x hx a ha => ?_) (by omega)]
        · rw [fold_add]; rfl
        · have as2 : asV (.nm 1) x [some (.tup ties), none, some nm, some (.tup ts)] = some [some (.tup ties), some x, some nm, some (.tup ts)] := rfl
          refine ⟨?_, by unfold addOne; split <;> (try split) <;> simp⟩
          simp only [as2, opt_some, Out.bind_ok, evF, evE, evEs, getV, isS_ev (hts x hx), tru_bool, Out.calm]
          unfold addOne
          cases e : isS x with
          | true =>
            have hk : keyOk a x = true := by
              cases x <;> simp only [isS, Bool.false_eq_true] at e
              rfl
            simp only [if_true, evD, evE, getV, opt_some, Out.bind_ok, addV, hk, Option.map_some, true_and]
            rw [if_pos (by omega)]
            rfl
          | false => rfl
      · have := dedup_len a (ts.filter isS)
        have h2 := List.length_filter_le isS ts
        simp only [tieTerms]
        omega
  have h1 := strs_len h
  have h3 := sorted_set (xs := strsOf ties) (fun x hx => strs_mem hx) (by omega)
  revert e
  generalize (Py.E.sc [2, 3, 1] (.slot 1) (.for_ (.tp (.cons (.nm 2) (.cons (.nm 3) .nil))) (.ex (.slot 0)) .nil (.for_ (.nm 1) (.ex (.slot 3)) (.cons (.blt (.isinst ["str"]) (.cons (.slot 1) .nil)) .nil) .nil))) = eA
  intro e
  simp only [evSs, evS, evE, evEs, e, Out.bind_ok, h3, opt_some, Out.thn_ok, SO.then_rt]
  rfl
end K02
end

section
set_option Elab.async false
set_option linter.all false
set_option maxRecDepth 100000
set_option maxHeartbeats 4000000
namespace K02
open PySem Py
theorem fn_part_over : T.fn "is_part_over" = some (.body 3 5 d_is_part_over.ss) := by kernel_rfl
theorem fn_ties_over : T.fn "are_ties_over" = some (.body 4 5 d_are_ties_over.ss) := by kernel_rfl
theorem fn_question_over : T.fn "is_question_over" = some (.body 3 4 d_is_question_over.ss) := by kernel_rfl
def ks2 : List D := [s "e", s "p"]
def vs2 : List D := [i 2, i 1]
def c2 : D := .dct ks2 vs2
def tables2 : D := .tup [.tup [s "e", i 2], .tup [s "p", i 1]]
theorem tie_over (m : Nat) : ∀ t ∈ tiesAll, evCall T 0 (m + 10) "is_tie_over" [t, c2] = .ok (.bool true) := by
  have : (tiesAll.all fun t => isT (evCall T 0 (m + 10) "is_tie_over" [t, c2])) = true := by kernel_rfl
  intro t ht
  exact isT_ok (List.all_eq_true.mp this t ht)
theorem ties_over {n : Nat} {ties : List D} {c : D} (h : ∀ t ∈ ties, evCall T 0 n "is_tie_over" [t, c] = .ok (.bool true)) (hl : ties.length ≤ 6) : evCall T 0 (n + 1) "are_ties_over" [.tup ties, c, .int 0, .int 6] = .ok (.bool true) := by
  refine ev_body fn_ties_over rfl ?_
  have e2 := ev_all (sub := T.sub) (C := evCall T 0 n) (own := [4]) (e := .call "is_tie_over" (.cons (.slot 4) (.cons (.slot 1) .nil))) (t := .nm 4) (it := .ex (.slot 0)) (l := [some (.tup ties), some c, some (.int 0), some (.int 6), none]) (xs := ties) (g := fun _ => true)
    rfl (by omega) (fun x hx => ⟨_, rfl, by simp only [evSs, evS, evE, evEs, evO, evI, getV, opt_some, Out.bind_ok, Out.thn_ok, otn_some, SO.then_nx, SO.then_rt, if_true, if_false, Bool.false_eq_true, Bool.not_true, Bool.not_false, tru_bool, cmV, wipe, List.set_cons_zero, List.set_cons_succ, Option.bind_some, Option.map_some, fnV, decide_true, decide_false, isi_tup_tuple, isi_tup_list, isi_tup_str, isi_tup_int, isi_tup_bool, isi_lst_tuple, isi_lst_list, isi_lst_str, isi_lst_int, isi_lst_bool, isi_str_tuple, isi_str_list, isi_str_str, isi_str_int, isi_str_bool, isi_int_tuple, isi_int_list, isi_int_str, isi_int_int, isi_int_bool, isi_bool_tuple, isi_bool_list, isi_bool_str, isi_bool_int, isi_bool_bool, isi_none_tuple, isi_none_list, isi_none_str, isi_none_int, isi_none_bool, len_tup, tuple_tup, len_lst, tuple_lst, dict_of, h x hx]⟩)
  have e3 : ties.all (fun _ => true) = true := by simp
  rw [e3] at e2
  simp only [d_are_ties_over, List.map_cons, List.map_nil, List.cons_append, List.nil_append, List.replicate]
  revert e2
  generalize (Py.E.blt .all (.cons (.lc [4] (.call "is_tie_over" (.cons (.slot 4) (.cons (.slot 1) .nil))) (.for_ (.nm 4) (.ex (.slot 0)) .nil .nil)) .nil)) = eA
  intro e2
  have h1 : ¬ ((ties.length : Int) < 0) := by omega
  have h2 : ¬ ((6 : Int) < (ties.length : Int)) := by omega
  have h3 : decide (D.int 6 = D.none) = false := by decide
  simp only [evSs, evS, evE, evEs, evO, evI, getV, opt_some, Out.bind_ok, Out.thn_ok, otn_some, SO.then_nx, SO.then_rt, if_true, if_false, Bool.false_eq_true, Bool.not_true, Bool.not_false, tru_bool, cmV, wipe, List.set_cons_zero, List.set_cons_succ, Option.bind_some, Option.map_some, fnV, decide_true, decide_false, isi_tup_tuple, isi_tup_list, isi_tup_str, isi_tup_int, isi_tup_bool, isi_lst_tuple, isi_lst_list, isi_lst_str, isi_lst_int, isi_lst_bool, isi_str_tuple, isi_str_list, isi_str_str, isi_str_int, isi_str_bool, isi_int_tuple, isi_int_list, isi_int_str, isi_int_int, isi_int_bool, isi_bool_tuple, isi_bool_list, isi_bool_str, isi_bool_int, isi_bool_bool, isi_none_tuple, isi_none_list, isi_none_str, isi_none_int, isi_none_bool, len_tup, tuple_tup, len_lst, tuple_lst, dict_of, e2, h1, h2, h3]
def head7 : List D := [i 1, i 2, i (-3), s "w", s "x", s "y", s "z"]
def headsAll : List (List D) := [] :: (head7.map fun a => [a]) ++ head7.flatMap fun a => head7.map fun b => [a, b]
theorem terms_ok (m : Nat) : ∀ hd ∈ headsAll, evCall T 0 (m + 10) "are_terms" [.tup hd, .int 0, .int 3] = .ok (.bool true) := by
  have : (headsAll.all fun t => isT (evCall T 0 (m + 10) "are_terms" [.tup t, .int 0, .int 3])) = true := by kernel_rfl
  intro t ht
  exact isT_ok (List.all_eq_true.mp this t ht)
theorem is_pair2 (n : Nat) (a b : D) : evCall T 0 (n + 1) "is_pair" [.tup [a, b]] = .ok (.bool true) := by kernel_rfl
theorem is_int_int (n : Nat) (a : Int) : evCall T 0 (n + 1) "is_integer" [.int a] = .ok (.bool true) := by kernel_rfl
theorem is_int_str (n : Nat) (a : Str) : evCall T 0 (n + 1) "is_integer" [.str a] = .ok (.bool false) := by kernel_rfl
/-- a head over letters -/
def HeadOk (ls hd : List D) : Prop := ∀ x ∈ hd, (∃ a, x = .int a) ∨ (∃ a, x = .str a) ∧ x ∈ ls
theorem in_letters {ls : List D} {a : Str} (h : D.str a ∈ ls) (hs : ∀ x ∈ ls, ∃ a, x = D.str a) : cmV .isIn (.str a) (.lst ls) = some true := by
  have h1 : (D.cmpOk (.str a) && ls.all D.cmpOk) = true := by
    simp only [Bool.and_eq_true, List.all_eq_true]
    refine ⟨rfl, fun x hx => ?_⟩
    obtain ⟨b, rfl⟩ := hs x hx
    rfl
  have h2 : (ls.any fun y => pyEq y (.str a)) = true := List.any_eq_true.mpr ⟨_, h, by simp [pyEq]⟩
  simp only [cmV, inV, h1, if_true, h2]
theorem part_over {n : Nat} {hd ties : List D} (h1 : evCall T 0 (n + 1) "are_terms" [.tup hd, .int 0, .int 3] = .ok (.bool true)) (h2 : evCall T 0 (n + 1) "are_ties_over" [.tup ties, c2, .int 0, .int 6] = .ok (.bool true)) (hg : ∀ t ∈ ties, tieGood t = true) (hl : ties.length ≤ 3) (hh : HeadOk (lettersOf ties) hd) (hd2 : hd.length ≤ 10) :
    evCall T 0 (n + 2) "is_part_over" [.tup [.tup hd, .tup ties], c2, .int 6] = .ok (.bool true) := by
  have hl2 : (lettersOf ties).length ≤ 6 := by
    have a := strs_len hg
    have b := dedup_len [] (strsOf ties)
    unfold lettersOf
    rw [sortI_len]
    simp only [List.length_nil] at b
    omega
  have hs : ∀ x ∈ lettersOf ties, ∃ a, x = D.str a := fun x hx => by
    rcases dedup_mem [] _ x ((sortI_perm _).mem_iff.mp hx) with h' | h'
    · cases h'
    · exact strs_mem h'
  refine ev_body fn_part_over rfl ?_
  have e2 := ev_all (sub := T.sub) (C := evCall T 0 (n + 1)) (own := [4]) (e := .or_ (.call "is_integer" (.cons (.slot 4) .nil)) (.cmp .isIn (.slot 4) (.slot 3))) (t := .nm 4) (it := .ex (.ix (.slot 0) (.cst (.int 0)))) (l := [some (.tup [.tup hd, .tup ties]), some c2, some (.int 6), some (.lst (lettersOf ties)), none]) (xs := hd) (g := fun _ => true)
    rfl (by omega) (fun x hx => ⟨_, rfl, by
      rcases hh x hx with ⟨a, rfl⟩ | ⟨⟨a, rfl⟩, hm⟩
      · simp only [evE, evEs, List.set_cons_succ, List.set_cons_zero, wipe, getV, opt_some, Out.bind_ok, tru_bool, if_true, is_int_int]
      · simp only [evE, evEs, List.set_cons_succ, List.set_cons_zero, wipe, getV, opt_some, Out.bind_ok, tru_bool, if_false, Bool.false_eq_true, is_int_str, in_letters hm hs]⟩)
  have e3 : hd.all (fun _ => true) = true := by simp
  rw [e3] at e2
  simp only [d_is_part_over, List.map_cons, List.map_nil, List.cons_append, List.nil_append, List.replicate]
  revert e2
  generalize (Py.E.blt .all (.cons (.lc [4] (.or_ (.call "is_integer" (.cons (.slot 4) .nil)) (.cmp .isIn (.slot 4) (.slot 3))) (.for_ (.nm 4) (.ex (.ix (.slot 0) (.cst (.int 0)))) .nil .nil)) .nil)) = eA
  intro e2
  have i0 : ixV (.tup [.tup hd, .tup ties]) (.int 0) = some (.tup hd) := rfl
  have i1 : ixV (.tup [.tup hd, .tup ties]) (.int 1) = some (.tup ties) := rfl
  have h3 : decide (D.int 6 = D.none) = false := by decide
  have h4 : ¬ ((6 : Int) < ((lettersOf ties).length : Int)) := by omega
  have as1 : asV (.nm 3) (.lst (lettersOf ties)) [some (.tup [.tup hd, .tup ties]), some c2, some (.int 6), none, none] = some [some (.tup [.tup hd, .tup ties]), some c2, some (.int 6), some (.lst (lettersOf ties)), none] := rfl
  simp only [evSs, evS, evE, evEs, evO, evI, getV, opt_some, Out.bind_ok, Out.thn_ok, otn_some, SO.then_nx, SO.then_rt, if_true, if_false, Bool.false_eq_true, Bool.not_true, Bool.not_false, tru_bool, cmV, wipe, List.set_cons_zero, List.set_cons_succ, Option.bind_some, Option.map_some, fnV, decide_true, decide_false, isi_tup_tuple, isi_tup_list, isi_tup_str, isi_tup_int, isi_tup_bool, isi_lst_tuple, isi_lst_list, isi_lst_str, isi_lst_int, isi_lst_bool, isi_str_tuple, isi_str_list, isi_str_str, isi_str_int, isi_str_bool, isi_int_tuple, isi_int_list, isi_int_str, isi_int_int, isi_int_bool, isi_bool_tuple, isi_bool_list, isi_bool_str, isi_bool_int, isi_bool_bool, isi_none_tuple, isi_none_list, isi_none_str, isi_none_int, isi_none_bool, len_tup, tuple_tup, len_lst, tuple_lst, dict_of, is_pair2, i0, i1, h1, h2, letters_of_ok hg (show ties.length ≤ 10 by omega), e2, h3, h4, as1]
/-- the width of a part -/
def wd : D → Nat
  | .tup (.tup w :: _) => w.length
  | _ => 0
theorem all1 {n : Nat} {xs : List D} {gb : D → Bool} (h : ∀ x ∈ xs, evCall T 0 n "is_part_over" [x, c2, .int 6] = .ok (.bool (gb x))) (hl : xs.length ≤ 3) : evE T.sub (evCall T 0 n) (.blt .all (.cons (.lc [3] (.call "is_part_over" (.cons (.slot 3) (.cons (.slot 1) (.cons (.slot 2) .nil)))) (.for_ (.nm 3) (.ex (.slot 0)) .nil .nil)) .nil)) [some (.tup xs), some c2, some (.int 6), none] = .ok (.bool (xs.all gb)) :=
  ev_all (xs := xs) (g := gb) rfl (by omega) (fun x hx => ⟨_, rfl, by simp only [evSs, evS, evE, evEs, evO, evI, getV, opt_some, Out.bind_ok, Out.thn_ok, otn_some, SO.then_nx, SO.then_rt, if_true, if_false, Bool.false_eq_true, Bool.not_true, Bool.not_false, tru_bool, cmV, wipe, List.set_cons_zero, List.set_cons_succ, Option.bind_some, Option.map_some, fnV, decide_true, decide_false, isi_tup_tuple, isi_tup_list, isi_tup_str, isi_tup_int, isi_tup_bool, isi_lst_tuple, isi_lst_list, isi_lst_str, isi_lst_int, isi_lst_bool, isi_str_tuple, isi_str_list, isi_str_str, isi_str_int, isi_str_bool, isi_int_tuple, isi_int_list, isi_int_str, isi_int_int, isi_int_bool, isi_bool_tuple, isi_bool_list, isi_bool_str, isi_bool_int, isi_bool_bool, isi_none_tuple, isi_none_list, isi_none_str, isi_none_int, isi_none_bool, len_tup, tuple_tup, len_lst, tuple_lst, dict_of, h x hx]⟩)
theorem q_false {n : Nat} {xs : List D} {gb : D → Bool} (h : ∀ x ∈ xs, evCall T 0 n "is_part_over" [x, c2, .int 6] = .ok (.bool (gb x))) (hl : xs.length ≤ 3) (hf : xs.all gb = false) : evCall T 0 (n + 1) "is_question_over" [.tup xs, c2, .int 6] = .ok (.bool false) := by
  refine ev_body fn_question_over rfl ?_
  have e2 := all1 h hl
  rw [hf] at e2
  simp only [d_is_question_over, List.map_cons, List.map_nil, List.cons_append, List.nil_append, List.replicate]
  revert e2
  generalize (Py.E.blt .all (.cons (.lc [3] (.call "is_part_over" (.cons (.slot 3) (.cons (.slot 1) (.cons (.slot 2) .nil)))) (.for_ (.nm 3) (.ex (.slot 0)) .nil .nil)) .nil)) = eA
  intro e2
  have h3 : decide (D.int 6 = D.none) = false := by decide
  have h4 : ¬ ((3 : Int) < (xs.length : Int)) := by omega
  simp only [evSs, evS, evE, evEs, evO, evI, getV, opt_some, Out.bind_ok, Out.thn_ok, otn_some, SO.then_nx, SO.then_rt, if_true, if_false, Bool.false_eq_true, Bool.not_true, Bool.not_false, tru_bool, cmV, wipe, List.set_cons_zero, List.set_cons_succ, Option.bind_some, Option.map_some, fnV, decide_true, decide_false, isi_tup_tuple, isi_tup_list, isi_tup_str, isi_tup_int, isi_tup_bool, isi_lst_tuple, isi_lst_list, isi_lst_str, isi_lst_int, isi_lst_bool, isi_str_tuple, isi_str_list, isi_str_str, isi_str_int, isi_str_bool, isi_int_tuple, isi_int_list, isi_int_str, isi_int_int, isi_int_bool, isi_bool_tuple, isi_bool_list, isi_bool_str, isi_bool_int, isi_bool_bool, isi_none_tuple, isi_none_list, isi_none_str, isi_none_int, isi_none_bool, len_tup, tuple_tup, len_lst, tuple_lst, dict_of, e2, h3, h4]
theorem q_true {n : Nat} {xs : List D} (h : ∀ x ∈ xs, evCall T 0 n "is_part_over" [x, c2, .int 6] = .ok (.bool true)) (hl : xs.length ≤ 3) (hs : ∀ x ∈ xs, ∃ w t, x = .tup [.tup w, t]) : evCall T 0 (n + 1) "is_question_over" [.tup xs, c2, .int 6] = .ok (.bool (xs.all fun x => decide (wd x = wd (xs.headD .none)))) := by
  refine ev_body fn_question_over rfl ?_
  have e2 := all1 (gb := fun _ => true) h hl
  have e3 : xs.all (fun _ => true) = true := by simp
  rw [e3] at e2
  have e4 := ev_all (sub := T.sub) (C := evCall T 0 n) (own := [3]) (e := .cmp .eq (.blt .len (.cons (.ix (.slot 3) (.cst (.int 0))) .nil)) (.blt .len (.cons (.ix (.ix (.slot 0) (.cst (.int 0))) (.cst (.int 0))) .nil))) (t := .nm 3) (it := .ex (.slot 0)) (l := [some (.tup xs), some c2, some (.int 6), none]) (xs := xs) (g := fun x => decide (wd x = wd (xs.headD .none)))
    rfl (by omega) (fun x hx => ⟨_, rfl, by
      cases xs with
      | nil => cases hx
      | cons y ys =>
        obtain ⟨w, t, rfl⟩ := hs x hx
        obtain ⟨w', t', rfl⟩ := hs y (by simp)
        have i1 : ixV (.tup (.tup [.tup w', t'] :: ys)) (.int 0) = some (.tup [.tup w', t']) := rfl
        have i2 : ixV (.tup [.tup w', t']) (.int 0) = some (.tup w') := rfl
        have i3 : ixV (.tup [.tup w, t]) (.int 0) = some (.tup w) := rfl
        have k1 : ∀ z : Int, (D.cmpOk (.int z)) = true := fun z => rfl
        have k2 : pyEq (.int (w.length : Int)) (.int (w'.length : Int)) = decide (w.length = w'.length) := by
          simp only [pyEq]
          by_cases e : w.length = w'.length
          · simp [e]
          · simp [e]; omega
        simp only [evSs, evS, evE, evEs, evO, evI, getV, opt_some, Out.bind_ok, Out.thn_ok, otn_some, SO.then_nx, SO.then_rt, if_true, if_false, Bool.false_eq_true, Bool.not_true, Bool.not_false, tru_bool, cmV, wipe, List.set_cons_zero, List.set_cons_succ, Option.bind_some, Option.map_some, fnV, decide_true, decide_false, isi_tup_tuple, isi_tup_list, isi_tup_str, isi_tup_int, isi_tup_bool, isi_lst_tuple, isi_lst_list, isi_lst_str, isi_lst_int, isi_lst_bool, isi_str_tuple, isi_str_list, isi_str_str, isi_str_int, isi_str_bool, isi_int_tuple, isi_int_list, isi_int_str, isi_int_int, isi_int_bool, isi_bool_tuple, isi_bool_list, isi_bool_str, isi_bool_int, isi_bool_bool, isi_none_tuple, isi_none_list, isi_none_str, isi_none_int, isi_none_bool, len_tup, tuple_tup, len_lst, tuple_lst, dict_of, i1, i2, i3, k1, k2, Bool.and_self, wd, List.headD_cons]
        exact congrArg (fun b => Out.ok (D.bool b)) (decide_eq_decide.mpr Iff.rfl)⟩)
  simp only [d_is_question_over, List.map_cons, List.map_nil, List.cons_append, List.nil_append, List.replicate]
  revert e2 e4
  generalize (Py.E.blt .all (.cons (.lc [3] (.call "is_part_over" (.cons (.slot 3) (.cons (.slot 1) (.cons (.slot 2) .nil)))) (.for_ (.nm 3) (.ex (.slot 0)) .nil .nil)) .nil)) = eA
  generalize (Py.E.blt .all (.cons (.lc [3] (.cmp .eq (.blt .len (.cons (.ix (.slot 3) (.cst (.int 0))) .nil)) (.blt .len (.cons (.ix (.ix (.slot 0) (.cst (.int 0))) (.cst (.int 0))) .nil))) (.for_ (.nm 3) (.ex (.slot 0)) .nil .nil)) .nil)) = eB
  intro e2 e4
  have h3 : decide (D.int 6 = D.none) = false := by decide
  have h4 : ¬ ((3 : Int) < (xs.length : Int)) := by omega
  simp only [evSs, evS, evE, evEs, evO, evI, getV, opt_some, Out.bind_ok, Out.thn_ok, otn_some, SO.then_nx, SO.then_rt, if_true, if_false, Bool.false_eq_true, Bool.not_true, Bool.not_false, tru_bool, cmV, wipe, List.set_cons_zero, List.set_cons_succ, Option.bind_some, Option.map_some, fnV, decide_true, decide_false, isi_tup_tuple, isi_tup_list, isi_tup_str, isi_tup_int, isi_tup_bool, isi_lst_tuple, isi_lst_list, isi_lst_str, isi_lst_int, isi_lst_bool, isi_str_tuple, isi_str_list, isi_str_str, isi_str_int, isi_str_bool, isi_int_tuple, isi_int_list, isi_int_str, isi_int_int, isi_int_bool, isi_bool_tuple, isi_bool_list, isi_bool_str, isi_bool_int, isi_bool_bool, isi_none_tuple, isi_none_list, isi_none_str, isi_none_int, isi_none_bool, len_tup, tuple_tup, len_lst, tuple_lst, dict_of, e2, e4, h3, h4]
end K02
end

section
set_option Elab.async false
set_option linter.all false
set_option maxRecDepth 100000
set_option maxHeartbeats 4000000
namespace K02
open PySem Py
theorem fn_spoilt : T.fn "_law_spoilt" = some (.body 2 8 d__law_spoilt.ss) := by kernel_rfl
theorem fn_part : T.fn "_law_part" = some (.body 4 10 d__law_part.ss) := by kernel_rfl
theorem fn_term : T.fn "_law_term" = some (.body 1 1 d__law_term.ss) := by kernel_rfl
structure PartOk (hd ties : List D) : Prop where
  mh : hd ∈ headsAll
  mt : ∀ t ∈ ties, t ∈ tiesAll
  len : ties.length ≤ 3
  ok : HeadOk (lettersOf ties) hd
theorem heads_len : ∀ hd ∈ headsAll, hd.length ≤ 2 := by
  have : (headsAll.all fun h => decide (h.length ≤ 2)) = true := by decide +kernel
  intro h hh
  simpa using List.all_eq_true.mp this h hh
theorem PartOk.over {hd ties : List D} (P : PartOk hd ties) (m : Nat) : evCall T 0 (m + 19) "is_part_over" [.tup [.tup hd, .tup ties], c2, .int 6] = .ok (.bool true) :=
  part_over (n := m + 17) (terms_ok (m + 8) hd P.mh) (ties_over (n := m + 17) (fun t ht => tie_over (m + 7) t (P.mt t ht)) (by have := P.len; omega)) (fun t ht => ties_good t (P.mt t ht)) P.len P.ok (by have := heads_len hd P.mh; omega)
def NS : Nat := lenS d__law_spoilt.ss - 1
def spAt (hd : List D) (t : D) : SO := evSs T.sub (fun _ _ => .no) 0 (takeS NS d__law_spoilt.ss) [some (.ref 0), some (.tup [.tup hd, t]), none, none, none, none, none, none]
def rowsSp (hd : List D) (t : D) : List D := match getV (locOf (spAt hd t)) 4 with
  | some (.lst xs) => xs
  | _ => []
def SB : List D := (rowsSp [] .none).drop 6
theorem sp_run : ∀ (hd : List D) (t : D), hd.length ≤ 2 → ∃ loc, evSs T.sub (fun _ _ => .no) 0 (takeS NS d__law_spoilt.ss) [some (.ref 0), some (.tup [.tup hd, t]), none, none, none, none, none, none] = .nx loc ∧ getV loc 0 = some (.ref 0) ∧ getV loc 4 = some (.lst (rowsSp hd t))
  | [], t, _ => ⟨locOf (spAt [] t), by kernel_rfl, by kernel_rfl, by kernel_rfl⟩
  | [a], t, _ => ⟨locOf (spAt [a] t), by kernel_rfl, by kernel_rfl, by kernel_rfl⟩
  | [a, b], t, _ => ⟨locOf (spAt [a, b] t), by kernel_rfl, by kernel_rfl, by kernel_rfl⟩
  | a :: b :: c :: r, t, h => absurd h (by simp)
theorem sp_rows : ∀ (hd : List D) (t : D), hd.length ≤ 2 → rowsSp hd t = [.tup [.tup [.tup [.tup hd, t]], .bool true], .tup [.lst [.tup [.tup hd, t]], .bool false], .tup [.tup [], .bool true], .tup [.tup [.tup [.tup hd, t], .tup [.tup hd, t], .tup [.tup hd, t]], .bool true],
    .tup [.tup [.tup [.tup hd, t], .tup [.tup hd, t], .tup [.tup hd, t], .tup [.tup hd, t]], .bool false], .tup [.tup [.tup [.tup hd, t], .tup [.tup (hd ++ [i 1]), .tup []]], .bool false]] ++ (SB.take 11 ++ (.tup [.tup [.tup hd], .bool false] :: SB.drop 12))
  | [], t, _ => by kernel_rfl
  | [a], t, _ => by kernel_rfl
  | [a, b], t, _ => by kernel_rfl
  | a :: b :: c :: r, t, h => absurd h (by simp)
theorem sp_len : ∀ (hd : List D) (t : D), hd.length ≤ 2 → (rowsSp hd t).length = 24
  | [], t, _ => by kernel_rfl
  | [a], t, _ => by kernel_rfl
  | [a, b], t, _ => by kernel_rfl
  | a :: b :: c :: r, t, h => absurd h (by simp)
def QOk (q : D) (b : Bool) : Prop := ∀ m, evCall T 0 (m + 20) "is_question_over" [q, c2, .int 6] = .ok (.bool b)
def qGood (m : Nat) (x : D) : Bool := match x with
  | .tup [x, .bool true] => isT (evCall T 0 (m + 20) "is_question_over" [x, c2, .int 6])
  | .tup [x, .bool false] => isF (evCall T 0 (m + 20) "is_question_over" [x, c2, .int 6])
  | _ => false
theorem qrow_of {x : D} (h : ∀ m, qGood m x = true) : ∃ y b, x = .tup [y, .bool b] ∧ QOk y b := by
  have h0 := h 0
  unfold qGood at h0
  split at h0
  · exact ⟨_, true, rfl, fun m => isT_ok (by have := h m; simpa only [qGood] using this)⟩
  · exact ⟨_, false, rfl, fun m => isF_ok (by have := h m; simpa only [qGood] using this)⟩
  · cases h0
theorem SB_good (m : Nat) : ∀ x ∈ SB.take 11 ++ SB.drop 12, qGood m x = true := by
  have : (SB.take 11 ++ SB.drop 12).all (qGood m) = true := by kernel_rfl
  exact List.all_eq_true.mp this
theorem wide_part (m : Nat) : ∀ hd ∈ headsAll, (isT (evCall T 0 (m + 19) "is_part_over" [.tup [.tup (hd ++ [i 1]), .tup []], c2, .int 6]) || isF (evCall T 0 (m + 19) "is_part_over" [.tup [.tup (hd ++ [i 1]), .tup []], c2, .int 6])) = true := by
  have : (headsAll.all fun hd => isT (evCall T 0 (m + 19) "is_part_over" [.tup [.tup (hd ++ [i 1]), .tup []], c2, .int 6]) || isF (evCall T 0 (m + 19) "is_part_over" [.tup [.tup (hd ++ [i 1]), .tup []], c2, .int 6])) = true := by kernel_rfl
  exact List.all_eq_true.mp this
theorem bare_part (m : Nat) : ∀ hd ∈ headsAll, isF (evCall T 0 (m + 19) "is_part_over" [.tup hd, c2, .int 6]) = true := by
  have : (headsAll.all fun hd => isF (evCall T 0 (m + 19) "is_part_over" [.tup hd, c2, .int 6])) = true := by kernel_rfl
  exact List.all_eq_true.mp this
theorem sp_ok {hd ties : List D} (P : PartOk hd ties) : ∀ x ∈ rowsSp hd (.tup ties), ∃ y b, x = .tup [y, .bool b] ∧ QOk y b := by
  have hl := heads_len hd P.mh
  rw [sp_rows hd _ hl]
  intro x hx
  simp only [List.cons_append, List.nil_append, List.mem_cons, List.mem_append] at hx
  rcases hx with rfl | rfl | rfl | rfl | rfl | rfl | hx | rfl | hx
  · refine ⟨_, _, rfl, fun m => ?_⟩
    have := q_true (n := m + 19) (xs := [.tup [.tup hd, .tup ties]]) (fun x hx => by rw [List.mem_singleton.mp hx]; exact P.over m) (by simp) (fun x hx => ⟨_, _, List.mem_singleton.mp hx⟩)
    rw [this]
    simp
  · exact ⟨_, _, rfl, fun m => by kernel_rfl⟩
  · exact ⟨_, _, rfl, fun m => by kernel_rfl⟩
  · refine ⟨_, _, rfl, fun m => ?_⟩
    have all3 : ∀ x ∈ [D.tup [.tup hd, .tup ties], .tup [.tup hd, .tup ties], .tup [.tup hd, .tup ties]], x = .tup [.tup hd, .tup ties] := by
      intro x hx
      simp only [List.mem_cons, List.not_mem_nil, or_false, or_self] at hx
      exact hx
    have := q_true (n := m + 19) (xs := [.tup [.tup hd, .tup ties], .tup [.tup hd, .tup ties], .tup [.tup hd, .tup ties]]) (fun x hx => by rw [all3 x hx]; exact P.over m) (by simp) (fun x hx => ⟨_, _, all3 x hx⟩)
    rw [this]
    simp
  · exact ⟨_, _, rfl, fun m => by kernel_rfl⟩
  · refine ⟨_, _, rfl, fun m => ?_⟩
    have h1 := P.over m
    have h2 := wide_part m hd P.mh
    have two : ∀ x ∈ [D.tup [.tup hd, .tup ties], .tup [.tup (hd ++ [i 1]), .tup []]], x = .tup [.tup hd, .tup ties] ∨ x = .tup [.tup (hd ++ [i 1]), .tup []] := by
      intro x hx
      simpa using hx
    rw [Bool.or_eq_true] at h2
    rcases h2 with h2 | h2
    · have h2 := isT_ok h2
      have := q_true (n := m + 19) (xs := [.tup [.tup hd, .tup ties], .tup [.tup (hd ++ [i 1]), .tup []]]) (fun x hx => by rcases two x hx with rfl | rfl <;> assumption) (by simp) (fun x hx => by rcases two x hx with rfl | rfl <;> exact ⟨_, _, rfl⟩)
      rw [this]
      simp [wd]
    · have h2 := isF_ok h2
      have := q_false (n := m + 19) (gb := fun x => isT (evCall T 0 (m + 19) "is_part_over" [x, c2, .int 6])) (xs := [.tup [.tup hd, .tup ties], .tup [.tup (hd ++ [i 1]), .tup []]]) (fun x hx => by rcases two x hx with rfl | rfl <;> simp only [h1, h2, isT]) (by simp) (by simp only [List.all_cons, h2, isT, Bool.false_and, Bool.and_false])
      exact this
  · exact qrow_of fun m => SB_good m x (List.mem_append_left _ hx)
  · refine ⟨_, _, rfl, fun m => ?_⟩
    have h2 := isF_ok (bare_part m hd P.mh)
    exact q_false (n := m + 19) (gb := fun _ => false) (xs := [.tup hd]) (fun x hx => by rw [List.mem_singleton.mp hx]; exact h2) (by simp) (by simp)
  · exact qrow_of fun m => SB_good m x (List.mem_append_right _ hx)
theorem drop_sp : dropS NS d__law_spoilt.ss = .cons (.ret (.ix (.slot 4) (.call "_law_draw" (.cons (.slot 0) (.cons (.blt .len (.cons (.slot 4) .nil)) .nil))))) .nil := by kernel_rfl
theorem spoilt_ok {n N : Nat} {hd ties : List D} (P : PartOk hd ties) {st : Sto} (B : BoxOk (N + 1) st) {Q E : KD}
    (q : ∀ y b st', QOk y b → BoxOk N st' → Q (.tup [y, .bool b]) st') : wpCall T (n + 2) "_law_spoilt" [.ref 0, .tup [.tup hd, .tup ties]] st Q E := by
  have hh := heads_len hd P.mh
  have hl := sp_len hd (.tup ties) hh
  have hx := sp_ok P
  obtain ⟨loc, h1, h2, h3⟩ := sp_run hd (.tup ties) hh
  revert hl hx h3
  generalize rowsSp hd (.tup ties) = rows
  intro hl hx h3
  refine call_body fn_spoilt rfl ?_
  refine wp_split noC NS d__law_spoilt.ss _ _ h1 ?_
  rw [drop_sp, wpSs]
  simp only [wpS, wpE, wpEs]
  refine getV_ok h3 ?_
  refine getV_ok h2 ?_
  refine getV_ok h3 ?_
  simp only [bltR, blt1, lenR]
  refine draw (N := N) B (by omega) fun k st' dr B' => ?_
  refine ix_drawn dr rfl (by omega) fun x hx' => ?_
  obtain ⟨y, b, rfl, h⟩ := hx x hx'
  exact q y b _ h B'
end K02
end

section
set_option Elab.async false
set_option linter.all false
set_option maxRecDepth 100000
set_option maxHeartbeats 4000000
namespace K02
open PySem Py
def terms8 : List D := [s "x", s "y", s "x", s "z", i 1, s "y", i 2, s "w"]
theorem terms8_in : ∀ x ∈ terms8, x ∈ termsL := by
  have : (terms8.all fun x => decide (x ∈ termsL)) = true := by decide +kernel
  intro x hx
  simpa using List.all_eq_true.mp this x hx
theorem term_ok {n N : Nat} {st : Sto} (B : BoxOk (N + 1) st) {Q E : KD} (q : ∀ x ∈ termsL, ∀ st', BoxOk N st' → Q x st') : wpCall T (n + 2) "_law_term" [.ref 0] st Q E := by
  refine call_body fn_term rfl ?_
  simp only [d__law_term, List.map_cons, List.map_nil, List.cons_append, List.nil_append, List.replicate]
  rw [wpSs]
  simp only [wpS, wpE, wpEs, getL]
  refine draw (N := N) B (by omega) fun r st' dr B' => ?_
  exact ix_drawn dr rfl (by omega) fun x hx => q x (terms8_in x hx) _ B'
theorem tie_e {a b : D} (ha : a ∈ termsL) (hb : b ∈ termsL) : D.tup [s "e", .tup [a, b]] ∈ tiesAll :=
  List.mem_append_left _ (List.mem_flatMap.mpr ⟨a, ha, List.mem_map.mpr ⟨b, hb, rfl⟩⟩)
theorem tie_p {a : D} (ha : a ∈ termsL) : D.tup [s "p", .tup [a]] ∈ tiesAll := List.mem_append_right _ (List.mem_map.mpr ⟨a, ha, rfl⟩)
theorem strs7 : ∀ t ∈ tiesAll, ∀ x ∈ (tieTerms t).filter isS, x ∈ head7 := by
  have : (tiesAll.all fun t => ((tieTerms t).filter isS).all fun x => decide (x ∈ head7)) = true := by decide +kernel
  intro t ht x hx
  simpa using List.all_eq_true.mp (List.all_eq_true.mp this t ht) x hx
theorem letters7 {ties : List D} (h : ∀ t ∈ ties, t ∈ tiesAll) : ∀ x ∈ lettersOf ties, x ∈ head7 ∧ ∃ a, x = .str a := by
  intro x hx
  rcases dedup_mem [] _ x ((sortI_perm _).mem_iff.mp hx) with h' | h'
  · cases h'
  · obtain ⟨t, ht, hm⟩ := List.mem_flatMap.mp h'
    exact ⟨strs7 t (h t ht) x hm, strs_mem h'⟩
theorem heads_mem : ∀ (hd : List D), hd.length ≤ 2 → (∀ x ∈ hd, x ∈ head7) → hd ∈ headsAll
  | [], _, _ => by simp [headsAll]
  | [a], _, h => List.mem_append_left _ (List.mem_cons_of_mem _ (List.mem_map.mpr ⟨a, h a (by simp), rfl⟩))
  | [a, b], _, h => List.mem_append_right _ (List.mem_flatMap.mpr ⟨a, h a (by simp), List.mem_map.mpr ⟨b, h b (by simp), rfl⟩⟩)
  | a :: b :: c :: r, h, _ => absurd h (by simp)
theorem cols2_sorted : sortOk ks2 = true ∧ sortI ks2 = [s "e", s "p"] ∧ dGet ks2 vs2 (s "e") = some (.int 2) ∧ dGet ks2 vs2 (s "p") = some (.int 1) ∧ keyOk ks2 (s "e") = true ∧ keyOk ks2 (s "p") = true := by decide +kernel
theorem nums3 : ∀ x ∈ [D.int 1, .int 2, .int (-3)], x ∈ head7 ∧ ∃ a, x = .int a := by
  intro x hx
  simp only [List.mem_cons, List.not_mem_nil, or_false] at hx
  rcases hx with rfl | rfl | rfl
  · exact ⟨by simp [head7, i], _, rfl⟩
  · exact ⟨by simp [head7, i], _, rfl⟩
  · exact ⟨by simp [head7, i], _, rfl⟩
theorem part_ok {n N width : Nat} (hw : width ≤ 2) {st : Sto} (B : BoxOk (N + 20) st) {Q E : KD} (q : ∀ hd ties st', PartOk hd ties → BoxOk N st' → Q (.tup [.tup hd, .tup ties]) st') : wpCall T (n + 3) "_law_part" [.ref 0, .dct ks2 vs2, .int width, .int 3] st Q E := by
  obtain ⟨g1, g2, g3, g4, g5, g6⟩ := cols2_sorted
  refine call_body fn_part rfl ?_
  simp only [d__law_part, List.map_cons, List.map_nil, List.cons_append, List.nil_append, List.replicate]
  generalize hk0 : ({ nx := fun _ st => Q .none st, rt := Q, bk := fun _ _ => False, ct := fun _ _ => False, ex := fun x _ st => E x st } : Kn) = kn
  have rtq : kn.rt = Q := by rw [← hk0]
  clear hk0
  rw [wpSs]
  simp only [wpS, wpE, wpEs, D.isCon, List.length_cons, List.length_nil, List.set_cons_succ, List.set_cons_zero]
  refine ⟨⟨trivial, by omega⟩, ?_⟩
  rw [wpSs, wpS]
  simp only [wpI, wpEs, wpE, getL, opR]
  refine draw (N := N + 19) B (by omega) fun r st1 dr B1 => ?_
  dsimp only [rgR]
  have hr : 0 ≤ r ∧ r ≤ 3 := by unfold Py.Drawn at dr; omega
  refine ⟨by unfold small62; omega, ?_⟩
  refine forS_inv (I := fun j l st => ∃ ties a b c d e, l = [some (.ref 0), some (.dct ks2 vs2), some (.int width), some (.int 3), some (.lst ties), a, b, c, d, e] ∧ (∀ t ∈ ties, t ∈ tiesAll) ∧ ties.length ≤ j ∧ BoxOk (N + 10 + 3 * (3 - j)) st) _ 0 _ _ ?_ ?_ ?_
  rotate_left
  · exact ⟨[], _, _, _, _, _, rfl, by simp, by simp, B1⟩
  · rintro l st2 ⟨ties, a, b, c, d, e, rfl, ht, hl, B2⟩
    rw [intL_len] at hl B2
    have hl : ties.length ≤ 3 := by omega
    have B2 : BoxOk (N + 10) st2 := B2.mono (by omega)
    rw [wpSs]
    simp only [wpS]
    rw [wpSs]
    simp only [wpS, wpE, wpEs, getL]
    refine ev_call (letters_ok (n := n + 1) (fun t m => ties_good t (ht t m)) hl) ?_
    simp only [asT, List.length_cons, List.length_nil, List.set_cons_succ, List.set_cons_zero]
    refine ⟨by omega, ?_⟩
    rw [wpSs]
    simp only [wpS, wpE, wpEs, wpC, wpI, getL]
    dsimp only [rgR]
    refine ⟨by unfold small62; omega, ?_⟩
    refine forL_inv (I := fun j a st => ∃ ys, a = (ys, []) ∧ ys.length = j ∧ (∀ y ∈ ys, y ∈ head7 ∧ ((∃ a, y = .int a) ∨ (∃ a, y = .str a) ∧ y ∈ lettersOf ties)) ∧ BoxOk (N + 3 * (2 - j)) st) _ 0 _ _ ?_ ?_ ?_
    rotate_left
    · exact ⟨[], rfl, rfl, by simp, B2.mono (by omega)⟩
    · rintro a st4 ⟨ys, rfl, hy, hm, B4⟩
      rw [intL_len] at hy B4
      simp only [asT, List.length_cons, List.length_nil, List.set_cons_succ, List.set_cons_zero]
      refine ⟨by omega, ?_⟩
      rw [wpSs]
      simp only [wpS, wpE, wpEs, getL, bltR, blt1, tupleR, rtq]
      exact q ys ties _ ⟨heads_mem ys (by omega) fun x hx => (hm x hx).1, ht, hl, fun x hx => (hm x hx).2⟩ (B4.mono (by omega))
    · rintro j x a st4 K2 hx ⟨ys, rfl, hy, hm, B4⟩ hK2
      obtain ⟨rfl, hj⟩ := intL_get _ _ _ _ hx
      rw [Nat.zero_add] at hy B4 hK2
      have hj2 : j < 2 := by omega
      simp only [asT, wipe, List.length_cons, List.length_nil, List.set_cons_succ, List.set_cons_zero]
      refine ⟨by omega, ?_⟩
      simp only [wpF, wpD, wpE, wpEs, getL, bltR, blt1, lenR, cmR, truR, tru, if_true]
      have fin : ∀ y st', y ∈ head7 → ((∃ a, y = .int a) ∨ (∃ a, y = .str a) ∧ y ∈ lettersOf ties) → BoxOk (N + 3 * (2 - (j + 1))) st' → appR ys y fun xs => K2 (xs, []) st' := by
        intro y st' h1 h2 h3
        refine ⟨by omega, hK2 _ _ ⟨_, rfl, by simp [hy], fun z hz => ?_, h3⟩⟩
        rcases List.mem_append.mp hz with hz | hz
        · exact hm z hz
        · rw [List.mem_singleton.mp hz]; exact ⟨h1, h2⟩
      have num : ∀ st', BoxOk (N + 3 * (2 - (j + 1)) + 1) st' → wpCall T (n + 2) "_law_draw" [.ref 0, .int 3] st' (fun y st => ixO st (.lst [D.int 1, .int 2, .int (-3)]) y fun r => appR ys r fun xs => K2 (xs, []) st) noE := by
        intro st' B5
        refine draw B5 (by omega) fun r5 st6 dr5 B6 => ?_
        refine ix_drawn dr5 rfl (by omega) fun x hx => ?_
        obtain ⟨u1, u2⟩ := nums3 x hx
        exact fin x _ u1 (.inl u2) B6
      by_cases h0 : (0 : Int) < ((lettersOf ties).length : Int)
      · simp only [h0, decide_true, if_true]
        refine draw (N := N + 3 * (2 - (j + 1)) + 2) (by rw [show N + 3 * (2 - (j + 1)) + 2 + 1 = N + 3 * (2 - j) by omega]; exact B4) (by omega) fun r3 st5 dr3 B5 => ?_
        by_cases h5 : 0 < r3
        · simp only [h5, decide_true, if_true]
          have hl2 : (lettersOf ties).length ≤ 6 := by
            have a := strs_len (fun t m => ties_good t (ht t m))
            have b := dedup_len [] (strsOf ties)
            unfold lettersOf
            rw [sortI_len]
            simp only [List.length_nil] at b
            omega
          refine draw (N := N + 3 * (2 - (j + 1)) + 1) B5 (by omega) fun r4 st6 dr4 B6 => ?_
          refine ix_drawn dr4 rfl h0 fun x hx => ?_
          obtain ⟨u1, u2⟩ := letters7 ht x hx
          exact fin x _ u1 (.inr ⟨u2, hx⟩) (B6.mono (by omega))
        · simp only [h5, decide_false, Bool.false_eq_true, if_false]
          exact num _ (B5.mono (by omega))
      · simp only [h0, decide_false, Bool.false_eq_true, if_false]
        exact num _ (B4.mono (by omega))
  · rintro j x l st2 K hx ⟨ties, a, b, c, d, e, rfl, ht, hl, B2⟩ hK
    obtain ⟨rfl, hj⟩ := intL_get _ _ _ _ hx
    rw [Nat.zero_add] at hl B2 hK
    have hj3 : j < 3 := by omega
    simp only [asT, List.length_cons, List.length_nil, List.set_cons_succ, List.set_cons_zero]
    refine ⟨by omega, ?_⟩
    rw [wpSs]
    simp only [wpS, wpE, wpEs, getL, bltR, blt1, sortedR, itR, lenR]
    refine ⟨⟨g1, by decide⟩, ?_⟩
    refine draw (N := N + 10 + 3 * (3 - (j + 1)) + 2) (by rw [show N + 10 + 3 * (3 - (j + 1)) + 2 + 1 = N + 10 + 3 * (3 - j) by omega]; exact B2) (by decide) fun r2 st3 dr2 B3 => ?_
    rw [← sortI_eq (sortOk_alk g1), g2]
    refine ix_drawn dr2 rfl (by decide) fun nm hnm => ?_
    simp only [asT, List.length_cons, List.length_nil, List.set_cons_succ, List.set_cons_zero]
    refine ⟨by omega, ?_⟩
    rw [wpSs]
    simp only [wpS, wpE, wpEs, wpC, wpI, getL, ixO, ixR, bltR, blt1, tupleR]
    have fin : ∀ t st', t ∈ tiesAll → BoxOk (N + 10 + 3 * (3 - (j + 1))) st' → ties.length < 16777216 ∧ K [some (.ref 0), some (.dct ks2 vs2), some (.int width), some (.int 3), some (.lst (ties ++ [t])), some (.int (0 + (j : Int))), some nm, c, d, e] st' := by
      intro t st' h1 h2
      refine ⟨by omega, hK _ _ ⟨_, _, _, _, _, _, rfl, fun z hz => ?_, by simp; omega, h2⟩⟩
      rcases List.mem_append.mp hz with hz | hz
      · exact ht z hz
      · rw [List.mem_singleton.mp hz]; exact h1
    have hnm : nm = s "e" ∨ nm = s "p" := by simpa [ks2] using hnm
    rcases hnm with rfl | rfl
    · simp only [g3]
      refine ⟨g5, ?_⟩
      dsimp only [rgR]
      refine ⟨by unfold small62; omega, ?_⟩
      refine forL_inv (I := fun k a st => ∃ ys, a = (ys, []) ∧ ys.length = k ∧ (∀ y ∈ ys, y ∈ termsL) ∧ BoxOk (N + 10 + 3 * (3 - (j + 1)) + (2 - k)) st) _ 0 _ _ ?_ ?_ ?_
      rotate_left
      · exact ⟨[], rfl, rfl, by simp, B3⟩
      · rintro a st4 ⟨ys, rfl, hy, hm, B4⟩
        rw [intL_len] at hy B4
        have hy : ys.length = 2 := hy
        have ht2 : D.tup [s "e", .tup ys] ∈ tiesAll := by
          match ys, hy, hm with
          | [a, b], _, hm => exact tie_e (hm a (by simp)) (hm b (by simp))
        obtain ⟨f1, f2⟩ := fin _ _ ht2 (B4.mono (by omega))
        refine ⟨f1, ?_⟩
        dsimp only
        rw [wpSs]
        exact f2
      · rintro k x a st4 K2 hx ⟨ys, rfl, hy, hm, B4⟩ hK2
        obtain ⟨rfl, hk⟩ := intL_get _ _ _ _ hx
        rw [Nat.zero_add] at hy B4 hK2
        have hk2 : k < 2 := hk
        simp only [asT, wipe, List.length_cons, List.length_nil, List.set_cons_succ, List.set_cons_zero]
        refine ⟨by omega, ?_⟩
        simp only [wpF, wpD, wpE, wpEs, getL, if_true]
        refine term_ok (N := N + 10 + 3 * (3 - (j + 1)) + (2 - (k + 1))) (by rw [show N + 10 + 3 * (3 - (j + 1)) + (2 - (k + 1)) + 1 = N + 10 + 3 * (3 - (j + 1)) + (2 - k) by omega]; exact B4) fun y hy2 st5 B5 => ?_
        refine ⟨show ys.length < 16777216 by omega, hK2 _ _ ⟨_, rfl, by simp [hy], fun z hz => ?_, B5⟩⟩
        rcases List.mem_append.mp hz with hz | hz
        · exact hm z hz
        · rw [List.mem_singleton.mp hz]; exact hy2
    · simp only [g4]
      refine ⟨g6, ?_⟩
      dsimp only [rgR]
      refine ⟨by unfold small62; omega, ?_⟩
      refine forL_inv (I := fun k a st => ∃ ys, a = (ys, []) ∧ ys.length = k ∧ (∀ y ∈ ys, y ∈ termsL) ∧ BoxOk (N + 10 + 3 * (3 - (j + 1)) + (2 - k)) st) _ 0 _ _ ?_ ?_ ?_
      rotate_left
      · exact ⟨[], rfl, rfl, by simp, B3⟩
      · rintro a st4 ⟨ys, rfl, hy, hm, B4⟩
        rw [intL_len] at hy B4
        have hy : ys.length = 1 := hy
        have ht2 : D.tup [s "p", .tup ys] ∈ tiesAll := by
          match ys, hy, hm with
          | [a], _, hm => exact tie_p (hm a (by simp))
        obtain ⟨f1, f2⟩ := fin _ _ ht2 (B4.mono (by omega))
        refine ⟨f1, ?_⟩
        dsimp only
        rw [wpSs]
        exact f2
      · rintro k x a st4 K2 hx ⟨ys, rfl, hy, hm, B4⟩ hK2
        obtain ⟨rfl, hk⟩ := intL_get _ _ _ _ hx
        rw [Nat.zero_add] at hy B4 hK2
        have hk2 : k < 1 := hk
        simp only [asT, wipe, List.length_cons, List.length_nil, List.set_cons_succ, List.set_cons_zero]
        refine ⟨by omega, ?_⟩
        simp only [wpF, wpD, wpE, wpEs, getL, if_true]
        refine term_ok (N := N + 10 + 3 * (3 - (j + 1)) + (2 - (k + 1))) (by rw [show N + 10 + 3 * (3 - (j + 1)) + (2 - (k + 1)) + 1 = N + 10 + 3 * (3 - (j + 1)) + (2 - k) by omega]; exact B4) fun y hy2 st5 B5 => ?_
        refine ⟨show ys.length < 16777216 by omega, hK2 _ _ ⟨_, rfl, by simp [hy], fun z hz => ?_, B5⟩⟩
        rcases List.mem_append.mp hz with hz | hz
        · exact hm z hz
        · rw [List.mem_singleton.mp hz]; exact hy2
end K02
end

section
set_option Elab.async false
set_option linter.all false
set_option maxRecDepth 100000
set_option maxHeartbeats 4000000
namespace K02
open PySem Py
theorem fn_law : T.fn "law" = some (.body 1 7 d_law.ss) := by kernel_rfl
theorem c2_eq : dictOfV tables2 = some c2 := by kernel_rfl
theorem good2 : colsGood ks2 vs2 = true := by decide +kernel
theorem form2 (m : Nat) : ∀ x ∈ formsOf ks2 vs2, evCall T 0 (m + 10) "is_form_over" [x, .dct ks2 vs2] = .ok (.bool true) := by
  have : ((formsOf ks2 vs2).all fun x => isT (evCall T 0 (m + 10) "is_form_over" [x, .dct ks2 vs2])) = true := by kernel_rfl
  intro x hx
  exact isT_ok (List.all_eq_true.mp this x hx)
theorem house2 (m : Nat) {xs : List D} (F : FormsOk ks2 vs2 3 xs) : evCall T 0 (m + 16) "is_house" [.tup [tables2, .tup [], .tup [], .tup [], .tup (sortI xs)]] = .ok (.bool true) :=
  is_house_ok (c1 := c2) (c2 := .dct ks2 vs2) (by kernel_rfl) c2_eq (by kernel_rfl) (by kernel_rfl) (by kernel_rfl) (by kernel_rfl) (forms_all (n := m + 13) good2 (by omega) F (form2 (m + 4)))
theorem need_ok {n : Nat} {x : D} (h : evCall T 0 n "is_house" [x] = .ok (.bool true)) : evCall T 0 (n + 1) "need_house" [x] = .ok .none := by
  unfold evCall
  rw [fn_need]
  simp only [d_need_house, List.map_cons, List.map_nil, List.cons_append, List.nil_append, List.replicate]
  simp only [evSs, evS, evE, evEs, evO, evI, getV, opt_some, Out.bind_ok, Out.thn_ok, otn_some, SO.then_nx, SO.then_rt, if_true, if_false, Bool.false_eq_true, Bool.not_true, Bool.not_false, tru_bool, cmV, wipe, List.set_cons_zero, List.set_cons_succ, Option.bind_some, Option.map_some, fnV, decide_true, decide_false, isi_tup_tuple, isi_tup_list, isi_tup_str, isi_tup_int, isi_tup_bool, isi_lst_tuple, isi_lst_list, isi_lst_str, isi_lst_int, isi_lst_bool, isi_str_tuple, isi_str_list, isi_str_str, isi_str_int, isi_str_bool, isi_int_tuple, isi_int_list, isi_int_str, isi_int_int, isi_int_bool, isi_bool_tuple, isi_bool_list, isi_bool_str, isi_bool_int, isi_bool_bool, isi_none_tuple, isi_none_list, isi_none_str, isi_none_int, isi_none_bool, len_tup, tuple_tup, len_lst, tuple_lst, dict_of, h]
  rfl
theorem question_ok {n : Nat} {x q c : D} {b : Bool} (h : evCall T 0 n "need_house" [x] = .ok .none) (h2 : evCall T 0 n "columns_in" [x] = .ok c) (h3 : evCall T 0 n "is_question_over" [q, c, .int 6] = .ok (.bool b)) : evCall T 0 (n + 1) "is_question" [x, q] = .ok (.bool b) := by
  refine ev_body fn_is_question rfl ?_
  simp only [d_is_question, List.map_cons, List.map_nil, List.cons_append, List.nil_append, List.replicate]
  simp only [evSs, evS, evE, evEs, evO, evI, getV, opt_some, Out.bind_ok, Out.thn_ok, otn_some, SO.then_nx, SO.then_rt, if_true, if_false, Bool.false_eq_true, Bool.not_true, Bool.not_false, tru_bool, cmV, wipe, List.set_cons_zero, List.set_cons_succ, Option.bind_some, Option.map_some, fnV, decide_true, decide_false, isi_tup_tuple, isi_tup_list, isi_tup_str, isi_tup_int, isi_tup_bool, isi_lst_tuple, isi_lst_list, isi_lst_str, isi_lst_int, isi_lst_bool, isi_str_tuple, isi_str_list, isi_str_str, isi_str_int, isi_str_bool, isi_int_tuple, isi_int_list, isi_int_str, isi_int_int, isi_int_bool, isi_bool_tuple, isi_bool_list, isi_bool_str, isi_bool_int, isi_bool_bool, isi_none_tuple, isi_none_list, isi_none_str, isi_none_int, isi_none_bool, len_tup, tuple_tup, len_lst, tuple_lst, dict_of, h, h2, h3]
theorem question2 (m : Nat) {xs : List D} (F : FormsOk ks2 vs2 3 xs) {q : D} {b : Bool} (h : QOk q b) : evCall T 0 (m + 22) "is_question" [.tup [tables2, .tup [], .tup [], .tup [], .tup (sortI xs)], q] = .ok (.bool b) :=
  question_ok (n := m + 21) (c := c2) (need_ok (house2 (m + 4) F)) (by kernel_rfl) (h (m + 1))
theorem says (m : Nat) (b : Bool) : evCall T 0 (m + 1) "_law_says" [.bool b, .bool b] = .ok (.bool true) := by
  cases b <;> kernel_rfl
def wide : D := .tup [tables2, .tup [.tup [s "vw", .tup [.tup [.tup [i 1, i 2, i 3], .tup []]]]], .tup [], .tup [], .tup []]
def wideQ : D := .tup [.tup [.tup [s "z"], .tup [.tup [s "vw", .tup [s "x", s "y", s "z"]]]]]
theorem wide_ok (m : Nat) : evCall T 0 (m + 22) "is_question" [wide, wideQ] = .ok (.bool true) := by kernel_rfl
def bodyL : Sms := match d_law.ss with
  | .cons _ (.cons (.for_ _ _ b) _) => b
  | _ => .nil
theorem math : ∀ ns : List Int, ns.length ≤ 63 → wpCall L.Tb 30 "law" [.lst (ns.map D.int)] ⟨[]⟩ (fun d _ => d = .bool true) (fun _ _ => False) := by
  intro ns hns
  refine call_body fn_law rfl ?_
  simp only [d_law, List.map_cons, List.map_nil, List.cons_append, List.nil_append, List.replicate]
  generalize hk0 : ({ nx := fun _ st => (fun d _ => d = .bool true) D.none st, rt := fun d _ => d = .bool true, bk := fun _ _ => False, ct := fun _ _ => False, ex := fun x _ st => (fun _ _ => False) x st } : Kn) = kn
  have rtq : kn.rt = fun d _ => d = .bool true := by rw [← hk0]
  clear hk0
  rw [wpSs]
  simp only [wpS, wpE, wpEs, getL]
  refine box_ok (N := 1000) fn_box hns (by omega) fun st0 B0 => ?_
  simp only [asT, List.length_cons, List.length_nil, List.set_cons_succ, List.set_cons_zero]
  refine ⟨by omega, ?_⟩
  rw [wpSs, wpS]
  simp only [wpI, wpEs, wpE]
  dsimp only [rgR]
  refine ⟨by unfold small62; omega, ?_⟩
  refine forS_inv (I := fun j l st => ∃ a b c d e, l = [some (.lst (ns.map D.int)), some (.ref 0), a, b, c, d, e] ∧ BoxOk (100 * (10 - j)) st) _ 0 _ _ ?_ ?_ ?_
  rotate_left
  · exact ⟨_, _, _, _, _, rfl, B0⟩
  · rintro l st2 ⟨a, b, c, d, e, rfl, B⟩
    rw [wpSs]
    simp only [wpS, wpE, rtq]
  · rintro j x l st1 K hx ⟨a, b, c, d, e, rfl, B⟩ hK
    obtain ⟨rfl, hj⟩ := intL_get _ _ _ _ hx
    have hj : j < 10 := hj
    rw [Nat.zero_add] at B hK
    simp only [asT, List.length_cons, List.length_nil, List.set_cons_succ, List.set_cons_zero]
    refine ⟨by omega, ?_⟩
    rw [wpSs]
    simp only [wpS, wpE, wpEs, getL]
    refine house_ok (n := 18) (N := 100 * (10 - (j + 1)) + 70) (by rw [show 100 * (10 - (j + 1)) + 70 + 30 = 100 * (10 - j) by omega]; exact B) fun v hv r hr tl ht xs st2 F B2 => ?_
    simp only [asT, List.length_cons, List.length_nil, List.set_cons_succ, List.set_cons_zero]
    refine ⟨by omega, ?_⟩
    rw [wpSs]
    simp only [wpS, wpE, wpEs, getL]
    refine ev_call (house_is 13 hv (rules_ok 18 r hr) ht F) ?_
    refine ev_call (says 28 true) ?_
    simp only [truR, tru, Bool.not_true, Bool.false_eq_true, if_false]
    rw [wpSs]
    dsimp only
    rw [wpSs]
    simp only [wpS, wpE, wpEs, getL]
    refine bent_ok (n := 27) (N := 100 * (10 - (j + 1)) + 69) hv hr ht F B2 fun odd due st3 R B3 => ?_
    simp only [asT, asTs, List.length_cons, List.length_nil, List.set_cons_succ, List.set_cons_zero]
    refine ⟨by omega, by omega, ?_⟩
    have rest : ∀ st, BoxOk (100 * (10 - (j + 1)) + 69) st → wpSs T.sub (wpCall T 29) (dropS 4 bodyL) { kn with nx := K, ct := K, bk := fun l st => wpSs T.sub (wpCall T 29) (.cons (.ret (.cst (.bool true))) .nil) kn l st } [some (.lst (ns.map D.int)), some (.ref 0), some (.int (0 + (j : Int))), some (.tup [tables, v, r, tl, .tup (sortI xs)]), c, some odd, some (.bool due)] st := by
      intro st B3
      simp only [bodyL, d_law, dropS]
      rw [wpSs]
      simp only [wpS, wpE, wpEs, getL]
      refine ⟨by rfl, ?_⟩
      refine forms_ok (n := 27) (N := 100 * (10 - (j + 1)) + 50) (many := 3) (ks := ks2) (vs := vs2) good2 (by omega) (B3.mono (by omega)) fun ys st4 F2 B4 => ?_
      simp only [asT, List.length_cons, List.length_nil, List.set_cons_succ, List.set_cons_zero]
      refine ⟨by omega, ?_⟩
      rw [wpSs]
      simp only [wpS, wpE, wpEs, getL]
      refine ⟨by rfl, ?_⟩
      refine draw (N := 100 * (10 - (j + 1)) + 49) B4 (by omega) fun r2 st5 dr2 B5 => ?_
      obtain ⟨wi, rfl, hwi⟩ : ∃ w : Nat, r2 = (w : Int) ∧ w ≤ 2 := ⟨r2.toNat, by unfold Py.Drawn at dr2; omega, by unfold Py.Drawn at dr2; omega⟩
      refine part_ok (n := 26) (N := 100 * (10 - (j + 1)) + 29) hwi B5 fun hd ties st6 P6 B6 => ?_
      refine spoilt_ok (n := 27) (N := 100 * (10 - (j + 1)) + 28) P6 B6 fun odd2 due2 st7 Q7 B7 => ?_
      simp only [asT, asTs, List.length_cons, List.length_nil, List.set_cons_succ, List.set_cons_zero]
      refine ⟨by omega, by omega, ?_⟩
      rw [wpSs]
      simp only [wpS, wpE, wpEs, getL]
      refine ev_call (question2 7 F2 Q7) ?_
      refine ev_call (says 28 due2) ?_
      simp only [truR, tru, Bool.not_true, Bool.false_eq_true, if_false]
      rw [wpSs]
      dsimp only
      rw [wpSs]
      simp only [wpS, wpE, wpEs, getL, ixO, ixR, atI_0, asT, List.length_cons, List.length_nil, List.set_cons_succ, List.set_cons_zero]
      refine ⟨by omega, ?_⟩
      rw [wpSs]
      simp only [wpS, wpE, wpEs, getL]
      refine ev_call (wide_ok 7) ?_
      refine ev_call (says 28 true) ?_
      simp only [truR, tru, Bool.not_true, Bool.false_eq_true, if_false]
      rw [wpSs]
      dsimp only
      rw [wpSs]
      exact hK _ _ ⟨_, _, _, _, _, rfl, B7.mono (by omega)⟩
    rw [wpSs]
    simp only [wpS, wpE, wpEs, getL]
    refine ev_call (R.1 13) ?_
    refine ev_call (says 28 due) ?_
    simp only [truR, tru, Bool.not_true, Bool.false_eq_true, if_false]
    cases due with
    | true =>
      simp only [Bool.not_true, Bool.false_eq_true, if_false]
      rw [wpSs]
      exact rest _ B3
    | false =>
      simp only [Bool.not_false, if_true]
      refine ev_call (refused_ok (n := 13) (R.2 rfl) (by omega) (R.1 10)) ?_
      simp only [Bool.not_true, Bool.false_eq_true, if_false]
      rw [wpSs]
      exact rest _ B3
end K02
end

section
set_option Elab.async false
set_option linter.all false
set_option maxRecDepth 100000
set_option maxHeartbeats 0
namespace K02
open PySem Py
theorem okL : L.ok P = true := by decide +kernel
abbrev R : PySem.W.OpenRow := PySem.W.OpenLaw.row PySem.Challenge.rw_askedbyforms_k02_what_a_house_and_a_ques
def ob (s : PySem.W.SharedT) : AlL := L.obsG P 6 (HandSHeadRun.getT s)
theorem ob_eq (s : PySem.W.SharedT) : ob s = (L.hook P 6).obs s.abs := LawX.obs_eq (HandSHeadRun.getT_eq s)
def lawAt : Nat := d_law.at_
def loose1 : List Str := ["AskError", "InvalidHouse", "is_integer", "is_between", "is_pair", "are_ascending", "anew", "letters_of", "SIGNS", "MOST_SIGNS", "MOST_TABLES", "MOST_COLUMNS", "MOST_VIEWS", "MOST_RULES", "MOST_TELLS", "MOST_FORMS", "MOST_PARTS", "MOST_TIES", "MOST_LETTERS", "MOST_TERMS", "MOST_BODY", "MOST_HEAD"]
def loose2 : List Str := ["is_name", "is_tables", "are_terms", "is_tie_over", "are_ties_over", "is_part_over", "is_question_over", "is_view", "are_views", "is_rule", "are_rules", "are_columns", "is_tells", "is_form_over", "are_all", "is_house", "columns_in", "need_house", "is_question", "_law_box", "_law_draw", "_law_says", "_law_forms", "_law_letters", "_law_part", "_law_term", "_law_columns", "_law_house", "_law_view", "_law_bent", "_law_spoilt", "_law_refused"]
theorem run (w : World) : HandSHeadRun.RunEq R (PySem.W.view R.prog [lawAt]) (L.hook P 6) ob 3000 (loose1 ++ loose2) w := by
  intro os
  kernel_rfl
end K02

open PySem PySem.W PySem.Calls PyProof.Rows
theorem PySem.Challenge.cw_askedbyforms_k02_what_a_house_and_a_ques_holds : PySem.Challenge.rw_askedbyforms_k02_what_a_house_and_a_ques.Holds := by
  w_on; o_law
  refine HandSHeadRun.head_any (r := K02.R) (q := view K02.R.prog [K02.lawAt]) (H := K02.L.hook K02.P 6) (ob := K02.ob) (M := 3000) (loose := K02.loose1 ++ K02.loose2) (d := HandSHeadRun.topDef K02.R.prog K02.lawAt) (kwd := []) K02.ob_eq
    (by kernel_rfl) (fun s => by kernel_rfl) K02.run (by kernel_rfl) (by kernel_rfl) (by kernel_rfl) (by rfl) (by first | assumption | decide +kernel) (by decide +kernel) ⟨rfl, rfl, rfl, rfl, rfl, by decide +kernel⟩ ?hw ?hc
  case hw => w_witness2
  case hc =>
    exact Py.walk_law (l := PySem.Challenge.rw_askedbyforms_k02_what_a_house_and_a_ques) (L := K02.L) (n := 30) (j := 6) rfl rfl (by kernel_rfl) K02.okL K02.binds K02.bindk (by decide +kernel) (by decide) K02.math
end
