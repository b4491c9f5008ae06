import PyProof.Rows.All
import Wide.All
import OpenK.AllK
import Wide.FinOn
import PyProof.ReprText
import HandS.ForMost
import HandS.Walk
import HandS.TupAny
import HandS.Deep
import HandS.Conv
import HandS.Zip
import HandS.CallSlots
import HandS.IsInst
import HandS.ForExc
import HandS.TryMany
import HandS.ExcField
import HandS.ExcIs
import HandS.SortInts
import HandS.Flow
import HandS.Style
import HandS.Text
import HandS.More
import PyProof.StrLawsRepr
import PyProof.FitsInt
import PyProof.ReprRoads
import HandS.StrMore
import HandS.Codes
import HandS.RaiseMore
import HandS.Replace
import HandS.ReplaceLit
import PyProof.TupleOfStr
import PyProof.Rows.StrStrike
import KE.IntTextLaws
import KE.GoesEnum
import KE.KExcSuper
import KE.KExcIs
import HandS.EndBits
import PySem.Challenge.RW_factskept_k30_whole_tokens
set_option Elab.async false
section
/-! PXa: deep values, the small syntax, the interpreter. Plain Lean, no program in sight. -/
set_option autoImplicit false
namespace PX

/-- a text: its code points -/
abbrev Txt := List Nat
def T (s : String) : Txt := s.toList.map Char.toNat

/-- values as trees; ref: a place in the interpreter's own heap -/
inductive D where
  | non | bl (b : Bool) | int (i : Int) | str (t : Txt)
  | tup (xs : List D) | lst (xs : List D) | dic (kvs : List (D × D)) | ref (l : Nat)
  deriving Inhabited

abbrev LIM : Nat := 16777216

mutual
def D.beq : D → D → Bool
  | .non, .non => true
  | .bl a, .bl b => a == b
  | .int a, .int b => a == b
  | .str a, .str b => a == b
  | .tup a, .tup b => D.beqs a b
  | .lst a, .lst b => D.beqs a b
  | .dic a, .dic b => D.beqk a b
  | .ref a, .ref b => a == b
  | _, _ => false
def D.beqs : List D → List D → Bool
  | [], [] => true
  | x :: xs, y :: ys => D.beq x y && D.beqs xs ys
  | _, _ => false
def D.beqk : List (D × D) → List (D × D) → Bool
  | [], [] => true
  | (k, x) :: xs, (l, y) :: ys => D.beq k l && D.beq x y && D.beqk xs ys
  | _, _ => false
end
mutual
theorem D.beq_eq : ∀ a b : D, D.beq a b = true → a = b
  | .non, b, h => by cases b <;> simp_all [D.beq]
  | .bl a, b, h => by cases b <;> simp_all [D.beq]
  | .int a, b, h => by cases b <;> simp_all [D.beq]
  | .str a, b, h => by cases b <;> simp_all [D.beq]
  | .ref a, b, h => by cases b <;> simp_all [D.beq]
  | .tup a, b, h => by
    cases b with
    | tup b => rw [D.beqs_eq a b (by simpa [D.beq] using h)]
    | _ => simp [D.beq] at h
  | .lst a, b, h => by
    cases b with
    | lst b => rw [D.beqs_eq a b (by simpa [D.beq] using h)]
    | _ => simp [D.beq] at h
  | .dic a, b, h => by
    cases b with
    | dic b => rw [D.beqk_eq a b (by simpa [D.beq] using h)]
    | _ => simp [D.beq] at h
theorem D.beqs_eq : ∀ a b : List D, D.beqs a b = true → a = b
  | [], b, h => by cases b <;> simp_all [D.beqs]
  | x :: xs, b, h => by
    cases b with
    | nil => simp [D.beqs] at h
    | cons y ys =>
      have h' : D.beq x y = true ∧ D.beqs xs ys = true := by simpa [D.beqs] using h
      rw [D.beq_eq x y h'.1, D.beqs_eq xs ys h'.2]
theorem D.beqk_eq : ∀ a b : List (D × D), D.beqk a b = true → a = b
  | [], b, h => by cases b <;> simp_all [D.beqk]
  | (k, x) :: xs, b, h => by
    cases b with
    | nil => simp [D.beqk] at h
    | cons y ys =>
      obtain ⟨l, y⟩ := y
      have h' : (D.beq k l = true ∧ D.beq x y = true) ∧ D.beqk xs ys = true := by simpa [D.beqk] using h
      rw [D.beq_eq k l h'.1.1, D.beq_eq x y h'.1.2, D.beqk_eq xs ys h'.2]
end
mutual
theorem D.beq_refl : ∀ a : D, D.beq a a = true
  | .non => rfl
  | .bl a => by simp [D.beq]
  | .int a => by simp [D.beq]
  | .str a => by simp [D.beq]
  | .ref a => by simp [D.beq]
  | .tup a => by simp [D.beq, D.beqs_refl a]
  | .lst a => by simp [D.beq, D.beqs_refl a]
  | .dic a => by simp [D.beq, D.beqk_refl a]
theorem D.beqs_refl : ∀ a : List D, D.beqs a a = true
  | [] => rfl
  | x :: xs => by simp [D.beqs, D.beq_refl x, D.beqs_refl xs]
theorem D.beqk_refl : ∀ a : List (D × D), D.beqk a a = true
  | [] => rfl
  | (k, x) :: xs => by simp [D.beqk, D.beq_refl k, D.beq_refl x, D.beqk_refl xs]
end
instance : DecidableEq D := fun a b => decidable_of_iff (D.beq a b = true) ⟨D.beq_eq a b, fun h => h ▸ D.beq_refl a⟩

mutual
/-- == of Python (True == 1); not for dicts and places -/
def eqv : D → D → Bool
  | .non, .non => true
  | .bl a, .bl b => a == b
  | .bl a, .int j => (if a then 1 else 0) == j
  | .int i, .bl b => i == (if b then 1 else 0)
  | .int a, .int b => a == b
  | .str a, .str b => a == b
  | .tup a, .tup b => eqvs a b
  | .lst a, .lst b => eqvs a b
  | _, _ => false
def eqvs : List D → List D → Bool
  | [], [] => true
  | x :: xs, y :: ys => eqv x y && eqvs xs ys
  | _, _ => false
end
mutual
/-- built from None, bools, ints, texts, tuples, lists -/
def plain : D → Bool
  | .str t => t.all fun c => decide (c < 0x110000)
  | .tup xs => plains xs
  | .lst xs => plains xs
  | .dic _ => false
  | .ref _ => false
  | _ => true
def plains : List D → Bool
  | [] => true
  | x :: xs => plain x && plains xs
end
mutual
/-- no list, dict or place within -/
def flat : D → Bool
  | .tup xs => flats xs
  | .lst _ => false
  | .dic _ => false
  | .ref _ => false
  | _ => true
def flats : List D → Bool
  | [] => true
  | x :: xs => flat x && flats xs
end
mutual
def depth : D → Nat
  | .tup xs => depths xs + 1
  | .lst xs => depths xs + 1
  | _ => 0
def depths : List D → Nat
  | [] => 0
  | x :: xs => max (depth x) (depths xs)
end
mutual
/-- ints below 2^64 in size -/
def small : D → Bool
  | .int i => decide (i.natAbs < 2 ^ 64)
  | .tup xs => smalls xs
  | .lst xs => smalls xs
  | _ => true
def smalls : List D → Bool
  | [] => true
  | x :: xs => small x && smalls xs
end
mutual
/-- how long the text of repr may be -/
def sz : D → Nat
  | .int _ => 21
  | .str t => 10 * t.length + 2
  | .tup xs => szs xs + 3
  | .lst xs => szs xs + 3
  | _ => 5
def szs : List D → Nat
  | [] => 0
  | x :: xs => sz x + 2 + szs xs
end
mutual
/-- the library's data -/
def toPy : D → PySem.PyData
  | .non => .none
  | .bl b => .bool b
  | .int i => .int i
  | .str t => .str ⟨t.toArray⟩
  | .tup xs => .tuple (toPys xs)
  | .lst xs => .list (toPys xs)
  | .dic _ => .none
  | .ref _ => .none
def toPys : List D → List PySem.PyData
  | [] => []
  | x :: xs => toPy x :: toPys xs
end
/-- the text of repr (its signs are not looked at by any law) -/
def reprT (d : D) : Txt := (PySem.PyData.shown (toPy d)).cps.toList
mutual
/-- all places are below n -/
def below (n : Nat) : D → Bool
  | .tup xs => belows n xs
  | .lst xs => belows n xs
  | .dic kvs => belowk n kvs
  | .ref l => decide (l < n)
  | _ => true
def belows (n : Nat) : List D → Bool
  | [] => true
  | x :: xs => below n x && belows n xs
def belowk (n : Nat) : List (D × D) → Bool
  | [] => true
  | (k, v) :: xs => below n k && below n v && belowk n xs
end
/-- what == takes -/
def eqOk (a b : D) : Bool := plain a && plain b && decide (depth a ≤ 60) && decide (depth b ≤ 60)

/-! ### the heap of the interpreter -/
inductive PO where
  | lst (xs : List D) | dic (kvs : List (D × D)) | dead
  deriving Inhabited
abbrev G := List PO
def PO.beq : PO → PO → Bool
  | .lst a, .lst b => D.beqs a b
  | .dic a, .dic b => D.beqk a b
  | .dead, .dead => true
  | _, _ => false
instance : DecidableEq PO := fun a b => decidable_of_iff (PO.beq a b = true) ⟨by
  intro h
  cases a <;> cases b <;> simp_all [PO.beq]
  · exact D.beqs_eq _ _ h
  · exact D.beqk_eq _ _ h, by
  intro h; subst h
  cases a with
  | lst a => exact D.beqs_refl a
  | dic a => exact D.beqk_refl a
  | dead => rfl⟩
/-- a place's container as a value -/
def deref (g : G) : D → Option D
  | .ref l => match g[l]? with
    | some (.lst xs) => some (.lst xs)
    | some (.dic kvs) => some (.dic kvs)
    | _ => none
  | d => some d

/-- an exception: the class's number, its arguments -/
structure Ex where
  c : Nat
  args : List D
  deriving DecidableEq, Inhabited

inductive R (α : Type) where
  | ok (a : α) (g : G) | exc (x : Ex) (g : G) | bad
def R.bind {α β : Type} : R α → (α → G → R β) → R β
  | .ok a g, f => f a g
  | .exc x g, _ => .exc x g
  | .bad, _ => .bad
def R.ofO {α : Type} (g : G) : Option α → R α
  | some a => .ok a g
  | none => .bad

/-! ### what operators and built-ins do with values -/
def tru : D → Option Bool
  | .non => some false
  | .bl b => some b
  | .int i => some (i != 0)
  | .str t => if t.length ≤ LIM then some (!t.isEmpty) else none
  | .tup xs => some (!xs.isEmpty)
  | .lst xs => some (!xs.isEmpty)
  | .dic _ => none
  | .ref _ => none
inductive Bop where
  | add | sub | mul | mod | fdiv | pow
  deriving DecidableEq
def bop : Bop → D → D → Option D
  | .add, .int a, .int b => some (.int (a + b))
  | .add, .str a, .str b => if a.length + b.length ≤ LIM then some (.str (a ++ b)) else none
  | .add, .lst a, .lst b => if a.length + b.length ≤ LIM then some (.lst (a ++ b)) else none
  | .add, .tup a, .tup b => if a.length + b.length ≤ LIM then some (.tup (a ++ b)) else none
  | .sub, .int a, .int b => some (.int (a - b))
  | .mul, .int a, .int b => if (-(2 ^ 64) < a ∧ a < 2 ^ 64) ∨ (-(2 ^ 64) < b ∧ b < 2 ^ 64) then some (.int (a * b)) else none
  | .mul, .str a, .int b => if 0 ≤ b ∧ b ≤ 16777216 ∧ a.length * b.toNat ≤ LIM then some (.str (List.replicate b.toNat a).flatten) else none
  | .mod, .int a, .int b => if 0 < b then some (.int (a % b)) else none
  | .fdiv, .int a, .int b => if 0 < b ∧ b < 1073741824 then some (.int (a / b)) else none
  | .pow, .int a, .int b => if 0 ≤ b ∧ b ≤ 1000000 ∧ a.natAbs < 2 ^ 64 then some (.int (a ^ b.toNat)) else none
  | _, _, _ => none
inductive Cop where
  | eq | ne | lt | le | gt | ge | inn | nin
  deriving DecidableEq
def isInL (x : D) (xs : List D) : Option Bool := if eqOk x (.lst xs) then some (xs.any fun y => eqv y x) else none
def isIn (x : D) : D → Option Bool
  | .lst xs => isInL x xs
  | .tup xs => isInL x xs
  | .str t => match x with
    | .str [c] => some (decide (c ∈ t))
    | _ => none
  | _ => none
def cop : Cop → D → D → Option Bool
  | .eq, a, b => if eqOk a b then some (eqv a b) else none
  | .ne, a, b => if eqOk a b then some (!eqv a b) else none
  | .lt, .int a, .int b => some (decide (a < b))
  | .lt, .str a, .str b => some (decide (a < b))
  | .le, .int a, .int b => some (decide (a ≤ b))
  | .le, .str a, .str b => some (decide (a ≤ b))
  | .gt, .int a, .int b => some (decide (b < a))
  | .gt, .str a, .str b => some (decide (b < a))
  | .ge, .int a, .int b => some (decide (b ≤ a))
  | .ge, .str a, .str b => some (decide (b ≤ a))
  | .inn, a, b => isIn a b
  | .nin, a, b => (isIn a b).map (!·)
  | _, _, _ => none
/-- the index of Python -/
def ixOf (n : Nat) (i : Int) : Option Nat := if 0 ≤ i then (if i < n then some i.toNat else none) else if 0 ≤ i + n then some (i + n).toNat else none
def getI {α : Type} (xs : List α) (i : Int) : Option α := (ixOf xs.length i).bind fun j => xs[j]?
def idx : D → D → Option D
  | .lst xs, .int i => getI xs i
  | .tup xs, .int i => getI xs i
  | .str t, .int i => if t.length ≤ LIM then (getI t i).map fun c => .str [c] else none
  | _, _ => none
def cutAt (n d : Nat) : Option Int → Nat
  | none => d
  | some v => if v < 0 then (v + (n : Int)).toNat else min v.toNat n
def cut {α : Type} (xs : List α) (lo hi : Option Int) : List α := (xs.drop (cutAt xs.length 0 lo)).take (cutAt xs.length xs.length hi - cutAt xs.length 0 lo)
def bound : D → Option (Option Int)
  | .non => some none
  | .int i => some (some i)
  | _ => none
def slc : D → Option Int → Option Int → Option D
  | .lst xs, lo, hi => some (.lst (cut xs lo hi))
  | .tup xs, lo, hi => some (.tup (cut xs lo hi))
  | .str t, lo, hi => if t.length ≤ LIM then some (.str (cut t lo hi)) else none
  | _, _, _ => none
def itemsOf : D → Option (List D)
  | .lst xs => some xs
  | .tup xs => some xs
  | .str t => if t.length ≤ LIM then some (t.map fun c => .str [c]) else none
  | _ => none
inductive Ty where
  | int | str | bool | tuple | list | dict
  deriving DecidableEq
def isTy : Ty → D → Bool
  | .int, .int _ => true
  | .int, .bl _ => true
  | .bool, .bl _ => true
  | .str, .str _ => true
  | .tuple, .tup _ => true
  | .list, .lst _ => true
  | .dict, .dic _ => true
  | _, _ => false
def rangeL (lo n : Nat) : List D := (List.range' lo n).map fun (i : Nat) => D.int (i : Int)
def pairs : List D → List D → List D
  | x :: xs, y :: ys => .tup [x, y] :: pairs xs ys
  | _, _ => []
def ints? : List D → Option (List Int)
  | [] => some []
  | .int i :: xs => (ints? xs).map (i :: ·)
  | _ => none
def strs? : List D → Option (List Txt)
  | [] => some []
  | .str t :: xs => (strs? xs).map (t :: ·)
  | _ => none
def sortI (xs : List Int) : List Int := xs.mergeSort fun a b => decide (a ≤ b)
def sortT (xs : List Txt) : List Txt := xs.mergeSort fun a b => decide (a ≤ b)
def sorted (xs : List D) : Option (List D) :=
  match ints? xs with
  | some is => some ((sortI is).map .int)
  | none => match strs? xs with
    | some ts => if ts.length < 64 then some ((sortT ts).map .str) else none
    | none => none
/-! ### texts -/
def isDig (c : Nat) : Bool := decide (48 ≤ c) && decide (c ≤ 57)
def digV (acc : Nat) : List Nat → Nat
  | [] => acc
  | c :: r => digV (acc * 10 + (c - 48)) r
def digsOk (t : Txt) : Bool := !t.isEmpty && t.all isDig && decide (t.length ≤ 600)
/-- int(text): digits, a minus ahead or none -/
def intOf : Txt → Option Int
  | 45 :: r => if digsOk r then some (-(digV 0 r : Int)) else none
  | t => if digsOk t then some (digV 0 t : Int) else none
def splitT (c : Nat) : Txt → List Txt
  | [] => [[]]
  | x :: xs => if x = c then [] :: splitT c xs else match splitT c xs with
    | [] => [[x]]
    | y :: ys => (x :: y) :: ys
def joinT (s : Txt) : List Txt → Txt
  | [] => []
  | [p] => p
  | p :: q :: r => p ++ (s ++ joinT s (q :: r))
/-- the place of the first c from i on, or -1 -/
def findT (c : Nat) (t : Txt) (i : Nat) : Int := match (t.drop i).findIdx? (· == c) with
  | some k => ((i + k : Nat) : Int)
  | none => -1
def findD : D → D → D → Option D
  | .str t, .str [c], .int i => if 0 ≤ i then some (.int (findT c t i.toNat)) else none
  | _, _, _ => none
def strikeD (c : Nat) : D → Option D
  | .str t => if t.length ≤ LIM then some (.str (t.filter (· != c))) else none
  | _ => none
def bools? : List D → Option (List Bool)
  | [] => some []
  | .bl b :: xs => (bools? xs).map (b :: ·)
  | _ => none

end PX
end
section
/-! PXb: the small syntax and its interpreter. -/
set_option autoImplicit false
namespace PX

/-- a slot of a def: nothing yet; a value; a container that is this slot's alone -/
inductive SV where
  | un | val (d : D) | own (d : D)
  deriving Inhabited
abbrev Sl := List SV
def look (s : Sl) (i : Nat) : Option D := match s[i]? with
  | some (.val d) => some d
  | _ => none
def lookO (s : Sl) (i : Nat) : Option D := match s[i]? with
  | some (.own d) => some d
  | _ => none

inductive P1 where
  | len | list | tuple | any | all | sorted | int | str | abs | range | enum | dict | repr | bool
  deriving DecidableEq
inductive P2 where
  | zip | range | split | join
  deriving DecidableEq
inductive Tg where
  | one (i : Nat) | tup (is : List Nat)
def Tg.slots : Tg → List Nat
  | .one i => [i]
  | .tup is => is

mutual
inductive E where
  | lit (d : D) | con (n : Nat) | var (i : Nat) | bor (i : Nat)
  | tup (es : Es) | lst (es : Es)
  | bin (o : Bop) (a b : E) | neg (a : E)
  | not_ (a : E) | and_ (a b : E) | or_ (a b : E) | ite (c a b : E)
  | cmp (o : Cop) (a b : E) | isN (a : E) | notN (a : E) | chain (o p : Cop) (a b c : E)
  | idx (a i : E) | slc (a lo hi : E) | rev (a : E)
  | isi (t : Ty) (a : E)
  | p1 (p : P1) (a : E) | p2 (p : P2) (a b : E)
  | call (f : Nat) (es : Es) | callB (f : Nat) (es : Es)
  | lc (elt : E) (tg : Tg) (it : E) (cs : Es)
  | find (a b c : E)
  | lstR (a b : E) (es : Es)
  | strike (a : E) (c : Nat)
inductive Es where
  | nil | cons (e : E) (es : Es)
end

/-- how a value is wanted: as it is; as a truth -/
inductive M where
  | val | tst
def truth (g : G) (d : D) : Option D := ((deref g d).bind tru).map D.bl
def fin (m : M) (r : R D) : R D := match m with
  | .val => r
  | .tst => r.bind fun d g => R.ofO g (truth g d)
def at1 (g : G) (x : D) (h : D → Option D) : Option D := (deref g x).bind h
def at2 (g : G) (x y : D) (h : D → D → Option D) : Option D := (deref g x).bind fun x => (deref g y).bind fun y => h x y

def isSeq : D → Bool
  | .tup _ => true
  | .lst _ => true
  | _ => false
/-- what repr takes -/
def reprOk (d : D) : Bool := plain d && small d && decide (depth d ≤ 60) && decide (sz d ≤ LIM)
def chars (t : Txt) : List D := t.map fun c => .str [c]
def dput (kvs : List (D × D)) (k v : D) : List (D × D) := if kvs.any (fun p => eqv p.1 k) then kvs.map fun p => if eqv p.1 k then (p.1, v) else p else kvs ++ [(k, v)]
def dget (kvs : List (D × D)) (k : D) : Option D := (kvs.find? fun p => eqv p.1 k).map (·.2)
def isKey : D → Bool
  | .int _ => true
  | .str _ => true
  | _ => false
/-- dict(pairs), the keys ints and texts -/
def dictOf : List D → List (D × D) → Option (List (D × D))
  | [], acc => some acc
  | .tup [k, v] :: xs, acc => if isKey k then dictOf xs (dput acc k v) else none
  | _, _ => none
def enumL : Nat → List D → List D
  | _, [] => []
  | n, x :: xs => .tup [.int (n : Int), x] :: enumL (n + 1) xs
def prim1 : P1 → D → Option D
  | .len, .str t => if t.length ≤ LIM then some (.int t.length) else none
  | .len, .tup xs => some (.int xs.length)
  | .len, .lst xs => some (.int xs.length)
  | .list, .lst xs => some (.lst xs)
  | .list, .tup xs => some (.lst xs)
  | .tuple, .lst xs => some (.tup xs)
  | .tuple, .tup xs => some (.tup xs)
  | .tuple, .str t => if t.length ≤ LIM then some (.tup (chars t)) else none
  | .str, .int i => if i.natAbs.log2 < 1920 then some (.str (T (toString i))) else none
  | .str, .str t => some (.str t)
  | .int, .str t => (intOf t).map .int
  | .any, .lst xs => (bools? xs).map fun bs => .bl (bs.any id)
  | .all, .lst xs => (bools? xs).map fun bs => .bl (bs.all id)
  | .sorted, .lst xs => (sorted xs).map .lst
  | .sorted, .tup xs => (ints? xs).map fun ns => .lst ((sortI ns).map .int)
  | .sorted, .dic kvs => (strs? (kvs.map (·.1))).bind fun ts => if ts.length < 64 then some (.lst ((sortT ts).map .str)) else none
  | .int, .int i => some (.int i)
  | .int, .bl b => some (.int (if b then 1 else 0))
  | .abs, .int i => some (.int (if i < 0 then -i else i))
  | .range, .int n => if -(2 ^ 62) ≤ n ∧ n ≤ 16777216 then some (.lst (rangeL 0 n.toNat)) else none
  | .enum, .lst xs => some (.lst (enumL 0 xs))
  | .enum, .tup xs => some (.lst (enumL 0 xs))
  | .repr, d => if isSeq d && reprOk d then some (.str (reprT d)) else none
  | .bool, .int i => some (.bl (i != 0))
  | .bool, .bl b => some (.bl b)
  | .dict, .lst xs => (dictOf xs []).map .dic
  | _, _ => none
def prim2 : P2 → D → D → Option D
  | .zip, a, b => match itemsOf a, itemsOf b with
    | some xs, some ys => some (.lst (pairs xs ys))
    | _, _ => none
  | .split, .str t, .str [c] => if t.length + 2 ≤ LIM ∧ c < 256 then some (.lst ((splitT c t).map .str)) else none
  | .join, .str s, .lst xs => (strs? xs).bind fun ts => if (ts.map (·.length)).sum + ts.length * s.length ≤ LIM then some (.str (joinT s ts)) else none
  | .range, .int a, .int b => if (-(2 ^ 62) ≤ a ∧ a < 2 ^ 62) ∧ (-(2 ^ 62) ≤ b ∧ b < 2 ^ 62) ∧ 0 ≤ a then some (.lst (rangeL a.toNat (b - a).toNat)) else none
  | _, _, _ => none

def setAll : List Nat → List D → Sl → Sl
  | i :: is, d :: ds, s => setAll is ds (s.set i (.val d))
  | _, _, s => s
def bindT : Tg → D → Sl → Option Sl
  | .one i, d, s => some (s.set i (.val d))
  | .tup is, .tup ds, s => if ds.length = is.length then some (setAll is ds s) else none
  | _, _, _ => none
def wipeS : List Nat → Sl → Sl
  | [], s => s
  | i :: is, s => (wipeS is s).set i .un
def noExc {α : Type} : R α → R α
  | .ok a g => .ok a g
  | _ => .bad
/-- a comprehension: what each item gives, none if it is left out -/
def compL (f : D → G → R (Option D)) : List D → List D → G → R (List D)
  | [], acc, g => .ok acc g
  | x :: xs, acc, g => (noExc (f x g)).bind fun o g' => match o with
    | some d => compL f xs (acc ++ [d]) g'
    | none => compL f xs acc g'
def rev : D → Option D
  | .tup xs => some (.tup xs.reverse)
  | .lst xs => some (.lst xs.reverse)
  | _ => none
/-- a call with borrowed containers: the callee sees no place; the answer holds no container -/
def lent (g : G) : R D → R D
  | .ok d _ => if flat d = true then .ok d g else .bad
  | .exc x _ => if flats x.args = true then .exc x g else .bad
  | .bad => .bad

def isTxtD : D → Bool
  | .str _ => true
  | _ => false
/-- a bound of a slice: left out, or an int -/
def isNon : E → Bool
  | .lit .non => true
  | _ => false
def bd : Bool → D → Option (Option Int)
  | true, .non => some none
  | false, .int i => some (some i)
  | _, _ => none
/-- what is walked is not read through a place -/
def app1 (p : P1) (g : G) (x : D) : Option D := match p with
  | .enum => prim1 .enum x
  | p => at1 g x (prim1 p)
section
variable (cons : List D) (F : Nat → List D → G → R D)
mutual
def ev : E → M → Sl → G → R D
  | .lit d, m, _, g => fin m (.ok d g)
  | .con n, m, _, g => fin m (R.ofO g cons[n]?)
  | .var i, m, s, g => fin m (R.ofO g (look s i))
  | .bor i, m, s, g => fin m (R.ofO g (lookO s i))
  | .tup es, m, s, g => fin m ((evs es s g).bind fun ds g => .ok (.tup ds) g)
  | .lst es, m, s, g => fin m ((evs es s g).bind fun ds g => .ok (.lst ds) g)
  | .bin o a b, m, s, g => fin m ((ev a .val s g).bind fun x g => (ev b .val s g).bind fun y g => R.ofO g (at2 g x y (bop o)))
  | .neg a, m, s, g => fin m ((ev a .val s g).bind fun x g => match x with
    | .int i => .ok (.int (-i)) g
    | _ => .bad)
  | .not_ a, m, s, g => fin m ((ev a .tst s g).bind fun x g => match x with
    | .bl b => .ok (.bl (!b)) g
    | _ => .bad)
  | .and_ a b, m, s, g => match m with
    | .tst => (ev a .tst s g).bind fun x g => if x = .bl true then ev b .tst s g else .ok (.bl false) g
    | .val => (ev a .val s g).bind fun x g => match x with
      | .bl true => ev b .val s g
      | .bl false => .ok (.bl false) g
      | _ => .bad
  | .or_ a b, m, s, g => match m with
    | .tst => (ev a .tst s g).bind fun x g => if x = .bl true then .ok (.bl true) g else ev b .tst s g
    | .val => (ev a .val s g).bind fun x g => match x with
      | .bl true => .ok (.bl true) g
      | .bl false => ev b .val s g
      | _ => .bad
  | .ite c a b, m, s, g => (ev c .tst s g).bind fun x g => if x = .bl true then ev a m s g else ev b m s g
  | .cmp o a b, m, s, g => fin m ((ev a .val s g).bind fun x g => (ev b .val s g).bind fun y g => R.ofO g (at2 g x y fun x y => (cop o x y).map .bl))
  | .isN a, m, s, g => fin m ((ev a .val s g).bind fun x g => .ok (.bl (decide (x = .non))) g)
  | .notN a, m, s, g => fin m ((ev a .val s g).bind fun x g => .ok (.bl (!decide (x = .non))) g)
  | .chain o p a b c, m, s, g => fin m ((ev a .val s g).bind fun x g => (ev b .val s g).bind fun y g => match at2 g x y fun x y => (cop o x y).map .bl with
    | some (.bl true) => (ev c .val s g).bind fun z g => R.ofO g (at2 g y z fun y z => (cop p y z).map .bl)
    | some (.bl false) => .ok (.bl false) g
    | _ => .bad)
  | .idx a i, m, s, g => fin m ((ev a .val s g).bind fun x g => (ev i .val s g).bind fun y g => R.ofO g (at1 g x fun x => idx x y))
  | .slc a lo hi, m, s, g => fin m ((ev a .val s g).bind fun x g => ((ev lo .val s g).bind fun d g => R.ofO g (bd (isNon lo) d)).bind fun l g => ((ev hi .val s g).bind fun d g => R.ofO g (bd (isNon hi) d)).bind fun h g => R.ofO g (at1 g x fun x => slc x l h))
  | .rev a, m, s, g => fin m ((ev a .val s g).bind fun x g => R.ofO g (at1 g x rev))
  | .isi t a, m, s, g => fin m ((ev a .val s g).bind fun x g => R.ofO g (at1 g x fun x => some (.bl (isTy t x))))
  | .p1 p a, m, s, g => fin m ((ev a .val s g).bind fun x g => R.ofO g (app1 p g x))
  | .p2 p a b, m, s, g => fin m ((ev a .val s g).bind fun x g => if isTxtD x = true then (ev b .val s g).bind fun y g => R.ofO g (at2 g x y (prim2 p)) else .bad)
  | .call f es, m, s, g => fin m ((evs es s g).bind fun ds g => F f ds g)
  | .callB f es, m, s, g => fin m ((evs es s g).bind fun ds g => if belows 0 ds = true then lent g (F f ds []) else .bad)
  | .lc elt tg it cs, m, s, g => fin m ((ev it .val s g).bind fun d g => match itemsOf d with
    | none => .bad
    | some xs => (compL (fun x g => match bindT tg x (wipeS tg.slots s) with
        | none => .bad
        | some s' => (evc cs s' g).bind fun b g => if b = true then (ev elt .val s' g).bind fun y g => .ok (some y) g else .ok none g) xs [] g).bind fun ys g => .ok (.lst ys) g)
  | .find a b c, m, s, g => fin m ((ev a .val s g).bind fun x g => if isTxtD x = true then (ev b .val s g).bind fun y g => (ev c .val s g).bind fun z g => R.ofO g (findD x y z) else .bad)
  | .lstR a b es, m, s, g => fin m ((ev a .val s g).bind fun x g => (ev b .val s g).bind fun y g => (evs es s g).bind fun ds g => .ok (.lst (x :: y :: ds)) g)
  | .strike a c, m, s, g => fin m ((ev a .val s g).bind fun x g => R.ofO g (at1 g x (strikeD c)))
def evs : Es → Sl → G → R (List D)
  | .nil, _, g => .ok [] g
  | .cons e es, s, g => (ev e .val s g).bind fun d g => (evs es s g).bind fun ds g => .ok (d :: ds) g
/-- the tests of a comprehension: none, or one -/
def evc : Es → Sl → G → R Bool
  | .nil, _, g => .ok true g
  | .cons e _, s, g => (ev e .tst s g).bind fun x g => .ok (decide (x = .bl true)) g
end
end

/-! ### statements -/
inductive K where
  | val | own | hp
  deriving DecidableEq
/-- what an except suite may return -/
inductive SE where
  | lit (d : D) | fld (j : Nat) | tup2 (a b : SE) | tup1 (a : SE) | ifIs (c : Nat) (a b : SE)
inductive S where
  | nop | seq (a b : S)
  | set (i : Nat) (k : K) (e : E)
  | frz (i : Nat)
  | setP (ts : List (Nat × K)) (es : Es)
  | unp (is : List Nat) (e : E)
  | app (i : Nat) (e : E) | ext (i : Nat) (e : E)
  | put (i : Nat) (k e : E) | putR (a k e : E) | putT (i : Nat) (ks es : Es)
  | aug (i : Nat) (o : Bop) (e : E)
  | if_ (c : E) (a b : S) | whl (c : E) (b : S) | for_ (tg : Tg) (it : E) (b : S)
  | ret (e : E) | retO (i : Nat) | retF (e : E) | ret0 | rai (c : Nat) (es : Es) | try_ (b : S) (hs : List (Nat × SE)) | expr (e : E)
inductive Fl where
  | nx (s : Sl) (g : G) | ret (fr : Bool) (d : D) (g : G) | exc (x : Ex) (s : Sl) (g : G) | bad
def Fl.bind : Fl → (Sl → G → Fl) → Fl
  | .nx s g, f => f s g
  | .ret fr d g, _ => .ret fr d g
  | .exc x s g, _ => .exc x s g
  | .bad, _ => .bad
def lift {α : Type} (s : Sl) : R α → (α → G → Fl) → Fl
  | .ok a g, f => f a g
  | .exc x g, _ => .exc x s g
  | .bad, _ => .bad
def isCont : D → Bool
  | .lst _ => true
  | .dic _ => true
  | _ => false
def toPO : D → PO
  | .lst xs => .lst xs
  | .dic kvs => .dic kvs
  | _ => .dead
/-- a value stored at a slot -/
def put1 (k : K) (i : Nat) (d : D) (s : Sl) (g : G) : Fl := match k with
  | .val => .nx (s.set i (.val d)) g
  | .own => if isCont d then .nx (s.set i (.own d)) g else .bad
  | .hp => if isCont d then .nx (s.set i (.val (.ref g.length))) (g ++ [toPO d]) else .bad
def putAll : List (Nat × K) → List D → Sl → G → Fl
  | (i, k) :: ts, d :: ds, s, g => (put1 k i d s g).bind fun s g => putAll ts ds s g
  | [], [], s, g => .nx s g
  | _, _, _, _ => .bad
/-- c[k] = v in a container -/
def store : D → D → D → Option D
  | .lst xs, .int i, v => (ixOf xs.length i).map fun j => .lst (xs.set j v)
  | .dic kvs, k, v => if kvs.length < LIM then some (.dic (dput kvs k v)) else none
  | _, _, _ => none
def forL (f : D → Sl → G → Fl) : List D → Sl → G → Fl
  | [], s, g => .nx s g
  | x :: xs, s, g => (f x s g).bind fun s g => forL f xs s g
def whileL (c : Sl → G → R D) (b : Sl → G → Fl) : Nat → Sl → G → Fl
  | 0, _, _ => .bad
  | n + 1, s, g => lift s (c s g) fun x g => if x = .bl true then (b s g).bind fun s g => whileL c b n s g else .nx s g
def storeAll (evk : E → Sl → G → R D) (i : Nat) : Es → List D → Sl → G → Fl
  | .cons k ks, d :: ds, s, g => match lookO s i with
    | some c => lift s (evk k s g) fun kd g => match store c kd d with
      | some (.lst xs) => storeAll evk i ks ds (s.set i (.own (.lst xs))) g
      | _ => .bad
    | none => .bad
  | .nil, [], s, g => .nx s g
  | _, _, _, _ => .bad
def se (sub : Nat → Nat → Bool) (x : Ex) : SE → Option D
  | .lit d => some d
  | .fld j => x.args[j]?
  | .tup1 a => (se sub x a).map fun d => .tup [d]
  | .tup2 a b => (se sub x a).bind fun d => (se sub x b).map fun d' => .tup [d, d']
  | .ifIs c a b => if sub x.c c then se sub x a else se sub x b
def handle (sub : Nat → Nat → Bool) (x : Ex) (s : Sl) (g : G) : List (Nat × SE) → Fl
  | [] => .exc x s g
  | (c, e) :: hs => if sub x.c c then (match se sub x e with
    | some d => if flat d = true then .ret false d g else .bad
    | none => .bad) else handle sub x s g hs
def augD : Bop → D → D → Option D
  | .add, .int a, .int b => some (.int (a + b))
  | .sub, .int a, .int b => some (.int (a - b))
  | _, _, _ => none
section
variable (cons : List D) (sub : Nat → Nat → Bool) (W : Nat) (F : Nat → List D → G → R D)
def exec : S → Sl → G → Fl
  | .nop, s, g => .nx s g
  | .seq a b, s, g => (exec a s g).bind fun s g => exec b s g
  | .set i k e, s, g => lift s (ev cons F e .val s g) fun d g => put1 k i d s g
  | .frz i, s, g => match lookO s i with
    | some d => .nx (s.set i (.val d)) g
    | none => .bad
  | .setP ts es, s, g => lift s (evs cons F es s g) fun ds g => putAll ts ds s g
  | .unp is e, s, g => lift s (ev cons F e .val s g) fun d g => match bindT (.tup is) d s with
    | some s => .nx s g
    | none => .bad
  | .app i e, s, g => match lookO s i with
    | some (.lst xs) => lift s (ev cons F e .val s g) fun d g => if xs.length < LIM then .nx (s.set i (.own (.lst (xs ++ [d])))) g else .bad
    | _ => .bad
  | .ext i e, s, g => match lookO s i with
    | some (.lst xs) => lift s (ev cons F e .val s g) fun d g => match d with
      | .lst ys => if xs.length + ys.length ≤ LIM then .nx (s.set i (.own (.lst (xs ++ ys)))) g else .bad
      | _ => .bad
    | _ => .bad
  | .put i k e, s, g => lift s (ev cons F e .val s g) fun d g => lift s (ev cons F k .val s g) fun kd g => match (lookO s i).bind fun c => store c kd d with
    | some c => .nx (s.set i (.own c)) g
    | none => .bad
  | .putR a k e, s, g => lift s (ev cons F e .val s g) fun d g => lift s (ev cons F a .val s g) fun o g => lift s (ev cons F k .val s g) fun kd g => match o with
    | .ref l => match (deref g (.ref l)).bind fun c => store c kd d with
      | some (.lst xs) => .nx s (g.set l (.lst xs))
      | _ => .bad
    | _ => .bad
  | .putT i ks es, s, g => lift s (evs cons F es s g) fun ds g => storeAll (fun k s g => ev cons F k .val s g) i ks ds s g
  | .aug i o e, s, g => match look s i with
    | some x => lift s (ev cons F e .val s g) fun y g => match augD o x y with
      | some z => .nx (s.set i (.val z)) g
      | none => .bad
    | none => .bad
  | .if_ c a b, s, g => lift s (ev cons F c .tst s g) fun x g => if x = .bl true then exec a s g else exec b s g
  | .whl c b, s, g => whileL (fun s g => ev cons F c .tst s g) (fun s g => exec b s g) W s g
  | .for_ tg it b, s, g => lift s (ev cons F it .val s g) fun d g => match itemsOf d with
    | none => .bad
    | some xs => forL (fun x s g => match bindT tg x s with
      | none => .bad
      | some s => exec b s g) xs s g
  | .ret e, s, g => lift s (ev cons F e .val s g) fun d g => .ret false d g
  | .retO i, s, g => match lookO s i with
    | some d => .ret true d g
    | none => .bad
  | .retF e, s, g => lift s (ev cons F e .val s g) fun d g => if isCont d then .ret true d g else .bad
  | .ret0, _, g => .ret false .non g
  | .rai c es, s, g => lift s (evs cons F es s g) fun ds g => if flats ds = true then .exc ⟨c, ds⟩ s g else .bad
  | .try_ b hs, s, g => match exec b s g with
    | .exc x s g => handle sub x s g hs
    | r => r
  | .expr e, s, g => lift s (ev cons F e .val s g) fun _ g => .nx s g
end

/-- a def: how many parameters, how many slots; whether the heap it leaves is as it found it; whether its answer is a new container of its own -/
structure Fn where
  np : Nat
  ns : Nat
  pure : Bool
  fresh : Bool
  body : S
def start (f : Fn) (ds : List D) : Sl := ds.map .val ++ List.replicate (f.ns - ds.length) .un
def close (pure : Bool) (g : G) : R D → R D
  | .ok d g' => if pure then (if g'.take g.length = g ∧ below g.length d = true then .ok d g else .bad) else .ok d g'
  | .exc x g' => if pure then (if g'.take g.length = g ∧ belows g.length x.args = true then .exc x g else .bad) else .exc x g'
  | .bad => .bad
def ofFl (fresh : Bool) : Fl → R D
  | .nx _ g => if fresh then .bad else .ok .non g
  | .ret fr d g => if fr = fresh ∧ (fresh = true → isCont d = true) then .ok d g else .bad
  | .exc x _ g => .exc x g
  | .bad => .bad
/-- a program: its constants, its defs, which exception class is which one's subclass -/
structure Pr where
  cons : List D
  fns : List Fn
  sub : Nat → Nat → Bool
  W : Nat
def call (P : Pr) : Nat → Nat → List D → G → R D
  | 0, _, _, _ => .bad
  | n + 1, f, ds, g => match P.fns[f]? with
    | none => .bad
    | some fn => if ds.length = fn.np then close fn.pure g (ofFl fn.fresh (exec P.cons P.sub P.W (call P n) fn.body (start fn ds) g)) else .bad
end PX
end
section
set_option Elab.async false
set_option linter.all false
set_option maxRecDepth 100000
set_option autoImplicit false
/-! PXc: how the interpreter's values stand in the hand layer's heap. -/
namespace PX
open PySem L2 PySem.Spec PyProof.Rows
abbrev Fg := PySem.W.Frag

def mkS (t : Txt) : Str := ⟨t.toArray⟩
theorem mkS_toList (t : Txt) : (mkS t).cps.toList = t := by simp [mkS]
theorem mkS_length (t : Txt) : (mkS t).length = t.length := by simp [mkS, Str.length]
theorem mkS_inj {a b : Txt} (h : mkS a = mkS b) : a = b := by
  have := congrArg (fun s : Str => s.cps.toList) h
  simpa [mkS] using this
theorem mkS_of (z : Str) : mkS z.cps.toList = z := by simp [mkS]
/-- a key of a dict -/
def keyD : Key → D
  | .inl i => .int i
  | .inr z => .str z.cps.toList

/-- a list of the written part -/
def KL (K : Fg) (a : Addr) (xs : List V) : Prop :=
  ∃ (o : Obj) (its : Array Value) (n : Nat), K.lookup a = some o ∧ o.cls = .type "list" ∧ o.dict = none ∧ o.data = .seq its n ∧
    its.size ≤ sizeLine ∧ Vals xs its.toList
/-- a list that no one changes -/
def Frozen (K : Fg) (ρ B : List Addr) (H : Hp) (a : Addr) (xs : List V) : Prop := (Rd H a (.lst xs) ∧ a ∉ ρ ∧ a ∉ B) ∨ KL K a xs
mutual
/-- the value v is the tree d; ρ: where the interpreter's places stand; B: addresses that no value may lean on -/
inductive Rep (K : Fg) (ρ B : List Addr) (H : Hp) : V → D → Prop
  | non : Rep K ρ B H .non .non
  | bl (b : Bool) : Rep K ρ B H (.bl b) (.bl b)
  | int (i : Int) : Rep K ρ B H (.int i) (.int i)
  | str (t : Txt) : Rep K ρ B H (.str (mkS t)) (.str t)
  | tup {a : Addr} {vs : List V} {ds : List D} : SqT K H a vs → RepL K ρ B H vs ds → Rep K ρ B H (.ref a) (.tup ds)
  | lst {a : Addr} {vs : List V} {ds : List D} : Frozen K ρ B H a vs → RepL K ρ B H vs ds → Rep K ρ B H (.ref a) (.lst ds)
  | dic {a : Addr} {kvs : List (Key × V)} {ds : List (D × D)} : Rd H a (.dK kvs) → a ∉ ρ → a ∉ B → RepK K ρ B H kvs ds → Rep K ρ B H (.ref a) (.dic ds)
  | ref {a : Addr} {l : Nat} : ρ[l]? = some a → Rep K ρ B H (.ref a) (.ref l)
inductive RepL (K : Fg) (ρ B : List Addr) (H : Hp) : List V → List D → Prop
  | nil : RepL K ρ B H [] []
  | cons {v : V} {vs : List V} {d : D} {ds : List D} : Rep K ρ B H v d → RepL K ρ B H vs ds → RepL K ρ B H (v :: vs) (d :: ds)
inductive RepK (K : Fg) (ρ B : List Addr) (H : Hp) : List (Key × V) → List (D × D) → Prop
  | nil : RepK K ρ B H [] []
  | cons {k : Key} {v : V} {vs : List (Key × V)} {d : D} {ds : List (D × D)} : Rep K ρ B H v d → RepK K ρ B H vs ds → RepK K ρ B H ((k, v) :: vs) ((keyD k, d) :: ds)
end

/-- what a change of the heap keeps: all that was tracked but the places; tuples; what is locked. New places are new -/
structure Ext (ρ : List Addr) (H : Hp) (ρ' : List Addr) (H' : Hp) : Prop where
  pre : ∃ n, ρ' = ρ ++ n ∧ ∀ a ∈ n, H a = none
  keep : ∀ a o, H a = some o → a ∉ ρ → H' a = some o
  there : ∀ a o, H a = some o → ∃ o', H' a = some o'
  tup : ∀ a xs, H a = some (.tup xs) → H' a = some (.tup xs)
  frz : ∀ a o u, H a = some (.frz o u) → H' a = some (.frz o u)
section
variable {ρ ρ1 ρ2 ρ' B B' : List Addr} {H H1 H2 H' : Hp} {K : Fg}
theorem Ext.refl : Ext ρ H ρ H := ⟨⟨[], by simp, by simp⟩, fun _ _ h _ => h, fun _ o h => ⟨o, h⟩, fun _ _ h => h, fun _ _ _ h => h⟩
theorem Ext.old (e : Ext ρ H ρ' H') {a : Addr} {o : HO} (h : H a = some o) (hn : a ∉ ρ) : a ∉ ρ' := by
  obtain ⟨n, rfl, hf⟩ := e.pre
  intro hm
  rcases List.mem_append.mp hm with z | z
  · exact hn z
  · rw [hf a z] at h; cases h
theorem Ext.free (e : Ext ρ H ρ' H') {a : Addr} (h : H' a = none) : H a = none := by
  cases q : H a with
  | none => rfl
  | some o =>
    obtain ⟨o', h'⟩ := e.there a o q
    rw [h] at h'; cases h'
theorem Ext.trans (a : Ext ρ H ρ1 H1) (b : Ext ρ1 H1 ρ2 H2) : Ext ρ H ρ2 H2 := by
  refine ⟨?_, fun c o h hn => b.keep c o (a.keep c o h hn) (a.old h hn), fun c o h => ?_, fun c xs h => b.tup c xs (a.tup c xs h), fun c o u h => b.frz c o u (a.frz c o u h)⟩
  · obtain ⟨n, e1, h1⟩ := a.pre
    obtain ⟨m, e2, h2⟩ := b.pre
    refine ⟨n ++ m, by rw [e2, e1, List.append_assoc], fun c hc => ?_⟩
    rcases List.mem_append.mp hc with z | z
    · exact h1 c z
    · exact a.free (h2 c z)
  · obtain ⟨o1, h1⟩ := a.there c o h
    exact b.there c o1 h1
theorem Ext.at (e : Ext ρ H ρ' H') {l : Nat} {a : Addr} (h : ρ[l]? = some a) : ρ'[l]? = some a := by
  obtain ⟨n, rfl, _⟩ := e.pre
  have hl : l < ρ.length := (List.getElem?_eq_some_iff.mp h).1
  rw [List.getElem?_append_left hl]
  exact h
/-- a new object is laid -/
theorem Ext.laid {p : Addr} {o : HO} (h : H p = none) : Ext ρ H ρ (upd H p o) := by
  have ne : ∀ {a u}, H a = some u → a ≠ p := fun {a u} q z => by rw [z, h] at q; cases q
  refine ⟨⟨[], by simp, by simp⟩, fun a u q _ => by rw [upd_ne (ne q)]; exact q, fun a u q => ⟨u, by rw [upd_ne (ne q)]; exact q⟩, fun a u q => by rw [upd_ne (ne q)]; exact q, fun a u w q => by rw [upd_ne (ne q)]; exact q⟩
theorem Ext.sqt (e : Ext ρ H ρ' H') {a : Addr} {xs : List V} (h : SqT K H a xs) : SqT K H' a xs := by
  rcases h with (h | ⟨o, h⟩) | h
  · exact .inl (.inl (e.tup a xs h))
  · exact .inl (.inr ⟨o, e.frz a o _ h⟩)
  · exact .inr h
theorem Ext.rd (e : Ext ρ H ρ' H') {a : Addr} {u : HO} (h : Rd H a u) (hn : a ∉ ρ) : Rd H' a u := by
  rcases h with h | ⟨o, h⟩
  · exact .inl (e.keep a u h hn)
  · exact .inr ⟨o, e.keep a _ h hn⟩
theorem Rd.tracked {a : Addr} {u : HO} (h : Rd H a u) : ∃ o, H a = some o := by
  rcases h with h | ⟨o, h⟩ <;> exact ⟨_, h⟩

theorem Frozen.mono (e : Ext ρ H ρ' H') (hB : ∀ a, (∃ o, H a = some o) → a ∉ B → a ∉ B') {a : Addr} {xs : List V} (h : Frozen K ρ B H a xs) : Frozen K ρ' B' H' a xs := by
  rcases h with ⟨h, n1, n2⟩ | h
  · exact .inl ⟨e.rd h n1, e.old (Rd.tracked h).choose_spec n1, hB _ (Rd.tracked h) n2⟩
  · exact .inr h
theorem Frozen.sq {a : Addr} {xs : List V} (h : Frozen K ρ B H a xs) : SqL K H a xs := by
  rcases h with ⟨h, _, _⟩ | h
  · exact .inl h
  · exact .inr h
mutual
/-- a tree stays a tree: over a change, with other addresses forbidden, the places being new or the old ones -/
theorem Rep.mono (e : Ext ρ H ρ' H') (hB : ∀ a, (∃ o, H a = some o) → a ∉ B → a ∉ B') : ∀ {v : V} {d : D}, Rep K ρ B H v d → Rep K ρ' B' H' v d
  | _, _, .non => .non
  | _, _, .bl b => .bl b
  | _, _, .int i => .int i
  | _, _, .str t => .str t
  | _, _, .tup h r => .tup (e.sqt h) (RepL.mono e hB r)
  | _, _, .lst h r => .lst (h.mono e hB) (RepL.mono e hB r)
  | _, _, .dic h n1 n2 r => .dic (e.rd h n1) (e.old (Rd.tracked h).choose_spec n1) (hB _ (Rd.tracked h) n2) (RepK.mono e hB r)
  | _, _, .ref h => .ref (e.at h)
theorem RepL.mono (e : Ext ρ H ρ' H') (hB : ∀ a, (∃ o, H a = some o) → a ∉ B → a ∉ B') : ∀ {vs : List V} {ds : List D}, RepL K ρ B H vs ds → RepL K ρ' B' H' vs ds
  | _, _, .nil => .nil
  | _, _, .cons h r => .cons (Rep.mono e hB h) (RepL.mono e hB r)
theorem RepK.mono (e : Ext ρ H ρ' H') (hB : ∀ a, (∃ o, H a = some o) → a ∉ B → a ∉ B') : ∀ {vs : List (Key × V)} {ds : List (D × D)}, RepK K ρ B H vs ds → RepK K ρ' B' H' vs ds
  | _, _, .nil => .nil
  | _, _, .cons h r => .cons (Rep.mono e hB h) (RepK.mono e hB r)
end
theorem Rep.ext (e : Ext ρ H ρ' H') {v : V} {d : D} (h : Rep K ρ B H v d) : Rep K ρ' B H' v d := h.mono e fun _ _ z => z
theorem RepL.ext (e : Ext ρ H ρ' H') {v : List V} {d : List D} (h : RepL K ρ B H v d) : RepL K ρ' B H' v d := h.mono e fun _ _ z => z
theorem RepK.ext (e : Ext ρ H ρ' H') {v : List (Key × V)} {d : List (D × D)} (h : RepK K ρ B H v d) : RepK K ρ' B H' v d := h.mono e fun _ _ z => z
mutual
/-- what leans on no container leans on no place -/
theorem Rep.flat : ∀ {v : V} {d : D}, Rep K ρ B H v d → PX.flat d = true → Rep K ρ' B' H v d
  | _, _, .non, _ => .non
  | _, _, .bl b, _ => .bl b
  | _, _, .int i, _ => .int i
  | _, _, .str t, _ => .str t
  | _, _, .tup h r, f => .tup h (RepL.flat r (by simpa [PX.flat] using f))
  | _, _, .lst _ _, f => by simp [PX.flat] at f
  | _, _, .dic _ _ _ _, f => by simp [PX.flat] at f
  | _, _, .ref _, f => by simp [PX.flat] at f
theorem RepL.flat : ∀ {vs : List V} {ds : List D}, RepL K ρ B H vs ds → PX.flats ds = true → RepL K ρ' B' H vs ds
  | _, _, .nil, _ => .nil
  | _, _, .cons h r, f => by
    have f' := f
    simp only [PX.flats, Bool.and_eq_true] at f'
    exact .cons (Rep.flat h f'.1) (RepL.flat r f'.2)
end
mutual
/-- fewer places: where all that is named is below -/
theorem Rep.cut {n : List Addr} : ∀ {v : V} {d : D}, Rep K (ρ ++ n) B H v d → PX.below ρ.length d = true → Rep K ρ B H v d
  | _, _, .non, _ => .non
  | _, _, .bl b, _ => .bl b
  | _, _, .int i, _ => .int i
  | _, _, .str t, _ => .str t
  | _, _, .tup h r, f => .tup h (RepL.cut r (by simpa [PX.below] using f))
  | _, _, .lst h r, f => .lst (h.imp (fun q => ⟨q.1, fun z => q.2.1 (List.mem_append_left _ z), q.2.2⟩) id) (RepL.cut r (by simpa [PX.below] using f))
  | _, _, .dic h n1 n2 r, f => .dic h (fun z => n1 (List.mem_append_left _ z)) n2 (RepK.cut r (by simpa [PX.below] using f))
  | _, _, .ref (l := l) h, f => by
    have hl : l < ρ.length := by simpa [PX.below] using f
    exact .ref (by rw [List.getElem?_append_left hl] at h; exact h)
theorem RepL.cut {n : List Addr} : ∀ {vs : List V} {ds : List D}, RepL K (ρ ++ n) B H vs ds → PX.belows ρ.length ds = true → RepL K ρ B H vs ds
  | _, _, .nil, _ => .nil
  | _, _, .cons h r, f => by
    have f' := f
    simp only [PX.belows, Bool.and_eq_true] at f'
    exact .cons (Rep.cut h f'.1) (RepL.cut r f'.2)
theorem RepK.cut {n : List Addr} : ∀ {vs : List (Key × V)} {ds : List (D × D)}, RepK K (ρ ++ n) B H vs ds → PX.belowk ρ.length ds = true → RepK K ρ B H vs ds
  | _, _, .nil, _ => .nil
  | _, _, .cons h r, f => by
    have f' := f
    simp only [PX.belowk, Bool.and_eq_true] at f'
    exact .cons (Rep.cut h f'.1.2) (RepK.cut r f'.2)
end
mutual
theorem Rep.low : ∀ {v : V} {d : D}, Rep K ρ B H v d → PX.below ρ.length d = true
  | _, _, .non => rfl
  | _, _, .bl b => rfl
  | _, _, .int i => rfl
  | _, _, .str t => rfl
  | _, _, .tup h r => by simpa [PX.below] using RepL.low r
  | _, _, .lst h r => by simpa [PX.below] using RepL.low r
  | _, _, .dic h n1 n2 r => by simpa [PX.below] using RepK.low r
  | _, _, .ref h => by simpa [PX.below] using (List.getElem?_eq_some_iff.mp h).1
theorem RepL.low : ∀ {vs : List V} {ds : List D}, RepL K ρ B H vs ds → PX.belows ρ.length ds = true
  | _, _, .nil => rfl
  | _, _, .cons h r => by simp only [PX.belows, Rep.low h, RepL.low r, Bool.and_self]
theorem RepK.low : ∀ {vs : List (Key × V)} {ds : List (D × D)}, RepK K ρ B H vs ds → PX.belowk ρ.length ds = true
  | _, _, .nil => rfl
  | _, _, .cons (k := k) h r => by
    have hk : PX.below ρ.length (keyD k) = true := by cases k <;> rfl
    simp only [PX.belowk, hk, Rep.low h, RepK.low r, Bool.and_self]
end
theorem RepL.length : ∀ {vs : List V} {ds : List D}, RepL K ρ B H vs ds → vs.length = ds.length
  | _, _, .nil => rfl
  | _, _, .cons _ r => by simp [RepL.length r]
theorem RepL.get : ∀ {vs : List V} {ds : List D} {i : Nat} {d : D}, RepL K ρ B H vs ds → ds[i]? = some d → ∃ v, vs[i]? = some v ∧ Rep K ρ B H v d
  | _, _, _, _, .nil, h => by simp at h
  | _, _, 0, d, .cons h r, e => by
    simp at e; subst e
    exact ⟨_, rfl, h⟩
  | _, _, i + 1, d, .cons h r, e => by
    obtain ⟨v, h1, h2⟩ := RepL.get (i := i) (d := d) r (by simpa using e)
    exact ⟨v, by simpa using h1, h2⟩
theorem RepL.getV : ∀ {vs : List V} {ds : List D} {i : Nat} {v : V}, RepL K ρ B H vs ds → vs[i]? = some v → ∃ d, ds[i]? = some d ∧ Rep K ρ B H v d
  | _, _, _, _, .nil, h => by simp at h
  | _, _, 0, d, .cons h r, e => by
    simp at e; subst e
    exact ⟨_, rfl, h⟩
  | _, _, i + 1, d, .cons h r, e => by
    obtain ⟨v, h1, h2⟩ := RepL.getV (i := i) (v := d) r (by simpa using e)
    exact ⟨v, by simpa using h1, h2⟩
theorem RepL.append : ∀ {vs ws : List V} {ds es : List D}, RepL K ρ B H vs ds → RepL K ρ B H ws es → RepL K ρ B H (vs ++ ws) (ds ++ es)
  | _, _, _, _, .nil, s => s
  | _, _, _, _, .cons h r, s => .cons h (RepL.append r s)
theorem RepL.take : ∀ {vs : List V} {ds : List D} (n : Nat), RepL K ρ B H vs ds → RepL K ρ B H (vs.take n) (ds.take n)
  | _, _, 0, _ => .nil
  | _, _, _ + 1, .nil => .nil
  | _, _, n + 1, .cons h r => .cons h (RepL.take n r)
theorem RepL.drop : ∀ {vs : List V} {ds : List D} (n : Nat), RepL K ρ B H vs ds → RepL K ρ B H (vs.drop n) (ds.drop n)
  | _, _, 0, r => r
  | _, _, _ + 1, .nil => .nil
  | _, _, n + 1, .cons h r => RepL.drop n r
theorem RepL.reverse : ∀ {vs : List V} {ds : List D}, RepL K ρ B H vs ds → RepL K ρ B H vs.reverse ds.reverse
  | _, _, .nil => .nil
  | _, _, .cons h r => by
    rw [List.reverse_cons, List.reverse_cons]
    exact (RepL.reverse r).append (.cons h .nil)
theorem RepL.set : ∀ {vs : List V} {ds : List D} {v : V} {d : D} (i : Nat), Rep K ρ B H v d → RepL K ρ B H vs ds → RepL K ρ B H (vs.set i v) (ds.set i d)
  | _, _, _, _, _, _, .nil => .nil
  | _, _, _, _, 0, h, .cons _ r => .cons h r
  | _, _, _, _, i + 1, h, .cons q r => .cons q (RepL.set i h r)

/-! ### the places -/
def ObjR (K : Fg) (ρ B : List Addr) (H : Hp) (a : Addr) : PO → Prop
  | .lst xs => ∃ vs, H a = some (.lst vs) ∧ RepL K ρ B H vs xs
  | .dic ds => ∃ kvs, H a = some (.dK kvs) ∧ RepK K ρ B H kvs ds
  | .dead => ∃ xs, H a = some (.lst xs)
structure HeapOk (K : Fg) (ρ B : List Addr) (H : Hp) (g : G) : Prop where
  len : ρ.length = g.length
  nd : ρ.Nodup
  no : ∀ a ∈ ρ, a ∉ B
  obj : ∀ (l : Nat) a o, ρ[l]? = some a → g[l]? = some o → ObjR K ρ B H a o
  tr : ∀ b ∈ B, ∃ o, H b = some o
theorem ObjR.mut {a : Addr} {o : PO} (h : ObjR K ρ B H a o) : (∃ vs, H a = some (.lst vs)) ∨ ∃ kvs, H a = some (.dK kvs) := by
  cases o with
  | lst xs => obtain ⟨vs, h, _⟩ := h; exact .inl ⟨vs, h⟩
  | dic xs => obtain ⟨vs, h, _⟩ := h; exact .inr ⟨vs, h⟩
  | dead => obtain ⟨vs, h⟩ := h; exact .inl ⟨vs, h⟩
theorem HeapOk.mut {g : G} (h : HeapOk K ρ B H g) {a : Addr} (ha : a ∈ ρ) : (∃ vs, H a = some (.lst vs)) ∨ ∃ kvs, H a = some (.dK kvs) := by
  obtain ⟨l, hl, e⟩ := List.getElem_of_mem ha
  have h1 : ρ[l]? = some a := by rw [← e]; exact List.getElem?_eq_getElem hl
  have h2 : l < g.length := by rw [← h.len]; exact hl
  exact (h.obj l a _ h1 (List.getElem?_eq_getElem h2)).mut
theorem HeapOk.there {g : G} (h : HeapOk K ρ B H g) {a : Addr} (ha : a ∈ ρ) : ∃ o, H a = some o := by
  rcases h.mut ha with ⟨_, q⟩ | ⟨_, q⟩ <;> exact ⟨_, q⟩
/-- a new tracked object beside: the places stand -/
theorem HeapOk.laid {g : G} (h : HeapOk K ρ B H g) {p : Addr} {o : HO} (hp : H p = none) : HeapOk K ρ B (upd H p o) g := by
  have e : Ext ρ H ρ (upd H p o) := Ext.laid hp
  have ne : ∀ {a u}, H a = some u → a ≠ p := fun {a u} q z => by rw [z, hp] at q; cases q
  refine ⟨h.len, h.nd, h.no, fun l a u h1 h2 => ?_, fun b hb => ?_⟩
  · have q := h.obj l a u h1 h2
    cases u with
    | lst xs => obtain ⟨vs, k, r⟩ := q; exact ⟨vs, by rw [upd_ne (ne k)]; exact k, r.ext e⟩
    | dic xs => obtain ⟨vs, k, r⟩ := q; exact ⟨vs, by rw [upd_ne (ne k)]; exact k, r.ext e⟩
    | dead => obtain ⟨vs, k⟩ := q; exact ⟨vs, by rw [upd_ne (ne k)]; exact k⟩
  · obtain ⟨o, k⟩ := h.tr b hb
    exact ⟨o, by rw [upd_ne (ne k)]; exact k⟩
/-- other forbidden addresses -/
theorem HeapOk.forbid {g : G} (h : HeapOk K ρ B H g) (h1 : ∀ a, (∃ o, H a = some o) → a ∉ B → a ∉ B') (h2 : ∀ b ∈ B', ∃ o, H b = some o) : HeapOk K ρ B' H g := by
  refine ⟨h.len, h.nd, fun a ha => h1 a (h.there ha) (h.no a ha), fun l a o k1 k2 => ?_, h2⟩
  have q := h.obj l a o k1 k2
  cases o with
  | lst xs => obtain ⟨vs, k, r⟩ := q; exact ⟨vs, k, r.mono Ext.refl h1⟩
  | dic xs => obtain ⟨vs, k, r⟩ := q; exact ⟨vs, k, r.mono Ext.refl h1⟩
  | dead => exact q
end

section
variable {ρ ρ' B B' : List Addr} {H H' : Hp} {K : Fg}
theorem ObjR.ext (e : Ext ρ H ρ' H') {a : Addr} (hn : a ∉ ρ) {o : PO} (h : ObjR K ρ B H a o) : ObjR K ρ' B H' a o := by
  cases o with
  | lst xs => obtain ⟨vs, k, r⟩ := h; exact ⟨vs, e.keep _ _ k hn, r.ext e⟩
  | dic xs => obtain ⟨vs, k, r⟩ := h; exact ⟨vs, e.keep _ _ k hn, r.ext e⟩
  | dead => obtain ⟨vs, k⟩ := h; exact ⟨vs, e.keep _ _ k hn⟩
theorem ObjR.mono (hB : ∀ a, (∃ o, H a = some o) → a ∉ B → a ∉ B') {a : Addr} {o : PO} (h : ObjR K ρ B H a o) : ObjR K ρ B' H a o := by
  cases o with
  | lst xs => obtain ⟨vs, k, r⟩ := h; exact ⟨vs, k, r.mono Ext.refl hB⟩
  | dic xs => obtain ⟨vs, k, r⟩ := h; exact ⟨vs, k, r.mono Ext.refl hB⟩
  | dead => exact h
theorem ObjR.there {a : Addr} {o : PO} (h : ObjR K ρ B H a o) : ∃ u, H a = some u := by
  rcases h.mut with ⟨_, q⟩ | ⟨_, q⟩ <;> exact ⟨_, q⟩
end

/-- a container is read: through a frozen value, a place, or a slot of its own -/
inductive View (K : Fg) (ρ B : List Addr) (H : Hp) : V → D → Prop
  | rep {v : V} {d : D} : Rep K ρ B H v d → (∀ l, d ≠ .ref l) → View K ρ B H v d
  | lst {a : Addr} {vs : List V} {ds : List D} : SqL K H a vs → RepL K ρ B H vs ds → View K ρ B H (.ref a) (.lst ds)
  | dic {a : Addr} {kvs : List (Key × V)} {ds : List (D × D)} : Rd H a (.dK kvs) → RepK K ρ B H kvs ds → View K ρ B H (.ref a) (.dic ds)
theorem ObjR.view {ρ B : List Addr} {H : Hp} {K : Fg} {a : Addr} {d : D} (hc : isCont d = true) (h : ObjR K ρ B H a (toPO d)) : View K ρ B H (.ref a) d := by
  cases d with
  | lst xs => obtain ⟨vs, k, r⟩ := h; exact .lst (.inl (.inl k)) r
  | dic xs => obtain ⟨vs, k, r⟩ := h; exact .dic (.inl k) r
  | _ => simp [isCont] at hc

/-- slots and places together -/
structure Sim (K : Fg) (ρ B : List Addr) (H : Hp) (g : G) (s : Sl) (σ : L2.St) : Prop where
  heap : HeapOk K ρ B H g
  len : s.length = σ.length
  val : ∀ (i : Nat) d, s[i]? = some (.val d) → ∃ v, σ[i]? = some (some v) ∧ Rep K ρ B H v d
  own : ∀ (i : Nat) d, s[i]? = some (.own d) → ∃ a, σ[i]? = some (some (.ref a)) ∧ a ∈ B ∧ isCont d = true ∧ ObjR K ρ B H a (toPO d)
  apart : ∀ (i j : Nat) d e a, s[i]? = some (.own d) → s[j]? = some (.own e) → σ[i]? = some (some (.ref a)) → σ[j]? = some (some (.ref a)) → i = j
end PX
end
section
set_option Elab.async false
set_option linter.all false
set_option maxRecDepth 100000
set_option autoImplicit false
set_option maxHeartbeats 1000000
/-! PXd: judgements: what an expression of the text gives, told by the interpreter. -/
namespace PX
open PySem L2 PySem.Spec PyProof.Rows

/-- the program's static side: names of its defs, constants, error classes; the fields of these -/
structure Cfg where
  pr : Pr
  fn : List Str
  cn : List Str
  cl : List Str
  flds : List (List Str)

theorem _root_.L2.PE.impX {X : Cx} {e : Expr} {t t' : TE} (h : PE X e t) (i : ∀ σ H Q, t' σ H Q → t σ H Q) : PE X e t' :=
  ⟨fun pins s σ H Q I q => h.run pins s σ H Q I (i σ H Q q)⟩
theorem _root_.L2.PT.impX {X : Cx} {e : Expr} {t t' : TT} (h : PT X e t) (i : ∀ σ H Q, t' σ H Q → t σ H Q) : PT X e t' :=
  ⟨fun pins s σ H Q I q => h.run pins s σ H Q I (i σ H Q q)⟩
theorem _root_.L2.PW.impX {X : Cx} {e : Expr} {t t' : TT} (h : PW X e t) (i : ∀ σ H Q, t' σ H Q → t σ H Q) : PW X e t' :=
  ⟨fun wh pins s σ H Q I q => h.run wh pins s σ H Q I (i σ H Q q)⟩
theorem _root_.L2.PA.impX {X : Cx} {e : List Expr} {t t' : TA} (h : PA X e t) (i : ∀ σ H Q, t' σ H Q → t σ H Q) : PA X e t' :=
  ⟨fun p pins s σ H Q I q => h.run p pins s σ H Q I (i σ H Q q)⟩
theorem _root_.L2.PS.impX {X : Cx} {e : Stmt} {t t' : TS} (h : PS X e t) (i : ∀ D σ H, t' D σ H → t D σ H) : PS X e t' :=
  ⟨fun pins s σ H D I q => h.run pins s σ H D I (i D σ H q)⟩
theorem _root_.L2.PSs.impX {X : Cx} {e : List Stmt} {t t' : TS} (h : PSs X e t) (i : ∀ D σ H, t' D σ H → t D σ H) : PSs X e t' :=
  ⟨fun pins s σ H D I q => h.run pins s σ H D I (i D σ H q)⟩

section
variable {K : Fg} {ρ ρ' B B' : List Addr} {H H' : Hp} {g g' : G} {s : Sl} {σ : L2.St}

/-- the slots stand over a change of the heap -/
theorem Sim.after (S : Sim K ρ B H g s σ) (e : Ext ρ H ρ' H') (h : HeapOk K ρ' B H' g') : Sim K ρ' B H' g' s σ := by
  refine ⟨h, S.len, fun i d q => ?_, fun i d q => ?_, S.apart⟩
  · obtain ⟨v, h1, h2⟩ := S.val i d q
    exact ⟨v, h1, h2.ext e⟩
  · obtain ⟨a, h1, h2, h3, h4⟩ := S.own i d q
    exact ⟨a, h1, h2, h3, h4.ext e fun z => S.heap.no a z h2⟩
theorem Sim.laid (S : Sim K ρ B H g s σ) {p : Addr} {o : HO} (hp : H p = none) : Sim K ρ B (upd H p o) g s σ := S.after (Ext.laid hp) (S.heap.laid hp)
theorem Sim.free (S : Sim K ρ B H g s σ) {p : Addr} (hp : H p = none) : p ∉ ρ ∧ p ∉ B := by
  refine ⟨fun z => ?_, fun z => ?_⟩
  · obtain ⟨o, q⟩ := S.heap.there z
    rw [hp] at q; cases q
  · obtain ⟨o, q⟩ := S.heap.tr p z
    rw [hp] at q; cases q
/-- a new object is laid, and forbidden to all values that stand -/
theorem Sim.laidF (S : Sim K ρ B H g s σ) {p : Addr} {o : HO} (hp : H p = none) : Sim K ρ (p :: B) (upd H p o) g s σ := by
  have e : Ext ρ H ρ (upd H p o) := Ext.laid hp
  have ne : ∀ {a u}, H a = some u → a ≠ p := fun {a u} q z => by rw [z, hp] at q; cases q
  have hB : ∀ a, (∃ o, H a = some o) → a ∉ B → a ∉ p :: B := fun a ⟨u, q⟩ n z => by
    rcases List.mem_cons.mp z with z | z
    · exact ne q z
    · exact n z
  have hh : HeapOk K ρ (p :: B) (upd H p o) g := by
    refine ⟨S.heap.len, S.heap.nd, fun a ha => hB a (S.heap.there ha) (S.heap.no a ha), fun l a u h1 h2 => ?_, fun b hb => ?_⟩
    · have q := S.heap.obj l a u h1 h2
      cases u with
      | lst xs => obtain ⟨vs, k, r⟩ := q; exact ⟨vs, by rw [upd_ne (ne k)]; exact k, r.mono e hB⟩
      | dic xs => obtain ⟨vs, k, r⟩ := q; exact ⟨vs, by rw [upd_ne (ne k)]; exact k, r.mono e hB⟩
      | dead => obtain ⟨vs, k⟩ := q; exact ⟨vs, by rw [upd_ne (ne k)]; exact k⟩
    · rcases List.mem_cons.mp hb with z | z
      · exact ⟨o, by rw [z, upd_same]⟩
      · obtain ⟨u, k⟩ := S.heap.tr b z
        exact ⟨u, by rw [upd_ne (ne k)]; exact k⟩
  refine ⟨hh, S.len, fun i d q => ?_, fun i d q => ?_, S.apart⟩
  · obtain ⟨v, h1, h2⟩ := S.val i d q
    exact ⟨v, h1, h2.mono e hB⟩
  · obtain ⟨a, h1, h2, h3, h4⟩ := S.own i d q
    exact ⟨a, h1, List.mem_cons_of_mem _ h2, h3, (h4.mono hB).ext e fun z => S.heap.no a z h2⟩
/-- fewer forbidden addresses -/
theorem Sim.less (S : Sim K ρ B H g s σ) (hs : ∀ b ∈ B', b ∈ B) (ho : ∀ (i : Nat) d a, s[i]? = some (.own d) → σ[i]? = some (some (.ref a)) → a ∈ B') : Sim K ρ B' H g s σ := by
  have hB : ∀ a, (∃ o, H a = some o) → a ∉ B → a ∉ B' := fun a _ n z => n (hs a z)
  refine ⟨S.heap.forbid hB fun b hb => S.heap.tr b (hs b hb), S.len, fun i d q => ?_, fun i d q => ?_, S.apart⟩
  · obtain ⟨v, h1, h2⟩ := S.val i d q
    exact ⟨v, h1, h2.mono Ext.refl hB⟩
  · obtain ⟨a, h1, h2, h3, h4⟩ := S.own i d q
    exact ⟨a, h1, ho i d a q h1, h3, h4.mono hB⟩

/-- a value as an expression hands it on: a tree, or a container that is lent by its slot -/
inductive Raw (K : Fg) (ρ B : List Addr) (H : Hp) : V → D → Prop
  | rep {v : V} {d : D} : Rep K ρ B H v d → Raw K ρ B H v d
  | own {a : Addr} {d : D} : a ∈ B → isCont d = true → ObjR K ρ B H a (toPO d) → Raw K ρ B H (.ref a) d
theorem Raw.ext (hh : HeapOk K ρ B H g) (e : Ext ρ H ρ' H') {v : V} {d : D} (h : Raw K ρ B H v d) : Raw K ρ' B H' v d := by
  cases h with
  | rep r => exact .rep (r.ext e)
  | own h1 h2 h3 => exact .own h1 h2 (h3.ext e fun z => hh.no _ z h1)
theorem deref_ref {l : Nat} {d : D} (h : deref g (.ref l) = some d) : (∃ xs, g[l]? = some (.lst xs) ∧ d = .lst xs) ∨ ∃ kvs, g[l]? = some (.dic kvs) ∧ d = .dic kvs := by
  have h' : (match g[l]? with
    | some (.lst xs) => some (D.lst xs)
    | some (.dic kvs) => some (D.dic kvs)
    | _ => none) = some d := h
  cases q : g[l]? with
  | none => rw [q] at h'; cases h'
  | some o =>
    rw [q] at h'
    cases o with
    | lst xs => exact .inl ⟨xs, rfl, (Option.some.inj h').symm⟩
    | dic xs => exact .inr ⟨xs, rfl, (Option.some.inj h').symm⟩
    | dead => cases h'
theorem deref_no {d : D} (h : ∀ l, d ≠ .ref l) : deref g d = some d := by
  cases d <;> first | rfl | exact absurd rfl (h _)
/-- a container read through its place -/
theorem Raw.view (hh : HeapOk K ρ B H g) {v : V} {d e : D} (h : Raw K ρ B H v d) (hd : deref g d = some e) : View K ρ B H v e := by
  cases h with
  | rep r =>
    cases r with
    | ref q =>
      rename_i l
      rcases deref_ref hd with ⟨xs, h1, rfl⟩ | ⟨kvs, h1, rfl⟩
      · obtain ⟨vs, k, r⟩ := hh.obj _ _ _ q h1
        exact .lst (.inl (.inl k)) r
      · obtain ⟨vs, k, r⟩ := hh.obj _ _ _ q h1
        exact .dic (.inl k) r
    | non => rw [deref_no (by simp)] at hd; cases hd; exact .rep .non (by simp)
    | bl b => rw [deref_no (by simp)] at hd; cases hd; exact .rep (.bl b) (by simp)
    | int i => rw [deref_no (by simp)] at hd; cases hd; exact .rep (.int i) (by simp)
    | str t => rw [deref_no (by simp)] at hd; cases hd; exact .rep (.str t) (by simp)
    | tup h r => rw [deref_no (by simp)] at hd; cases hd; exact .rep (.tup h r) (by simp)
    | lst h r => rw [deref_no (by simp)] at hd; cases hd; exact .lst h.sq r
    | dic h n1 n2 r => rw [deref_no (by simp)] at hd; cases hd; exact .dic h r
  | own h1 h2 h3 =>
    cases d with
    | lst xs => cases hd; exact h3.view h2
    | dic xs => cases hd; exact h3.view h2
    | _ => simp [isCont] at h2

theorem View.int {v : V} {i : Int} (h : View K ρ B H v (.int i)) : v = .int i := by
  cases h with
  | rep r n => cases r; rfl
theorem View.bl {v : V} {b : Bool} (h : View K ρ B H v (.bl b)) : v = .bl b := by
  cases h with
  | rep r n => cases r; rfl
theorem View.str {v : V} {t : Txt} (h : View K ρ B H v (.str t)) : v = .str (mkS t) := by
  cases h with
  | rep r n => cases r; rfl
theorem View.non {v : V} (h : View K ρ B H v .non) : v = .non := by
  cases h with
  | rep r n => cases r; rfl
theorem View.tup {v : V} {ds : List D} (h : View K ρ B H v (.tup ds)) : ∃ a vs, v = .ref a ∧ SqT K H a vs ∧ RepL K ρ B H vs ds := by
  cases h with
  | rep r n => cases r with
    | tup h r => exact ⟨_, _, rfl, h, r⟩
theorem View.list {v : V} {ds : List D} (h : View K ρ B H v (.lst ds)) : ∃ a vs, v = .ref a ∧ SqL K H a vs ∧ RepL K ρ B H vs ds := by
  cases h with
  | rep r n => cases r with
    | lst h r => exact ⟨_, _, rfl, h.sq, r⟩
  | lst h r => exact ⟨_, _, rfl, h, r⟩
theorem View.dict {v : V} {ds : List (D × D)} (h : View K ρ B H v (.dic ds)) : ∃ a kvs, v = .ref a ∧ Rd H a (.dK kvs) ∧ RepK K ρ B H kvs ds := by
  cases h with
  | rep r n => cases r with
    | dic h _ _ r => exact ⟨_, _, rfl, h, r⟩
  | dic h r => exact ⟨_, _, rfl, h, r⟩
theorem View.noref {v : V} {l : Nat} (h : View K ρ B H v (.ref l)) : False := by
  cases h with
  | rep r n => exact n l rfl
end

/-! ### outcomes -/
/-- an exception of the program as it lies in the air: its class, its own dict -/
def XRep (C : Cfg) (ca : Nat → Addr) (K : Fg) (x : Ex) (cls : Value) (dx : Option Addr) (H : Hp) : Prop :=
  cls = .ref (ca x.c) ∧ x.c < C.cl.length ∧ flats x.args = true ∧ ∃ d vs, dx = some d ∧ H d = some (.xd ((C.flds.getD x.c []).zip vs)) ∧ RepL K [] [] H vs x.args

/-- what stands fixed -/
structure Fix where
  C : Cfg
  ca : Nat → Addr
  K : Fg
  W : WX

section
variable (F : Fix)
/-- behind an evaluation that gives r from ρ, H -/
def Out {α β : Type} (R' : List Addr → Hp → β → α → Prop) (σ : L2.St) (s : Sl) (B ρ : List Addr) (H : Hp) (r : R α) (Q : β → Hp → Prop) : Prop :=
  match r with
  | .ok d g => ∀ v H' ρ', Ext ρ H ρ' H' → Sim F.K ρ' B H' g s σ → R' ρ' H' v d → Q v H'
  | .exc x g => ∀ cls dx H' ρ', Ext ρ H ρ' H' → Sim F.K ρ' B H' g s σ → XRep F.C F.ca F.K x cls dx H' → F.W cls dx σ H'
  | .bad => False
/-- an evaluation's reading -/
def tI {α β : Type} (R' : List Addr → List Addr → Hp → β → α → Prop) (f : Sl → G → R α) : L2.St → Hp → (β → Hp → Prop) → Prop := fun σ H Q =>
  ∃ ρ B s g, Sim F.K ρ B H g s σ ∧ Out F (R' B) σ s B ρ H (f s g) Q
abbrev rRep (K : Fg) : List Addr → List Addr → Hp → V → D → Prop := fun B ρ H v d => Rep K ρ B H v d
abbrev rRaw (K : Fg) : List Addr → List Addr → Hp → V → D → Prop := fun B ρ H v d => Raw K ρ B H v d
abbrev rRepL (K : Fg) : List Addr → List Addr → Hp → List V → List D → Prop := fun B ρ H v d => RepL K ρ B H v d
abbrev rBool : List Addr → List Addr → Hp → Bool → D → Prop := fun _ _ _ b d => d = .bl b
abbrev tE (f : Sl → G → R D) : TE := tI F (rRep F.K) f
abbrev tR (f : Sl → G → R D) : TE := tI F (rRaw F.K) f
abbrev tT (f : Sl → G → R D) : TT := tI F rBool f
/-- behind an evaluation that gives a new container that nothing leans on -/
def OutF (σ : L2.St) (s : Sl) (B ρ : List Addr) (H : Hp) (r : R D) (Q : VK) : Prop :=
  match r with
  | .ok d g' => isCont d = true → ∀ a H' ρ', Ext ρ H ρ' H' → a ∉ B → H a = none → Sim F.K ρ' (a :: B) H' g' s σ → ObjR F.K ρ' (a :: B) H' a (toPO d) → Q (.ref a) H'
  | .exc x g' => ∀ cls dx H' ρ', Ext ρ H ρ' H' → Sim F.K ρ' B H' g' s σ → XRep F.C F.ca F.K x cls dx H' → F.W cls dx σ H'
  | .bad => False
def tF (f : Sl → G → R D) : TE := fun σ H Q => ∃ ρ B s g, Sim F.K ρ B H g s σ ∧ OutF F σ s B ρ H (f s g) Q
end

section
variable {F : Fix} {α β γ δ : Type} {R1 : List Addr → Hp → β → α → Prop} {R2 : List Addr → Hp → δ → γ → Prop} {σ : L2.St} {s : Sl} {B ρ : List Addr} {H : Hp} {r : R α} {k : α → G → R γ} {Q : δ → Hp → Prop} {Q' : β → Hp → Prop}
/-- a step, then the rest -/
theorem Out.seq (h : Out F R2 σ s B ρ H (r.bind k) Q)
    (hk : ∀ a g v H1 ρ1, r = .ok a g → Ext ρ H ρ1 H1 → Sim F.K ρ1 B H1 g s σ → R1 ρ1 H1 v a → Out F R2 σ s B ρ1 H1 (k a g) Q → Q' v H1) : Out F R1 σ s B ρ H r Q' := by
  cases r with
  | ok a g =>
    intro v H1 ρ1 e S q
    refine hk a g v H1 ρ1 rfl e S q ?_
    have h' : Out F R2 σ s B ρ H (k a g) Q := h
    cases z : k a g with
    | ok c g2 =>
      rw [z] at h'
      exact fun w H2 ρ2 e2 S2 q2 => h' w H2 ρ2 (e.trans e2) S2 q2
    | exc x g2 =>
      rw [z] at h'
      exact fun cls dx H2 ρ2 e2 S2 q2 => h' cls dx H2 ρ2 (e.trans e2) S2 q2
    | bad => rw [z] at h'; exact h'
  | exc x g => exact h
  | bad => exact h
theorem OutF.seq {r : R α} {k : α → G → R D} {Q : VK} (h : OutF F σ s B ρ H (r.bind k) Q)
    (hk : ∀ a g v H1 ρ1, r = .ok a g → Ext ρ H ρ1 H1 → Sim F.K ρ1 B H1 g s σ → R1 ρ1 H1 v a → OutF F σ s B ρ1 H1 (k a g) Q → Q' v H1) : Out F R1 σ s B ρ H r Q' := by
  cases r with
  | ok a g =>
    intro v H1 ρ1 e S q
    refine hk a g v H1 ρ1 rfl e S q ?_
    have h' : OutF F σ s B ρ H (k a g) Q := h
    cases z : k a g with
    | ok c g2 =>
      rw [z] at h'
      exact fun hc b H2 ρ2 e2 n f S2 q2 => h' hc b H2 ρ2 (e.trans e2) n (e.free f) S2 q2
    | exc x g2 =>
      rw [z] at h'
      exact fun cls dx H2 ρ2 e2 S2 q2 => h' cls dx H2 ρ2 (e.trans e2) S2 q2
    | bad => rw [z] at h'; exact h'
  | exc x g => exact h
  | bad => exact h
/-- the rest's outcome, from further on -/
theorem Out.later {r : R γ} {ρ1 : List Addr} {H1 : Hp} (e : Ext ρ H ρ1 H1) (h : Out F R2 σ s B ρ H r Q) : Out F R2 σ s B ρ1 H1 r Q := by
  cases r with
  | ok c g2 => exact fun w H2 ρ2 e2 S2 q2 => h w H2 ρ2 (e.trans e2) S2 q2
  | exc x g2 => exact fun cls dx H2 ρ2 e2 S2 q2 => h cls dx H2 ρ2 (e.trans e2) S2 q2
  | bad => exact h
/-- done -/
theorem Out.done {d : γ} {g : G} (S : Sim F.K ρ B H g s σ) {v : δ} (q : R2 ρ H v d) (h : Out F R2 σ s B ρ H (.ok d g) Q) : Q v H := h v H ρ Ext.refl S q
theorem Out.ofO {o : Option γ} {g : G} (h : Out F R2 σ s B ρ H (R.ofO g o) Q) : ∃ d, o = some d ∧ Out F R2 σ s B ρ H (.ok d g) Q := by
  cases o with
  | none => exact h.elim
  | some d => exact ⟨d, rfl, h⟩
end
section
variable {F : Fix} {σ : L2.St} {s : Sl} {B ρ : List Addr} {H : Hp} {g : G} {Q : VK}
/-- a new list, a new tuple, a new dict -/
theorem Out.newL {ds : List D} {vs : List V} {p : Addr} (S : Sim F.K ρ B H g s σ) (h : Out F (rRep F.K B) σ s B ρ H (.ok (.lst ds) g) Q) (r : RepL F.K ρ B H vs ds) (hp : H p = none) : Q (.ref p) (upd H p (.lst vs)) := by
  have e : Ext ρ H ρ (upd H p (.lst vs)) := Ext.laid hp
  exact h _ _ ρ e (S.laid hp) (.lst (.inl ⟨.inl upd_same, S.free hp⟩) (r.ext e))
theorem Out.newT {ds : List D} {vs : List V} {p : Addr} (S : Sim F.K ρ B H g s σ) (h : Out F (rRep F.K B) σ s B ρ H (.ok (.tup ds) g) Q) (r : RepL F.K ρ B H vs ds) (hp : H p = none) : Q (.ref p) (upd H p (.tup vs)) := by
  have e : Ext ρ H ρ (upd H p (.tup vs)) := Ext.laid hp
  exact h _ _ ρ e (S.laid hp) (.tup (.inl (.inl upd_same)) (r.ext e))
theorem RepL.laidF {K : Fg} {ds : List D} {vs : List V} {p : Addr} {o : HO} (r : RepL K ρ B H vs ds) (hp : H p = none) : RepL K ρ (p :: B) (upd H p o) vs ds :=
  r.mono (Ext.laid hp) fun a ⟨o, q⟩ n z => by
    rcases List.mem_cons.mp z with z | z
    · rw [z, hp] at q; cases q
    · exact n z
theorem RepK.laidF {K : Fg} {ds : List (D × D)} {vs : List (Key × V)} {p : Addr} {o : HO} (r : RepK K ρ B H vs ds) (hp : H p = none) : RepK K ρ (p :: B) (upd H p o) vs ds :=
  r.mono (Ext.laid hp) fun a ⟨o, q⟩ n z => by
    rcases List.mem_cons.mp z with z | z
    · rw [z, hp] at q; cases q
    · exact n z
theorem OutF.newL {ds : List D} {vs : List V} {p : Addr} (S : Sim F.K ρ B H g s σ) (h : OutF F σ s B ρ H (.ok (.lst ds) g) Q) (r : RepL F.K ρ B H vs ds) (hp : H p = none) : Q (.ref p) (upd H p (.lst vs)) :=
  h rfl p _ ρ (Ext.laid hp) (S.free hp).2 hp (S.laidF hp) ⟨vs, upd_same, r.laidF hp⟩
theorem OutF.newD {ds : List (D × D)} {vs : List (Key × V)} {p : Addr} (S : Sim F.K ρ B H g s σ) (h : OutF F σ s B ρ H (.ok (.dic ds) g) Q) (r : RepK F.K ρ B H vs ds) (hp : H p = none) : Q (.ref p) (upd H p (.dK vs)) :=
  h rfl p _ ρ (Ext.laid hp) (S.free hp).2 hp (S.laidF hp) ⟨vs, upd_same, r.laidF hp⟩
theorem OutF.ofO {o : Option D} {g : G} (h : OutF F σ s B ρ H (R.ofO g o) Q) : ∃ d, o = some d ∧ OutF F σ s B ρ H (.ok d g) Q := by
  cases o with
  | none => exact h.elim
  | some d => exact ⟨d, rfl, h⟩
theorem tF.toE {f : Sl → G → R D} (hc : ∀ s g d g', f s g = .ok d g' → isCont d = true) {Q : VK} (h : tE F f σ H Q) : tF F f σ H Q := by
  obtain ⟨ρ, B, s, g, S, h⟩ := h
  refine ⟨ρ, B, s, g, S, ?_⟩
  unfold OutF
  cases z : f s g with
  | ok d g' =>
    rw [z] at h
    intro hd a H' ρ' e n f' S' v
    have hn : a ∉ ρ' := fun q => S'.heap.no a q List.mem_cons_self
    have S2 : Sim F.K ρ' B H' g' s σ := S'.less (fun b hb => List.mem_cons_of_mem _ hb) fun i d b q1 q2 => by
      obtain ⟨a', h1, h2, _⟩ := S.own i d q1
      rw [q2] at h1
      cases h1
      exact h2
    refine h _ _ _ e S2 ?_
    have hB : ∀ b, (∃ o, H' b = some o) → b ∉ a :: B → b ∉ B := fun b _ q z => q (List.mem_cons_of_mem _ z)
    cases d with
    | lst ds =>
      obtain ⟨vs, h1, h2⟩ := v
      exact .lst (.inl ⟨.inl h1, hn, n⟩) (h2.mono Ext.refl hB)
    | dic ds =>
      obtain ⟨vs, h1, h2⟩ := v
      exact .dic (.inl h1) hn n (h2.mono Ext.refl hB)
    | _ => simp [isCont] at hd
  | exc x g' => rw [z] at h; exact h
  | bad => rw [z] at h; exact h.elim
end
end PX
end
section
set_option Elab.async false
set_option linter.all false
set_option maxRecDepth 100000
set_option autoImplicit false
set_option maxHeartbeats 1000000
/-! PXe: expressions, construct by construct. -/
namespace PX
open PySem L2 PySem.Spec PyProof.Rows
abbrev fx (C : Cfg) (ca : Nat → Addr) (X : Cx) (W : WX) : Fix := ⟨C, ca, X.K, W⟩

/-! ### data of the library -/
section
variable {K : Fg} {ρ B : List Addr} {H : Hp}
mutual
theorem Rep.dp : ∀ {v : V} {d : D}, Rep K ρ B H v d → plain d = true → Dp K H v (toPy d)
  | _, _, .non, _ => by rw [toPy]; exact .non
  | _, _, .bl b, _ => by rw [toPy]; exact .bl b
  | _, _, .int i, _ => by rw [toPy]; exact .int i
  | _, _, .str t, _ => by rw [toPy]; exact .str _
  | _, _, .tup h r, p => by
    rw [toPy]
    exact .tup h (RepL.dp r (by simpa [plain] using p))
  | _, _, .lst h r, p => by
    rw [toPy]
    exact .lst h.sq (RepL.dp r (by simpa [plain] using p))
  | _, _, .dic _ _ _ _, p => by simp [plain] at p
  | _, _, .ref _, p => by simp [plain] at p
theorem RepL.dp : ∀ {vs : List V} {ds : List D}, RepL K ρ B H vs ds → plains ds = true → DpAll K H vs (toPys ds)
  | _, _, .nil, _ => by rw [toPys]; exact .nil
  | _, _, .cons h r, p => by
    simp only [plains, Bool.and_eq_true] at p
    rw [toPys]
    exact .cons (Rep.dp h p.1) (RepL.dp r p.2)
end
theorem View.dp {v : V} {d : D} (h : View K ρ B H v d) (p : plain d = true) : Dp K H v (toPy d) := by
  cases h with
  | rep r _ => exact r.dp p
  | lst h r =>
    rw [toPy]
    exact .lst h (r.dp (by simpa [plain] using p))
  | dic h r => simp [plain] at p
end
mutual
theorem lay_of : ∀ d : D, plain d = true → PyData.canLay0 (toPy d) = true
  | .non, _ => by simp [toPy, PyData.canLay0]
  | .bl _, _ => by simp [toPy, PyData.canLay0]
  | .int _, _ => by simp [toPy, PyData.canLay0]
  | .str t, p => by
    have p' : (t.all fun c => decide (c < 1114112)) = true := by simpa [plain] using p
    simp only [toPy, PyData.canLay0, PyData.strOk]
    rw [← p', ← Array.all_toList]
  | .tup xs, p => by
    simp only [toPy, PyData.canLay0]
    exact lays_of xs (by simpa [plain] using p)
  | .lst xs, p => by
    simp only [toPy, PyData.canLay0]
    exact lays_of xs (by simpa [plain] using p)
  | .dic _, p => by simp [plain] at p
  | .ref _, p => by simp [plain] at p
theorem lays_of : ∀ ds : List D, plains ds = true → PyData.canLayAll0 (toPys ds) = true
  | [], _ => by simp [toPys, PyData.canLayAll0]
  | d :: ds, p => by
    simp only [plains, Bool.and_eq_true] at p
    simp only [toPys, PyData.canLayAll0, lay_of d p.1, lays_of ds p.2, Bool.and_self]
end
mutual
theorem depth_of : ∀ d : D, PyData.depth (toPy d) = depth d
  | .non => by simp [toPy, PyData.depth, depth]
  | .bl _ => by simp [toPy, PyData.depth, depth]
  | .int _ => by simp [toPy, PyData.depth, depth]
  | .str t => by simp [toPy, PyData.depth, depth]
  | .dic _ => by simp [toPy, PyData.depth, depth]
  | .ref _ => by simp [toPy, PyData.depth, depth]
  | .tup xs => by simp only [toPy, PyData.depth, depth, depths_of xs]
  | .lst xs => by simp only [toPy, PyData.depth, depth, depths_of xs]
theorem depths_of : ∀ ds : List D, PyData.depthAll (toPys ds) = depths ds
  | [] => by simp [toPys, PyData.depthAll, depths]
  | d :: ds => by simp only [toPys, PyData.depthAll, depths, depth_of d, depths_of ds]
end
theorem shaped_of {d : D} (p : plain d = true) (h : depth d ≤ 60) : SeqAt.shaped (toPy d) = true := by
  unfold SeqAt.shaped
  rw [lay_of d p, depth_of, Bool.true_and]
  exact decide_eq_true (by omega)
theorem str_beq (a b : Txt) : ((⟨a.toArray⟩ : Str) == ⟨b.toArray⟩) = (a == b) := by
  by_cases h : a = b
  · subst h; simp
  · have : ¬ ((⟨a.toArray⟩ : Str) = ⟨b.toArray⟩) := fun e => h (mkS_inj e)
    rw [beq_eq_false_iff_ne.mpr this, beq_eq_false_iff_ne.mpr h]
mutual
theorem eqv_of : ∀ a b : D, plain a = true → plain b = true → PyData.eqv (toPy a) (toPy b) = eqv a b
  | .non, b, _, q => by cases b <;> simp_all [toPy, PyData.eqv, eqv, plain]
  | .bl a, b, _, q => by cases b <;> simp_all [toPy, PyData.eqv, eqv, plain]
  | .int a, b, _, q => by cases b <;> simp_all [toPy, PyData.eqv, eqv, plain]
  | .str a, b, _, q => by
    cases b with
    | str b => simp only [toPy, PyData.eqv, eqv]; exact str_beq a b
    | _ => simp_all [toPy, PyData.eqv, eqv, plain]
  | .tup a, b, p, q => by
    cases b with
    | tup b => simp only [toPy, PyData.eqv, eqv]; exact eqvs_of a b (by simpa [plain] using p) (by simpa [plain] using q)
    | _ => simp_all [toPy, PyData.eqv, eqv, plain]
  | .lst a, b, p, q => by
    cases b with
    | lst b => simp only [toPy, PyData.eqv, eqv]; exact eqvs_of a b (by simpa [plain] using p) (by simpa [plain] using q)
    | _ => simp_all [toPy, PyData.eqv, eqv, plain]
  | .dic a, b, p, q => by simp [plain] at p
  | .ref a, b, p, q => by simp [plain] at p
theorem eqvs_of : ∀ a b : List D, plains a = true → plains b = true → PyData.eqvAll (toPys a) (toPys b) = eqvs a b
  | [], b, _, _ => by cases b <;> simp [toPys, PyData.eqvAll, eqvs]
  | x :: xs, b, p, q => by
    cases b with
    | nil => simp [toPys, PyData.eqvAll, eqvs]
    | cons y ys =>
      simp only [plains, Bool.and_eq_true] at p q
      simp only [toPys, PyData.eqvAll, eqvs, eqv_of x y p.1 q.1, eqvs_of xs ys p.2 q.2]
end
theorem eqOk_of {a b : D} (h : eqOk a b = true) : plain a = true ∧ plain b = true ∧ depth a ≤ 60 ∧ depth b ≤ 60 := by
  unfold eqOk at h
  simp only [Bool.and_eq_true, decide_eq_true_eq] at h
  exact ⟨h.1.1.1, h.1.1.2, h.1.2, h.2⟩

theorem at1_some {g : G} {x z : D} {h : D → Option D} (e : at1 g x h = some z) : ∃ x', deref g x = some x' ∧ h x' = some z := by
  unfold at1 at e
  cases q : deref g x with
  | none => rw [q] at e; cases e
  | some x' => rw [q] at e; exact ⟨x', rfl, e⟩
theorem at2_some {g : G} {x y z : D} {h : D → D → Option D} (e : at2 g x y h = some z) : ∃ x' y', deref g x = some x' ∧ deref g y = some y' ∧ h x' y' = some z := by
  unfold at2 at e
  cases q : deref g x with
  | none => rw [q] at e; cases e
  | some x' =>
    rw [q] at e
    cases q2 : deref g y with
    | none =>
      have e' : ((deref g y).bind fun y => h x' y) = some z := e
      rw [q2] at e'; cases e'
    | some y' =>
      have e' : ((deref g y).bind fun y => h x' y) = some z := e
      rw [q2] at e'
      exact ⟨x', y', rfl, rfl, e'⟩

section
variable {X : Cx} {C : Cfg} {ca : Nat → Addr} {W : WX} {e a b c : Expr} {pos : Pos}
/-! ### the least ones -/
theorem tE.raw {f : Sl → G → R D} {σ : L2.St} {H : Hp} {Q : VK} (h : tR (fx C ca X W) f σ H Q) : tE (fx C ca X W) f σ H Q := by
  obtain ⟨ρ, B, s, g, S, h⟩ := h
  refine ⟨ρ, B, s, g, S, ?_⟩
  cases z : f s g with
  | ok d g' => rw [z] at h; exact fun v H' ρ' e S r => h v H' ρ' e S (.rep r)
  | exc x g' => rw [z] at h; exact h
  | bad => rw [z] at h; exact h
theorem e_const {v : V} {d : D} (h : PE X e (tC v)) (r : ∀ ρ B H, Rep X.K ρ B H v d) : PE X e (tE (fx C ca X W) fun _ g => .ok d g) :=
  h.impX fun σ H Q ⟨ρ, B, s, g, S, h⟩ => h.done S (r ρ B H)
theorem e_var {i : Nat} {x : Str} (hN : X.N[i]? = some x) (hv : Vis X.env.scope x) (hd : (x == ("__debug__" : Str)) = false) (hc : (x == ("__classdict__" : Str)) = false) :
    PE X (.Name x pos) (tE (fx C ca X W) fun s g => R.ofO g (look s i)) := by
  refine (pe_var hN hv hd hc).impX fun σ H Q ⟨ρ, B, s, g, S, h⟩ => ?_
  obtain ⟨d, e1, h⟩ := h.ofO
  have e2 : s[i]? = some (.val d) := by
    unfold look at e1
    split at e1
    · cases e1; assumption
    · cases e1
  obtain ⟨v, q1, q2⟩ := S.val i d e2
  exact ⟨v, q1, h.done S q2⟩
theorem lookO_some {s : Sl} {i : Nat} {d : D} (h : lookO s i = some d) : s[i]? = some (.own d) := by
  unfold lookO at h
  split at h
  · cases h; assumption
  · cases h
theorem e_bor {i : Nat} {x : Str} (hN : X.N[i]? = some x) (hv : Vis X.env.scope x) (hd : (x == ("__debug__" : Str)) = false) (hc : (x == ("__classdict__" : Str)) = false) :
    PE X (.Name x pos) (tR (fx C ca X W) fun s g => R.ofO g (lookO s i)) := by
  refine (pe_var hN hv hd hc).impX fun σ H Q ⟨ρ, B, s, g, S, h⟩ => ?_
  obtain ⟨d, e1, h⟩ := h.ofO
  obtain ⟨a, q1, q2, q3, q4⟩ := S.own i d (lookO_some e1)
  exact ⟨.ref a, q1, h.done S (.own q2 q3 q4)⟩

/-! ### lists of arguments -/
theorem a_nil : PA X [] (tI (fx C ca X W) (rRepL X.K) fun _ g => .ok [] g) := pa_nil.impX fun σ H Q ⟨ρ, B, s, g, S, h⟩ => h.done S .nil
theorem a_cons {es : List Expr} {f : Sl → G → R D} {fs : Sl → G → R (List D)} (he : PE X e (tE (fx C ca X W) f)) (hr : PA X es (tI (fx C ca X W) (rRepL X.K) fs)) (hs : starEach (e :: es) X.env = (false, eval e X.env) :: starEach es X.env) :
    PA X (e :: es) (tI (fx C ca X W) (rRepL X.K) fun s g => (f s g).bind fun d g => (fs s g).bind fun ds g => .ok (d :: ds) g) := by
  refine (pa_cons he hr hs).impX fun σ H Q ⟨ρ, B, s, g, S, h⟩ => ?_
  refine ⟨ρ, B, s, g, S, h.seq fun d g1 v H1 ρ1 _ e1 S1 r1 h1 => ?_⟩
  refine ⟨ρ1, B, s, g1, S1, h1.seq fun ds g2 vs H2 ρ2 _ e2 S2 r2 h2 => ?_⟩
  exact h2.done S2 (.cons (r1.ext e2) r2)
theorem e_tup {es : List Expr} {k : Nat} {fs : Sl → G → R (List D)} (h : PA X es (tI (fx C ca X W) (rRepL X.K) fs)) (hz : ∀ s g ds g', fs s g = .ok ds g' → ds.length ≤ 1000) :
    PE X (.Tuple es k pos) (tE (fx C ca X W) fun s g => (fs s g).bind fun ds g => .ok (.tup ds) g) := by
  refine (pe_tup h).impX fun σ H Q ⟨ρ, B, s, g, S, h⟩ => ?_
  refine ⟨ρ, B, s, g, S, h.seq fun ds g1 vs H1 ρ1 z e1 S1 r1 h1 => ⟨?_, fun p hp => h1.newT S1 r1 hp⟩⟩
  rw [r1.length]
  exact Nat.le_of_lt (small1000 (hz s g ds g1 z))
theorem e_lst {es : List Expr} {fs : Sl → G → R (List D)} (h : PA X es (tI (fx C ca X W) (rRepL X.K) fs)) (hz : ∀ s g ds g', fs s g = .ok ds g' → ds.length ≤ 1000) :
    PE X (.List es pos) (tF (fx C ca X W) fun s g => (fs s g).bind fun ds g => .ok (.lst ds) g) := by
  refine (pe_lst h).impX fun σ H Q ⟨ρ, B, s, g, S, h⟩ => ?_
  refine ⟨ρ, B, s, g, S, OutF.seq h fun ds g1 vs H1 ρ1 z e1 S1 r1 h1 => ⟨?_, fun p hp => OutF.newL S1 h1 r1 hp⟩⟩
  rw [r1.length]
  exact Nat.le_of_lt (small1000 (hz s g ds g1 z))

/-! ### operators -/
/-- two operands, read through their places, then an operator's rule -/
theorem op_two {r : R2} {t : TE} {fa fb : Sl → G → R D} {h : D → D → Option D} (ht : t = tOp r (tR (fx C ca X W) fa) (tR (fx C ca X W) fb)) (hp : PE X e t)
    (hr : ∀ (σ : L2.St) (s : Sl) (B ρ : List Addr) (H : Hp) (g : G) (v u : V) (x y z : D) (Q : VK), Sim X.K ρ B H g s σ → View X.K ρ B H v x → View X.K ρ B H u y → h x y = some z → Out (fx C ca X W) (rRep X.K B) σ s B ρ H (.ok z g) Q → r v u H Q) :
    PE X e (tE (fx C ca X W) fun s g => (fa s g).bind fun x g => (fb s g).bind fun y g => R.ofO g (at2 g x y h)) := by
  subst ht
  refine hp.impX fun σ H Q ⟨ρ, B, s, g, S, q⟩ => ?_
  refine ⟨ρ, B, s, g, S, q.seq fun x g1 v H1 ρ1 _ e1 S1 r1 h1 => ?_⟩
  refine ⟨ρ1, B, s, g1, S1, h1.seq fun y g2 u H2 ρ2 _ e2 S2 r2 h2 => ?_⟩
  obtain ⟨z, ez, h3⟩ := h2.ofO
  obtain ⟨x', y', d1, d2, ez⟩ := at2_some ez
  exact hr σ s B ρ2 H2 g2 v u x' y' z Q S2 ((r1.ext S1.heap e2).view S2.heap d1) (r2.view S2.heap d2) ez h3
theorem op_one {t : V → Hp → VK → Prop} {fa : Sl → G → R D} {h : D → Option D} (hp : PE X e fun σ H Q => (tR (fx C ca X W) fa) σ H fun v H1 => t v H1 Q)
    (hr : ∀ (σ : L2.St) (s : Sl) (B ρ : List Addr) (H : Hp) (g : G) (v : V) (x z : D) (Q : VK), Sim X.K ρ B H g s σ → View X.K ρ B H v x → h x = some z → Out (fx C ca X W) (rRep X.K B) σ s B ρ H (.ok z g) Q → t v H Q) :
    PE X e (tE (fx C ca X W) fun s g => (fa s g).bind fun x g => R.ofO g (at1 g x h)) := by
  refine hp.impX fun σ H Q ⟨ρ, B, s, g, S, q⟩ => ?_
  refine ⟨ρ, B, s, g, S, q.seq fun x g1 v H1 ρ1 _ e1 S1 r1 h1 => ?_⟩
  obtain ⟨z, ez, h3⟩ := h1.ofO
  obtain ⟨x', d1, ez⟩ := at1_some ez
  exact hr σ s B ρ1 H1 g1 v x' z Q S1 (r1.view S1.heap d1) ez h3

/-- list + list, whatever the lists lie in -/
def rCatL (K : Fg) : R2 := fun x y H Q => ∃ a b xs zs, x = .ref a ∧ y = .ref b ∧ SqL K H a xs ∧ SqL K H b zs ∧ xs.length + zs.length ≤ sizeLine ∧
  ∀ p, H p = none → Q (.ref p) (upd H p (.lst (xs ++ zs)))
theorem op_catL : OpR X (binaryOp .Add) (rCatL X.K) := by
  intro pins s σ H x y v u Q I rx ry h
  obtain ⟨a, b, xs, zs, rfl, rfl, ha, hb, hz, q⟩ := h
  cases rx
  cases ry
  obtain ⟨its, r1, ⟨⟨c1, d1, da1, sl1⟩, n1, o1, k1, _, t1⟩, _⟩ := I.list ha
  obtain ⟨its2, r2, ⟨⟨c2, d2, da2, sl2⟩, n2, o2, k2, _, t2⟩, _⟩ := I.list hb
  simp only at k1 t1 k2 t2
  subst k1 t1 k2 t2
  have l1 := r1.length
  have l2 := r2.length
  refine concat_meets ⟨_, o1, rfl⟩ ⟨_, o2, rfl⟩ noFill_list_add seq_list_add PySem.F.slot_list_add PySem.F.entry_list_add (PySem.F.args_list_add_2 _ _)
    (list_addW a b its.toArray its2.toArray n1 n2 _ _ sl1 sl2 (by rw [List.size_toArray, List.size_toArray]; omega)) ⟨o1, o2, ?_⟩
  have ea : its.toArray ++ its2.toArray = (its ++ its2).toArray := by simp
  rw [ea]
  exact ⟨.ref _, _, I.lnew (t' := s.toks) (r1.append r2) (by rw [List.length_append]; omega), rfl, q _ I.fresh⟩
theorem lim_line {n : Nat} (h : n ≤ LIM) : n ≤ sizeLine := by rw [sizeLine_eq]; exact h
def rAddAll (K : Fg) : R2 := fun x y H Q => (rI0 (fun i j => .int (i + j)) x y H Q) ∨ ((∃ i j, x = .str i ∧ y = .str j ∧ i.length + j.length ≤ sizeLine ∧ Q (.str (i ++ j)) H) ∨ (rCatL K x y H Q ∨ rCatA K x y H Q))
theorem mkS_append (a b : Txt) : mkS a ++ mkS b = mkS (a ++ b) := by
  show (⟨(mkS a).cps ++ (mkS b).cps⟩ : Str) = _
  simp [mkS]
/-- a text so many times -/
def rMulS : R2 := fun x y H Q => ∃ (a : Txt) (n : Int), x = .str (mkS a) ∧ y = .int n ∧ 0 ≤ n ∧ n ≤ 16777216 ∧ a.length * n.toNat ≤ LIM ∧ Q (.str (mkS (List.replicate n.toNat a).flatten)) H
theorem mul_txt (a : Txt) {n : Int} (h0 : 0 ≤ n) : Txt.mul (mkS a) n = mkS (List.replicate n.toNat a).flatten := by
  unfold Txt.mul
  by_cases h1 : n < 1
  · have : n = 0 := by omega
    subst this
    rw [if_pos (by decide)]
    rfl
  · rw [if_neg h1]
    by_cases h2 : (n == 1 || (mkS a).length == 0) = true
    · rw [if_pos h2]
      rw [Bool.or_eq_true] at h2
      rcases h2 with h2 | h2
      · have : n = 1 := by simpa using h2
        subst this
        simp
      · have : a = [] := by
          have : (mkS a).length = 0 := by simpa using h2
          rw [mkS_length] at this
          exact List.length_eq_zero_iff.mp this
        subst this
        simp
    · rw [if_neg h2]
      have key : ∀ (k : Nat) (acc : Array Nat), ((List.replicate k (mkS a).cps).foldl (· ++ ·) acc).toList = acc.toList ++ (List.replicate k a).flatten := by
        intro k
        induction k with
        | zero => intro acc; simp
        | succ k ih =>
          intro acc
          rw [List.replicate_succ, List.foldl_cons, ih, Array.toList_append, mkS_toList, List.replicate_succ, List.flatten_cons, List.append_assoc]
      have h3 := key n.toNat #[]
      show (⟨_⟩ : Str) = ⟨_⟩
      congr 1
      apply Array.ext'
      rw [h3]
      simp
theorem op_mulS : OpR X (binaryOp .Mult) rMulS := by
  intro pins s σ H x y v u Q I rx ry h
  obtain ⟨a, n, rfl, rfl, h0, h1, h2, q⟩ := h
  obtain ⟨t, rfl⟩ := (show ∃ t, v = Value.str (mkS a) t from rx)
  obtain ⟨t2, rfl⟩ := (show ∃ t, u = Value.int n t from ry)
  refine PySem.SB.mul ?_ fun t' k => ⟨.str _, H, I.tok k, ⟨t', rfl⟩, ?_⟩
  · refine ⟨?_, fun hn _ => ?_, fun hn _ => ?_⟩
    · rw [decide_eq_false (by omega), decide_eq_false (by omega)]; rfl
    · rw [mkS_length]
      have hpos : 0 < n := by omega
      intro hg
      have hg : (2 ^ 63 - 1) / n < (a.length : Int) := hg
      have := (Int.ediv_lt_iff_lt_mul hpos).mp hg
      have e : (a.length : Int) * n = ((a.length * n.toNat : Nat) : Int) := by
        rw [Int.natCast_mul]
        congr 1
        omega
      rw [e] at this
      have hl : LIM = 16777216 := rfl
      omega
    · rw [mkS_length]
      show decide (_ > sizeLine) = false
      rw [decide_eq_false]
      have := lim_line h2
      omega
  · rw [mul_txt a h0]; exact q
theorem RepL.ofNil {K : Fg} {ρ B : List Addr} {H : Hp} {vs : List V} {ds : List D} (r : RepL K ρ B H vs ds) : vs = [] ↔ ds = [] := by
  cases r <;> simp
theorem e_bin {o : Bop} {op : Operator} {fa fb : Sl → G → R D} (ho : (match o, op with
    | .add, .Add => true | .sub, .Sub => true | .mul, .Mult => true | .mod, .Mod => true | .fdiv, .FloorDiv => true | .pow, .Pow => true
    | _, _ => false) = true) (ha : PE X a (tR (fx C ca X W) fa)) (hb : PE X b (tR (fx C ca X W) fb)) :
    PE X (.BinOp a op b pos) (tE (fx C ca X W) fun s g => (fa s g).bind fun x g => (fb s g).bind fun y g => R.ofO g (at2 g x y (bop o))) := by
  cases o <;> cases op <;> first | (simp at ho; done) | skip
  case add.Add =>
    refine op_two (r := rAddAll X.K) rfl (pe_op (op_add.or (op_add_str.or (op_catL.or op_catA))) ha hb) fun σ s B ρ H g v u x y z Q S vx vy ez h => ?_
    cases x <;> cases y <;> first | (simp [bop] at ez; done) | skip
    case int.int i j =>
      cases ez
      exact .inl ⟨i, j, vx.int, vy.int, h.done S (.int _)⟩
    case str.str i j =>
      have hl : i.length + j.length ≤ LIM := by
        by_cases q : i.length + j.length ≤ LIM
        · exact q
        · simp [bop, q] at ez
      rw [bop, if_pos hl] at ez
      cases ez
      refine .inr (.inl ⟨_, _, vx.str, vy.str, ?_, ?_⟩)
      · rw [mkS_length, mkS_length]
        exact lim_line hl
      · rw [mkS_append]
        exact h.done S (.str _)
    case lst.lst i j =>
      have hl : i.length + j.length ≤ LIM := by
        by_cases q : i.length + j.length ≤ LIM
        · exact q
        · simp [bop, q] at ez
      rw [bop, if_pos hl] at ez
      cases ez
      obtain ⟨a1, xs, e1, q1, r1⟩ := vx.list
      obtain ⟨a2, ys, e2, q2, r2⟩ := vy.list
      refine .inr (.inr (.inl ⟨a1, a2, xs, ys, e1, e2, q1, q2, ?_, fun p hp => h.newL S (r1.append r2) hp⟩))
      rw [r1.length, r2.length]
      exact lim_line hl
    case tup.tup i j =>
      have hl : i.length + j.length ≤ LIM := by
        by_cases q : i.length + j.length ≤ LIM
        · exact q
        · simp [bop, q] at ez
      rw [bop, if_pos hl] at ez
      cases ez
      obtain ⟨a1, xs, e1, q1, r1⟩ := vx.tup
      obtain ⟨a2, ys, e2, q2, r2⟩ := vy.tup
      refine .inr (.inr (.inr ⟨a1, a2, xs, ys, e1, e2, q1, q2, ?_, fun n => ?_, fun _ n => ?_, fun _ _ p hp => h.newT S (r1.append r2) hp⟩))
      · rw [r1.length, r2.length]
        exact lim_line hl
      · have : i = [] := r1.ofNil.mp n
        subst this
        exact h.done S (.tup q2 r2)
      · have : j = [] := r2.ofNil.mp n
        subst this
        rw [List.append_nil] at h
        exact h.done S (.tup q1 r1)
  case sub.Sub =>
    refine op_two rfl (pe_op op_sub ha hb) fun σ s B ρ H g v u x y z Q S vx vy ez h => ?_
    cases x <;> cases y <;> first | (simp [bop] at ez; done) | skip
    cases ez
    exact ⟨_, _, vx.int, vy.int, h.done S (.int _)⟩
  case mul.Mult =>
    refine op_two rfl (pe_op (op_mul.or op_mulS) ha hb) fun σ s B ρ H g v u x y z Q S vx vy ez h => ?_
    cases x <;> cases y <;> first | (simp [bop] at ez; done) | skip
    case str.int i j =>
      by_cases q : 0 ≤ j ∧ j ≤ 16777216 ∧ i.length * j.toNat ≤ LIM
      · rw [bop, if_pos q] at ez
        cases ez
        exact .inr ⟨i, j, vx.str, vy.int, q.1, q.2.1, q.2.2, h.done S (.str _)⟩
      · rw [bop, if_neg q] at ez; cases ez
    refine .inl ?_
    rename_i i j
    by_cases q : (-(2 ^ 64) < i ∧ i < 2 ^ 64) ∨ (-(2 ^ 64) < j ∧ j < 2 ^ 64)
    · rw [bop, if_pos q] at ez
      cases ez
      exact ⟨_, _, vx.int, vy.int, q, h.done S (.int _)⟩
    · rw [bop, if_neg q] at ez; cases ez
  case mod.Mod =>
    refine op_two rfl (pe_op op_mod ha hb) fun σ s B ρ H g v u x y z Q S vx vy ez h => ?_
    cases x <;> cases y <;> first | (simp [bop] at ez; done) | skip
    rename_i i j
    by_cases q : 0 < j
    · rw [bop, if_pos q] at ez
      cases ez
      exact ⟨_, _, vx.int, vy.int, q, h.done S (.int _)⟩
    · rw [bop, if_neg q] at ez; cases ez
  case fdiv.FloorDiv =>
    refine op_two rfl (pe_op op_fdiv ha hb) fun σ s B ρ H g v u x y z Q S vx vy ez h => ?_
    cases x <;> cases y <;> first | (simp [bop] at ez; done) | skip
    rename_i i j
    by_cases q : 0 < j ∧ j < 1073741824
    · rw [bop, if_pos q] at ez
      cases ez
      exact ⟨_, _, vx.int, vy.int, q, h.done S (.int _)⟩
    · rw [bop, if_neg q] at ez; cases ez
  case pow.Pow =>
    refine op_two rfl (pe_op op_pow ha hb) fun σ s B ρ H g v u x y z Q S vx vy ez h => ?_
    cases x <;> cases y <;> first | (simp [bop] at ez; done) | skip
    rename_i i j
    by_cases q : 0 ≤ j ∧ j ≤ 1000000 ∧ i.natAbs < 2 ^ 64
    · rw [bop, if_pos q] at ez
      cases ez
      exact ⟨_, _, vx.int, vy.int, q, h.done S (.int _)⟩
    · rw [bop, if_neg q] at ez; cases ez
end
end PX
end
section
set_option Elab.async false
set_option linter.all false
set_option maxRecDepth 100000
set_option autoImplicit false
set_option maxHeartbeats 1000000
/-! PXf: comparisons, truth, subscripts, isinstance. -/
namespace PX
open PySem L2 PySem.Spec PyProof.Rows
section
variable {X : Cx} {C : Cfg} {ca : Nat → Addr} {W : WX} {e a b c : Expr} {pos : Pos} {fa fb fc : Sl → G → R D}

/-! ### comparisons -/
def rInT (K : Fg) (neg : Bool) : R2 := fun x y H Q => ∃ d ds, Dp K H x d ∧ Dp K H y (.tuple ds) ∧ SeqAt.shaped d = true ∧ SeqAt.shaped (.tuple ds) = true ∧
  Q (.bl (if neg then !(ds.any fun z => PyData.eqv z d) else ds.any fun z => PyData.eqv z d)) H
theorem op_inT (hu : X.A.units + 65 < cLine) : OpR X (compareOp .In) (rInT X.K false) := by
  intro pins s σ H x y v u Q I rx ry h
  obtain ⟨d, ds, hd, he, sd, se, q⟩ := h
  obtain ⟨as, r1⟩ := Dp.reads I d x v hd rx
  obtain ⟨bs, r2⟩ := Dp.reads I (.tuple ds) y u he ry
  exact SeqAt.in_tuple_reads r2 r1 (SeqAt.canLay_of_shaped se) (SeqAt.canLay_of_shaped sd) (room_in_shaped sd hu) ⟨.bl _, H, I, rfl, q⟩
theorem op_ninT (hu : X.A.units + 65 < cLine) : OpR X (compareOp .NotIn) (rInT X.K true) := by
  intro pins s σ H x y v u Q I rx ry h
  obtain ⟨d, ds, hd, he, sd, se, q⟩ := h
  obtain ⟨as, r1⟩ := Dp.reads I d x v hd rx
  obtain ⟨bs, r2⟩ := Dp.reads I (.tuple ds) y u he ry
  exact SeqAt.notIn_tuple_reads r2 r1 (SeqAt.canLay_of_shaped se) (SeqAt.canLay_of_shaped sd) (room_in_shaped sd hu) ⟨.bl _, H, I, rfl, q⟩
def opOf : Cop → CmpOp
  | .eq => .Eq | .ne => .NotEq | .lt => .Lt | .le => .LtE | .gt => .Gt | .ge => .GtE | .inn => .In | .nin => .NotIn
/-- what a comparison asks -/
def rCop (K : Fg) (o : Cop) : R2 := fun v u H Q => ∀ (z : Bool), (∃ (ρ B : List Addr) (x y : D), View K ρ B H v x ∧ View K ρ B H u y ∧ cop o x y = some z) → Q (.bl z) H
theorem any_toPys (d : D) (ds : List D) (h1 : plain d = true) (h2 : plains ds = true) : ((toPys ds).any fun z => PyData.eqv z (toPy d)) = ds.any fun z => eqv z d := by
  induction ds with
  | nil => simp [toPys]
  | cons x xs ih =>
    simp only [plains, Bool.and_eq_true] at h2
    simp only [toPys, List.any_cons, eqv_of x d h2.1 h1, ih h2.2]
theorem isInL_some {x : D} {xs : List D} {z : Bool} (h : isInL x xs = some z) : eqOk x (.lst xs) = true ∧ z = xs.any fun y => eqv y x := by
  unfold isInL at h
  by_cases q : eqOk x (.lst xs) = true
  · rw [if_pos q] at h
    exact ⟨q, (Option.some.inj h).symm⟩
  · rw [if_neg q] at h; cases h
theorem isIn_some {x y : D} {w : Bool} (h : isIn x y = some w) : (∃ xs, y = .lst xs ∧ eqOk x (.lst xs) = true ∧ w = xs.any fun y => eqv y x) ∨ (∃ xs, y = .tup xs ∧ eqOk x (.lst xs) = true ∧ w = xs.any fun y => eqv y x) ∨ ∃ (c : Nat) (t : Txt), x = .str [c] ∧ y = .str t ∧ w = decide (c ∈ t) := by
  cases y with
  | lst xs => exact .inl ⟨xs, rfl, isInL_some (show isInL x xs = some w from h)⟩
  | tup xs => exact .inr (.inl ⟨xs, rfl, isInL_some (show isInL x xs = some w from h)⟩)
  | str t =>
    cases x with
    | str u =>
      cases u with
      | nil => cases h
      | cons c u =>
        cases u with
        | nil => exact .inr (.inr ⟨c, t, rfl, rfl, (Option.some.inj h).symm⟩)
        | cons _ _ => cases h
    | _ => cases h
  | _ => simp [isIn] at h
/-- a comparison's rule, for each kind of operands -/
theorem cop_run (hu : X.A.units + 65 < cLine) (o : Cop) {pins : List (Addr × Obj)} {s : Shared} {σ : L2.St} {H : Hp} {v u : V} {uv uu : Value} {Q : VK} {ρ B : List Addr} {x y : D} {z : Bool} (I : Inv X pins σ H s) (rv : RelV v uv) (ru : RelV u uu)
    (vx : View X.K ρ B H v x) (vy : View X.K ρ B H u y) (e : cop o x y = some z) (q : Q (.bl z) H) : wpAny (model X.prog X.w) X.A (compareOp (opOf o) uv uu) (EP X pins σ Q) X.xe s := by
  have hu' : X.A.units + 64 < cLine := by omega
  have inn : ∀ {w : Bool}, isIn x y = some w → _ := fun h => isIn_some h
  cases o with
  | eq =>
    by_cases k : eqOk x y = true
    · obtain ⟨p1, p2, d1, d2⟩ := eqOk_of k
      have e' : eqv x y = z := by simpa [cop, k] using e
      refine op_eqD hu' pins s σ H v u uv uu Q I rv ru ⟨_, _, vx.dp p1, vy.dp p2, shaped_of p1 d1, shaped_of p2 d2, ?_⟩
      rw [eqv_of x y p1 p2, e']
      exact q
    · simp [cop, k] at e
  | ne =>
    by_cases k : eqOk x y = true
    · obtain ⟨p1, p2, d1, d2⟩ := eqOk_of k
      have e' : (!eqv x y) = z := by simpa [cop, k] using e
      refine op_neD hu' pins s σ H v u uv uu Q I rv ru ⟨_, _, vx.dp p1, vy.dp p2, shaped_of p1 d1, shaped_of p2 d2, ?_⟩
      rw [eqv_of x y p1 p2, e']
      exact q
    · simp [cop, k] at e
  | lt =>
    cases x <;> cases y <;> first | (simp [cop] at e; done) | skip
    · cases e
      exact op_lt pins s σ H v u uv uu Q I rv ru ⟨_, _, vx.int, vy.int, q⟩
    · cases e
      refine op_lt_str pins s σ H v u uv uu Q I rv ru ⟨_, _, vx.str, vy.str, ?_⟩
      rw [mkS_toList, mkS_toList]
      exact q
  | le =>
    cases x <;> cases y <;> first | (simp [cop] at e; done) | skip
    · cases e
      exact op_le pins s σ H v u uv uu Q I rv ru ⟨_, _, vx.int, vy.int, q⟩
    · rename_i i j
      have e' : decide (i ≤ j) = z := Option.some.inj e
      refine op_le_str pins s σ H v u uv uu Q I rv ru ⟨_, _, vx.str, vy.str, ?_⟩
      rw [mkS_toList, mkS_toList]
      have : (!decide (j < i)) = decide (i ≤ j) := by rw [← decide_not]; exact decide_eq_decide.mpr Iff.rfl
      rw [this, e']
      exact q
  | gt =>
    cases x <;> cases y <;> first | (simp [cop] at e; done) | skip
    · cases e
      exact op_gt pins s σ H v u uv uu Q I rv ru ⟨_, _, vx.int, vy.int, q⟩
    · cases e
      refine op_gt_str pins s σ H v u uv uu Q I rv ru ⟨_, _, vx.str, vy.str, ?_⟩
      rw [mkS_toList, mkS_toList]
      exact q
  | ge =>
    cases x <;> cases y <;> first | (simp [cop] at e; done) | skip
    · cases e
      exact op_ge pins s σ H v u uv uu Q I rv ru ⟨_, _, vx.int, vy.int, q⟩
    · rename_i i j
      have e' : decide (j ≤ i) = z := Option.some.inj e
      refine op_ge_str pins s σ H v u uv uu Q I rv ru ⟨_, _, vx.str, vy.str, ?_⟩
      rw [mkS_toList, mkS_toList]
      have : (!decide (i < j)) = decide (j ≤ i) := by rw [← decide_not]; exact decide_eq_decide.mpr Iff.rfl
      rw [this, e']
      exact q
  | inn =>
    rcases inn (show isIn x y = some z from e) with ⟨xs, rfl, k, rfl⟩ | ⟨xs, rfl, k, rfl⟩ | ⟨n, t, rfl, rfl, rfl⟩
    · obtain ⟨p1, p2, d1, d2⟩ := eqOk_of k
      have q2 : (toPy (.lst xs)) = .list (toPys xs) := by rw [toPy]
      refine op_inD hu pins s σ H v u uv uu Q I rv ru ⟨toPy x, toPys xs, vx.dp p1, ?_, shaped_of p1 d1, ?_, ?_⟩
      · rw [← q2]; exact vy.dp p2
      · rw [← q2]; exact shaped_of p2 d2
      · rw [any_toPys x xs p1 (by simpa [plain] using p2)]
        exact q
    · obtain ⟨p1, p2, d1, d2⟩ := eqOk_of k
      have q2 : (toPy (.tup xs)) = .tuple (toPys xs) := by rw [toPy]
      have p3 : plain (.tup xs) = true := by simpa [plain] using p2
      have d3 : depth (.tup xs) ≤ 60 := by simpa [depth] using d2
      refine op_inT hu pins s σ H v u uv uu Q I rv ru ⟨toPy x, toPys xs, vx.dp p1, ?_, shaped_of p1 d1, ?_, ?_⟩
      · rw [← q2]; exact vy.dp p3
      · rw [← q2]; exact shaped_of p3 d3
      · simp only [Bool.false_eq_true, if_false]
        rw [any_toPys x xs p1 (by simpa [plain] using p2)]
        exact q
    · refine op_in_sign pins s σ H v u uv uu Q I rv ru ⟨n, mkS t, vx.str, vy.str, ?_⟩
      rw [mkS_toList]
      exact q
  | nin =>
    obtain ⟨w, ew, rfl⟩ : ∃ w, isIn x y = some w ∧ z = !w := by
      have e' : (isIn x y).map (!·) = some z := e
      cases h : isIn x y with
      | none => rw [h] at e'; cases e'
      | some w => rw [h] at e'; exact ⟨w, rfl, (Option.some.inj e').symm⟩
    rcases inn ew with ⟨xs, rfl, k, rfl⟩ | ⟨xs, rfl, k, rfl⟩ | ⟨n, t, rfl, rfl, rfl⟩
    · obtain ⟨p1, p2, d1, d2⟩ := eqOk_of k
      have q2 : (toPy (.lst xs)) = .list (toPys xs) := by rw [toPy]
      refine op_notInD hu pins s σ H v u uv uu Q I rv ru ⟨toPy x, toPys xs, vx.dp p1, ?_, shaped_of p1 d1, ?_, ?_⟩
      · rw [← q2]; exact vy.dp p2
      · rw [← q2]; exact shaped_of p2 d2
      · rw [any_toPys x xs p1 (by simpa [plain] using p2)]
        exact q
    · obtain ⟨p1, p2, d1, d2⟩ := eqOk_of k
      have q2 : (toPy (.tup xs)) = .tuple (toPys xs) := by rw [toPy]
      have p3 : plain (.tup xs) = true := by simpa [plain] using p2
      have d3 : depth (.tup xs) ≤ 60 := by simpa [depth] using d2
      refine op_ninT hu pins s σ H v u uv uu Q I rv ru ⟨toPy x, toPys xs, vx.dp p1, ?_, shaped_of p1 d1, ?_, ?_⟩
      · rw [← q2]; exact vy.dp p3
      · rw [← q2]; exact shaped_of p3 d3
      · simp only [if_true]
        rw [any_toPys x xs p1 (by simpa [plain] using p2)]
        exact q
    · refine op_notIn_sign pins s σ H v u uv uu Q I rv ru ⟨n, mkS t, vx.str, vy.str, ?_⟩
      rw [mkS_toList]
      exact q
/-- a comparison's reading by what cop says of the operands' views -/
def rC (K : Fg) (o : Cop) : R2 := fun v u H Q => ∃ (ρ B : List Addr) (x y : D) (z : Bool), View K ρ B H v x ∧ View K ρ B H u y ∧ cop o x y = some z ∧ Q (.bl z) H
theorem op_cop (hu : X.A.units + 65 < cLine) (o : Cop) : OpR X (compareOp (opOf o)) (rC X.K o) := by
  intro pins s σ H v u uv uu Q I rv ru ⟨ρ, B, x, y, z, vx, vy, e, q⟩
  exact cop_run hu o I rv ru vx vy e q
/-- two operands, as a reading of the operator's own -/
theorem two_imp {r : R2} {h : D → D → Option D}
    (hr : ∀ (σ : L2.St) (s : Sl) (B ρ : List Addr) (H : Hp) (g : G) (v u : V) (x y z : D) (Q : VK), Sim X.K ρ B H g s σ → View X.K ρ B H v x → View X.K ρ B H u y → h x y = some z → Out (fx C ca X W) (rRep X.K B) σ s B ρ H (.ok z g) Q → r v u H Q) {σ : L2.St} {H : Hp} {Q : VK}
    (q : tE (fx C ca X W) (fun s g => (fa s g).bind fun x g => (fb s g).bind fun y g => R.ofO g (at2 g x y h)) σ H Q) : tOp r (tR (fx C ca X W) fa) (tR (fx C ca X W) fb) σ H Q := by
  obtain ⟨ρ, B, s, g, S, q⟩ := q
  refine ⟨ρ, B, s, g, S, q.seq fun x g1 v H1 ρ1 _ e1 S1 r1 h1 => ?_⟩
  refine ⟨ρ1, B, s, g1, S1, h1.seq fun y g2 u H2 ρ2 _ e2 S2 r2 h2 => ?_⟩
  obtain ⟨z, ez, h3⟩ := h2.ofO
  obtain ⟨x', y', d1, d2, ez⟩ := at2_some ez
  exact hr σ s B ρ2 H2 g2 v u x' y' z Q S2 ((r1.ext S1.heap e2).view S2.heap d1) (r2.view S2.heap d2) ez h3
theorem deref_bl {g : G} {b : Bool} : deref g (.bl b) = some (.bl b) := rfl
theorem bl_inj {a b : Bool} (h : D.bl a = D.bl b) : a = b := by cases h; rfl
/-- a bool as a test -/
theorem tst_bl {f : Sl → G → R D} (hb : ∀ s g d g', f s g = .ok d g' → ∃ k, d = .bl k) {σ : L2.St} {H : Hp} {Q : Bool → Hp → Prop} (q : tT (fx C ca X W) (fun s g => fin .tst (f s g)) σ H Q) :
    tE (fx C ca X W) f σ H fun x H' => ∃ k, x = .bl k ∧ Q k H' := by
  obtain ⟨ρ, B, s, g, S, q⟩ := q
  refine ⟨ρ, B, s, g, S, ?_⟩
  have q : Out (fx C ca X W) (rBool B) σ s B ρ H ((f s g).bind fun d g => R.ofO g (truth g d)) Q := q
  refine Out.seq (R1 := rRep X.K B) q fun d g' v H1 ρ1 z e1 S1 r1 h1 => ?_
  obtain ⟨k, rfl⟩ := hb s g d g' z
  cases r1
  have h1 : Out (fx C ca X W) (rBool B) σ s B ρ1 H1 (.ok (.bl k) g') Q := h1
  exact ⟨k, rfl, h1.done S1 rfl⟩
theorem cmp_bl {o : Cop} {s : Sl} {g : G} {d : D} {g' : G} (h : ((fa s g).bind fun x g => (fb s g).bind fun y g => R.ofO g (at2 g x y fun x y => (cop o x y).map .bl)) = .ok d g') : ∃ k, d = .bl k := by
  cases q : fa s g with
  | ok x g1 =>
    rw [q] at h
    have h : ((fb s g1).bind fun y g => R.ofO g (at2 g x y fun x y => (cop o x y).map .bl)) = .ok d g' := h
    cases q2 : fb s g1 with
    | ok y g2 =>
      rw [q2] at h
      have h : R.ofO g2 (at2 g2 x y fun x y => (cop o x y).map .bl) = .ok d g' := h
      cases k : at2 g2 x y fun x y => (cop o x y).map .bl with
      | none => rw [k] at h; cases h
      | some w =>
        rw [k] at h
        cases h
        obtain ⟨x', y', _, _, ez⟩ := at2_some k
        cases m : cop o x' y' with
        | none => rw [m] at ez; cases ez
        | some z => rw [m] at ez; cases ez; exact ⟨z, rfl⟩
    | exc x g2 => rw [q2] at h; cases h
    | bad => rw [q2] at h; cases h
  | exc x g1 => rw [q] at h; cases h
  | bad => rw [q] at h; cases h
abbrev fCmp (o : Cop) (fa fb : Sl → G → R D) : Sl → G → R D := fun s g => (fa s g).bind fun x g => (fb s g).bind fun y g => R.ofO g (at2 g x y fun x y => (cop o x y).map .bl)
theorem cmp_imp {o : Cop} {σ : L2.St} {H : Hp} {Q : VK} (q : tE (fx C ca X W) (fCmp o fa fb) σ H Q) : tOp (rC X.K o) (tR (fx C ca X W) fa) (tR (fx C ca X W) fb) σ H Q := by
  refine two_imp (fun σ s B ρ H g v u x y z Q S vx vy ez h => ?_) q
  cases k : cop o x y with
  | none => rw [k] at ez; cases ez
  | some w =>
    rw [k] at ez
    cases ez
    exact ⟨ρ, B, x, y, w, vx, vy, k, h.done S (.bl w)⟩
theorem e_cmp (hu : X.A.units + 65 < cLine) (o : Cop) (ha : PE X a (tR (fx C ca X W) fa)) (hb : PE X b (tR (fx C ca X W) fb)) (hm : behindInMarks (opOf o) b = false) :
    PE X (.Compare a [opOf o] [b] pos) (tE (fx C ca X W) (fCmp o fa fb)) := (pe_cmpR (op_cop hu o) ha hb hm).impX fun σ H Q q => cmp_imp q
theorem t_cmp (hu : X.A.units + 65 < cLine) (o : Cop) (ha : PE X a (tR (fx C ca X W) fa)) (hb : PE X b (tR (fx C ca X W) fb)) (hm : behindInMarks (opOf o) b = false) :
    PT X (.Compare a [opOf o] [b] pos) (tT (fx C ca X W) fun s g => fin .tst (fCmp o fa fb s g)) :=
  (pt_cmpR (op_cop hu o) ha hb hm).impX fun σ H Q q => cmp_imp (tst_bl (fun _ _ _ _ h => cmp_bl h) q)
/-! ### is None -/
abbrev fIsN (n : Bool) (fa : Sl → G → R D) : Sl → G → R D := fun s g => (fa s g).bind fun x g => .ok (.bl (if n then !decide (x = .non) else decide (x = .non))) g
theorem isN_bl {n : Bool} {s : Sl} {g : G} {d : D} {g' : G} (h : fIsN n fa s g = .ok d g') : ∃ k, d = .bl k := by
  unfold fIsN at h
  cases q : fa s g with
  | ok x g1 => rw [q] at h; cases h; exact ⟨_, rfl⟩
  | exc x g1 => rw [q] at h; cases h
  | bad => rw [q] at h; cases h
theorem rep_non {ρ B : List Addr} {H : Hp} {v : V} {x : D} (r : Rep X.K ρ B H v x) : decide (v = .non) = decide (x = .non) := by cases r <;> simp
theorem isN_imp {σ : L2.St} {H : Hp} {Q : VK} (q : tE (fx C ca X W) (fIsN false fa) σ H Q) : tIsN (tE (fx C ca X W) fa) σ H Q := by
  obtain ⟨ρ, B, s, g, S, q⟩ := q
  refine ⟨ρ, B, s, g, S, Out.seq (R1 := rRep X.K B) q fun x g1 v H1 ρ1 _ e1 S1 r1 h1 => ?_⟩
  rw [rep_non r1]
  exact Out.done (F := fx C ca X W) S1 (.bl _) h1
theorem notN_imp {σ : L2.St} {H : Hp} {Q : VK} (q : tE (fx C ca X W) (fIsN true fa) σ H Q) : tNotN (tE (fx C ca X W) fa) σ H Q := by
  obtain ⟨ρ, B, s, g, S, q⟩ := q
  refine ⟨ρ, B, s, g, S, Out.seq (R1 := rRep X.K B) q fun x g1 v H1 ρ1 _ e1 S1 r1 h1 => ?_⟩
  rw [rep_non r1]
  exact Out.done (F := fx C ca X W) S1 (.bl _) h1
theorem e_isN {j : Nat} {p2 : Pos} (ha : PE X a (tE (fx C ca X W) fa)) : PE X (.Compare a [.Is] [.Constant .none j p2] pos) (tE (fx C ca X W) (fIsN false fa)) := (pe_cmp (pc_isN ha) rfl).impX fun σ H Q q => isN_imp q
theorem e_notN {j : Nat} {p2 : Pos} (ha : PE X a (tE (fx C ca X W) fa)) : PE X (.Compare a [.IsNot] [.Constant .none j p2] pos) (tE (fx C ca X W) (fIsN true fa)) := (pe_cmp (pc_notN ha) rfl).impX fun σ H Q q => notN_imp q
theorem t_isN {j : Nat} {p2 : Pos} (ha : PE X a (tE (fx C ca X W) fa)) : PT X (.Compare a [.Is] [.Constant .none j p2] pos) (tT (fx C ca X W) fun s g => fin .tst (fIsN false fa s g)) :=
  (pt_cmp (pc_isN ha) rfl).impX fun σ H Q q => isN_imp (tst_bl (fun _ _ _ _ h => isN_bl h) q)
theorem t_notN {j : Nat} {p2 : Pos} (ha : PE X a (tE (fx C ca X W) fa)) : PT X (.Compare a [.IsNot] [.Constant .none j p2] pos) (tT (fx C ca X W) fun s g => fin .tst (fIsN true fa s g)) :=
  (pt_cmp (pc_notN ha) rfl).impX fun σ H Q q => notN_imp (tst_bl (fun _ _ _ _ h => isN_bl h) q)
/-! ### a op b op c -/
abbrev fChain (o p : Cop) (fa fb fc : Sl → G → R D) : Sl → G → R D := fun s g => (fa s g).bind fun x g => (fb s g).bind fun y g => match at2 g x y fun x y => (cop o x y).map .bl with
  | some (.bl true) => (fc s g).bind fun z g => R.ofO g (at2 g y z fun y z => (cop p y z).map .bl)
  | some (.bl false) => .ok (.bl false) g
  | _ => .bad
theorem chain_imp {o p : Cop} {σ : L2.St} {H : Hp} {Q : VK} (q : tE (fx C ca X W) (fChain o p fa fb fc) σ H Q) : tChain (rC X.K o) (rC X.K p) (tR (fx C ca X W) fa) (tR (fx C ca X W) fb) (tR (fx C ca X W) fc) σ H Q := by
  obtain ⟨ρ, B, s, g, S, q⟩ := q
  refine ⟨ρ, B, s, g, S, Out.seq (R1 := rRaw X.K B) q fun x g1 v H1 ρ1 _ e1 S1 r1 h1 => ?_⟩
  refine ⟨ρ1, B, s, g1, S1, Out.seq (R1 := rRaw X.K B) h1 fun y g2 u H2 ρ2 _ e2 S2 r2 h2 => ?_⟩
  cases k : at2 g2 x y fun x y => (cop o x y).map .bl with
  | none => rw [k] at h2; exact h2.elim
  | some w =>
    rw [k] at h2
    obtain ⟨x', y', d1, d2, ez⟩ := at2_some k
    cases m : cop o x' y' with
    | none => rw [m] at ez; cases ez
    | some z =>
      rw [m] at ez
      cases ez
      refine ⟨ρ2, B, x', y', z, (r1.ext S1.heap e2).view S2.heap d1, r2.view S2.heap d2, m, z, rfl, ?_⟩
      cases z with
      | false => exact Out.done (F := fx C ca X W) S2 (.bl false) h2
      | true =>
        refine ⟨ρ2, B, s, g2, S2, Out.seq (R1 := rRaw X.K B) (show Out (fx C ca X W) (rRep X.K B) σ s B ρ2 H2 ((fc s g2).bind fun z g => R.ofO g (at2 g y z fun y z => (cop p y z).map .bl)) Q from h2) fun z' g3 t H3 ρ3 _ e3 S3 r3 h3 => ?_⟩
        obtain ⟨z2, ez2, h4⟩ := h3.ofO
        obtain ⟨y2, t2, d3, d4, ez2⟩ := at2_some ez2
        cases m2 : cop p y2 t2 with
        | none => rw [m2] at ez2; cases ez2
        | some w2 =>
          rw [m2] at ez2
          cases ez2
          exact ⟨ρ3, B, y2, t2, w2, (r2.ext S2.heap e3).view S3.heap d3, r3.view S3.heap d4, m2, h4.done S3 (.bl w2)⟩
theorem chain_bl {o p : Cop} {s : Sl} {g : G} {d : D} {g' : G} (h : fChain o p fa fb fc s g = .ok d g') : ∃ k, d = .bl k := by
  unfold fChain at h
  cases q : fa s g with
  | ok x g1 =>
    rw [q] at h
    simp only [R.bind] at h
    cases q2 : fb s g1 with
    | ok y g2 =>
      rw [q2] at h
      simp only at h
      split at h
      · cases q3 : fc s g2 with
        | ok z g3 =>
          rw [q3] at h
          simp only at h
          cases k : at2 g3 y z fun y z => (cop p y z).map .bl with
          | none => rw [k] at h; cases h
          | some w =>
            rw [k] at h
            cases h
            obtain ⟨x', y', _, _, ez⟩ := at2_some k
            cases m : cop p x' y' with
            | none => rw [m] at ez; cases ez
            | some z => rw [m] at ez; cases ez; exact ⟨z, rfl⟩
        | exc x g3 => rw [q3] at h; cases h
        | bad => rw [q3] at h; cases h
      · cases h; exact ⟨_, rfl⟩
      · cases h
    | exc x g2 => rw [q2] at h; cases h
    | bad => rw [q2] at h; cases h
  | exc x g1 => rw [q] at h; cases h
  | bad => rw [q] at h; cases h
theorem e_chain (hu : X.A.units + 65 < cLine) (o p : Cop) (ha : PE X a (tR (fx C ca X W) fa)) (hb : PE X b (tR (fx C ca X W) fb)) (hc : PE X c (tR (fx C ca X W) fc)) (hm : lastMarks [opOf o, opOf p] [b, c] = false) :
    PE X (.Compare a [opOf o, opOf p] [b, c] pos) (tE (fx C ca X W) (fChain o p fa fb fc)) := (pe_chain (op_cop hu o) (op_cop hu p) ha hb hc hm).impX fun σ H Q q => chain_imp q
theorem t_chain (hu : X.A.units + 65 < cLine) (o p : Cop) (ha : PE X a (tR (fx C ca X W) fa)) (hb : PE X b (tR (fx C ca X W) fb)) (hc : PE X c (tR (fx C ca X W) fc)) (hm : lastMarks [opOf o, opOf p] [b, c] = false) :
    PT X (.Compare a [opOf o, opOf p] [b, c] pos) (tT (fx C ca X W) fun s g => fin .tst (fChain o p fa fb fc s g)) :=
  (pt_chain (op_cop hu o) (op_cop hu p) ha hb hc hm).impX fun σ H Q q => chain_imp (tst_bl (fun _ _ _ _ h => chain_bl h) q)

/-! ### truth -/
theorem view_tru {ρ B : List Addr} {H : Hp} {v : V} {x : D} {k : Bool} (h : View X.K ρ B H v x) (e : tru x = some k) : TruV X.K v H k := by
  cases x with
  | non => rw [h.non]; cases e; rfl
  | bl b => rw [h.bl]; cases e; rfl
  | int i => rw [h.int]; cases e; rfl
  | str t =>
    rw [h.str]
    have e' : (if t.length ≤ LIM then some (!t.isEmpty) else none) = some k := e
    by_cases q : t.length ≤ LIM
    · rw [if_pos q] at e'
      cases e'
      refine ⟨by rw [mkS_length]; exact lim_line q, ?_⟩
      rw [mkS_length]
      cases t <;> simp <;> omega
    · rw [if_neg q] at e'; cases e'
  | tup xs =>
    obtain ⟨a, vs, rfl, h1, r⟩ := h.tup
    cases e
    exact .inr (.inl ⟨vs, h1, by cases r <;> rfl⟩)
  | lst xs =>
    obtain ⟨a, vs, rfl, h1, r⟩ := h.list
    cases e
    exact .inl ⟨vs, h1, by cases r <;> rfl⟩
  | dic xs => cases e
  | ref l => cases e
theorem raw_tru {ρ B : List Addr} {H : Hp} {g : G} {v : V} {x d : D} (hh : HeapOk X.K ρ B H g) (h : Raw X.K ρ B H v x) (e : truth g x = some d) : ∃ k, d = .bl k ∧ TruV X.K v H k := by
  unfold truth at e
  cases q : deref g x with
  | none => rw [q] at e; cases e
  | some y =>
    rw [q] at e
    have e : (tru y).map D.bl = some d := e
    cases k : tru y with
    | none => rw [k] at e; cases e
    | some b =>
      rw [k] at e
      cases e
      exact ⟨b, rfl, view_tru (h.view hh q) k⟩
/-- an expression whose test is its value's truth -/
theorem t_plain (ha : PE X a (tR (fx C ca X W) fa)) (he : ∀ whole, isTrue a X.env whole = (do let v ← whole; standAt a.pos; holding [v] (truthy v))) : PT X a (tT (fx C ca X W) fun s g => fin .tst (fa s g)) := by
  refine (pt_truth ha he).impX fun σ H Q ⟨ρ, B, s, g, S, q⟩ => ?_
  have q : Out (fx C ca X W) (rBool B) σ s B ρ H ((fa s g).bind fun d g => R.ofO g (truth g d)) Q := q
  refine ⟨ρ, B, s, g, S, Out.seq (R1 := rRaw X.K B) q fun x g1 v H1 ρ1 _ e1 S1 r1 h1 => ?_⟩
  obtain ⟨z, ez, h2⟩ := h1.ofO
  obtain ⟨k, rfl, h3⟩ := raw_tru S1.heap r1 ez
  exact ⟨k, h3, h2.done S1 rfl⟩
/-! ### not, and, or, if-else -/
abbrev fNot (fa : Sl → G → R D) : Sl → G → R D := fun s g => (fa s g).bind fun x g => match x with
  | .bl b => .ok (.bl (!b)) g
  | _ => .bad
theorem not_bl {s : Sl} {g : G} {d : D} {g' : G} (h : fNot fa s g = .ok d g') : ∃ k, d = .bl k := by
  unfold fNot at h
  cases q : fa s g with
  | ok x g1 =>
    rw [q] at h
    simp only [R.bind] at h
    split at h
    · cases h; exact ⟨_, rfl⟩
    · cases h
  | exc x g1 => rw [q] at h; cases h
  | bad => rw [q] at h; cases h
theorem t_not (ha : PT X a (tT (fx C ca X W) fa)) : PT X (.UnaryOp .Not a pos) (tT (fx C ca X W) fun s g => fin .tst (fNot fa s g)) := by
  refine (pt_not ha).impX fun σ H Q q => ?_
  obtain ⟨ρ, B, s, g, S, q⟩ := q
  have q : Out (fx C ca X W) (rBool B) σ s B ρ H ((fNot fa s g).bind fun d g => R.ofO g (truth g d)) Q := q
  have q : Out (fx C ca X W) (rBool B) σ s B ρ H ((fa s g).bind fun x g => (match x with
    | .bl b => .ok (.bl (!b)) g
    | _ => .bad : R D).bind fun d g => R.ofO g (truth g d)) Q := by
    have : ((fNot fa s g).bind fun d g => R.ofO g (truth g d)) = ((fa s g).bind fun x g => (match x with
    | .bl b => .ok (.bl (!b)) g
    | _ => .bad : R D).bind fun d g => R.ofO g (truth g d)) := by
      unfold fNot
      cases fa s g <;> rfl
    rw [← this]; exact q
  refine ⟨ρ, B, s, g, S, Out.seq (R1 := rBool B) q fun x g1 b H1 ρ1 _ e1 S1 r1 h1 => ?_⟩
  have r1' : x = .bl b := r1
  subst r1'
  have h1 : Out (fx C ca X W) (rBool B) σ s B ρ1 H1 (.ok (.bl (!b)) g1) Q := h1
  exact h1.done S1 rfl
theorem e_not (ha : PE X a (tR (fx C ca X W) fa)) : PE X (.UnaryOp .Not a pos) (tE (fx C ca X W) (fNot fun s g => fin .tst (fa s g))) := by
  refine (pe_notT ha).impX fun σ H Q ⟨ρ, B, s, g, S, q⟩ => ?_
  have q : Out (fx C ca X W) (rRep X.K B) σ s B ρ H ((fa s g).bind fun x g => (R.ofO g (truth g x)).bind fun x g => match x with
    | .bl b => .ok (.bl (!b)) g
    | _ => .bad) Q := by
    have : fNot (fun s g => fin .tst (fa s g)) s g = ((fa s g).bind fun x g => (R.ofO g (truth g x)).bind fun x g => match x with
    | .bl b => .ok (.bl (!b)) g
    | _ => .bad) := by
      show (((fa s g).bind fun d g => R.ofO g (truth g d)).bind _) = _
      cases fa s g <;> rfl
    rw [← this]; exact q
  refine ⟨ρ, B, s, g, S, Out.seq (R1 := rRaw X.K B) q fun x g1 v H1 ρ1 _ e1 S1 r1 h1 => ?_⟩
  cases k : truth g1 x with
  | none => rw [k] at h1; exact h1.elim
  | some z =>
    rw [k] at h1
    obtain ⟨b, rfl, h3⟩ := raw_tru S1.heap r1 k
    have h1 : Out (fx C ca X W) (rRep X.K B) σ s B ρ1 H1 (.ok (.bl (!b)) g1) Q := h1
    exact ⟨b, h3, h1.done S1 (.bl _)⟩
abbrev fAndT (fa fb : Sl → G → R D) : Sl → G → R D := fun s g => (fa s g).bind fun x g => if x = .bl true then fb s g else .ok (.bl false) g
abbrev fOrT (fa fb : Sl → G → R D) : Sl → G → R D := fun s g => (fa s g).bind fun x g => if x = .bl true then .ok (.bl true) g else fb s g
theorem w_and {rest : List Expr} (ha : PT X a (tT (fx C ca X W) fa)) (hb : PW X (.BoolOp .And (b :: rest) pos) (tT (fx C ca X W) fb)) : PW X (.BoolOp .And (a :: b :: rest) pos) (tT (fx C ca X W) (fAndT fa fb)) := by
  refine (pw_and ha hb).impX fun σ H Q ⟨ρ, B, s, g, S, q⟩ => ?_
  refine ⟨ρ, B, s, g, S, Out.seq (R1 := rBool B) q fun x g1 k H1 ρ1 _ e1 S1 r1 h1 => ?_⟩
  have r1' : x = .bl k := r1
  subst r1'
  cases k with
  | true =>
    rw [if_pos rfl] at h1
    rw [if_pos rfl]
    exact ⟨ρ1, B, s, g1, S1, h1⟩
  | false =>
    rw [if_neg (by simp)] at h1
    rw [if_neg (by simp)]
    exact Out.done (F := fx C ca X W) S1 rfl h1
theorem w_or {rest : List Expr} (ha : PT X a (tT (fx C ca X W) fa)) (hb : PW X (.BoolOp .Or (b :: rest) pos) (tT (fx C ca X W) fb)) : PW X (.BoolOp .Or (a :: b :: rest) pos) (tT (fx C ca X W) (fOrT fa fb)) := by
  refine (pw_or ha hb).impX fun σ H Q ⟨ρ, B, s, g, S, q⟩ => ?_
  refine ⟨ρ, B, s, g, S, Out.seq (R1 := rBool B) q fun x g1 k H1 ρ1 _ e1 S1 r1 h1 => ?_⟩
  have r1' : x = .bl k := r1
  subst r1'
  cases k with
  | false =>
    rw [if_neg (by simp)] at h1
    rw [if_neg (by simp)]
    exact ⟨ρ1, B, s, g1, S1, h1⟩
  | true =>
    rw [if_pos rfl] at h1
    rw [if_pos rfl]
    exact Out.done (F := fx C ca X W) S1 rfl h1
abbrev fAnd (fa fb : Sl → G → R D) : Sl → G → R D := fun s g => (fa s g).bind fun x g => match x with
  | .bl true => fb s g
  | .bl false => .ok (.bl false) g
  | _ => .bad
abbrev fOr (fa fb : Sl → G → R D) : Sl → G → R D := fun s g => (fa s g).bind fun x g => match x with
  | .bl true => .ok (.bl true) g
  | .bl false => fb s g
  | _ => .bad
theorem e_and {rest : List Expr} (ha : PE X a (tE (fx C ca X W) fa)) (hb : PE X (.BoolOp .And (b :: rest) pos) (tE (fx C ca X W) fb)) : PE X (.BoolOp .And (a :: b :: rest) pos) (tE (fx C ca X W) (fAnd fa fb)) := by
  refine (pe_and ha hb).impX fun σ H Q ⟨ρ, B, s, g, S, q⟩ => ?_
  refine ⟨ρ, B, s, g, S, Out.seq (R1 := rRep X.K B) q fun x g1 v H1 ρ1 _ e1 S1 r1 h1 => ?_⟩
  split at h1
  · cases r1
    exact ⟨true, rfl, by rw [if_pos rfl]; exact ⟨ρ1, B, s, g1, S1, h1⟩⟩
  · cases r1
    exact ⟨false, rfl, by rw [if_neg (by simp)]; exact Out.done (F := fx C ca X W) S1 (.bl false) h1⟩
  · exact h1.elim
theorem e_or {rest : List Expr} (ha : PE X a (tE (fx C ca X W) fa)) (hb : PE X (.BoolOp .Or (b :: rest) pos) (tE (fx C ca X W) fb)) : PE X (.BoolOp .Or (a :: b :: rest) pos) (tE (fx C ca X W) (fOr fa fb)) := by
  refine (pe_or ha hb).impX fun σ H Q ⟨ρ, B, s, g, S, q⟩ => ?_
  refine ⟨ρ, B, s, g, S, Out.seq (R1 := rRep X.K B) q fun x g1 v H1 ρ1 _ e1 S1 r1 h1 => ?_⟩
  split at h1
  · cases r1
    exact ⟨true, rfl, by rw [if_pos rfl]; exact Out.done (F := fx C ca X W) S1 (.bl true) h1⟩
  · cases r1
    exact ⟨false, rfl, by rw [if_neg (by simp)]; exact ⟨ρ1, B, s, g1, S1, h1⟩⟩
  · exact h1.elim
theorem e_ite (hc : PT X c (tT (fx C ca X W) fc)) (ha : PE X a (tE (fx C ca X W) fa)) (hb : PE X b (tE (fx C ca X W) fb)) : PE X (.IfExp c a b pos) (tE (fx C ca X W) fun s g => (fc s g).bind fun x g => if x = .bl true then fa s g else fb s g) := by
  refine (pe_ifExp hc ha hb).impX fun σ H Q ⟨ρ, B, s, g, S, q⟩ => ?_
  refine ⟨ρ, B, s, g, S, Out.seq (R1 := rBool B) q fun x g1 k H1 ρ1 _ e1 S1 r1 h1 => ?_⟩
  have r1' : x = .bl k := r1
  subst r1'
  cases k with
  | true =>
    rw [if_pos rfl] at h1
    rw [if_pos rfl]
    exact ⟨ρ1, B, s, g1, S1, h1⟩
  | false =>
    rw [if_neg (by simp)] at h1
    rw [if_neg (by simp)]
    exact ⟨ρ1, B, s, g1, S1, h1⟩
/-- .. as a test -/
theorem t_ite (hc : PT X c (tT (fx C ca X W) fc)) (ha : PT X a (tT (fx C ca X W) fa)) (hb : PT X b (tT (fx C ca X W) fb)) : PT X (.IfExp c a b pos) (tT (fx C ca X W) fun s g => (fc s g).bind fun x g => if x = .bl true then fa s g else fb s g) := by
  refine ⟨fun pins s0 σ H Q I ⟨ρ, B, s, g, S, q⟩ => ?_⟩
  refine PyProof.Rows.isTrue_IfExp (thn (hc.run pins s0 σ H (fun k H1 => if k = true then tT (fx C ca X W) fa σ H1 Q else tT (fx C ca X W) fb σ H1 Q) I ⟨ρ, B, s, g, S, Out.seq (R1 := rBool B) q fun x g1 k H1 ρ1 _ e1 S1 r1 h1 => ?_⟩) fun d s1 ⟨H1, I1, q1⟩ => ?_)
  · have r1' : x = .bl k := r1
    subst r1'
    cases k with
    | true =>
      rw [if_pos rfl] at h1
      rw [if_pos rfl]
      exact ⟨ρ1, B, s, g1, S1, h1⟩
    | false =>
      rw [if_neg (by simp)] at h1
      rw [if_neg (by simp)]
      exact ⟨ρ1, B, s, g1, S1, h1⟩
  · cases d with
    | true => exact ha.run pins s1 σ H1 Q I1 q1
    | false => exact hb.run pins s1 σ H1 Q I1 q1
end
end PX
end
section
set_option Elab.async false
set_option linter.all false
set_option maxRecDepth 100000
set_option autoImplicit false
set_option maxHeartbeats 1000000
/-! PXg: subscripts, slices, isinstance, the built-ins of one value. -/
namespace PX
open PySem L2 PySem.Spec PyProof.Rows
theorem RepL.mapGet {K : Fg} {ρ B : List Addr} {H : Hp} {vs : List V} {ds : List D} {i : Int} {d : D} (r : RepL K ρ B H vs ds) (h : getI ds i = some d) : ∃ v, atI vs i = some v ∧ Rep K ρ B H v d := by
  unfold getI at h
  unfold atI
  cases q : ixOf ds.length i with
  | none => rw [q] at h; cases h
  | some j =>
    rw [q] at h
    have e : ixN vs.length i = some j := by
      rw [r.length]
      unfold ixOf at q
      unfold ixN
      by_cases h0 : 0 ≤ i
      · rw [if_pos h0] at q ⊢; exact q
      · rw [if_neg h0] at q ⊢
        by_cases h1 : 0 ≤ i + (ds.length : Int)
        · rw [if_pos h1] at q
          rw [if_pos (by omega)]; exact q
        · rw [if_neg h1] at q; cases q
    rw [e]
    exact r.get h
theorem atI_of_getI {α : Type} {xs : List α} {i : Int} {d : α} (h : getI xs i = some d) : atI xs i = some d := by
  unfold getI at h
  unfold atI
  cases q : ixOf xs.length i with
  | none => rw [q] at h; cases h
  | some j =>
    rw [q] at h
    have e : ixN xs.length i = some j := by
      unfold ixOf at q
      unfold ixN
      by_cases h0 : 0 ≤ i
      · rw [if_pos h0] at q ⊢; exact q
      · rw [if_neg h0] at q ⊢
        by_cases h1 : 0 ≤ i + (xs.length : Int)
        · rw [if_pos h1] at q
          rw [if_pos (by omega)]; exact q
        · rw [if_neg h1] at q; cases q
    rw [e]
    exact h
theorem idx_some {x y z : D} (h : idx x y = some z) : (∃ ds i, x = .lst ds ∧ y = .int i ∧ getI ds i = some z) ∨ (∃ ds i, x = .tup ds ∧ y = .int i ∧ getI ds i = some z) ∨
    ∃ t i ch, x = .str t ∧ y = .int i ∧ t.length ≤ LIM ∧ getI t i = some ch ∧ z = .str [ch] := by
  cases x with
  | lst ds =>
    cases y with
    | int i => exact .inl ⟨ds, i, rfl, rfl, h⟩
    | _ => cases h
  | tup ds =>
    cases y with
    | int i => exact .inr (.inl ⟨ds, i, rfl, rfl, h⟩)
    | _ => cases h
  | str t =>
    cases y with
    | int i =>
      have h : (if t.length ≤ LIM then (getI t i).map (fun c => D.str [c]) else none) = some z := h
      by_cases k : t.length ≤ LIM
      · rw [if_pos k] at h
        cases q : getI t i with
        | none => rw [q] at h; cases h
        | some ch => rw [q] at h; exact .inr (.inr ⟨t, i, ch, rfl, rfl, k, q, (Option.some.inj h).symm⟩)
      · rw [if_neg k] at h; cases h
    | _ => cases h
  | _ => cases y <;> cases h
section
variable {X : Cx} {C : Cfg} {ca : Nat → Addr} {W : WX} {e a b c lo hi : Expr} {pos p2 : Pos} {fa fb fc : Sl → G → R D}
/-! ### a[i] -/
theorem e_idx (ha : PE X a (tR (fx C ca X W) fa)) (hb : PE X b (tE (fx C ca X W) fb)) (hs : PlainIx b) :
    PE X (.Subscript a b pos) (tE (fx C ca X W) fun s g => (fa s g).bind fun x g => (fb s g).bind fun y g => R.ofO g (at1 g x fun x => idx x y)) := by
  refine (pe_ix ix_seq ha hb hs).impX fun σ H Q ⟨ρ, B, s, g, S, q⟩ => ?_
  refine ⟨ρ, B, s, g, S, Out.seq (R1 := rRaw X.K B) q fun x g1 v H1 ρ1 _ e1 S1 r1 h1 => ?_⟩
  refine ⟨ρ1, B, s, g1, S1, Out.seq (R1 := rRep X.K B) h1 fun y g2 u H2 ρ2 _ e2 S2 r2 h2 => ?_⟩
  obtain ⟨z, ez, h3⟩ := h2.ofO
  obtain ⟨x', d1, ez⟩ := at1_some ez
  have vx := (r1.ext S1.heap e2).view S2.heap d1
  rcases idx_some ez with ⟨ds, i, rfl, rfl, ez⟩ | ⟨ds, i, rfl, rfl, ez⟩ | ⟨t, i, ch, rfl, rfl, hl, ec, rfl⟩
  · cases r2
    obtain ⟨p, vs, rfl, h4, r4⟩ := vx.list
    obtain ⟨w, e4, r5⟩ := r4.mapGet ez
    exact .inl ⟨p, vs, i, w, rfl, rfl, h4, e4, h3.done S2 r5⟩
  · cases r2
    obtain ⟨p, vs, rfl, h4, r4⟩ := vx.tup
    obtain ⟨w, e4, r5⟩ := r4.mapGet ez
    exact .inr (.inl ⟨p, vs, i, w, rfl, rfl, h4, e4, h3.done S2 r5⟩)
  · cases r2
    exact .inr (.inr ⟨mkS t, i, ch, vx.str, rfl, by rw [mkS_length]; exact lim_line hl, by rw [mkS_toList]; exact atI_of_getI ec, h3.done S2 (.str [ch])⟩)
/-! ### a[lo:hi] -/
theorem cutAt_sIx (n d : Nat) (o : Option Int) : HT.sIx n d o = cutAt n d o := by cases o <;> rfl
theorem RepL.cut' {K : Fg} {ρ B : List Addr} {H : Hp} {vs : List V} {ds : List D} (lo hi : Option Int) (r : RepL K ρ B H vs ds) : RepL K ρ B H (cutV vs lo hi) (PX.cut ds lo hi) := by
  unfold cutV PX.cut
  rw [cutAt_sIx, cutAt_sIx, r.length]
  exact (r.drop _).take _
theorem cut_all {α : Type} {xs : List α} {lo hi : Option Int} (h : HT.sIx xs.length 0 lo = 0 ∧ HT.sIx xs.length xs.length hi = xs.length) : PX.cut xs lo hi = xs := by
  unfold PX.cut
  rw [← cutAt_sIx, ← cutAt_sIx, h.1, h.2, List.drop_zero, Nat.sub_zero]
  exact List.take_of_length_le (Nat.le_refl _)
theorem txt_slice (t : Txt) (lo hi : Option Int) : cutS (mkS t) lo hi = mkS (PX.cut t lo hi) := by
  unfold cutS PX.cut
  rw [mkS_toList, mkS_length, cutAt_sIx, cutAt_sIx]
  rfl
/-- what a bound's reading is by the interpreter's -/
def fB (k : Bool) (f : Sl → G → R D) : Sl → G → R (Option Int) := fun s g => (f s g).bind fun d g => R.ofO g (bd k d)
theorem op_slc {kl kh : Bool} (ha : PE X a (tR (fx C ca X W) fa)) {lo hi : Option Expr} {tl th : TO} (hl : L2.PO X lo tl) (hh : L2.PO X hi th)
    (il : ∀ σ H Q, tI (fx C ca X W) (fun _ _ _ (v : Option Int) d => v = d) (fB kl fb) σ H Q → tl σ H Q) (ih : ∀ σ H Q, tI (fx C ca X W) (fun _ _ _ (v : Option Int) d => v = d) (fB kh fc) σ H Q → th σ H Q) :
    PE X (.Subscript a (.Slice lo hi none p2) pos) (tE (fx C ca X W) fun s g => (fa s g).bind fun x g => (fB kl fb s g).bind fun l g => (fB kh fc s g).bind fun h g => R.ofO g (at1 g x fun x => slc x l h)) := by
  refine (pe_slice (sl_list.or (sl_tupA.or sl_str)) ha hl hh).impX fun σ H Q ⟨ρ, B, s, g, S, q⟩ => ?_
  refine ⟨ρ, B, s, g, S, Out.seq (R1 := rRaw X.K B) q fun x g1 v H1 ρ1 _ e1 S1 r1 h1 => ?_⟩
  refine il _ _ _ ⟨ρ1, B, s, g1, S1, Out.seq (R1 := fun _ _ (v : Option Int) d => v = d) h1 fun l g2 l' H2 ρ2 _ e2 S2 el h2 => ?_⟩
  subst el
  refine ih _ _ _ ⟨ρ2, B, s, g2, S2, Out.seq (R1 := fun _ _ (v : Option Int) d => v = d) h2 fun h g3 h' H3 ρ3 _ e3 S3 eh h3 => ?_⟩
  subst eh
  obtain ⟨z, ez, h4⟩ := h3.ofO
  obtain ⟨x', d1, ez⟩ := at1_some ez
  have vx := (r1.ext S1.heap (e2.trans e3)).view S3.heap d1
  cases x' with
  | lst ds =>
    cases ez
    obtain ⟨p, vs, rfl, h5, r5⟩ := vx.list
    exact .inl ⟨p, vs, rfl, h5, fun p hp => h4.newL S3 (r5.cut' _ _) hp⟩
  | tup ds =>
    cases ez
    obtain ⟨p, vs, rfl, h5, r5⟩ := vx.tup
    refine .inr (.inl ⟨p, vs, rfl, h5, fun w => ?_, fun _ p hp => h4.newT S3 (r5.cut' _ _) hp⟩)
    rw [r5.length] at w
    rw [cut_all w] at h4
    exact h4.done S3 (.tup h5 r5)
  | str t =>
    have ez : (if t.length ≤ LIM then some (D.str (PX.cut t l' h')) else none) = some z := ez
    by_cases k : t.length ≤ LIM
    · rw [if_pos k] at ez
      cases ez
      refine .inr (.inr ⟨mkS t, vx.str, by rw [mkS_length]; exact lim_line k, ?_⟩)
      rw [txt_slice]
      exact h4.done S3 (.str _)
    · rw [if_neg k] at ez; cases ez
  | _ => cases ez
theorem b_none (σ : L2.St) (H : Hp) (Q : Option Int → Hp → Prop) (q : tI (fx C ca X W) (fun _ _ _ (v : Option Int) d => v = d) (fB true fun _ g => .ok .non g) σ H Q) : tNoPart σ H Q := by
  obtain ⟨ρ, B, s, g, S, q⟩ := q
  exact q _ _ _ Ext.refl S rfl
theorem b_some (σ : L2.St) (H : Hp) (Q : Option Int → Hp → Prop) (q : tI (fx C ca X W) (fun _ _ _ (v : Option Int) d => v = d) (fB false fb) σ H Q) : tPart (tE (fx C ca X W) fb) σ H Q := by
  obtain ⟨ρ, B, s, g, S, q⟩ := q
  refine ⟨ρ, B, s, g, S, Out.seq (R1 := rRep X.K B) q fun x g1 v H1 ρ1 z e1 S1 r1 h1 => ?_⟩
  obtain ⟨l, el, h2⟩ := h1.ofO
  cases x with
  | int i =>
    cases el
    cases r1
    exact ⟨i, rfl, h2.done S1 rfl⟩
  | _ => cases el
end
end PX
end
section
set_option Elab.async false
set_option linter.all false
set_option maxRecDepth 100000
set_option autoImplicit false
set_option maxHeartbeats 1000000
/-! PXh: a[::-1], -a, isinstance, the built-ins of one value. -/
namespace PX
open PySem L2 PySem.Spec PyProof.Rows
section
variable {prog : Program} {w : World} {A : Around} {E : Value → Shared → Prop} {s : Shared}
theorem places_back (n : Nat) : Builtin.Slice.sliceAdjust none none (-1) (n : Int) = ((n : Int) - 1, -1) ∧ Builtin.Slice.slicePlaces ((n : Int) - 1) (-1) (-1) = n := by
  refine ⟨by simp [Builtin.Slice.sliceAdjust], ?_⟩
  unfold Builtin.Slice.slicePlaces
  rw [if_neg (show ¬ ((-1 : Int) > 0) by decide)]
  by_cases h : (n : Int) - 1 > -1
  · rw [if_pos h]
    have e : ((n : Int) - 1 - -1 - 1) / (- -1) + 1 = (n : Int) := by
      rw [show (- -1 : Int) = 1 by decide, Int.ediv_one]; omega
    rw [e, Int.toNat_natCast]
  · rw [if_neg h]; omega
theorem pick_back (xs : Array Value) : ((List.range xs.size).filterMap fun (m : Nat) => xs[(((xs.size : Nat) : Int) - 1 + (m : Int) * (-1)).toNat]?).toArray = xs.toList.reverse.toArray := by
  have e : ((List.range xs.size).filterMap fun (m : Nat) => xs[(((xs.size : Nat) : Int) - 1 + (m : Int) * (-1)).toNat]?) = (((List.range xs.size).map fun k => xs.size - 1 - k)).filterMap (xs[·]?) := by
    rw [List.filterMap_map]
    have : ∀ (l : List Nat), (∀ m ∈ l, m < xs.size) → (l.filterMap fun (m : Nat) => xs[(((xs.size : Nat) : Int) - 1 + (m : Int) * (-1)).toNat]?) = l.filterMap ((xs[·]?) ∘ fun k => xs.size - 1 - k) := by
      intro l
      induction l with
      | nil => intro _; rfl
      | cons m l ih =>
        intro hm
        have h0 := hm m List.mem_cons_self
        have e0 : (((xs.size : Nat) : Int) - 1 + (m : Int) * (-1)).toNat = xs.size - 1 - m := by omega
        simp only [List.filterMap_cons, e0, ih fun k hk => hm k (List.mem_cons_of_mem _ hk), Function.comp]
    exact this _ fun m hm => List.mem_range.mp hm
  rw [e, PySem.W.krv_range, List.filterMap_reverse, PySem.W.krv_all]
theorem applied_back {sl : Addr} {t : Tok} {n : Nat} {Q : Int × Int × Nat → Shared → Prop} (hs : s.heap.IsSliceOf sl .none .none (.int (-1) t)) (h : Q ((n : Int) - 1, -1, n) s) :
    wpAny (model prog w) A (Builtin.Slice.sliceApplied (.ref sl) (pure (n : Int))) Q E s := by
  obtain ⟨os, hos, hcs, hds⟩ := id hs
  unfold Builtin.Slice.sliceApplied Builtin.Slice.sliceFields
  refine wpAny_bind (wpAny_bind (wpAny_field hos hds (x := .none) rfl (wpAny_bind (wpAny_field hos hds (x := .none) rfl (wpAny_bind (wpAny_field hos hds (x := .int (-1) t) rfl (wpAny_pure ?_)))))))
  refine wpAny_bind (HT.slicePart_ (.int (-1) t) ?_)
  show wpAny _ _ (if ((-1 : Int) == 0) = true then _ else _) _ _ s
  rw [if_neg (by decide)]
  refine wpAny_bind (HT.slicePart_ .none (wpAny_bind (HT.slicePart_ .none (wpAny_bind (wpAny_pure ?_)))))
  show wpAny _ _ (match Builtin.Slice.sliceAdjust none none (-1) (n : Int) with | (lo, hi) => pure (lo, (-1 : Int), Builtin.Slice.slicePlaces lo hi (-1))) _ _ s
  rw [(places_back n).1]
  show wpAny _ _ (pure ((n : Int) - 1, (-1 : Int), Builtin.Slice.slicePlaces ((n : Int) - 1) (-1) (-1))) _ _ s
  rw [(places_back n).2]
  exact wpAny_pure h
theorem getItem_back {t sl : Addr} {items : Array Value} {tk : Tok} {Q : Value → Shared → Prop} (ht : IsTup s.heap t items) (hs : s.heap.IsSliceOf sl .none .none (.int (-1) tk))
    (h : Q (.ref s.heap.objs.size) { s with heap := s.heap.push { cls := .type "tuple", data := .seq items.toList.reverse.toArray } }) (hsz : items.size ≤ sizeLine) : wpAny (model prog w) A (getItem (.ref t) (.ref sl)) Q E s := by
  have hz : sizeOk (.seq items.toList.reverse.toArray) := by
    show items.toList.reverse.toArray.size ≤ sizeLine
    rw [List.size_toArray, List.length_reverse, Array.length_toList]
    exact hsz
  have hTs : s.TypeIs (.ref sl) "slice" := by
    obtain ⟨os, hos, hcs, hds⟩ := id hs
    exact ⟨os, hos, hcs⟩
  unfold getItem
  try with_reducible refine wpAny_holding ?_
  first | refine wpAny_bind (wpAny_pure ?_) | skip
  refine wpAny_bind (wpAny_sequenceKey ht.typeIs (by decide) ?_)
  refine wpAny_bind (wpAny_callSpecial?_slot (name := Str.ofString "__getitem__") ht.typeIs PyProof.Rows.slot_tuple_getitem
    (wpAny_call_entry PyProof.Rows.slot_tuple_getitem ht.typeIs PyProof.Rows.entry_tuple_getitem ?_ (PyProof.Rows.args_tuple_getitem _ _)))
  show wpAny _ _ (Builtin.Tuple.tupleItemsOf (.ref t) >>= _) _ _ s
  refine wpAny_bind (PyProof.Rows.tupleItemsOf_ ht ?_)
  refine wpAny_bind (wpAny_typeOf hTs ?_)
  rw [if_pos (by decide)]
  refine wpAny_bind (applied_back hs ?_)
  have hno : ¬ ((((items.size : Nat) : Int) - 1 == 0 && (-1 : Int) == 1 && items.size == items.size) = true) := by
    rw [show ((-1 : Int) == 1) = false from rfl, Bool.and_false, Bool.false_and]
    exact Bool.false_ne_true
  show wpAny _ _ (if (((items.size : Nat) : Int) - 1 == 0 && (-1 : Int) == 1 && items.size == items.size) = true then _ else _) _ _ s
  rw [if_neg hno, pick_back]
  first
    | exact wpAny_bind (m := Builtin.Tuple.tupleExact _) (wpAny_newObj_type (wpAny_pure ⟨_, rfl, wpAny_pure h⟩) hz)
    | exact wpAny_bind (m := Builtin.Tuple.tupleExact _) (wpAny_newObj_type (wpAny_bind (wpAny_pure (wpAny_pure ⟨_, rfl, wpAny_pure h⟩))) hz)
    | exact wpAny_bind (wpAny_bind (m := Builtin.Tuple.tupleExact _) (wpAny_newObj_type (wpAny_pure (wpAny_pure ⟨_, rfl, wpAny_pure h⟩)) hz))
    | exact wpAny_bind (wpAny_bind (m := Builtin.Tuple.tupleExact _) (wpAny_newObj_type (wpAny_pure ⟨_, rfl, wpAny_pure h⟩) hz))
end
section
variable {X : Cx} {C : Cfg} {ca : Nat → Addr} {W : WX} {e a b c lo hi : Expr} {pos p1 p2 p3 : Pos} {fa fb fc : Sl → G → R D} {k : Nat}
def tBack (K : Fg) (te : TE) : TE := fun σ H Q => te σ H fun x H1 => ∃ a xs, x = .ref a ∧ ((SqL K H1 a xs ∧ ∀ p, H1 p = none → Q (.ref p) (upd H1 p (.lst xs.reverse))) ∨ (SqT K H1 a xs ∧ ∀ p, H1 p = none → Q (.ref p) (upd H1 p (.tup xs.reverse))))
theorem pe_back {te : TE} (he : PE X e te) : PE X (.Subscript e (.Slice none none (some (.UnaryOp .USub (.Constant (.int 1) k p1) p2)) p3) pos) (tBack X.K te) := by
  refine ⟨fun pins s σ H Q I h => ?_⟩
  refine Subscript_ (thn (he.run pins s σ H _ I h) fun v s1 ⟨x, H1, I1, r1, q1⟩ => ?_)
  obtain ⟨a, xs, ex, q⟩ := q1
  subst ex
  cases r1
  have hst : L2.PO X (some (.UnaryOp .USub (.Constant (.int 1) k p1) p2)) (tPart (tUn (rU fun i => .int (-i)) (tC (.int 1)))) := po_some (pe_un un_neg pe_int)
  refine wpAny_Slice (thn (po_none.run pins s1 σ H1 (fun o H2 => o = none ∧ H2 = H1) I1 ⟨rfl, rfl⟩) fun vl s2 ⟨l, H2, I2, pl, el, e2⟩ => ?_)
  subst el e2
  refine thn (po_none.run pins s2 σ H2 (fun o H3 => o = none ∧ H3 = H2) I2 ⟨rfl, rfl⟩) fun vu s3 ⟨u, H3, I3, pu, eu, e3⟩ => ?_
  subst eu e3
  refine thn (hst.run pins s3 σ H3 (fun o H4 => o = some (-1) ∧ H4 = H3) I3 ⟨1, rfl, -1, rfl, rfl, rfl⟩) fun vs s4 ⟨o, H4, I4, ps, eo, e4⟩ => ?_
  subst eo e4
  have I5 : Inv X pins σ H4 { s4 with heap := s4.heap.push { cls := .type "slice", data := .fields #[vl, vu, vs] } } := I4.kept (t' := s4.toks) fun b ob q => Heap.get?_push_of_some _ q
  show wpAny (model X.prog X.w) X.A (subscriptTail e (.Slice none none (some (.UnaryOp .USub (.Constant (.int 1) k p1) p2)) p3) (.ref a) (.ref s4.heap.objs.size)) (EP X pins σ Q) X.xe { s4 with heap := s4.heap.push { cls := .type "slice", data := .fields #[vl, vu, vs] } }
  rcases q with ⟨hx, q⟩ | ⟨hx, q⟩
  · obtain ⟨its, r, ht, hz⟩ := I5.list hx
    have hlen := r.length
    refine tail_any (ops := [.ref a, .ref s4.heap.objs.size]) ht.isList.typeIs (PySem.slot_list_getitem.lookup) ?_ (by with_unfolding_all rfl)
    refine wpAny_getItem_list_slice ht.isList (Heap.IsSliceOf.new _ vl vu vs) pl pu ps (by decide) ?_ (by rw [List.size_toArray]; omega)
    rw [PySem.W.krv_pick]
    refine ⟨.ref _, _, I5.laid (t' := s4.toks) (o := .lst xs.reverse) (fun b ob q => Heap.get?_push_of_some _ q) (Nat.le_refl _) ?_, rfl, q _ (I5.hok.fresh (Nat.le_refl _))⟩
    exact ⟨by rw [List.length_reverse]; exact hz, _, 0, r.reverse, Heap.get?_push_size _ rfl⟩
  · obtain ⟨its, r, ht, hz⟩ := I5.tuple hx
    have hlen := r.length
    cases pl
    cases pu
    cases ps with
    | int i t =>
      refine tail_any (ops := [.ref a, .ref s4.heap.objs.size]) ht.typeIs PyProof.Rows.slot_tuple_getitem.lookup ?_ (by with_unfolding_all rfl)
      refine getItem_back ht (Heap.IsSliceOf.new _ _ _ _) ?_ (by rw [List.size_toArray]; omega)
      refine ⟨.ref _, _, I5.laid (t' := s4.toks) (o := .tup xs.reverse) (fun b ob q => Heap.get?_push_of_some _ q) (Nat.le_refl _) ?_, rfl, q _ (I5.hok.fresh (Nat.le_refl _))⟩
      exact ⟨by rw [List.length_reverse]; exact hz, _, r.reverse, IsTup.new _ _⟩
theorem e_rev (ha : PE X a (tR (fx C ca X W) fa)) : PE X (.Subscript a (.Slice none none (some (.UnaryOp .USub (.Constant (.int 1) k p1) p2)) p3) pos) (tE (fx C ca X W) fun s g => (fa s g).bind fun x g => R.ofO g (at1 g x rev)) := by
  refine (pe_back ha).impX fun σ H Q ⟨ρ, B, s, g, S, q⟩ => ?_
  refine ⟨ρ, B, s, g, S, Out.seq (R1 := rRaw X.K B) q fun x g1 v H1 ρ1 _ e1 S1 r1 h1 => ?_⟩
  obtain ⟨z, ez, h3⟩ := h1.ofO
  obtain ⟨x', d1, ez⟩ := at1_some ez
  have vx := r1.view S1.heap d1
  cases x' with
  | lst ds =>
    cases ez
    obtain ⟨p, vs, rfl, h4, r4⟩ := vx.list
    exact ⟨p, vs, rfl, .inl ⟨h4, fun p hp => h3.newL S1 r4.reverse hp⟩⟩
  | tup ds =>
    cases ez
    obtain ⟨p, vs, rfl, h4, r4⟩ := vx.tup
    exact ⟨p, vs, rfl, .inr ⟨h4, fun p hp => h3.newT S1 r4.reverse hp⟩⟩
  | _ => cases ez
theorem e_neg (ha : PE X a (tE (fx C ca X W) fa)) : PE X (.UnaryOp .USub a pos) (tE (fx C ca X W) fun s g => (fa s g).bind fun x g => match x with
    | .int i => .ok (.int (-i)) g
    | _ => .bad) := by
  refine (pe_un un_neg ha).impX fun σ H Q ⟨ρ, B, s, g, S, q⟩ => ?_
  refine ⟨ρ, B, s, g, S, Out.seq (R1 := rRep X.K B) q fun x g1 v H1 ρ1 _ e1 S1 r1 h1 => ?_⟩
  cases x with
  | int i =>
    cases r1
    exact ⟨i, rfl, Out.done (F := fx C ca X W) S1 (.int _) h1⟩
  | _ => exact h1.elim
end
end PX
end
section
set_option Elab.async false
set_option linter.all false
set_option maxRecDepth 100000
set_option autoImplicit false
set_option maxHeartbeats 1000000
/-! PXha: rules of texts, over code points. -/
namespace PX
open PySem L2 PySem.Spec PyProof.Rows
theorem mkS_S (t : Txt) : mkS t = SX.S t := rfl
/-! ### int(text) -/
theorem digV_val (t : Txt) (acc : Nat) : digV acc t = t.foldl (fun n c => n * 10 + (c - 48)) acc := by
  induction t generalizing acc with
  | nil => rfl
  | cons c r ih => exact ih _
theorem digs_all {t : Txt} (h : digsOk t = true) : NumText.AllDigits t ∧ t ≠ [] ∧ t.length ≤ 600 := by
  unfold digsOk at h
  simp only [Bool.and_eq_true, Bool.not_eq_true', decide_eq_true_eq] at h
  refine ⟨fun c hc => ?_, fun e => ?_, h.2⟩
  · have := List.all_eq_true.mp h.1.2 c hc
    simp only [isDig, Bool.and_eq_true, decide_eq_true_eq] at this
    exact this
  · rw [e] at h; simp at h
theorem intOf_text {t : Txt} {n : Int} (h : intOf t = some n) : PySem.intText? (mkS t) = some n ∧ (mkS t).length ≤ 640 := by
  have key : ∀ r : Txt, digsOk r = true → PySem.intText? (mkS r) = some (digV 0 r : Int) ∧ (mkS r).length ≤ 640 := by
    intro r hr
    obtain ⟨h1, h2, h3⟩ := digs_all hr
    have e := intText_digits (x := mkS r) (by rw [mkS_toList]; exact h1) (by rw [mkS_toList]; exact h2) (by rw [mkS_length]; omega)
    rw [mkS_toList] at e
    rw [e, digV_val]
    exact ⟨rfl, by rw [mkS_length]; omega⟩
  unfold intOf at h
  split at h
  · rename_i r
    split at h
    · rename_i hr
      obtain ⟨h1, h2, h3⟩ := digs_all hr
      have e := intText_neg (x := mkS (45 :: r)) (cs := r) (by rw [mkS_toList]) h1 h2 (by rw [mkS_length, List.length_cons]; omega)
      cases h
      rw [e, digV_val]
      exact ⟨rfl, by rw [mkS_length, List.length_cons]; omega⟩
    · cases h
  · split at h
    · cases h
      exact key _ (by assumption)
    · cases h
/-! ### str(int) -/
theorem T_ofString (s : String) : Str.ofString s = mkS (T s) := by
  rw [PySem.Str.ofString_eq_toList]; rfl
theorem log_small {i : Int} (h : i.natAbs < 2 ^ 64) : i.natAbs.log2 < 1920 := by
  by_cases z : i.natAbs = 0
  · rw [z]; decide
  · have := (Nat.log2_lt z).mpr h
    omega
/-! ### split, join -/
theorem splitT_ne (c : Nat) : ∀ t : Txt, splitT c t ≠ []
  | [] => by simp [splitT]
  | x :: xs => by
    unfold splitT
    split
    · simp
    · split <;> simp
theorem split_acc (c : Nat) : ∀ (t acc : Txt), TL.spl [c] 0 acc t = (match splitT c t with
    | [] => [acc]
    | y :: ys => (acc ++ y) :: ys)
  | [], acc => by simp [splitT, TL.spl_nil]
  | x :: xs, acc => by
    by_cases h : x = c
    · subst h
      rw [TL.spl_hit (by simp [TL.pre])]
      have ih := split_acc x xs []
      show acc :: TL.spl [x] 0 [] xs = _
      rw [ih]
      simp only [splitT, if_true]
      cases q : splitT x xs with
      | nil => exact absurd q (splitT_ne x xs)
      | cons y ys => simp
    · rw [TL.spl_miss (TL.pre_of_head _ _ h), split_acc c xs]
      simp only [splitT, if_neg h]
      cases splitT c xs <;> simp
theorem split_txt {c : Nat} (t : Txt) (hc : c < 256) : Txt.split (mkS t) (mkS [c]) = (splitT c t).map mkS := by
  have e := SX.split_S (a := t) (b := [c]) (by simp) (by simpa using hc)
  rw [mkS_S, mkS_S, e, split_acc]
  cases q : splitT c t with
  | nil => exact absurd q (splitT_ne c t)
  | cons y ys => rfl
theorem joinT_L (s : Txt) : ∀ ts : List Txt, TL.joinL s ts = joinT s ts
  | [] => rfl
  | [_] => rfl
  | p :: q :: r => by
    show p ++ (s ++ TL.joinL s (q :: r)) = p ++ (s ++ joinT s (q :: r))
    rw [joinT_L s (q :: r)]
theorem join_txt (s : Txt) (ts : List Txt) : Txt.join (mkS s) (ts.map mkS) = mkS (joinT s ts) := by
  have e := SX.join_S s ts
  rw [joinT_L] at e
  exact e
/-! ### find -/
theorem find_txt (t : Txt) (c : Nat) {i : Int} (h0 : 0 ≤ i) : Txt.find3 (mkS t) (mkS [c]) i = findT c t i.toNat := by
  have hf : PySem.fromIndex (mkS t).length i = i.toNat := by
    unfold PySem.fromIndex
    rw [if_neg (by omega), Int.max_eq_right h0]
  have gd : ∀ v, (mkS t).cps.getD v 0 = t.getD v 0 := fun v => by
    simp [mkS, Array.getD_eq_getD_getElem?, List.getD_eq_getElem?_getD]
  unfold findT
  rcases StrLaws.find3_spec (mkS t) c i with ⟨h1, h2⟩ | ⟨k, h1, h2, h3, h4, h5⟩
  · rw [show mkS [c] = ⟨#[c]⟩ from rfl, h1]
    cases q : (t.drop i.toNat).findIdx? (· == c) with
    | none => rfl
    | some k =>
      exfalso
      obtain ⟨hk, hp, _⟩ := List.findIdx?_eq_some_iff_getElem.mp q
      rw [List.length_drop] at hk
      refine h2 (i.toNat + k) (by rw [hf]; omega) (by rw [mkS_length]; omega) ?_
      rw [gd, List.getD_eq_getElem?_getD, List.getElem?_eq_getElem (by omega)]
      rw [List.getElem_drop] at hp
      simpa using hp
  · rw [show mkS [c] = ⟨#[c]⟩ from rfl, h1]
    rw [hf] at h2 h5
    rw [mkS_length] at h3
    rw [gd, List.getD_eq_getElem?_getD, List.getElem?_eq_getElem h3] at h4
    have q : (t.drop i.toNat).findIdx? (· == c) = some (k - i.toNat) := by
      refine List.findIdx?_eq_some_iff_getElem.mpr ⟨by rw [List.length_drop]; omega, ?_, fun j hj => ?_⟩
      · rw [List.getElem_drop]
        have : i.toNat + (k - i.toNat) = k := by omega
        simp only [this]
        simpa using h4
      · rw [List.getElem_drop]
        have := h5 (i.toNat + j) (by omega) (by omega)
        rw [gd, List.getD_eq_getElem?_getD, List.getElem?_eq_getElem (by omega)] at this
        simpa using this
    rw [q]
    show (k : Int) = _
    congr 1
    omega
theorem strike_txt (t : Txt) (c : Nat) : Txt.replace (mkS t) (mkS [c]) (mkS []) = mkS (t.filter (· != c)) := by
  have e := replace_strikes (mkS t) c
  rw [mkS_toList] at e
  exact (mkS_of _).symm.trans (congrArg mkS e)
/-! ### tuple(text) -/
section
variable {X : Cx}
theorem vals_chars : ∀ (t : Txt) (us : List Value), us.length = t.length → (∀ (i : Nat) v, us[i]? = some v → ∃ c u, t[i]? = some c ∧ v = .str ⟨#[c]⟩ u) → Vals (t.map fun c => V.str (mkS [c])) us
  | [], [], _, _ => .nil
  | [], _ :: _, h, _ => by simp at h
  | _ :: _, [], h, _ => by simp at h
  | c :: t, u :: us, h, k => by
    obtain ⟨c', tk, h1, h2⟩ := k 0 u rfl
    have : c = c' := by simpa using h1
    subst this
    refine .cons ⟨tk, h2⟩ (vals_chars t us (by simpa using h) fun i v hv => ?_)
    obtain ⟨d, w, k1, k2⟩ := k (i + 1) v (by simpa using hv)
    exact ⟨d, w, by simpa using k1, k2⟩
theorem call_tuple_txt (hc : X.calm = true) : CallR X (.type "tuple") (fun xs H Q => ∃ t : Txt, xs = [.str (mkS t)] ∧ t.length ≤ LIM ∧ ∀ q, H q = none → Q (.ref q) (upd H q (.tup (t.map fun c => V.str (mkS [c]))))) := by
  intro pins s σ H xs us Q I r h
  obtain ⟨t, rfl, hl, q⟩ := h
  obtain ⟨u, rfl, rx⟩ := vals1 r
  obtain ⟨tk, rfl⟩ := rx
  have hsz : (mkS t).cps.size ≤ sizeLine := by
    have : (mkS t).cps.size = t.length := by simp [mkS]
    rw [this]; exact lim_line hl
  refine call_tuple_str (I.ok.hd hc) (mkS t) tk (fun h' tk' acc kp hacc => ?_) hsz
  have I1 : Inv X pins σ H { s with heap := h', toks := tk' } := I.kept kp
  have hlen : acc.size = t.length := by rw [hacc.1]; simp [mkS]
  have rv : Vals (t.map fun c => V.str (mkS [c])) acc.toList := by
    refine vals_chars t acc.toList (by rw [Array.length_toList, hlen]) fun i v hv => ?_
    obtain ⟨c, u, k1, k2⟩ := hacc.2 i v (by simpa using hv)
    exact ⟨c, u, by simpa [mkS] using k1, k2⟩
  have I2 : Inv X pins σ (upd H h'.objs.size (.tup (t.map fun c => V.str (mkS [c])))) { s with heap := h'.push { cls := .type "tuple", data := .seq acc }, toks := tk' } :=
    I1.laid (fun b o e => Heap.get?_push_of_some _ e) (Nat.le_refl _) (show ObjOk X.prog X.w _ _ _ (.tup (t.map fun c => V.str (mkS [c]))) from ⟨by rw [List.length_map]; exact lim_line hl, acc.toList, rv, by simpa using IsTup.new _ _⟩)
  exact ⟨.ref h'.objs.size, _, I2, rfl, q _ (I1.hok.fresh (Nat.le_refl _))⟩
end
end PX
end
section
set_option Elab.async false
set_option linter.all false
set_option maxRecDepth 100000
set_option autoImplicit false
set_option maxHeartbeats 1000000
/-! PXi: isinstance, the built-ins of one value. -/
namespace PX
open PySem L2 PySem.Spec PyProof.Rows
/-! ### sorting is one and the same -/
theorem perm_sorted {α : Type} {r : α → α → Prop} (as : ∀ a b, r a b → r b a → a = b) : ∀ {l m : List α}, l.Perm m → l.Pairwise r → m.Pairwise r → l = m
  | [], m, p, _, _ => p.nil_eq
  | x :: l, [], p, _, _ => absurd p.length_eq (by simp)
  | x :: l, y :: m, p, h1, h2 => by
    have e : x = y := by
      rcases List.mem_cons.mp (p.mem_iff.mp (List.mem_cons_self (a := x))) with q | q
      · exact q
      · rcases List.mem_cons.mp (p.mem_iff.mpr (List.mem_cons_self (a := y))) with q2 | q2
        · exact q2.symm
        · exact as x y ((List.pairwise_cons.mp h1).1 y q2) ((List.pairwise_cons.mp h2).1 x q)
    subst e
    rw [perm_sorted as (List.Perm.cons_inv p) (List.pairwise_cons.mp h1).2 (List.pairwise_cons.mp h2).2]
theorem sortI_perm (xs : List Int) : (sortI xs).Perm xs := List.mergeSort_perm ..
theorem sortI_pw (xs : List Int) : (sortI xs).Pairwise (· ≤ ·) := by
  have h := List.pairwise_mergeSort (le := fun a b : Int => decide (a ≤ b)) (fun a b c h1 h2 => by simp only [decide_eq_true_eq] at *; omega) (fun a b => by simp only [Bool.or_eq_true, decide_eq_true_eq]; omega) xs
  exact h.imp fun {a b} q => of_decide_eq_true q
theorem sortI_eq {xs ys : List Int} (p : ys.Perm xs) (h : ys.Pairwise (· ≤ ·)) : ys = sortI xs :=
  perm_sorted (fun a b h1 h2 => by omega) (p.trans (sortI_perm xs).symm) h (sortI_pw xs)
theorem txt_le_trans {a b c : Txt} (h1 : a ≤ b) (h2 : b ≤ c) : a ≤ c := List.le_trans h1 h2
theorem txt_le_total (a b : Txt) : a ≤ b ∨ b ≤ a := List.le_total a b
theorem txt_le_anti {a b : Txt} (h1 : a ≤ b) (h2 : b ≤ a) : a = b := List.le_antisymm h1 h2
theorem sortT_perm (xs : List Txt) : (sortT xs).Perm xs := List.mergeSort_perm ..
theorem sortT_pw (xs : List Txt) : (sortT xs).Pairwise (· ≤ ·) := by
  have h := List.pairwise_mergeSort (le := fun a b : Txt => decide (a ≤ b)) (fun a b c h1 h2 => by simp only [decide_eq_true_eq] at *; exact txt_le_trans h1 h2) (fun a b => by simp only [Bool.or_eq_true, decide_eq_true_eq]; exact txt_le_total a b) xs
  exact h.imp fun {a b} q => of_decide_eq_true q
theorem sortT_eq {xs ys : List Txt} (p : ys.Perm xs) (h : ys.Pairwise (· ≤ ·)) : ys = sortT xs :=
  perm_sorted (fun a b h1 h2 => txt_le_anti h1 h2) (p.trans (sortT_perm xs).symm) h (sortT_pw xs)
theorem risingS_pw : ∀ (l : List Str) (p : Str), risingS p l = true → (p :: l).Pairwise fun a b => a.cps.toList ≤ b.cps.toList
  | [], p, _ => List.pairwise_singleton ..
  | x :: l, p, h => by
    have h' : (!ltCps x.cps.toList p.cps.toList && risingS x l) = true := h
    rw [Bool.and_eq_true, ltCps_eq, Bool.not_eq_true', decide_eq_false_iff_not] at h'
    have ih := risingS_pw l x h'.2
    have hx : p.cps.toList ≤ x.cps.toList := h'.1
    refine List.pairwise_cons.mpr ⟨fun y hy => ?_, ih⟩
    rcases List.mem_cons.mp hy with e | e
    · rw [e]; exact hx
    · exact txt_le_trans hx ((List.pairwise_cons.mp ih).1 y e)
theorem sortedS_pw {l : List Str} (h : sortedS l = true) : l.Pairwise fun a b => a.cps.toList ≤ b.cps.toList := by
  cases l with
  | nil => exact List.Pairwise.nil
  | cons x l => exact risingS_pw l x h
theorem sortS_eq {ts : List Txt} {ys : List Str} (p : ys.Perm (ts.map mkS)) (h : sortedS ys = true) : ys = (sortT ts).map mkS := by
  have h1 : (ys.map fun z => z.cps.toList).Perm ts := by
    have := p.map fun z : Str => z.cps.toList
    rw [List.map_map] at this
    have e : ((fun z : Str => z.cps.toList) ∘ mkS) = id := funext fun t => mkS_toList t
    rwa [e, List.map_id] at this
  have h2 := sortT_eq h1 (List.pairwise_map.mpr (sortedS_pw h))
  rw [← h2, List.map_map]
  have e : (mkS ∘ fun z : Str => z.cps.toList) = id := funext fun z => mkS_of z
  rw [e, List.map_id]
theorem ints_some : ∀ {xs : List D} {ns : List Int}, ints? xs = some ns → xs = ns.map D.int
  | [], ns, h => by cases h; rfl
  | .int i :: xs, ns, h => by
    have h' : (ints? xs).map (i :: ·) = some ns := h
    cases q : ints? xs with
    | none => rw [q] at h'; cases h'
    | some ms => rw [q] at h'; cases h'; rw [ints_some q]; rfl
  | .non :: xs, ns, h => by cases h
  | .bl _ :: xs, ns, h => by cases h
  | .str _ :: xs, ns, h => by cases h
  | .tup _ :: xs, ns, h => by cases h
  | .lst _ :: xs, ns, h => by cases h
  | .dic _ :: xs, ns, h => by cases h
  | .ref _ :: xs, ns, h => by cases h
theorem strs_some : ∀ {xs : List D} {ts : List Txt}, strs? xs = some ts → xs = ts.map D.str
  | [], ns, h => by cases h; rfl
  | .str i :: xs, ns, h => by
    have h' : (strs? xs).map (i :: ·) = some ns := h
    cases q : strs? xs with
    | none => rw [q] at h'; cases h'
    | some ms => rw [q] at h'; cases h'; rw [strs_some q]; rfl
  | .non :: xs, ns, h => by cases h
  | .bl _ :: xs, ns, h => by cases h
  | .int _ :: xs, ns, h => by cases h
  | .tup _ :: xs, ns, h => by cases h
  | .lst _ :: xs, ns, h => by cases h
  | .dic _ :: xs, ns, h => by cases h
  | .ref _ :: xs, ns, h => by cases h
theorem bools_some : ∀ {xs : List D} {bs : List Bool}, bools? xs = some bs → xs = bs.map D.bl
  | [], ns, h => by cases h; rfl
  | .bl i :: xs, ns, h => by
    have h' : (bools? xs).map (i :: ·) = some ns := h
    cases q : bools? xs with
    | none => rw [q] at h'; cases h'
    | some ms => rw [q] at h'; cases h'; rw [bools_some q]; rfl
  | .non :: xs, ns, h => by cases h
  | .str _ :: xs, ns, h => by cases h
  | .int _ :: xs, ns, h => by cases h
  | .tup _ :: xs, ns, h => by cases h
  | .lst _ :: xs, ns, h => by cases h
  | .dic _ :: xs, ns, h => by cases h
  | .ref _ :: xs, ns, h => by cases h
section
variable {K : Fg} {ρ B : List Addr} {H : Hp}
theorem RepL.ints : ∀ {vs : List V} {ns : List Int}, RepL K ρ B H vs (ns.map D.int) → vs = ns.map V.int
  | _, [], r => by cases r; rfl
  | _, n :: ns, r => by
    cases r with
    | cons h t => cases h; rw [RepL.ints t]; rfl
theorem RepL.strs : ∀ {vs : List V} {ts : List Txt}, RepL K ρ B H vs (ts.map D.str) → vs = (ts.map mkS).map V.str
  | _, [], r => by cases r; rfl
  | _, n :: ns, r => by
    cases r with
    | cons h t => cases h; rw [RepL.strs t]; rfl
theorem RepL.bls : ∀ {vs : List V} {bs : List Bool}, RepL K ρ B H vs (bs.map D.bl) → vs = bs.map V.bl
  | _, [], r => by cases r; rfl
  | _, n :: ns, r => by
    cases r with
    | cons h t => cases h; rw [RepL.bls t]; rfl
theorem repL_ints : ∀ ns : List Int, RepL K ρ B H (ns.map V.int) (ns.map D.int)
  | [] => .nil
  | _ :: ns => .cons (.int _) (repL_ints ns)
theorem repL_strs : ∀ ts : List Txt, RepL K ρ B H ((ts.map mkS).map V.str) (ts.map D.str)
  | [] => .nil
  | _ :: ns => .cons (.str _) (repL_strs ns)
end
section
variable {X : Cx} {C : Cfg} {ca : Nat → Addr} {W : WX} {e a b c lo hi : Expr} {pos p1 p2 p3 p : Pos} {fa fb fc : Sl → G → R D} {k : Nat} {x : Str}
theorem op_oneF {t : V → Hp → VK → Prop} {h : D → Option D} (hp : PE X e fun σ H Q => (tR (fx C ca X W) fa) σ H fun v H1 => t v H1 Q)
    (hr : ∀ (σ : L2.St) (s : Sl) (B ρ : List Addr) (H : Hp) (g : G) (v : V) (x z : D) (Q : VK), Sim X.K ρ B H g s σ → View X.K ρ B H v x → h x = some z → OutF (fx C ca X W) σ s B ρ H (.ok z g) Q → t v H Q) :
    PE X e (tF (fx C ca X W) fun s g => (fa s g).bind fun x g => R.ofO g (at1 g x h)) := by
  refine hp.impX fun σ H Q ⟨ρ, B, s, g, S, q⟩ => ?_
  refine ⟨ρ, B, s, g, S, OutF.seq (R1 := rRaw X.K B) q fun x g1 v H1 ρ1 _ e1 S1 r1 h1 => ?_⟩
  obtain ⟨z, ez, h3⟩ := h1.ofO
  obtain ⟨x', d1, ez⟩ := at1_some ez
  exact hr σ s B ρ1 H1 g1 v x' z Q S1 (r1.view S1.heap d1) ez h3
/-- f(a), f a built-in function; a built-in type -/
theorem p_fun {id : String} {r : List V → Hp → VK → Prop} {ta : TE} (hc : CallR X (.builtin id) r) (hg : Gl X x) (hm : X.mg x = none) (hv : bootBuiltins x = some (.builtin id)) (ha : PE X a ta) (hn : x ≠ "__name__") (hdb : (x == ("__debug__" : Str)) = false)
    (na : starEach [a] X.env = (false, eval a X.env) :: starEach [] X.env) : PE X (.Call (.Name x p) [a] [] pos) fun σ H Q => ta σ H fun v H1 => r [v] H1 Q :=
  pe_callB hc hg hm hv (pa_cons ha pa_nil na) hn hdb na rfl
theorem p_ty {id : String} {r : List V → Hp → VK → Prop} {ta : TE} (hc : CallR X (.type id) r) (hg : Gl X x) (hm : X.mg x = none) (hv : bootBuiltins x = some (.type id)) (ha : PE X a ta) (hn : x ≠ "__name__") (hdb : (x == ("__debug__" : Str)) = false)
    (na : starEach [a] X.env = (false, eval a X.env) :: starEach [] X.env) : PE X (.Call (.Name x p) [a] [] pos) fun σ H Q => ta σ H fun v H1 => r [v] H1 Q :=
  pe_callTy hc hg hm hv (pa_cons ha pa_nil na) hn hdb na rfl
/-- a name that means a built-in -/
structure BN (X : Cx) (x : Str) (u : Value) : Prop where
  gl : Gl X x
  mg : X.mg x = none
  bt : bootBuiltins x = some u
  nn : x ≠ "__name__"
  nd : (x == ("__debug__" : Str)) = false
section
variable (na : starEach [a] X.env = (false, eval a X.env) :: starEach [] X.env)
include na
theorem e_len (n : BN X x (.builtin "len")) (ha : PE X a (tR (fx C ca X W) fa)) : PE X (.Call (.Name x p) [a] [] pos) (tE (fx C ca X W) fun s g => (fa s g).bind fun x g => R.ofO g (at1 g x (prim1 .len))) := by
  refine op_one (p_fun call_len n.gl n.mg n.bt ha n.nn n.nd na) fun σ s B ρ H g v x z Q S vx ez h => ?_
  cases x with
  | str t =>
    have ez : (if t.length ≤ LIM then some (D.int t.length) else none) = some z := ez
    by_cases q : t.length ≤ LIM
    · rw [if_pos q] at ez
      cases ez
      refine ⟨v, t.length, rfl, ?_, h.done S (.int _)⟩
      rw [vx.str]
      exact ⟨by rw [mkS_length]; exact lim_line q, (mkS_length t).symm⟩
    · rw [if_neg q] at ez; cases ez
  | tup ds =>
    cases ez
    obtain ⟨a, vs, rfl, h1, r⟩ := vx.tup
    exact ⟨_, ds.length, rfl, .inr ⟨vs, h1, r.length.symm⟩, h.done S (.int _)⟩
  | lst ds =>
    cases ez
    obtain ⟨a, vs, rfl, h1, r⟩ := vx.list
    exact ⟨_, ds.length, rfl, .inl ⟨vs, h1, r.length.symm⟩, h.done S (.int _)⟩
  | _ => cases ez
theorem e_list (n : BN X x (.type "list")) (ha : PE X a (tR (fx C ca X W) fa)) : PE X (.Call (.Name x p) [a] [] pos) (tF (fx C ca X W) fun s g => (fa s g).bind fun x g => R.ofO g (at1 g x (prim1 .list))) := by
  refine op_oneF (p_ty call_list_of n.gl n.mg n.bt ha n.nn n.nd na) fun σ s B ρ H g v x z Q S vx ez h => ?_
  cases x with
  | tup ds =>
    cases ez
    obtain ⟨a, vs, rfl, h1, r⟩ := vx.tup
    exact ⟨a, vs, rfl, .inr h1, fun l hl => OutF.newL S h r hl⟩
  | lst ds =>
    cases ez
    obtain ⟨a, vs, rfl, h1, r⟩ := vx.list
    exact ⟨a, vs, rfl, .inl h1, fun l hl => OutF.newL S h r hl⟩
  | _ => cases ez
theorem e_tuple (hc : X.calm = true) (n : BN X x (.type "tuple")) (ha : PE X a (tR (fx C ca X W) fa)) : PE X (.Call (.Name x p) [a] [] pos) (tE (fx C ca X W) fun s g => (fa s g).bind fun x g => R.ofO g (at1 g x (prim1 .tuple))) := by
  refine op_one (p_ty (call_tuple_of.or (call_tuple_txt hc)) n.gl n.mg n.bt ha n.nn n.nd na) fun σ s B ρ H g v x z Q S vx ez h => ?_
  cases x with
  | tup ds =>
    cases ez
    obtain ⟨a, vs, rfl, h1, r⟩ := vx.tup
    exact .inl ⟨a, vs, rfl, .inr ⟨h1, h.done S (.tup h1 r)⟩⟩
  | lst ds =>
    cases ez
    obtain ⟨a, vs, rfl, h1, r⟩ := vx.list
    exact .inl ⟨a, vs, rfl, .inl ⟨h1, fun l hl => h.newT S r hl⟩⟩
  | str t =>
    have ez : (if t.length ≤ LIM then some (D.tup (chars t)) else none) = some z := ez
    by_cases q : t.length ≤ LIM
    · rw [if_pos q] at ez
      cases ez
      refine .inr ⟨t, by rw [vx.str], q, fun l hl => h.newT S ?_ hl⟩
      have key : ∀ t : Txt, RepL X.K ρ B H (t.map fun c => V.str (mkS [c])) (chars t) := by
        intro t
        induction t with
        | nil => exact .nil
        | cons c r ih => exact .cons (.str [c]) ih
      exact key t
    · rw [if_neg q] at ez; cases ez
  | _ => cases ez
theorem e_str (n : BN X x (.type "str")) (ha : PE X a (tR (fx C ca X W) fa)) : PE X (.Call (.Name x p) [a] [] pos) (tE (fx C ca X W) fun s g => (fa s g).bind fun x g => R.ofO g (at1 g x (prim1 .str))) := by
  refine op_one (p_ty (call_str_int.or SkE.call_str_str) n.gl n.mg n.bt ha n.nn n.nd na) fun σ s B ρ H g v x z Q S vx ez h => ?_
  cases x with
  | int i =>
    have ez : (if i.natAbs.log2 < 1920 then some (D.str (T (toString i))) else none) = some z := ez
    by_cases q : i.natAbs.log2 < 1920
    · rw [if_pos q] at ez
      cases ez
      rw [vx.int]
      refine .inl ⟨i, rfl, q, ?_⟩
      rw [T_ofString]
      exact h.done S (.str _)
    · rw [if_neg q] at ez; cases ez
  | str t => cases ez; rw [vx.str]; exact .inr ⟨_, rfl, h.done S (.str _)⟩
  | _ => cases ez
theorem e_any (hc : X.calm = true) (n : BN X x (.builtin "any")) (ha : PE X a (tR (fx C ca X W) fa)) : PE X (.Call (.Name x p) [a] [] pos) (tE (fx C ca X W) fun s g => (fa s g).bind fun x g => R.ofO g (at1 g x (prim1 .any))) := by
  refine op_one (p_fun (cr_any hc) n.gl n.mg n.bt ha n.nn n.nd na) fun σ s B ρ H g v x z Q S vx ez h => ?_
  cases x with
  | lst ds =>
    obtain ⟨a, vs, rfl, h1, r⟩ := vx.list
    have ez : (bools? ds).map (fun bs => D.bl (bs.any id)) = some z := ez
    cases q : bools? ds with
    | none => rw [q] at ez; cases ez
    | some bs =>
      rw [q] at ez
      cases ez
      have e := bools_some q
      subst e
      have e := r.bls
      subst e
      exact ⟨a, bs, rfl, h1, h.done S (.bl _)⟩
  | _ => cases ez
theorem e_all (hc : X.calm = true) (n : BN X x (.builtin "all")) (ha : PE X a (tR (fx C ca X W) fa)) : PE X (.Call (.Name x p) [a] [] pos) (tE (fx C ca X W) fun s g => (fa s g).bind fun x g => R.ofO g (at1 g x (prim1 .all))) := by
  refine op_one (p_fun (cr_all hc) n.gl n.mg n.bt ha n.nn n.nd na) fun σ s B ρ H g v x z Q S vx ez h => ?_
  cases x with
  | lst ds =>
    obtain ⟨a, vs, rfl, h1, r⟩ := vx.list
    have ez : (bools? ds).map (fun bs => D.bl (bs.all id)) = some z := ez
    cases q : bools? ds with
    | none => rw [q] at ez; cases ez
    | some bs =>
      rw [q] at ez
      cases ez
      have e := bools_some q
      subst e
      have e := r.bls
      subst e
      exact ⟨a, bs, rfl, h1, h.done S (.bl _)⟩
  | _ => cases ez
theorem e_int (n : BN X x (.type "int")) (ha : PE X a (tR (fx C ca X W) fa)) : PE X (.Call (.Name x p) [a] [] pos) (tE (fx C ca X W) fun s g => (fa s g).bind fun x g => R.ofO g (at1 g x (prim1 .int))) := by
  refine op_one (p_ty (call_int1.or call_int_str) n.gl n.mg n.bt ha n.nn n.nd na) fun σ s B ρ H g v x z Q S vx ez h => ?_
  cases x with
  | int i => cases ez; rw [vx.int]; exact .inl (.inl ⟨i, rfl, h.done S (.int _)⟩)
  | bl b => cases ez; rw [vx.bl]; exact .inl (.inr ⟨b, rfl, h.done S (.int _)⟩)
  | str t =>
    have ez : (intOf t).map D.int = some z := ez
    cases q : intOf t with
    | none => rw [q] at ez; cases ez
    | some i =>
      rw [q] at ez
      cases ez
      obtain ⟨h1, h2⟩ := intOf_text q
      rw [vx.str]
      exact .inr ⟨_, i, rfl, h1, h2, h.done S (.int _)⟩
  | _ => cases ez
theorem e_bool (n : BN X x (.type "bool")) (ha : PE X a (tR (fx C ca X W) fa)) : PE X (.Call (.Name x p) [a] [] pos) (tE (fx C ca X W) fun s g => (fa s g).bind fun x g => R.ofO g (at1 g x (prim1 .bool))) := by
  refine op_one (p_ty call_bool1 n.gl n.mg n.bt ha n.nn n.nd na) fun σ s B ρ H g v x z Q S vx ez h => ?_
  cases x with
  | int i => cases ez; rw [vx.int]; exact .inl ⟨i, rfl, h.done S (.bl _)⟩
  | bl b => cases ez; rw [vx.bl]; exact .inr ⟨b, rfl, h.done S (.bl _)⟩
  | _ => cases ez
theorem e_abs (n : BN X x (.builtin "abs")) (ha : PE X a (tR (fx C ca X W) fa)) : PE X (.Call (.Name x p) [a] [] pos) (tE (fx C ca X W) fun s g => (fa s g).bind fun x g => R.ofO g (at1 g x (prim1 .abs))) := by
  refine op_one (p_fun call_abs n.gl n.mg n.bt ha n.nn n.nd na) fun σ s B ρ H g v x z Q S vx ez h => ?_
  cases x with
  | int i => cases ez; rw [vx.int]; exact ⟨i, rfl, h.done S (.int _)⟩
  | _ => cases ez
end
end
end PX
end
section
set_option Elab.async false
set_option linter.all false
set_option maxRecDepth 100000
set_option autoImplicit false
set_option maxHeartbeats 1000000
/-! PXj: sorted, dict, isinstance, list(range). -/
namespace PX
open PySem L2 PySem.Spec PyProof.Rows
section
variable {prog : Program} {w : World} {A : Around} {E : Value → Shared → Prop} {s : Shared}
theorem gather {l : Addr} {us : List Value} {Q : List Value → Shared → Prop} (hl : IsTup s.heap l us.toArray)
    (hq : Q us { s with heap := (s.heap.push (seqObj "list" #[] 0)).update s.heap.objs.size (Obj.mapSeq (· ++ us.toArray)) }) (hz : us.length ≤ sizeLine) : wpAny (model prog w) A (collect (.ref l)) Q E s := by
  obtain ⟨o, ho, hc, n, hd⟩ := id hl
  unfold collect
  refine wpAny_bind (wpAny_runValue (codeAny_builtin entry_proto_collect' ?_))
  show wpAny _ _ (do again (.builtin "list.__iadd__" ⟨[← newList [], .ref l], []⟩)) _ _ s
  refine wpAny_bind (wpAny_newList (wpAny_pure ⟨Code.quiet_builtin _ (by decide +kernel), codeAny_builtin entry_list_iadd' ?_⟩))
  show wpAny _ _ (Builtin.List.listExtendWith (.ref s.heap.objs.size) (.ref l) (.ref s.heap.objs.size)) _ _ { s with heap := s.heap.push (seqObj "list" #[] 0) }
  unfold Builtin.List.listExtendWith
  have k1 : (s.heap.push (seqObj "list" #[] 0)).get? l = some o := Heap.get?_push_of_some _ ho
  refine wpAny_bind (wpAny_typeOf (T := "tuple") ⟨o, k1, hc⟩ ?_)
  have ht : (Value.type "tuple" == Value.type "tuple") = true := by rfl
  rw [if_pos (by rw [ht]; simp)]
  refine wpAny_bind (listItems_at k1 hd ?_)
  refine wpAny_bind (listItems_at (xs := #[]) (n := 0) (Heap.get?_push_size _ rfl) rfl ?_)
  rw [if_neg (by simp)]
  refine wpAny_bind (listUpdate_at (xs := #[]) (n := 0) (Heap.get?_push_size _ rfl) rfl ?_ (Nat.zero_le _) (by show (#[] ++ us.toArray).size ≤ sizeLine + 1; simp only [Array.size_append, List.size_toArray, List.length_nil]; omega))
  refine wpAny_pure ?_
  show wpAny (model prog w) A (do
      let o ← load s.heap.objs.size
      match o.data with
      | .seq xs _ => pure xs.toList
      | _ => unsupported "internal:collect") Q E { s with heap := (s.heap.push (seqObj "list" #[] 0)).update s.heap.objs.size (Obj.mapSeq (· ++ us.toArray)) }
  refine wpAny_bind (wpAny_load (get?_update_seq (Heap.get?_push_size _ rfl) _) ?_)
  show wpAny _ _ (pure ((#[] : Array Value) ++ us.toArray).toList) Q E _
  rw [show ((#[] : Array Value) ++ us.toArray).toList = us by simp]
  exact wpAny_pure hq
theorem sorted_tup {l : Addr} {us : List Value} {ns : List Int} {Q : Value → Shared → Prop} (hl : IsTup s.heap l us.toArray) (hi : IntsAre us ns) (hz : us.length ≤ sizeLine)
    (hq : ∀ out : List Value, SrtO.Srtd SrtO.ltIv out → SrtO.Stb SrtO.ltIv out us → Q (.ref (s.heap.objs.size + 1)) { s with heap := sortedAll s.heap us out.toArray }) : wpAny (model prog w) A (PySem.call (.builtin "sorted") [.ref l]) Q E s := by
  refine Calls.call_function_entry kind_sorted plain_sorted entry_sorted (args_sorted1 _) ?_
  unfold Builtin.«sorted»
  refine wpAny_bind (m := checkCount "sorted" 1 1 _) (wpAny_pure ?_)
  refine wpAny_bind (gather hl ?_ hz)
  refine wpAny_bind (wpAny_newList ?_ hz)
  have hs1 : ((s.heap.push (seqObj "list" #[] 0)).update s.heap.objs.size (Obj.mapSeq (· ++ us.toArray))).objs.size = s.heap.objs.size + 1 := by
    rw [Heap.size_update, size_push']
  have ho1 : (((s.heap.push (seqObj "list" #[] 0)).update s.heap.objs.size (Obj.mapSeq (· ++ us.toArray))).push (seqObj "list" us.toArray 0)).get? (s.heap.objs.size + 1) = some (seqObj "list" us.toArray 0) := by
    rw [← hs1]; exact Heap.get?_push_size _ rfl
  show wpAny _ _ _ _ _ { s with heap := ((s.heap.push (seqObj "list" #[] 0)).update s.heap.objs.size (Obj.mapSeq (· ++ us.toArray))).push (seqObj "list" us.toArray 0) }
  rw [hs1]
  refine wpAny_bind (wpAny_holding (wpAny_call_entry slot_list_sort ⟨_, ho1, rfl⟩ entry_list_sort (SrtO.list_sort_ord SrtO.swo_int ho1 hz (fun h2 => SrtO.ints_sortable hi h2) fun out hs hb => ⟨_, rfl, ?_⟩) (args_list_sort _)))
  exact wpAny_pure ⟨_, rfl, hq out hs hb⟩
end
def rSortedTup (K : Fg) : List V → Hp → VK → Prop := fun vs H Q => ∃ (a : Addr) (ns : List Int), vs = [V.ref a] ∧ SqT K H a (ns.map V.int) ∧
  ∀ (ns' : List Int) (p : Addr), ns'.Perm ns → ns'.Pairwise (· ≤ ·) → H p = none → Q (.ref p) (upd H p (.lst (ns'.map V.int)))
theorem cr_sortedTup {X : Cx} : CallR X (.builtin "sorted") (rSortedTup X.K) := by
  intro pins s σ H vs us Q I r h
  obtain ⟨a, ns, rfl, hs, q⟩ := h
  obtain ⟨its, rv, hl, hz⟩ := I.tuple hs
  obtain ⟨u, rfl, ru⟩ := vals1 r
  obtain rfl : u = Value.ref a := ru
  have hi := rv.ints
  refine sorted_tup hl hi (by rw [← rv.length]; exact hz) fun out h1 h2 => ?_
  obtain ⟨k1, k2, k3⟩ := SrtO.ints_out hi h1 h2
  obtain ⟨ep, he'⟩ := PyProof.Rows.sortedAll_at s.heap its out.toArray
  have hlen : ((out.map SrtO.iv).map V.int).length ≤ sizeLine := by
    rw [List.length_map, k2.length_eq]
    rw [List.length_map] at hz
    exact hz
  exact ⟨.ref _, upd H (s.heap.objs.size + 1) (.lst ((out.map SrtO.iv).map V.int)), I.laid (t' := s.toks) (fun _ _ => PyProof.Rows.sortedAll_old) (Nat.le_succ _) ⟨hlen, out, ep, vals_of_ints k1, he'⟩, rfl, q _ _ k2 k3 (I.hok.fresh (Nat.le_succ _))⟩

/-! ### dicts -/
theorem keyD_eqv (k l : Key) : eqv (keyD k) (keyD l) = decide (k = l) := by
  cases k with
  | inl i =>
    cases l with
    | inl j => simp [keyD, eqv]; rw [Bool.beq_eq_decide_eq]
    | inr y => simp [keyD, eqv]
  | inr x =>
    cases l with
    | inl j => simp [keyD, eqv]
    | inr y =>
      simp only [keyD, eqv]
      by_cases h : x = y
      · subst h; simp
      · have : ¬ x.cps.toList = y.cps.toList := fun e => h (by rw [← mkS_of x, ← mkS_of y, e])
        rw [beq_eq_false_iff_ne.mpr this]
        simp [h]
section
variable {K : Fg} {ρ B : List Addr} {H : Hp}
theorem RepK.any (k : Key) : ∀ {kvs : List (Key × V)} {ds : List (D × D)}, RepK K ρ B H kvs ds → (ds.any fun p => eqv p.1 (keyD k)) = kvs.any fun p => decide (p.1 = k)
  | _, _, .nil => rfl
  | _, _, .cons (k := l) _ r => by rw [List.any_cons, List.any_cons, RepK.any k r, keyD_eqv]
theorem RepK.over {v : V} {d : D} (k : Key) (h : Rep K ρ B H v d) : ∀ {kvs : List (Key × V)} {ds : List (D × D)}, RepK K ρ B H kvs ds → RepK K ρ B H (kvs.map fun kv => if kv.1 = k then (kv.1, v) else kv) (ds.map fun p => if eqv p.1 (keyD k) then (p.1, d) else p)
  | _, _, .nil => .nil
  | _, _, .cons (k := l) q r => by
    rw [List.map_cons, List.map_cons]
    simp only [keyD_eqv]
    by_cases e : l = k
    · rw [if_pos e, if_pos (by simp [e])]
      exact .cons h (by simpa only [keyD_eqv] using RepK.over k h r)
    · rw [if_neg e, if_neg (by simp [e])]
      exact .cons q (by simpa only [keyD_eqv] using RepK.over k h r)
theorem RepK.append : ∀ {kvs lvs : List (Key × V)} {ds es : List (D × D)}, RepK K ρ B H kvs ds → RepK K ρ B H lvs es → RepK K ρ B H (kvs ++ lvs) (ds ++ es)
  | _, _, _, _, .nil, s => s
  | _, _, _, _, .cons h r, s => .cons h (RepK.append r s)
theorem RepK.put {v : V} {d : D} {kvs : List (Key × V)} {ds : List (D × D)} (k : Key) (h : Rep K ρ B H v d) (r : RepK K ρ B H kvs ds) : RepK K ρ B H (putK kvs k v) (dput ds (keyD k) d) := by
  unfold putK dput
  rw [r.any k]
  by_cases q : (kvs.any fun p => decide (p.1 = k)) = true
  · rw [if_pos q, if_pos q]
    exact r.over k h
  · rw [if_neg q, if_neg q]
    exact r.append (.cons h .nil)
theorem RepK.length : ∀ {kvs : List (Key × V)} {ds : List (D × D)}, RepK K ρ B H kvs ds → kvs.length = ds.length
  | _, _, .nil => rfl
  | _, _, .cons _ r => by simp [RepK.length r]
theorem RepK.keys : ∀ {kvs : List (Key × V)} {ds : List (D × D)}, RepK K ρ B H kvs ds → ds.map (·.1) = (kvs.map (·.1)).map keyD
  | _, _, .nil => rfl
  | _, _, .cons _ r => by simp [RepK.keys r]
theorem keys_str : ∀ {ks : List Key} {ts : List Txt}, ks.map keyD = ts.map D.str → ks = (ts.map mkS).map Sum.inr
  | [], [], _ => rfl
  | [], _ :: _, h => by simp at h
  | _ :: _, [], h => by simp at h
  | k :: ks, t :: ts, h => by
    simp only [List.map_cons, List.cons.injEq] at h
    rw [List.map_cons, List.map_cons, ← keys_str h.2]
    cases k with
    | inl i => simp [keyD] at h
    | inr z =>
      have : z.cps.toList = t := by simpa [keyD] using h.1
      rw [← this, mkS_of]
/-- a key as a value -/
theorem key_of {v : V} {d : D} (h : Rep K ρ B H v d) (e : isKey d = true) : ∃ k : Key, d = keyD k ∧ v = kV k := by
  cases h with
  | int i => exact ⟨.inl i, rfl, rfl⟩
  | str t => exact ⟨.inr (mkS t), by simp [keyD, mkS], rfl⟩
  | _ => cases e
theorem dictOf_some {x : D} {xs : List D} {acc out : List (D × D)} (e : dictOf (x :: xs) acc = some out) : ∃ kd vd, x = .tup [kd, vd] ∧ isKey kd = true ∧ dictOf xs (dput acc kd vd) = some out := by
  unfold dictOf at e
  split at e
  · rename_i h; cases h
  · rename_i k v ys h
    cases h
    by_cases q : isKey k = true
    · rw [if_pos q] at e; exact ⟨k, v, rfl, q, e⟩
    · rw [if_neg q] at e; cases e
  · cases e
theorem pairs_in : ∀ {vs : List V} {xs : List D} {acc : List (D × D)} {kvs0 : List (Key × V)} {out : List (D × D)}, RepL K ρ B H vs xs → RepK K ρ B H kvs0 acc → dictOf xs acc = some out →
    ∃ (ps : List Addr) (kvs : List (Key × V)), vs = ps.map V.ref ∧ Paired (fun p kv => SqT K H p [kV kv.1, kv.2]) ps kvs ∧ RepK K ρ B H (mergeK kvs0 kvs) out
  | _, [], acc, kvs0, out, r, r0, e => by
    cases r
    cases e
    exact ⟨[], [], rfl, .nil, r0⟩
  | _, x :: xs, acc, kvs0, out, r, r0, e => by
    obtain ⟨kd, vd, rfl, q, e'⟩ := dictOf_some e
    cases r with
    | cons h t =>
      cases h with
      | tup hq hr =>
        cases hr with
        | cons h1 hr =>
          cases hr with
          | cons h2 hr =>
            cases hr
            obtain ⟨k, rfl, rfl⟩ := key_of h1 q
            obtain ⟨ps, kvs, e1, e2, e3⟩ := pairs_in t (r0.put k h2) e'
            exact ⟨_ :: ps, (k, _) :: kvs, by rw [e1]; rfl, .cons hq e2, e3⟩
end
section
variable {X : Cx} {C : Cfg} {ca : Nat → Addr} {W : WX} {e a b c lo hi : Expr} {pos p1 p2 p3 p : Pos} {fa fb fc : Sl → G → R D} {k : Nat} {x : Str}
section
variable (na : starEach [a] X.env = (false, eval a X.env) :: starEach [] X.env)
include na
theorem e_sorted (hc : X.calm = true) (n : BN X x (.builtin "sorted")) (ha : PE X a (tR (fx C ca X W) fa)) : PE X (.Call (.Name x p) [a] [] pos) (tF (fx C ca X W) fun s g => (fa s g).bind fun x g => R.ofO g (at1 g x (prim1 .sorted))) := by
  refine op_oneF (p_fun (cr_sortedI.or (cr_sortedS.or (cr_sortedTup.or (call_sortedD hc)))) n.gl n.mg n.bt ha n.nn n.nd na) fun σ s B ρ H g v x z Q S vx ez h => ?_
  cases x with
  | lst ds =>
    obtain ⟨a, vs, rfl, h1, r⟩ := vx.list
    have ez : (sorted ds).map D.lst = some z := ez
    unfold sorted at ez
    cases q : ints? ds with
    | some ns =>
      rw [q] at ez
      cases ez
      have e := ints_some q
      subst e
      have e := r.ints
      subst e
      refine .inl ⟨a, ns, rfl, h1, fun ns' p k1 k2 k3 => ?_⟩
      rw [sortI_eq k1 k2]
      exact OutF.newL S h (repL_ints _) k3
    | none =>
      rw [q] at ez
      cases q2 : strs? ds with
      | none => rw [q2] at ez; cases ez
      | some ts =>
        rw [q2] at ez
        by_cases q3 : ts.length < 64
        · simp only [if_pos q3] at ez
          cases ez
          have e := strs_some q2
          subst e
          have e := r.strs
          subst e
          refine .inr (.inl ⟨a, ts.map mkS, rfl, h1, by rw [List.length_map]; exact q3, fun ys p k1 k2 k3 => ?_⟩)
          rw [sortS_eq k1 k2]
          exact OutF.newL S h (repL_strs _) k3
        · simp only [if_neg q3] at ez
          cases ez
  | tup ds =>
    obtain ⟨a, vs, rfl, h1, r⟩ := vx.tup
    have ez : (ints? ds).map (fun ns => D.lst ((sortI ns).map D.int)) = some z := ez
    cases q : ints? ds with
    | none => rw [q] at ez; cases ez
    | some ns =>
      rw [q] at ez
      cases ez
      have e := ints_some q
      subst e
      have e := r.ints
      subst e
      refine .inr (.inr (.inl ⟨a, ns, rfl, h1, fun ns' p k1 k2 k3 => ?_⟩))
      rw [sortI_eq k1 k2]
      exact OutF.newL S h (repL_ints _) k3
  | dic ds =>
    obtain ⟨a, kvs, rfl, h1, r⟩ := vx.dict
    have ez : ((strs? (ds.map (·.1))).bind fun ts => if ts.length < 64 then some (D.lst ((sortT ts).map .str)) else none) = some z := ez
    cases q : strs? (ds.map (·.1)) with
    | none => rw [q] at ez; cases ez
    | some ts =>
      rw [q] at ez
      have ez : (if ts.length < 64 then some (D.lst ((sortT ts).map .str)) else none) = some z := ez
      by_cases q3 : ts.length < 64
      · rw [if_pos q3] at ez
        cases ez
        have e := strs_some q
        rw [r.keys] at e
        have e2 : kvs.map (·.1) = (ts.map mkS).map Sum.inr := keys_str e
        refine .inr (.inr (.inr ⟨a, kvs, ts.map mkS, rfl, h1, e2, by rw [List.length_map]; exact q3, fun ys p k1 k2 k3 => ?_⟩))
        rw [sortS_eq k1 k2]
        exact OutF.newL S h (repL_strs _) k3
      · rw [if_neg q3] at ez; cases ez
  | _ => cases ez
theorem e_dict (hc : X.calm = true) (n : BN X x (.type "dict")) (ha : PE X a (tR (fx C ca X W) fa)) : PE X (.Call (.Name x p) [a] [] pos) (tF (fx C ca X W) fun s g => (fa s g).bind fun x g => R.ofO g (at1 g x (prim1 .dict))) := by
  refine op_oneF (p_ty (call_dictP hc) n.gl n.mg n.bt ha n.nn n.nd na) fun σ s B ρ H g v x z Q S vx ez h => ?_
  cases x with
  | lst ds =>
    obtain ⟨a, vs, rfl, h1, r⟩ := vx.list
    have ez : (dictOf ds []).map D.dic = some z := ez
    cases q : dictOf ds [] with
    | none => rw [q] at ez; cases ez
    | some out =>
      rw [q] at ez
      cases ez
      obtain ⟨ps, kvs, e1, e2, e3⟩ := pairs_in r .nil q
      subst e1
      exact ⟨a, ps, kvs, rfl, h1, e2, fun p hp => OutF.newD S h e3 hp⟩
  | _ => cases ez
end
/-! ### isinstance -/
theorem e_tyname {T : String} (n : BN X x (.type T)) : PE X (.Name x p) (tC (.ty T)) := ⟨fun pins s σ H Q I h => ld_blt I n.gl n.mg n.bt ⟨.ty T, H, I, rfl, h⟩ n.nn n.nd⟩
def tyN : Ty → String
  | .int => "int" | .str => "str" | .bool => "bool" | .tuple => "tuple" | .list => "list" | .dict => "dict"
def tyOf : D → String
  | .non => "NoneType" | .bl _ => "bool" | .int _ => "int" | .str _ => "str" | .tup _ => "tuple" | .lst _ => "list" | .dic _ => "dict" | .ref _ => ""
theorem kit_all : ∀ (d : D) (t : Ty), (∀ l, d ≠ .ref l) → kitB (tyOf d) (tyN t) = some (isTy t d)
  | .non, t, _ => by
    cases t
    · exact (by decide +kernel : kitB "NoneType" "int" = some false)
    · exact (by decide +kernel : kitB "NoneType" "str" = some false)
    · exact (by decide +kernel : kitB "NoneType" "bool" = some false)
    · exact (by decide +kernel : kitB "NoneType" "tuple" = some false)
    · exact (by decide +kernel : kitB "NoneType" "list" = some false)
    · exact (by decide +kernel : kitB "NoneType" "dict" = some false)
  | .bl _, t, _ => by
    cases t
    · exact (by decide +kernel : kitB "bool" "int" = some true)
    · exact (by decide +kernel : kitB "bool" "str" = some false)
    · exact (by decide +kernel : kitB "bool" "bool" = some true)
    · exact (by decide +kernel : kitB "bool" "tuple" = some false)
    · exact (by decide +kernel : kitB "bool" "list" = some false)
    · exact (by decide +kernel : kitB "bool" "dict" = some false)
  | .int _, t, _ => by
    cases t
    · exact (by decide +kernel : kitB "int" "int" = some true)
    · exact (by decide +kernel : kitB "int" "str" = some false)
    · exact (by decide +kernel : kitB "int" "bool" = some false)
    · exact (by decide +kernel : kitB "int" "tuple" = some false)
    · exact (by decide +kernel : kitB "int" "list" = some false)
    · exact (by decide +kernel : kitB "int" "dict" = some false)
  | .str _, t, _ => by
    cases t
    · exact (by decide +kernel : kitB "str" "int" = some false)
    · exact (by decide +kernel : kitB "str" "str" = some true)
    · exact (by decide +kernel : kitB "str" "bool" = some false)
    · exact (by decide +kernel : kitB "str" "tuple" = some false)
    · exact (by decide +kernel : kitB "str" "list" = some false)
    · exact (by decide +kernel : kitB "str" "dict" = some false)
  | .tup _, t, _ => by
    cases t
    · exact (by decide +kernel : kitB "tuple" "int" = some false)
    · exact (by decide +kernel : kitB "tuple" "str" = some false)
    · exact (by decide +kernel : kitB "tuple" "bool" = some false)
    · exact (by decide +kernel : kitB "tuple" "tuple" = some true)
    · exact (by decide +kernel : kitB "tuple" "list" = some false)
    · exact (by decide +kernel : kitB "tuple" "dict" = some false)
  | .lst _, t, _ => by
    cases t
    · exact (by decide +kernel : kitB "list" "int" = some false)
    · exact (by decide +kernel : kitB "list" "str" = some false)
    · exact (by decide +kernel : kitB "list" "bool" = some false)
    · exact (by decide +kernel : kitB "list" "tuple" = some false)
    · exact (by decide +kernel : kitB "list" "list" = some true)
    · exact (by decide +kernel : kitB "list" "dict" = some false)
  | .dic _, t, _ => by
    cases t
    · exact (by decide +kernel : kitB "dict" "int" = some false)
    · exact (by decide +kernel : kitB "dict" "str" = some false)
    · exact (by decide +kernel : kitB "dict" "bool" = some false)
    · exact (by decide +kernel : kitB "dict" "tuple" = some false)
    · exact (by decide +kernel : kitB "dict" "list" = some false)
    · exact (by decide +kernel : kitB "dict" "dict" = some true)
  | .ref l, t, h => (h l rfl).elim
theorem view_ty {ρ B : List Addr} {H : Hp} {v : V} {d : D} (h : View X.K ρ B H v d) : (∀ l, d ≠ .ref l) ∧ TyX X.K H v (.type (tyOf d)) := by
  cases d with
  | non => rw [h.non]; exact ⟨by simp, .base .non⟩
  | bl b => rw [h.bl]; exact ⟨by simp, .base (.bl b)⟩
  | int i => rw [h.int]; exact ⟨by simp, .base (.int i)⟩
  | str t => rw [h.str]; exact ⟨by simp, .base (.str _)⟩
  | tup ds =>
    obtain ⟨a, vs, rfl, h1, r⟩ := h.tup
    refine ⟨by simp, ?_⟩
    rcases h1 with (h1 | ⟨o, h1⟩) | ⟨o, its, n, h1, h2, _⟩
    · exact .base (.tup h1)
    · exact .fTuple h1
    · exact .kTuple h1 h2
  | lst ds =>
    obtain ⟨a, vs, rfl, h1, r⟩ := h.list
    refine ⟨by simp, ?_⟩
    rcases h1 with (h1 | ⟨o, h1⟩) | ⟨o, its, n, h1, h2, _⟩
    · exact .base (.lst h1)
    · exact .base (.frz h1)
    · exact .kList h1 h2
  | dic ds =>
    obtain ⟨a, kvs, rfl, h1, r⟩ := h.dict
    refine ⟨by simp, ?_⟩
    rcases h1 with h1 | ⟨o, h1⟩
    · exact .base (.dK h1)
    · exact .fDict h1
  | ref l => exact h.noref.elim
theorem e_isi {t : Ty} {y : Str} {q1 : Pos} (n : BN X x (.builtin "isinstance")) (nt : BN X y (.type (tyN t))) (ha : PE X a (tR (fx C ca X W) fa)) (na : starEach [a, .Name y q1] X.env = (false, eval a X.env) :: starEach [.Name y q1] X.env) :
    PE X (.Call (.Name x p) [a, .Name y q1] [] pos) (tE (fx C ca X W) fun s g => (fa s g).bind fun x g => R.ofO g (at1 g x fun x => some (.bl (isTy t x)))) := by
  refine op_one (t := fun v H Q => rIsi X.K [v, .ty (tyN t)] H Q) (pe_callB call_isi n.gl n.mg n.bt (pa_cons ha (pa_cons (e_tyname nt) pa_nil) na) n.nn n.nd na rfl) fun σ s B ρ H g v x z Q S vx ez h => ?_
  obtain ⟨hn, ht⟩ := view_ty vx
  cases ez
  exact ⟨v, .ty (tyN t), _, _, isTy t x, rfl, .ty _, ht, kit_ty (kit_all x t hn), h.done S (.bl _)⟩
/-! ### list(range(n)) -/
theorem rangeL_rg (n : Int) {K : Fg} {ρ B : List Addr} {H : Hp} : RepL K ρ B H (rgV 0 n) (rangeL 0 n.toNat) := by
  have e : rgV 0 n = (List.range n.toNat).map fun (i : Nat) => V.int (i : Int) := by
    unfold rgV
    rw [Int.sub_zero]
    exact List.map_congr_left fun i _ => by rw [Int.zero_add]
  have e2 : rangeL 0 n.toNat = (List.range n.toNat).map fun (i : Nat) => D.int (i : Int) := by
    unfold rangeL
    rw [List.range_eq_range']
  rw [e, e2]
  have : ∀ l : List Nat, RepL K ρ B H (l.map fun (i : Nat) => V.int (i : Int)) (l.map fun (i : Nat) => D.int (i : Int)) := by
    intro l
    induction l with
    | nil => exact .nil
    | cons i l ih => exact .cons (.int _) ih
  exact this _
theorem e_listR {y : Str} {q1 q2 : Pos} (hc : X.calm = true) (hg : Gl X "list") (hm : X.mg "list" = none) (rg : Gl X "range") (rm : X.mg "range" = none) (ha : PE X a (tE (fx C ca X W) fa)) (na : starEach [a] X.env = (false, eval a X.env) :: starEach [] X.env) :
    PE X (.Call (.Name "list" p) [.Call (.Name "range" q1) [a] [] q2] [] pos) (tF (fx C ca X W) fun s g => ((fa s g).bind fun x g => R.ofO g (at1 g x (prim1 .range))).bind fun x g => R.ofO g (at1 g x (prim1 .list))) := by
  refine (pe_listRg hc hg hm (prg_1 rg rm ha na) rfl).impX fun σ H Q ⟨ρ, B, s, g, S, q⟩ => ?_
  have q : OutF (fx C ca X W) σ s B ρ H ((fa s g).bind fun x g => (R.ofO g (at1 g x (prim1 .range))).bind fun x g => R.ofO g (at1 g x (prim1 .list))) Q := by
    have : (((fa s g).bind fun x g => R.ofO g (at1 g x (prim1 .range))).bind fun x g => R.ofO g (at1 g x (prim1 .list))) = ((fa s g).bind fun x g => (R.ofO g (at1 g x (prim1 .range))).bind fun x g => R.ofO g (at1 g x (prim1 .list))) := by
      cases fa s g <;> rfl
    rw [← this]; exact q
  refine ⟨ρ, B, s, g, S, OutF.seq (R1 := rRep X.K B) q fun x g1 v H1 ρ1 _ e1 S1 r1 h1 => ?_⟩
  cases z : at1 g1 x (prim1 .range) with
  | none => rw [z] at h1; exact h1.elim
  | some y =>
    rw [z] at h1
    obtain ⟨x', d1, ez⟩ := at1_some z
    cases x' with
    | int n =>
      have vx := (Raw.rep r1).view S1.heap d1
      have e := vx.int
      subst e
      have ez : (if -(2 ^ 62) ≤ n ∧ n ≤ 16777216 then some (D.lst (rangeL 0 n.toNat)) else none) = some y := ez
      by_cases k : -(2 ^ 62) ≤ n ∧ n ≤ 16777216
      · rw [if_pos k] at ez
        cases ez
        refine ⟨n, rfl, ⟨by omega, by omega, k.1, by omega, by omega⟩, fun q hq => ?_⟩
        have h2 : OutF (fx C ca X W) σ s B ρ1 H1 (.ok (.lst (rangeL 0 n.toNat)) g1) Q := h1
        exact OutF.newL S1 h2 (rangeL_rg n) hq
      · rw [if_neg k] at ez; cases ez
    | _ => cases ez
end
end PX
end
section
set_option Elab.async false
set_option linter.all false
set_option maxRecDepth 100000
set_option autoImplicit false
set_option maxHeartbeats 1000000
/-! PXja: methods of texts: split, join, find. -/
namespace PX
open PySem L2 PySem.Spec PyProof.Rows
section
variable {X : Cx} {C : Cfg} {ca : Nat → Addr} {W : WX} {e a b c : Expr} {pos apos : Pos} {fa fb fc : Sl → G → R D}
theorem txtD {x : D} (h : isTxtD x = true) : ∃ t, x = .str t := by
  cases x <;> first | exact ⟨_, rfl⟩ | (exact (Bool.false_ne_true h).elim)
theorem Raw.str {K : Fg} {ρ B : List Addr} {H : Hp} {v : V} {t : Txt} (h : Raw K ρ B H v (.str t)) : v = .str (mkS t) := by
  cases h with
  | rep r => cases r; rfl
  | own h1 h2 h3 => simp [isCont] at h2
/-- a receiver: how its base stands -/
def recvB : Expr → Bool
  | .Name _ _ => true
  | .Subscript _ _ _ => true
  | .Constant _ _ _ => true
  | .Call _ (_ :: _) _ _ => true
  | _ => false
theorem base_of {o : Expr} {f : Str} {env : Env} (h : recvB o = true) : attributeBase o f env (eval o env) = eval o env := by
  cases o with
  | Call f as kws p =>
    cases as with
    | nil => exact (Bool.false_ne_true h).elim
    | cons a as => cases f <;> rfl
  | _ => first | rfl | (exact (Bool.false_ne_true h).elim)
theorem lens_mkS (ts : List Txt) : ((ts.map mkS).map (·.length)).sum = (ts.map (·.length)).sum := by
  rw [List.map_map]
  congr 1
theorem e_split (ha : PE X a (tR (fx C ca X W) fa)) (hb : PE X b (tR (fx C ca X W) fb)) (hs : starEach [b] X.env = [(false, eval b X.env)]) (hr : recvB a = true) (hl : (apos.endLine == pos.line) = true) :
    PE X (.Call (.Attribute a "split" apos) [b] [] pos) (tF (fx C ca X W) fun s g => (fa s g).bind fun x g => if isTxtD x = true then (fb s g).bind fun y g => R.ofO g (at2 g x y (prim2 .split)) else .bad) := by
  refine (pe_split ha hb hs (base_of hr) hl).impX fun σ H Q ⟨ρ, B, s, g, S, q⟩ => ?_
  refine ⟨ρ, B, s, g, S, OutF.seq (R1 := rRaw X.K B) q fun x g1 v H1 ρ1 _ e1 S1 r1 h1 => ?_⟩
  by_cases k : isTxtD x = true
  · rw [if_pos k] at h1
    obtain ⟨t, rfl⟩ := txtD k
    have ev := r1.str
    subst ev
    refine ⟨⟨_, rfl⟩, ρ1, B, s, g1, S1, OutF.seq (R1 := rRaw X.K B) h1 fun y g2 u H2 ρ2 _ e2 S2 r2 h2 => ?_⟩
    obtain ⟨z, ez, h3⟩ := h2.ofO
    obtain ⟨x', y', d1, d2, ez⟩ := at2_some ez
    cases d1
    have vy := r2.view S2.heap d2
    cases y' with
    | str p =>
      match p, ez, vy with
      | [], ez, _ => cases ez
      | _ :: _ :: _, ez, _ => cases ez
      | [c], ez, vy =>
        have ez : (if t.length + 2 ≤ LIM ∧ c < 256 then some (D.lst ((splitT c t).map .str)) else none) = some z := ez
        by_cases w : t.length + 2 ≤ LIM ∧ c < 256
        · rw [if_pos w] at ez
          cases ez
          rw [vy.str]
          refine ⟨_, _, rfl, rfl, by rw [mkS_length]; rfl, by rw [mkS_length]; exact lim_line w.1, fun l hl => ?_⟩
          rw [split_txt t w.2]
          exact OutF.newL S2 h3 (repL_strs _) hl
        · rw [if_neg w] at ez; cases ez
    | _ => cases ez
  · rw [if_neg k] at h1; exact h1.elim
theorem e_join (ha : PE X a (tR (fx C ca X W) fa)) (hb : PE X b (tR (fx C ca X W) fb)) (hs : starEach [b] X.env = [(false, eval b X.env)]) (hr : recvB a = true) (hl : (apos.endLine == pos.line) = true) :
    PE X (.Call (.Attribute a "join" apos) [b] [] pos) (tE (fx C ca X W) fun s g => (fa s g).bind fun x g => if isTxtD x = true then (fb s g).bind fun y g => R.ofO g (at2 g x y (prim2 .join)) else .bad) := by
  refine (pe_join ha hb hs (base_of hr) hl).impX fun σ H Q ⟨ρ, B, s, g, S, q⟩ => ?_
  refine ⟨ρ, B, s, g, S, Out.seq (R1 := rRaw X.K B) q fun x g1 v H1 ρ1 _ e1 S1 r1 h1 => ?_⟩
  by_cases k : isTxtD x = true
  · rw [if_pos k] at h1
    obtain ⟨t, rfl⟩ := txtD k
    have ev := r1.str
    subst ev
    refine ⟨⟨_, rfl⟩, ρ1, B, s, g1, S1, Out.seq (R1 := rRaw X.K B) h1 fun y g2 u H2 ρ2 _ e2 S2 r2 h2 => ?_⟩
    obtain ⟨z, ez, h3⟩ := h2.ofO
    obtain ⟨x', y', d1, d2, ez⟩ := at2_some ez
    cases d1
    have vy := r2.view S2.heap d2
    cases y' with
    | lst xs =>
      have ez : ((strs? xs).bind fun ts => if (ts.map (·.length)).sum + ts.length * t.length ≤ LIM then some (D.str (joinT t ts)) else none) = some z := ez
      cases w : strs? xs with
      | none => rw [w] at ez; cases ez
      | some ts =>
        rw [w] at ez
        have ez : (if (ts.map (·.length)).sum + ts.length * t.length ≤ LIM then some (D.str (joinT t ts)) else none) = some z := ez
        by_cases m : (ts.map (·.length)).sum + ts.length * t.length ≤ LIM
        · rw [if_pos m] at ez
          cases ez
          have e := strs_some w
          subst e
          obtain ⟨p, vs, rfl, h4, r⟩ := vy.list
          have e := r.strs
          subst e
          refine ⟨_, p, ts.map mkS, rfl, rfl, .inl h4, ?_, ?_⟩
          · rw [lens_mkS, List.length_map, mkS_length]; exact m
          · rw [join_txt]; exact h3.done S2 (.str _)
        · rw [if_neg m] at ez; cases ez
    | _ => cases ez
  · rw [if_neg k] at h1; exact h1.elim
theorem e_find (ha : PE X a (tR (fx C ca X W) fa)) (hb : PE X b (tE (fx C ca X W) fb)) (hc : PE X c (tE (fx C ca X W) fc)) (hs : starEach [b, c] X.env = (false, eval b X.env) :: starEach [c] X.env) (hs2 : starEach [c] X.env = (false, eval c X.env) :: starEach [] X.env)
    (hfew : ((backTo pos (starEach [b, c] X.env)).all (fun x => !x.1) && (backToKw pos (keywordEach [] X.env)).all (fun x => x.1.isSome) && decide (([b, c] : List Expr).length + ([] : List Keyword).length + (if ([] : List Keyword).isEmpty then 0 else 1) < 30)) = true)
    (hpl : (backTo pos (starEach [c] X.env)).any (·.1) = false) (hr : recvB a = true) (hl : (apos.endLine == pos.line) = true) :
    PE X (.Call (.Attribute a "find" apos) [b, c] [] pos) (tE (fx C ca X W) fun s g => (fa s g).bind fun x g => if isTxtD x = true then (fb s g).bind fun y g => (fc s g).bind fun z g => R.ofO g (findD x y z) else .bad) := by
  refine (pe_bm PySem.F.plainAttrs_str PySem.F.slot_str_find PySem.F.type_str_find mt_find3 ha (pa_cons hb (pa_cons hc pa_nil hs2) hs) (base_of hr) hfew hl hs hpl).impX fun σ H Q ⟨ρ, B, s, g, S, q⟩ => ?_
  refine ⟨ρ, B, s, g, S, Out.seq (R1 := rRaw X.K B) q fun x g1 v H1 ρ1 _ e1 S1 r1 h1 => ?_⟩
  by_cases k : isTxtD x = true
  · rw [if_pos k] at h1
    obtain ⟨t, rfl⟩ := txtD k
    have ev := r1.str
    subst ev
    refine ⟨?_, ρ1, B, s, g1, S1, Out.seq (R1 := rRep X.K B) h1 fun y g2 u H2 ρ2 _ e2 S2 r2 h2 => ?_⟩
    · first | trivial | rfl | exact ⟨_, rfl⟩
    refine ⟨ρ2, B, s, g2, S2, Out.seq (R1 := rRep X.K B) h2 fun z g3 w H3 ρ3 _ e3 S3 r3 h3 => ?_⟩
    obtain ⟨d, ez, h4⟩ := h3.ofO
    match y, z, ez, r2, r3 with
    | .str [c], .int i, ez, r2, r3 =>
      have ez : (if 0 ≤ i then some (D.int (findT c t i.toNat)) else none) = some d := ez
      by_cases m : 0 ≤ i
      · rw [if_pos m] at ez
        cases ez
        cases r2
        cases r3
        refine ⟨_, _, i, rfl, rfl, ?_⟩
        rw [find_txt t c m]
        exact h4.done S3 (.int _)
      · rw [if_neg m] at ez; cases ez
    | .non, _, ez, _, _ | .bl _, _, ez, _, _ | .int _, _, ez, _, _ | .tup _, _, ez, _, _ | .lst _, _, ez, _, _ | .dic _, _, ez, _, _ | .ref _, _, ez, _, _ | .str [], _, ez, _, _ | .str (_ :: _ :: _), _, ez, _, _ => cases ez
    | .str [_], .non, ez, _, _ | .str [_], .bl _, ez, _, _ | .str [_], .str _, ez, _, _ | .str [_], .tup _, ez, _, _ | .str [_], .lst _, ez, _, _ | .str [_], .dic _, ez, _, _ | .str [_], .ref _, ez, _, _ => cases ez
  · rw [if_neg k] at h1; exact h1.elim
end
end PX
end
section
set_option Elab.async false
set_option linter.all false
set_option maxRecDepth 100000
set_option autoImplicit false
set_option maxHeartbeats 1000000
/-! PXjb: where a token is out; replace of one sign by nothing. -/
namespace PX
open PySem L2 PySem.Spec PyProof.Rows
/-- behind it a token is out -/
def Yields {α : Type} (t : Sem α) : Prop := ∀ (M : Model) (Γ : PySem.Ctx) (Q : α → Pos → Shared → Prop) (E : Value → Pos → Shared → Prop) (p : Pos) (s : Shared), Sem.wp M Γ t Q E p s → Sem.wp M Γ t (fun a p' s' => 1 ≤ s'.toks ∧ Q a p' s') E p s
theorem Yields.left {α β : Type} {t : Sem α} {k : α → Sem β} (h : Yields t) : Yields (t >>= k) := by
  intro M Γ Q E p s q
  rw [Sem.wp_bind'] at q ⊢
  refine Sem.wp_mono M Γ _ (fun a p' s' h1 => ?_) (fun _ _ _ h => h) _ _ (h M Γ _ E p s q)
  exact Sem.wp_mono M Γ _ (fun _ _ _ h => h) (fun _ _ _ h => h.2) _ _ (Sem.wp_toks M Γ 1 _ _ _ p' s' h1.1 h1.2)
theorem Yields.right {α β : Type} {t : Sem α} {k : α → Sem β} (h : ∀ a, Yields (k a)) : Yields (t >>= k) := by
  intro M Γ Q E p s q
  rw [Sem.wp_bind'] at q ⊢
  exact Sem.wp_mono M Γ _ (fun a p' s' h1 => h a M Γ Q E p' s' h1) (fun _ _ _ h => h) _ _ q
theorem Yields.hold {α : Type} {t : Sem α} {vs : List Value} (h : Yields t) : Yields (holding vs t) := by
  intro M Γ Q E p s q
  rw [Sem.wp_holding] at q ⊢
  exact h M Γ Q E p s q
theorem y_int {i : Int} {k : Nat} {pos : Pos} {env : Env} : Yields (eval (.Constant (.int i) k pos) env) := fun M Γ Q E p s q => ⟨Nat.succ_le_succ (Nat.zero_le s.toks), q⟩
theorem y_bin {a b : Expr} {op : Operator} {pos : Pos} {env : Env} (h : Yields (eval b env)) : Yields (eval (.BinOp a op b pos) env) := by
  rw [eval_BinOp]
  exact Yields.right fun v => Yields.left h.hold
theorem y_low {x b : Expr} {hi : Option Expr} {p pos : Pos} {env : Env} (h : Yields (eval b env)) : Yields (eval (.Subscript x (.Slice (some b) hi none p) pos) env) := by
  rw [eval_Subscript]
  refine Yields.right fun o => Yields.left (Yields.hold ?_)
  rw [arm_eval_Slice]
  exact Yields.left h
/-- ends with an int's sign: a + x[b + 1:] -/
def tokB : Expr → Bool
  | .BinOp _ _ (.Subscript _ (.Slice (some (.BinOp _ _ (.Constant (.int _) _ _) _)) _ none _) _) _ => true
  | _ => false
theorem tok_of {e : Expr} {env : Env} (h : tokB e = true) : Yields (eval e env) := by
  unfold tokB at h
  split at h
  · exact y_bin (y_low (y_bin y_int))
  · exact (Bool.false_ne_true h).elim
theorem Yields.any {M : Model} {A : Around} {α : Type} {t : Sem α} {Q : α → Shared → Prop} {E : Value → Shared → Prop} {s : Shared} (h : Yields t) (q : wpAny M A t Q E s) : wpAny M A t (fun a s' => 1 ≤ s'.toks ∧ Q a s') E s :=
  fun Γ p hΓ => h M Γ _ _ p s (q Γ p hΓ)
section
variable {X : Cx} {C : Cfg} {ca : Nat → Addr} {W : WX} {e a b c : Expr} {es : List Expr} {pos apos : Pos} {fa fb fc : Sl → G → R D} {fs : Sl → G → R (List D)}
theorem pa_yields {tb : TE} {ta : TA} (hb : PE X b tb) (hy : Yields (eval b X.env)) (hr : PAT X es ta) (hs : starEach (b :: es) X.env = (false, eval b X.env) :: starEach es X.env) : PA X (b :: es) (tCons tb ta) := by
  refine ⟨fun pos pins s σ H Q I h => ?_⟩
  rw [hs]
  show wpAny _ _ (spliced ((false, eval b X.env) :: backTo pos (starEach es X.env))) _ _ s
  refine Calls.spliced_cons (wpAny_mono (hy.any (hb.run pins s σ H _ I h)) (fun v s1 q => ?_) fun _ _ z => z)
  obtain ⟨hk, x, H1, I1, r1, q1⟩ := q
  exact thn (hr pos pins s1 σ H1 _ hk I1 q1) fun us s2 ⟨xs, H2, I2, r2, q2⟩ => ⟨x :: xs, H2, I2, .cons r1 r2, q2⟩
theorem patX {t t' : TA} (h : PAT X es t) (i : ∀ σ H Q, t' σ H Q → t σ H Q) : PAT X es t' := fun pos pins s σ H Q h0 I q => h pos pins s σ H Q h0 I (i σ H Q q)
theorem petX {t t' : TE} (h : PET X e t) (i : ∀ σ H Q, t' σ H Q → t σ H Q) : PET X e t' := fun pins s σ H Q h0 I q => h pins s σ H Q h0 I (i σ H Q q)
theorem at_nil : PAT X [] (tI (fx C ca X W) (rRepL X.K) fun _ g => .ok [] g) := patX pat_nil fun σ H Q ⟨ρ, B, s, g, S, h⟩ => Out.done (F := fx C ca X W) S .nil h
theorem at_cons (he : PET X e (tE (fx C ca X W) fa)) (hr : PAT X es (tI (fx C ca X W) (rRepL X.K) fs)) (hs : starEach (e :: es) X.env = (false, eval e X.env) :: starEach es X.env) :
    PAT X (e :: es) (tI (fx C ca X W) (rRepL X.K) fun s g => (fa s g).bind fun d g => (fs s g).bind fun ds g => .ok (d :: ds) g) := by
  refine patX (pat_cons he hr hs) fun σ H Q ⟨ρ, B, s, g, S, h⟩ => ?_
  refine ⟨ρ, B, s, g, S, h.seq fun d g1 v H1 ρ1 _ e1 S1 r1 h1 => ?_⟩
  refine ⟨ρ1, B, s, g1, S1, h1.seq fun ds g2 vs H2 ρ2 _ e2 S2 r2 h2 => ?_⟩
  exact h2.done S2 (.cons (r1.ext e2) r2)
theorem a_yields (hb : PE X b (tE (fx C ca X W) fb)) (hy : Yields (eval b X.env)) (hr : PAT X es (tI (fx C ca X W) (rRepL X.K) fs)) (hs : starEach (b :: es) X.env = (false, eval b X.env) :: starEach es X.env) :
    PA X (b :: es) (tI (fx C ca X W) (rRepL X.K) fun s g => (fb s g).bind fun d g => (fs s g).bind fun ds g => .ok (d :: ds) g) := by
  refine (pa_yields hb hy hr hs).impX fun σ H Q ⟨ρ, B, s, g, S, h⟩ => ?_
  refine ⟨ρ, B, s, g, S, h.seq fun d g1 v H1 ρ1 _ e1 S1 r1 h1 => ?_⟩
  refine ⟨ρ1, B, s, g1, S1, h1.seq fun ds g2 vs H2 ρ2 _ e2 S2 r2 h2 => ?_⟩
  exact h2.done S2 (.cons (r1.ext e2) r2)
theorem e_strike {k j n : Nat} {q1 q2 : Pos} (ha : PE X a (tR (fx C ca X W) fa)) (hr : recvB a = true) (hl : (apos.endLine == pos.line) = true) :
    PET X (.Call (.Attribute a "replace" apos) [.Constant (.str (mkS [n])) j q1, .Constant (.str (mkS [])) k q2] [] pos) (tE (fx C ca X W) fun s g => (fa s g).bind fun x g => R.ofO g (at1 g x (strikeD n))) := by
  have hyz : (mkS [n] == mkS []) = false := by
    rw [beq_eq_false_iff_ne]
    intro e
    have := mkS_inj e
    simp at this
  refine petX (CwR.pet_replC (y := mkS [n]) (z := mkS []) ha hyz rfl (base_of hr) hl) fun σ H Q ⟨ρ, B, s, g, S, q⟩ => ?_
  refine ⟨ρ, B, s, g, S, q.seq fun x g1 v H1 ρ1 _ e1 S1 r1 h1 => ?_⟩
  obtain ⟨z, ez, h3⟩ := h1.ofO
  obtain ⟨x', d1, ez⟩ := at1_some ez
  have vx := r1.view S1.heap d1
  cases x' with
  | str t =>
    have ez : (if t.length ≤ LIM then some (D.str (t.filter (· != n))) else none) = some z := ez
    by_cases w : t.length ≤ LIM
    · rw [if_pos w] at ez
      cases ez
      refine ⟨_, vx.str, ?_, ?_⟩
      · rw [mkS_length, mkS_length]
        have : LIM = 16777216 := rfl
        simp
        omega
      · rw [strike_txt]
        exact h3.done S1 (.str _)
    · rw [if_neg w] at ez; cases ez
  | _ => cases ez
end
end PX
end
section
set_option Elab.async false
set_option linter.all false
set_option maxRecDepth 100000
set_option autoImplicit false
set_option maxHeartbeats 1000000
/-! PXk: calls of the program's own defs. -/
namespace PX
open PySem L2 PySem.Spec PyProof.Rows
section
variable {P : Program} {w : World} {K : Fg} {mg : Str → Option Value} {base : Heap}
/-- a def's promise, outside any repr -/
def FnG (P : Program) (w : World) (K : Fg) (mg : Str → Option Value) (base : Heap) (k : Nat) (f : Addr) (fd : FuncData) (ps : List Str) (sp : Sp) : Prop :=
  ∀ (A : Around) (outer : List Env) (s : Shared) (H : Hp) (args : Args) (us : List Value) (vs : List V) (Q : VK) (E : XK), A.guards = some [] → Room k A → Env0 P w K mg base A outer s H →
    BindsTo s fd args (ps.zip us) → Vals vs us → vs.length = ps.length → sp vs H Q E → codeAny (model P w) A (.call (.ref f) args) (CR (L2.CX P w) outer P w H s Q E) s
theorem FnG.mono {j k : Nat} {f : Addr} {fd : FuncData} {ps : List Str} {sp : Sp} (F : FnG P w K mg base j f fd ps sp) (h : j ≤ k) : FnG P w K mg base k f fd ps sp :=
  fun A outer s H args us vs Q E hg hr => F A outer s H args us vs Q E hg (hr.mono h)
/-- what a def's record is, and where it stands -/
structure DefAt (K : Fg) (f : Addr) (N ps : List Str) (body : List Stmt) (qual : Str) (scope : Scope) (cdv : Value) (fd : FuncData) : Prop where
  ex : ∃ (name : Str) (params : Arguments) (dV kV doc pm ct oc : Value) (an od : Option Addr) (osl : Array (Option Value)), fd = PySem.W.fnOf name qual params body scope dV kV doc pm an cdv ct ∧ K.lookup f = some ⟨oc, od, .func (PySem.W.fnOf name qual params body scope dV kV doc pm an cdv ct), osl⟩
  code : PySem.W.codeIn K cdv qual = true
  sc : FnScope N ps scope
abbrev cxG (P : Program) (w : World) (K : Fg) (mg : Str → Option Value) (base : Heap) (N : List Str) (qual : Str) (scope : Scope) (f : Addr) (cdv : Value) (A : Around) (outer : List Env) (s : Shared) (H : Hp) (E : XK) : Cx :=
  cxOf (L2.CX P w) P w K mg base N qual scope f cdv A outer s H E
theorem fnG_of {k : Nat} {f : Addr} {N ps : List Str} {body : List Stmt} {qual : Str} {scope : Scope} {cdv : Value} {fd : FuncData} {sp : Sp} (D : DefAt K f N ps body qual scope cdv fd)
    (hbody : ∀ (A : Around) (outer : List Env) (s : Shared) (H : Hp) (vs : List V) (Q : VK) (E : XK), A.guards = some [] → Room k (A.deeper (envOfC qual scope s.heap.objs.size f cdv)) → vs.length = ps.length → sp vs H Q E →
      ∃ t, PSs (cxG P w K mg base N qual scope f cdv A outer s H E) body t ∧ t { nx := fun _ H' => Q .non H', rt := Q } (L2.start N vs) H) : FnG P w K mg base (k + 1) f fd ps sp := by
  obtain ⟨⟨name, params, dV, kV, doc, pm, ct, oc, an, od, osl, rfl, lk⟩, hcd, S⟩ := D
  intro A outer s H args us vs Q E hg hr e0 hb r hl hsp
  have kin : K.In s.heap := e0.mod.kin.keeps fun b o e => (e0.bs b o e).1
  have lim : s.heap.NoLimit := e0.mod.nolimit.keeps fun b o e => (e0.bs b o e).1
  have kinds : ∀ y ∈ ps.zip us, scope.names.lookup y.1 = some .local ∨ (scope.names.lookup y.1 = some .cell ∧ ((cellsFrom (s.heap.objs.size + 1) scope.names []).lookup y.1).isSome = true) := fun ⟨n, v⟩ hy =>
    (S.par n (List.of_mem_zip hy).1).elim .inl fun q => .inr ⟨q, PySem.W.cellsFrom_some _ _ _ (.inl q)⟩
  refine codeAny_call_function hr.depth (kin _ _ lk) rfl S.co S.gen rfl (PySem.W.codeRec_of kin hcd) (hb _ _ _ _ ?_)
  refine wpAny_newFunctionEnv_cells S.kind kinds fun env he s1 x => ?_
  subst he
  refine ⟨lim.keeps x.toInCall.keep, codeAny_func ?_⟩
  obtain ⟨t, ht, hq⟩ := hbody A outer s H vs Q E hg (hr.deeper _) hl hsp
  have I : Inv (cxG P w K mg base N qual scope f cdv A outer s H E) [] (L2.start N vs) H s1 := inv_start S hr.hd e0 hl r x
  refine wpAny_mono (ht.run [] s1 (L2.start N vs) H _ I hq) (fun fl s' hs => ?_) fun e s' hs => hs
  have ends : ∀ {σ' : L2.St} {H' : Hp} {v : V} {u : Value}, Inv (cxG P w K mg base N qual scope f cdv A outer s H E) [] σ' H' s' → RelV v u → Q v H' → CE outer P w H s Q u s' :=
    fun {σ' H' v u} J rv q => ⟨v, H', J.os, J.bare, J.base, J.hok, rv, q⟩
  cases fl with
  | ret u =>
    obtain ⟨v, σ', H', J, rv, q⟩ := hs
    exact ends J rv q
  | next =>
    obtain ⟨σ', H', J, q⟩ := hs
    exact ends (v := V.non) (u := Value.none) J rfl q
  | brk =>
    obtain ⟨_, _, _, q⟩ := hs
    exact (show False from q).elim
  | cont =>
    obtain ⟨_, _, _, q⟩ := hs
    exact (show False from q).elim
end
section
variable {X : Cx} {C : Cfg} {ca : Nat → Addr} {W : WX} {k n : Nat} {f : Addr} {fd : FuncData} {ps : List Str} {sp : Sp} {x : Str} {p pos : Pos} {e : Expr} {es : List Expr} {t : TA}
theorem e_callG (F : FnG X.prog X.w X.K X.mg X.base k f fd ps sp) (hG : X.A.guards = some []) (hr : Room k X.A) (hg : Gl X x) (hm : X.mg x = some (.ref f)) (hk : PySem.W.keepIn X.K (.ref f) = true) (hb : Binds X.K fd ps []) (tk : Takes X W)
    (ha : PA X (e :: es) t) (hdb : (x == ("__debug__" : Str)) = false) (he : starEach (e :: es) X.env = (false, eval e X.env) :: starEach es X.env) (hpl : (backTo pos (starEach es X.env)).any (·.1) = false) :
    PE X (.Call (.Name x p) (e :: es) [] pos) (fun σ H Q => t σ H fun vs H1 => vs.length = ps.length ∧ sp vs H1 Q (WE W σ)) := by
  refine ⟨fun pins s σ H Q I h => ?_⟩
  refine wpAny_Call_Name_kw (ld_glob I hg hm ?_ hdb)
  refine PySem.W.callWith_K (h₀ := X.base) I.ok.mod.kin hk (thn (ha.run pos pins s σ H _ I h) fun us s1 ⟨vs, H1, I1, r, hl, q⟩ => ⟨I1.kIn, ?_⟩) he hpl
  have hl' : us.length = ps.length := by rw [← r.length]; exact hl
  have b := hb s1 us I1.kIn (by rw [List.append_nil]; exact hl')
  rw [List.append_nil] at b
  refine wpAny_call (codeAny_mono (F X.A X.stack s1 H1 ⟨us, []⟩ us vs Q (WE W σ) hG hr I1.env0 b r hl q) fun r s' hq => ?_)
  cases r with
  | error e => exact passAt tk σ pins H1 s1 e s' I1 hq
  | ok fl =>
    cases fl with
    | ret u => exact I1.after hq
    | next => exact False.elim hq
    | brk => exact False.elim hq
    | cont => exact False.elim hq
end
/-! ### the promise of a def, by the interpreter -/
def OutC (C : Cfg) (ca : Nat → Addr) (K : Fg) (fresh : Bool) (ρ B : List Addr) (H : Hp) (r : R D) (Q : VK) (E : XK) : Prop :=
  match r with
  | .ok d g' => if fresh = true then isCont d = true → ∀ a H' ρ', Ext ρ H ρ' H' → a ∉ B → H a = none → HeapOk K ρ' (a :: B) H' g' → ObjR K ρ' (a :: B) H' a (toPO d) → Q (.ref a) H'
      else ∀ v H' ρ', Ext ρ H ρ' H' → HeapOk K ρ' B H' g' → Rep K ρ' B H' v d → Q v H'
  | .exc x g' => ∀ cls dx H' ρ', Ext ρ H ρ' H' → HeapOk K ρ' B H' g' → XRep C ca K x cls dx H' → E cls dx H'
  | .bad => False
def spI (C : Cfg) (ca : Nat → Addr) (K : Fg) (fresh : Bool) (n i : Nat) : Sp := fun vs H Q E => ∃ ρ B g ds, HeapOk K ρ B H g ∧ RepL K ρ B H vs ds ∧ OutC C ca K fresh ρ B H (call C.pr n i ds g) Q E
theorem call_np {P : Pr} {n i : Nat} {ds : List D} {g : G} {fn : Fn} (hf : P.fns[i]? = some fn) (h : call P n i ds g ≠ .bad) : ds.length = fn.np := by
  cases n with
  | zero => exact (h rfl).elim
  | succ n =>
    unfold call at h
    rw [hf] at h
    by_cases q : ds.length = fn.np
    · exact q
    · simp only [if_neg q] at h
      exact (h rfl).elim
section
variable {K : Fg} {ρ ρ' B B' : List Addr} {H H' : Hp} {g g' : G} {s : Sl} {σ : L2.St}
theorem Sim.afterF (S : Sim K ρ B H g s σ) {a : Addr} (e : Ext ρ H ρ' H') (ha : H a = none) (h : HeapOk K ρ' (a :: B) H' g') : Sim K ρ' (a :: B) H' g' s σ := by
  have hB : ∀ b, (∃ o, H b = some o) → b ∉ B → b ∉ a :: B := fun b ⟨u, q⟩ n z => by
    rcases List.mem_cons.mp z with z | z
    · rw [z, ha] at q; cases q
    · exact n z
  refine ⟨h, S.len, fun i d q => ?_, fun i d q => ?_, S.apart⟩
  · obtain ⟨v, h1, h2⟩ := S.val i d q
    exact ⟨v, h1, h2.mono e hB⟩
  · obtain ⟨b, h1, h2, h3, h4⟩ := S.own i d q
    exact ⟨b, h1, List.mem_cons_of_mem _ h2, h3, (h4.mono hB).ext e fun z => S.heap.no b z h2⟩
theorem HeapOk.still (h : HeapOk K ρ B H g) (k : ∀ a o, H a = some o → H' a = some o) : Ext ρ H ρ H' ∧ HeapOk K ρ B H' g := by
  have e : Ext ρ H ρ H' := ⟨⟨[], by simp, by simp⟩, fun a o q _ => k a o q, fun a o q => ⟨o, k a o q⟩, fun a xs q => k a _ q, fun a o u q => k a _ q⟩
  refine ⟨e, h.len, h.nd, h.no, fun l a o q1 q2 => ?_, fun b hb => ?_⟩
  · have q := h.obj l a o q1 q2
    cases o with
    | lst xs => obtain ⟨vs, k1, r⟩ := q; exact ⟨vs, k _ _ k1, r.ext e⟩
    | dic xs => obtain ⟨vs, k1, r⟩ := q; exact ⟨vs, k _ _ k1, r.ext e⟩
    | dead => obtain ⟨vs, k1⟩ := q; exact ⟨vs, k _ _ k1⟩
  · obtain ⟨o, q⟩ := h.tr b hb
    exact ⟨o, k _ _ q⟩
mutual
/-- a value that names no place, where the places are forbidden -/
theorem Rep.lend (hB : ∀ a, a ∉ ρ → a ∉ B → a ∉ B') : ∀ {v : V} {d : D}, Rep K ρ B H v d → PX.below 0 d = true → Rep K [] B' H v d
  | _, _, .non, _ => .non
  | _, _, .bl b, _ => .bl b
  | _, _, .int i, _ => .int i
  | _, _, .str t, _ => .str t
  | _, _, .tup h r, f => .tup h (RepL.lend hB r (by simpa [PX.below] using f))
  | _, _, .lst h r, f => .lst (h.imp (fun q => ⟨q.1, by simp, hB _ q.2.1 q.2.2⟩) id) (RepL.lend hB r (by simpa [PX.below] using f))
  | _, _, .dic h n1 n2 r, f => .dic h (by simp) (hB _ n1 n2) (RepK.lend hB r (by simpa [PX.below] using f))
  | _, _, .ref h, f => by simp [PX.below] at f
theorem RepL.lend (hB : ∀ a, a ∉ ρ → a ∉ B → a ∉ B') : ∀ {vs : List V} {ds : List D}, RepL K ρ B H vs ds → PX.belows 0 ds = true → RepL K [] B' H vs ds
  | _, _, .nil, _ => .nil
  | _, _, .cons h r, f => by
    have f' := f
    simp only [PX.belows, Bool.and_eq_true] at f'
    exact .cons (Rep.lend hB h f'.1) (RepL.lend hB r f'.2)
theorem RepK.lend (hB : ∀ a, a ∉ ρ → a ∉ B → a ∉ B') : ∀ {vs : List (Key × V)} {ds : List (D × D)}, RepK K ρ B H vs ds → PX.belowk 0 ds = true → RepK K [] B' H vs ds
  | _, _, .nil, _ => .nil
  | _, _, .cons h r, f => by
    have f' := f
    simp only [PX.belowk, Bool.and_eq_true] at f'
    exact .cons (Rep.lend hB h f'.1.2) (RepK.lend hB r f'.2)
end
/-- arguments, some of them lent containers -/
inductive RawL (K : Fg) (ρ B : List Addr) (H : Hp) : List V → List D → Prop
  | nil : RawL K ρ B H [] []
  | cons {v : V} {vs : List V} {d : D} {ds : List D} : Raw K ρ B H v d → RawL K ρ B H vs ds → RawL K ρ B H (v :: vs) (d :: ds)
theorem RawL.length : ∀ {vs : List V} {ds : List D}, RawL K ρ B H vs ds → vs.length = ds.length
  | _, _, .nil => rfl
  | _, _, .cons _ r => by simp [RawL.length r]
theorem RawL.ext (hh : HeapOk K ρ B H g) (e : Ext ρ H ρ' H') : ∀ {vs : List V} {ds : List D}, RawL K ρ B H vs ds → RawL K ρ' B H' vs ds
  | _, _, .nil => .nil
  | _, _, .cons h r => .cons (h.ext hh e) (RawL.ext hh e r)
theorem Raw.lend {v : V} {d : D} (hB : ∀ a, a ∉ ρ → a ∉ B → a ∉ B') (ho : ∀ a, v = .ref a → a ∈ B → a ∉ B') (h : Raw K ρ B H v d) (f : PX.below 0 d = true) : Rep K [] B' H v d := by
  cases h with
  | rep r => exact r.lend hB f
  | own h1 h2 h3 =>
    cases d with
    | lst xs =>
      obtain ⟨vs, k, r⟩ := h3
      exact .lst (.inl ⟨.inl k, by simp, ho _ rfl h1⟩) (r.lend hB (by simpa [PX.below] using f))
    | dic xs =>
      obtain ⟨vs, k, r⟩ := h3
      exact .dic (.inl k) (by simp) (ho _ rfl h1) (r.lend hB (by simpa [PX.below] using f))
    | _ => simp [isCont] at h2
theorem RawL.lend (hB : ∀ a, a ∉ ρ → a ∉ B → a ∉ B') : ∀ {vs : List V} {ds : List D}, (∀ a, V.ref a ∈ vs → a ∈ B → a ∉ B') → RawL K ρ B H vs ds → PX.belows 0 ds = true → RepL K [] B' H vs ds
  | _, _, _, .nil, _ => .nil
  | _, _, ho, .cons h r, f => by
    have f' := f
    simp only [PX.belows, Bool.and_eq_true] at f'
    exact .cons (h.lend hB (fun a e => ho a (by rw [e]; exact List.mem_cons_self)) f'.1) (RawL.lend hB (fun a m => ho a (List.mem_cons_of_mem _ m)) r f'.2)
end
section
variable {X : Cx} {C : Cfg} {ca : Nat → Addr} {W : WX} {k n i : Nat} {f : Addr} {fd : FuncData} {ps : List Str} {sp : Sp} {x : Str} {p pos : Pos} {e : Expr} {es : List Expr} {fr : Bool} {fs : Sl → G → R (List D)}
/-- what a call of a def of the program stands on -/
structure CallOk (X : Cx) (C : Cfg) (ca : Nat → Addr) (W : WX) (fr : Bool) (n i : Nat) (x : Str) : Prop where
  ex : ∃ (k : Nat) (f : Addr) (fd : FuncData) (ps : List Str) (fn : Fn), FnG X.prog X.w X.K X.mg X.base k f fd ps (spI C ca X.K fr n i) ∧ Room k X.A ∧ X.mg x = some (.ref f) ∧ PySem.W.keepIn X.K (.ref f) = true ∧ Binds X.K fd ps [] ∧ C.pr.fns[i]? = some fn ∧ ps.length = fn.np
  gd : X.A.guards = some []
  gl : Gl X x
  tk : Takes X W
  nd : (x == ("__debug__" : Str)) = false
theorem e_call (c : CallOk X C ca W false n i x) (ha : PA X (e :: es) (tI (fx C ca X W) (rRepL X.K) fs)) (he : starEach (e :: es) X.env = (false, eval e X.env) :: starEach es X.env) (hpl : (backTo pos (starEach es X.env)).any (·.1) = false) :
    PE X (.Call (.Name x p) (e :: es) [] pos) (tE (fx C ca X W) fun s g => (fs s g).bind fun ds g => call C.pr n i ds g) := by
  obtain ⟨⟨k, f, fd, ps, fn, F, hr, hm, hk, hb, hf, hn⟩, hG, hg, tk, hd⟩ := c
  refine (e_callG F hG hr hg hm hk hb tk ha hd he hpl).impX fun σ H Q ⟨ρ, B, s, g, S, q⟩ => ?_
  refine ⟨ρ, B, s, g, S, Out.seq (R1 := rRepL X.K B) q fun ds g1 vs H1 ρ1 _ e1 S1 r1 h1 => ?_⟩
  have nb : call C.pr n i ds g1 ≠ .bad := fun z => by rw [z] at h1; exact h1
  refine ⟨by rw [r1.length, call_np hf nb, hn], ρ1, B, g1, ds, S1.heap, r1, ?_⟩
  cases z : call C.pr n i ds g1 with
  | ok d g2 => rw [z] at h1; exact fun v H' ρ' e hh r => h1 v H' ρ' e (S1.after e hh) r
  | exc y g2 => rw [z] at h1; exact fun cls dx H' ρ' e hh r => h1 cls dx H' ρ' e (S1.after e hh) r
  | bad => exact (nb z).elim
theorem e_callF (c : CallOk X C ca W true n i x) (ha : PA X (e :: es) (tI (fx C ca X W) (rRepL X.K) fs)) (he : starEach (e :: es) X.env = (false, eval e X.env) :: starEach es X.env) (hpl : (backTo pos (starEach es X.env)).any (·.1) = false) :
    PE X (.Call (.Name x p) (e :: es) [] pos) (tF (fx C ca X W) fun s g => (fs s g).bind fun ds g => call C.pr n i ds g) := by
  obtain ⟨⟨k, f, fd, ps, fn, F, hr, hm, hk, hb, hf, hn⟩, hG, hg, tk, hd⟩ := c
  refine (e_callG F hG hr hg hm hk hb tk ha hd he hpl).impX fun σ H Q ⟨ρ, B, s, g, S, q⟩ => ?_
  refine ⟨ρ, B, s, g, S, OutF.seq (R1 := rRepL X.K B) q fun ds g1 vs H1 ρ1 _ e1 S1 r1 h1 => ?_⟩
  have nb : call C.pr n i ds g1 ≠ .bad := fun z => by rw [z] at h1; exact h1
  refine ⟨by rw [r1.length, call_np hf nb, hn], ρ1, B, g1, ds, S1.heap, r1, ?_⟩
  cases z : call C.pr n i ds g1 with
  | ok d g2 => rw [z] at h1; exact fun hc a H' ρ' e hn hf hh o => h1 hc a H' ρ' e hn hf (S1.afterF e hf hh) o
  | exc y g2 => rw [z] at h1; exact fun cls dx H' ρ' e hh r => h1 cls dx H' ρ' e (S1.after e hh) r
  | bad => exact (nb z).elim
/-- with lent containers -/
theorem e_callB (c : CallOk X C ca W false n i x) (ha : PA X (e :: es) (tI (fx C ca X W) (fun B ρ H => RawL X.K ρ B H) fs)) (he : starEach (e :: es) X.env = (false, eval e X.env) :: starEach es X.env) (hpl : (backTo pos (starEach es X.env)).any (·.1) = false) :
    PE X (.Call (.Name x p) (e :: es) [] pos) (tE (fx C ca X W) fun s g => (fs s g).bind fun ds g => if belows 0 ds = true then lent g (call C.pr n i ds []) else .bad) := by
  classical
  obtain ⟨⟨k, f, fd, ps, fn, F, hr, hm, hk, hb, hf, hn⟩, hG, hg, tk, hd⟩ := c
  refine (e_callG F hG hr hg hm hk hb tk ha hd he hpl).impX fun σ H Q ⟨ρ, B, s, g, S, q⟩ => ?_
  refine ⟨ρ, B, s, g, S, Out.seq (R1 := fun ρ H => RawL X.K ρ B H) q fun ds g1 vs H1 ρ1 _ e1 S1 r1 h1 => ?_⟩
  by_cases hl : belows 0 ds = true
  · rw [if_pos hl] at h1
    have nb : call C.pr n i ds [] ≠ .bad := fun z => by rw [z] at h1; exact h1
    have fB : ∀ a, a ∈ B.filter (fun b => decide (V.ref b ∉ vs)) → a ∈ B ∧ V.ref a ∉ vs := fun a m => by
      have := List.mem_filter.mp m
      exact ⟨this.1, of_decide_eq_true this.2⟩
    have hh : HeapOk X.K [] (ρ1 ++ B.filter fun b => decide (V.ref b ∉ vs)) H1 [] := by
      refine ⟨rfl, List.nodup_nil, by simp, fun l a o z => by simp at z, fun b hb => ?_⟩
      rcases List.mem_append.mp hb with z | z
      · exact S1.heap.there z
      · exact S1.heap.tr b (fB b z).1
    refine ⟨by rw [r1.length, call_np hf nb, hn], [], ρ1 ++ B.filter (fun b => decide (V.ref b ∉ vs)), [], ds, hh, ?_, ?_⟩
    · refine r1.lend (fun a n1 n2 z => ?_) (fun a m hB z => ?_) hl
      · rcases List.mem_append.mp z with z | z
        · exact n1 z
        · exact n2 (fB a z).1
      · rcases List.mem_append.mp z with z | z
        · exact S1.heap.no a z hB
        · exact (fB a z).2 m
    · cases z : call C.pr n i ds [] with
      | ok d g2 =>
        rw [z] at h1
        have h1 : Out (fx C ca X W) (rRep X.K B) σ s B ρ1 H1 (if flat d = true then .ok d g1 else .bad) Q := h1
        by_cases hfl : flat d = true
        · rw [if_pos hfl] at h1
          intro v H' ρ' e h2 r
          obtain ⟨k1, k2⟩ := S1.heap.still (H' := H') fun a o q => e.keep a o q (by simp)
          exact h1 v H' ρ1 k1 (S1.after k1 k2) (r.flat hfl)
        · rw [if_neg hfl] at h1; exact h1.elim
      | exc y g2 =>
        rw [z] at h1
        have h1 : Out (fx C ca X W) (rRep X.K B) σ s B ρ1 H1 (if flats y.args = true then .exc y g1 else .bad) Q := h1
        by_cases hfl : flats y.args = true
        · rw [if_pos hfl] at h1
          intro cls dx H' ρ' e h2 r
          obtain ⟨k1, k2⟩ := S1.heap.still (H' := H') fun a o q => e.keep a o q (by simp)
          exact h1 cls dx H' ρ1 k1 (S1.after k1 k2) r
        · rw [if_neg hfl] at h1; exact h1.elim
      | bad => exact (nb z).elim
  · rw [if_neg hl] at h1; exact h1.elim
/-- argument lists with lent containers -/
theorem ar_nil : PA X [] (tI (fx C ca X W) (fun B ρ H => RawL X.K ρ B H) fun _ g => .ok [] g) := pa_nil.impX fun σ H Q ⟨ρ, B, s, g, S, h⟩ => Out.done (F := fx C ca X W) S .nil h
theorem ar_cons {f : Sl → G → R D} (he : PE X e (tR (fx C ca X W) f)) (hr : PA X es (tI (fx C ca X W) (fun B ρ H => RawL X.K ρ B H) fs)) (hs : starEach (e :: es) X.env = (false, eval e X.env) :: starEach es X.env) :
    PA X (e :: es) (tI (fx C ca X W) (fun B ρ H => RawL X.K ρ B H) fun s g => (f s g).bind fun d g => (fs s g).bind fun ds g => .ok (d :: ds) g) := by
  refine (pa_cons he hr hs).impX fun σ H Q ⟨ρ, B, s, g, S, h⟩ => ?_
  refine ⟨ρ, B, s, g, S, Out.seq (R1 := rRaw X.K B) h fun d g1 v H1 ρ1 _ e1 S1 r1 h1 => ?_⟩
  refine ⟨ρ1, B, s, g1, S1, Out.seq (R1 := fun ρ H => RawL X.K ρ B H) h1 fun ds g2 vs H2 ρ2 _ e2 S2 r2 h2 => ?_⟩
  exact Out.done (F := fx C ca X W) S2 (.cons (r1.ext S1.heap e2) r2) h2
end
end PX
end
section
set_option Elab.async false
set_option linter.all false
set_option maxRecDepth 100000
set_option autoImplicit false
set_option maxHeartbeats 1000000
/-! PXl: repr of tuples and lists. -/
namespace PX
open PySem L2 PySem.Spec PyProof.Rows
theorem join_le : ∀ ts : List Str, (Str.join ", " ts).length ≤ (ts.map fun t => t.length + 2).sum
  | [] => by simp only [List.map_nil, List.sum_nil]; exact Nat.le_of_eq rfl
  | [t] => by simp [Str.join]
  | t :: u :: ts => by
    have e : Str.join ", " (t :: u :: ts) = t ++ ", " ++ Str.join ", " (u :: ts) := rfl
    have h := join_le (u :: ts)
    have e2 : ((", " : String) : Str).length = 2 := by decide +kernel
    rw [e, PySem.Str.length_append, PySem.Str.length_append, e2, List.map_cons, List.sum_cons]
    omega
theorem str_len (s : String) : (Str.ofString s).length = s.length := PySem.ofString_length s
mutual
theorem shown_le : ∀ d : D, plain d = true → small d = true → (PyData.shown (toPy d)).length ≤ sz d
  | .non, _, _ => by rw [toPy, PyData.shown_none, str_len]; decide +kernel
  | .bl b, _, _ => by cases b <;> (rw [toPy, PyData.shown_bool]; decide +kernel)
  | .int i, _, h => by
    have h : i.natAbs < 2 ^ 64 := by simpa [small] using h
    have e := int_text_length_le10 (a := i) (k := 20) (by decide) (by omega)
    rw [toPy, PyData.shown_int, str_len]
    exact e
  | .str t, p, _ => by
    have p : ∀ c ∈ t, c < 1114112 := by simpa [plain] using p
    rw [toPy, PyData.shown_str]
    have e := StrLaws.reprText_len ⟨t.toArray⟩ fun c hc => by
      have := p c (by simpa using hc)
      omega
    refine Nat.le_trans e (Nat.le_of_eq ?_)
    show 10 * (mkS t).length + 2 = 10 * t.length + 2
    rw [mkS_length]
  | .tup xs, p, h => by
    have q := shownAll_le xs (by simpa [plain] using p) (by simpa [small] using h)
    have e := join_le (PyData.shownAll (toPys xs))
    rw [toPy, PyData.shown_tuple, PySem.Str.length_append, PySem.Str.length_append]
    have e1 : (("(" : String) : Str).length = 1 := by decide +kernel
    have e2 : ∀ c : Bool, ((if c = true then ",)" else ")" : String) : Str).length ≤ 2 := by intro c; cases c <;> decide +kernel
    have e3 := e2 ((toPys xs).length == 1)
    have e4 : sz (.tup xs) = szs xs + 3 := by rw [sz]
    rw [e1, e4]
    omega
  | .lst xs, p, h => by
    have q := shownAll_le xs (by simpa [plain] using p) (by simpa [small] using h)
    have e := join_le (PyData.shownAll (toPys xs))
    rw [toPy, PyData.shown_list, PySem.Str.length_append, PySem.Str.length_append]
    have e1 : (("[" : String) : Str).length = 1 := by decide +kernel
    have e2 : (("]" : String) : Str).length = 1 := by decide +kernel
    have e4 : sz (.lst xs) = szs xs + 3 := by rw [sz]
    rw [e1, e2, e4]
    omega
  | .dic _, p, _ => by simp [plain] at p
  | .ref _, p, _ => by simp [plain] at p
theorem shownAll_le : ∀ ds : List D, plains ds = true → smalls ds = true → ((PyData.shownAll (toPys ds)).map fun t => t.length + 2).sum ≤ szs ds
  | [], _, _ => by simp [toPys, PyData.shownAll_nil, szs]
  | d :: ds, p, h => by
    simp only [plains, smalls, Bool.and_eq_true] at p h
    have e1 := shown_le d p.1 h.1
    have e2 := shownAll_le ds p.2 h.2
    rw [toPys, PyData.shownAll_cons, List.map_cons, List.sum_cons, szs]
    omega
end
mutual
theorem showable_of : ∀ d : D, plain d = true → small d = true → PyData.showable (toPy d) = true
  | .non, _, _ => by simp [toPy, PyData.showable]
  | .bl _, _, _ => by simp [toPy, PyData.showable]
  | .int i, _, h => by
    have h : i.natAbs < 2 ^ 64 := by simpa [small] using h
    simp only [toPy, PyData.showable, decide_eq_true_eq]
    by_cases z : i.natAbs = 0
    · rw [z]; decide
    · exact (Nat.log2_lt z).mpr (Nat.lt_trans h (Nat.pow_lt_pow_right (by decide) (by decide)))
  | .str _, _, _ => by simp [toPy, PyData.showable]
  | .tup xs, p, h => by
    simp only [toPy, PyData.showable]
    exact showables_of xs (by simpa [plain] using p) (by simpa [small] using h)
  | .lst xs, p, h => by
    simp only [toPy, PyData.showable]
    exact showables_of xs (by simpa [plain] using p) (by simpa [small] using h)
  | .dic _, p, _ => by simp [plain] at p
  | .ref _, p, _ => by simp [plain] at p
theorem showables_of : ∀ ds : List D, plains ds = true → smalls ds = true → PyData.showableAll (toPys ds) = true
  | [], _, _ => by simp [toPys, PyData.showableAll]
  | d :: ds, p, h => by
    simp only [plains, smalls, Bool.and_eq_true] at p h
    simp only [toPys, PyData.showableAll, showable_of d p.1 h.1, showables_of ds p.2 h.2, Bool.and_self]
end
def rRepr (K : Fg) : List V → Hp → VK → Prop := fun xs H Q => ∃ (a : Addr) (d : D), xs = [.ref a] ∧ Dp K H (.ref a) (toPy d) ∧ reprOk d = true ∧ Q (.str (mkS (reprT d))) H
theorem cr_repr {X : Cx} (hg : X.A.guards = some []) (hu : X.A.units + 65 < cLine) : CallR X (.builtin "repr") (rRepr X.K) := by
  intro pins s σ H xs us Q I r h
  obtain ⟨a, d, rfl, hd, ok, q⟩ := h
  unfold reprOk at ok
  simp only [Bool.and_eq_true, decide_eq_true_eq] at ok
  obtain ⟨⟨⟨p, sm⟩, dp⟩, sl⟩ := ok
  obtain ⟨u, rfl, ru⟩ := vals1 r
  obtain rfl : u = Value.ref a := ru
  obtain ⟨as, rd⟩ := Dp.reads I _ _ _ hd rfl
  have e : (mkS (reprT d)) = PyData.shown (toPy d) := mkS_of _
  rw [e] at q
  refine repr_of_reads' rd (showable_of d p sm) (PyData.noDict_hsm (PyData.hasDict_of_canLay _ (lay_of d p))) hg ?_ (fun b o k => k) (fun h' u tk hk => ⟨.str _, H, I.kept hk, ⟨_, rfl⟩, q⟩) (Nat.le_trans (shown_le d p sm) (lim_line sl))
  rw [depth_of]
  omega
section
variable {X : Cx} {C : Cfg} {ca : Nat → Addr} {W : WX} {a : Expr} {pos p : Pos} {fa : Sl → G → R D} {x : Str}
theorem e_repr (hg : X.A.guards = some []) (hu : X.A.units + 65 < cLine) (na : starEach [a] X.env = (false, eval a X.env) :: starEach [] X.env) (n : BN X x (.builtin "repr")) (ha : PE X a (tR (fx C ca X W) fa)) :
    PE X (.Call (.Name x p) [a] [] pos) (tE (fx C ca X W) fun s g => (fa s g).bind fun x g => R.ofO g (at1 g x (prim1 .repr))) := by
  refine op_one (p_fun (cr_repr hg hu) n.gl n.mg n.bt ha n.nn n.nd na) fun σ s B ρ H g v x z Q S vx ez h => ?_
  have ez : (if isSeq x && reprOk x then some (D.str (reprT x)) else none) = some z := ez
  by_cases k : (isSeq x && reprOk x) = true
  · rw [if_pos k] at ez
    cases ez
    rw [Bool.and_eq_true] at k
    have pl : plain x = true := by
      have := k.2
      unfold reprOk at this
      simp only [Bool.and_eq_true] at this
      exact this.1.1.1
    cases x with
    | lst ds =>
      have hd := vx.dp pl
      obtain ⟨a, vs, rfl, h1, r⟩ := vx.list
      exact ⟨a, _, rfl, hd, k.2, h.done S (.str _)⟩
    | tup ds =>
      have hd := vx.dp pl
      obtain ⟨a, vs, rfl, h1, r⟩ := vx.tup
      exact ⟨a, _, rfl, hd, k.2, h.done S (.str _)⟩
    | _ => cases k.1
  · rw [if_neg k] at ez; cases ez
end
end PX
end
section
set_option Elab.async false
set_option linter.all false
set_option maxRecDepth 100000
set_option autoImplicit false
set_option maxHeartbeats 1000000
/-! PXm: containers changed in place; targets; what is walked. -/
namespace PX
open PySem L2 PySem.Spec PyProof.Rows
/-- a change of the heap at places and at forbidden addresses alone -/
structure Chg (ρ B : List Addr) (H H' : Hp) : Prop where
  keep : ∀ a o, H a = some o → a ∉ ρ → a ∉ B → H' a = some o
  there : ∀ a o, H a = some o → ∃ o', H' a = some o'
  tup : ∀ a xs, H a = some (.tup xs) → H' a = some (.tup xs)
  frz : ∀ a o u, H a = some (.frz o u) → H' a = some (.frz o u)
section
variable {K : Fg} {ρ ρ' B B' : List Addr} {H H' : Hp} {g g' : G} {s : Sl} {σ : L2.St}
theorem Chg.sqt (e : Chg ρ B H H') {a : Addr} {xs : List V} (h : SqT K H a xs) : SqT K H' a xs := by
  rcases h with (h | ⟨o, h⟩) | h
  · exact .inl (.inl (e.tup a xs h))
  · exact .inl (.inr ⟨o, e.frz a o _ h⟩)
  · exact .inr h
theorem Chg.rd (e : Chg ρ B H H') {a : Addr} {u : HO} (h : Rd H a u) (n1 : a ∉ ρ) (n2 : a ∉ B) : Rd H' a u := by
  rcases h with h | ⟨o, h⟩
  · exact .inl (e.keep a u h n1 n2)
  · exact .inr ⟨o, e.frz a o u h⟩
theorem Frozen.chg (e : Chg ρ B H H') {a : Addr} {xs : List V} (h : Frozen K ρ B H a xs) : Frozen K ρ B H' a xs := by
  rcases h with ⟨h, n1, n2⟩ | h
  · exact .inl ⟨e.rd h n1 n2, n1, n2⟩
  · exact .inr h
mutual
theorem Rep.chg (e : Chg ρ B H H') : ∀ {v : V} {d : D}, Rep K ρ B H v d → Rep K ρ B H' v d
  | _, _, .non => .non
  | _, _, .bl b => .bl b
  | _, _, .int i => .int i
  | _, _, .str t => .str t
  | _, _, .tup h r => .tup (e.sqt h) (RepL.chg e r)
  | _, _, .lst h r => .lst (h.chg e) (RepL.chg e r)
  | _, _, .dic h n1 n2 r => .dic (e.rd h n1 n2) n1 n2 (RepK.chg e r)
  | _, _, .ref h => .ref h
theorem RepL.chg (e : Chg ρ B H H') : ∀ {vs : List V} {ds : List D}, RepL K ρ B H vs ds → RepL K ρ B H' vs ds
  | _, _, .nil => .nil
  | _, _, .cons h r => .cons (Rep.chg e h) (RepL.chg e r)
theorem RepK.chg (e : Chg ρ B H H') : ∀ {vs : List (Key × V)} {ds : List (D × D)}, RepK K ρ B H vs ds → RepK K ρ B H' vs ds
  | _, _, .nil => .nil
  | _, _, .cons h r => .cons (Rep.chg e h) (RepK.chg e r)
end
/-- a container is written anew -/
theorem Chg.write {a : Addr} {o o' : HO} (ha : a ∈ ρ ∨ a ∈ B) (h : H a = some o) (hm : (∃ vs, o = .lst vs) ∨ ∃ kvs, o = .dK kvs) : Chg ρ B H (upd H a o') := by
  refine ⟨fun b u q n1 n2 => ?_, fun b u q => ?_, fun b xs q => ?_, fun b u w q => ?_⟩
  · have : b ≠ a := fun e => by
      subst e
      rcases ha with z | z
      · exact n1 z
      · exact n2 z
    rw [upd_ne this]; exact q
  · by_cases e : b = a
    · exact ⟨o', by rw [e, upd_same]⟩
    · exact ⟨u, by rw [upd_ne e]; exact q⟩
  · have : b ≠ a := fun e => by
      subst e
      rw [h] at q
      rcases hm with ⟨vs, rfl⟩ | ⟨vs, rfl⟩ <;> cases q
    rw [upd_ne this]; exact q
  · have : b ≠ a := fun e => by
      subst e
      rw [h] at q
      rcases hm with ⟨vs, rfl⟩ | ⟨vs, rfl⟩ <;> cases q
    rw [upd_ne this]; exact q
theorem ObjR.chg (e : Chg ρ B H H') {a : Addr} {o : PO} (k : ∀ u, H a = some u → H' a = some u) (h : ObjR K ρ B H a o) : ObjR K ρ B H' a o := by
  cases o with
  | lst xs => obtain ⟨vs, k1, r⟩ := h; exact ⟨vs, k _ k1, r.chg e⟩
  | dic xs => obtain ⟨vs, k1, r⟩ := h; exact ⟨vs, k _ k1, r.chg e⟩
  | dead => obtain ⟨vs, k1⟩ := h; exact ⟨vs, k _ k1⟩
/-- a forbidden container that no slot owns is written -/
theorem Sim.writeB (S : Sim K ρ B H g s σ) {a : Addr} {o o' : HO} (ha : a ∈ B) (h : H a = some o) (hm : (∃ vs, o = .lst vs) ∨ ∃ kvs, o = .dK kvs) (no : ∀ (i : Nat) d, s[i]? = some (.own d) → σ[i]? ≠ some (some (.ref a))) : Sim K ρ B (upd H a o') g s σ := by
  have e : Chg ρ B H (upd H a o') := Chg.write (.inr ha) h hm
  have hh : HeapOk K ρ B (upd H a o') g := by
    refine ⟨S.heap.len, S.heap.nd, S.heap.no, fun l b u q1 q2 => ?_, fun b hb => ?_⟩
    · have : b ≠ a := fun z => S.heap.no b (List.mem_of_getElem? q1) (z ▸ ha)
      exact (S.heap.obj l b u q1 q2).chg e fun w q => by rw [upd_ne this]; exact q
    · obtain ⟨u, q⟩ := S.heap.tr b hb
      exact e.there b u q
  refine ⟨hh, S.len, fun i d q => ?_, fun i d q => ?_, S.apart⟩
  · obtain ⟨v, h1, h2⟩ := S.val i d q
    exact ⟨v, h1, h2.chg e⟩
  · obtain ⟨b, h1, h2, h3, h4⟩ := S.own i d q
    have : b ≠ a := fun z => no i d q (z ▸ h1)
    exact ⟨b, h1, h2, h3, h4.chg e fun w q => by rw [upd_ne this]; exact q⟩
/-- a slot takes a value -/
theorem Sim.set (S : Sim K ρ B H g s σ) {i : Nat} {d : D} {v : V} (r : Rep K ρ B H v d) : Sim K ρ B H g (s.set i (.val d)) (σ.set i (some v)) := by
  refine ⟨S.heap, by rw [List.length_set, List.length_set]; exact S.len, fun j e q => ?_, fun j e q => ?_, fun j k e f a q1 q2 q3 q4 => ?_⟩
  · rw [List.getElem?_set] at q ⊢
    by_cases h : i = j
    · rw [if_pos h] at q ⊢
      by_cases hl : i < s.length
      · rw [if_pos hl] at q
        rw [if_pos (by rw [← S.len]; exact hl)]
        cases q
        exact ⟨v, rfl, r⟩
      · rw [if_neg hl] at q; cases q
    · rw [if_neg h] at q ⊢
      exact S.val j e q
  · rw [List.getElem?_set] at q ⊢
    by_cases h : i = j
    · rw [if_pos h] at q
      split at q <;> cases q
    · rw [if_neg h] at q ⊢
      exact S.own j e q
  · rw [List.getElem?_set] at q1 q2 q3 q4
    have hj : ¬ i = j := fun h => by rw [if_pos h] at q1; split at q1 <;> cases q1
    have hk : ¬ i = k := fun h => by rw [if_pos h] at q2; split at q2 <;> cases q2
    rw [if_neg hj] at q1 q3
    rw [if_neg hk] at q2 q4
    exact S.apart j k e f a q1 q2 q3 q4
/-- a slot forgets -/
theorem Sim.wipe1 (S : Sim K ρ B H g s σ) (i : Nat) : Sim K ρ B H g (s.set i .un) (σ.set i none) := by
  refine ⟨S.heap, by rw [List.length_set, List.length_set]; exact S.len, fun j e q => ?_, fun j e q => ?_, fun j k e f a q1 q2 q3 q4 => ?_⟩
  · rw [List.getElem?_set] at q ⊢
    by_cases h : i = j
    · rw [if_pos h] at q
      split at q <;> cases q
    · rw [if_neg h] at q ⊢
      exact S.val j e q
  · rw [List.getElem?_set] at q ⊢
    by_cases h : i = j
    · rw [if_pos h] at q
      split at q <;> cases q
    · rw [if_neg h] at q ⊢
      exact S.own j e q
  · rw [List.getElem?_set] at q1 q2 q3 q4
    have hj : ¬ i = j := fun h => by rw [if_pos h] at q1; split at q1 <;> cases q1
    have hk : ¬ i = k := fun h => by rw [if_pos h] at q2; split at q2 <;> cases q2
    rw [if_neg hj] at q1 q3
    rw [if_neg hk] at q2 q4
    exact S.apart j k e f a q1 q2 q3 q4
theorem Sim.wipe (S : Sim K ρ B H g s σ) : ∀ is : List Nat, Sim K ρ B H g (wipeS is s) (L2.wipe σ is)
  | [] => S
  | i :: is => (S.wipe is).wipe1 i
end
/-- what a statement may do to the heap -/
structure Stp (ρ B : List Addr) (H : Hp) (ρ' B' : List Addr) (H' : Hp) : Prop where
  pre : ∃ n, ρ' = ρ ++ n ∧ ∀ a ∈ n, H a = none
  keep : ∀ a o, H a = some o → a ∉ ρ → a ∉ B → H' a = some o
  there : ∀ a o, H a = some o → ∃ o', H' a = some o'
  tup : ∀ a xs, H a = some (.tup xs) → H' a = some (.tup xs)
  frz : ∀ a o u, H a = some (.frz o u) → H' a = some (.frz o u)
  bs : ∀ a, (∃ o, H a = some o) → a ∉ B → a ∉ B'
section
variable {K : Fg} {ρ ρ' ρ1 B B' B1 : List Addr} {H H' H1 : Hp}
theorem Stp.refl : Stp ρ B H ρ B H := ⟨⟨[], by simp, by simp⟩, fun _ _ q _ _ => q, fun _ o q => ⟨o, q⟩, fun _ _ q => q, fun _ _ _ q => q, fun _ _ q => q⟩
theorem Stp.ofExt (e : Ext ρ H ρ' H') : Stp ρ B H ρ' B H' := ⟨e.pre, fun a o q n _ => e.keep a o q n, e.there, e.tup, e.frz, fun _ _ q => q⟩
theorem Stp.ofChg (e : Chg ρ B H H') : Stp ρ B H ρ B H' := ⟨⟨[], by simp, by simp⟩, e.keep, e.there, e.tup, e.frz, fun _ _ q => q⟩
theorem Stp.ofB (h : ∀ a, (∃ o, H a = some o) → a ∉ B → a ∉ B') : Stp ρ B H ρ B' H := ⟨⟨[], by simp, by simp⟩, fun _ _ q _ _ => q, fun _ o q => ⟨o, q⟩, fun _ _ q => q, fun _ _ _ q => q, h⟩
theorem Stp.old (e : Stp ρ B H ρ' B' H') {a : Addr} {o : HO} (h : H a = some o) (hn : a ∉ ρ) : a ∉ ρ' := by
  obtain ⟨n, rfl, hf⟩ := e.pre
  intro hm
  rcases List.mem_append.mp hm with z | z
  · exact hn z
  · rw [hf a z] at h; cases h
theorem Stp.trans (a : Stp ρ B H ρ1 B1 H1) (b : Stp ρ1 B1 H1 ρ' B' H') : Stp ρ B H ρ' B' H' := by
  refine ⟨?_, fun c o q n m => b.keep c o (a.keep c o q n m) (a.old q n) (a.bs c ⟨o, q⟩ m), fun c o q => ?_, fun c xs q => b.tup c xs (a.tup c xs q), fun c o u q => b.frz c o u (a.frz c o u q), fun c q m => ?_⟩
  · obtain ⟨n, e1, h1⟩ := a.pre
    obtain ⟨m, e2, h2⟩ := b.pre
    refine ⟨n ++ m, by rw [e2, e1, List.append_assoc], fun c hc => ?_⟩
    rcases List.mem_append.mp hc with z | z
    · exact h1 c z
    · cases q : H c with
      | none => rfl
      | some o =>
        obtain ⟨o', k⟩ := a.there c o q
        rw [h2 c z] at k; cases k
  · obtain ⟨o1, k⟩ := a.there c o q
    exact b.there c o1 k
  · obtain ⟨o, q⟩ := q
    exact b.bs c (a.there c o q) (a.bs c ⟨o, q⟩ m)
theorem Stp.sqt (e : Stp ρ B H ρ' B' H') {a : Addr} {xs : List V} (h : SqT K H a xs) : SqT K H' a xs := by
  rcases h with (h | ⟨o, h⟩) | h
  · exact .inl (.inl (e.tup a xs h))
  · exact .inl (.inr ⟨o, e.frz a o _ h⟩)
  · exact .inr h
theorem Stp.rd (e : Stp ρ B H ρ' B' H') {a : Addr} {u : HO} (h : Rd H a u) (n1 : a ∉ ρ) (n2 : a ∉ B) : Rd H' a u ∧ a ∉ ρ' ∧ a ∉ B' := by
  have t := Rd.tracked h
  refine ⟨?_, e.old t.choose_spec n1, e.bs a t n2⟩
  rcases h with h | ⟨o, h⟩
  · exact .inl (e.keep a u h n1 n2)
  · exact .inr ⟨o, e.frz a o u h⟩
theorem Frozen.stp (e : Stp ρ B H ρ' B' H') {a : Addr} {xs : List V} (h : Frozen K ρ B H a xs) : Frozen K ρ' B' H' a xs := by
  rcases h with ⟨h, n1, n2⟩ | h
  · exact .inl (e.rd h n1 n2)
  · exact .inr h
theorem Stp.at (e : Stp ρ B H ρ' B' H') {l : Nat} {a : Addr} (h : ρ[l]? = some a) : ρ'[l]? = some a := by
  obtain ⟨n, rfl, _⟩ := e.pre
  have hl : l < ρ.length := (List.getElem?_eq_some_iff.mp h).1
  rw [List.getElem?_append_left hl]
  exact h
mutual
theorem Rep.stp (e : Stp ρ B H ρ' B' H') : ∀ {v : V} {d : D}, Rep K ρ B H v d → Rep K ρ' B' H' v d
  | _, _, .non => .non
  | _, _, .bl b => .bl b
  | _, _, .int i => .int i
  | _, _, .str t => .str t
  | _, _, .tup h r => .tup (e.sqt h) (RepL.stp e r)
  | _, _, .lst h r => .lst (h.stp e) (RepL.stp e r)
  | _, _, .dic h n1 n2 r => .dic (e.rd h n1 n2).1 (e.rd h n1 n2).2.1 (e.rd h n1 n2).2.2 (RepK.stp e r)
  | _, _, .ref h => .ref (e.at h)
theorem RepL.stp (e : Stp ρ B H ρ' B' H') : ∀ {vs : List V} {ds : List D}, RepL K ρ B H vs ds → RepL K ρ' B' H' vs ds
  | _, _, .nil => .nil
  | _, _, .cons h r => .cons (Rep.stp e h) (RepL.stp e r)
theorem RepK.stp (e : Stp ρ B H ρ' B' H') : ∀ {vs : List (Key × V)} {ds : List (D × D)}, RepK K ρ B H vs ds → RepK K ρ' B' H' vs ds
  | _, _, .nil => .nil
  | _, _, .cons h r => .cons (Rep.stp e h) (RepK.stp e r)
end
end
/-! ### targets -/
/-- storing at a target, told by the interpreter -/
def gT (K : Fg) (tg : Tg) : TG := fun x σ H Q => ∃ ρ B g s d s', Sim K ρ B H g s σ ∧ Rep K ρ B H x d ∧ bindT tg d s = some s' ∧
  ∀ σ', Sim K ρ B H g s' σ' → (∀ j, j ∉ tg.slots → σ'[j]? = σ[j]?) → σ'.length = σ.length → Q σ' H
theorem _root_.L2.PG.impX {X : Cx} {e : Expr} {t t' : TG} (h : PG X e t) (i : ∀ x σ H Q, t' x σ H Q → t x σ H Q) : PG X e t' :=
  ⟨fun pins s σ H v u Q I r q => h.run pins s σ H v u Q I r (i v σ H Q q)⟩
section
variable {X : Cx} {x : Str} {i : Nat} {pos : Pos}
theorem g_one (hN : X.N.Nodup) (hi : X.N[i]? = some x) (hx : Loc X.env.scope x) (hf : X.fn x = true ∨ X.env.scope.names.lookup x = some .local) : PG X (.Name x pos) (gT X.K (.one i)) := by
  refine (pg_name hN hi hx hf).impX fun v σ H Q ⟨ρ, B, g, s, d, s', S, r, e, q⟩ => ?_
  cases e
  refine q _ (S.set r) (fun j hj => ?_) (List.length_set ..)
  have : ¬ i = j := fun z => hj (by rw [z]; exact List.mem_singleton.mpr rfl)
  rw [List.getElem?_set, if_neg this]
/-- names as targets, one after another -/
def gsT (K : Fg) (is : List Nat) : TGs := fun xs σ H Q => ∃ ρ B g s ds, Sim K ρ B H g s σ ∧ RepL K ρ B H xs ds ∧ ds.length = is.length ∧
  ∀ σ', Sim K ρ B H g (setAll is ds s) σ' → (∀ j, j ∉ is → σ'[j]? = σ[j]?) → σ'.length = σ.length → Q σ' H
inductive NamesAt (X : Cx) : List Expr → List Nat → Prop
  | nil : NamesAt X [] []
  | cons {x : Str} {i : Nat} {p : Pos} {es : List Expr} {is : List Nat} : X.N[i]? = some x → Loc X.env.scope x → (X.fn x = true ∨ X.env.scope.names.lookup x = some .local) → NamesAt X es is → NamesAt X (.Name x p :: es) (i :: is)
theorem gs_names (hN : X.N.Nodup) : ∀ {es : List Expr} {is : List Nat}, NamesAt X es is → PGs X es (gsT X.K is)
  | _, _, .nil => ⟨fun pins s σ H vs us Q I r h => pgs_nil.run pins s σ H vs us Q I r (by
      obtain ⟨ρ, B, g, sl, ds, S, rl, hl, q⟩ := h
      cases ds with
      | nil => cases rl; exact ⟨rfl, q σ S (fun _ _ => rfl) rfl⟩
      | cons _ _ => simp at hl)⟩
  | _, _, .cons (x := x) (i := i) (p := p) (is := is) hi hx hf r => ⟨fun pins s σ H vs us Q I rv h => (pgs_cons (g_one hN hi hx hf) (gs_names hN r)).run pins s σ H vs us Q I rv (by
      obtain ⟨ρ, B, g, sl, ds, S, rl, hl, q⟩ := h
      cases rl with
      | nil => simp at hl
      | cons h1 h2 =>
        refine ⟨_, _, rfl, ρ, B, g, sl, _, _, S, h1, rfl, fun σ1 S1 o1 l1 => ⟨ρ, B, g, _, _, S1, h2, by simpa using hl, fun σ2 S2 o2 l2 => q σ2 S2 (fun j hj => ?_) (l2.trans l1)⟩⟩
        have n1 : j ∉ is := fun z => hj (List.mem_cons_of_mem _ z)
        have n2 : j ∉ (Tg.one i).slots := fun z => hj (by rw [List.mem_singleton.mp z]; exact List.mem_cons_self)
        rw [o2 j n1, o1 j n2])⟩
theorem assignEach_names {env : Env} : ∀ {es : List Expr} {is : List Nat}, NamesAt X es is → (assignEach es env).length = is.length ∧ (assignEach es env).findIdx? (·.1) = none
  | _, _, .nil => ⟨rfl, rfl⟩
  | _, _, .cons (p := p) (es := es) _ _ _ r => by
    obtain ⟨h1, h2⟩ := assignEach_names (env := env) r
    refine ⟨by show (assignEach es env).length + 1 = _; rw [h1]; rfl, ?_⟩
    show List.findIdx? (·.1) ((false, _) :: assignEach es env) = none
    rw [List.findIdx?_cons]
    simp [h2]
theorem g_tup {es : List Expr} {is : List Nat} {k : Nat} (hc : X.calm = true) (hN : X.N.Nodup) (na : NamesAt X es is) : PG X (.Tuple es k pos) (gT X.K (.tup is)) := by
  obtain ⟨h1, h2⟩ := assignEach_names (env := X.env) na
  refine (pg_tup hc (gs_names hN na) h1 h2).impX fun v σ H Q ⟨ρ, B, g, s, d, s', S, r, e, q⟩ => ?_
  cases d with
  | tup ds =>
    have e : (if ds.length = is.length then some (setAll is ds s) else none) = some s' := e
    by_cases hl : ds.length = is.length
    · rw [if_pos hl] at e
      cases e
      cases r with
      | tup ha rl => exact ⟨_, _, rfl, ha, by rw [rl.length, hl], ρ, B, g, s, ds, S, rl, hl, q⟩
    · rw [if_neg hl] at e; cases e
  | _ => cases e
end
/-! ### what is walked -/
/-- an iterator that gives ds, while P stands -/
structure SrcAt (K : Fg) (J : It) (ds : List D) (P : List Addr → List Addr → Hp → Prop) : Prop where
  len : ds.length ≤ sizeLine
  stp : ∀ {ρ B H ρ' B' H'}, P ρ B H → Stp ρ B H ρ' B' H' → P ρ' B' H'
  goes : ∀ {ρ B H} i, i < ds.length → P ρ B H → J.go i H
  stops : ∀ {ρ B H}, P ρ B H → J.stop ds.length H
  yields : ∀ {ρ B H} i x H', i < ds.length → P ρ B H → J.yld i H x H' → (H' = H ∨ ∃ T o, H T = none ∧ H' = upd H T o) ∧ ∃ d, ds[i]? = some d ∧ Rep K ρ B H' x d
theorem SrcAt.ext {K : Fg} {J : It} {ds : List D} {P : List Addr → List Addr → Hp → Prop} (sa : SrcAt K J ds P) {ρ B ρ' : List Addr} {H H' : Hp} (h : P ρ B H) (e : Ext ρ H ρ' H') : P ρ' B H' := sa.stp h (Stp.ofExt e)
theorem SrcAt.chg {K : Fg} {J : It} {ds : List D} {P : List Addr → List Addr → Hp → Prop} (sa : SrcAt K J ds P) {ρ B : List Addr} {H H' : Hp} (h : P ρ B H) (e : Chg ρ B H H') : P ρ B H' := sa.stp h (Stp.ofChg e)
theorem SrcAt.forbid {K : Fg} {J : It} {ds : List D} {P : List Addr → List Addr → Hp → Prop} (sa : SrcAt K J ds P) {ρ B B' : List Addr} {H : Hp} (h : P ρ B H) (e : ∀ a, (∃ o, H a = some o) → a ∉ B → a ∉ B') : P ρ B' H := sa.stp h (Stp.ofB e)
def OutS (F : Fix) (σ : L2.St) (s : Sl) (B ρ : List Addr) (H : Hp) (r : R D) (Q : It → Hp → Prop) : Prop :=
  match r with
  | .ok d g => ∃ ds, itemsOf d = some ds ∧ ∀ J P H' ρ', Ext ρ H ρ' H' → Sim F.K ρ' B H' g s σ → SrcAt F.K J ds P → P ρ' B H' → Q J H'
  | .exc x g => ∀ cls dx H' ρ', Ext ρ H ρ' H' → Sim F.K ρ' B H' g s σ → XRep F.C F.ca F.K x cls dx H' → F.W cls dx σ H'
  | .bad => False
def tS (F : Fix) (f : Sl → G → R D) : TI := fun σ H Q => ∃ ρ B s g, Sim F.K ρ B H g s σ ∧ OutS F σ s B ρ H (f s g) Q
section
variable {K : Fg} {ρ B : List Addr} {H : Hp}
theorem src_list {a : Addr} {vs : List V} {ds : List D} (hl : ds.length ≤ sizeLine) : SrcAt K (Itl K a) ds (fun ρ B H => Frozen K ρ B H a vs ∧ RepL K ρ B H vs ds) where
  len := hl
  stp := fun h e => ⟨h.1.stp e, h.2.stp e⟩
  goes := fun i hi h => by
    obtain ⟨v, e, _⟩ := h.2.get (List.getElem?_eq_getElem hi)
    exact ⟨vs, v, h.1.sq, e⟩
  stops := fun h => ⟨vs, h.1.sq, by rw [h.2.length]; exact Nat.le_refl _⟩
  yields := fun i x H' hi h y => by
    obtain ⟨rfl, q⟩ := y
    obtain ⟨d, e, r⟩ := h.2.getV (q vs h.1.sq)
    exact ⟨.inl rfl, d, e, r⟩
theorem src_tup {a : Addr} {vs : List V} {ds : List D} (hl : ds.length ≤ sizeLine) : SrcAt K (Itt K a) ds (fun ρ B H => SqT K H a vs ∧ RepL K ρ B H vs ds) where
  len := hl
  stp := fun h e => ⟨e.sqt h.1, h.2.stp e⟩
  goes := fun i hi h => by
    obtain ⟨v, e, _⟩ := h.2.get (List.getElem?_eq_getElem hi)
    exact ⟨vs, v, h.1, e⟩
  stops := fun h => ⟨vs, h.1, by rw [h.2.length]; exact Nat.le_refl _⟩
  yields := fun i x H' hi h y => by
    obtain ⟨rfl, q⟩ := y
    obtain ⟨d, e, r⟩ := h.2.getV (q vs h.1)
    exact ⟨.inl rfl, d, e, r⟩
theorem src_str {t : Txt} (hl : t.length ≤ sizeLine) : SrcAt K (Its (mkS t)) (t.map fun c => D.str [c]) (fun _ _ _ => True) where
  len := by rw [List.length_map]; exact hl
  stp := fun _ _ => trivial
  goes := fun i hi _ => by
    rw [List.length_map] at hi
    show i < (mkS t).cps.size
    rw [show (mkS t).cps.size = t.length from mkS_length t]
    exact hi
  stops := fun _ => by
    show (mkS t).cps.size ≤ _
    rw [show (mkS t).cps.size = t.length from mkS_length t, List.length_map]
    exact Nat.le_refl _
  yields := fun i x H' hi h y => by
    obtain ⟨rfl, c, e, rfl⟩ := y
    refine ⟨.inl rfl, .str [c], ?_, .str [c]⟩
    have e : t[i]? = some c := by simpa [mkS] using e
    rw [List.getElem?_map, e]
    rfl
theorem src_range {lo n : Nat} (hl : n ≤ sizeLine) : SrcAt K (Itr (lo : Int) n) (rangeL lo n) (fun _ _ _ => True) where
  len := by simp [rangeL]; exact hl
  stp := fun _ _ => trivial
  goes := fun i hi _ => by
    have : i < n := by simpa [rangeL] using hi
    exact this
  stops := fun _ => by
    show n ≤ _
    simp [rangeL]
  yields := fun i x H' hi h y => by
    obtain ⟨rfl, rfl⟩ := y
    have hi : i < n := by simpa [rangeL] using hi
    refine ⟨.inl rfl, .int ((lo : Int) + i), ?_, .int _⟩
    unfold rangeL
    rw [List.getElem?_map, List.getElem?_range' hi]
    simp
end
section
variable {X : Cx} {C : Cfg} {ca : Nat → Addr} {W : WX} {a tg : Expr} {pos p : Pos} {fa : Sl → G → R D}
theorem i_seq (ha : PE X a (tE (fx C ca X W) fa)) : PI X tg a (tS (fx C ca X W) fa) := by
  refine ⟨fun pins s σ H Q I ⟨ρ, B, sl, g, S, q⟩ => ?_⟩
  have h0 : tE (fx C ca X W) fa σ H fun v H1 => ∃ ρ1 g1 d ds, Sim X.K ρ1 B H1 g1 sl σ ∧ Rep X.K ρ1 B H1 v d ∧ itemsOf d = some ds ∧ ∀ J P, SrcAt X.K J ds P → P ρ1 B H1 → Q J H1 := by
    refine ⟨ρ, B, sl, g, S, ?_⟩
    cases z : fa sl g with
    | ok d g1 =>
      rw [z] at q
      obtain ⟨ds, e, q⟩ := q
      exact fun v H1 ρ1 e1 S1 r1 => ⟨ρ1, g1, d, ds, S1, r1, e, fun J P sa hp => q J P H1 ρ1 e1 S1 sa hp⟩
    | exc x g1 => rw [z] at q; exact q
    | bad => rw [z] at q; exact q.elim
  refine thn (ha.run pins s σ H _ I h0) fun u s1 ⟨v, H1, I1, r1, ρ1, g1, d, ds, S1, rd, e, q1⟩ => ?_
  cases rd with
  | lst hf rl =>
    cases e
    obtain rfl := r1
    obtain ⟨its, rv, pl, hz⟩ := I1.list hf.sq
    refine wpAny_pyIter_list pl.isList (pi_one (tk := s1.toks) I1 _ (turn_list _ _) ⟨_, Heap.get?_push_size _ rfl, rfl, rfl⟩ (q1 _ _ (src_list (by rw [← rl.length]; exact hz)) ⟨hf, rl⟩))
  | tup hf rl =>
    cases e
    obtain rfl := r1
    obtain ⟨its, rv, pl, hz⟩ := I1.tuple hf
    refine wpAny_pyIter_tuple (show s1.heap.IsTuple _ its.toArray from pl) (pi_one (tk := s1.toks) I1 _ (turn_tuple _ _) ⟨_, Heap.get?_push_size _ rfl, rfl, rfl⟩ (q1 _ _ (src_tup (by rw [← rl.length]; exact hz)) ⟨hf, rl⟩))
  | str t =>
    obtain ⟨tk, rfl⟩ := r1
    have e : (if t.length ≤ LIM then some (t.map fun c => D.str [c]) else none) = some ds := e
    have hl : t.length ≤ LIM := by
      by_cases q : t.length ≤ LIM
      · exact q
      · rw [if_neg q] at e; cases e
    rw [if_pos hl] at e
    cases e
    have hl := lim_line hl
    cases ha : (mkS t).cps.all (· < 128)
    · exact wpAny_pyIter_wide ha (pi_one (tk := s1.toks) I1 _ (turn_str _ (mkS t) tk "str_iterator" (.inr rfl)) ⟨_, Heap.get?_push_size _ rfl, rfl, rfl⟩ (q1 _ _ (src_str hl) trivial))
    · exact wpAny_pyIter_ascii ha (pi_one (tk := s1.toks) I1 _ (turn_str _ (mkS t) tk "str_ascii_iterator" (.inl rfl)) ⟨_, Heap.get?_push_size _ rfl, rfl, rfl⟩ (q1 _ _ (src_str hl) trivial))
  | _ => cases e
theorem i_range1 {x : Str} (hg : Gl X "range") (hm : X.mg "range" = none) (ha : PE X a (tE (fx C ca X W) fa)) (na : starEach [a] X.env = (false, eval a X.env) :: starEach [] X.env) :
    PI X tg (.Call (.Name "range" p) [a] [] pos) (tS (fx C ca X W) fun s g => (fa s g).bind fun x g => R.ofO g (at1 g x (prim1 .range))) := by
  refine ⟨fun pins s σ H Q I ⟨ρ, B, sl, g, S, q⟩ => ?_⟩
  refine (pi_range1 hg hm (pa_cons ha pa_nil na) na).run pins s σ H Q I ?_
  refine ⟨ρ, B, sl, g, S, ?_⟩
  have q : OutS (fx C ca X W) σ sl B ρ H ((fa sl g).bind fun x g => R.ofO g (at1 g x (prim1 .range))) Q := q
  cases z : fa sl g with
  | ok x g1 =>
    rw [z] at q
    have q : OutS (fx C ca X W) σ sl B ρ H (R.ofO g1 (at1 g1 x (prim1 .range))) Q := q
    cases z2 : at1 g1 x (prim1 .range) with
    | none => rw [z2] at q; exact q.elim
    | some y =>
      rw [z2] at q
      obtain ⟨x', d1, ez⟩ := at1_some z2
      intro v H1 ρ1 e1 S1 r1
      cases x' with
      | int n =>
        have vx := ((Raw.rep r1).view S1.heap d1).int
        subst vx
        have ez : (if -(2 ^ 62) ≤ n ∧ n ≤ 16777216 then some (D.lst (rangeL 0 n.toNat)) else none) = some y := ez
        by_cases k : -(2 ^ 62) ≤ n ∧ n ≤ 16777216
        · rw [if_pos k] at ez
          cases ez
          obtain ⟨ds, e, q⟩ := q
          cases e
          exact ⟨n, rfl, k.1, by omega, q _ _ H1 ρ1 e1 S1 (src_range (lo := 0) (by rw [sizeLine_eq]; omega)) trivial⟩
        · rw [if_neg k] at ez; cases ez
      | _ => cases ez
  | exc x g1 => rw [z] at q; exact q
  | bad => rw [z] at q; exact q.elim
end
/-! ### enumerate of a tuple, of a list -/
section
variable {prog : Program} {w : World} {A : Around} {E : Value → Shared → Prop} {s : Shared}
set_option maxHeartbeats 2000000 in
theorem meets_enum1 {v : Value} {o : Obj} {H : Heap → Prop} (B : Begins v o H) :
    Meets (Builtin.«enumerate.__new__» ⟨[.type "enumerate", v], []⟩) (fun _ R s => H s.heap ∧
      R (.ok (.ret (.ref (s.heap.push o).objs.size))) { s with heap := (s.heap.push o).push { cls := .type "enumerate", data := .fields #[.none, .bool false, .ref s.heap.objs.size, rawInt 0, .none, .none] } }) :=
  .of_wp fun prog w A R s h => by
    obtain ⟨hp, g, d, tk, os⟩ := s
    obtain ⟨h1, h⟩ := h
    have hsub := sub_enumerate
    have q1 : ∀ {A' : Around} {E : Value → Shared → Prop} {Q : Value → Shared → Prop}, Q (.ref hp.objs.size) ⟨hp.push o, g, d, tk, os⟩ → wpAny (model prog w) A' (pyIter v) Q E ⟨hp, g, d, tk, os⟩ :=
      fun q => B.iter prog w _ _ ⟨hp, g, d, tk, os⟩ _ h1 q
    wp_walk using q1
    refine wpAny_stack_any fun st => wpAny_pure ?_
    split
    · rename_i c _ _ _ _ _
      cases (c == Value.type "enumerate")
      · wp_walk using q1
        exact ⟨_, rfl, h⟩
      · wp_walk using q1
        exact ⟨_, rfl, h⟩
    · wp_walk using q1
      exact ⟨_, rfl, h⟩
theorem call_enum1 {v : Value} {o : Obj} {H : Heap → Prop} {Q : Value → Shared → Prop} (B : Begins v o H) (h1 : H s.heap)
    (h : ∀ h', IsEnum h' (s.heap.objs.size + 1) s.heap.objs.size 0 .none → h'.get? s.heap.objs.size = some o → h'.objs.size = s.heap.objs.size + 2 →
      (∀ b o, s.heap.get? b = some o → h'.get? b = some o) → Q (.ref (s.heap.objs.size + 1)) { s with heap := h' }) :
    wpAny (model prog w) A (PySem.call (.type "enumerate") [v]) Q E s := by
  refine callType_new F.called_enumerate (by decide) (F.typeCall_enumerate_1 _) (F.newCall_enumerate_1 _) (fun obj => F.args_object_init_2 obj _) F.entry_enumerate_new
    (meets_enum1 B) ⟨h1, ?_⟩
  have hz : (s.heap.push o).objs.size = s.heap.objs.size + 1 := Heap.size_push ..
  show _ ∧ _
  rw [hz]
  have he : IsEnum ((s.heap.push o).push { cls := .type "enumerate", data := .fields #[.none, .bool false, .ref s.heap.objs.size, rawInt 0, .none, .none] }) (s.heap.objs.size + 1) s.heap.objs.size 0 .none := by
    have q := Heap.get?_push_size (s.heap.push o) (o := { cls := .type "enumerate", data := .fields #[.none, .bool false, .ref s.heap.objs.size, rawInt 0, .none, .none] }) rfl
    rwa [hz] at q
  exact ⟨⟨_, he, rfl⟩, h _ he (Heap.get?_push_of_some _ (Heap.get?_push_size _ B.free)) (by rw [Heap.size_push, hz]) fun b o x => Heap.get?_push_of_some _ (Heap.get?_push_of_some _ x)⟩
end
/-- what a walk over a sequence at a gives, each in a new pair with its number; S: the sequence stands -/
def ItE (S : List V → Hp → Prop) : It :=
  ⟨fun i H => ∃ (xs : List V) (x : V), S xs H ∧ xs[i]? = some x, fun i H v H' => ∃ T x, v = .ref T ∧ H T = none ∧ H' = upd H T (.tup [.int (i : Nat), x]) ∧ ∀ xs, S xs H → xs[i]? = some x, fun i H => ∃ xs : List V, S xs H ∧ xs.length ≤ i⟩
theorem enumL_get : ∀ (ds : List D) (n i : Nat), (enumL n ds)[i]? = (ds[i]?).map fun d => D.tup [.int ((n + i : Nat) : Int), d]
  | [], n, i => by simp [enumL]
  | d :: ds, n, 0 => by simp [enumL]
  | d :: ds, n, i + 1 => by
    rw [enumL, List.getElem?_cons_succ, List.getElem?_cons_succ, enumL_get ds (n + 1) i]
    rw [show n + 1 + i = n + (i + 1) by omega]
theorem enumL_length : ∀ (ds : List D) (n : Nat), (enumL n ds).length = ds.length
  | [], _ => rfl
  | _ :: ds, n => by rw [enumL, List.length_cons, List.length_cons, enumL_length ds (n + 1)]
theorem src_enum {K : Fg} {S : List V → Hp → Prop} {vs : List V} {ds : List D} {P : List Addr → List Addr → Hp → Prop} (hl : ds.length ≤ sizeLine)
    (h1 : ∀ {ρ B H ρ' B' H'}, P ρ B H → Stp ρ B H ρ' B' H' → P ρ' B' H')
    (h4 : ∀ {ρ B H}, P ρ B H → S vs H ∧ RepL K ρ B H vs ds) : SrcAt K (ItE S) (enumL 0 ds) P where
  len := by rw [enumL_length]; exact hl
  stp := h1
  goes := fun i hi h => by
    rw [enumL_length] at hi
    obtain ⟨v, e, _⟩ := (h4 h).2.get (List.getElem?_eq_getElem hi)
    exact ⟨vs, v, (h4 h).1, e⟩
  stops := fun h => ⟨vs, (h4 h).1, by rw [enumL_length, (h4 h).2.length]; exact Nat.le_refl _⟩
  yields := fun i x H' hi h y => by
    obtain ⟨T, v, rfl, hT, rfl, hx⟩ := y
    obtain ⟨d, e, r⟩ := (h4 h).2.getV (hx vs (h4 h).1)
    refine ⟨.inr ⟨T, _, hT, rfl⟩, .tup [.int ((0 + i : Nat) : Int), d], by rw [enumL_get, e]; rfl, ?_⟩
    rw [Nat.zero_add]
    exact .tup (.inl (.inl upd_same)) (.cons (.int _) (.cons (r.ext (Ext.laid hT)) .nil))
theorem turn_enumT {P : Program} {w : World} {K : Fg} {elts : List Expr} {kk : Nat} {tpos : Pos} (a e it : Addr) :
    Turn P w K (.Tuple elts kk tpos) (ItE fun xs H => SqT K H a xs) [e, it] e (fun i h => (∃ old, IsEnum h e it ((i : Nat) : Int) old) ∧ h.IsTupleIter it a i ∧ e ≠ it) where
  mem := by simp
  obj := fun i h st b hb => by
    obtain ⟨⟨old, he⟩, ⟨o, ho, hc, hd⟩, _⟩ := st
    rcases (show b = e ∨ b = it by simpa using hb) with z | z
    · rw [z]; exact ⟨_, he, fun v q => nomatch q⟩
    · rw [z]; exact ⟨o, ho, fun v q => by rw [hd] at q; cases q⟩
  keep := fun i h h' st k => by
    obtain ⟨⟨old, he⟩, hi, hne⟩ := st
    exact ⟨⟨old, k e (by simp) _ he⟩, hi.at fun o q => k it (by simp) o q, hne⟩
  item := by
    intro X hP hw hK hc i pins s σ H E I hf st hg
    subst hP hw hK
    obtain ⟨⟨old, he⟩, hit, hne⟩ := st
    obtain ⟨xs, x, hq, hx⟩ := hg
    obtain ⟨its, rv, p, hz⟩ := I.tuple hq
    obtain ⟨u, hu, ru⟩ := rv.get hx
    have hel : e < s.heap.objs.size := Heap.lt_size he
    have hil : it < s.heap.objs.size := by obtain ⟨_, q, _⟩ := hit; exact Heap.lt_size q
    have hti : a ≠ it := fun z => by
      obtain ⟨o1, q1, c1, _⟩ := id hit
      obtain ⟨o2, q2, c2, _⟩ := id p
      rw [z, q1] at q2
      cases q2
      rw [c1] at c2
      injection c2 with c3
      exact absurd c3 (by decide)
    have hte : e ≠ a := fun z => by
      obtain ⟨o2, q2, c2, _⟩ := id p
      have he' : s.heap.get? e = _ := he
      rw [z, q2] at he'
      cases he'
      injection c2 with c3
      exact absurd c3 (by decide)
    have D := Draws.tuple (prog := X.prog) (w := X.w) (A := X.A.in1) (show X.A.in1.handled = none from I.ok.hd hc) it a hti its.toArray
    have hlt : i < its.toArray.size := by
      rw [List.size_toArray]
      exact (List.getElem?_eq_some_iff.mp hu).1
    refine wpAny_pyNext_enum_itemD D he ⟨hit, p⟩ hlt hne (by simp [hne, hte]) fun y h' tk hP ho st' hT hsz hk => ?_
    obtain rfl : u = y := by
      have q : its.toArray[i]? = some y := hP
      rw [show its.toArray[i]? = some u by simpa using hu] at q
      exact Option.some.inj q
    refine ⟨_, rfl, wpAny_letOwnedTupleGo_enum (s := { s with heap := h', toks := tk + 1 }) ho fun h'' he' sb => ?_⟩
    have hT2 : h''.get? s.heap.objs.size = some { cls := .type "tuple", data := .seq #[.int i tk, u] } := (sb.2 _ (Nat.ne_of_gt hel)).trans hT
    have new : ObjOk X.prog X.w (upd H s.heap.objs.size (.tup [.int (i : Nat), x])) h'' s.heap.objs.size (.tup [.int (i : Nat), x]) :=
      ⟨by show 2 ≤ sizeLine; decide, [.int i tk, u], .cons ⟨_, rfl⟩ (.cons ru .nil), ⟨_, hT2, rfl, _, rfl⟩⟩
    have I1 : Inv X pins σ (upd H s.heap.objs.size (.tup [.int (i : Nat), x])) { s with heap := h'', toks := tk + 1 } :=
      I.turnedNew (ch := [e, it]) (fun b ob hb q => (sb.2 b (fun z => hb (by simp [z]))).trans (hk b ob (fun z => hb (by simp [z])) (fun z => hb (by simp [z])) q)) hf (Nat.le_refl _) new
    refine ⟨.ref s.heap.objs.size, _, I1, rfl, ⟨_, x, rfl, I.hok.fresh (Nat.le_refl _), rfl, fun ys hy => by rw [I.tuple_inj hy hq]; exact hx⟩, ⟨⟨u, ?_⟩, st'.1.at fun o q => (sb.2 it (Ne.symm hne)).trans q, hne⟩, fun b hb => ?_⟩
    · have e1 : ((i + 1 : Nat) : Int) = (i : Int) + 1 := by omega
      rw [e1]; exact he'
    · have hb' : b < s.heap.objs.size := by
        rcases (show b = e ∨ b = it by simpa using hb) with z | z
        · rw [z]; exact hel
        · rw [z]; exact hil
      rw [upd_ne (Nat.ne_of_lt hb')]
      exact (hf b hb).1
  done := by
    intro X hP hw hK hc i pins s σ H E I hf st hg
    subst hP hw hK
    obtain ⟨⟨old, he⟩, hit, hne⟩ := st
    obtain ⟨xs, hq, hx⟩ := hg
    obtain ⟨its, rv, p, hz⟩ := I.tuple hq
    obtain ⟨f0, f1, f2, f3, f4, f5⟩ := hf it (by simp)
    have hti : a ≠ it := fun z => by
      obtain ⟨o1, q1, c1, _⟩ := id hit
      obtain ⟨o2, q2, c2, _⟩ := id p
      rw [z, q1] at q2
      cases q2
      rw [c1] at c2
      injection c2 with c3
      exact absurd c3 (by decide)
    have hT : s.TypeIs (.ref e) "enumerate" := ⟨_, he, rfl⟩
    unfold pyNext
    refine wpAny_bind (wpAny_attempt (wpAny_callSpecial?_slot (name := Str.ofString "__next__") hT F.slot_enumerate_next
      (wpAny_call_entry F.slot_enumerate_next hT F.entry_enumerate_next ?_ (F.args_enumerate_next_1 _))))
    show wpAny _ _ (field (.ref e) 2 >>= _) _ _ _
    refine wpAny_bind (wpAny_field he rfl (x := .ref it) rfl ?_)
    have hl := rv.length
    refine wpAny_bind (wpAny_nextOf_tuple_end (show X.A.in1.handled = none from I.ok.hd hc) hit p (by simp; omega) fun h' y eb hy => ?_)
    obtain ⟨o, ho, hc'⟩ := hy
    refine wpAny_bind (wpAny_isInstance (T := "StopIteration") (b := true) ⟨o, ho, hc'⟩ isSubtype_stop ?_)
    exact wpAny_pure ⟨rfl, I.turned (t' := s.toks) (fun b o hb q => eb b o hb q) f0 f1 f3 f4 f5⟩
  self := fun A i s Q E st h => by
    obtain ⟨⟨_, he⟩, _⟩ := st
    exact wpAny_pyIter_enum he h
section
variable {X : Cx} {C : Cfg} {ca : Nat → Addr} {W : WX} {a : Expr} {pos p tpos : Pos} {fa : Sl → G → R D} {elts : List Expr} {kk : Nat}
theorem i_enum (hg : Gl X "enumerate") (hm : X.mg "enumerate" = none) (ha : PE X a (tE (fx C ca X W) fa)) (na : starEach [a] X.env = (false, eval a X.env) :: starEach [] X.env) :
    PI X (.Tuple elts kk tpos) (.Call (.Name "enumerate" p) [a] [] pos) (tS (fx C ca X W) fun s g => (fa s g).bind fun x g => R.ofO g (prim1 .enum x)) := by
  refine ⟨fun pins s σ H Q I ⟨ρ, B, sl, g, S, q⟩ => ?_⟩
  have q : OutS (fx C ca X W) σ sl B ρ H ((fa sl g).bind fun x g => R.ofO g (prim1 .enum x)) Q := q
  have h0 : tE (fx C ca X W) fa σ H fun v H1 => ∃ ρ1 g1 d z, Sim X.K ρ1 B H1 g1 sl σ ∧ Rep X.K ρ1 B H1 v d ∧ prim1 .enum d = some z ∧ ∀ ds, z = .lst ds → ∀ J P, SrcAt X.K J ds P → P ρ1 B H1 → Q J H1 := by
    refine ⟨ρ, B, sl, g, S, ?_⟩
    cases z : fa sl g with
    | ok d g1 =>
      rw [z] at q
      have q : OutS (fx C ca X W) σ sl B ρ H (R.ofO g1 (prim1 .enum d)) Q := q
      cases z2 : prim1 .enum d with
      | none => rw [z2] at q; exact q.elim
      | some y =>
        rw [z2] at q
        obtain ⟨ds, e, q⟩ := q
        refine fun v H1 ρ1 e1 S1 r1 => ⟨ρ1, g1, d, y, S1, r1, z2, fun ds' e' J P sa hp => ?_⟩
        subst e'
        cases e
        exact q J P H1 ρ1 e1 S1 sa hp
    | exc x g1 => rw [z] at q; exact q
    | bad => rw [z] at q; exact q.elim
  refine Call_ (ld_blt I hg hm boot_enumerate (PyProof.Rows.callWith_type1 (thn ((pa_cons ha pa_nil na).run pos pins s σ H (fun vs H1 => ∃ v, vs = [v] ∧ ∃ ρ1 g1 d z, Sim X.K ρ1 B H1 g1 sl σ ∧ Rep X.K ρ1 B H1 v d ∧ prim1 .enum d = some z ∧ ∀ ds, z = .lst ds → ∀ J P, SrcAt X.K J ds P → P ρ1 B H1 → Q J H1) I ?_) fun us s1 ⟨vs, H1, I1, r1, q1⟩ => ?_) na rfl))
  · obtain ⟨ρ', B', sl', g', S', q'⟩ := h0
    refine ⟨ρ', B', sl', g', S', ?_⟩
    cases z : fa sl' g' with
    | ok d g1 => rw [z] at q'; exact fun v H1 ρ1 e1 S1 r1 => ⟨v, rfl, q' v H1 ρ1 e1 S1 r1⟩
    | exc x g1 => rw [z] at q'; exact q'
    | bad => rw [z] at q'; exact q'.elim
  · obtain ⟨v, rfl, ρ1, g1, d, z, S1, rd, ez, q1⟩ := q1
    obtain ⟨u, rfl, ru⟩ := vals1 r1
    cases rd with
    | lst hf rl =>
      cases ez
      obtain rfl := ru
      obtain ⟨its, rv, pl, hz⟩ := I1.list hf.sq
      refine call_enumerate_list pl.isList fun h' he hit hsz hk => wpAny_pyIter_enum he ?_
      have I2 : Inv X pins σ H1 { s1 with heap := h' } := I1.kept (t' := s1.toks) hk
      refine ⟨s1.heap.objs.size + 1, [s1.heap.objs.size + 1, s1.heap.objs.size], _, _, H1, rfl, I2, turn_enum _ (s1.heap.objs.size + 1) s1.heap.objs.size, ⟨⟨.none, he⟩, hit, Nat.succ_ne_self _⟩, fun b hb => ?_,
        q1 _ rfl (ItE fun xs H => SqL X.K H _ xs) _ (src_enum (P := fun ρ B H => Frozen X.K ρ B H _ _ ∧ RepL X.K ρ B H _ _) (by rw [← rl.length]; exact hz) (fun h e => ⟨h.1.stp e, h.2.stp e⟩) (fun h => ⟨h.1.sq, h.2⟩)) ⟨hf, rl⟩⟩
      have hle : s1.heap.objs.size ≤ b := by
        rcases (show b = s1.heap.objs.size + 1 ∨ b = s1.heap.objs.size by simpa using hb) with z | z
        · rw [z]; exact Nat.le_add_right _ _
        · rw [z]; exact Nat.le_refl _
      exact I1.fpOk hle (I1.hok.fresh hle)
    | tup hf rl =>
      cases ez
      obtain rfl := ru
      obtain ⟨its, rv, pl, hz⟩ := I1.tuple hf
      refine call_enum1 (begins_tuple _ its.toArray) pl fun h' he hit hsz hk => wpAny_pyIter_enum he ?_
      have I2 : Inv X pins σ H1 { s1 with heap := h' } := I1.kept (t' := s1.toks) hk
      refine ⟨s1.heap.objs.size + 1, [s1.heap.objs.size + 1, s1.heap.objs.size], _, _, H1, rfl, I2, turn_enumT _ (s1.heap.objs.size + 1) s1.heap.objs.size, ⟨⟨.none, he⟩, ⟨_, hit, rfl, rfl⟩, Nat.succ_ne_self _⟩, fun b hb => ?_,
        q1 _ rfl (ItE fun xs H => SqT X.K H _ xs) _ (src_enum (P := fun ρ B H => SqT X.K H _ _ ∧ RepL X.K ρ B H _ _) (by rw [← rl.length]; exact hz) (fun h e => ⟨e.sqt h.1, h.2.stp e⟩) (fun h => h)) ⟨hf, rl⟩⟩
      have hle : s1.heap.objs.size ≤ b := by
        rcases (show b = s1.heap.objs.size + 1 ∨ b = s1.heap.objs.size by simpa using hb) with z | z
        · rw [z]; exact Nat.le_add_right _ _
        · rw [z]; exact Nat.le_refl _
      exact I1.fpOk hle (I1.hok.fresh hle)
    | ref h => cases ez
    | non => cases ez
    | bl b => cases ez
    | int i => cases ez
    | str t => cases ez
    | dic h1 h2 h3 h4 => cases ez
end
end PX
end
section
set_option Elab.async false
set_option linter.all false
set_option maxRecDepth 100000
set_option autoImplicit false
set_option maxHeartbeats 1000000
/-! PXn: list comprehensions. -/
namespace PX
open PySem L2 PySem.Spec PyProof.Rows
def bodyL (tg : Tg) (fc : Sl → G → R Bool) (fe : Sl → G → R D) (s : Sl) : D → G → R (Option D) := fun x g => match bindT tg x (wipeS tg.slots s) with
  | none => .bad
  | some s' => (fc s' g).bind fun b g => if b = true then (fe s' g).bind fun y g => .ok (some y) g else .ok none g
def fLc (fit : Sl → G → R D) (tg : Tg) (fc : Sl → G → R Bool) (fe : Sl → G → R D) : Sl → G → R D := fun s g => (fit s g).bind fun d g => match itemsOf d with
  | none => .bad
  | some xs => (compL (bodyL tg fc fe s) xs [] g).bind fun ys g => .ok (.lst ys) g
theorem bodyL_ok {tg : Tg} {fc : Sl → G → R Bool} {fe : Sl → G → R D} {s : Sl} {x : D} {g g2 : G} {o : Option D} (h : bodyL tg fc fe s x g = .ok o g2) :
    ∃ s' b g3, bindT tg x (wipeS tg.slots s) = some s' ∧ fc s' g = .ok b g3 ∧ ((b = true ∧ ∃ y, fe s' g3 = .ok y g2 ∧ o = some y) ∨ (b = false ∧ g2 = g3 ∧ o = none)) := by
  unfold bodyL at h
  cases q : bindT tg x (wipeS tg.slots s) with
  | none => rw [q] at h; cases h
  | some s' =>
    rw [q] at h
    have h : ((fc s' g).bind fun b g => if b = true then (fe s' g).bind fun y g => .ok (some y) g else .ok none g) = .ok o g2 := h
    cases q2 : fc s' g with
    | ok b g3 =>
      rw [q2] at h
      have h : (if b = true then (fe s' g3).bind fun y g => .ok (some y) g else .ok none g3 : R (Option D)) = .ok o g2 := h
      refine ⟨s', b, g3, rfl, q2, ?_⟩
      cases b with
      | true =>
        rw [if_pos rfl] at h
        cases q3 : fe s' g3 with
        | ok y g4 =>
          rw [q3] at h
          have h : (R.ok (some y) g4 : R (Option D)) = .ok o g2 := h
          cases h
          exact .inl ⟨rfl, y, rfl, rfl⟩
        | exc x g4 => rw [q3] at h; cases h
        | bad => rw [q3] at h; cases h
      | false =>
        rw [if_neg (by simp)] at h
        cases h
        exact .inr ⟨rfl, rfl, rfl⟩
    | exc x g3 => rw [q2] at h; cases h
    | bad => rw [q2] at h; cases h
theorem wipe_in {σ : L2.St} {i : Nat} : ∀ {vs : List Nat}, i ∈ vs → (L2.wipe σ vs)[i]? = if i < σ.length then some none else none
  | v :: vs, h => by
    have e : L2.wipe σ (v :: vs) = (L2.wipe σ vs).set v none := rfl
    rw [e, List.getElem?_set, wipe_length]
    by_cases q : v = i
    · rw [if_pos q, q]
    · rw [if_neg q]
      exact wipe_in ((List.mem_cons.mp h).resolve_left fun z => q z.symm)
theorem wipe_same {σ τ : L2.St} {vs : List Nat} (hl : τ.length = σ.length) (ho : ∀ j, j ∉ vs → τ[j]? = σ[j]?) : L2.wipe τ vs = L2.wipe σ vs := by
  apply List.ext_getElem?
  intro j
  by_cases h : j ∈ vs
  · rw [wipe_in h, wipe_in h, hl]
  · rw [wipe_out h, wipe_out h, ho j h]
theorem Ext.new {ρ ρ' : List Addr} {H H' : Hp} (e : Ext ρ H ρ' H') {D : Addr} {o : HO} (hD : H D = none) : Ext ρ H ρ' (upd H' D o) := by
  have ne : ∀ {a u}, H a = some u → a ≠ D := fun {a u} q z => by rw [z, hD] at q; cases q
  refine ⟨e.pre, fun a u q n => by rw [upd_ne (ne q)]; exact e.keep a u q n, fun a u q => ?_, fun a xs q => by rw [upd_ne (ne q)]; exact e.tup a xs q, fun a u w q => by rw [upd_ne (ne q)]; exact e.frz a u w q⟩
  rw [upd_ne (ne q)]
  exact e.there a u q
theorem OutF.later {F : Fix} {σ : L2.St} {s : Sl} {B ρ ρ1 : List Addr} {H H1 : Hp} {r : R D} {Q : VK} (e : Ext ρ H ρ1 H1) (h : OutF F σ s B ρ H r Q) : OutF F σ s B ρ1 H1 r Q := by
  cases r with
  | ok c g2 => exact fun hc a H2 ρ2 e2 n f S2 o2 => h hc a H2 ρ2 (e.trans e2) n (e.free f) S2 o2
  | exc x g2 => exact fun cls dx H2 ρ2 e2 S2 q2 => h cls dx H2 ρ2 (e.trans e2) S2 q2
  | bad => exact h
abbrev WF : WX := fun _ _ _ _ => False
abbrev rBl : List Addr → List Addr → Hp → Bool → Bool → Prop := fun _ _ _ b b' => b' = b
section
variable {X : Cx} {C : Cfg} {ca : Nat → Addr} {W : WX} {elt tgE iter : Expr} {ifs : List Expr} {scope : Scope} {own : List (Str × Nat)} {pos : Pos} {fit fe : Sl → G → R D} {fc : Sl → G → R Bool} {tg : Tg}
theorem lc_imp (ho : own.map (·.2) = tg.slots) {σ : L2.St} {H : Hp} {Q : VK} (q : tF (fx C ca X W) (fLc fit tg fc fe) σ H Q) :
    tLc (tS (fx C ca X W) fit) (gT X.K tg) (tI ⟨C, ca, X.K, WF⟩ rBl fc) (tE ⟨C, ca, X.K, WF⟩ fe) (own.map (·.2)) σ H Q := by
  rw [ho]
  obtain ⟨ρ, B, s, g, S, q⟩ := q
  refine ⟨ρ, B, s, g, S, ?_⟩
  have q : OutF (fx C ca X W) σ s B ρ H ((fit s g).bind fun d g => match itemsOf d with
    | none => .bad
    | some xs => (compL (bodyL tg fc fe s) xs [] g).bind fun ys g => .ok (.lst ys) g) Q := q
  cases z : fit s g with
  | exc x g1 => rw [z] at q; exact q
  | bad => rw [z] at q; exact q.elim
  | ok d g1 =>
    rw [z] at q
    have q : OutF (fx C ca X W) σ s B ρ H (match itemsOf d with
      | none => .bad
      | some xs => (compL (bodyL tg fc fe s) xs [] g1).bind fun ys g => .ok (.lst ys) g) Q := q
    cases z2 : itemsOf d with
    | none => rw [z2] at q; exact q.elim
    | some ds =>
      rw [z2] at q
      refine ⟨ds, z2, fun J P H1 ρ1 e1 S1 sa hp D hD => ?_⟩
      have q : OutF (fx C ca X W) σ s B ρ1 H1 ((compL (bodyL tg fc fe s) ds [] g1).bind fun ys g => .ok (.lst ys) g) Q := OutF.later e1 q
      generalize hr0 : ((compL (bodyL tg fc fe s) ds [] g1).bind fun ys g => R.ok (PX.D.lst ys) g) = r0 at q
      have hDB : D ∉ B := fun m => by
        obtain ⟨o, k⟩ := S1.heap.tr D m
        rw [hD] at k; cases k
      have noD : ∀ (i : Nat) d, s[i]? = some (.own d) → σ[i]? ≠ some (some (.ref D)) := fun i d k k2 => by
        obtain ⟨a, h1, h2, _⟩ := S1.own i d k
        rw [h1] at k2
        cases k2
        exact hDB h2
      have w : L2.Walk J ds.length (fun H => ∃ ρ B, P ρ B H) J.yld := ⟨fun i H hi ⟨ρ, B, h⟩ => sa.goes i hi h, fun H ⟨ρ, B, h⟩ => sa.stops h, fun _ _ _ _ _ _ y => y⟩
      refine lc_it w (fun i H' => ∃ ρ' g' accv accd, Ext ρ1 H1 ρ' H' ∧ Sim X.K ρ' (D :: B) H' g' s σ ∧ P ρ' (D :: B) H' ∧ H' D = some (.lst accv) ∧ RepL X.K ρ' (D :: B) H' accv accd ∧ accv.length ≤ i ∧
        ((compL (bodyL tg fc fe s) (ds.drop i) accd g').bind fun ys g => R.ok (PX.D.lst ys) g) = r0) ?_ ?_ ?_ ?_
      · refine ⟨ρ1, g1, [], [], Ext.laid hD, S1.laidF hD, sa.ext (sa.forbid hp fun a ⟨o, k⟩ n m => ?_) (Ext.laid hD), upd_same, .nil, Nat.le_refl _, by rw [List.drop_zero]; exact hr0⟩
        rcases List.mem_cons.mp m with m | m
        · rw [m, hD] at k; cases k
        · exact n m
      · rintro i H' hi ⟨ρ', g', accv, accd, h1, h2, h3, _⟩
        exact ⟨_, _, h3⟩
      · rintro i x H' H'' hi ⟨ρ', g', accv, accd, e2, S2, p2, hDl, ra, hl, hr⟩ y
        obtain ⟨hH, di, hdi, rx⟩ := sa.yields i x H'' hi p2 y
        have e3 : Ext ρ' H' ρ' H'' := by
          rcases hH with rfl | ⟨T, o, hT, rfl⟩
          · exact Ext.refl
          · exact Ext.laid hT
        have S3 : Sim X.K ρ' (D :: B) H'' g' s σ := by
          rcases hH with rfl | ⟨T, o, hT, rfl⟩
          · exact S2
          · exact S2.laid hT
        have hDn : D ∉ ρ' := fun m => S2.heap.no D m List.mem_cons_self
        have hdr : ds.drop i = di :: ds.drop (i + 1) := by
          have hlt : i < ds.length := hi
          rw [List.drop_eq_getElem_cons hlt]
          rw [List.getElem?_eq_getElem hlt] at hdi
          cases hdi
          rfl
        rw [hdr] at hr
        have hb : ∃ o g2, bodyL tg fc fe s di g' = .ok o g2 := by
          cases k : bodyL tg fc fe s di g' with
          | ok o g2 => exact ⟨o, g2, rfl⟩
          | exc y g2 =>
            have : r0 = .bad := by rw [← hr]; simp only [compL, k, noExc, R.bind]
            rw [this] at q; exact q.elim
          | bad =>
            have : r0 = .bad := by rw [← hr]; simp only [compL, k, noExc, R.bind]
            rw [this] at q; exact q.elim
        obtain ⟨o, g2, hb⟩ := hb
        obtain ⟨s', b, g3, hbt, hfc, hcase⟩ := bodyL_ok hb
        refine ⟨ρ', D :: B, g', wipeS tg.slots s, di, s', S3.wipe tg.slots, rx, hbt, fun σ2 S4 o4 l4 => ⟨wipe_same (by rw [l4, wipe_length]) fun j hj => by rw [o4 j hj, wipe_out hj], ?_⟩⟩
        refine ⟨ρ', D :: B, s', g', S4, ?_⟩
        rw [hfc]
        intro b' H3 ρ3 e5 S5 rb
        have rb : b = b' := rb
        subst rb
        have S6 : Sim X.K ρ3 (D :: B) H3 g3 s σ := S3.after e5 S5.heap
        have p6 : P ρ3 (D :: B) H3 := sa.ext p2 (e3.trans e5)
        have hD6 : H3 D = some (.lst accv) := (e3.trans e5).keep D _ hDl hDn
        have ra6 := ra.ext (e3.trans e5)
        rcases hcase with ⟨rfl, yd, hfe, rfl⟩ | ⟨rfl, rfl, rfl⟩
        · rw [if_pos rfl]
          refine ⟨ρ3, D :: B, s', g3, S5, ?_⟩
          rw [hfe]
          intro yv H4 ρ4 e7 S7 ry
          have hDn3 : D ∉ ρ3 := fun m => S5.heap.no D m List.mem_cons_self
          have hD7 : H4 D = some (.lst accv) := e7.keep D _ hD6 hDn3
          refine ⟨accv, hD7, Nat.lt_of_lt_of_le (Nat.lt_of_le_of_lt hl hi) sa.len, ?_⟩
          have c7 : Chg ρ4 (D :: B) H4 (upd H4 D (.lst (accv ++ [yv]))) := Chg.write (.inr List.mem_cons_self) hD7 (.inl ⟨_, rfl⟩)
          refine ⟨ρ4, g2, accv ++ [yv], accd ++ [yd], ((e2.trans (e3.trans e5)).trans e7).new hD, (S6.after e7 S7.heap).writeB List.mem_cons_self hD7 (.inl ⟨_, rfl⟩) noD, sa.chg (sa.ext p6 e7) c7, upd_same, ((ra6.ext e7).append (.cons ry .nil)).chg c7, by rw [List.length_append]; exact Nat.succ_le_succ hl, ?_⟩
          rw [← hr]
          simp only [compL, hb, noExc, R.bind]
        · rw [if_neg (by simp)]
          refine ⟨ρ3, g2, accv, accd, e2.trans (e3.trans e5), S6, p6, hD6, ra6, Nat.le_succ_of_le hl, ?_⟩
          rw [← hr]
          simp only [compL, hb, noExc, R.bind]
      · rintro H' ⟨ρ', g', accv, accd, e2, S2, p2, hDl, ra, hl, hr⟩
        rw [List.drop_length] at hr
        have hr : R.ok (PX.D.lst accd) g' = r0 := hr
        rw [← hr] at q
        exact q rfl D H' ρ' e2 hDB hD S2 ⟨accv, hDl, ra⟩
theorem e_lc (hc : X.calm = true) (hN : X.N.Nodup) (hi : PI X tgE iter (tS (fx C ca X W) fit)) (ok : BlkOk X.N X.env.scope scope own) (ho : own.map (·.2) = tg.slots)
    (hg : ∀ (s : Shared) (H : Hp) (C' : Addr) (cl : List (Str × Addr)) (fp : List Addr), PG (X.blk s H scope (compEnvC scope cl C' X.env) fp) tgE (gT X.K tg))
    (ht : ∀ (s : Shared) (H : Hp) (C' : Addr) (cl : List (Str × Addr)) (fp : List Addr), PTs (X.blk s H scope (compEnvC scope cl C' X.env) fp) ifs (tI ⟨C, ca, X.K, WF⟩ rBl fc))
    (he : ∀ (s : Shared) (H : Hp) (C' : Addr) (cl : List (Str × Addr)) (fp : List Addr), PE (X.blk s H scope (compEnvC scope cl C' X.env) fp) elt (tE ⟨C, ca, X.K, WF⟩ fe))
    (hs : ∀ x, foldedSetIterable iter X.env x = pure x) : PE X (.ListComp elt [⟨tgE, iter, ifs, 0⟩] scope pos) (tF (fx C ca X W) (fLc fit tg fc fe)) :=
  (pe_lc hc hN hi ok hg ht he hs).impX fun σ H Q q => lc_imp ho q
theorem s_setLc {i : Nat} {y : Str} {py spos : Pos} (hc : X.calm = true) (hN : X.N.Nodup) (hy : X.N[i]? = some y) (hyl : X.env.scope.names.lookup y = some .local)
    (hsw : swapsWith (.ListComp elt [⟨tgE, iter, ifs, 0⟩] scope pos) (some (.Name y py)) spos.line X.env = pure true) (hi : PI X tgE iter (tS (fx C ca X W) fit)) (ok : BlkOk X.N X.env.scope scope own) (ho : own.map (·.2) = tg.slots)
    (hg : ∀ (s : Shared) (H : Hp) (C' : Addr) (cl : List (Str × Addr)) (fp : List Addr), PG (X.blk s H scope (compEnvC scope cl C' X.env) fp) tgE (gT X.K tg))
    (ht : ∀ (s : Shared) (H : Hp) (C' : Addr) (cl : List (Str × Addr)) (fp : List Addr), PTs (X.blk s H scope (compEnvC scope cl C' X.env) fp) ifs (tI ⟨C, ca, X.K, WF⟩ rBl fc))
    (he : ∀ (s : Shared) (H : Hp) (C' : Addr) (cl : List (Str × Addr)) (fp : List Addr), PE (X.blk s H scope (compEnvC scope cl C' X.env) fp) elt (tE ⟨C, ca, X.K, WF⟩ fe))
    (hs : ∀ x, foldedSetIterable iter X.env x = pure x) : PS X (.Assign [.Name y py] (.ListComp elt [⟨tgE, iter, ifs, 0⟩] scope pos) spos) (tAsg (tF (fx C ca X W) (fLc fit tg fc fe)) (gName i)) :=
  (ps_setLc hc hN hy hyl hsw hi ok hg ht he hs).impX fun D σ H q => lc_imp ho q
end
end PX
end
section
set_option Elab.async false
set_option linter.all false
set_option maxRecDepth 100000
set_option autoImplicit false
set_option maxHeartbeats 1000000
/-! PXo: statements. -/
namespace PX
open PySem L2 PySem.Spec PyProof.Rows
/-- the heap at a def's entry -/
structure Bs where
  ρ : List Addr
  B : List Addr
  H : Hp
structure StOk (K : Fg) (b : Bs) (H : Hp) (g : G) (s : Sl) (σ : L2.St) (ρ B : List Addr) : Prop where
  ext : Ext b.ρ b.H ρ H
  sub : ∀ a ∈ b.B, a ∈ B
  new : ∀ (i : Nat) d a, s[i]? = some (.own d) → σ[i]? = some (some (.ref a)) → a ∉ b.B ∧ b.H a = none
  sim : Sim K ρ B H g s σ
def OutSt (F : Fix) (b : Bs) (ρ B : List Addr) (H : Hp) (r : Fl) (D : Ends) : Prop :=
  match r with
  | .nx s g => ∀ σ H' ρ' B', Stp ρ B H ρ' B' H' → StOk F.K b H' g s σ ρ' B' → D.nx σ H'
  | .ret fr d g => if fr = true then isCont d = true → ∀ a H' ρ', Ext b.ρ b.H ρ' H' → a ∉ b.B → b.H a = none → HeapOk F.K ρ' (a :: b.B) H' g → ObjR F.K ρ' (a :: b.B) H' a (toPO d) → D.rt (.ref a) H'
      else ∀ v H' ρ', Ext b.ρ b.H ρ' H' → HeapOk F.K ρ' b.B H' g → Rep F.K ρ' b.B H' v d → D.rt v H'
  | .exc x s g => ∀ cls dx σ H' ρ' B', StOk F.K b H' g s σ ρ' B' → XRep F.C F.ca F.K x cls dx H' → F.W cls dx σ H'
  | .bad => False
def tSt (F : Fix) (b : Bs) (f : Sl → G → Fl) : TS := fun D σ H => ∃ ρ B s g, StOk F.K b H g s σ ρ B ∧ OutSt F b ρ B H (f s g) D
section
variable {K : Fg} {F : Fix} {b : Bs} {ρ ρ' ρ1 B B' B1 : List Addr} {H H' H1 : Hp} {g g' : G} {s : Sl} {σ : L2.St} {D : Ends} {r : Fl}
theorem OutSt.later (e : Stp ρ B H ρ' B' H') (h : OutSt F b ρ B H r D) : OutSt F b ρ' B' H' r D := by
  cases r with
  | nx s g => exact fun σ H2 ρ2 B2 e2 S2 => h σ H2 ρ2 B2 (e.trans e2) S2
  | ret fr d g => exact h
  | exc x s g => exact h
  | bad => exact h
theorem StOk.step (S : StOk K b H g s σ ρ B) (e : Ext ρ H ρ' H') (S' : Sim K ρ' B H' g' s σ) : StOk K b H' g' s σ ρ' B := ⟨S.ext.trans e, S.sub, S.new, S'⟩
/-- an expression, then the rest -/
theorem OutSt.lift {α β : Type} {R' : List Addr → List Addr → Hp → β → α → Prop} {x : R α} {k : α → G → Fl} {Q : β → Hp → Prop} (S : StOk F.K b H g s σ ρ B) (h : OutSt F b ρ B H (PX.lift s x k) D)
    (hk : ∀ a g1 v H1 ρ1, x = .ok a g1 → Ext ρ H ρ1 H1 → StOk F.K b H1 g1 s σ ρ1 B → R' B ρ1 H1 v a → OutSt F b ρ1 B H1 (k a g1) D → Q v H1) : Out F (R' B) σ s B ρ H x Q := by
  cases x with
  | ok a g1 => exact fun v H1 ρ1 e1 S1 r1 => hk a g1 v H1 ρ1 rfl e1 (S.step e1 S1) r1 (OutSt.later (Stp.ofExt e1) h)
  | exc y g1 => exact fun cls dx H1 ρ1 e1 S1 xr => h cls dx σ H1 ρ1 B (S.step e1 S1) xr
  | bad => exact h
theorem OutSt.liftF {x : R PX.D} {k : PX.D → G → Fl} {Q : VK} (S : StOk F.K b H g s σ ρ B) (h : OutSt F b ρ B H (PX.lift s x k) D)
    (hk : ∀ d g1 a H1 ρ1, x = .ok d g1 → isCont d = true → Ext ρ H ρ1 H1 → a ∉ B → H a = none → Sim F.K ρ1 (a :: B) H1 g1 s σ → ObjR F.K ρ1 (a :: B) H1 a (toPO d) → OutSt F b ρ B H (k d g1) D → Q (.ref a) H1) : OutF F σ s B ρ H x Q := by
  cases x with
  | ok d g1 => exact fun hc a H1 ρ1 e1 n f S1 o => hk d g1 a H1 ρ1 rfl hc e1 n f S1 o h
  | exc y g1 => exact fun cls dx H1 ρ1 e1 S1 xr => h cls dx σ H1 ρ1 B (S.step e1 S1) xr
  | bad => exact h
theorem OutSt.done (S : StOk F.K b H g s σ ρ B) (h : OutSt F b ρ B H (.nx s g) D) : D.nx σ H := h σ H ρ B Stp.refl S
/-- a value is stored at a slot -/
theorem StOk.set (S : StOk K b H g s σ ρ B) {i : Nat} {d : PX.D} {v : V} (r : Rep K ρ B H v d) : StOk K b H g (s.set i (.val d)) (σ.set i (some v)) ρ B := by
  refine ⟨S.ext, S.sub, fun j e a q1 q2 => ?_, S.sim.set r⟩
  rw [List.getElem?_set] at q1 q2
  have h : ¬ i = j := fun h => by rw [if_pos h] at q1; split at q1 <;> cases q1
  rw [if_neg h] at q1 q2
  exact S.new j e a q1 q2
/-- a slot takes a container of its own -/
theorem StOk.setOwn (S : StOk K b H g s σ ρ B) (e : Ext ρ H ρ1 H1) {i : Nat} {d : PX.D} {a : Addr} (hc : isCont d = true) (hn : a ∉ B) (hf : H a = none) (S1 : Sim K ρ1 (a :: B) H1 g' s σ) (o : ObjR K ρ1 (a :: B) H1 a (toPO d)) :
    StOk K b H1 g' (s.set i (.own d)) (σ.set i (some (.ref a))) ρ1 (a :: B) := by
  have other : ∀ (j : Nat) d, s[j]? = some (.own d) → σ[j]? ≠ some (some (.ref a)) := fun j d k k2 => by
    obtain ⟨c, h1, h2, _⟩ := S.sim.own j d k
    rw [h1] at k2
    cases k2
    exact hn h2
  refine ⟨S.ext.trans e, fun c m => List.mem_cons_of_mem _ (S.sub c m), fun j u c q1 q2 => ?_, ⟨S1.heap, by rw [List.length_set, List.length_set]; exact S1.len, fun j u q => ?_, fun j u q => ?_, fun j k u w c q1 q2 q3 q4 => ?_⟩⟩
  · rw [List.getElem?_set] at q1 q2
    by_cases h : i = j
    · rw [if_pos h] at q2
      by_cases hl : i < σ.length
      · rw [if_pos hl] at q2
        cases q2
        exact ⟨fun m => hn (S.sub _ m), S.ext.free hf⟩
      · rw [if_neg hl] at q2; cases q2
    · rw [if_neg h] at q1 q2
      exact S.new j u c q1 q2
  · rw [List.getElem?_set] at q ⊢
    by_cases h : i = j
    · rw [if_pos h] at q; split at q <;> cases q
    · rw [if_neg h] at q ⊢
      exact S1.val j u q
  · rw [List.getElem?_set] at q ⊢
    by_cases h : i = j
    · rw [if_pos h] at q ⊢
      by_cases hl : i < s.length
      · rw [if_pos hl] at q
        rw [if_pos (by rw [← S1.len]; exact hl)]
        cases q
        exact ⟨a, rfl, List.mem_cons_self, hc, o⟩
      · rw [if_neg hl] at q; cases q
    · rw [if_neg h] at q ⊢
      exact S1.own j u q
  · rw [List.getElem?_set] at q1 q2 q3 q4
    by_cases h1 : i = j
    · by_cases h2 : i = k
      · rw [← h1, ← h2]
      · rw [if_neg h2] at q2 q4
        rw [if_pos h1] at q3
        split at q3
        · cases q3
          exact (other k w q2 q4).elim
        · cases q3
    · rw [if_neg h1] at q1 q3
      by_cases h2 : i = k
      · rw [if_pos h2] at q4
        split at q4
        · cases q4
          exact (other j u q1 q3).elim
        · cases q4
      · rw [if_neg h2] at q2 q4
        exact S1.apart j k u w c q1 q2 q3 q4
theorem stp_own {a : Addr} (e : Ext ρ H ρ1 H1) (hf : H a = none) : Stp ρ B H ρ1 (a :: B) H1 :=
  ⟨e.pre, fun c o q n _ => e.keep c o q n, e.there, e.tup, e.frz, fun c ⟨o, q⟩ n m => by
    rcases List.mem_cons.mp m with z | z
    · rw [z, hf] at q; cases q
    · exact n z⟩
mutual
/-- a forbidden container becomes a place -/
theorem Rep.place {a : Addr} : ∀ {v : V} {d : PX.D}, Rep K ρ (a :: B) H v d → Rep K (ρ ++ [a]) B H v d
  | _, _, .non => .non
  | _, _, .bl b => .bl b
  | _, _, .int i => .int i
  | _, _, .str t => .str t
  | _, _, .tup h r => .tup h (RepL.place r)
  | _, _, .lst h r => .lst (h.imp (fun q => ⟨q.1, fun z => (List.mem_append.mp z).elim q.2.1 fun z => q.2.2 (by rw [List.mem_singleton.mp z]; exact List.mem_cons_self), fun z => q.2.2 (List.mem_cons_of_mem _ z)⟩) id) (RepL.place r)
  | _, _, .dic h n1 n2 r => .dic h (fun z => (List.mem_append.mp z).elim n1 fun z => n2 (by rw [List.mem_singleton.mp z]; exact List.mem_cons_self)) (fun z => n2 (List.mem_cons_of_mem _ z)) (RepK.place r)
  | _, _, .ref (l := l) h => .ref (by
      have hl : l < ρ.length := (List.getElem?_eq_some_iff.mp h).1
      rw [List.getElem?_append_left hl]; exact h)
theorem RepL.place {a : Addr} : ∀ {vs : List V} {ds : List PX.D}, RepL K ρ (a :: B) H vs ds → RepL K (ρ ++ [a]) B H vs ds
  | _, _, .nil => .nil
  | _, _, .cons h r => .cons (Rep.place h) (RepL.place r)
theorem RepK.place {a : Addr} : ∀ {vs : List (Key × V)} {ds : List (PX.D × PX.D)}, RepK K ρ (a :: B) H vs ds → RepK K (ρ ++ [a]) B H vs ds
  | _, _, .nil => .nil
  | _, _, .cons h r => .cons (Rep.place h) (RepK.place r)
end
theorem ObjR.place {a c : Addr} {o : PO} (h : ObjR K ρ (a :: B) H c o) : ObjR K (ρ ++ [a]) B H c o := by
  cases o with
  | lst xs => obtain ⟨vs, k, r⟩ := h; exact ⟨vs, k, r.place⟩
  | dic xs => obtain ⟨vs, k, r⟩ := h; exact ⟨vs, k, r.place⟩
  | dead => exact h
/-- a slot takes a new place -/
theorem StOk.setHp (S : StOk K b H g s σ ρ B) (e : Ext ρ H ρ1 H1) {i : Nat} {d : PX.D} {a : Addr} (hc : isCont d = true) (hn : a ∉ B) (hf : H a = none) (S1 : Sim K ρ1 (a :: B) H1 g' s σ) (o : ObjR K ρ1 (a :: B) H1 a (toPO d)) :
    StOk K b H1 (g' ++ [toPO d]) (s.set i (.val (.ref g'.length))) (σ.set i (some (.ref a))) (ρ1 ++ [a]) B ∧ Stp ρ B H (ρ1 ++ [a]) B H1 := by
  have hna : a ∉ ρ1 := fun z => S1.heap.no a z List.mem_cons_self
  have hh : HeapOk K (ρ1 ++ [a]) B H1 (g' ++ [toPO d]) := by
    refine ⟨by rw [List.length_append, List.length_append, S1.heap.len]; rfl, List.nodup_append.mpr ⟨S1.heap.nd, by simp, fun x hx y hy => ?_⟩, fun x hx => ?_, fun l c u q1 q2 => ?_, fun x hx => S1.heap.tr x (List.mem_cons_of_mem _ hx)⟩
    · rw [List.mem_singleton.mp hy]
      exact fun z => hna (z ▸ hx)
    · rcases List.mem_append.mp hx with z | z
      · exact fun m => S1.heap.no x z (List.mem_cons_of_mem _ m)
      · rw [List.mem_singleton.mp z]; exact hn
    · by_cases hl : l < ρ1.length
      · rw [List.getElem?_append_left hl] at q1
        rw [List.getElem?_append_left (by rw [← S1.heap.len]; exact hl)] at q2
        exact (S1.heap.obj l c u q1 q2).place
      · rw [List.getElem?_append_right (by omega)] at q1
        rw [List.getElem?_append_right (by rw [← S1.heap.len]; omega)] at q2
        have h0 : l - ρ1.length = 0 := by
          have := (List.getElem?_eq_some_iff.mp q1).1
          simp at this
          omega
        rw [h0] at q1
        rw [← S1.heap.len, h0] at q2
        cases q1
        cases q2
        exact o.place
  have pr : ∃ n, ρ1 ++ [a] = ρ ++ n ∧ ∀ x ∈ n, H x = none := by
    obtain ⟨n, e1, h1⟩ := e.pre
    refine ⟨n ++ [a], by rw [e1, List.append_assoc], fun x hx => ?_⟩
    rcases List.mem_append.mp hx with z | z
    · exact h1 x z
    · rw [List.mem_singleton.mp z]; exact hf
  refine ⟨⟨?_, S.sub, fun j u c q1 q2 => ?_, ⟨hh, by rw [List.length_set, List.length_set]; exact S1.len, fun j u q => ?_, fun j u q => ?_, fun j k u w c q1 q2 q3 q4 => ?_⟩⟩, ⟨pr, fun c o q n _ => e.keep c o q n, e.there, e.tup, e.frz, fun c _ n => n⟩⟩
  · have e2 : Ext ρ H (ρ1 ++ [a]) H1 := ⟨pr, e.keep, e.there, e.tup, e.frz⟩
    exact S.ext.trans e2
  · rw [List.getElem?_set] at q1 q2
    have h : ¬ i = j := fun h => by rw [if_pos h] at q1; split at q1 <;> cases q1
    rw [if_neg h] at q1 q2
    exact S.new j u c q1 q2
  · rw [List.getElem?_set] at q ⊢
    by_cases h : i = j
    · rw [if_pos h] at q ⊢
      by_cases hl : i < s.length
      · rw [if_pos hl] at q
        rw [if_pos (by rw [← S1.len]; exact hl)]
        cases q
        refine ⟨.ref a, rfl, .ref ?_⟩
        rw [← S1.heap.len, List.getElem?_append_right (Nat.le_refl _), Nat.sub_self]
        rfl
      · rw [if_neg hl] at q; cases q
    · rw [if_neg h] at q ⊢
      obtain ⟨v, h1, h2⟩ := S1.val j u q
      exact ⟨v, h1, h2.place⟩
  · rw [List.getElem?_set] at q ⊢
    by_cases h : i = j
    · rw [if_pos h] at q; split at q <;> cases q
    · rw [if_neg h] at q ⊢
      obtain ⟨c, h1, h2, h3, h4⟩ := S1.own j u q
      refine ⟨c, h1, ?_, h3, h4.place⟩
      rcases List.mem_cons.mp h2 with z | z
      · obtain ⟨c', k1, k2, _⟩ := S.sim.own j u q
        rw [h1] at k1
        cases k1
        exact k2
      · exact z
  · rw [List.getElem?_set] at q1 q2 q3 q4
    have hj : ¬ i = j := fun h => by rw [if_pos h] at q1; split at q1 <;> cases q1
    have hk : ¬ i = k := fun h => by rw [if_pos h] at q2; split at q2 <;> cases q2
    rw [if_neg hj] at q1 q3
    rw [if_neg hk] at q2 q4
    exact S1.apart j k u w c q1 q2 q3 q4
/-- an own container is locked: from now on a value -/
theorem StOk.frz (S : StOk K b H g s σ ρ B) {i : Nat} {d : PX.D} (h : s[i]? = some (.own d)) : ∃ B', StOk K b H g (s.set i (.val d)) σ ρ B' ∧ Stp ρ B H ρ B' H := by
  obtain ⟨a, h1, h2, h3, h4⟩ := S.sim.own i d h
  obtain ⟨n1, n2⟩ := S.new i d a h h1
  have hB : ∀ c ∈ B.filter (fun c => decide (c ≠ a)), c ∈ B := fun c m => (List.mem_filter.mp m).1
  have hB' : ∀ c, c ∈ B → c ≠ a → c ∈ B.filter (fun c => decide (c ≠ a)) := fun c m q => List.mem_filter.mpr ⟨m, decide_eq_true q⟩
  have na : a ∉ B.filter (fun c => decide (c ≠ a)) := fun m => by
    have := (List.mem_filter.mp m).2
    simp at this
  have hk : ∀ c, (∃ o, H c = some o) → c ∉ B → c ∉ B.filter (fun c => decide (c ≠ a)) := fun c _ n m => n (hB c m)
  have rep : Rep K ρ (B.filter (fun c => decide (c ≠ a))) H (.ref a) d := by
    cases d with
    | lst xs =>
      obtain ⟨vs, k, r⟩ := h4
      exact .lst (.inl ⟨.inl k, fun z => S.sim.heap.no a z h2, na⟩) (r.mono Ext.refl hk)
    | dic xs =>
      obtain ⟨vs, k, r⟩ := h4
      exact .dic (.inl k) (fun z => S.sim.heap.no a z h2) na (r.mono Ext.refl hk)
    | _ => simp [isCont] at h3
  refine ⟨_, ⟨S.ext, fun c m => hB' c (S.sub c m) fun z => n1 (z ▸ m), fun j u c q1 q2 => ?_, ⟨S.sim.heap.forbid hk fun c m => S.sim.heap.tr c (hB c m), by rw [List.length_set]; exact S.sim.len, fun j u q => ?_, fun j u q => ?_, fun j k u w c q1 q2 q3 q4 => ?_⟩⟩, Stp.ofB hk⟩
  · rw [List.getElem?_set] at q1
    have hj : ¬ i = j := fun h => by rw [if_pos h] at q1; split at q1 <;> cases q1
    rw [if_neg hj] at q1
    exact S.new j u c q1 q2
  · rw [List.getElem?_set] at q
    by_cases hj : i = j
    · rw [if_pos hj] at q
      split at q
      · cases q
        exact ⟨.ref a, hj ▸ h1, rep⟩
      · cases q
    · rw [if_neg hj] at q
      obtain ⟨v, k1, k2⟩ := S.sim.val j u q
      exact ⟨v, k1, k2.mono Ext.refl hk⟩
  · rw [List.getElem?_set] at q
    have hj : ¬ i = j := fun h => by rw [if_pos h] at q; split at q <;> cases q
    rw [if_neg hj] at q
    obtain ⟨c, k1, k2, k3, k4⟩ := S.sim.own j u q
    refine ⟨c, k1, hB' c k2 fun z => ?_, k3, k4.mono hk⟩
    subst z
    exact hj (S.sim.apart i j d u c h q h1 k1)
  · rw [List.getElem?_set] at q1 q2
    have hj : ¬ i = j := fun h => by rw [if_pos h] at q1; split at q1 <;> cases q1
    have hk : ¬ i = k := fun h => by rw [if_pos h] at q2; split at q2 <;> cases q2
    rw [if_neg hj] at q1
    rw [if_neg hk] at q2
    exact S.sim.apart j k u w c q1 q2 q3 q4
/-- an own container is written -/
theorem StOk.writeOwn (S : StOk K b H g s σ ρ B) {i : Nat} {d e : PX.D} {o : HO} (h : s[i]? = some (.own d)) (hc : isCont e = true) {a : Addr} (h1 : σ[i]? = some (some (.ref a)))
    (hr : ∀ {H'}, Chg ρ B H H' → H' a = some o → ObjR K ρ B H' a (toPO e)) :
    StOk K b (upd H a o) g (s.set i (.own e)) σ ρ B ∧ Stp ρ B H ρ B (upd H a o) := by
  obtain ⟨a', k1, h2, h3, h4⟩ := S.sim.own i d h
  rw [h1] at k1
  cases k1
  obtain ⟨n1, n2⟩ := S.new i d a h h1
  obtain ⟨u, hu, hm⟩ : ∃ u, H a = some u ∧ ((∃ vs, u = .lst vs) ∨ ∃ kvs, u = .dK kvs) := by
    rcases h4.mut with ⟨vs, q⟩ | ⟨kvs, q⟩
    · exact ⟨_, q, .inl ⟨vs, rfl⟩⟩
    · exact ⟨_, q, .inr ⟨kvs, rfl⟩⟩
  have c : Chg ρ B H (upd H a o) := Chg.write (.inr h2) hu hm
  have ne : ∀ (j : Nat) w x, i ≠ j → s[j]? = some (.own w) → σ[j]? = some (some (.ref x)) → x ≠ a := fun j w x hj q1 q2 z => hj (S.sim.apart i j d w a h q1 h1 (z ▸ q2))
  refine ⟨⟨S.ext.new n2, S.sub, fun j w x q1 q2 => ?_, ⟨?_, by rw [List.length_set]; exact S.sim.len, fun j w q => ?_, fun j w q => ?_, fun j k w y x q1 q2 q3 q4 => ?_⟩⟩, Stp.ofChg c⟩
  · rw [List.getElem?_set] at q1
    by_cases hj : i = j
    · subst hj
      rw [h1] at q2
      cases q2
      exact ⟨n1, n2⟩
    · rw [if_neg hj] at q1
      exact S.new j w x q1 q2
  · refine ⟨S.sim.heap.len, S.sim.heap.nd, S.sim.heap.no, fun l x w q1 q2 => ?_, fun x hx => ?_⟩
    · have : x ≠ a := fun z => S.sim.heap.no x (List.mem_of_getElem? q1) (z ▸ h2)
      exact (S.sim.heap.obj l x w q1 q2).chg c fun y q => by rw [upd_ne this]; exact q
    · obtain ⟨w, q⟩ := S.sim.heap.tr x hx
      exact c.there x w q
  · rw [List.getElem?_set] at q
    by_cases hj : i = j
    · rw [if_pos hj] at q; split at q <;> cases q
    · rw [if_neg hj] at q
      obtain ⟨v, q1, q2⟩ := S.sim.val j w q
      exact ⟨v, q1, q2.chg c⟩
  · rw [List.getElem?_set] at q
    by_cases hj : i = j
    · rw [if_pos hj] at q
      split at q
      · cases q
        exact ⟨a, hj ▸ h1, h2, hc, hr c upd_same⟩
      · cases q
    · rw [if_neg hj] at q
      obtain ⟨x, q1, q2, q3, q4⟩ := S.sim.own j w q
      exact ⟨x, q1, q2, q3, q4.chg c fun y z => by rw [upd_ne (ne j w x hj q q1)]; exact z⟩
  · rw [List.getElem?_set] at q1 q2
    have get : ∀ {j : Nat} {w : PX.D}, (if i = j then if i < s.length then some (SV.own e) else none else s[j]?) = some (.own w) → ∃ w', s[j]? = some (.own w') := fun {j w} q => by
      by_cases hj : i = j
      · exact ⟨d, hj ▸ h⟩
      · rw [if_neg hj] at q; exact ⟨w, q⟩
    obtain ⟨w1, g1⟩ := get q1
    obtain ⟨w2, g2⟩ := get q2
    exact S.sim.apart j k w1 w2 x g1 g2 q3 q4
end
end PX
end
section
set_option Elab.async false
set_option linter.all false
set_option maxRecDepth 100000
set_option autoImplicit false
set_option maxHeartbeats 1000000
/-! PXp: the rules of statements. -/
namespace PX
open PySem L2 PySem.Spec PyProof.Rows
theorem setAll_get : ∀ {is : List Nat} {ds : List PX.D} {s : Sl} {j : Nat}, ds.length = is.length → j ∈ is → j < s.length → ∃ d, (setAll is ds s)[j]? = some (.val d)
  | [], _, _, _, _, h, _ => by simp at h
  | i :: is, [], _, _, h, _, _ => by simp at h
  | i :: is, d :: ds, s, j, hl, h, hj => by
    by_cases q : j ∈ is
    · exact setAll_get (s := s.set i (.val d)) (by simpa using hl) q (by rw [List.length_set]; exact hj)
    · have e : j = i := (List.mem_cons.mp h).resolve_right q
      subst e
      refine ⟨d, ?_⟩
      have : ∀ {is : List Nat} {ds : List PX.D} {s : Sl}, j ∉ is → (setAll is ds s)[j]? = s[j]? := by
        intro is
        induction is with
        | nil => intro ds s _; rfl
        | cons i is ih =>
          intro ds s hn
          cases ds with
          | nil => rfl
          | cons d ds =>
            have h1 : ¬ i = j := fun z => hn (by rw [z]; exact List.mem_cons_self)
            show (setAll is ds (s.set i (.val d)))[j]? = _
            rw [ih fun z => hn (List.mem_cons_of_mem _ z), List.getElem?_set, if_neg h1]
      show (setAll is ds (s.set j (.val d)))[j]? = _
      rw [this q, List.getElem?_set, if_pos rfl, if_pos hj]
theorem setAll_out : ∀ {is : List Nat} {ds : List PX.D} {s : Sl} {j : Nat}, j ∉ is → (setAll is ds s)[j]? = s[j]?
  | [], _, _, _, _ => rfl
  | i :: is, [], _, _, _ => rfl
  | i :: is, d :: ds, s, j, hn => by
    have h1 : ¬ i = j := fun z => hn (by rw [z]; exact List.mem_cons_self)
    show (setAll is ds (s.set i (.val d)))[j]? = _
    rw [setAll_out fun z => hn (List.mem_cons_of_mem _ z), List.getElem?_set, if_neg h1]
theorem setAll_length : ∀ {is : List Nat} {ds : List PX.D} {s : Sl}, (setAll is ds s).length = s.length
  | [], _, _ => rfl
  | i :: is, [], _ => rfl
  | i :: is, d :: ds, s => by
    show (setAll is ds (s.set i (.val d))).length = _
    rw [setAll_length, List.length_set]
theorem bindT_out {tg : Tg} {d : PX.D} {s s' : Sl} {j : Nat} (h : bindT tg d s = some s') (hj : j ∉ tg.slots) : s'[j]? = s[j]? := by
  cases tg with
  | one i =>
    cases h
    have : ¬ i = j := fun z => hj (by rw [z]; exact List.mem_singleton.mpr rfl)
    rw [List.getElem?_set, if_neg this]
  | tup is =>
    cases d with
    | tup ds =>
      have h : (if ds.length = is.length then some (setAll is ds s) else none) = some s' := h
      by_cases hl : ds.length = is.length
      · rw [if_pos hl] at h
        cases h
        exact setAll_out hj
      · rw [if_neg hl] at h; cases h
    | _ => cases h
theorem bindT_own {tg : Tg} {d u : PX.D} {s s' : Sl} {j : Nat} (h : bindT tg d s = some s') (hj : j ∈ tg.slots) (ho : s'[j]? = some (.own u)) : False := by
  cases tg with
  | one i =>
    cases h
    have e : j = i := List.mem_singleton.mp hj
    subst e
    rw [List.getElem?_set, if_pos rfl] at ho
    split at ho <;> cases ho
  | tup is =>
    cases d with
    | tup ds =>
      have h : (if ds.length = is.length then some (setAll is ds s) else none) = some s' := h
      by_cases hl : ds.length = is.length
      · rw [if_pos hl] at h
        cases h
        have hlt : j < s.length := by
          have := (List.getElem?_eq_some_iff.mp ho).1
          rwa [setAll_length] at this
        obtain ⟨d', e⟩ := setAll_get (s := s) hl hj hlt
        rw [e] at ho
        cases ho
      · rw [if_neg hl] at h; cases h
    | _ => cases h
section
variable {X : Cx} {C : Cfg} {ca : Nat → Addr} {W : WX} {b : Bs} {e c : Expr} {st : Stmt} {pos p p2 : Pos} {f fa : Sl → G → R PX.D} {fb fb2 : Sl → G → Fl} {i : Nat} {x : Str}
/-! ### sequences -/
theorem ss_nil : PSs X [] (tSt (fx C ca X W) b fun s g => .nx s g) := pss_nil.impX fun D σ H ⟨ρ, B, s, g, S, q⟩ => q.done S
theorem ss_cons {rest : List Stmt} (h1 : PS X st (tSt (fx C ca X W) b fb)) (h2 : PSs X rest (tSt (fx C ca X W) b fb2)) : PSs X (st :: rest) (tSt (fx C ca X W) b fun s g => (fb s g).bind fun s g => fb2 s g) := by
  refine (pss_cons h1 h2).impX fun D σ H ⟨ρ, B, s, g, S, q⟩ => ?_
  refine ⟨ρ, B, s, g, S, ?_⟩
  cases z : fb s g with
  | nx s1 g1 =>
    have q : OutSt (fx C ca X W) b ρ B H ((fb s g).bind fun s g => fb2 s g) D := q
    rw [z] at q
    exact fun σ1 H1 ρ1 B1 e1 S1 => ⟨ρ1, B1, s1, g1, S1, OutSt.later e1 q⟩
  | ret fr d g1 =>
    have q : OutSt (fx C ca X W) b ρ B H ((fb s g).bind fun s g => fb2 s g) D := q
    rw [z] at q; exact q
  | exc y s1 g1 =>
    have q : OutSt (fx C ca X W) b ρ B H ((fb s g).bind fun s g => fb2 s g) D := q
    rw [z] at q; exact q
  | bad =>
    have q : OutSt (fx C ca X W) b ρ B H ((fb s g).bind fun s g => fb2 s g) D := q
    rw [z] at q; exact q.elim
theorem ss_one (h1 : PS X st (tSt (fx C ca X W) b fb)) : PSs X [st] (tSt (fx C ca X W) b fb) := pss_one h1
theorem ss_frz {sts : List Stmt} (h : PSs X sts (tSt (fx C ca X W) b fb)) : PSs X sts (tSt (fx C ca X W) b fun s g => (match lookO s i with
    | some d => Fl.nx (s.set i (.val d)) g
    | none => .bad : Fl).bind fun s g => fb s g) := by
  refine h.impX fun D σ H ⟨ρ, B, s, g, S, q⟩ => ?_
  cases z : lookO s i with
  | none => simp only [z] at q; exact q.elim
  | some d =>
    simp only [z] at q
    obtain ⟨B', S', e⟩ := S.frz (lookO_some z)
    exact ⟨ρ, B', _, g, S', OutSt.later e q⟩
/-! ### stores -/
theorem s_set (hN : X.N.Nodup) (hi : X.N[i]? = some x) (hx : Loc X.env.scope x) (he : PE X e (tE (fx C ca X W) f)) (hs : swapsWith e (some (.Name x p)) pos.line X.env = pure false) (hf : X.fn x = true ∨ X.env.scope.names.lookup x = some .local) :
    PS X (.Assign [.Name x p] e pos) (tSt (fx C ca X W) b fun s g => lift s (f s g) fun d g => put1 .val i d s g) := by
  refine (ps_set hN hi hx he hs hf).impX fun D σ H ⟨ρ, B, s, g, S, q⟩ => ?_
  refine ⟨ρ, B, s, g, S.sim, OutSt.lift (R' := rRep X.K) S q fun d g1 v H1 ρ1 _ e1 S1 r1 q1 => ?_⟩
  exact q1 _ _ ρ1 B Stp.refl (S1.set r1)
theorem augD_add {x y z : D} (h : augD .add x y = some z) : ∃ i j, x = .int i ∧ y = .int j ∧ z = .int (i + j) := by
  cases x <;> cases y <;> first | (cases h; done) | skip
  cases h
  exact ⟨_, _, rfl, rfl, rfl⟩
theorem s_aug (hN : X.N.Nodup) (hi : X.N[i]? = some x) (hx : Loc X.env.scope x) (he : PE X e (tE (fx C ca X W) f)) (hf : X.fn x = true ∨ X.env.scope.names.lookup x = some .local) :
    PS X (.AugAssign (.Name x p) .Add e pos) (tSt (fx C ca X W) b fun s g => match look s i with
      | some x => lift s (f s g) fun y g => match augD .add x y with
        | some z => .nx (s.set i (.val z)) g
        | none => .bad
      | none => .bad) := by
  refine (ps_aug hN hi hx he ip_add hf).impX fun D σ H ⟨ρ, B, s, g, S, q⟩ => ?_
  cases k : look s i with
  | none => simp only [k] at q; exact q.elim
  | some x =>
    simp only [k] at q
    have k2 : s[i]? = some (.val x) := by
      unfold look at k
      split at k
      · cases k; assumption
      · cases k
    obtain ⟨v, k3, k4⟩ := S.sim.val i x k2
    refine ⟨v, k3, ρ, B, s, g, S.sim, OutSt.lift (R' := rRep X.K) S q fun y g1 u H1 ρ1 _ e1 S1 r1 q1 => ?_⟩
    cases m : augD .add x y with
    | none =>
      simp only [m] at q1; exact q1.elim
    | some z =>
      simp only [m] at q1
      obtain ⟨a, c, rfl, rfl, rfl⟩ := augD_add m
      cases k4
      cases r1
      exact ⟨a, c, rfl, rfl, q1 _ _ ρ1 B Stp.refl (S1.set (.int _))⟩
theorem own_imp {D : Ends} {σ : L2.St} {H : Hp} (q : tSt (fx C ca X W) b (fun s g => lift s (f s g) fun d g => put1 .own i d s g) D σ H) : tAsg (tF (fx C ca X W) f) (gName i) D σ H := by
  obtain ⟨ρ, B, s, g, S, q⟩ := q
  refine ⟨ρ, B, s, g, S.sim, OutSt.liftF S q fun d g1 a H1 ρ1 _ hc e1 n hf S1 o q1 => ?_⟩
  have q1 : OutSt (fx C ca X W) b ρ B H (if isCont d = true then .nx (s.set i (.own d)) g1 else .bad) D := q1
  rw [if_pos hc] at q1
  exact q1 _ _ ρ1 (a :: B) (stp_own e1 hf) (S.setOwn e1 hc n hf S1 o)
theorem hp_imp {D : Ends} {σ : L2.St} {H : Hp} (q : tSt (fx C ca X W) b (fun s g => lift s (f s g) fun d g => put1 .hp i d s g) D σ H) : tAsg (tF (fx C ca X W) f) (gName i) D σ H := by
  obtain ⟨ρ, B, s, g, S, q⟩ := q
  refine ⟨ρ, B, s, g, S.sim, OutSt.liftF S q fun d g1 a H1 ρ1 _ hc e1 n hf S1 o q1 => ?_⟩
  have q1 : OutSt (fx C ca X W) b ρ B H (if isCont d = true then .nx (s.set i (.val (.ref g1.length))) (g1 ++ [toPO d]) else .bad) D := q1
  rw [if_pos hc] at q1
  obtain ⟨h1, h2⟩ := S.setHp (i := i) e1 hc n hf S1 o
  exact q1 _ _ _ B h2 h1
theorem val_imp (hc : ∀ s g d g', f s g = .ok d g' → isCont d = true) {D : Ends} {σ : L2.St} {H : Hp} (q : tSt (fx C ca X W) b (fun s g => lift s (f s g) fun d g => put1 .val i d s g) D σ H) : tAsg (tF (fx C ca X W) f) (gName i) D σ H := by
  obtain ⟨ρ, B, s, g, S, q⟩ := q
  refine tF.toE (F := fx C ca X W) hc ⟨ρ, B, s, g, S.sim, OutSt.lift (R' := rRep X.K) S q fun d g1 v H1 ρ1 _ e1 S1 r1 q1 => ?_⟩
  exact q1 _ _ ρ1 B Stp.refl (S1.set r1)
/-- name = a new container (k: kept as a value, as the slot's own, as a place) -/
theorem s_setF (k : PX.K) (hN : X.N.Nodup) (hi : X.N[i]? = some x) (hx : Loc X.env.scope x) (he : PE X e (tF (fx C ca X W) f)) (hk : k = .val → ∀ s g d g', f s g = .ok d g' → isCont d = true) (hs : swapsWith e (some (.Name x p)) pos.line X.env = pure false) (hf : X.fn x = true ∨ X.env.scope.names.lookup x = some .local) :
    PS X (.Assign [.Name x p] e pos) (tSt (fx C ca X W) b fun s g => lift s (f s g) fun d g => put1 k i d s g) :=
  (ps_set hN hi hx he hs hf).impX fun D σ H q => by
    cases k with
    | val => exact val_imp (hk rfl) q
    | own => exact own_imp q
    | hp => exact hp_imp q
/-- a comprehension, stored on the way -/
theorem s_setL (k : PX.K) {lc : Expr} (h : PS X (.Assign [.Name x p] lc pos) (tAsg (tF (fx C ca X W) f) (gName i))) (hk : k = .val → ∀ s g d g', f s g = .ok d g' → isCont d = true) :
    PS X (.Assign [.Name x p] lc pos) (tSt (fx C ca X W) b fun s g => lift s (f s g) fun d g => put1 k i d s g) :=
  h.impX fun D σ H q => by
    cases k with
    | val => exact val_imp (hk rfl) q
    | own => exact own_imp q
    | hp => exact hp_imp q
/-! ### if, return -/
theorem s_if {a1 a2 : List Stmt} (hc : PT X c (tT (fx C ca X W) f)) (h1 : PSs X a1 (tSt (fx C ca X W) b fb)) (h2 : PSs X a2 (tSt (fx C ca X W) b fb2)) :
    PS X (.If c a1 a2 pos) (tSt (fx C ca X W) b fun s g => lift s (f s g) fun x g => if x = .bl true then fb s g else fb2 s g) := by
  refine (ps_if hc h1 h2).impX fun D σ H ⟨ρ, B, s, g, S, q⟩ => ?_
  refine ⟨ρ, B, s, g, S.sim, OutSt.lift (R' := rBool) S q fun d g1 k H1 ρ1 _ e1 S1 r1 q1 => ?_⟩
  have r1' : d = .bl k := r1
  subst r1'
  cases k with
  | true =>
    rw [if_pos rfl] at q1 ⊢
    exact ⟨ρ1, B, s, g1, S1, q1⟩
  | false =>
    rw [if_neg (by simp)] at q1 ⊢
    exact ⟨ρ1, B, s, g1, S1, q1⟩
theorem StOk.base {K : Fg} {H : Hp} {g : G} {s : Sl} {σ : L2.St} {ρ B : List Addr} (S : StOk K b H g s σ ρ B) : HeapOk K ρ b.B H g ∧ ∀ {v d}, Rep K ρ B H v d → Rep K ρ b.B H v d :=
  ⟨S.sim.heap.forbid (fun a _ n m => n (S.sub a m)) fun a m => S.sim.heap.tr a (S.sub a m), fun r => r.mono Ext.refl fun a _ n m => n (S.sub a m)⟩
theorem s_ret (he : PE X e (tE (fx C ca X W) f)) : PS X (.Return (some e) pos) (tSt (fx C ca X W) b fun s g => lift s (f s g) fun d g => .ret false d g) := by
  refine (ps_ret he).impX fun D σ H ⟨ρ, B, s, g, S, q⟩ => ?_
  refine ⟨ρ, B, s, g, S.sim, OutSt.lift (R' := rRep X.K) S q fun d g1 v H1 ρ1 _ e1 S1 r1 q1 => ?_⟩
  exact q1 v H1 ρ1 S1.ext S1.base.1 (S1.base.2 r1)
theorem s_retN : PS X (.Return none pos) (tSt (fx C ca X W) b fun _ g => .ret false .non g) := by
  refine ps_retN.impX fun D σ H ⟨ρ, B, s, g, S, q⟩ => ?_
  exact q .non H ρ S.ext S.base.1 .non
theorem own_base {K : Fg} {H : Hp} {g : G} {ρ B : List Addr} {a : Addr} {d : PX.D} (hh : HeapOk K ρ B H g) (ha : a ∈ B) (hs : ∀ c ∈ b.B, c ∈ B) (o : ObjR K ρ B H a (toPO d)) : HeapOk K ρ (a :: b.B) H g ∧ ObjR K ρ (a :: b.B) H a (toPO d) := by
  have k : ∀ c, (∃ o, H c = some o) → c ∉ B → c ∉ a :: b.B := fun c _ n m => by
    rcases List.mem_cons.mp m with z | z
    · exact n (z ▸ ha)
    · exact n (hs c z)
  refine ⟨hh.forbid k fun c m => ?_, o.mono k⟩
  rcases List.mem_cons.mp m with z | z
  · exact hh.tr c (z ▸ ha)
  · exact hh.tr c (hs c z)
theorem s_retO (hN : X.N[i]? = some x) (hv : Vis X.env.scope x) (hd : (x == ("__debug__" : Str)) = false) (hc : (x == ("__classdict__" : Str)) = false) :
    PS X (.Return (some (.Name x p)) pos) (tSt (fx C ca X W) b fun s g => match lookO s i with
      | some d => .ret true d g
      | none => .bad) := by
  refine (ps_ret (pe_var hN hv hd hc)).impX fun D σ H ⟨ρ, B, s, g, S, q⟩ => ?_
  cases z : lookO s i with
  | none => simp only [z] at q; exact q.elim
  | some d =>
    simp only [z] at q
    obtain ⟨a, h1, h2, h3, h4⟩ := S.sim.own i d (lookO_some z)
    obtain ⟨n1, n2⟩ := S.new i d a (lookO_some z) h1
    obtain ⟨k1, k2⟩ := own_base S.sim.heap h2 S.sub h4
    exact ⟨.ref a, h1, q h3 a H ρ S.ext n1 n2 k1 k2⟩
theorem s_retF (he : PE X e (tF (fx C ca X W) f)) : PS X (.Return (some e) pos) (tSt (fx C ca X W) b fun s g => lift s (f s g) fun d g => if isCont d then .ret true d g else .bad) := by
  refine (ps_ret he).impX fun D σ H ⟨ρ, B, s, g, S, q⟩ => ?_
  refine ⟨ρ, B, s, g, S.sim, OutSt.liftF S q fun d g1 a H1 ρ1 _ hc e1 n hf S1 o q1 => ?_⟩
  rw [if_pos hc] at q1
  obtain ⟨k1, k2⟩ := own_base (b := b) S1.heap List.mem_cons_self (fun c m => List.mem_cons_of_mem _ (S.sub c m)) o
  exact q1 hc a H1 ρ1 (S.ext.trans e1) (fun m => n (S.sub a m)) (S.ext.free hf) k1 k2
theorem s_expr (he : PE X e (tE (fx C ca X W) f)) (hs : swapsWith e none pos.line X.env = pure false) : PS X (.Expr e pos) (tSt (fx C ca X W) b fun s g => lift s (f s g) fun _ g => .nx s g) := by
  refine (ps_expr he hs).impX fun D σ H ⟨ρ, B, s, g, S, q⟩ => ?_
  refine ⟨ρ, B, s, g, S.sim, OutSt.lift (R' := rRep X.K) S q fun d g1 v H1 ρ1 _ e1 S1 r1 q1 => ?_⟩
  exact q1 σ H1 ρ1 B Stp.refl S1
/-! ### loops -/
theorem s_for {tgE iter : Expr} {body : List Stmt} {tg : Tg} (hp : PassesOwn (model X.prog X.w) X.A X.env X.xe) (hc : X.calm = true) (hi : PI X tgE iter (tS (fx C ca X W) f)) (hg : PG X tgE (gT X.K tg)) (hb : PSs X body (tSt (fx C ca X W) b fb))
    (hs : ∀ x, foldedSetIterable iter X.env x = pure x) : PS X (.For tgE iter body [] pos) (tSt (fx C ca X W) b fun s g => lift s (f s g) fun d g => match itemsOf d with
      | none => .bad
      | some xs => forL (fun x s g => match bindT tg x s with
        | none => .bad
        | some s => fb s g) xs s g) := by
  refine (ps_for hp hc hi hg hb hs).impX fun D σ H ⟨ρ, B, s, g, S, q⟩ => ?_
  refine ⟨ρ, B, s, g, S.sim, ?_⟩
  cases z : f s g with
  | bad => simp only [z] at q; exact q.elim
  | exc y g1 =>
    simp only [z] at q
    exact fun cls dx H1 ρ1 e1 S1 xr => q cls dx σ H1 ρ1 B (S.step e1 S1) xr
  | ok d g1 =>
    simp only [z] at q
    have q : OutSt (fx C ca X W) b ρ B H (match itemsOf d with
      | none => .bad
      | some xs => forL (fun x s g => match bindT tg x s with
        | none => .bad
        | some s => fb s g) xs s g1) D := q
    cases z2 : itemsOf d with
    | none => rw [z2] at q; exact q.elim
    | some ds =>
      simp only [z2] at q
      refine ⟨ds, z2, fun J P H1 ρ1 e1 S1 sa hp1 => ?_⟩
      generalize hbd : (fun x (s : Sl) (g : G) => match bindT tg x s with
        | none => Fl.bad
        | some s => fb s g) = body' at q
      have w : L2.Walk J ds.length (fun H => ∃ ρ B, P ρ B H) J.yld := ⟨fun i H hi ⟨ρ, B, h⟩ => sa.goes i hi h, fun H ⟨ρ, B, h⟩ => sa.stops h, fun _ _ _ _ _ _ y => y⟩
      refine for_it w (fun i σ' H' => ∃ s' g' ρ' B', StOk X.K b H' g' s' σ' ρ' B' ∧ P ρ' B' H' ∧ OutSt (fx C ca X W) b ρ' B' H' (forL body' (ds.drop i) s' g') D) ?_ ?_ ?_ ?_
      · exact ⟨s, g1, ρ1, B, S.step e1 S1, hp1, by rw [List.drop_zero]; exact OutSt.later (Stp.ofExt e1) q⟩
      · rintro i σ' H' hi ⟨s', g', ρ', B', _, h, _⟩
        exact ⟨_, _, h⟩
      · rintro i x σ' H' H'' hi ⟨s', g', ρ', B', S2, p2, q2⟩ y
        obtain ⟨hH, di, hdi, rx⟩ := sa.yields i x H'' hi p2 y
        have e3 : Ext ρ' H' ρ' H'' := by
          rcases hH with rfl | ⟨T, o, hT, rfl⟩
          · exact Ext.refl
          · exact Ext.laid hT
        have S3 : StOk X.K b H'' g' s' σ' ρ' B' := by
          refine S2.step e3 ?_
          rcases hH with rfl | ⟨T, o, hT, rfl⟩
          · exact S2.sim
          · exact S2.sim.laid hT
        have hdr : ds.drop i = di :: ds.drop (i + 1) := by
          have hlt : i < ds.length := hi
          rw [List.drop_eq_getElem_cons hlt]
          rw [List.getElem?_eq_getElem hlt] at hdi
          cases hdi
          rfl
        rw [hdr] at q2
        have q2 : OutSt (fx C ca X W) b ρ' B' H' ((body' di s' g').bind fun s g => forL body' (ds.drop (i + 1)) s g) D := q2
        rw [← hbd] at q2
        cases z3 : bindT tg di s' with
        | none => simp only [z3] at q2; exact q2.elim
        | some s2 =>
          simp only [z3] at q2
          refine ⟨ρ', B', g', s', di, s2, S3.sim, rx, z3, fun σ2 S4 o4 l4 => ?_⟩
          have S5 : StOk X.K b H'' g' s2 σ2 ρ' B' := ⟨S3.ext, S3.sub, fun j u c k1 k2 => ?_, S4⟩
          · refine ⟨ρ', B', s2, g', S5, ?_⟩
            have q3 := OutSt.later (Stp.ofExt (B := B') e3) q2
            cases z4 : fb s2 g' with
            | nx s3 g3 =>
              rw [z4] at q3
              rw [hbd] at q3
              exact fun σ3 H3 ρ3 B3 e4 S6 => ⟨s3, g3, ρ3, B3, S6, sa.stp (sa.ext p2 e3) e4, OutSt.later e4 q3⟩
            | ret fr d g3 => rw [z4] at q3; exact q3
            | exc y s3 g3 => rw [z4] at q3; exact q3
            | bad => rw [z4] at q3; exact q3.elim
          · have : j ∉ tg.slots := fun m => bindT_own z3 m k1
            have k3 : s'[j]? = some (.own u) := by rw [← bindT_out z3 this]; exact k1
            rw [o4 j this] at k2
            exact S3.new j u c k3 k2
      · rintro σ' H' ⟨s', g', ρ', B', S2, p2, q2⟩
        rw [List.drop_length] at q2
        exact q2.done S2
theorem s_while {body : List Stmt} {n : Nat} (hp : PassesOwn (model X.prog X.w) X.A X.env X.xe) (hc : PT X c (tT (fx C ca X W) f)) (hb : PSs X body (tSt (fx C ca X W) b fb)) :
    PS X (.While c body [] pos) (tSt (fx C ca X W) b fun s g => whileL (fun s g => f s g) (fun s g => fb s g) n s g) := by
  refine (ps_while hp hc hb).impX fun D σ H ⟨ρ, B, s, g, S, q⟩ => ?_
  refine ⟨fun m σ' H' => ∃ s' g' ρ' B', StOk X.K b H' g' s' σ' ρ' B' ∧ OutSt (fx C ca X W) b ρ' B' H' (whileL (fun s g => f s g) (fun s g => fb s g) m s' g') D, ⟨n, s, g, ρ, B, S, q⟩, ?_⟩
  rintro m σ' H' ⟨s', g', ρ', B', S', q'⟩
  cases m with
  | zero => exact q'.elim
  | succ m =>
    have q' : OutSt (fx C ca X W) b ρ' B' H' (lift s' (f s' g') fun x g => if x = .bl true then (fb s' g).bind fun s g => whileL (fun s g => f s g) (fun s g => fb s g) m s g else .nx s' g) D := q'
    refine ⟨ρ', B', s', g', S'.sim, OutSt.lift (R' := rBool) S' q' fun d g1 k H1 ρ1 _ e1 S1 r1 q1 => ?_⟩
    have r1' : d = .bl k := r1
    subst r1'
    cases k with
    | true =>
      rw [if_pos rfl] at q1 ⊢
      refine ⟨fun σ2 H2 => ∃ s' g' ρ' B', StOk X.K b H2 g' s' σ2 ρ' B' ∧ OutSt (fx C ca X W) b ρ' B' H2 (whileL (fun s g => f s g) (fun s g => fb s g) m s' g') D, fun σ2 H2 h => ⟨m, Nat.lt_succ_self m, h⟩, ?_⟩
      refine ⟨ρ1, B', s', g1, S1, ?_⟩
      cases z4 : fb s' g1 with
      | nx s3 g3 =>
        rw [z4] at q1
        exact fun σ3 H3 ρ3 B3 e4 S6 => ⟨s3, g3, ρ3, B3, S6, OutSt.later e4 q1⟩
      | ret fr d g3 => rw [z4] at q1; exact q1
      | exc y s3 g3 => rw [z4] at q1; exact q1
      | bad => rw [z4] at q1; exact q1.elim
    | false =>
      rw [if_neg (by simp)] at q1 ⊢
      exact q1.done S1
end
end PX
end
section
set_option Elab.async false
set_option linter.all false
set_option maxRecDepth 100000
set_option autoImplicit false
set_option maxHeartbeats 1000000
/-! PXq: stores within containers; several stores at once. -/
namespace PX
open PySem L2 PySem.Spec PyProof.Rows
section
variable {X : Cx} {C : Cfg} {ca : Nat → Addr} {W : WX} {b : Bs} {e c : Expr} {st : Stmt} {pos p p2 ap cp : Pos} {f fa fk : Sl → G → R PX.D} {fb fb2 : Sl → G → Fl} {i : Nat} {x : Str}
theorem set_self {σ : L2.St} {i : Nat} {v : Option V} (h : σ[i]? = some v) : σ.set i v = σ := by
  apply List.ext_getElem?
  intro j
  rw [List.getElem?_set]
  by_cases q : i = j
  · subst q
    rw [if_pos rfl]
    have hl := (List.getElem?_eq_some_iff.mp h).1
    rw [if_pos hl, h]
  · rw [if_neg q]
/-- found.append(e) -/
theorem s_app (hN : X.N[i]? = some x) (hv : Vis X.env.scope x) (hd : (x == ("__debug__" : Str)) = false) (hcd : (x == ("__classdict__" : Str)) = false) (he : PE X e (tE (fx C ca X W) f)) (na : starEach [e] X.env = (false, eval e X.env) :: starEach [] X.env)
    (hline : (ap.endLine == cp.line) = true) : PS X (.Expr (.Call (.Attribute (.Name x p) "append" ap) [e] [] cp) pos) (tSt (fx C ca X W) b fun s g => match lookO s i with
      | some (.lst xs) => lift s (f s g) fun d g => if xs.length < LIM then .nx (s.set i (.own (.lst (xs ++ [d])))) g else .bad
      | _ => .bad) := by
  refine (ps_expr (pe_bm PySem.F.plainAttrs_list PySem.F.slot_list_append PySem.F.type_list_append mt_append (pe_var hN hv hd hcd) (pa_cons he pa_nil na) rfl (by rw [na]; rfl) hline na rfl) rfl).impX fun D σ H ⟨ρ, B, s, g, S, q⟩ => ?_
  dsimp only at q
  split at q
  · rename_i xs z
    obtain ⟨a, h1, h2, h3, h4⟩ := S.sim.own i _ (lookO_some z)
    have h4' : ∃ vs, H a = some (.lst vs) ∧ RepL X.K ρ B H vs xs := h4
    obtain ⟨vs, k1, k2⟩ := h4'
    refine ⟨.ref a, h1, .inl ⟨rfl, vs, .inl (.inl k1)⟩, ?_⟩
    refine ⟨ρ, B, s, g, S.sim, OutSt.lift (R' := rRep X.K) S q fun d g1 v H1 ρ1 _ e1 S1 r1 q1 => ?_⟩
    have k3 : H1 a = some (.lst vs) := e1.keep a _ k1 fun m => S.sim.heap.no a m h2
    by_cases hl : xs.length < LIM
    · rw [if_pos hl] at q1
      refine ⟨a, vs, v, rfl, rfl, k3, ?_, ?_⟩
      · rw [k2.length]
        have := lim_line (Nat.le_refl LIM)
        exact Nat.lt_of_lt_of_le hl this
      · have ra : RepL X.K ρ1 B H1 (vs ++ [v]) (xs ++ [d]) := (k2.ext e1).append (.cons r1 .nil)
        obtain ⟨h5, h6⟩ := S1.writeOwn (e := .lst (xs ++ [d])) (o := .lst (vs ++ [v])) (lookO_some z) rfl h1 fun c q => ⟨_, q, ra.chg c⟩
        exact q1 σ _ ρ1 B h6 h5
    · rw [if_neg hl] at q1; exact q1.elim
  · exact q.elim
/-- known += a new list -/
theorem s_ext (hN : X.N.Nodup) (hi : X.N[i]? = some x) (hx : Loc X.env.scope x) (he : PE X e (tF (fx C ca X W) f)) (hf : X.fn x = true ∨ X.env.scope.names.lookup x = some .local) :
    PS X (.AugAssign (.Name x p) .Add e pos) (tSt (fx C ca X W) b fun s g => match lookO s i with
      | some (.lst xs) => lift s (f s g) fun d g => match d with
        | .lst ys => if xs.length + ys.length ≤ LIM then .nx (s.set i (.own (.lst (xs ++ ys)))) g else .bad
        | _ => .bad
      | _ => .bad) := by
  refine (ps_aug hN hi hx he iop_ext hf).impX fun D σ H ⟨ρ, B, s, g, S, q⟩ => ?_
  dsimp only at q
  split at q
  · rename_i xs z
    obtain ⟨a, h1, h2, h3, h4⟩ := S.sim.own i _ (lookO_some z)
    have h4' : ∃ vs, H a = some (.lst vs) ∧ RepL X.K ρ B H vs xs := h4
    obtain ⟨vs, k1, k2⟩ := h4'
    refine ⟨.ref a, h1, ?_⟩
    refine ⟨ρ, B, s, g, S.sim, OutSt.liftF S q fun d g1 l H1 ρ1 _ hc e1 n hf S1 o q1 => ?_⟩
    have k3 : H1 a = some (.lst vs) := e1.keep a _ k1 fun m => S.sim.heap.no a m h2
    cases d with
    | lst ys =>
      have o' : ∃ ws, H1 l = some (.lst ws) ∧ RepL X.K ρ1 (l :: B) H1 ws ys := o
      obtain ⟨ws, k4, k5⟩ := o'
      have S2 : Sim X.K ρ1 B H1 g1 s σ := S1.less (fun c m => List.mem_cons_of_mem _ m) fun j u c q1 q2 => by
        obtain ⟨c', w1, w2, _⟩ := S.sim.own j u q1
        rw [q2] at w1
        cases w1
        exact w2
      have k6 : RepL X.K ρ1 B H1 ws ys := k5.mono Ext.refl fun c _ n m => n (List.mem_cons_of_mem _ m)
      have q1 : OutSt (fx C ca X W) b ρ B H (if xs.length + ys.length ≤ LIM then .nx (s.set i (.own (.lst (xs ++ ys)))) g1 else .bad) D := q1
      by_cases hl : xs.length + ys.length ≤ LIM
      · rw [if_pos hl] at q1
        refine ⟨a, l, vs, ws, rfl, rfl, k3, k4, by rw [k2.length, k6.length]; exact lim_line hl, ?_⟩
        have ra : RepL X.K ρ1 B H1 (vs ++ ws) (xs ++ ys) := (k2.ext e1).append k6
        obtain ⟨h5, h6⟩ := (S.step e1 S2).writeOwn (e := .lst (xs ++ ys)) (o := .lst (vs ++ ws)) (lookO_some z) rfl h1 fun c q => ⟨_, q, ra.chg c⟩
        show D.nx (σ.set i (some (.ref a))) _
        rw [set_self h1]
        exact q1 σ _ ρ1 B ((Stp.ofExt e1).trans h6) h5
      · rw [if_neg hl] at q1; exact q1.elim
    | _ => exact q1.elim
  · exact q.elim
end
section
variable {K : Fg} {b : Bs} {ρ ρ' ρ1 B B' B1 : List Addr} {H H' H1 : Hp} {g g' : G} {s : Sl} {σ : L2.St}
/-- a place is written -/
theorem StOk.writePlace (S : StOk K b H g s σ ρ B) {l : Nat} {a : Addr} {o : HO} {po : PO} (hl : ρ[l]? = some a) (hr : ∀ {H'}, Chg ρ B H H' → H' a = some o → ObjR K ρ B H' a po) :
    StOk K b (upd H a o) (g.set l po) s σ ρ B ∧ Stp ρ B H ρ B (upd H a o) := by
  have ha : a ∈ ρ := List.mem_of_getElem? hl
  obtain ⟨u, hu, hm⟩ : ∃ u, H a = some u ∧ ((∃ vs, u = .lst vs) ∨ ∃ kvs, u = .dK kvs) := by
    rcases S.sim.heap.mut ha with ⟨vs, q⟩ | ⟨kvs, q⟩
    · exact ⟨_, q, .inl ⟨vs, rfl⟩⟩
    · exact ⟨_, q, .inr ⟨kvs, rfl⟩⟩
  have c : Chg ρ B H (upd H a o) := Chg.write (.inl ha) hu hm
  have e : Ext b.ρ b.H ρ (upd H a o) := by
    obtain ⟨n, e1, h1⟩ := S.ext.pre
    refine ⟨⟨n, e1, h1⟩, fun x w q hn => ?_, fun x w q => ?_, fun x xs q => c.tup x xs (S.ext.tup x xs q), fun x w u q => c.frz x w u (S.ext.frz x w u q)⟩
    · have hx : x ≠ a := fun z => by
        subst z
        rw [e1] at ha
        rcases List.mem_append.mp ha with z | z
        · exact hn z
        · rw [h1 x z] at q; cases q
      rw [upd_ne hx]
      exact S.ext.keep x w q hn
    · obtain ⟨w', q'⟩ := S.ext.there x w q
      exact c.there x w' q'
  refine ⟨⟨e, S.sub, S.new, ⟨⟨by rw [List.length_set]; exact S.sim.heap.len, S.sim.heap.nd, S.sim.heap.no, fun k x w q1 q2 => ?_, fun x hx => ?_⟩, S.sim.len, fun j w q => ?_, fun j w q => ?_, S.sim.apart⟩⟩, Stp.ofChg c⟩
  · rw [List.getElem?_set] at q2
    by_cases hk : l = k
    · subst hk
      rw [if_pos rfl] at q2
      rw [hl] at q1
      cases q1
      split at q2
      · cases q2
        exact hr c upd_same
      · cases q2
    · rw [if_neg hk] at q2
      have hx : x ≠ a := fun z => hk ((List.getElem?_inj (List.getElem?_eq_some_iff.mp hl).1 S.sim.heap.nd).mp (by rw [hl, q1, z]))
      exact (S.sim.heap.obj k x w q1 q2).chg c fun y q => by rw [upd_ne hx]; exact q
  · obtain ⟨w, q⟩ := S.sim.heap.tr x hx
    exact c.there x w q
  · obtain ⟨v, q1, q2⟩ := S.sim.val j w q
    exact ⟨v, q1, q2.chg c⟩
  · obtain ⟨x, q1, q2, q3, q4⟩ := S.sim.own j w q
    have hx : x ≠ a := fun z => S.sim.heap.no a ha (z ▸ q2)
    exact ⟨x, q1, q2, q3, q4.chg c fun y q => by rw [upd_ne hx]; exact q⟩
theorem ixOf_N {n : Nat} {i : Int} {j : Nat} (q : ixOf n i = some j) : ixN n i = some j := by
  unfold ixOf at q
  unfold ixN
  by_cases h0 : 0 ≤ i
  · rw [if_pos h0] at q ⊢; exact q
  · rw [if_neg h0] at q ⊢
    by_cases h1 : 0 ≤ i + (n : Int)
    · rw [if_pos h1] at q
      rw [if_pos (by omega)]; exact q
    · rw [if_neg h1] at q; cases q
end
section
variable {X : Cx} {C : Cfg} {ca : Nat → Addr} {W : WX} {b : Bs} {e o k : Expr} {pos p p2 ap cp : Pos} {f fo fk : Sl → G → R PX.D} {i : Nat} {x : Str}
/-- o[k] = e, o at a place, a list -/
theorem s_putR (ho : PE X o (tE (fx C ca X W) fo)) (hk : PE X k (tE (fx C ca X W) fk)) (he : PE X e (tE (fx C ca X W) f)) (hs : swapsWithSole [.Subscript o k p] e pos.line X.env = pure false) (hw : swappedStores [.Subscript o k p] e X.env = pure none)
    (ha : ∀ v, assign (.Subscript o k p) X.env v = (do
      let ov ← holding [v] (eval o X.env)
      let iv ← holding [v, ov] (eval k X.env)
      standAt p
      holding [v, ov, iv] (setItem ov iv v)
      release [v, ov, iv] [])) : PS X (.Assign [.Subscript o k p] e pos) (tSt (fx C ca X W) b fun s g => lift s (f s g) fun d g => lift s (fo s g) fun od g => lift s (fk s g) fun kd g => match od with
      | .ref l => match (deref g (.ref l)).bind fun c => store c kd d with
        | some (.lst xs) => .nx s (g.set l (.lst xs))
        | _ => .bad
      | _ => .bad) := by
  refine (ps_asg he (pg_sub ho hk set_list ha) hs hw rfl).impX fun D σ H ⟨ρ, B, s, g, S, q⟩ => ?_
  refine ⟨ρ, B, s, g, S.sim, OutSt.lift (R' := rRep X.K) S q fun d g1 v H1 ρ1 _ e1 S1 r1 q1 => ?_⟩
  refine ⟨ρ1, B, s, g1, S1.sim, OutSt.lift (R' := rRep X.K) S1 q1 fun od g2 ov H2 ρ2 _ e2 S2 r2 q2 => ?_⟩
  refine ⟨ρ2, B, s, g2, S2.sim, OutSt.lift (R' := rRep X.K) S2 q2 fun kd g3 kv H3 ρ3 _ e3 S3 r3 q3 => ?_⟩
  cases od with
  | ref l =>
    have q3 : OutSt (fx C ca X W) b ρ3 B H3 (match (deref g3 (.ref l)).bind fun c => store c kd d with
      | some (.lst xs) => .nx s (g3.set l (.lst xs))
      | _ => .bad) D := q3
    cases z1 : deref g3 (.ref l) with
    | none => rw [z1] at q3; exact q3.elim
    | some c =>
      rw [z1] at q3
      have q3 : OutSt (fx C ca X W) b ρ3 B H3 (match store c kd d with
        | some (.lst xs) => .nx s (g3.set l (.lst xs))
        | _ => .bad) D := q3
      have r2 := r2.ext e3
      cases r2 with
      | ref hl =>
        rcases deref_ref z1 with ⟨ys, h1, rfl⟩ | ⟨kvs, h1, rfl⟩
        · have hob : ∃ vs, H3 _ = some (.lst vs) ∧ RepL X.K ρ3 B H3 vs ys := S3.sim.heap.obj _ _ _ hl h1
          obtain ⟨vs, k1, k2⟩ := hob
          cases kd with
          | int n =>
            cases z2 : ixOf ys.length n with
            | none =>
              have z3 : store (.lst ys) (.int n) d = none := by
                show (ixOf ys.length n).map _ = none
                rw [z2]; rfl
              rw [z3] at q3; exact q3.elim
            | some j =>
              have z3 : store (.lst ys) (.int n) d = some (.lst (ys.set j d)) := by
                show (ixOf ys.length n).map _ = _
                rw [z2]; rfl
              rw [z3] at q3
              cases r3
              refine ⟨_, vs, n, j, rfl, rfl, k1, by rw [k2.length]; exact ixOf_N z2, ?_⟩
              obtain ⟨h5, h6⟩ := S3.writePlace (o := .lst (vs.set j v)) (po := .lst (ys.set j d)) hl fun c q => ⟨_, q, (RepL.set j (r1.ext (e2.trans e3)) k2).chg c⟩
              exact q3 σ _ ρ3 B h6 h5
          | _ => exact q3.elim
        · have z3 : store (.dic kvs) kd d = none ∨ ∃ w, store (.dic kvs) kd d = some (.dic w) := by
            by_cases hl : kvs.length < LIM
            · exact .inr ⟨dput kvs kd d, by simp [store, hl]⟩
            · exact .inl (by simp [store, hl])
          rcases z3 with z3 | ⟨w, z3⟩
          · rw [z3] at q3; exact q3.elim
          · rw [z3] at q3; exact q3.elim
  | _ => exact q3.elim
end
/-! ### several at once -/
section
variable {K : Fg} {b : Bs} {ρ ρ' ρ1 B B' B1 : List Addr} {H H' H1 : Hp} {g g' : G} {s : Sl} {σ : L2.St}
/-- values, some of them new containers (at as) -/
inductive ParR (K : Fg) (ρ B : List Addr) (H : Hp) : List V → List D → List PX.K → List Addr → Prop
  | nil : ParR K ρ B H [] [] [] []
  | val {v : V} {vs : List V} {d : D} {ds : List D} {ks : List PX.K} {as : List Addr} : Rep K ρ B H v d → ParR K ρ B H vs ds ks as → ParR K ρ B H (v :: vs) (d :: ds) (.val :: ks) as
  | own {a : Addr} {vs : List V} {d : D} {ds : List D} {ks : List PX.K} {as : List Addr} : isCont d = true → ObjR K ρ B H a (toPO d) → ParR K ρ B H vs ds ks as → ParR K ρ B H (.ref a :: vs) (d :: ds) (.own :: ks) (a :: as)
theorem ParR.length : ∀ {vs : List V} {ds : List D} {ks : List PX.K} {as : List Addr}, ParR K ρ B H vs ds ks as → vs.length = ks.length
  | _, _, _, _, .nil => rfl
  | _, _, _, _, .val _ r => by simp [ParR.length r]
  | _, _, _, _, .own _ _ r => by simp [ParR.length r]
def OutP (F : Fix) (ks : List PX.K) (σ : L2.St) (s : Sl) (B ρ : List Addr) (H : Hp) (r : R (List D)) (Q : List V → Hp → Prop) : Prop :=
  match r with
  | .ok ds g => ∀ vs H' ρ' B' as, Ext ρ H ρ' H' → (∀ c, c ∈ B' ↔ c ∈ as ∨ c ∈ B) → as.Nodup → (∀ c ∈ as, c ∉ B ∧ H c = none) → Sim F.K ρ' B' H' g s σ → ParR F.K ρ' B' H' vs ds ks as → Q vs H'
  | .exc x g => ∀ cls dx H' ρ' B', Ext ρ H ρ' H' → (∀ c ∈ B, c ∈ B') → (∀ c, (∃ o, H c = some o) → c ∉ B → c ∉ B') → Sim F.K ρ' B' H' g s σ → XRep F.C F.ca F.K x cls dx H' → F.W cls dx σ H'
  | .bad => False
def tP (F : Fix) (ks : List PX.K) (f : Sl → G → R (List D)) : TA := fun σ H Q => ∃ ρ B s g, Sim F.K ρ B H g s σ ∧ OutP F ks σ s B ρ H (f s g) Q
/-- a slot takes a forbidden container -/
theorem StOk.own1 (S : StOk K b H g s σ ρ B) {i : Nat} {d : D} {a : Addr} (hc : isCont d = true) (ha : a ∈ B) (n1 : a ∉ b.B) (n2 : b.H a = none) (no : ∀ (j : Nat) d, s[j]? = some (.own d) → σ[j]? ≠ some (some (.ref a))) (o : ObjR K ρ B H a (toPO d)) :
    StOk K b H g (s.set i (.own d)) (σ.set i (some (.ref a))) ρ B := by
  refine ⟨S.ext, S.sub, fun j u c q1 q2 => ?_, ⟨S.sim.heap, by rw [List.length_set, List.length_set]; exact S.sim.len, fun j u q => ?_, fun j u q => ?_, fun j k u w c q1 q2 q3 q4 => ?_⟩⟩
  · rw [List.getElem?_set] at q1 q2
    by_cases h : i = j
    · rw [if_pos h] at q2
      split at q2
      · cases q2; exact ⟨n1, n2⟩
      · cases q2
    · rw [if_neg h] at q1 q2
      exact S.new j u c q1 q2
  · rw [List.getElem?_set] at q ⊢
    by_cases h : i = j
    · rw [if_pos h] at q; split at q <;> cases q
    · rw [if_neg h] at q ⊢
      exact S.sim.val j u q
  · rw [List.getElem?_set] at q ⊢
    by_cases h : i = j
    · rw [if_pos h] at q ⊢
      by_cases hl : i < s.length
      · rw [if_pos hl] at q
        rw [if_pos (by rw [← S.sim.len]; exact hl)]
        cases q
        exact ⟨a, rfl, ha, hc, o⟩
      · rw [if_neg hl] at q; cases q
    · rw [if_neg h] at q ⊢
      exact S.sim.own j u q
  · rw [List.getElem?_set] at q1 q2 q3 q4
    by_cases h1 : i = j
    · by_cases h2 : i = k
      · rw [← h1, ← h2]
      · rw [if_neg h2] at q2 q4
        rw [if_pos h1] at q3
        split at q3
        · cases q3
          exact (no k w q2 q4).elim
        · cases q3
    · rw [if_neg h1] at q1 q3
      by_cases h2 : i = k
      · rw [if_pos h2] at q4
        split at q4
        · cases q4
          exact (no j u q1 q3).elim
        · cases q4
      · rw [if_neg h2] at q2 q4
        exact S.sim.apart j k u w c q1 q2 q3 q4
def setVs : List Nat → List V → L2.St → L2.St
  | i :: is, v :: vs, σ => setVs is vs (σ.set i (some v))
  | _, _, σ => σ
theorem par_put : ∀ {vs : List V} {ds : List D} {ks : List PX.K} {as : List Addr} {is : List Nat} {s : Sl} {σ : L2.St} {s' : Sl} {g' : G}, ParR K ρ B H vs ds ks as → StOk K b H g s σ ρ B → as.Nodup → (∀ a ∈ as, a ∈ B ∧ a ∉ b.B ∧ b.H a = none ∧ ∀ (j : Nat) d, s[j]? = some (.own d) → σ[j]? ≠ some (some (.ref a))) →
    is.length = ks.length → putAll (is.zip ks) ds s g = .nx s' g' → g' = g ∧ StOk K b H g s' (setVs is vs σ) ρ B
  | _, _, _, _, [], s, σ, s', g', .nil, S, _, _, _, e => by
    cases e
    exact ⟨rfl, S⟩
  | _, _, _, _, i :: is, s, σ, s', g', .val (v := v) (vs := vs) (d := d) r t, S, nd, hf, hl, e => by
    have z := par_put (vs := vs) (is := is) (s := s.set i (.val d)) (σ := σ.set i (some v)) (s' := s') (g' := g') t (S.set r) nd (fun a m => by
      obtain ⟨h1, h2, h3, h4⟩ := hf a m
      refine ⟨h1, h2, h3, fun j d q1 q2 => ?_⟩
      rw [List.getElem?_set] at q1 q2
      have h : ¬ i = j := fun h => by rw [if_pos h] at q1; split at q1 <;> cases q1
      rw [if_neg h] at q1 q2
      exact h4 j d q1 q2) (by simpa using hl) e
    exact z
  | _, _, _, _, i :: is, s, σ, s', g', .own (a := a) (vs := vs) (d := d) hc o t, S, nd, hf, hl, e => by
    obtain ⟨h1, h2, h3, h4⟩ := hf a List.mem_cons_self
    have nd' := List.nodup_cons.mp nd
    have e' : (if isCont d = true then Fl.nx (s.set i (.own d)) g else .bad).bind (fun s g => putAll (is.zip _) _ s g) = .nx s' g' := e
    rw [if_pos hc] at e'
    have z := par_put (vs := vs) (is := is) (s := s.set i (.own d)) (σ := σ.set i (some (.ref a))) (s' := s') (g' := g') t (S.own1 hc h1 h2 h3 h4 o) nd'.2 (fun c m => by
      obtain ⟨k1, k2, k3, k4⟩ := hf c (List.mem_cons_of_mem _ m)
      refine ⟨k1, k2, k3, fun j u q1 q2 => ?_⟩
      rw [List.getElem?_set] at q1 q2
      by_cases h : i = j
      · rw [if_pos h] at q2
        split at q2
        · cases q2; exact nd'.1 m
        · cases q2
      · rw [if_neg h] at q1 q2
        exact k4 j u q1 q2) (by simpa using hl) e'
    exact z
  | _, _, _, _, [], _, _, _, _, .val _ _, _, _, _, hl, _ => by simp at hl
  | _, _, _, _, [], _, _, _, _, .own _ _ _, _, _, _, hl, _ => by simp at hl
  | _, _, _, _, _ :: _, _, _, _, _, .nil, _, _, _, hl, _ => by simp at hl
end
section
variable {X : Cx} {C : Cfg} {ca : Nat → Addr} {W : WX} {b : Bs} {e : Expr} {es : List Expr} {pos : Pos} {f : Sl → G → R D} {fs : Sl → G → R (List D)} {ks : List PX.K}
theorem p_nil : PA X [] (tP (fx C ca X W) [] fun _ g => .ok [] g) := pa_nil.impX fun σ H Q ⟨ρ, B, s, g, S, q⟩ => q [] H ρ B [] Ext.refl (by simp) List.nodup_nil (by simp) S .nil
theorem p_val (he : PE X e (tE (fx C ca X W) f)) (hr : PA X es (tP (fx C ca X W) ks fs)) (hs : starEach (e :: es) X.env = (false, eval e X.env) :: starEach es X.env) :
    PA X (e :: es) (tP (fx C ca X W) (.val :: ks) fun s g => (f s g).bind fun d g => (fs s g).bind fun ds g => .ok (d :: ds) g) := by
  refine (pa_cons he hr hs).impX fun σ H Q ⟨ρ, B, s, g, S, q⟩ => ?_
  have q : OutP (fx C ca X W) (.val :: ks) σ s B ρ H ((f s g).bind fun d g => (fs s g).bind fun ds g => .ok (d :: ds) g) Q := q
  refine ⟨ρ, B, s, g, S, ?_⟩
  cases z : f s g with
  | bad => rw [z] at q; exact q.elim
  | exc y g1 => rw [z] at q; exact fun cls dx H1 ρ1 e1 S1 xr => q cls dx H1 ρ1 B e1 (fun _ m => m) (fun _ _ n => n) S1 xr
  | ok d g1 =>
    rw [z] at q
    have q : OutP (fx C ca X W) (.val :: ks) σ s B ρ H ((fs s g1).bind fun ds g => .ok (d :: ds) g) Q := q
    intro v H1 ρ1 e1 S1 r1
    refine ⟨ρ1, B, s, g1, S1, ?_⟩
    cases z2 : fs s g1 with
    | bad => rw [z2] at q; exact q.elim
    | exc y g2 => rw [z2] at q; exact fun cls dx H2 ρ2 B2 e2 k1 k2 S2 xr => q cls dx H2 ρ2 B2 (e1.trans e2) k1 (fun c t n => k2 c (t.elim fun o t => e1.there c o t) n) S2 xr
    | ok ds g2 =>
      rw [z2] at q
      intro vs H2 ρ2 B2 as e2 k1 k2 k3 S2 pr
      refine q (v :: vs) H2 ρ2 B2 as (e1.trans e2) k1 k2 (fun c m => ⟨(k3 c m).1, e1.free (k3 c m).2⟩) S2 (.val ?_ pr)
      exact r1.mono e2 fun c ⟨o, t⟩ n m => by
        rcases (k1 c).mp m with m | m
        · rw [(k3 c m).2] at t; cases t
        · exact n m
theorem p_own (he : PE X e (tF (fx C ca X W) f)) (hk : ∀ s g d g', f s g = .ok d g' → isCont d = true) (hr : PA X es (tP (fx C ca X W) ks fs)) (hs : starEach (e :: es) X.env = (false, eval e X.env) :: starEach es X.env) :
    PA X (e :: es) (tP (fx C ca X W) (.own :: ks) fun s g => (f s g).bind fun d g => (fs s g).bind fun ds g => .ok (d :: ds) g) := by
  refine (pa_cons he hr hs).impX fun σ H Q ⟨ρ, B, s, g, S, q⟩ => ?_
  have q : OutP (fx C ca X W) (.own :: ks) σ s B ρ H ((f s g).bind fun d g => (fs s g).bind fun ds g => .ok (d :: ds) g) Q := q
  refine ⟨ρ, B, s, g, S, ?_⟩
  cases z : f s g with
  | bad => rw [z] at q; exact q.elim
  | exc y g1 => rw [z] at q; exact fun cls dx H1 ρ1 e1 S1 xr => q cls dx H1 ρ1 B e1 (fun _ m => m) (fun _ _ n => n) S1 xr
  | ok d g1 =>
    rw [z] at q
    have q : OutP (fx C ca X W) (.own :: ks) σ s B ρ H ((fs s g1).bind fun ds g => .ok (d :: ds) g) Q := q
    intro hc a H1 ρ1 e1 n hf S1 o
    refine ⟨ρ1, a :: B, s, g1, S1, ?_⟩
    cases z2 : fs s g1 with
    | bad => rw [z2] at q; exact q.elim
    | exc y g2 =>
      rw [z2] at q
      refine fun cls dx H2 ρ2 B2 e2 k1 k2 S2 xr => q cls dx H2 ρ2 B2 (e1.trans e2) (fun c m => k1 c (List.mem_cons_of_mem _ m)) (fun c ⟨o, t⟩ n => k2 c (e1.there c o t) fun m => ?_) S2 xr
      rcases List.mem_cons.mp m with m | m
      · rw [m, hf] at t; cases t
      · exact n m
    | ok ds g2 =>
      rw [z2] at q
      intro vs H2 ρ2 B2 as e2 k1 k2 k3 S2 pr
      refine q (.ref a :: vs) H2 ρ2 B2 (a :: as) (e1.trans e2) (fun c => ?_) (List.nodup_cons.mpr ⟨fun m => (k3 a m).1 List.mem_cons_self, k2⟩) (fun c m => ?_) S2 (.own hc ?_ pr)
      · rw [k1 c, List.mem_cons, List.mem_cons]
        constructor
        · rintro (h | h | h)
          · exact .inl (.inr h)
          · exact .inl (.inl h)
          · exact .inr h
        · rintro ((h | h) | h)
          · exact .inr (.inl h)
          · exact .inl h
          · exact .inr (.inr h)
      · rcases List.mem_cons.mp m with m | m
        · rw [m]; exact ⟨n, hf⟩
        · exact ⟨fun z => (k3 c m).1 (List.mem_cons_of_mem _ z), e1.free (k3 c m).2⟩
      · exact (o.mono fun c ⟨u, t⟩ n m => by
          rcases (k1 c).mp m with m | m
          · rw [e1.free (k3 c m).2 |> fun _ => (k3 c m).2] at t; cases t
          · exact n m).ext e2 fun m => S1.heap.no a m List.mem_cons_self
theorem putAll_nx : ∀ {ts : List (Nat × PX.K)} {ds : List D} {s : Sl} {g : G} {r : Fl}, putAll ts ds s g = r → match r with
    | .ret _ _ _ => False
    | .exc _ _ _ => False
    | _ => True
  | [], [], s, g, r, e => by subst e; exact trivial
  | [], _ :: _, s, g, r, e => by subst e; exact trivial
  | _ :: _, [], s, g, r, e => by subst e; exact trivial
  | (i, k) :: ts, d :: ds, s, g, r, e => by
    have e : (put1 k i d s g).bind (fun s g => putAll ts ds s g) = r := e
    cases k with
    | val => exact putAll_nx (s := s.set i (.val d)) (g := g) e
    | own =>
      by_cases h : isCont d = true
      · have : put1 .own i d s g = .nx (s.set i (.own d)) g := by simp [put1, h]
        rw [this] at e
        exact putAll_nx (s := s.set i (.own d)) (g := g) e
      · have : put1 .own i d s g = .bad := by simp [put1, h]
        rw [this] at e
        subst e; exact trivial
    | hp =>
      by_cases h : isCont d = true
      · have : put1 .hp i d s g = .nx (s.set i (.val (.ref g.length))) (g ++ [toPO d]) := by simp [put1, h]
        rw [this] at e
        exact putAll_nx (s := s.set i (.val (.ref g.length))) (g := g ++ [toPO d]) e
      · have : put1 .hp i d s g = .bad := by simp [put1, h]
        rw [this] at e
        subst e; exact trivial
/-- what the stores do -/
theorem par_imp {is : List Nat} {R : List V → L2.St → Hp → Prop} {D : Ends} {σ : L2.St} {H : Hp} (hl : is.length = ks.length) (hR : ∀ vs H, D.nx (setVs is vs σ) H → vs.length = is.length → R vs σ H)
    (q : tSt (fx C ca X W) b (fun s g => lift s (fs s g) fun ds g => putAll (is.zip ks) ds s g) D σ H) : tP (fx C ca X W) ks fs σ H fun vs H1 => R vs σ H1 := by
  obtain ⟨ρ, B, s, g, S, q⟩ := q
  refine ⟨ρ, B, s, g, S.sim, ?_⟩
  cases z : fs s g with
  | bad => simp only [z] at q; exact q.elim
  | exc y g1 =>
    simp only [z] at q
    exact fun cls dx H1 ρ1 B1 e1 k1 k2 S1 xr => q cls dx σ H1 ρ1 B1 ⟨S.ext.trans e1, fun c m => k1 c (S.sub c m), S.new, S1⟩ xr
  | ok ds g1 =>
    simp only [z] at q
    have q : OutSt (fx C ca X W) b ρ B H (putAll (is.zip ks) ds s g1) D := q
    intro vs H1 ρ1 B1 as e1 k1 k2 k3 S1 pr
    have St1 : StOk X.K b H1 g1 s σ ρ1 B1 := ⟨S.ext.trans e1, fun c m => (k1 c).mpr (.inr (S.sub c m)), S.new, S1⟩
    have hst : Stp ρ B H ρ1 B1 H1 := ⟨e1.pre, fun c o t n _ => e1.keep c o t n, e1.there, e1.tup, e1.frz, fun c ⟨o, t⟩ n m => by
      rcases (k1 c).mp m with m | m
      · rw [(k3 c m).2] at t; cases t
      · exact n m⟩
    have hlen : vs.length = is.length := by
      rw [hl]; exact pr.length
    cases z2 : putAll (is.zip ks) ds s g1 with
    | nx s' g' =>
      obtain ⟨rfl, S2⟩ := par_put pr St1 k2 (fun a m => ⟨(k1 a).mpr (.inl m), fun t => (k3 a m).1 (S.sub a t), S.ext.free (k3 a m).2, fun j u q1 q2 => by
        obtain ⟨c, w1, w2, _⟩ := S.sim.own j u q1
        rw [q2] at w1
        cases w1
        exact (k3 a m).1 w2⟩) hl z2
      rw [z2] at q
      exact hR vs H1 (q _ _ ρ1 B1 hst S2) hlen
    | ret fr d g' => exact (putAll_nx z2).elim
    | exc y s' g' => exact (putAll_nx z2).elim
    | bad => rw [z2] at q; exact q.elim
theorem s_par2 {i j : Nat} {x y : Str} {k1 k2 : PX.K} {a c : Expr} {px py pt pt2 : Pos} {kt kt2 : Nat} (hc : X.calm = true) (hN : X.N.Nodup) (hi : X.N[i]? = some x) (hj : X.N[j]? = some y) (hij : i ≠ j)
    (hx : X.env.scope.names.lookup x = some .local) (hy : X.env.scope.names.lookup y = some .local) (ha : PA X [a, c] (tP (fx C ca X W) [k1, k2] fs))
    (hw : swappedStores [.Tuple [.Name x px, .Name y py] kt pt] (.Tuple [a, c] kt2 pt2) X.env = pure (some [x, y])) :
    PS X (.Assign [.Tuple [.Name x px, .Name y py] kt pt] (.Tuple [a, c] kt2 pt2) pos) (tSt (fx C ca X W) b fun s g => lift s (fs s g) fun ds g => putAll [(i, k1), (j, k2)] ds s g) :=
  (ps_par hc hN hi hj hij hx hy ha hw rfl).impX fun D σ H q => par_imp (is := [i, j]) (R := fun vs σ H => ∃ v w, vs = [v, w] ∧ D.nx ((σ.set i (some v)).set j (some w)) H) rfl (fun vs H q hl => by
    match vs, hl with
    | [v, w], _ => exact ⟨v, w, rfl, q⟩) q
theorem s_par3 {i j l : Nat} {x y z : Str} {k1 k2 k3 : PX.K} {a c d : Expr} {px py pz pt pt2 : Pos} {kt kt2 : Nat} (hc : X.calm = true) (hN : X.N.Nodup) (hi : X.N[i]? = some x) (hj : X.N[j]? = some y) (hl : X.N[l]? = some z) (hij : i ≠ j) (hil : i ≠ l) (hjl : j ≠ l)
    (hx : X.env.scope.names.lookup x = some .local) (hy : X.env.scope.names.lookup y = some .local) (hz : X.env.scope.names.lookup z = some .local) (ha : PA X [a, c, d] (tP (fx C ca X W) [k1, k2, k3] fs))
    (hw : swappedStores [.Tuple [.Name x px, .Name y py, .Name z pz] kt pt] (.Tuple [a, c, d] kt2 pt2) X.env = pure (some [x, y, z])) :
    PS X (.Assign [.Tuple [.Name x px, .Name y py, .Name z pz] kt pt] (.Tuple [a, c, d] kt2 pt2) pos) (tSt (fx C ca X W) b fun s g => lift s (fs s g) fun ds g => putAll [(i, k1), (j, k2), (l, k3)] ds s g) :=
  (ps_par3 hc hN hi hj hl hij hil hjl hx hy hz ha hw rfl).impX fun D σ H q => par_imp (is := [i, j, l]) (R := fun vs σ H => ∃ u v w, vs = [u, v, w] ∧ D.nx (((σ.set i (some u)).set j (some v)).set l (some w)) H) rfl (fun vs H q hl => by
    match vs, hl with
    | [u, v, w], _ => exact ⟨u, v, w, rfl, q⟩) q
end
section
variable {X : Cx} {C : Cfg} {ca : Nat → Addr} {W : WX} {b : Bs} {e : Expr} {pos p p1 p2 : Pos} {f fk1 fk2 : Sl → G → R D} {fs : Sl → G → R (List D)} {i : Nat} {x : Str}
def putS (i : Nat) (fk : Sl → G → R PX.D) (d : PX.D) (k : Sl → G → Fl) : Sl → G → Fl := fun s g => match lookO s i with
  | some c => lift s (fk s g) fun kd g => match store c kd d with
    | some (.lst xs) => k (s.set i (.own (.lst xs))) g
    | _ => .bad
  | none => .bad
/-- one store c[k] = d in a slot's own list -/
theorem sub_imp {fk : Sl → G → R D} {D : Ends} {K2 : Sl → G → Fl} {d : PX.D} {v : V} {σ : L2.St} {H : Hp} {ρ B : List Addr} {g : G} {s : Sl} (S : StOk X.K b H g s σ ρ B) (r : Rep X.K ρ B H v d)
    (q : OutSt (fx C ca X W) b ρ B H (putS i fk d K2 s g) D) {Q : L2.St → Hp → Prop}
    (hQ : ∀ s' g' H' ρ' B', StOk X.K b H' g' s' σ ρ' B' → Stp ρ B H ρ' B' H' → OutSt (fx C ca X W) b ρ' B' H' (K2 s' g') D → Q σ H') : gSub (tVar i) (tE (fx C ca X W) fk) rSetL v σ H Q := by
  unfold putS at q
  cases z : lookO s i with
  | none => simp only [z] at q; exact q.elim
  | some c =>
    simp only [z] at q
    obtain ⟨a, h1, h2, h3, h4⟩ := S.sim.own i c (lookO_some z)
    refine ⟨.ref a, h1, ρ, B, s, g, S.sim, OutSt.lift (R' := rRep X.K) S q fun kd g1 kv H1 ρ1 _ e1 S1 r1 q1 => ?_⟩
    have q1 : OutSt (fx C ca X W) b ρ1 B H1 (match store c kd d with
      | some (.lst xs) => K2 (s.set i (.own (.lst xs))) g1
      | _ => .bad) D := q1
    cases c with
    | lst ys =>
      cases kd with
      | int n =>
        cases z2 : ixOf ys.length n with
        | none =>
          have z3 : store (.lst ys) (.int n) d = none := by
            show (ixOf ys.length n).map _ = none
            rw [z2]; rfl
          rw [z3] at q1; exact q1.elim
        | some j =>
          have z3 : store (.lst ys) (.int n) d = some (.lst (ys.set j d)) := by
            show (ixOf ys.length n).map _ = _
            rw [z2]; rfl
          rw [z3] at q1
          have hob : ∃ vs, H a = some (.lst vs) ∧ RepL X.K ρ B H vs ys := h4
          obtain ⟨vs, k1, k2⟩ := hob
          have k3 : H1 a = some (.lst vs) := e1.keep a _ k1 fun m => S.sim.heap.no a m h2
          cases r1
          refine ⟨a, vs, n, j, rfl, rfl, k3, by rw [k2.length]; exact ixOf_N z2, ?_⟩
          have ra : RepL X.K ρ1 B H1 (vs.set j v) (ys.set j d) := RepL.set j (r.ext e1) (k2.ext e1)
          obtain ⟨h5, h6⟩ := S1.writeOwn (e := .lst (ys.set j d)) (o := .lst (vs.set j v)) (lookO_some z) rfl h1 fun c q => ⟨_, q, ra.chg c⟩
          exact hQ _ g1 _ ρ1 B h5 ((Stp.ofExt e1).trans h6) (OutSt.later h6 q1)
      | _ => exact q1.elim
    | dic kvs =>
      have z3 : store (.dic kvs) kd d = none ∨ ∃ w, store (.dic kvs) kd d = some (.dic w) := by
        by_cases hl : kvs.length < LIM
        · exact .inr ⟨dput kvs kd d, by simp [store, hl]⟩
        · exact .inl (by simp [store, hl])
      rcases z3 with z3 | ⟨w, z3⟩
      · rw [z3] at q1; exact q1.elim
      · rw [z3] at q1; exact q1.elim
    | _ => simp [isCont] at h3
/-- the two stores of c[k1], c[k2] = .., .. -/
def put2 (i : Nat) (fk1 fk2 : Sl → G → R PX.D) (ds : List PX.D) (s : Sl) (g : G) : Fl := match ds with
  | [d1, d2] => putS i fk1 d1 (putS i fk2 d2 fun s g => .nx s g) s g
  | _ => .bad
theorem swapped_sub {o1 o2 k1 k2 a c : Expr} {q1 q2 pt pt2 : Pos} {kt kt2 : Nat} {env : Env} : swappedStores [.Tuple [.Subscript o1 k1 q1, .Subscript o2 k2 q2] kt pt] (.Tuple [a, c] kt2 pt2) env = pure none := by
  unfold swappedStores
  simp
theorem s_putT {k1 k2 a c : Expr} {q1 q2 r1 r2 pt pt2 : Pos} {kt kt2 : Nat} (hc : X.calm = true) (hN : X.N[i]? = some x) (hv : Vis X.env.scope x) (hd : (x == ("__debug__" : Str)) = false) (hcd : (x == ("__classdict__" : Str)) = false)
    (hk1 : PE X k1 (tE (fx C ca X W) fk1)) (hk2 : PE X k2 (tE (fx C ca X W) fk2)) (he : PE X (.Tuple [a, c] kt2 pt2) (tE (fx C ca X W) fun s g => (fs s g).bind fun ds g => .ok (.tup ds) g))
    (ha1 : ∀ v, assign (.Subscript (.Name x r1) k1 q1) X.env v = (do
      let ov ← holding [v] (eval (.Name x r1) X.env)
      let iv ← holding [v, ov] (eval k1 X.env)
      standAt q1
      holding [v, ov, iv] (setItem ov iv v)
      release [v, ov, iv] []))
    (ha2 : ∀ v, assign (.Subscript (.Name x r2) k2 q2) X.env v = (do
      let ov ← holding [v] (eval (.Name x r2) X.env)
      let iv ← holding [v, ov] (eval k2 X.env)
      standAt q2
      holding [v, ov, iv] (setItem ov iv v)
      release [v, ov, iv] [])) :
    PS X (.Assign [.Tuple [.Subscript (.Name x r1) k1 q1, .Subscript (.Name x r2) k2 q2] kt pt] (.Tuple [a, c] kt2 pt2) pos) (tSt (fx C ca X W) b fun s g => lift s (fs s g) fun ds g => put2 i fk1 fk2 ds s g) := by
  refine (ps_asg he (pg_tup hc (pgs_cons (pg_sub (pe_var hN hv hd hcd) hk1 set_list ha1) (pgs_cons (pg_sub (pe_var hN hv hd hcd) hk2 set_list ha2) pgs_nil rfl) rfl) rfl rfl) rfl swapped_sub rfl).impX fun D σ H ⟨ρ, B, s, g, S, q⟩ => ?_
  refine ⟨ρ, B, s, g, S.sim, ?_⟩
  change Out (fx C ca X W) (rRep X.K B) σ s B ρ H ((fs s g).bind fun ds g => R.ok (PX.D.tup ds) g) _
  cases z : fs s g with
  | bad => simp only [z] at q; exact q.elim
  | exc y g1 =>
    simp only [z] at q
    exact fun cls dx H1 ρ1 e1 S1 xr => q cls dx σ H1 ρ1 B (S.step e1 S1) xr
  | ok ds g1 =>
    simp only [z] at q
    have q : OutSt (fx C ca X W) b ρ B H (put2 i fk1 fk2 ds s g1) D := q
    intro v H1 ρ1 e1 S1 rv
    have S2 := S.step e1 S1
    have q := OutSt.later (Stp.ofExt (B := B) e1) q
    cases rv with
    | tup ha rl =>
      cases rl with
      | nil => exact q.elim
      | cons v1 t1 =>
        cases t1 with
        | nil => exact q.elim
        | cons v2 t2 =>
          cases t2 with
          | cons _ _ => exact q.elim
          | nil =>
            refine ⟨_, _, rfl, ha, rfl, _, _, rfl, ?_⟩
            refine sub_imp (D := D) (K2 := putS i fk2 _ fun s g => .nx s g) S2 v1 q fun s' g' H' ρ' B' S3 e3 q3 => ?_
            refine ⟨_, _, rfl, sub_imp (D := D) (K2 := fun s g => .nx s g) S3 (v2.stp e3) q3 fun s2 g2 H2 ρ2 B2 S4 e4 q4 => ?_⟩
            exact ⟨rfl, q4.done S4⟩
/-- a, b = e, a value -/
theorem s_unp {tgE : Expr} {tg : Tg} (he : PE X e (tE (fx C ca X W) f)) (hg : PG X tgE (gT X.K tg)) (hs : swapsWithSole [tgE] e pos.line X.env = pure false) (hw : swappedStores [tgE] e X.env = pure none) (h1 : (assignEach [tgE] X.env).map (·.2) = [assign tgE X.env]) :
    PS X (.Assign [tgE] e pos) (tSt (fx C ca X W) b fun s g => lift s (f s g) fun d g => match bindT tg d s with
      | some s => .nx s g
      | none => .bad) := by
  refine (ps_asg he hg hs hw h1).impX fun D σ H ⟨ρ, B, s, g, S, q⟩ => ?_
  refine ⟨ρ, B, s, g, S.sim, OutSt.lift (R' := rRep X.K) S q fun d g1 v H1 ρ1 _ e1 S1 r1 q1 => ?_⟩
  cases z : bindT tg d s with
  | none => rw [z] at q1; exact q1.elim
  | some s' =>
    rw [z] at q1
    refine ⟨ρ1, B, g1, s, d, s', S1.sim, r1, z, fun σ2 S4 o4 l4 => q1 σ2 H1 ρ1 B Stp.refl ⟨S1.ext, S1.sub, fun j u c k1 k2 => ?_, S4⟩⟩
    have hj : j ∉ tg.slots := fun m => bindT_own z m k1
    have k3 : s[j]? = some (.own u) := by rw [← bindT_out z hj]; exact k1
    rw [o4 j hj] at k2
    exact S1.new j u c k3 k2
end
end PX
end
section
set_option Elab.async false
set_option linter.all false
set_option maxRecDepth 100000
set_option autoImplicit false
set_option maxHeartbeats 2000000
/-! PXr: an own error over ValueError whose __init__ says super().__init__(reason); self.reason = reason. -/
namespace PX
open PySem L2 PySem.Spec PyProof.Rows
def eA (fl : Str) (p1 p2 : Pos) : Arguments := { posonlyargs := [], args := [{ arg := "self", annotation := none, pos := p1 }, { arg := fl, annotation := none, pos := p2 }], vararg := none, kwonlyargs := [], kw_defaults := [], kwarg := none, defaults := [] }
def eB (fl : Str) (q0 q1 q2 q3 q4 q5 q6 q7 q8 q9 : Pos) : List Stmt := [.Expr (.Call (.Attribute (.Call (.Name "super" q0) [] [] q1) "__init__" q2) [.Name fl q3] [] q4) q5,
  .Assign [.Attribute (.Name "self" q6) fl q7] (.Name fl q8) q9]
/-- what the written part says: C the class, D the one that has the __init__ at fI -/
structure ErrTxt (fl : Str) (prog : Program) (K : Fg) (C D fI : Addr) : Prop where
  cls : ∃ nm q N bs bm sn sub ab col dd k0 k1 k2 k3 k5, K.lookup C = some (excClassObj nm q C N bs bm true sn sub ab col dd k0 k1 k2 k3 k5 "ValueError.__new__") ∧ PySem.HandSPX.refsVE bm = true
  clsD : ∃ oD cd, K.lookup D = some oD ∧ oD.data = .cls cd
  subD : PySem.W.subIn K (.ref C) (.ref D) = some true
  subV : PySem.W.subIn K (.ref C) (.type "ValueError") = some true
  op : PySem.W.nsIn K cStatics "thirdparty.any" = some none
  al : PySem.W.ks_superIn K C D "__init__" = some (some (.builtin "ValueError.__init__"))
  sa : PySem.W.findIn K (.ref C) "__setattr__" = some (some (.builtin "object.__setattr__"))
  ga : PySem.W.findIn K (.ref C) "__getattribute__" = some (some (.builtin "BaseException.__getattribute__"))
  gg : PySem.W.findIn K (.ref C) "__getattr__" = some none
  noN : PySem.W.findIn K (.ref C) fl = some none
  iC : PySem.W.findIn K (.ref C) "__init__" = some (some (.ref fI))
  tC : PySem.W.typeIn K (.ref fI) = some (.type "function")
  kC : PySem.W.keepIn K (.ref C) = true
  exC : PySem.W.subIn K (.ref C) (.type "BaseException") = some true
  tyC : PySem.W.typeIn K (.ref C) = some (.type "type")
  hdC : PySem.W.hasDictIn K C = true
  flo : fl = "reason" ∨ fl = "at" ∨ fl = "line"
  top : (prog.main.scope.names.lookup ("super" : Str)).isSome = false
  fn : ∃ (fd : FuncData) (oF : Obj) (cc : Addr) (oc : Obj) (co : Addr) (ok : Obj) (vs : Array Value) (file : Str) (tf : Tok) (p1 p2 q0 q1 q2 q3 q4 q5 q6 q7 q8 q9 : Pos), K.lookup fI = some oF ∧ oF.data = .func fd ∧ fd.params = eA fl p1 p2 ∧ fd.body = .stmts (eB fl q0 q1 q2 q3 q4 q5 q6 q7 q8 q9) ∧
    fd.scope.kind = .function ∧ (∀ x ∈ fd.scope.names, x.2 ≠ .cell) ∧ fd.scope.names.lookup ("self" : Str) = some .local ∧ fd.scope.names.lookup fl = some .local ∧ fd.scope.names.lookup ("super" : Str) = some .globalImplicit ∧ fd.scope.names.lookup ("__class__" : Str) = some .free ∧
    fd.scope.isCoroutine = false ∧ fd.scope.isGenerator = false ∧ fd.globals = mainGlobals ∧ fd.builtins = builtinsNs ∧ fd.closure = [(("__class__" : Str), cc)] ∧ K.lookup cc = some oc ∧ oc.data = .cell (some (.ref D)) ∧
    fd.code = .ref co ∧ K.lookup co = some ok ∧ ok.data = .fields vs ∧ vs[2]? = some (.str file tf) ∧ ((prog.main.file : Str) == file) = true ∧ PySem.W.codeIn K fd.code fd.qualname = true ∧ (q2.endLine == q4.line) = true ∧ (∀ u v : Value, bindArgs fd ⟨[u, v], []⟩ = pure [(("self" : Str), u), (fl, v)])
structure InitE (fl : Str) (h h' : Heap) (x C dx t1 : Addr) (v : Value) : Prop where
  keep : ∀ b o, b ≠ x → h.get? b = some o → h'.get? b = some o
  obj : h'.get? x = some { cls := .ref C, dict := some dx, data := .fields #[.ref t1, .none, .none, .none, .bool false, .none] }
  dbig : h.objs.size ≤ dx
  dne : dx ≠ x
  ns : h'.Ns1 dx (fun y => if y = fl then some v else none)
section
open PySem.W PySem.Calls PySem.HandSPX
variable {prog : Program} {w : World} {A : Around} {E : Value → Shared → Prop} {R : Result → Shared → Prop} {s : Shared} {K : Frag} {C D fI : Addr}
/-- super().__init__(v), called -/
theorem init_raw {hp : Heap} {g : Array GenState} {dr : Drawn} {tk : Nat} {os : OsState} {u x t0 : Addr} {rest : List Value} {nm q : Str} {N : Addr} {bs bm : List Value} {sn : List Str} {sub : List Value} {ab : Bool} {col : Option Bool} {dd : Option Addr} {k0 k1 k2 k3 k5 : Option Value} {Q : Value → Shared → Prop}
    (hC : hp.get? C = some (excClassObj nm q C N bs bm true sn sub ab col dd k0 k1 k2 k3 k5 "ValueError.__new__")) (hu : hp.get? u = some (kxs_mw "ValueError.__init__" x)) (he : hp.get? x = some (excO C t0)) (hz : rest.length ≤ sizeLine)
    (h : ∀ h' t1, (∀ b o, b ≠ x → hp.get? b = some o → h'.get? b = some o) → h'.get? x = some (excO C t1) → Q .none ⟨h', g, dr, tk, os⟩) :
    wpAny (model prog w) A (PySem.call (.ref u) rest) Q E ⟨hp, g, dr, tk, os⟩ := by
  have FB := F.excBase_ValueError
  refine wpAny_call (codeAny_of_tree ?_)
  show wpAny _ A.in1 (callAny (.ref u) ⟨rest, []⟩) _ _ _
  simp only [callAny]
  refine wpAny_bind (wpAny_load hu ?_)
  simp only [kxs_mw, show (Value.type "method-wrapper" == Value.type "method" || Value.type "method-wrapper" == Value.type "builtin_function_or_method" || Value.type "method-wrapper" == Value.type "method-wrapper") = true by decide, if_true]
  refine KFB.if_so (by decide) ?_
  refine wpAny_bind (check_bound_init FB.toExcCallFacts hC he rfl ?_)
  refine wpAny_bind (wpAny_pure (wpAny_pure ?_))
  refine ⟨plainId_quiet FB.init.plain _, codeAny_builtin FB.initEntry ?_⟩
  exact exc_init_tree (cls := .ref C) (t0 := t0) (dv := none) (c2 := .none) (c3 := .none) (b4 := .bool false) he hz fun h' k e _ => h h' _ k e
theorem he_init {fl : Str} {env : Env} {q0 q1 q2 q3 q4 : Pos} (h : (q2.endLine == q4.line) = true) : eval (.Call (.Attribute (.Call (.Name "super" q0) [] [] q1) "__init__" q2) [.Name fl q3] [] q4) env = (do
      let ov ← attributeBase (.Call (.Name "super" q0) [] [] q1) "__init__" env (eval (.Call (.Name "super" q0) [] [] q1) env)
      standAt q2.atName
      let (f, first) ← holding [ov] (getMethod ov "__init__" (do return (← importBound (.Call (.Name "super" q0) [] [] q1) env).getD true))
      callWith q4 f first (backTo q4 (starEach [.Name fl q3] env)) []) := by
  have e : methodCallPos true (.Call (.Name "super" q0) [] [] q1) env q2 q4 = pure q4 := by
    unfold methodCallPos
    rw [h]
    rfl
  show (do
    let ov ← attributeBase (.Call (.Name "super" q0) [] [] q1) "__init__" env (eval (.Call (.Name "super" q0) [] [] q1) env)
    standAt q2.atName
    let (f, first) ← holding [ov] (getMethod ov "__init__" (do return (← importBound (.Call (.Name "super" q0) [] [] q1) env).getD true))
    let callPos ← methodCallPos true (.Call (.Name "super" q0) [] [] q1) env q2 q4
    callWith callPos f first (backTo q4 (starEach [.Name fl q3] env)) []) = _
  rw [e]
  rfl
theorem err_init {fl : Str} (T : ErrTxt fl prog K C D fI) {mg mb : Str → Option Value} {x t0 : Addr} {v : Value} (X : K.In s.heap) (hlim : s.heap.NoLimit) (hgl : s.heap.Ns mainGlobals mg) (hm : mg "super" = none) (hbl : s.heap.Ns builtinsNs mb) (hb : mb "super" = some (.type "super"))
    (hx : s.heap.get? x = some (excO C t0)) (hnx : K.lookup x = none) (hroom : A.depth < recursionLimit)
    (hq : ∀ h' tk dx t1, InitE fl s.heap h' x C dx t1 v → R (.ok (.ret .none)) { s with heap := h', toks := tk }) :
    codeAny (model prog w) A (.call (.ref fI) ⟨[.ref x, v], []⟩) R s := by
  obtain ⟨fd, oF, cc, oc, co, ok, vs, file, tf, p1, p2, q0, q1, q2, q3, q4, q5, q6, q7, q8, q9, ho, hod, hpar, hbody, hk, hcell, hself, hreason, hsuper, hclass, hco, hgen, hglob, hblt, hclo, hcc, hocd, hcode, hcol, hokd, hvs, hfile, hcd, hline, hbind⟩ := T.fn
  obtain ⟨nm, q, N, bs, bm, sn, sub, ab, col, dd, k0, k1, k2, k3, k5, hC, hbm⟩ := T.cls
  obtain ⟨oD, cdD, hD, hDt⟩ := T.clsD
  have hcl : clsIn K C = some { name := nm, bases := bs, mro := .ref C :: bm, ns := N, qualname := q, hasDict := true, slotNames := sn, subclasses := sub, abstract := ab, collection := col, hasDel := false } := by unfold clsIn; rw [hC] <;> rfl
  have hflo := T.flo
  rcases hflo with rfl | rfl | rfl
  · refine ks_codeAny_call_defAt (fd := fd) (binds := [(("self" : Str), .ref x), (("reason" : Str), v)]) hroom (X _ _ ho) hod hlim (codeRec_of X hcd) hbody (.of_eq (hbind _ _)) hcell (fun y hy => ?_) (fun h₀ hns hk₀ => ?_) hco hgen hk
    · rcases List.mem_cons.mp hy with e | hy
      · rw [e]; exact hself
      · rcases List.mem_cons.mp hy with e | hy
        · rw [e]; exact hreason
        · cases hy
    have X₀ : K.In h₀ := X.keeps hk₀
    have hxL : s.heap.objs.size ≠ x := Nat.ne_of_gt (Heap.lt_size hx)
    have hx₀ := hk₀ _ _ hx
    have env : callEnv fd s.heap.objs.size fI = callEnv fd s.heap.objs.size fI := rfl
    have l0 : (callEnv fd s.heap.objs.size fI).kindOf ("reason" : Str) = some .local := hreason
    have l1 : (callEnv fd s.heap.objs.size fI).kindOf "self" = some .local := hself
    have hlocal : ∀ {h' : Heap} {g' : Array GenState} {d' : Drawn} {t' : Nat} {o' : OsState}, (∀ b o, h₀.get? b = some o → h'.get? b = some o) → (⟨h', g', d', t', o'⟩ : Shared).heap.Ns (callEnv fd s.heap.objs.size fI).locals (fun y => ([(("self" : Str), Value.ref x), (("reason" : Str), v)]).reverse.lookup y) := fun k => Heap.Ns.keeps hns k
    unfold eB
    have hD₀ := X₀ _ _ hD
    have hsubD : Looks (model prog w) h₀ (isSubtype (.ref C) (.ref D)) true := looks_subIn X₀ T.subD
    refine ks_wpAt_execs_cons (ks_wpAt_Expr_any (ks_wpAt_MethodCall ?_ (he_init hline)) (by first | rfl | (unfold interactive; rw [show (callEnv fd s.heap.objs.size fI).scope.kind = _ from hk]; rfl)) rfl)
    refine ks_wpAt_super_base (f := fI) (of := oF) (fd := fd) (ar := { arg := "self", annotation := none, pos := p1 }) (cc := co) (oc := ok) (vs := vs) (file := file) (tf := tf) hsuper hclass rfl rfl (X₀ _ _ ho) hod (by rw [hpar]; rfl) (by show fd.code = _; exact hcode) (X₀ _ _ hcol) hokd hvs hfile T.top ?_
    refine ks_loadName_global hk hsuper (Calls.loadGlobal_builtin (mg := mg) (mb := mb) (by show Heap.Ns h₀ fd.globals mg; rw [hglob]; exact hgl.keeps hk₀) hm (by show Heap.Ns h₀ fd.builtins mb; rw [hblt]; exact hbl.keeps hk₀) hb ⟨rfl, ?_⟩)
    refine wpAny_loadName_free (c := cc) (v := .ref D) hk hclass (by show fd.closure.lookup _ = _; rw [hclo]; rfl) ⟨oc, X₀ _ _ hcc, hocd⟩ ?_
    refine wpAny_loadName_local hk hself (hlocal fun _ _ e => e) (v := .ref x) rfl ?_
    refine ks_wpAny_isType_cls hD₀ hDt ⟨rfl, ?_⟩
    refine ks_wpAny_call_super hD₀ hDt hx₀ rfl (fun c z => by cases z) hsubD fun h1 hso k1 => ?_
    have X₁ : K.In h1 := X₀.keeps k1
    have hx₁ := k1 _ _ hx₀
    have hI : InstAt h1 x (excO C t0) C none := ⟨hx₁, rfl, rfl, trivial⟩
    have hxC : x ≠ C := fun z => by rw [z, hC] at hnx; cases hnx
    have hal := T.al
    unfold ks_superIn at hal
    rw [hcl] at hal
    refine kxs_getMethod kxs_ValueError (l₀ := .ref C :: bm) hso (looks_opaque X₁ T.op) ?_ rfl X₁ hal (hI.type.andThen (looks_subIn X₁ T.subV)) hxC rfl ?_
    · exact (looks_clsIn X₁ hcl).andThen .now
    · have k2 : ∀ b o, h1.get? b = some o → (h1.push (kxs_mw "ValueError.__init__" x)).get? b = some o := fun b o e => Heap.get?_push_of_some _ e
      have hu : (h1.push (kxs_mw "ValueError.__init__" x)).get? h1.objs.size = some (kxs_mw "ValueError.__init__" x) := Heap.get?_push_at rfl rfl
      have X₂ := X₁.keeps k2
      refine kxs_callWith (i := "ValueError.__init__") (x := x) rfl (evalArgs_plain (Calls.spliced_cons (wpAny_Name (wpAny_loadName_local hk hreason (hlocal fun b o e => k2 b o (k1 b o e)) (v := v) rfl (Calls.spliced_nil ⟨hu, ?_⟩)))))
      refine init_raw (X₂ _ _ hC) hu (k2 _ _ hx₁) (by rw [sizeLine_eq]; show 1 ≤ 16777216; decide) fun h3 t1 k3 hx₃ => ?_
      have k03 : ∀ b o, b ≠ x → h₀.get? b = some o → h3.get? b = some o := fun b o n e => k3 b o n (k2 b o (k1 b o e))
      have X₃ : K.In h3 := fun a o e => k03 a o (fun z => by rw [z, hnx] at e; cases e) (X₀ a o e)
      have hn3 : h3.Ns s.heap.objs.size (fun y => ([(("self" : Str), Value.ref x), (("reason" : Str), v)]).reverse.lookup y) := by
        obtain ⟨oL, es, ep, hL, r⟩ := hns
        exact ⟨oL, es, ep, k03 _ _ hxL hL, r⟩
      refine wpAt_of_wpAny (wpAny_execs_cons (plainObj_wpAny_Assign_Attribute ?_))
      refine wpAny_Name (wpAny_loadName_local hk hreason hn3 (v := v) rfl (wpAny_Name (wpAny_loadName_local hk hself hn3 (v := .ref x) rfl ?_)))
      refine set_plain X₃ (ox := excO C t1) (od := none) ⟨hx₃, rfl, rfl, trivial⟩ T.sa ?_
      refine exc_osa X₃ hx₃ hcl (show refsVE (.ref C :: bm) = true from hbm) rfl T.noN (fun h4 tk4 dx k4 dn dne hx₄ hn₄ => ?_)
      show wpAny _ _ (execs _ _) _ _ _
      have z : s.heap.objs.size < h3.objs.size := hn3.lt
      exact wpAny_execs_nil (hq h4 tk4 dx t1 ⟨fun b o hb e => k4 b o hb (k03 b o hb (hk₀ b o e)), hx₄, Nat.le_of_lt (Nat.lt_of_lt_of_le z dn), dne, hn₄⟩)
  · refine ks_codeAny_call_defAt (fd := fd) (binds := [(("self" : Str), .ref x), (("at" : Str), v)]) hroom (X _ _ ho) hod hlim (codeRec_of X hcd) hbody (.of_eq (hbind _ _)) hcell (fun y hy => ?_) (fun h₀ hns hk₀ => ?_) hco hgen hk
    · rcases List.mem_cons.mp hy with e | hy
      · rw [e]; exact hself
      · rcases List.mem_cons.mp hy with e | hy
        · rw [e]; exact hreason
        · cases hy
    have X₀ : K.In h₀ := X.keeps hk₀
    have hxL : s.heap.objs.size ≠ x := Nat.ne_of_gt (Heap.lt_size hx)
    have hx₀ := hk₀ _ _ hx
    have env : callEnv fd s.heap.objs.size fI = callEnv fd s.heap.objs.size fI := rfl
    have l0 : (callEnv fd s.heap.objs.size fI).kindOf ("at" : Str) = some .local := hreason
    have l1 : (callEnv fd s.heap.objs.size fI).kindOf "self" = some .local := hself
    have hlocal : ∀ {h' : Heap} {g' : Array GenState} {d' : Drawn} {t' : Nat} {o' : OsState}, (∀ b o, h₀.get? b = some o → h'.get? b = some o) → (⟨h', g', d', t', o'⟩ : Shared).heap.Ns (callEnv fd s.heap.objs.size fI).locals (fun y => ([(("self" : Str), Value.ref x), (("at" : Str), v)]).reverse.lookup y) := fun k => Heap.Ns.keeps hns k
    unfold eB
    have hD₀ := X₀ _ _ hD
    have hsubD : Looks (model prog w) h₀ (isSubtype (.ref C) (.ref D)) true := looks_subIn X₀ T.subD
    refine ks_wpAt_execs_cons (ks_wpAt_Expr_any (ks_wpAt_MethodCall ?_ (he_init hline)) (by first | rfl | (unfold interactive; rw [show (callEnv fd s.heap.objs.size fI).scope.kind = _ from hk]; rfl)) rfl)
    refine ks_wpAt_super_base (f := fI) (of := oF) (fd := fd) (ar := { arg := "self", annotation := none, pos := p1 }) (cc := co) (oc := ok) (vs := vs) (file := file) (tf := tf) hsuper hclass rfl rfl (X₀ _ _ ho) hod (by rw [hpar]; rfl) (by show fd.code = _; exact hcode) (X₀ _ _ hcol) hokd hvs hfile T.top ?_
    refine ks_loadName_global hk hsuper (Calls.loadGlobal_builtin (mg := mg) (mb := mb) (by show Heap.Ns h₀ fd.globals mg; rw [hglob]; exact hgl.keeps hk₀) hm (by show Heap.Ns h₀ fd.builtins mb; rw [hblt]; exact hbl.keeps hk₀) hb ⟨rfl, ?_⟩)
    refine wpAny_loadName_free (c := cc) (v := .ref D) hk hclass (by show fd.closure.lookup _ = _; rw [hclo]; rfl) ⟨oc, X₀ _ _ hcc, hocd⟩ ?_
    refine wpAny_loadName_local hk hself (hlocal fun _ _ e => e) (v := .ref x) rfl ?_
    refine ks_wpAny_isType_cls hD₀ hDt ⟨rfl, ?_⟩
    refine ks_wpAny_call_super hD₀ hDt hx₀ rfl (fun c z => by cases z) hsubD fun h1 hso k1 => ?_
    have X₁ : K.In h1 := X₀.keeps k1
    have hx₁ := k1 _ _ hx₀
    have hI : InstAt h1 x (excO C t0) C none := ⟨hx₁, rfl, rfl, trivial⟩
    have hxC : x ≠ C := fun z => by rw [z, hC] at hnx; cases hnx
    have hal := T.al
    unfold ks_superIn at hal
    rw [hcl] at hal
    refine kxs_getMethod kxs_ValueError (l₀ := .ref C :: bm) hso (looks_opaque X₁ T.op) ?_ rfl X₁ hal (hI.type.andThen (looks_subIn X₁ T.subV)) hxC rfl ?_
    · exact (looks_clsIn X₁ hcl).andThen .now
    · have k2 : ∀ b o, h1.get? b = some o → (h1.push (kxs_mw "ValueError.__init__" x)).get? b = some o := fun b o e => Heap.get?_push_of_some _ e
      have hu : (h1.push (kxs_mw "ValueError.__init__" x)).get? h1.objs.size = some (kxs_mw "ValueError.__init__" x) := Heap.get?_push_at rfl rfl
      have X₂ := X₁.keeps k2
      refine kxs_callWith (i := "ValueError.__init__") (x := x) rfl (evalArgs_plain (Calls.spliced_cons (wpAny_Name (wpAny_loadName_local hk hreason (hlocal fun b o e => k2 b o (k1 b o e)) (v := v) rfl (Calls.spliced_nil ⟨hu, ?_⟩)))))
      refine init_raw (X₂ _ _ hC) hu (k2 _ _ hx₁) (by rw [sizeLine_eq]; show 1 ≤ 16777216; decide) fun h3 t1 k3 hx₃ => ?_
      have k03 : ∀ b o, b ≠ x → h₀.get? b = some o → h3.get? b = some o := fun b o n e => k3 b o n (k2 b o (k1 b o e))
      have X₃ : K.In h3 := fun a o e => k03 a o (fun z => by rw [z, hnx] at e; cases e) (X₀ a o e)
      have hn3 : h3.Ns s.heap.objs.size (fun y => ([(("self" : Str), Value.ref x), (("at" : Str), v)]).reverse.lookup y) := by
        obtain ⟨oL, es, ep, hL, r⟩ := hns
        exact ⟨oL, es, ep, k03 _ _ hxL hL, r⟩
      refine wpAt_of_wpAny (wpAny_execs_cons (plainObj_wpAny_Assign_Attribute ?_))
      refine wpAny_Name (wpAny_loadName_local hk hreason hn3 (v := v) rfl (wpAny_Name (wpAny_loadName_local hk hself hn3 (v := .ref x) rfl ?_)))
      refine set_plain X₃ (ox := excO C t1) (od := none) ⟨hx₃, rfl, rfl, trivial⟩ T.sa ?_
      refine exc_osa X₃ hx₃ hcl (show refsVE (.ref C :: bm) = true from hbm) rfl T.noN (fun h4 tk4 dx k4 dn dne hx₄ hn₄ => ?_)
      show wpAny _ _ (execs _ _) _ _ _
      have z : s.heap.objs.size < h3.objs.size := hn3.lt
      exact wpAny_execs_nil (hq h4 tk4 dx t1 ⟨fun b o hb e => k4 b o hb (k03 b o hb (hk₀ b o e)), hx₄, Nat.le_of_lt (Nat.lt_of_lt_of_le z dn), dne, hn₄⟩)
  · refine ks_codeAny_call_defAt (fd := fd) (binds := [(("self" : Str), .ref x), (("line" : Str), v)]) hroom (X _ _ ho) hod hlim (codeRec_of X hcd) hbody (.of_eq (hbind _ _)) hcell (fun y hy => ?_) (fun h₀ hns hk₀ => ?_) hco hgen hk
    · rcases List.mem_cons.mp hy with e | hy
      · rw [e]; exact hself
      · rcases List.mem_cons.mp hy with e | hy
        · rw [e]; exact hreason
        · cases hy
    have X₀ : K.In h₀ := X.keeps hk₀
    have hxL : s.heap.objs.size ≠ x := Nat.ne_of_gt (Heap.lt_size hx)
    have hx₀ := hk₀ _ _ hx
    have env : callEnv fd s.heap.objs.size fI = callEnv fd s.heap.objs.size fI := rfl
    have l0 : (callEnv fd s.heap.objs.size fI).kindOf ("line" : Str) = some .local := hreason
    have l1 : (callEnv fd s.heap.objs.size fI).kindOf "self" = some .local := hself
    have hlocal : ∀ {h' : Heap} {g' : Array GenState} {d' : Drawn} {t' : Nat} {o' : OsState}, (∀ b o, h₀.get? b = some o → h'.get? b = some o) → (⟨h', g', d', t', o'⟩ : Shared).heap.Ns (callEnv fd s.heap.objs.size fI).locals (fun y => ([(("self" : Str), Value.ref x), (("line" : Str), v)]).reverse.lookup y) := fun k => Heap.Ns.keeps hns k
    unfold eB
    have hD₀ := X₀ _ _ hD
    have hsubD : Looks (model prog w) h₀ (isSubtype (.ref C) (.ref D)) true := looks_subIn X₀ T.subD
    refine ks_wpAt_execs_cons (ks_wpAt_Expr_any (ks_wpAt_MethodCall ?_ (he_init hline)) (by first | rfl | (unfold interactive; rw [show (callEnv fd s.heap.objs.size fI).scope.kind = _ from hk]; rfl)) rfl)
    refine ks_wpAt_super_base (f := fI) (of := oF) (fd := fd) (ar := { arg := "self", annotation := none, pos := p1 }) (cc := co) (oc := ok) (vs := vs) (file := file) (tf := tf) hsuper hclass rfl rfl (X₀ _ _ ho) hod (by rw [hpar]; rfl) (by show fd.code = _; exact hcode) (X₀ _ _ hcol) hokd hvs hfile T.top ?_
    refine ks_loadName_global hk hsuper (Calls.loadGlobal_builtin (mg := mg) (mb := mb) (by show Heap.Ns h₀ fd.globals mg; rw [hglob]; exact hgl.keeps hk₀) hm (by show Heap.Ns h₀ fd.builtins mb; rw [hblt]; exact hbl.keeps hk₀) hb ⟨rfl, ?_⟩)
    refine wpAny_loadName_free (c := cc) (v := .ref D) hk hclass (by show fd.closure.lookup _ = _; rw [hclo]; rfl) ⟨oc, X₀ _ _ hcc, hocd⟩ ?_
    refine wpAny_loadName_local hk hself (hlocal fun _ _ e => e) (v := .ref x) rfl ?_
    refine ks_wpAny_isType_cls hD₀ hDt ⟨rfl, ?_⟩
    refine ks_wpAny_call_super hD₀ hDt hx₀ rfl (fun c z => by cases z) hsubD fun h1 hso k1 => ?_
    have X₁ : K.In h1 := X₀.keeps k1
    have hx₁ := k1 _ _ hx₀
    have hI : InstAt h1 x (excO C t0) C none := ⟨hx₁, rfl, rfl, trivial⟩
    have hxC : x ≠ C := fun z => by rw [z, hC] at hnx; cases hnx
    have hal := T.al
    unfold ks_superIn at hal
    rw [hcl] at hal
    refine kxs_getMethod kxs_ValueError (l₀ := .ref C :: bm) hso (looks_opaque X₁ T.op) ?_ rfl X₁ hal (hI.type.andThen (looks_subIn X₁ T.subV)) hxC rfl ?_
    · exact (looks_clsIn X₁ hcl).andThen .now
    · have k2 : ∀ b o, h1.get? b = some o → (h1.push (kxs_mw "ValueError.__init__" x)).get? b = some o := fun b o e => Heap.get?_push_of_some _ e
      have hu : (h1.push (kxs_mw "ValueError.__init__" x)).get? h1.objs.size = some (kxs_mw "ValueError.__init__" x) := Heap.get?_push_at rfl rfl
      have X₂ := X₁.keeps k2
      refine kxs_callWith (i := "ValueError.__init__") (x := x) rfl (evalArgs_plain (Calls.spliced_cons (wpAny_Name (wpAny_loadName_local hk hreason (hlocal fun b o e => k2 b o (k1 b o e)) (v := v) rfl (Calls.spliced_nil ⟨hu, ?_⟩)))))
      refine init_raw (X₂ _ _ hC) hu (k2 _ _ hx₁) (by rw [sizeLine_eq]; show 1 ≤ 16777216; decide) fun h3 t1 k3 hx₃ => ?_
      have k03 : ∀ b o, b ≠ x → h₀.get? b = some o → h3.get? b = some o := fun b o n e => k3 b o n (k2 b o (k1 b o e))
      have X₃ : K.In h3 := fun a o e => k03 a o (fun z => by rw [z, hnx] at e; cases e) (X₀ a o e)
      have hn3 : h3.Ns s.heap.objs.size (fun y => ([(("self" : Str), Value.ref x), (("line" : Str), v)]).reverse.lookup y) := by
        obtain ⟨oL, es, ep, hL, r⟩ := hns
        exact ⟨oL, es, ep, k03 _ _ hxL hL, r⟩
      refine wpAt_of_wpAny (wpAny_execs_cons (plainObj_wpAny_Assign_Attribute ?_))
      refine wpAny_Name (wpAny_loadName_local hk hreason hn3 (v := v) rfl (wpAny_Name (wpAny_loadName_local hk hself hn3 (v := .ref x) rfl ?_)))
      refine set_plain X₃ (ox := excO C t1) (od := none) ⟨hx₃, rfl, rfl, trivial⟩ T.sa ?_
      refine exc_osa X₃ hx₃ hcl (show refsVE (.ref C :: bm) = true from hbm) rfl T.noN (fun h4 tk4 dx k4 dn dne hx₄ hn₄ => ?_)
      show wpAny _ _ (execs _ _) _ _ _
      have z : s.heap.objs.size < h3.objs.size := hn3.lt
      exact wpAny_execs_nil (hq h4 tk4 dx t1 ⟨fun b o hb e => k4 b o hb (k03 b o hb (hk₀ b o e)), hx₄, Nat.le_of_lt (Nat.lt_of_lt_of_le z dn), dne, hn₄⟩)
/-- such an error, made -/
structure MadeE (fl : Str) (h h' : Heap) (e C d : Addr) (v : Value) : Prop where
  keep : ∀ b o, h.get? b = some o → h'.get? b = some o
  new : h.objs.size ≤ e
  obj : ∃ oe vs, h'.get? e = some oe ∧ oe.cls = .ref C ∧ oe.dict = some d ∧ oe.data = .fields vs ∧ vs[1]? = some .none
  dbig : h.objs.size ≤ d
  dne : d ≠ e
  ns : h'.Ns1 d (fun y => if y = fl then some v else none)
theorem err_made {fl : Str} (T : ErrTxt fl prog K C D fI) {mg mb : Str → Option Value} {v : Value} (X : K.In s.heap) (hlim : s.heap.NoLimit) (hgl : s.heap.Ns mainGlobals mg) (hm : mg "super" = none) (hbl : s.heap.Ns builtinsNs mb) (hb : mb "super" = some (.type "super")) (hroom : A.depth + 1 < recursionLimit)
    (hq : ∀ h' tk e d, MadeE fl s.heap h' e C d v → R (.ok (.ret (.ref e))) { s with heap := h', toks := tk }) : codeAny (model prog w) A (.call (.ref C) ⟨[v], []⟩) R s := by
  obtain ⟨nm, q, N, bs, bm, sn, sub, ab, col, dd, k0, k1, k2, k3, k5, hC, hbm⟩ := T.cls
  obtain ⟨hp, g, dr, tk, os⟩ := s
  have k : ∀ b o, hp.get? b = some o → ((hp.push (kdv_tup [v])).push (excO C hp.objs.size)).get? b = some o := fun b o e => Heap.get?_push_of_some _ (Heap.get?_push_of_some _ e)
  have hget : ((hp.push (kdv_tup [v])).push (excO C hp.objs.size)).get? (hp.objs.size + 1) = some (excO C hp.objs.size) := by heap_get
  have hnx : K.lookup (hp.objs.size + 1) = none := by
    cases e : K.lookup (hp.objs.size + 1) with
    | none => rfl
    | some o =>
      have z : hp.get? (hp.objs.size + 1) = some o := X _ _ e
      exact absurd (Nat.lt_of_succ_lt (Heap.lt_size z)) (Nat.lt_irrefl _)
  refine call_own F.excBase_ValueError (fun X => refsVE_contains X bm hbm) (X _ _ hC) (looks_findIn X T.iC) (fun self => bind_fn X self T.tC) (by rw [sizeLine_eq]; show 1 ≤ 16777216; decide) ?_
  refine err_init (s := ⟨(hp.push (kdv_tup [v])).push (excO C hp.objs.size), g, dr, tk, os⟩) T (X.keeps k) (hlim.keeps k) (hgl.keeps k) hm (hbl.keeps k) hb hget hnx hroom fun h' tk' dx t1 M => ?_
  obtain ⟨k', hx, dn, dne, hns⟩ := M
  have old : ∀ b o, hp.get? b = some o → h'.get? b = some o := fun b o e => k' b o (Nat.ne_of_lt (Nat.lt_succ_of_lt (Heap.lt_size e))) (k b o e)
  have z : hp.objs.size + 1 + 1 ≤ dx := by
    first
      | (simpa only [Heap.size_push] using dn)
      | exact dn
  exact ⟨rfl, hq h' tk' (hp.objs.size + 1) dx ⟨old, Nat.le_succ _, ⟨_, _, hx, rfl, rfl, rfl, rfl⟩, Nat.le_trans (Nat.le_trans (Nat.le_succ _) (Nat.le_succ _)) z, dne, hns⟩⟩
end
theorem relO_reason {fl : Str} {v : V} {v' : Value} (r : RelV v v') (f : Str) : RelO (List.lookup f [(fl, v)]) (if f = fl then some v' else none) := by
  by_cases hw : f = fl
  · rw [if_pos hw, hw]
    have q : List.lookup fl [(fl, v)] = some v := by simp [List.lookup]
    rw [q]
    exact r
  · rw [if_neg hw]
    have qw : (f == fl) = false := by simpa using hw
    have q2 : List.lookup f [(fl, v)] = none := by simp [List.lookup, qw]
    rw [q2]
    trivial
section
variable {X : Cx} {C D fI : Addr}
def tMkErr (fl : Str) (C : Addr) (te : TE) : L2.St → Hp → XK → Prop := fun σ H Q => te σ H fun v H1 => ∀ d, H1 d = none → Q (.ref C) (some d) (upd H1 d (.xd [(fl, v)]))
theorem pmk_err {fl : Str} {x : Str} {a : Expr} {ta : TE} {p pos : Pos} {k : Nat} (T : ErrTxt fl X.prog X.K C D fI) (hC : X.mg x = some (.ref C)) (hs : X.mg "super" = none) (hr : Room k X.A) (ha : PE X a ta) (hg : Gl X x) (hd : (x == ("__debug__" : Str)) = false)
    (he : starEach (a :: []) X.env = (false, eval a X.env) :: starEach [] X.env) : PMk X (.Call (.Name x p) [a] [] pos) (tMkErr fl C ta) := by
  intro pins s σ H Q I h
  refine wpAny_Call_Name_kw (ld_glob I hg hC ?_ hd)
  refine PySem.W.callWith_K (h₀ := X.base) I.ok.mod.kin T.kC (thn ((pa_cons ha pa_nil he).run pos pins s σ H (fun vs H1 => match vs with
    | [v] => ∀ d, H1 d = none → Q (.ref C) (some d) (upd H1 d (.xd [(fl, v)]))
    | _ => False) I h) fun us s1 hh => ?_) he rfl
  · obtain ⟨vs, H1, I1, r1, q1⟩ := hh
    obtain ⟨v, rfl⟩ : ∃ v, vs = [v] := by
      match vs, q1 with
      | [v], _ => exact ⟨v, rfl⟩
    have q1 : ∀ d, H1 d = none → Q (.ref C) (some d) (upd H1 d (.xd [(fl, v)])) := q1
    refine ⟨I1.kIn, ?_⟩
    obtain ⟨v', rfl, rv⟩ := vals1 r1
    show wpAny _ _ (PySem.call (.ref C) [v']) _ _ _
    have hlim := I1.nolimit
    obtain ⟨mb, h1, h2⟩ := I1.mod.blt
    have gl := I1.mod.glob.keeps I1.bk
    have bl := h1.keeps I1.bk
    obtain ⟨hp, g, dr, tk, os⟩ := s1
    refine wpAny_call (err_made T I1.kIn hlim gl hs bl ((h2 "super" (by decide)).trans (by decide +kernel)) (by have := hr.dp; omega) fun h' tk' e d M => ?_)
    show MkP X pins σ Q (.ref e) ⟨h', g, dr, tk', os⟩
    obtain ⟨oe, fv, hoe, hc, hdd, hdat, hn1⟩ := M.obj
    have hns := M.ns
    obtain ⟨G', g1, g2⟩ := restrict h' fun b => decide (b ≠ e)
    have gk : ∀ b, b ≠ e → G'.get? b = h'.get? b := fun b hb => g1 b (decide_eq_true hb)
    have ge : G'.get? e = none := g2 e (by simp)
    have old : ∀ b o, hp.get? b = some o → G'.get? b = some o := fun b o q => (gk b (Nat.ne_of_lt (Nat.lt_of_lt_of_le (Heap.lt_size q) M.new))).trans (M.keep b o q)
    have ob : ObjOk X.prog X.w (upd H1 d (.xd [(fl, v)])) G' d (.xd [(fl, v)]) :=
      ⟨_, hns.at (fun o q => (gk d M.dne).trans q), fun f => relO_reason rv f⟩
    have J : Inv X pins σ (upd H1 d (.xd [(fl, v)])) ⟨G', g, dr, tk', os⟩ := I1.laid (t' := tk') old M.dbig ob
    refine ⟨e, oe, fv, ⟨G', g, dr, tk', os⟩, _, .ref C, some d, rfl, J, fun b o q => ?_, ge, hoe, ⟨hc, hdd⟩, hdat, hn1, ?_, rfl, I1.bare, raises_own T.exC T.tyC, q1 d (I1.hok.fresh M.dbig)⟩
    · by_cases hb : b = e
      · have q' : G'.get? b = some o := q
        rw [hb, ge] at q'; cases q'
      · exact (gk b hb).symm.trans q
    · rw [upd_ne (Ne.symm M.dne)]
      exact I1.hok.fresh M.new
end
end PX
end
section
set_option Elab.async false
set_option linter.all false
set_option maxRecDepth 100000
set_option autoImplicit false
set_option maxHeartbeats 2000000
/-! PXs: raise; try with several clauses that name the error. -/
namespace PX
open PySem L2 PySem.Spec PyProof.Rows
abbrev Clause := Value × Nat × (Addr → Value → Option Addr → TS)
def wMA (K : Fg) (Wout : WX) (D : Ends) : List Clause → WX
  | [] => Wout
  | (c, i, ts) :: r => fun cls d σ H => ∃ k, PySem.W.exmOne K cls c = some k ∧ (k = true → ∀ a, H a = none → ts a cls d { nx := fun σ' H' => D.nx (σ'.set i none) H', rt := D.rt, bk := fun σ' H' => D.bk (σ'.set i none) H', ct := fun σ' H' => D.ct (σ'.set i none) H' } (σ.set i (some (.ref a))) H) ∧
      (k = false → wMA K Wout D r cls d σ H)
inductive HdsA (X : Cx) : List ExceptHandler → List Clause → Prop
  | nil : HdsA X [] []
  | cons {x n : Str} {i : Nat} {c : Value} {ts : Addr → Value → Option Addr → TS} {st : Stmt} {sts : List Stmt} {np pos' : Pos} {hds : List ExceptHandler} {l : List Clause} (hi : X.N[i]? = some n) (hln : X.env.kindOf n = some .local) (hc : Names X x c)
      (hsu : ∀ (a : Addr) (oe : Obj) (cls : Value) (d : Option Addr) (pn : List (Addr × Obj)), Zc cls d oe → (∃ vs, oe.data = .fields vs) → PSs (X.suite a ((a, oe) :: pn)) (st :: sts) (ts a cls d)) (r : HdsA X hds l) :
      HdsA X (.ExceptHandler (some (.Name x np)) (some n) (st :: sts) pos' :: hds) ((c, i, ts) :: l)
section
variable {X : Cx} {body : List Stmt} {h₀ : ExceptHandler} {hds : List ExceptHandler} {l : List Clause} {pos : Pos} {tb : WX → TS} {Wout : WX}
theorem ps_try_named (hs : X.stack = X.env :: X.outer) (hf : X.env.frame = some X.env.locals) (hN : X.N.Nodup) (tk : Takes X Wout)
    (hb : ∀ (W : WX) (pn : List (Addr × Obj)) (xe : Value → Shared → Prop), Takes (X.tr pn xe) W → PassesOwn (model X.prog X.w) X.A X.env xe → PSs (X.tr pn xe) body (tb W))
    (hh : HdsA X (h₀ :: hds) l) : PS X (.Try body (h₀ :: hds) [] [] pos) (fun D σ H => tb (wMA X.K Wout D l) D σ H) := by
  refine ⟨fun pins s σ H D I q0 => ?_⟩
  have okX := I.ok
  have hfrm : X.A.frames = some (X.env :: X.outer) := by rw [okX.frames, hs]
  refine wpAny_Try_except ?_
  refine wpAny_mono ((hb (wMA X.K Wout D l) (X.pn ++ pins) (fun e s₁ => wpAny (model X.prog X.w) X.A (noteFrame e X.env) (fun _ s₂ => wpAny (model X.prog X.w) X.A (setFlight e none) (fun _ s₃ =>
    wpAny (model X.prog X.w) X.A (handleBy e X.env (h₀ :: hds)) (SP X pins D) X.xe s₃) X.xe s₂) X.xe s₁) (fun u s' xx => ?_) PassesOwn.looking).run [] s σ H D (I.toTry _) q0) (fun f s1 hsp => ?_) (fun e s1 he => he)
  · obtain ⟨a, B, sI, pins', σ', H', cls, d, rfl, J', nb, up, sky, na, os, ag, w⟩ := xx
    have J : Inv X pins σ' H' sI := J'.ofTry okX
    have skyX : Sky B (X.env :: X.outer) a (Zc cls d) X.env.locals s'.heap := by rw [← hs]; exact sky
    show wpAny (model X.prog X.w) X.A (noteFrame (.ref a) X.env) _ _ _
    refine Sky.land Zc.steady hfrm hf skyX fun g3 fly3 up3 => ?_
    have J3 : Inv X pins σ' H' { s' with heap := g3 } := J.landed nb fly3.1 (up.trans up3) os ag
    obtain ⟨oe3, vs3, he3, hz3, hd3⟩ := fly3.there
    have notIn : a ∉ frs (X.env :: X.outer) := fun hm => by
      obtain ⟨_, o', e', hnf⟩ := fly3.2.2.1.mem hm
      rw [he3] at e'
      cases e'
      exact hnf _ hd3
    have nL : a ≠ X.env.locals := fun z => notIn (List.mem_filterMap.mpr ⟨X.env, List.mem_cons_self, by rw [hf, z]⟩)
    have nF : a ∉ X.fs := fun hm => by
      obtain ⟨e, he, q⟩ := List.mem_filterMap.mp hm
      exact notIn (List.mem_filterMap.mpr ⟨e, List.mem_cons_of_mem _ he, q⟩)
    have S3 := J3.suite he3 hd3 na nL nF
    have go : ∀ {hds' : List ExceptHandler} {l' : List Clause}, HdsA X hds' l' → wMA X.K Wout D l' cls d σ' H' → wpAny (model X.prog X.w) X.A (handleBy (.ref a) X.env hds') (SP X pins D) X.xe { s' with heap := g3 } := by
      intro hds' l' hk
      induction hk with
      | nil =>
        intro w
        refine wpAny_handleBy_nil ?_
        obtain ⟨j1, j2, j3, oe, vs, T, oT, ts', he, hz, hd, h1, hr⟩ := id fly3
        unfold PySem.passOn
        refine wpAny_bind (wpAny_field he hd h1 ?_)
        rw [if_neg (show ¬ ((Value.ref T == Value.none) = true) from by simp)]
        have out : wpAny (model X.prog X.w) X.A (setFlight (.ref a) X.env.frame) (fun _ s4 => wpAny (model X.prog X.w) X.A (throw (.ref a) : Sem Flow) (SP X pins D) X.xe s4) X.xe { s' with heap := g3 } := by
          rw [hf]
          refine HandSPX.setFlight_upZ fly3 fun h4 hh4 up4 => wpAny_throw (tk _ _ ?_)
          exact ⟨a, B, sI, pins, σ', H', cls, d, rfl, J, nb, (up.trans up3).trans up4, .inr (.inr (by rw [hs]; exact hh4)), na, os, ag, w⟩
        first
          | exact wpAny_bind (wpAny_pure (wpAny_bind out))
          | exact wpAny_bind out
      | @cons x n i c ts st sts np pos' hds2 l2 hi hln hc hsu r ih =>
        intro w
        obtain ⟨k, hk1, hyes, hno⟩ := w
        refine wpAny_handleBy_cons (codeAny_handlers_test ?_) (by intro q; cases q)
        have LT : PySem.W.Looks (model X.prog X.w) g3 (typeOf (.ref a)) cls := fun A Q E s k q => wpAny_typeOf_ref (k _ _ he3) (by rw [hz3.1]; exact q)
        have LM := PySem.W.exm_one (M := model X.prog X.w) (J3.kIn) LT hk1
        have asks : ∀ {Q : Value → Shared → Prop} {E : Value → Shared → Prop}, Q c { s' with heap := g3 } → wpAny (model X.prog X.w) (X.A.mark (some (.ref a))) (eval (.Name x np) X.env) Q E { s' with heap := g3 } := fun {Q E} q => by
          obtain ⟨hg, hdbg, hm | ⟨hm, hv, hnn⟩⟩ := hc
          · exact ld_glob (X := X.suite a ((a, oe3) :: (X.pn ++ pins))) S3 hg hm q hdbg
          · exact ld_blt (X := X.suite a ((a, oe3) :: (X.pn ++ pins))) S3 hg hm hv q hnn hdbg
        refine asks (LM.here ?_)
        cases k with
        | true =>
          refine codeAny_handlers_suite_as ?_
          refine HandSPX.lands_againZ fly3 fun h4 fly4 up4 => ?_
          have J4 : Inv X pins σ' H' { s' with heap := h4 } := J.landed nb fly4.1 ((up.trans up3).trans up4) os ag
          obtain ⟨oe4, vs4, he4, hz4, hd4⟩ := fly4.there
          have S4 := J4.suite he4 hd4 na nL nF
          refine store_ok (X := X.suite a ((a, oe4) :: (X.pn ++ pins))) (v := .ref a) S4 hN hi (.inl hln) rfl (fun s5 S5 => ?_) (.inr hln)
          refine wpAny_mono ((hsu a oe4 cls d (X.pn ++ pins) hz4 ⟨_, hd4⟩).run [] s5 _ H' _ S5 (hyes rfl a na)) (fun f s6 hsp => ?_) (fun _ _ z => False.elim z)
          have last : ∀ {σ6 : L2.St} {H6 : Hp} {Q : Shared → Prop}, Inv (X.suite a ((a, oe4) :: (X.pn ++ pins))) [] σ6 H6 s6 → (∀ s7, Inv X pins (σ6.set i none) H6 s7 → Q s7) →
              wpAny (model X.prog X.w) X.A (do bindName X.env n .none; unbindBehindTheSuite X.env n pos') (fun _ s7 => Q s7) X.xe s6 := fun {σ6 H6 Q} S6 hq => gone_ok (S6.unsuite okX) hN hi hln hq
          cases f with
          | next =>
            obtain ⟨σ6, H6, S6, q6⟩ := hsp
            exact last S6 fun s7 J7 => ⟨_, _, J7, q6⟩
          | brk =>
            obtain ⟨σ6, H6, S6, q6⟩ := hsp
            exact last S6 fun s7 J7 => ⟨_, _, J7, q6⟩
          | cont =>
            obtain ⟨σ6, H6, S6, q6⟩ := hsp
            exact last S6 fun s7 J7 => ⟨_, _, J7, q6⟩
          | ret u =>
            obtain ⟨v6, σ6, H6, S6, r6, q6⟩ := hsp
            exact last S6 fun s7 J7 => ⟨_, _, _, J7, r6, q6⟩
        | false =>
          show wpAny _ X.A (handleBy (.ref a) X.env hds2) _ _ _
          exact ih (hno rfl)
    exact go hh w
  · cases f with
    | next =>
      obtain ⟨σ', H', J', q⟩ := hsp
      exact wpAny_execs_nil ⟨σ', H', J'.ofTry okX, q⟩
    | brk =>
      obtain ⟨σ', H', J', q⟩ := hsp
      exact ⟨σ', H', J'.ofTry okX, q⟩
    | cont =>
      obtain ⟨σ', H', J', q⟩ := hsp
      exact ⟨σ', H', J'.ofTry okX, q⟩
    | ret u =>
      obtain ⟨v, σ', H', J', r, q⟩ := hsp
      exact ⟨v, σ', H', J'.ofTry okX, r, q⟩
end
/-! ### raise -/
section
variable {X : Cx} {C : Cfg} {ca : Nat → Addr} {W : WX} {b : Bs} {a : Expr} {f : Sl → G → R PX.D} {x : Str} {p pos pos2 : Pos} {c : Nat}
theorem s_rai {fl : Str} {Dc fI : Addr} {k : Nat} (hc : X.calm = true) (tk : Takes X W) (T : ErrTxt fl X.prog X.K (ca c) Dc fI) (hC : X.mg x = some (.ref (ca c))) (hs : X.mg "super" = none) (hr : Room k X.A) (ha : PE X a (tE (fx C ca X W) f)) (hg : Gl X x) (hd : (x == ("__debug__" : Str)) = false)
    (he : starEach (a :: []) X.env = (false, eval a X.env) :: starEach [] X.env) (hl : c < C.cl.length) (hf : C.flds.getD c [] = [fl]) :
    PS X (.Raise (some (.Call (.Name x p) [a] [] pos)) none pos2) (tSt (fx C ca X W) b fun s g => lift s (f s g) fun d g => if flats [d] = true then .exc ⟨c, [d]⟩ s g else .bad) := by
  refine (L2.ps_raise hc tk (pmk_err T hC hs hr ha hg hd he)).impX fun D σ H ⟨ρ, B, s, g, S, q⟩ => ?_
  refine ⟨ρ, B, s, g, S.sim, OutSt.lift (R' := rRep X.K) S q fun d g1 v H1 ρ1 _ e1 S1 r1 q1 dd hdd => ?_⟩
  by_cases hfl : flats [d] = true
  · rw [if_pos hfl] at q1
    have e2 : Ext ρ1 H1 ρ1 (upd H1 dd (.xd [(fl, v)])) := Ext.laid hdd
    have hfd : flat d = true := by simpa [flats] using hfl
    refine q1 (.ref (ca c)) (some dd) σ _ ρ1 B (S1.step e2 (S1.sim.laid hdd)) ⟨rfl, hl, hfl, dd, [v], rfl, ?_, .cons ((r1.ext e2).flat hfd) .nil⟩
    rw [hf, upd_same]
    rfl
  · rw [if_neg hfl] at q1; exact q1.elim
end
end PX
end
section
set_option Elab.async false
set_option linter.all false
set_option maxRecDepth 100000
set_option autoImplicit false
set_option maxHeartbeats 2000000
/-! PXt: what an except suite returns; try. -/
namespace PX
open PySem L2 PySem.Spec PyProof.Rows
/-- an except suite's answer: x the error, at a; slot i is its name's -/
def tSE (C : Cfg) (ca : Nat → Addr) (K : Fg) (x : Ex) (cc i : Nat) (a : Addr) (cls : Value) (d : Option Addr) (e : SE) : TE := fun σ H Q => (∃ τ : L2.St, σ = τ.set i (some (.ref a))) ∧ XRep C ca K x cls d H ∧
  C.pr.sub x.c cc = true ∧ ∃ dv, se C.pr.sub x e = some dv ∧ ∀ v H', (∀ p o, H p = some o → H' p = some o) → Rep K [] [] H' v dv → Q v H'
def tsE (C : Cfg) (ca : Nat → Addr) (K : Fg) (cc i : Nat) (e : SE) (a : Addr) (cls : Value) (d : Option Addr) : TS := fun D σ H => ∃ x, tRet (tSE C ca K x cc i a cls d e) D σ H
section
variable {X : Cx} {C : Cfg} {ca : Nat → Addr} {x : Ex} {cc i : Nat} {a : Addr} {cls : Value} {d : Option Addr} {oe : Obj} {pn : List (Addr × Obj)} {e e1 e2 : Expr} {s1 s2 : SE} {pos p : Pos} {n : Str}
theorem se_lit {v : V} {dv : PX.D} (h : PE (X.suite a ((a, oe) :: pn)) e (tC v)) (r : ∀ H, Rep X.K [] [] H v dv) : PE (X.suite a ((a, oe) :: pn)) e (tSE C ca X.K x cc i a cls d (.lit dv)) :=
  h.impX fun σ H Q ⟨_, _, _, dv', e, q⟩ => by
    cases e
    exact q v H (fun _ _ h => h) (r H)
theorem se_fld {fl : Str} (hN : X.N[i]? = some n) (hv : Vis X.env.scope n) (hd : (n == ("__debug__" : Str)) = false) (hcd : (n == ("__classdict__" : Str)) = false) (hx : ∀ c, c < C.cl.length → C.pr.sub c cc = true → XfC X.K (ca c) ∧ PySem.W.findIn X.K (.ref (ca c)) fl = some none ∧ C.flds.getD c [] = [fl])
    (hz : Zc cls d oe) (hf : ∃ vs, oe.data = .fields vs) : PE (X.suite a ((a, oe) :: pn)) (.Attribute (.Name n p) fl pos) (tSE C ca X.K x cc i a cls d (.fld 0)) := by
  refine ⟨fun pins s σ H Q I ⟨⟨τ, hτ⟩, ⟨hc, hl, hfl, dd, vs, ed, hdd, rl⟩, hcc, dv, edv, q⟩ => ?_⟩
  have hi : i < σ.length := by
    have h1 : i < X.N.length := (List.getElem?_eq_some_iff.mp hN).1
    have h2 : σ.length = X.N.length := I.len
    omega
  have hs : σ[i]? = some (some (.ref a)) := by
    subst hτ
    rw [List.length_set] at hi
    rw [List.getElem?_set, if_pos rfl, if_pos hi]
  obtain ⟨T, hno, hfd⟩ := hx x.c hl hcc
  have edv : x.args[0]? = some dv := edv
  obtain ⟨v0, hv0, rv0⟩ := rl.get edv
  rw [hfd] at hdd
  have hlk : List.lookup fl (List.zip [fl] vs) = some v0 := by
    cases vs with
    | nil => simp at hv0
    | cons w ws =>
      have : w = v0 := by simpa using hv0
      subst this
      simp [List.zip, List.lookup]
  exact (pe_xf (C := ca x.c) T hno hz hf (pe_var (X := X.suite a ((a, oe) :: pn)) hN hv hd hcd) rfl).run pins s σ H Q I ⟨.ref a, hs, rfl, hc, dd, _, v0, ed, hdd, hlk, q v0 H (fun _ _ h => h) rv0⟩
/-- isinstance of the error that the suite holds -/
def rIsX (K : Fg) (D a : Addr) (d : Option Addr) : List V → Hp → VK → Prop := fun xs H Q => (∃ dd fs, d = some dd ∧ H dd = some (.xd fs)) ∧ L2.rIsE K D a xs H Q
theorem call_isX {a D : Addr} {oe : Obj} {pn : List (Addr × Obj)} {d : Option Addr} (C : L2.ExcC X.K D) (hz : Zc (.ref D) d oe) (hf : ∃ vs, oe.data = .fields vs) : CallR (X.suite a ((a, oe) :: pn)) (.builtin "isinstance") (rIsX X.K D a d) := by
  intro pins s σ H xs us Q I r h
  obtain ⟨⟨dd, fs, rfl, ea⟩, c, cv, b, rfl, hcv, e, q⟩ := h
  cases r with
  | cons rx rr =>
    cases rr with
    | cons rt rr =>
      cases rr
      cases rx
      have ec := hcv _ rt
      subst ec
      obtain ⟨hget, _⟩ := I.pin (a, oe) (List.mem_append.mpr (.inl List.mem_cons_self))
      obtain ⟨vs, hv⟩ := hf
      have hx : ObjOk X.prog X.w H s.heap dd (.xd fs) := I.hok dd _ ea
      obtain ⟨mA, hns, hr⟩ := hx
      obtain ⟨od, ho, hl⟩ := lookIn_ns hns
      have J : PySem.W.InstAt s.heap a oe D (some od) := ⟨hget, hz.1, by unfold PySem.W.notCls; rw [hv] <;> rfl, by rw [hz.2]; exact ho⟩
      have hcl : (PySem.W.clsIn X.K D).isSome = true := by
        obtain ⟨cdD, hcD, _⟩ := PySem.W.any_some C.hd
        rw [hcD]; rfl
      exact PySem.W.kia_one (PySem.W.kitx_exc hcl C.hg C.hk C.hs C.ha C.hn C.ht C.hm) I.kIn J e (fun z => nomatch z) fun tk => ⟨.bl b, H, I.kept (t' := tk) fun _ _ z => z, rfl, q⟩
theorem se_ifIs {z : Str} {c : Nat} {p0 p1 p2 p3 : Pos} (hN : X.N[i]? = some n) (hv : Vis X.env.scope n) (hd : (n == ("__debug__" : Str)) = false) (hcd : (n == ("__classdict__" : Str)) = false)
    (hx : ∀ c, c < C.cl.length → L2.ExcC X.K (ca c)) (hkit : ∀ c c', c < C.cl.length → c' < C.cl.length → PySem.W.kitOne X.K (.ref (ca c)) (.ref (ca c')) = some (C.pr.sub c c')) (hc : c < C.cl.length)
    (gi : Gl X "isinstance") (mi : X.mg "isinstance" = none) (gz : Gl X z) (mz : X.mg z = some (.ref (ca c))) (dz : (z == ("__debug__" : Str)) = false) (hz : Zc cls d oe) (hf : ∃ vs, oe.data = .fields vs)
    (h1 : PE (X.suite a ((a, oe) :: pn)) e1 (tSE C ca X.K x cc i a cls d s1)) (h2 : PE (X.suite a ((a, oe) :: pn)) e2 (tSE C ca X.K x cc i a cls d s2)) :
    PE (X.suite a ((a, oe) :: pn)) (.IfExp (.Call (.Name "isinstance" p0) [.Name n p1, .Name z p2] [] p3) e1 e2 pos) (tSE C ca X.K x cc i a cls d (.ifIs c s1 s2)) := by
  refine ⟨fun pins s σ H Q I ⟨⟨τ, hτ⟩, xr, hcc, dv, edv, q⟩ => ?_⟩
  have hi : i < σ.length := by
    have h1 : i < X.N.length := (List.getElem?_eq_some_iff.mp hN).1
    have h2 : σ.length = X.N.length := I.len
    omega
  have hs : σ[i]? = some (some (.ref a)) := by
    subst hτ
    rw [List.length_set] at hi
    rw [List.getElem?_set, if_pos rfl, if_pos hi]
  have xr0 := xr
  obtain ⟨hcl, hl, hfl, dd, vs, ed, hdd, rl⟩ := xr0
  subst hcl
  have P := pe_ifExp (pos := pos) (pt_val (pe_callB (X := X.suite a ((a, oe) :: pn)) (p := p0) (pos := p3) (call_isX (hx _ hl) hz hf) gi mi rfl (pa_cons (pe_var (X := X.suite a ((a, oe) :: pn)) (pos := p1) hN hv hd hcd) (pa_cons (pe_glob (X := X.suite a ((a, oe) :: pn)) (v := .ref (ca c)) (pos := p2) gz mz rfl dz) pa_nil)))) h1 h2
  refine P.run pins s σ H Q I ⟨.ref a, hs, ⟨dd, _, ed, hdd⟩, .ref (ca c), .ref (ca c), C.pr.sub x.c c, rfl, fun u r => r, hkit _ _ hl hc, C.pr.sub x.c c, rfl, ?_⟩
  have edv : (if C.pr.sub x.c c = true then se C.pr.sub x s1 else se C.pr.sub x s2) = some dv := edv
  show (if C.pr.sub x.c c = true then tSE C ca X.K x cc i a (Value.ref (ca x.c)) d s1 σ H Q else tSE C ca X.K x cc i a (Value.ref (ca x.c)) d s2 σ H Q)
  by_cases z : C.pr.sub x.c c = true
  · rw [if_pos z] at edv ⊢
    exact ⟨⟨τ, hτ⟩, xr, hcc, dv, edv, q⟩
  · rw [if_neg z] at edv ⊢
    exact ⟨⟨τ, hτ⟩, xr, hcc, dv, edv, q⟩
theorem se_tup {k : Nat} (h1 : PE (X.suite a ((a, oe) :: pn)) e1 (tSE C ca X.K x cc i a cls d s1)) (h2 : PE (X.suite a ((a, oe) :: pn)) e2 (tSE C ca X.K x cc i a cls d s2)) (hs1 : starEach [e1, e2] X.env = (false, eval e1 X.env) :: starEach [e2] X.env) (hs2 : starEach [e2] X.env = (false, eval e2 X.env) :: starEach [] X.env) :
    PE (X.suite a ((a, oe) :: pn)) (.Tuple [e1, e2] k pos) (tSE C ca X.K x cc i a cls d (.tup2 s1 s2)) := by
  refine (pe_tup (pa_cons h1 (pa_cons h2 pa_nil hs2) hs1)).impX fun σ H Q ⟨hτ, xr, hcc, dv, edv, q⟩ => ?_
  have edv : ((se C.pr.sub x s1).bind fun d => (se C.pr.sub x s2).map fun d' => PX.D.tup [d, d']) = some dv := by simpa only [se] using edv
  cases z1 : se C.pr.sub x s1 with
  | none => rw [z1] at edv; cases edv
  | some d1 =>
    rw [z1] at edv
    cases z2 : se C.pr.sub x s2 with
    | none =>
      have edv : ((se C.pr.sub x s2).map fun d' => PX.D.tup [d1, d']) = some dv := edv
      rw [z2] at edv; cases edv
    | some d2 =>
      have edv : ((se C.pr.sub x s2).map fun d' => PX.D.tup [d1, d']) = some dv := edv
      rw [z2] at edv
      cases edv
      refine ⟨hτ, xr, hcc, d1, z1, fun v1 H1 k1 r1 => ⟨hτ, ?_, hcc, d2, z2, fun v2 H2 k2 r2 => ?_⟩⟩
      · obtain ⟨hc, hl, hfl, dd, vs, ed, hdd, rl⟩ := xr
        exact ⟨hc, hl, hfl, dd, vs, ed, k1 _ _ hdd, rl.ext ⟨⟨[], by simp, by simp⟩, fun a o h _ => k1 a o h, fun a o h => ⟨o, k1 a o h⟩, fun a xs h => k1 a _ h, fun a o u h => k1 a _ h⟩⟩
      · refine ⟨by rw [sizeLine_eq]; show 2 ≤ 16777216; decide, fun p hp => q _ _ (fun p' o h => ?_) ?_⟩
        · have hne : p' ≠ p := fun z => by
            have := k2 p' o (k1 p' o h)
            rw [z, hp] at this; cases this
          rw [upd_ne hne]
          exact k2 p' o (k1 p' o h)
        · have ex : Ext [] H1 [] H2 := ⟨⟨[], by simp, by simp⟩, fun a o h _ => k2 a o h, fun a o h => ⟨o, k2 a o h⟩, fun a xs h => k2 a _ h, fun a o u h => k2 a _ h⟩
          have e2 : Ext [] H2 [] (upd H2 p (.tup [v1, v2])) := Ext.laid hp
          exact .tup (.inl (.inl upd_same)) (.cons ((r1.ext ex).ext e2) (.cons (r2.ext e2) .nil))
end
/-- the clauses of a try and the interpreter's -/
inductive ClsOk (C : Cfg) (ca : Nat → Addr) (K : Fg) : List (Nat × SE) → List Clause → Prop
  | nil : ClsOk C ca K [] []
  | cons {c i : Nat} {e : SE} {hs : List (Nat × SE)} {l : List Clause} : c < C.cl.length → ClsOk C ca K hs l → ClsOk C ca K ((c, e) :: hs) ((.ref (ca c), i, tsE C ca K c i e) :: l)
section
variable {X : Cx} {C : Cfg} {ca : Nat → Addr} {W : WX} {b : Bs} {body : List Stmt} {h₀ : ExceptHandler} {hds : List ExceptHandler} {l : List Clause} {hl : List (Nat × SE)} {pos : Pos} {fb : Sl → G → Fl}
theorem s_try (hs : X.stack = X.env :: X.outer) (hf : X.env.frame = some X.env.locals) (hN : X.N.Nodup) (tk : Takes X W)
    (hb : ∀ (W : WX) (pn : List (Addr × Obj)) (xe : Value → Shared → Prop), Takes (X.tr pn xe) W → PassesOwn (model X.prog X.w) X.A X.env xe → PSs (X.tr pn xe) body (tSt ⟨C, ca, X.K, W⟩ b fb))
    (hh : HdsA X (h₀ :: hds) l) (ho : ClsOk C ca X.K hl l) (hsub : ∀ c c', c < C.cl.length → c' < C.cl.length → PySem.W.exmOne X.K (.ref (ca c)) (.ref (ca c')) = some (C.pr.sub c c')) :
    PS X (.Try body (h₀ :: hds) [] [] pos) (tSt (fx C ca X W) b fun s g => match fb s g with
      | .exc x s g => handle C.pr.sub x s g hl
      | r => r) := by
  refine (ps_try_named hs hf hN tk (tb := fun W => tSt ⟨C, ca, X.K, W⟩ b fb) hb hh).impX fun D σ H hq => ?_
  obtain ⟨ρ, B, s, g, S, q⟩ := hq
  refine ⟨ρ, B, s, g, S, ?_⟩
  cases z : fb s g with
  | nx s1 g1 => simp only [z] at q; exact q
  | ret fr d g1 => simp only [z] at q; exact q
  | bad => simp only [z] at q; exact q.elim
  | exc x s1 g1 =>
    simp only [z] at q
    intro cls dx σ1 H1 ρ1 B1 S1 xr
    show wMA X.K W D l cls dx σ1 H1
    clear hh
    induction ho with
    | nil => exact q cls dx σ1 H1 ρ1 B1 S1 xr
    | @cons c i e hs' l' hc r ih =>
      have xr0 := xr
      obtain ⟨hcl, hlt, hfl, _⟩ := xr0
      refine ⟨C.pr.sub x.c c, by rw [hcl]; exact hsub _ _ hlt hc, fun hk a hna => ?_, fun hk => ?_⟩
      · have q : OutSt (fx C ca X W) b ρ B H (if C.pr.sub x.c c then (match se C.pr.sub x e with
          | some d => if flat d = true then .ret false d g1 else .bad
          | none => .bad) else handle C.pr.sub x s1 g1 hs') D := q
        rw [if_pos hk] at q
        cases z2 : se C.pr.sub x e with
        | none => rw [z2] at q; exact q.elim
        | some dv =>
          rw [z2] at q
          have q : OutSt (fx C ca X W) b ρ B H (if flat dv = true then .ret false dv g1 else .bad) D := q
          by_cases hfd : flat dv = true
          · rw [if_pos hfd] at q
            refine ⟨x, ⟨σ1, rfl⟩, xr, hk, dv, z2, fun v H' k r => ?_⟩
            obtain ⟨k1, k2⟩ := S1.base.1.still k
            exact q v H' ρ1 (S1.ext.trans k1) k2 (r.flat hfd)
          · rw [if_neg hfd] at q; exact q.elim
      · have q : OutSt (fx C ca X W) b ρ B H (if C.pr.sub x.c c then (match se C.pr.sub x e with
          | some d => if flat d = true then .ret false d g1 else .bad
          | none => .bad) else handle C.pr.sub x s1 g1 hs') D := q
        rw [if_neg (by rw [hk]; simp)] at q
        exact ih q S1 xr
end
end PX
end
section
set_option Elab.async false
set_option linter.all false
set_option maxRecDepth 100000
set_option autoImplicit false
set_option maxHeartbeats 2000000
/-! PXu: which texts of the row an own expression stands for. -/
namespace PX
open PySem L2 PySem.Spec PyProof.Rows
inductive NK where
  | e | f | r
  deriving DecidableEq
def frOf (P : Pr) (i : Nat) : Bool := match P.fns[i]? with
  | some fn => fn.fresh
  | none => false
def nk (P : Pr) : E → NK
  | .bor _ => .r
  | .lst _ => .f
  | .p1 .list _ => .f
  | .p1 .sorted _ => .f
  | .p1 .dict _ => .f
  | .p2 .split _ _ => .f
  | .lstR _ _ _ => .f
  | .call i _ => if frOf P i = true then .f else .e
  | .lc _ _ _ _ => .f
  | _ => .e
def repK (P : Pr) (e : E) : Bool := match nk P e with
  | .r => false
  | _ => true
def isBoolE : E → Bool
  | .and_ _ _ => true
  | .or_ _ _ => true
  | .ite _ _ _ => true
  | _ => false
def isSrc : E → Bool
  | .p1 .range _ => true
  | .p1 .enum _ => true
  | _ => false
def isRange : E → Bool
  | .p1 .range _ => true
  | _ => false
def isEnum : E → Bool
  | .p1 .enum _ => true
  | _ => false
def p1Ok : P1 → Bool
  | .range => false
  | .enum => false
  | _ => true
def p1S : P1 → Str
  | .len => "len" | .list => "list" | .tuple => "tuple" | .any => "any" | .all => "all" | .sorted => "sorted" | .int => "int" | .str => "str" | .abs => "abs"
  | .range => "range" | .enum => "enumerate" | .dict => "dict" | .repr => "repr" | .bool => "bool"
def tyS : Ty → Str := fun t => Str.ofString (tyN t)
def visB (sc : Scope) (x : Str) : Bool := (match sc.names.lookup x with
  | some .local => true
  | some .cell => true
  | some .free => true
  | _ => false) && !(x == ("__debug__" : Str)) && !(x == ("__classdict__" : Str))
def glB (sc : Scope) (x : Str) : Bool := (match sc.names.lookup x with
  | some .globalImplicit => true
  | _ => false) && !(x == ("__debug__" : Str))
def noStar : Expr → Bool
  | .Starred _ _ => false
  | _ => true
def plainT : Expr → Bool
  | .UnaryOp .Not _ _ => false
  | .BoolOp _ _ _ => false
  | .IfExp _ _ _ _ => false
  | .Compare _ _ _ _ => false
  | _ => true
def noSet : Expr → Bool
  | .Set _ _ _ => false
  | _ => true
def noSlice : Expr → Bool
  | .Slice _ _ _ _ => false
  | _ => true
def opB : Bop → Operator → Bool := fun o op => match o, op with
    | .add, .Add => true | .sub, .Sub => true | .mul, .Mult => true | .mod, .Mod => true | .fdiv, .FloorDiv => true | .pow, .Pow => true
    | _, _ => false
def litB : D → Expr → Bool
  | .non, .Constant .none _ _ => true
  | .bl b, .Constant (.bool c) _ _ => b == c
  | .int i, .Constant (.int j) _ _ => decide (i = j)
  | .str t, .Constant (.str x) _ _ => decide (x = mkS t)
  | _, _ => false
inductive Md where
  | val | tst | it
  deriving DecidableEq
def plM : Md → Expr → Bool
  | .tst, A => plainT A
  | _, _ => true
def noIt : Md → Bool
  | .it => false
  | _ => true
def tailB (op : BoolOp) (r : List Expr) (pos : Pos) : Expr := match r with
  | [x] => x
  | r => .BoolOp op r pos
def tg1 (N : List Str) (scope sc' : Scope) (fnb : Str → Bool) (i : Nat) (x : Str) : Bool :=
  decide (N[i]? = some x) && (decide (sc'.names.lookup x = some .local) || (decide (sc'.names.lookup x = some .cell) && fnb x))
def tgs (N : List Str) (scope sc' : Scope) (fnb : Str → Bool) : List Nat → List Expr → Bool
  | [], [] => true
  | i :: is, .Name x _ :: es => tg1 N scope sc' fnb i x && tgs N scope sc' fnb is es
  | _, _ => false
def tgB (N : List Str) (scope sc' : Scope) (fnb : Str → Bool) : Tg → Expr → Bool
  | .one i, .Name x _ => tg1 N scope sc' fnb i x
  | .tup is, .Tuple es _ _ => tgs N scope sc' fnb is es
  | _, _ => false
def isTup : Expr → Bool
  | .Tuple _ _ _ => true
  | _ => false
def ownL (N : List Str) (tg : Tg) : List (Str × Nat) := tg.slots.map fun i => (N.getD i "", i)
def blkB (N : List Str) (sc scope : Scope) (own : List (Str × Nat)) : Bool :=
  decide (scope.kind = .function) && decide (∀ y ∈ scope.names, scope.names.lookup y.1 = some y.2) && decide (∀ p ∈ own, N[p.2]? = some p.1) &&
  decide (∀ y ∈ scope.names, y.2 = .free → sc.names.lookup y.1 = some .cell ∨ sc.names.lookup y.1 = some .free) &&
  decide (∀ y ∈ scope.names, y.2 = .local ∨ y.2 = .cell → y.1 ∈ own.map (·.1) ∨ y.1 ∉ N)
def blkFn (scope : Scope) : Str → Bool := fun x => scope.names.lookup x == some .cell
def Es.len : Es → Nat
  | .nil => 0
  | .cons _ es => es.len + 1
/-- arguments: values; values or lent containers; tests -/
inductive Ma where
  | rep | raw | tst
  deriving DecidableEq
section
variable (P : Pr) (fnN cnN : List Str) (N : List Str)
mutual
def isC : Scope → Md → E → Expr → Bool
  | sc, m, .lit d, A => plM m A && litB d A
  | sc, m, .con i, A => plM m A && (match A with
    | .Name x _ => decide (cnN[i]? = some x) && glB sc x
    | _ => false)
  | sc, m, .var i, A => plM m A && (match A with
    | .Name x _ => decide (N[i]? = some x) && visB sc x
    | _ => false)
  | sc, m, .bor i, A => noIt m && plM m A && (match A with
    | .Name x _ => decide (N[i]? = some x) && visB sc x
    | _ => false)
  | sc, m, .tup es, A => plM m A && (match A with
    | .Tuple as _ _ => isCs sc .rep es as && decide (es.len ≤ 1000)
    | _ => false)
  | sc, m, .lst es, A => plM m A && (match A with
    | .List as _ => isCs sc .rep es as && decide (es.len ≤ 1000)
    | _ => false)
  | sc, m, .bin o a b, A => plM m A && (match A with
    | .BinOp a' op b' _ => opB o op && isC sc .val a a' && isC sc .val b b'
    | _ => false)
  | sc, m, .neg a, A => plM m A && (match A with
    | .UnaryOp .USub a' _ => repK P a && isC sc .val a a'
    | _ => false)
  | sc, m, .not_ a, A => (match A with
    | .UnaryOp .Not a' _ => (match m with
      | .tst => isC sc .tst a a'
      | .val => !isBoolE a && isC sc .val a a'
      | .it => false)
    | _ => false)
  | sc, m, .and_ a b, A => (match A with
    | .BoolOp .And (a' :: r) pos => !r.isEmpty && (match m with
      | .tst => isC sc .tst a a' && isC sc .tst b (tailB .And r pos)
      | .val => repK P a && repK P b && isC sc .val a a' && isC sc .val b (tailB .And r pos)
      | .it => false)
    | _ => false)
  | sc, m, .or_ a b, A => (match A with
    | .BoolOp .Or (a' :: r) pos => !r.isEmpty && (match m with
      | .tst => isC sc .tst a a' && isC sc .tst b (tailB .Or r pos)
      | .val => repK P a && repK P b && isC sc .val a a' && isC sc .val b (tailB .Or r pos)
      | .it => false)
    | _ => false)
  | sc, m, .ite c a b, A => true && (match A with
    | .IfExp c' a' b' _ => (match m with
      | .tst => isC sc .tst c c' && isC sc .tst a a' && isC sc .tst b b'
      | _ => repK P a && repK P b && isC sc .tst c c' && isC sc .val a a' && isC sc .val b b')
    | _ => false)
  | sc, m, .cmp o a b, A => noIt m && (match A with
    | .Compare a' [op] [b'] _ => decide (op = opOf o) && !behindInMarks (opOf o) b' && isC sc .val a a' && isC sc .val b b'
    | _ => false)
  | sc, m, .isN a, A => noIt m && (match A with
    | .Compare a' [.Is] [.Constant .none _ _] _ => repK P a && isC sc .val a a'
    | _ => false)
  | sc, m, .notN a, A => noIt m && (match A with
    | .Compare a' [.IsNot] [.Constant .none _ _] _ => repK P a && isC sc .val a a'
    | _ => false)
  | sc, m, .chain o p a b c, A => noIt m && (match A with
    | .Compare a' [op, op2] [b', c'] _ => decide (op = opOf o) && decide (op2 = opOf p) && !lastMarks [opOf o, opOf p] [b', c'] && isC sc .val a a' && isC sc .val b b' && isC sc .val c c'
    | _ => false)
  | sc, m, .idx a i, A => plM m A && (match A with
    | .Subscript a' i' _ => noSlice i' && repK P i && isC sc .val a a' && isC sc .val i i'
    | _ => false)
  | sc, m, .slc a lo hi, A => plM m A && (match A with
    | .Subscript a' (.Slice lo' hi' none _) _ => isC sc .val a a' && (match lo' with
        | none => isNon lo
        | some x => !isNon lo && repK P lo && isC sc .val lo x) && (match hi' with
        | none => isNon hi
        | some x => !isNon hi && repK P hi && isC sc .val hi x)
    | _ => false)
  | sc, m, .rev a, A => plM m A && (match A with
    | .Subscript a' (.Slice none none (some (.UnaryOp .USub (.Constant (.int n) _ _) _)) _) _ => decide (n = 1) && isC sc .val a a'
    | _ => false)
  | sc, m, .isi t a, A => plM m A && (match A with
    | .Call (.Name x _) [a', .Name y _] [] _ => decide (x = "isinstance") && decide (y = tyS t) && glB sc x && glB sc y && noStar a' && isC sc .val a a'
    | _ => false)
  | sc, m, .p1 p a, A => true && (match A with
    | .Call (.Name x _) [a'] [] _ => decide (x = p1S p) && glB sc x && noStar a' && (match m, p with
      | .it, .range => repK P a && isC sc .val a a'
      | .it, .enum => repK P a && isC sc .val a a'
      | _, p => plM m A && p1Ok p && (if isRange a && decide (p = .list) then isC sc .it a a' else isC sc .val a a'))
    | _ => false)
  | sc, m, .p2 p a b, A => plM m A && (match A with
    | .Call (.Attribute o f ap) [b'] [] cp => (match p with
        | .split => decide (f = "split")
        | .join => decide (f = "join")
        | _ => false) && recvB o && (ap.endLine == cp.line) && noStar b' && isC sc .val a o && isC sc .val b b'
    | _ => false)
  | sc, m, .find a b d, A => plM m A && (match A with
    | .Call (.Attribute o f ap) [b', d'] [] cp => decide (f = "find") && recvB o && (ap.endLine == cp.line) && noStar b' && noStar d' && repK P b && repK P d && isC sc .val a o && isC sc .val b b' && isC sc .val d d'
    | _ => false)
  | sc, m, .lstR a b es, A => plM m A && (match A with
    | .List (a' :: b' :: as) _ => decide (es.len ≤ 900) && noStar a' && noStar b' && tokB b' && repK P a && repK P b && isC sc .val a a' && isC sc .val b b' && isR sc es as
    | _ => false)
  | _, _, .strike _ _, _ => false
  | sc, m, .call i es, A => plM m A && (match A with
    | .Call (.Name x _) (a' :: as) [] _ => decide (fnN[i]? = some x) && glB sc x && isCs sc .rep es (a' :: as)
    | _ => false)
  | sc, m, .callB i es, A => plM m A && (match A with
    | .Call (.Name x _) (a' :: as) [] _ => decide (fnN[i]? = some x) && glB sc x && !frOf P i && isCs sc .raw es (a' :: as)
    | _ => false)
  | sc, m, .lc elt tg it cs, A => plM m A && (match A with
    | .ListComp elt' [⟨tg', it', ifs, k⟩] scope _ => decide (k = 0) && noSet it' && (!isEnum it || isTup tg') && blkB N sc scope (ownL N tg) && tgB N scope (relS scope sc) (blkFn scope) tg tg' && decide (cs.len ≤ 1) &&
        repK P elt && isC sc .it it it' && isC (relS scope sc) .val elt elt' && isCs (relS scope sc) .tst cs ifs
    | _ => false)
def isCs : Scope → Ma → Es → List Expr → Bool
  | _, _, .nil, [] => true
  | sc, m, .cons e es, a :: as => noStar a && (match m with
    | .rep => repK P e && isC sc .val e a
    | .raw => isC sc .val e a
    | .tst => isC sc .tst e a) && isCs sc m es as
  | _, _, _, _ => false
/-- behind a token: replace of a sign by nothing may stand -/
def isS : Scope → E → Expr → Bool
  | sc, .strike o n, A => true && (match A with
    | .Call (.Attribute o' f ap) [.Constant (.str y) _ _, .Constant (.str z) _ _] [] cp => decide (f = "replace") && decide (y = mkS [n]) && decide (z = mkS []) && recvB o' && (ap.endLine == cp.line) && isC sc .val o o'
    | _ => false)
  | _, _, _ => false
def isR : Scope → Es → List Expr → Bool
  | _, .nil, [] => true
  | sc, .cons e es, A :: as => ((noStar A && repK P e && isC sc .val e A) || isS sc e A) && isR sc es as
  | _, _, _ => false
end
end
example (F : Nat → List D → G → R D) (cons : List D) (o : Bop) (a b : E) : ev cons F (.bin o a b) .val = fun s g => (ev cons F a .val s g).bind fun x g => (ev cons F b .val s g).bind fun y g => R.ofO g (at2 g x y (bop o)) := rfl
example (P : Pr) (fnN cnN N : List Str) (sc : Scope) (o : Bop) (a b : E) (a' b' : Expr) (op : Operator) (p : Pos) (h : isC P fnN cnN N sc .val (.bin o a b) (.BinOp a' op b' p) = true) : (true && (opB o op && isC P fnN cnN N sc .val a a' && isC P fnN cnN N sc .val b b')) = true := h
example (P : Pr) (fnN cnN N : List Str) (sc : Scope) (o : Bop) (a b : E) (a' b' : Expr) (op : Operator) (p : Pos) (h : isC P fnN cnN N sc .val (.bin o a b) (.Name "a" p) = true) : False := Bool.false_ne_true h
example : bootBuiltins ("len" : Str) = some (.builtin "len") := by rfl
end PX
end
section
set_option Elab.async false
set_option linter.all false
set_option maxRecDepth 100000
set_option autoImplicit false
set_option maxHeartbeats 2000000
/-! PXv: what the checker lets in, runs as the interpreter says. -/
namespace PX
open PySem L2 PySem.Spec PyProof.Rows
def bnames : List Str := ["len", "list", "tuple", "any", "all", "sorted", "int", "str", "abs", "range", "enumerate", "dict", "repr", "bool", "isinstance", "super"]
/-- what stands all through a run -/
structure Glob (Pg : Program) (w : World) (K : Fg) (mg : Str → Option Value) (base : Heap) (A : Around) (C : Cfg) (ca : Nat → Addr) (n : Nat) : Prop where
  gd : A.guards = some []
  un : A.units + 65 < cLine
  bn : ∀ x ∈ bnames, mg x = none
  ty : ∀ t : Ty, mg (tyS t) = none
  con : ∀ (i : Nat) (x : Str), C.cn[i]? = some x → ∃ (u : Value) (v : V) (d : D), mg x = some u ∧ RelV v u ∧ C.pr.cons[i]? = some d ∧ ∀ (ρ B : List Addr) (H : Hp), Rep K ρ B H v d
  calls : ∀ (i : Nat) (x : Str), C.fn[i]? = some x → ∃ (k : Nat) (f : Addr) (fd : FuncData) (ps : List Str) (fn : Fn), FnG Pg w K mg base k f fd ps (spI C ca K fn.fresh n i) ∧ Room k A ∧ mg x = some (.ref f) ∧ PySem.W.keepIn K (.ref f) = true ∧ Binds K fd ps [] ∧ C.pr.fns[i]? = some fn ∧ ps.length = fn.np
structure Cxt (X : Cx) (C : Cfg) (ca : Nat → Addr) (N : List Str) (sc : Scope) (W : WX) (n : Nat) : Prop where
  hsc : X.env.scope = sc
  hN : X.N = N
  nd : X.N.Nodup
  calm : X.calm = true
  tk : Takes X W
  gl : Glob X.prog X.w X.K X.mg X.base X.A C ca n
theorem vis_of {sc : Scope} {x : Str} (h : visB sc x = true) : Vis sc x ∧ (x == ("__debug__" : Str)) = false ∧ (x == ("__classdict__" : Str)) = false := by
  unfold visB at h
  simp only [Bool.and_eq_true, Bool.not_eq_true'] at h
  refine ⟨?_, h.1.2, h.2⟩
  have h := h.1.1
  split at h
  · exact .inl (by assumption)
  · exact .inr (.inl (by assumption))
  · exact .inr (.inr (by assumption))
  · cases h
theorem gl_of {X : Cx} {sc : Scope} {x : Str} (e : X.env.scope = sc) (h : glB sc x = true) : Gl X x ∧ (x == ("__debug__" : Str)) = false := by
  unfold glB at h
  simp only [Bool.and_eq_true, Bool.not_eq_true'] at h
  refine ⟨?_, h.2⟩
  have h := h.1
  split at h
  · show X.env.scope.names.lookup x = _
    rw [e]; assumption
  · cases h
theorem star_of {a : Expr} {es : List Expr} {env : Env} (h : noStar a = true) : starEach (a :: es) env = (false, eval a env) :: starEach es env := by
  cases a <;> first | rfl | (exact (Bool.false_ne_true h).elim)
theorem plain_of {a : Expr} {env : Env} (h : plainT a = true) : ∀ whole, isTrue a env whole = (do let v ← whole; standAt a.pos; holding [v] (truthy v)) := by
  intro whole
  cases a with
  | UnaryOp op x p => cases op <;> first | rfl | (exact (Bool.false_ne_true h).elim)
  | _ => first | rfl | (exact (Bool.false_ne_true h).elim)
theorem set_of {a : Expr} {env : Env} (h : noSet a = true) : ∀ x, foldedSetIterable a env x = pure x := by
  intro x
  cases a <;> first | rfl | (exact (Bool.false_ne_true h).elim)
theorem slice_of {b : Expr} (h : noSlice b = true) : PlainIx b := by
  intro o i
  cases b <;> first | rfl | (exact (Bool.false_ne_true h).elim)
section
variable {cons : List D} {F : Nat → List D → G → R D} {P : Pr} {n : Nat}
theorem ev_fin : ∀ {e : E}, isBoolE e = false → ev cons F e .tst = fun s g => fin .tst (ev cons F e .val s g)
  | .lit _, _ | .con _, _ | .var _, _ | .bor _, _ | .tup _, _ | .lst _, _ | .bin _ _ _, _ | .neg _, _ | .not_ _, _ | .cmp _ _ _, _ | .isN _, _ | .notN _, _ | .chain _ _ _ _ _, _ | .idx _ _, _ | .slc _ _ _, _ | .rev _, _ | .isi _ _, _ | .p1 _ _, _ | .p2 _ _ _, _ | .call _ _, _ | .callB _ _, _ | .lc _ _ _ _, _ | .find _ _ _, _ | .lstR _ _ _, _ | .strike _ _, _ => rfl
  | .and_ _ _, h => (Bool.false_ne_true h.symm).elim
  | .ite _ _ _, h => (Bool.false_ne_true h.symm).elim
  | .or_ _ _, h => (Bool.false_ne_true h.symm).elim
theorem bind_ok {α β : Type} {r : R α} {f : α → G → R β} {b : β} {g : G} (h : r.bind f = .ok b g) : ∃ a g1, r = .ok a g1 ∧ f a g1 = .ok b g := by
  cases r with
  | ok a g1 => exact ⟨a, g1, rfl, h⟩
  | exc x g1 => cases h
  | bad => cases h
theorem ofO_ok {α : Type} {o : Option α} {a : α} {g g' : G} (h : R.ofO g o = .ok a g') : o = some a ∧ g' = g := by
  cases o with
  | none => cases h
  | some b => cases h; exact ⟨rfl, rfl⟩
theorem evs_len : ∀ {es : Es} {s : Sl} {g : G} {ds : List D} {g' : G}, evs cons F es s g = .ok ds g' → ds.length = es.len
  | .nil, _, _, _, _, h => by cases h; rfl
  | .cons e es, s, g, ds, g', h => by
    obtain ⟨a, g1, h1, h2⟩ := bind_ok h
    obtain ⟨b, g2, h3, h4⟩ := bind_ok h2
    cases h4
    show b.length + 1 = _
    rw [evs_len h3]; rfl
theorem call_cont {i : Nat} {ds : List D} {g g' : G} {d : D} (hf : frOf P i = true) (h : call P n i ds g = .ok d g') : isCont d = true := by
  cases n with
  | zero => cases h
  | succ n =>
    unfold frOf at hf
    unfold call at h
    cases q : P.fns[i]? with
    | none => rw [q] at hf; cases hf
    | some fn =>
      rw [q] at h hf
      have hf : fn.fresh = true := hf
      have h : (if ds.length = fn.np then close fn.pure g (ofFl fn.fresh (exec P.cons P.sub P.W (call P n) fn.body (start fn ds) g)) else .bad) = .ok d g' := h
      by_cases k : ds.length = fn.np
      · rw [if_pos k] at h
        have cl : ∀ {r : R D}, close fn.pure g r = .ok d g' → ∃ g2, r = .ok d g2 := by
          intro r hr
          cases r with
          | ok d2 g2 =>
            have hr : (if fn.pure = true then (if g2.take g.length = g ∧ below g.length d2 = true then R.ok d2 g else .bad) else .ok d2 g2) = .ok d g' := hr
            by_cases p : fn.pure = true
            · rw [if_pos p] at hr
              by_cases p2 : g2.take g.length = g ∧ below g.length d2 = true
              · rw [if_pos p2] at hr; cases hr; exact ⟨_, rfl⟩
              · rw [if_neg p2] at hr; cases hr
            · rw [if_neg p] at hr; cases hr; exact ⟨_, rfl⟩
          | exc y g2 =>
            have hr : (if fn.pure = true then (if g2.take g.length = g ∧ belows g.length y.args = true then R.exc y g else .bad) else .exc y g2) = .ok d g' := hr
            split at hr
            · split at hr <;> cases hr
            · cases hr
          | bad => cases hr
        obtain ⟨g2, h⟩ := cl h
        generalize exec P.cons P.sub P.W (call P n) fn.body (start fn ds) g = r at h
        rw [hf] at h
        cases r with
        | nx s g3 => exact (show False from by simpa [ofFl] using h).elim
        | ret fr d3 g3 =>
          have h : (if fr = true ∧ (true = true → isCont d3 = true) then R.ok d3 g3 else .bad) = .ok d g2 := h
          by_cases z : fr = true ∧ (true = true → isCont d3 = true)
          · rw [if_pos z] at h; cases h; exact z.2 rfl
          · rw [if_neg z] at h; cases h
        | exc y s g3 => cases h
        | bad => cases h
      · rw [if_neg k] at h; cases h
theorem p1_cont {p : P1} {x d : D} (hp : p = .list ∨ p = .sorted ∨ p = .dict) (h : prim1 p x = some d) : isCont d = true := by
  rcases hp with rfl | rfl | rfl
  · cases x <;> first | (cases h; rfl) | (cases h; done)
  · cases x with
    | lst xs =>
      have h : (sorted xs).map D.lst = some d := h
      cases q : sorted xs with
      | none => rw [q] at h; cases h
      | some ys => rw [q] at h; cases h; rfl
    | tup xs =>
      have h : (ints? xs).map (fun ns => D.lst ((sortI ns).map .int)) = some d := h
      cases q : ints? xs with
      | none => rw [q] at h; cases h
      | some ys => rw [q] at h; cases h; rfl
    | dic kvs =>
      have h : ((strs? (kvs.map (·.1))).bind fun ts => if ts.length < 64 then some (D.lst ((sortT ts).map .str)) else none) = some d := h
      cases q : strs? (kvs.map (·.1)) with
      | none => rw [q] at h; cases h
      | some ys =>
        rw [q] at h
        have h : (if ys.length < 64 then some (D.lst ((sortT ys).map .str)) else none) = some d := h
        by_cases z : ys.length < 64
        · rw [if_pos z] at h; cases h; rfl
        · rw [if_neg z] at h; cases h
    | _ => cases h
  · cases x with
    | lst xs =>
      have h : (dictOf xs []).map D.dic = some d := h
      cases q : dictOf xs [] with
      | none => rw [q] at h; cases h
      | some ys => rw [q] at h; cases h; rfl
    | _ => cases h
theorem fresh_cont : ∀ {e : E}, nk P e = .f → ∀ s g d g', ev cons (call P n) e .val s g = .ok d g' → isCont d = true := by
  intro e he s g d g' h
  have one : ∀ (p : P1) (a : E), (p = .list ∨ p = .sorted ∨ p = .dict) → ((ev cons (call P n) a .val s g).bind fun x g => R.ofO g (app1 p g x)) = .ok d g' → isCont d = true := by
    intro p a hp h
    obtain ⟨x, g1, h1, h2⟩ := bind_ok h
    obtain ⟨h3, _⟩ := ofO_ok h2
    have h3 : at1 g1 x (prim1 p) = some d := by rcases hp with rfl | rfl | rfl <;> exact h3
    obtain ⟨x', _, h4⟩ := at1_some h3
    exact p1_cont hp h4
  cases e with
  | lst es =>
    obtain ⟨ds, g1, h1, h2⟩ := bind_ok h
    cases h2
    rfl
  | p1 p a =>
    cases p <;> first | (cases he; done) | (exact one _ a (.inl rfl) h) | (exact one _ a (.inr (.inl rfl)) h) | (exact one _ a (.inr (.inr rfl)) h)
  | call i es =>
    have hf : frOf P i = true := by
      by_cases z : frOf P i = true
      · exact z
      · have he : (if frOf P i = true then NK.f else NK.e) = .f := he
        rw [if_neg z] at he; cases he
    obtain ⟨ds, g1, h1, h2⟩ := bind_ok h
    exact call_cont hf h2
  | p2 p a b =>
    cases p <;> first | (cases he; done) | skip
    obtain ⟨x, g1, h1, h2⟩ := bind_ok h
    by_cases k : isTxtD x = true
    · rw [if_pos k] at h2
      obtain ⟨y, g2, h3, h4⟩ := bind_ok h2
      obtain ⟨h5, _⟩ := ofO_ok h4
      obtain ⟨x', y', _, _, h6⟩ := at2_some h5
      cases x' with
      | str t =>
        cases y' with
        | str p =>
          match p, h6 with
          | [], h6 => cases h6
          | _ :: _ :: _, h6 => cases h6
          | [c], h6 =>
            have h6 : (if t.length + 2 ≤ LIM ∧ c < 256 then some (D.lst ((splitT c t).map .str)) else none) = some d := h6
            split at h6
            · cases h6; rfl
            · cases h6
        | _ => cases h6
      | _ => cases h6
    · rw [if_neg k] at h2; cases h2
  | lstR a b es =>
    obtain ⟨x, g1, h1, h2⟩ := bind_ok h
    obtain ⟨y, g2, h3, h4⟩ := bind_ok h2
    obtain ⟨ds, g3, h5, h6⟩ := bind_ok h4
    cases h6
    rfl
  | lc elt tg it cs =>
    obtain ⟨x, g1, h1, h2⟩ := bind_ok h
    cases q : itemsOf x with
    | none => rw [q] at h2; cases h2
    | some xs =>
      rw [q] at h2
      obtain ⟨ys, g2, h3, h4⟩ := bind_ok h2
      cases h4
      rfl
  | _ => cases he
end
end PX
end
section
set_option Elab.async false
set_option linter.all false
set_option maxRecDepth 100000
set_option autoImplicit false
set_option maxHeartbeats 4000000
/-! PXw: the checker of expressions is right. -/
namespace PX
open PySem L2 PySem.Spec PyProof.Rows
section
variable (C : Cfg) (ca : Nat → Addr) (n : Nat) (X : Cx) (W : WX)
abbrev evC (e : E) (m : M) : Sl → G → R D := ev C.pr.cons (call C.pr n) e m
abbrev evL (es : Es) : Sl → G → R (List D) := evs C.pr.cons (call C.pr n) es
def Nt (e : E) (A : Expr) : Prop := match nk C.pr e with
  | .e => PE X A (tE (fx C ca X W) (evC C n e .val))
  | .f => PE X A (tF (fx C ca X W) (evC C n e .val))
  | .r => PE X A (tR (fx C ca X W) (evC C n e .val))
def SrcOk : E → Expr → Prop
  | .p1 .range a, A => ∃ a' q1 q2, A = .Call (.Name "range" q1) [a'] [] q2 ∧ Gl X "range" ∧ noStar a' = true ∧ PE X a' (tE (fx C ca X W) (evC C n a .val))
  | .p1 .enum a, A => ∃ a' q1 q2, A = .Call (.Name "enumerate" q1) [a'] [] q2 ∧ Gl X "enumerate" ∧ noStar a' = true ∧ PE X a' (tE (fx C ca X W) (evC C n a .val))
  | e, A => Nt C ca n X W e A ∧ repK C.pr e = true
def Ok : Md → E → Expr → Prop
  | .val, e, A => Nt C ca n X W e A
  | .tst, e, A => PT X A (tT (fx C ca X W) (evC C n e .tst)) ∧ ((∃ op vs p, A = .BoolOp op vs p) → PW X A (tT (fx C ca X W) (evC C n e .tst)))
  | .it, e, A => SrcOk C ca n X W e A
def MaOk : Ma → E → Expr → Prop
  | .rep, e, a => Nt C ca n X W e a ∧ repK C.pr e = true
  | .raw, e, a => Nt C ca n X W e a
  | .tst, e, a => Ok C ca n X W .tst e a
def AllOk (m : Ma) : Es → List Expr → Prop
  | .nil, [] => True
  | .cons e es, a :: as => noStar a = true ∧ MaOk C ca n X W m e a ∧ AllOk m es as
  | _, _ => False
end
section
variable {C : Cfg} {ca : Nat → Addr} {n : Nat} {X : Cx} {W : WX} {N : List Str} {sc : Scope} {e a b : E} {A B : Expr}
theorem Nt.ofE (h : PE X A (tE (fx C ca X W) (evC C n e .val))) (k : nk C.pr e = .e) : Nt C ca n X W e A := by unfold Nt; rw [k]; exact h
theorem Nt.ofF (h : PE X A (tF (fx C ca X W) (evC C n e .val))) (k : nk C.pr e = .f) : Nt C ca n X W e A := by unfold Nt; rw [k]; exact h
theorem Nt.fr (h : Nt C ca n X W e A) (k : nk C.pr e = .f) : PE X A (tF (fx C ca X W) (evC C n e .val)) := by unfold Nt at h; rw [k] at h; exact h
theorem Nt.raw (h : Nt C ca n X W e A) : PE X A (tR (fx C ca X W) (evC C n e .val)) := by
  cases q : nk C.pr e with
  | e => unfold Nt at h; rw [q] at h; exact h.impX fun σ H Q q => tE.raw q
  | f => unfold Nt at h; rw [q] at h; exact h.impX fun σ H Q k => tF.toE (fresh_cont q) (tE.raw k)
  | r => unfold Nt at h; rw [q] at h; exact h
theorem Nt.rep (h : Nt C ca n X W e A) (k : repK C.pr e = true) : PE X A (tE (fx C ca X W) (evC C n e .val)) := by
  cases q : nk C.pr e with
  | e => unfold Nt at h; rw [q] at h; exact h
  | f => unfold Nt at h; rw [q] at h; exact h.impX fun σ H Q k => tF.toE (fresh_cont q) k
  | r => unfold repK at k; rw [q] at k; cases k
theorem Nt.src (h : Nt C ca n X W e A) (k : repK C.pr e = true) (hs : isSrc e = false) : SrcOk C ca n X W e A := by
  cases e with
  | p1 p a => cases p <;> first | exact ⟨h, k⟩ | (exact (Bool.false_ne_true hs.symm).elim)
  | _ => exact ⟨h, k⟩
theorem ok_nt {m : Md} (h : Nt C ca n X W e A) (hp : plM m A = true) (hb : isBoolE e = false) (hs : m = .it → isSrc e = false ∧ repK C.pr e = true) : Ok C ca n X W m e A := by
  cases m with
  | val => exact h
  | tst =>
    have hp : plainT A = true := hp
    refine ⟨?_, fun ⟨op, vs, p, z⟩ => by subst z; exact (Bool.false_ne_true hp).elim⟩
    show PT X A (tT (fx C ca X W) (ev C.pr.cons (call C.pr n) e .tst))
    rw [ev_fin hb]
    exact t_plain h.raw (plain_of hp)
  | it => exact h.src (hs rfl).2 (hs rfl).1
theorem and2 {a b : Bool} (h : (a && b) = true) : a = true ∧ b = true := by simpa using h
theorem Ok.ofT {m : Md} (hn : Nt C ca n X W e A) (ht : PT X A (tT (fx C ca X W) (evC C n e .tst))) (hm : noIt m = true) (hA : ∀ op vs p, A ≠ .BoolOp op vs p) : Ok C ca n X W m e A := by
  cases m with
  | val => exact hn
  | tst => exact ⟨ht, fun ⟨op, vs, p, z⟩ => (hA op vs p z).elim⟩
  | it => cases hm
theorem stars_of {m : Ma} : ∀ {es : Es} {As : List Expr} {env : Env} {pos : Pos}, AllOk C ca n X W m es As → (backTo pos (starEach As env)).any (·.1) = false
  | .nil, [], _, _, _ => rfl
  | .cons e es, a :: as, env, pos, h => by
    rw [star_of h.1]
    show (false || (backTo pos (starEach as env)).any (·.1)) = false
    rw [stars_of h.2.2]
    rfl
  | .nil, _ :: _, _, _, h => h.elim
  | .cons _ _, [], _, _, h => h.elim
theorem args_rep : ∀ {es : Es} {As : List Expr}, AllOk C ca n X W .rep es As → PA X As (tI (fx C ca X W) (rRepL X.K) (evL C n es))
  | .nil, [], _ => a_nil
  | .cons e es, a :: as, h => a_cons (h.2.1.1.rep h.2.1.2) (args_rep h.2.2) (star_of h.1)
  | .nil, _ :: _, h => h.elim
  | .cons _ _, [], h => h.elim
theorem args_raw : ∀ {es : Es} {As : List Expr}, AllOk C ca n X W .raw es As → PA X As (tI (fx C ca X W) (fun B ρ H => RawL X.K ρ B H) (evL C n es))
  | .nil, [], _ => ar_nil
  | .cons e es, a :: as, h => ar_cons (Nt.raw h.2.1) (args_raw h.2.2) (star_of h.1)
  | .nil, _ :: _, h => h.elim
  | .cons _ _, [], h => h.elim
/-- what a for walks -/
theorem src_it {tgE : Expr} (c : Cxt X C ca N sc W n) (h : SrcOk C ca n X W e A) (ht : isEnum e = true → isTup tgE = true) : PI X tgE A (tS (fx C ca X W) (evC C n e .val)) := by
  have go : Nt C ca n X W e A ∧ repK C.pr e = true → PI X tgE A (tS (fx C ca X W) (evC C n e .val)) := fun h => i_seq (h.1.rep h.2)
  cases e with
  | p1 p a =>
    cases p with
    | range =>
      obtain ⟨a', q1, q2, rfl, hg, ns, ha⟩ := h
      exact i_range1 (x := "range") hg (c.gl.bn _ (by simp [bnames])) ha (star_of ns)
    | enum =>
      obtain ⟨a', q1, q2, rfl, hg, ns, ha⟩ := h
      have ht := ht rfl
      cases tgE <;> first | (exact (Bool.false_ne_true ht).elim) | skip
      exact i_enum hg (c.gl.bn _ (by simp [bnames])) ha (star_of ns)
    | _ => exact go h
  | _ => exact go h
theorem callOk {i : Nat} {x : Str} (c : Cxt X C ca N sc W n) (hi : C.fn[i]? = some x) (hg : glB sc x = true) : CallOk X C ca W (frOf C.pr i) n i x := by
  obtain ⟨k, f, fd, ps, fn, F, hr, hm, hk, hb, hf, hn⟩ := c.gl.calls i x hi
  have e : frOf C.pr i = fn.fresh := by unfold frOf; rw [hf]
  obtain ⟨g1, g2⟩ := gl_of c.hsc hg
  exact ⟨⟨k, f, fd, ps, fn, by rw [e]; exact F, hr, hm, hk, hb, hf, hn⟩, c.gl.gd, g1, c.tk, g2⟩
theorem bn_of {x : Str} {u : Value} (c : Cxt X C ca N sc W n) (hg : glB sc x = true) (hm : X.mg x = none) (hb : bootBuiltins x = some u) (hn : x ≠ "__name__") : BN X x u :=
  ⟨(gl_of c.hsc hg).1, hm, hb, hn, (gl_of c.hsc hg).2⟩
theorem names_of {scope sc' : Scope} {fnb : Str → Bool} (hsc : X.env.scope = sc') (hf : ∀ x, fnb x = true → X.fn x = true) : ∀ {is : List Nat} {es : List Expr}, tgs X.N scope sc' fnb is es = true → NamesAt X es is
  | [], [], _ => .nil
  | [], _ :: _, h => (Bool.false_ne_true h).elim
  | i :: is, [], h => (Bool.false_ne_true h).elim
  | i :: is, a :: es, h => by
    cases a <;> first | (exact (Bool.false_ne_true h).elim) | skip
    rename_i x p
    have h : (tg1 X.N scope sc' fnb i x && tgs X.N scope sc' fnb is es) = true := h
    obtain ⟨h1, h2⟩ := and2 h
    unfold tg1 at h1
    simp only [Bool.and_eq_true, Bool.or_eq_true, decide_eq_true_eq] at h1
    subst hsc
    refine .cons h1.1 ?_ ?_ (names_of rfl hf h2)
    · rcases h1.2 with k | k
      · exact .inl k
      · exact .inr k.1
    · rcases h1.2 with k | k
      · exact .inr k
      · exact .inl (hf _ k.2)
theorem tg_of {scope sc' : Scope} {fnb : Str → Bool} {tg : Tg} {tgE : Expr} (hsc : X.env.scope = sc') (hc : X.calm = true) (hN : X.N.Nodup) (hf : ∀ x, fnb x = true → X.fn x = true) (h : tgB X.N scope sc' fnb tg tgE = true) : PG X tgE (gT X.K tg) := by
  cases tg with
  | one i =>
    cases tgE <;> first | (exact (Bool.false_ne_true h).elim) | skip
    rename_i x p
    have h : tgs X.N scope sc' fnb [i] [.Name x p] = true := by
      show (tg1 X.N scope sc' fnb i x && true) = true
      rw [Bool.and_true]; exact h
    cases names_of hsc hf h with
    | cons h1 h2 h3 _ => exact g_one hN h1 h2 h3
  | tup is =>
    cases tgE <;> first | (exact (Bool.false_ne_true h).elim) | skip
    exact g_tup hc hN (names_of hsc hf h)
theorem blk_of {scope : Scope} {own : List (Str × Nat)} (h : blkB N sc scope own = true) : BlkOk N sc scope own := by
  unfold blkB at h
  simp only [Bool.and_eq_true, decide_eq_true_eq] at h
  exact ⟨h.1.1.1.1, h.1.1.1.2, h.1.1.2, h.1.2, h.2⟩
theorem own_slots {tg : Tg} : (ownL N tg).map (·.2) = tg.slots := by
  unfold ownL
  rw [List.map_map]
  exact List.map_id _
end
end PX
end
section
set_option Elab.async false
set_option linter.all false
set_option maxRecDepth 100000
set_option autoImplicit false
set_option maxHeartbeats 8000000
/-! PXx: the checker of expressions is right: the induction. -/
namespace PX
open PySem L2 PySem.Spec PyProof.Rows
section
variable {C : Cfg} {ca : Nat → Addr} {n : Nat} {X : Cx} {W : WX} {N : List Str} {sc : Scope} {e a b : E} {A B : Expr}
theorem noIt_it {m : Md} (h : noIt m = true) : m = .it → isSrc e = false ∧ repK C.pr e = true := fun z => by subst z; cases h
theorem ty_bt (t : Ty) : bootBuiltins (tyS t) = some (.type (tyN t)) := by cases t <;> rfl
theorem ok_lit {m : Md} {d : D} (h : isC C.pr C.fn C.cn N sc m (.lit d) A = true) : Ok C ca n X W m (.lit d) A := by
  obtain ⟨h1, h2⟩ := and2 (show (plM m A && litB d A) = true from h)
  clear h
  refine ok_nt (.ofE ?_ rfl) h1 rfl fun _ => ⟨rfl, rfl⟩
  cases d with
  | non =>
    cases A <;> first | (exact (Bool.false_ne_true h2).elim) | skip
    rename_i c k p
    cases c <;> first | (exact (Bool.false_ne_true h2).elim) | skip
    exact e_const pe_non fun _ _ _ => .non
  | bl x =>
    cases A <;> first | (exact (Bool.false_ne_true h2).elim) | skip
    rename_i c k p
    cases c <;> first | (exact (Bool.false_ne_true h2).elim) | skip
    rename_i y
    replace h2 : (x == y) = true := h2
    have : x = y := by simpa using h2
    subst this
    exact e_const pe_bl fun _ _ _ => .bl _
  | int x =>
    cases A <;> first | (exact (Bool.false_ne_true h2).elim) | skip
    rename_i c k p
    cases c <;> first | (exact (Bool.false_ne_true h2).elim) | skip
    rename_i y
    replace h2 : decide (x = y) = true := h2
    have : x = y := by simpa using h2
    subst this
    exact e_const pe_int fun _ _ _ => .int _
  | str x =>
    cases A <;> first | (exact (Bool.false_ne_true h2).elim) | skip
    rename_i c k p
    cases c <;> first | (exact (Bool.false_ne_true h2).elim) | skip
    rename_i y
    replace h2 : decide (y = mkS x) = true := h2
    have : y = mkS x := by simpa using h2
    subst this
    exact e_const pe_str fun _ _ _ => .str _
  | _ => exact (Bool.false_ne_true h2).elim
theorem ok_p1 {m : Md} {p : P1} {x : Str} {a' : Expr} {q1 q2 : Pos} (c : Cxt X C ca N sc W n) (hx : x = p1S p) (hg : glB sc x = true) (ns : noStar a' = true) (ho : p1Ok p = true) (hm : noIt m = true)
    (h : if (isRange a && decide (p = .list)) = true then SrcOk C ca n X W a a' else Nt C ca n X W a a') : Ok C ca n X W m (.p1 p a) (.Call (.Name x q1) [a'] [] q2) := by
  refine ok_nt ?_ (by cases m <;> rfl) rfl (noIt_it hm)
  have nr : p ≠ .list → Nt C ca n X W a a' := fun z => by
    have : ¬ (isRange a && decide (p = .list)) = true := by simp [z]
    rw [if_neg this] at h; exact h
  subst hx
  have st : starEach [a'] X.env = (false, eval a' X.env) :: starEach [] X.env := star_of ns
  have bm : ∀ x ∈ bnames, X.mg x = none := c.gl.bn
  cases p with
  | len => exact .ofE (e_len st (bn_of c hg (bm _ (by simp [bnames, p1S])) rfl (by decide)) (nr (by simp)).raw) rfl
  | list =>
    by_cases k : isRange a = true
    · have : (isRange a && decide (P1.list = .list)) = true := by rw [k]; rfl
      rw [if_pos this] at h
      cases a <;> first | (exact (Bool.false_ne_true k).elim) | skip
      rename_i p2 b
      cases p2 <;> first | (exact (Bool.false_ne_true k).elim) | skip
      obtain ⟨b', r1, r2, rfl, g2, ns2, hb⟩ := h
      refine .ofF (e_listR (y := "list") c.calm (gl_of c.hsc hg).1 (bm _ (by simp [bnames])) g2 (bm _ (by simp [bnames])) hb (star_of ns2)) rfl
    · have : ¬ (isRange a && decide (P1.list = .list)) = true := by simp [k]
      rw [if_neg this] at h
      exact .ofF (e_list st (bn_of c hg (bm _ (by simp [bnames, p1S])) rfl (by decide)) h.raw) rfl
  | tuple => exact .ofE (e_tuple st c.calm (bn_of c hg (bm _ (by simp [bnames, p1S])) rfl (by decide)) (nr (by simp)).raw) rfl
  | any => exact .ofE (e_any st c.calm (bn_of c hg (bm _ (by simp [bnames, p1S])) rfl (by decide)) (nr (by simp)).raw) rfl
  | all => exact .ofE (e_all st c.calm (bn_of c hg (bm _ (by simp [bnames, p1S])) rfl (by decide)) (nr (by simp)).raw) rfl
  | sorted => exact .ofF (e_sorted st c.calm (bn_of c hg (bm _ (by simp [bnames, p1S])) rfl (by decide)) (nr (by simp)).raw) rfl
  | int => exact .ofE (e_int st (bn_of c hg (bm _ (by simp [bnames, p1S])) rfl (by decide)) (nr (by simp)).raw) rfl
  | str => exact .ofE (e_str st (bn_of c hg (bm _ (by simp [bnames, p1S])) rfl (by decide)) (nr (by simp)).raw) rfl
  | abs => exact .ofE (e_abs st (bn_of c hg (bm _ (by simp [bnames, p1S])) rfl (by decide)) (nr (by simp)).raw) rfl
  | range => cases ho
  | enum => cases ho
  | dict => exact .ofF (e_dict st c.calm (bn_of c hg (bm _ (by simp [bnames, p1S])) rfl (by decide)) (nr (by simp)).raw) rfl
  | repr => exact .ofE (e_repr c.gl.gd c.gl.un st (bn_of c hg (bm _ (by simp [bnames, p1S])) rfl (by decide)) (nr (by simp)).raw) rfl
  | bool => exact .ofE (e_bool st (bn_of c hg (bm _ (by simp [bnames, p1S])) rfl (by decide)) (nr (by simp)).raw) rfl
theorem ok_isi {m : Md} {t : Ty} {x y : Str} {a' : Expr} {q1 q2 q3 : Pos} (c : Cxt X C ca N sc W n) (hx : x = "isinstance") (hy : y = tyS t) (hg : glB sc x = true) (hg2 : glB sc y = true) (ns : noStar a' = true) (hp : plM m (.Call (.Name x q1) [a', .Name y q2] [] q3) = true)
    (h : Nt C ca n X W a a') : Ok C ca n X W m (.isi t a) (.Call (.Name x q1) [a', .Name y q2] [] q3) := by
  subst hx hy
  refine ok_nt (.ofE ?_ rfl) hp rfl fun _ => ⟨rfl, rfl⟩
  refine e_isi (bn_of c hg (c.gl.bn _ (by simp [bnames])) rfl (by decide)) (bn_of c hg2 (c.gl.ty t) (ty_bt t) (by cases t <;> decide)) h.raw (star_of ns)

theorem noC {P : Prop} (h : false = true) : P := (Bool.false_ne_true h).elim
theorem tail_pe {op : BoolOp} {r : List Expr} {pos : Pos} {t : TE} (h : PE X (tailB op r pos) t) (hr : r.isEmpty = false) : ∃ b rest, r = b :: rest ∧ PE X (.BoolOp op (b :: rest) pos) t := by
  cases r with
  | nil => cases hr
  | cons b rest =>
    cases rest with
    | nil => exact ⟨b, [], rfl, pe_one h⟩
    | cons c rest => exact ⟨b, c :: rest, rfl, h⟩
theorem tail_pw {op : BoolOp} {r : List Expr} {pos : Pos} {t : TT} (h : PT X (tailB op r pos) t ∧ ((∃ op' vs p, tailB op r pos = .BoolOp op' vs p) → PW X (tailB op r pos) t)) (hr : r.isEmpty = false) :
    ∃ b rest, r = b :: rest ∧ PW X (.BoolOp op (b :: rest) pos) t := by
  cases r with
  | nil => cases hr
  | cons b rest =>
    cases rest with
    | nil =>
      refine ⟨b, [], rfl, ?_⟩
      cases op with
      | And => exact pw_and1 h.1
      | Or => exact pw_or1 h.1
    | cons c rest => exact ⟨b, c :: rest, rfl, h.2 ⟨op, b :: c :: rest, pos, rfl⟩⟩
theorem b_lo {lo : E} {lo' : Option Expr} (hn : ∀ x, isC C.pr C.fn C.cn N sc .val lo x = true → Nt C ca n X W lo x) (h : (match lo' with
        | none => isNon lo
        | some x => !isNon lo && repK C.pr lo && isC C.pr C.fn C.cn N sc .val lo x) = true) :
    ∃ t, L2.PO X lo' t ∧ ∀ σ H Q, tI (fx C ca X W) (fun _ _ _ (v : Option Int) d => v = d) (fB (isNon lo) (evC C n lo .val)) σ H Q → t σ H Q := by
  cases lo' with
  | none =>
    have h2 : isNon lo = true := h
    clear h hn
    have e : lo = .lit .non := by
      unfold isNon at h2
      split at h2
      · rfl
      · exact noC h2
    subst e
    exact ⟨tNoPart, po_none, fun σ H Q q => b_none σ H Q q⟩
  | some x =>
    have h : (!isNon lo && repK C.pr lo && isC C.pr C.fn C.cn N sc .val lo x) = true := h
    simp only [Bool.and_eq_true, Bool.not_eq_true'] at h
    refine ⟨_, po_some ((hn x h.2).rep h.1.2), fun σ H Q q => ?_⟩
    rw [h.1.1] at q
    exact b_some σ H Q q
end
end PX
end
section
set_option Elab.async false
set_option linter.all false
set_option maxRecDepth 100000
set_option autoImplicit false
set_option maxHeartbeats 8000000
/-! PXy: the checker of expressions is right: the theorem. -/
namespace PX
open PySem L2 PySem.Spec PyProof.Rows
theorem Cxt.blk {C : Cfg} {ca : Nat → Addr} {n : Nat} {X : Cx} {W : WX} {N : List Str} {sc : Scope} (c : Cxt X C ca N sc W n) (s : Shared) (H : Hp) (scope : Scope) (cl : List (Str × Addr)) (C' : Addr) (fp : List Addr) :
    Cxt (X.blk s H scope (compEnvC scope cl C' X.env) fp) C ca N (relS scope sc) WF n := by
  refine ⟨?_, c.hN, c.nd, c.calm, takes_none5, c.gl⟩
  rw [← c.hsc]
  rfl
section
variable {C : Cfg} {ca : Nat → Addr} {n : Nat} {N : List Str}
mutual
theorem isC_ok : ∀ (e : E) {m : Md} {A : Expr} {sc : Scope} {X : Cx} {W : WX}, Cxt X C ca N sc W n → isC C.pr C.fn C.cn N sc m e A = true → Ok C ca n X W m e A
  | .lit d, m, A, sc, X, W, c, h => ok_lit h
  | .con i, m, A, sc, X, W, c, h => by
    obtain ⟨h1, h2⟩ := and2 (show (plM m A && _) = true from h)
    clear h
    cases A <;> first | exact noC h2 | skip
    obtain ⟨h3, h4⟩ := and2 h2
    obtain ⟨u, v, d, k1, k2, k3, k4⟩ := c.gl.con i _ (of_decide_eq_true h3)
    obtain ⟨g1, g2⟩ := gl_of c.hsc h4
    refine ok_nt (.ofE ?_ rfl) h1 rfl fun _ => ⟨rfl, rfl⟩
    have e : evC C n (.con i) .val = fun _ g => .ok d g := by
      show (fun _ g => R.ofO g C.pr.cons[i]?) = _
      rw [k3]; rfl
    rw [e]
    exact e_const (pe_glob g1 k1 k2 g2) k4
  | .strike _ _, m, A, sc, X, W, c, h => noC h
  | .p2 p a b, m, A, sc, X, W, c, h => by
    obtain ⟨h1, h2⟩ := and2 (show (plM m A && _) = true from h)
    clear h
    split at h2
    · rename_i o f ap b' cp
      obtain ⟨h3, hb⟩ := and2 h2
      obtain ⟨h4, ha⟩ := and2 h3
      obtain ⟨h5, ns⟩ := and2 h4
      obtain ⟨h6, hl⟩ := and2 h5
      obtain ⟨hp, hr⟩ := and2 h6
      have ra := Nt.raw (isC_ok a (m := .val) c ha)
      have rb := Nt.raw (isC_ok b (m := .val) c hb)
      have st : starEach [b'] X.env = [(false, eval b' X.env)] := star_of ns
      cases p with
      | split =>
        have hp := of_decide_eq_true hp
        subst hp
        exact ok_nt (.ofF (e_split ra rb st hr hl) rfl) h1 rfl fun _ => ⟨rfl, rfl⟩
      | join =>
        have hp := of_decide_eq_true hp
        subst hp
        exact ok_nt (.ofE (e_join ra rb st hr hl) rfl) h1 rfl fun _ => ⟨rfl, rfl⟩
      | zip => exact noC hp
      | range => exact noC hp
    · exact noC h2
  | .find a b d, m, A, sc, X, W, c, h => by
    obtain ⟨h1, h2⟩ := and2 (show (plM m A && _) = true from h)
    clear h
    split at h2
    · rename_i o f ap b' d' cp
      obtain ⟨h3, hd⟩ := and2 h2
      obtain ⟨h4, hb⟩ := and2 h3
      obtain ⟨h5, ha⟩ := and2 h4
      obtain ⟨h6, kd⟩ := and2 h5
      obtain ⟨h7, kb⟩ := and2 h6
      obtain ⟨h8, nd⟩ := and2 h7
      obtain ⟨h9, nb⟩ := and2 h8
      obtain ⟨h10, hl⟩ := and2 h9
      obtain ⟨hf, hr⟩ := and2 h10
      have hf := of_decide_eq_true hf
      subst hf
      have ra := Nt.raw (isC_ok a (m := .val) c ha)
      have rb := Nt.rep (isC_ok b (m := .val) c hb) kb
      have rd := Nt.rep (isC_ok d (m := .val) c hd) kd
      have s1 : starEach [b', d'] X.env = (false, eval b' X.env) :: starEach [d'] X.env := star_of nb
      have s2 : starEach [d'] X.env = (false, eval d' X.env) :: starEach [] X.env := star_of nd
      exact ok_nt (.ofE (e_find ra rb rd s1 s2 (by rw [s1, s2]; rfl) (by rw [s2]; rfl) hr hl) rfl) h1 rfl fun _ => ⟨rfl, rfl⟩
    · exact noC h2
  | .lstR a b es, m, A, sc, X, W, c, h => by
    obtain ⟨h1, h2⟩ := and2 (show (plM m A && _) = true from h)
    clear h
    split at h2
    · rename_i a' b' as q
      obtain ⟨h3, hR⟩ := and2 h2
      obtain ⟨h4, hb⟩ := and2 h3
      obtain ⟨h5, ha⟩ := and2 h4
      obtain ⟨h6, kb⟩ := and2 h5
      obtain ⟨h7, ka⟩ := and2 h6
      obtain ⟨h8, hk⟩ := and2 h7
      obtain ⟨h9, nb⟩ := and2 h8
      obtain ⟨hl, na⟩ := and2 h9
      have hl : es.len ≤ 900 := of_decide_eq_true hl
      have ra := Nt.rep (isC_ok a (m := .val) c ha) ka
      have rb := Nt.rep (isC_ok b (m := .val) c hb) kb
      have rr := isR_ok es c hR
      have pa := a_cons ra (a_yields rb (tok_of hk) rr (star_of nb)) (star_of na)
      have e := e_lst (pos := q) pa (fun s g ds g' z => by
        obtain ⟨x, g1, h1, h2⟩ := bind_ok z
        obtain ⟨ys, g2, h3, h4⟩ := bind_ok h2
        cases h4
        obtain ⟨y, g3, h5, h6⟩ := bind_ok h3
        obtain ⟨zs, g4, h7, h8⟩ := bind_ok h6
        cases h8
        have := evs_len h7
        simp only [List.length_cons]
        omega)
      refine ok_nt (.ofF (e.impX fun σ H Q q => ?_) rfl) h1 rfl fun _ => ⟨rfl, rfl⟩
      have eq : evC C n (.lstR a b es) .val = fun s g => ((evC C n a .val s g).bind fun d g => ((evC C n b .val s g).bind fun d g => (evL C n es s g).bind fun ds g => .ok (d :: ds) g).bind fun ds g => .ok (d :: ds) g).bind fun ds g => .ok (.lst ds) g := by
        funext s g
        show ((evC C n a .val s g).bind fun x g => (evC C n b .val s g).bind fun y g => (evL C n es s g).bind fun ds g => R.ok (D.lst (x :: y :: ds)) g) = _
        cases evC C n a .val s g with
        | ok x g =>
          show ((evC C n b .val s g).bind _) = (((evC C n b .val s g).bind _).bind _).bind _
          cases evC C n b .val s g with
          | ok y g =>
            show ((evL C n es s g).bind _) = (((evL C n es s g).bind _).bind _).bind _
            cases evL C n es s g <;> rfl
          | exc _ _ => rfl
          | bad => rfl
        | exc _ _ => rfl
        | bad => rfl
      rw [eq] at q
      exact q
    · exact noC h2
  | .var i, m, A, sc, X, W, c, h => by
    obtain ⟨h1, h2⟩ := and2 (show (plM m A && _) = true from h)
    clear h
    cases A <;> first | exact noC h2 | skip
    obtain ⟨h3, h4⟩ := and2 h2
    obtain ⟨v1, v2, v3⟩ := vis_of h4
    refine ok_nt (.ofE (e_var ?_ ?_ v2 v3) rfl) h1 rfl fun _ => ⟨rfl, rfl⟩
    · rw [c.hN]; exact of_decide_eq_true h3
    · rw [c.hsc]; exact v1
  | .bor i, m, A, sc, X, W, c, h => by
    obtain ⟨h1, h2⟩ := and2 (show ((noIt m && plM m A) && _) = true from h)
    obtain ⟨h0, h1⟩ := and2 h1
    clear h
    cases A <;> first | exact noC h2 | skip
    rename_i x p _
    obtain ⟨h3, h4⟩ := and2 h2
    obtain ⟨v1, v2, v3⟩ := vis_of h4
    have : PE X (.Name x p) (tR (fx C ca X W) (evC C n (.bor i) .val)) := e_bor (x := x) (by rw [c.hN]; exact of_decide_eq_true h3) (by rw [c.hsc]; exact v1) v2 v3
    exact ok_nt this h1 rfl fun z => by subst z; cases h0
  | .tup es, m, A, sc, X, W, c, h => by
    obtain ⟨h1, h2⟩ := and2 (show (plM m A && _) = true from h)
    clear h
    cases A <;> first | exact noC h2 | skip
    obtain ⟨h3, h4⟩ := and2 h2
    have hl : es.len ≤ 1000 := of_decide_eq_true h4
    exact ok_nt (.ofE (e_tup (args_rep (isCs_ok es c h3)) fun s g ds g' z => by rw [evs_len z]; exact hl) rfl) h1 rfl fun _ => ⟨rfl, rfl⟩
  | .lst es, m, A, sc, X, W, c, h => by
    obtain ⟨h1, h2⟩ := and2 (show (plM m A && _) = true from h)
    clear h
    cases A <;> first | exact noC h2 | skip
    obtain ⟨h3, h4⟩ := and2 h2
    have hl : es.len ≤ 1000 := of_decide_eq_true h4
    exact ok_nt (.ofF (e_lst (args_rep (isCs_ok es c h3)) fun s g ds g' z => by rw [evs_len z]; exact hl) rfl) h1 rfl fun _ => ⟨rfl, rfl⟩
  | .bin o a b, m, A, sc, X, W, c, h => by
    obtain ⟨h1, h2⟩ := and2 (show (plM m A && _) = true from h)
    clear h
    cases A <;> first | exact noC h2 | skip
    obtain ⟨h3, hb⟩ := and2 h2
    obtain ⟨ho, ha⟩ := and2 h3
    have ra := Nt.raw (isC_ok a (m := .val) c ha)
    have rb := Nt.raw (isC_ok b (m := .val) c hb)
    exact ok_nt (.ofE (e_bin ho ra rb) rfl) h1 rfl fun _ => ⟨rfl, rfl⟩
  | .neg a, m, A, sc, X, W, c, h => by
    obtain ⟨h1, h2⟩ := and2 (show (plM m A && _) = true from h)
    clear h
    cases A <;> first | exact noC h2 | skip
    rename_i op a' p
    cases op <;> first | exact noC h2 | skip
    obtain ⟨hk, ha⟩ := and2 h2
    exact ok_nt (.ofE (e_neg (Nt.rep (isC_ok a (m := .val) c ha) hk)) rfl) h1 rfl fun _ => ⟨rfl, rfl⟩
  | .not_ a, m, A, sc, X, W, c, h => by
    cases A <;> first | exact noC h | skip
    rename_i op a' p
    cases op <;> first | exact noC h | skip
    cases m with
    | it => exact noC h
    | tst =>
      have ha := isC_ok a (m := .tst) c (show isC C.pr C.fn C.cn N sc .tst a a' = true from h)
      exact ⟨t_not ha.1, fun ⟨_, _, _, z⟩ => by cases z⟩
    | val =>
      obtain ⟨hk, ha⟩ := and2 (show (!isBoolE a && isC C.pr C.fn C.cn N sc .val a a') = true from h)
      have hk : isBoolE a = false := by simpa using hk
      have r := e_not (pos := p) (Nt.raw (isC_ok a (m := .val) c ha))
      refine (show Nt C ca n X W (.not_ a) _ from Nt.ofE ?_ rfl)
      have e : evC C n (.not_ a) .val = fNot (fun s g => fin .tst (evC C n a .val s g)) := by
        show (fun s g => (ev C.pr.cons (call C.pr n) a .tst s g).bind _) = _
        rw [ev_fin hk]
        try rfl
      rw [e]
      exact r
  | .and_ a b, m, A, sc, X, W, c, h => by
    cases A <;> first | exact noC h | skip
    rename_i op vs p
    cases op <;> first | exact noC h | skip
    cases vs with
    | nil => exact noC h
    | cons a' r =>
      obtain ⟨hr, h2⟩ := and2 (show (!r.isEmpty && _) = true from h)
      have hr : r.isEmpty = false := by simpa using hr
      cases m with
      | it => exact noC h2
      | tst =>
        obtain ⟨ha, hb⟩ := and2 h2
        have ra := (isC_ok a (m := .tst) c ha).1
        have hb2 : PT X (tailB .And r p) (tT (fx C ca X W) (evC C n b .tst)) ∧ ((∃ op' vs q, tailB .And r p = .BoolOp op' vs q) → PW X (tailB .And r p) (tT (fx C ca X W) (evC C n b .tst))) := isC_ok b (m := .tst) c hb
        obtain ⟨b', rest, rfl, hw⟩ := tail_pw hb2 hr
        have w := w_and (pos := p) ra hw
        exact ⟨w.pt, fun _ => w⟩
      | val =>
        obtain ⟨h3, hb⟩ := and2 h2
        obtain ⟨h4, ha⟩ := and2 h3
        obtain ⟨k1, k2⟩ := and2 h4
        have ra := Nt.rep (isC_ok a (m := .val) c ha) k1
        obtain ⟨b', rest, rfl, hw⟩ := tail_pe (Nt.rep (isC_ok b (m := .val) c hb) k2) hr
        exact (show Nt C ca n X W (.and_ a b) _ from .ofE (e_and (pos := p) ra hw) rfl)
  | .or_ a b, m, A, sc, X, W, c, h => by
    cases A <;> first | exact noC h | skip
    rename_i op vs p
    cases op <;> first | exact noC h | skip
    cases vs with
    | nil => exact noC h
    | cons a' r =>
      obtain ⟨hr, h2⟩ := and2 (show (!r.isEmpty && _) = true from h)
      have hr : r.isEmpty = false := by simpa using hr
      cases m with
      | it => exact noC h2
      | tst =>
        obtain ⟨ha, hb⟩ := and2 h2
        have ra := (isC_ok a (m := .tst) c ha).1
        have hb2 : PT X (tailB .Or r p) (tT (fx C ca X W) (evC C n b .tst)) ∧ ((∃ op' vs q, tailB .Or r p = .BoolOp op' vs q) → PW X (tailB .Or r p) (tT (fx C ca X W) (evC C n b .tst))) := isC_ok b (m := .tst) c hb
        obtain ⟨b', rest, rfl, hw⟩ := tail_pw hb2 hr
        have w := w_or (pos := p) ra hw
        exact ⟨w.pt, fun _ => w⟩
      | val =>
        obtain ⟨h3, hb⟩ := and2 h2
        obtain ⟨h4, ha⟩ := and2 h3
        obtain ⟨k1, k2⟩ := and2 h4
        have ra := Nt.rep (isC_ok a (m := .val) c ha) k1
        obtain ⟨b', rest, rfl, hw⟩ := tail_pe (Nt.rep (isC_ok b (m := .val) c hb) k2) hr
        exact (show Nt C ca n X W (.or_ a b) _ from .ofE (e_or (pos := p) ra hw) rfl)
  | .ite t a b, m, A, sc, X, W, c, h => by
    obtain ⟨_, h2⟩ := and2 (show (true && _) = true from h)
    clear h
    cases A <;> first | exact noC h2 | skip
    have vl : ∀ {t' a' b' : Expr} {p : Pos}, (repK C.pr a && repK C.pr b && isC C.pr C.fn C.cn N sc .tst t t' && isC C.pr C.fn C.cn N sc .val a a' && isC C.pr C.fn C.cn N sc .val b b') = true → Nt C ca n X W (.ite t a b) (.IfExp t' a' b' p) := fun h2 => by
      obtain ⟨h3, hb⟩ := and2 h2
      obtain ⟨h4, ha⟩ := and2 h3
      obtain ⟨h5, ht⟩ := and2 h4
      obtain ⟨k1, k2⟩ := and2 h5
      exact .ofE (e_ite (isC_ok t (m := .tst) c ht).1 (Nt.rep (isC_ok a (m := .val) c ha) k1) (Nt.rep (isC_ok b (m := .val) c hb) k2)) rfl
    cases m with
    | tst =>
      obtain ⟨h3, hb⟩ := and2 h2
      obtain ⟨ht, ha⟩ := and2 h3
      exact ⟨t_ite (isC_ok t (m := .tst) c ht).1 (isC_ok a (m := .tst) c ha).1 (isC_ok b (m := .tst) c hb).1, fun ⟨_, _, _, z⟩ => by cases z⟩
    | val => exact vl h2
    | it => exact ⟨vl h2, rfl⟩
  | .cmp o a b, m, A, sc, X, W, c, h => by
    obtain ⟨h1, h2⟩ := and2 (show (noIt m && _) = true from h)
    clear h
    cases A <;> first | exact noC h2 | skip
    rename_i a' ops bs p
    match ops, bs, h2 with
    | [op], [b'], h2 =>
      obtain ⟨h3, hb⟩ := and2 (show (decide (op = opOf o) && !behindInMarks (opOf o) b' && isC C.pr C.fn C.cn N sc .val a a' && isC C.pr C.fn C.cn N sc .val b b') = true from h2)
      obtain ⟨h4, ha⟩ := and2 h3
      obtain ⟨ho, hm⟩ := and2 h4
      have ho : op = opOf o := of_decide_eq_true ho
      subst ho
      have hm : behindInMarks (opOf o) b' = false := by simpa using hm
      have ra := Nt.raw (isC_ok a (m := .val) c ha)
      have rb := Nt.raw (isC_ok b (m := .val) c hb)
      exact .ofT (.ofE (e_cmp c.gl.un o ra rb hm) rfl) (t_cmp c.gl.un o ra rb hm) h1 fun _ _ _ z => by cases z
    | [], _, h2 => exact noC h2
    | _ :: _ :: _, _, h2 => exact noC h2
    | [_], [], h2 => exact noC h2
    | [_], _ :: _ :: _, h2 => exact noC h2
  | .isN a, m, A, sc, X, W, c, h => by
    obtain ⟨h1, h2⟩ := and2 (show (noIt m && _) = true from h)
    clear h
    split at h2
    · obtain ⟨k, ha⟩ := and2 h2
      have ra := Nt.rep (isC_ok a (m := .val) c ha) k
      exact .ofT (.ofE (e_isN ra) rfl) (t_isN ra) h1 fun _ _ _ z => by cases z
    · exact noC h2
  | .notN a, m, A, sc, X, W, c, h => by
    obtain ⟨h1, h2⟩ := and2 (show (noIt m && _) = true from h)
    clear h
    split at h2
    · obtain ⟨k, ha⟩ := and2 h2
      have ra := Nt.rep (isC_ok a (m := .val) c ha) k
      exact .ofT (.ofE (e_notN ra) rfl) (t_notN ra) h1 fun _ _ _ z => by cases z
    · exact noC h2
  | .chain o q a b d, m, A, sc, X, W, c, h => by
    obtain ⟨h1, h2⟩ := and2 (show (noIt m && _) = true from h)
    clear h
    split at h2
    · obtain ⟨h3, hd⟩ := and2 h2
      obtain ⟨h4, hb⟩ := and2 h3
      obtain ⟨h5, ha⟩ := and2 h4
      obtain ⟨h6, hm⟩ := and2 h5
      obtain ⟨ho, ho2⟩ := and2 h6
      have ho := of_decide_eq_true ho
      have ho2 := of_decide_eq_true ho2
      subst ho ho2
      have ra := Nt.raw (isC_ok a (m := .val) c ha)
      have rb := Nt.raw (isC_ok b (m := .val) c hb)
      have rd := Nt.raw (isC_ok d (m := .val) c hd)
      have hm := (by simpa using hm : lastMarks [opOf o, opOf q] [_, _] = false)
      exact .ofT (.ofE (e_chain c.gl.un o q ra rb rd hm) rfl) (t_chain c.gl.un o q ra rb rd hm) h1 fun _ _ _ z => by cases z
    · exact noC h2
  | .idx a i, m, A, sc, X, W, c, h => by
    obtain ⟨h1, h2⟩ := and2 (show (plM m A && _) = true from h)
    clear h
    cases A <;> first | exact noC h2 | skip
    obtain ⟨h3, hb⟩ := and2 h2
    obtain ⟨h4, ha⟩ := and2 h3
    obtain ⟨hs, k⟩ := and2 h4
    exact ok_nt (.ofE (e_idx (Nt.raw (isC_ok a (m := .val) c ha)) (Nt.rep (isC_ok i (m := .val) c hb) k) (slice_of hs)) rfl) h1 rfl fun _ => ⟨rfl, rfl⟩
  | .slc a lo hi, m, A, sc, X, W, c, h => by
    obtain ⟨h1, h2⟩ := and2 (show (plM m A && _) = true from h)
    clear h
    split at h2
    · obtain ⟨h3, hh⟩ := and2 h2
      obtain ⟨ha, hl⟩ := and2 h3
      obtain ⟨tl, pl, il⟩ := b_lo (fun x z => isC_ok lo (m := .val) c z) hl
      obtain ⟨th, ph, ih⟩ := b_lo (fun x z => isC_ok hi (m := .val) c z) hh
      exact ok_nt (.ofE (op_slc (Nt.raw (isC_ok a (m := .val) c ha)) pl ph il ih) rfl) h1 rfl fun _ => ⟨rfl, rfl⟩
    · exact noC h2
  | .rev a, m, A, sc, X, W, c, h => by
    obtain ⟨h1, h2⟩ := and2 (show (plM m A && _) = true from h)
    clear h
    split at h2
    · obtain ⟨hn, ha⟩ := and2 h2
      have hn := of_decide_eq_true hn
      subst hn
      exact ok_nt (.ofE (e_rev (Nt.raw (isC_ok a (m := .val) c ha))) rfl) h1 rfl fun _ => ⟨rfl, rfl⟩
    · exact noC h2
  | .isi t a, m, A, sc, X, W, c, h => by
    obtain ⟨h1, h2⟩ := and2 (show (plM m A && _) = true from h)
    clear h
    split at h2
    · obtain ⟨h3, ha⟩ := and2 h2
      obtain ⟨h4, ns⟩ := and2 h3
      obtain ⟨h5, g2⟩ := and2 h4
      obtain ⟨h6, g1⟩ := and2 h5
      obtain ⟨e1, e2⟩ := and2 h6
      exact ok_isi c (of_decide_eq_true e1) (of_decide_eq_true e2) g1 g2 ns h1 (isC_ok a (m := .val) c ha)
    · exact noC h2
  | .p1 p a, m, A, sc, X, W, c, h => by
    obtain ⟨_, h2⟩ := and2 (show (true && _) = true from h)
    clear h
    split at h2
    · rename_i x q1 a' q2
      obtain ⟨h3, h2⟩ := and2 h2
      obtain ⟨h4, ns⟩ := and2 h3
      obtain ⟨hx, hg⟩ := and2 h4
      have hx := of_decide_eq_true hx
      split at h2
      · obtain ⟨k, ha⟩ := and2 h2
        subst hx
        exact ⟨a', q1, q2, rfl, (gl_of c.hsc hg).1, ns, Nt.rep (isC_ok a (m := .val) c ha) k⟩
      · obtain ⟨k, ha⟩ := and2 h2
        subst hx
        exact ⟨a', q1, q2, rfl, (gl_of c.hsc hg).1, ns, Nt.rep (isC_ok a (m := .val) c ha) k⟩
      · rename_i n1 n2
        obtain ⟨h5, ha⟩ := and2 h2
        obtain ⟨_, ho⟩ := and2 h5
        have go : (if (isRange a && decide (p = .list)) = true then SrcOk C ca n X W a a' else Nt C ca n X W a a') := by
          by_cases z : (isRange a && decide (p = .list)) = true
          · rw [if_pos z] at ha
            rw [if_pos z]
            exact isC_ok a (m := .it) c ha
          · rw [if_neg z] at ha
            rw [if_neg z]
            exact isC_ok a (m := .val) c ha
        cases m with
        | it =>
          have r := ok_p1 (m := .val) (q1 := q1) (q2 := q2) c hx hg ns ho rfl go
          refine Nt.src r ?_ ?_
          · unfold repK; cases p <;> first | rfl | (cases ho; done)
          · cases p <;> first | rfl | (cases ho; done)
        | val => exact ok_p1 c hx hg ns ho rfl go
        | tst => exact ok_p1 c hx hg ns ho rfl go
    · exact noC h2
  | .call i es, m, A, sc, X, W, c, h => by
    obtain ⟨h1, h2⟩ := and2 (show (plM m A && _) = true from h)
    clear h
    split at h2
    · rename_i x q1 a' as q2
      obtain ⟨h3, hs⟩ := and2 h2
      obtain ⟨hi, hg⟩ := and2 h3
      have hi := of_decide_eq_true hi
      have al := isCs_ok es c hs
      have co := callOk c hi hg
      cases es with
      | nil => exact al.elim
      | cons e es =>
        have st := star_of (es := as) (env := X.env) al.1
        have hp := stars_of (env := X.env) (pos := q2) al.2.2
        have ar := args_rep al
        cases hf : frOf C.pr i with
        | true =>
          rw [hf] at co
          have k : nk C.pr (.call i (.cons e es)) = .f := by show (if frOf C.pr i = true then NK.f else NK.e) = _; rw [hf]; rfl
          exact ok_nt (.ofF (e_callF co ar st hp) k) h1 rfl fun _ => ⟨rfl, by unfold repK; rw [k]⟩
        | false =>
          rw [hf] at co
          have k : nk C.pr (.call i (.cons e es)) = .e := by show (if frOf C.pr i = true then NK.f else NK.e) = _; rw [hf]; rfl
          exact ok_nt (.ofE (e_call co ar st hp) k) h1 rfl fun _ => ⟨rfl, by unfold repK; rw [k]⟩
    · exact noC h2
  | .callB i es, m, A, sc, X, W, c, h => by
    obtain ⟨h1, h2⟩ := and2 (show (plM m A && _) = true from h)
    clear h
    split at h2
    · rename_i x q1 a' as q2
      obtain ⟨h3, hs⟩ := and2 h2
      obtain ⟨h4, hf⟩ := and2 h3
      obtain ⟨hi, hg⟩ := and2 h4
      have hi := of_decide_eq_true hi
      have hf : frOf C.pr i = false := by simpa using hf
      have al := isCs_ok es c hs
      have co := callOk c hi hg
      rw [hf] at co
      cases es with
      | nil => exact al.elim
      | cons e es =>
        have st := star_of (es := as) (env := X.env) al.1
        have hp := stars_of (env := X.env) (pos := q2) al.2.2
        exact ok_nt (.ofE (e_callB co (args_raw al) st hp) rfl) h1 rfl fun _ => ⟨rfl, rfl⟩
    · exact noC h2
  | .lc elt tg it cs, m, A, sc, X, W, c, h => by
    obtain ⟨h1, h2⟩ := and2 (show (plM m A && _) = true from h)
    clear h
    split at h2
    · rename_i elt' tg' it' ifs k scope pos
      obtain ⟨h3, hcs⟩ := and2 h2
      obtain ⟨h4, helt⟩ := and2 h3
      obtain ⟨h5, hit⟩ := and2 h4
      obtain ⟨h6, hk⟩ := and2 h5
      obtain ⟨h7, hl⟩ := and2 h6
      obtain ⟨h8, htg⟩ := and2 h7
      obtain ⟨h9, hblk⟩ := and2 h8
      obtain ⟨h10, hen⟩ := and2 h9
      obtain ⟨hz, hset⟩ := and2 h10
      have hz := of_decide_eq_true hz
      subst hz
      have hl : cs.len ≤ 1 := of_decide_eq_true hl
      have hen : isEnum it = true → isTup tg' = true := fun z => by simpa [z] using hen
      have src : SrcOk C ca n X W it it' := isC_ok it (m := .it) c hit
      have ok : BlkOk X.N X.env.scope scope (ownL N tg) := by rw [c.hN, c.hsc]; exact blk_of hblk
      refine ok_nt (.ofF (e_lc (ca := ca) (W := W) (tg := tg) (own := ownL N tg) (fc := fun s g => evc C.pr.cons (call C.pr n) cs s g) c.calm c.nd (src_it c src hen) ok own_slots (fun s H C' cl fp => ?_) (fun s H C' cl fp => ?_) (fun s H C' cl fp => ?_) (set_of hset)) rfl) h1 rfl fun _ => ⟨rfl, rfl⟩
      · have cb := c.blk s H scope cl C' fp
        refine tg_of (sc' := relS scope sc) (scope := scope) (fnb := blkFn scope) cb.hsc cb.calm cb.nd (fun x z => z) ?_
        rw [cb.hN]; exact htg
      · have cb := c.blk s H scope cl C' fp
        have al := isCs_ok cs cb hcs
        cases cs with
        | nil =>
          cases ifs with
          | nil => exact ⟨fun pins s σ H Q I q => pts_nil.run pins s σ H Q I (by
              obtain ⟨ρ, B, s, g, S, q⟩ := q
              exact q true H ρ Ext.refl S rfl)⟩
          | cons _ _ => exact al.elim
        | cons e es =>
          cases es with
          | cons _ _ => exact absurd hl (by show ¬ (_ + 1 + 1 ≤ 1); omega)
          | nil =>
            cases ifs with
            | nil => exact al.elim
            | cons a' r =>
              cases r with
              | cons _ _ => exact al.2.2.elim
              | nil =>
                have ht : PT _ a' (tT (fx C ca _ WF) (evC C n e .tst)) := al.2.1.1
                refine pts_one (ht.impX fun σ H Q q => ?_)
                obtain ⟨ρ, B, s, g, S, q⟩ := q
                refine ⟨ρ, B, s, g, S, Out.seq (R1 := rBool B) q fun x g1 k H1 ρ1 _ e1 S1 r1 h1 => ?_⟩
                have r1 : x = .bl k := r1
                subst r1
                exact h1 k H1 ρ1 Ext.refl S1 (by cases k <;> rfl)
      · have cb := c.blk s H scope cl C' fp
        exact Nt.rep (isC_ok elt (m := .val) cb helt) hk
    · exact noC h2
theorem isS_ok : ∀ (e : E) {A : Expr} {sc : Scope} {X : Cx} {W : WX}, Cxt X C ca N sc W n → isS C.pr C.fn C.cn N sc e A = true → PET X A (tE (fx C ca X W) (evC C n e .val)) ∧ starEach [A] X.env = (false, eval A X.env) :: starEach [] X.env ∧ noStar A = true
  | .strike o k, A, sc, X, W, c, h => by
    obtain ⟨_, h1⟩ := and2 (show (true && _) = true from h)
    clear h
    split at h1
    · rename_i o' f ap y j q1 z j2 q2 cp
      obtain ⟨_, h1⟩ := and2 h1
      obtain ⟨h2, ho⟩ := and2 h1
      obtain ⟨h3, hl⟩ := and2 h2
      obtain ⟨h4, hr⟩ := and2 h3
      obtain ⟨h5, hz⟩ := and2 h4
      obtain ⟨hf, hy⟩ := and2 h5
      have hf := of_decide_eq_true hf
      have hy := of_decide_eq_true hy
      have hz := of_decide_eq_true hz
      subst hf hy hz
      exact ⟨e_strike (Nt.raw (isC_ok o (m := .val) c ho)) hr hl, rfl, rfl⟩
    · exact noC h1
  | .lit _, _, _, _, _, _, h | .con _, _, _, _, _, _, h | .var _, _, _, _, _, _, h | .bor _, _, _, _, _, _, h | .tup _, _, _, _, _, _, h | .lst _, _, _, _, _, _, h | .bin _ _ _, _, _, _, _, _, h | .neg _, _, _, _, _, _, h | .not_ _, _, _, _, _, _, h | .ite _ _ _, _, _, _, _, _, h | .cmp _ _ _, _, _, _, _, _, h
  | .isN _, _, _, _, _, _, h | .notN _, _, _, _, _, _, h | .chain _ _ _ _ _, _, _, _, _, _, h | .idx _ _, _, _, _, _, _, h | .slc _ _ _, _, _, _, _, _, h | .rev _, _, _, _, _, _, h | .isi _ _, _, _, _, _, _, h | .p1 _ _, _, _, _, _, _, h | .p2 _ _ _, _, _, _, _, _, h | .call _ _, _, _, _, _, _, h
  | .callB _ _, _, _, _, _, _, h | .lc _ _ _ _, _, _, _, _, _, h | .find _ _ _, _, _, _, _, _, h | .lstR _ _ _, _, _, _, _, _, h | .and_ _ _, _, _, _, _, _, h | .or_ _ _, _, _, _, _, _, h => noC h
theorem isR_ok : ∀ (es : Es) {As : List Expr} {sc : Scope} {X : Cx} {W : WX}, Cxt X C ca N sc W n → isR C.pr C.fn C.cn N sc es As = true → PAT X As (tI (fx C ca X W) (rRepL X.K) (evL C n es))
  | .nil, [], sc, X, W, c, h => at_nil
  | .nil, _ :: _, sc, X, W, c, h => noC h
  | .cons _ _, [], sc, X, W, c, h => noC h
  | .cons e es, A :: as, sc, X, W, c, h => by
    obtain ⟨h1, hs⟩ := and2 (show (_ && isR C.pr C.fn C.cn N sc es as) = true from h)
    have ih := isR_ok es (As := as) c hs
    rcases Bool.or_eq_true _ _ ▸ h1 with h1 | h1
    · obtain ⟨h2, he⟩ := and2 h1
      obtain ⟨ns, k⟩ := and2 h2
      exact at_cons (CwR.PET.of (Nt.rep (isC_ok e (m := .val) c he) k)) ih (star_of ns)
    · obtain ⟨p, _, ns⟩ := isS_ok e c h1
      exact at_cons p ih (star_of ns)
theorem isCs_ok : ∀ (es : Es) {m : Ma} {As : List Expr} {sc : Scope} {X : Cx} {W : WX}, Cxt X C ca N sc W n → isCs C.pr C.fn C.cn N sc m es As = true → AllOk C ca n X W m es As
  | .nil, m, [], sc, X, W, c, h => trivial
  | .nil, m, _ :: _, sc, X, W, c, h => noC h
  | .cons e es, m, [], sc, X, W, c, h => noC h
  | .cons e es, m, a :: as, sc, X, W, c, h => by
    obtain ⟨h1, hs⟩ := and2 (show ((noStar a && _) && isCs C.pr C.fn C.cn N sc m es as) = true from h)
    obtain ⟨ns, h2⟩ := and2 h1
    refine ⟨ns, ?_, isCs_ok es c hs⟩
    cases m with
    | rep =>
      obtain ⟨k, h3⟩ := and2 h2
      exact ⟨isC_ok e (m := .val) c h3, k⟩
    | raw => exact isC_ok e (m := .val) c h2
    | tst => exact isC_ok e (m := .tst) c h2
end
end
end PX
end
section
set_option Elab.async false
set_option linter.all false
set_option maxRecDepth 100000
set_option autoImplicit false
set_option maxHeartbeats 4000000
/-! PXz: which statements of the row an own text stands for. -/
namespace PX
open PySem L2 PySem.Spec PyProof.Rows
def locB (sc : Scope) (x : Str) : Bool := decide (sc.names.lookup x = some .local) || decide (sc.names.lookup x = some .cell)
def noComp : Expr → Bool
  | .ListComp _ _ _ _ => false
  | .SetComp _ _ _ _ => false
  | .DictComp _ _ _ _ _ => false
  | _ => true
def noTup : Expr → Bool
  | .Tuple _ _ _ => false
  | _ => true
def isLc : E → Bool
  | .lc _ _ _ _ => true
  | _ => false
def isFrz : S → Bool
  | .frz _ => true
  | _ => false
def isSimp : S → Bool
  | .nop => false
  | .seq _ _ => false
  | .frz _ => false
  | _ => true
def swapB (sc : Scope) (y : Str) (py : Pos) : Expr → Bool
  | .ListComp _ _ scope pos => decide (sc.kind = .function) && decide (sc.names.lookup y = some .local) && (py.line == pos.line) && !(scope.names.any fun (n, k) => n == y && (k == .local || k == .cell))
  | _ => false
/-- x, y = .., .. by the road of the stores exchanged -/
def par2B (sc : Scope) (x y : Str) (px py : Pos) (a c : Expr) : Bool :=
  decide (sc.kind = .function) && decide (sc.names.lookup x = some .local) && decide (sc.names.lookup y = some .local) && decide (px.line = py.line) && decide (x ≠ y) && noStar a && noStar c &&
  !(foldedForSure 8 a && foldedForSure 8 c) && !(constantsAlone 8 a && constantsAlone 8 c)
def par3B (sc : Scope) (x y z : Str) (px py pz : Pos) (a c d : Expr) : Bool :=
  decide (sc.kind = .function) && decide (sc.names.lookup x = some .local) && decide (sc.names.lookup y = some .local) && decide (sc.names.lookup z = some .local) && decide (px.line = py.line) && decide (px.line = pz.line) &&
  decide (x ≠ y) && decide (x ≠ z) && decide (y ≠ z) && noStar a && noStar c && noStar d && !(foldedForSure 8 a && foldedForSure 8 c && foldedForSure 8 d) && !(constantsAlone 8 a && constantsAlone 8 c && constantsAlone 8 d)
def cel2B (sc : Scope) (x y : Str) (a c : Expr) : Bool := (decide (sc.names.lookup x = some .cell) || decide (sc.names.lookup y = some .cell) || (foldedForSure 8 a && foldedForSure 8 c)) && locB sc x && locB sc y
def cel3B (sc : Scope) (x y z : Str) (a c d : Expr) : Bool := (decide (sc.names.lookup x = some .cell) || (decide (sc.names.lookup y = some .cell) || decide (sc.names.lookup z = some .cell)) || (foldedForSure 8 a && foldedForSure 8 c && foldedForSure 8 d)) && locB sc x && locB sc y && locB sc z
/-- all errors that a clause of class cc takes have the one field f -/
def fldB (C : Cfg) (cc : Nat) (f : Str) : Bool := (List.range C.cl.length).all fun c => !C.pr.sub c cc || decide (C.flds.getD c [] = [f])
def seB (C : Cfg) (cc : Nat) (N : List Str) (sc : Scope) (n : Str) : SE → Expr → Bool
  | .lit d, A => litB d A
  | .fld j, A => (match A with
    | .Attribute (.Name x _) f _ => decide (j = 0) && decide (x = n) && fldB C cc f && visB sc x
    | _ => false)
  | .tup2 a b, A => (match A with
    | .Tuple [x, y] _ _ => noStar x && noStar y && seB C cc N sc n a x && seB C cc N sc n b y
    | _ => false)
  | .ifIs k a b, A => (match A with
    | .IfExp (.Call (.Name y _) [.Name x _, .Name z _] [] _) a' b' _ => decide (y = "isinstance") && decide (x = n) && decide (C.cl[k]? = some z) && glB sc y && glB sc z && visB sc x && seB C cc N sc n a a' && seB C cc N sc n b b'
    | _ => false)
  | .tup1 _, _ => false
section
variable (C : Cfg) (N : List Str) (sc : Scope) (rs : List Nat)
def isPs : List K → Es → List Expr → Bool
  | [], .nil, [] => true
  | k :: ks, .cons e es, v :: vs => noStar v && isC C.pr C.fn C.cn N sc .val e v && (match k with
    | .val => repK C.pr e
    | .own => decide (nk C.pr e = .f)
    | .hp => false) && isPs ks es vs
  | _, _, _ => false
def hsB : List (Nat × SE) → List ExceptHandler → Bool
  | [], [] => true
  | (c, e) :: hs, .ExceptHandler (some (.Name x _)) (some n) [.Return (some v) _] _ :: hds => decide (C.cl[c]? = some x) && glB sc x && decide (n ∈ N) && decide (sc.names.lookup n = some .local) && seB C c N sc n e v && hsB hs hds
  | _, _ => false
def isB : S → List Stmt → Bool
  | .nop, L => L.isEmpty
  | .seq x r, L => if isFrz x then isB r L else (match L with
    | st :: rest => isSimp x && isB x [st] && isB r rest
    | [] => false)
  | .frz _, _ => false
  | .set i k e, L => (match L with
    | [.Assign [.Name x py] v pos] => decide (N[i]? = some x) && locB sc x && isC C.pr C.fn C.cn N sc .val e v && (if isLc e && !decide (sc.names.lookup x = some .cell) then swapB sc x py v else (noComp v || (isLc e && decide (sc.names.lookup x = some .cell))) && (match k with
      | .val => repK C.pr e
      | _ => decide (nk C.pr e = .f)))
    | _ => false)
  | .setP ts es, L => (match L with
    | [.Assign [.Tuple [.Name x px, .Name y py] _ _] (.Tuple [a, c] _ _) _] => decide (ts.length = 2) && decide (N[(ts.getD 0 (0, .val)).1]? = some x) && decide (N[(ts.getD 1 (0, .val)).1]? = some y) && (par2B sc x y px py a c || cel2B sc x y a c) && isPs C N sc (ts.map (·.2)) es [a, c]
    | [.Assign [.Tuple [.Name x px, .Name y py, .Name z pz] _ _] (.Tuple [a, c, d] _ _) _] => decide (ts.length = 3) && decide (N[(ts.getD 0 (0, .val)).1]? = some x) && decide (N[(ts.getD 1 (0, .val)).1]? = some y) && decide (N[(ts.getD 2 (0, .val)).1]? = some z) &&
        (par3B sc x y z px py pz a c d || cel3B sc x y z a c d) && isPs C N sc (ts.map (·.2)) es [a, c, d]
    | _ => false)
  | .unp is e, L => (match L with
    | [.Assign [tgE] v _] => isTup tgE && tgB N sc sc (fun _ => true) (.tup is) tgE && isC C.pr C.fn C.cn N sc .val e v && repK C.pr e && noComp v && noTup v
    | _ => false)
  | .app i e, L => (match L with
    | [.Expr (.Call (.Attribute (.Name x _) f ap) [v] [] cp) _] => decide (f = "append") && decide (N[i]? = some x) && visB sc x && isC C.pr C.fn C.cn N sc .val e v && repK C.pr e && noStar v && (ap.endLine == cp.line)
    | _ => false)
  | .ext i e, L => (match L with
    | [.AugAssign (.Name x _) .Add v _] => decide (N[i]? = some x) && locB sc x && isC C.pr C.fn C.cn N sc .val e v && decide (nk C.pr e = .f)
    | _ => false)
  | .put _ _ _, _ => false
  | .putR a k e, L => (match L with
    | [.Assign [.Subscript o k' _] v _] => isC C.pr C.fn C.cn N sc .val a o && repK C.pr a && isC C.pr C.fn C.cn N sc .val k k' && repK C.pr k && isC C.pr C.fn C.cn N sc .val e v && repK C.pr e && noSlice k' && noComp v
    | _ => false)
  | .putT i ks es, L => (match L, ks with
    | [.Assign [.Tuple [.Subscript (.Name x _) k1' _, .Subscript (.Name y _) k2' _] _ _] (.Tuple [a, c] _ _) _], .cons k1 (.cons k2 .nil) =>
      decide (N[i]? = some x) && decide (y = x) && visB sc x && isC C.pr C.fn C.cn N sc .val k1 k1' && repK C.pr k1 && isC C.pr C.fn C.cn N sc .val k2 k2' && repK C.pr k2 && noSlice k1' && noSlice k2' && isCs C.pr C.fn C.cn N sc .rep es [a, c]
    | _, _ => false)
  | .aug i o e, L => (match L, o with
    | [.AugAssign (.Name x _) .Add v _], .add => decide (N[i]? = some x) && locB sc x && isC C.pr C.fn C.cn N sc .val e v && repK C.pr e
    | _, _ => false)
  | .if_ c a b, L => (match L with
    | [.If c' as bs _] => isC C.pr C.fn C.cn N sc .tst c c' && isB a as && isB b bs
    | _ => false)
  | .whl c b, L => (match L with
    | [.While c' bs [] _] => isC C.pr C.fn C.cn N sc .tst c c' && isB b bs
    | _ => false)
  | .for_ tg it b, L => (match L with
    | [.For tg' it' bs [] _] => tgB N sc sc (fun _ => true) tg tg' && isC C.pr C.fn C.cn N sc .it it it' && (!isEnum it || isTup tg') && noSet it' && isB b bs
    | _ => false)
  | .ret e, L => (match L with
    | [.Return (some v) _] => isC C.pr C.fn C.cn N sc .val e v && repK C.pr e
    | _ => false)
  | .retO i, L => (match L with
    | [.Return (some (.Name x _)) _] => decide (N[i]? = some x) && visB sc x
    | _ => false)
  | .retF e, L => (match L with
    | [.Return (some v) _] => isC C.pr C.fn C.cn N sc .val e v && decide (nk C.pr e = .f)
    | _ => false)
  | .ret0, L => (match L with
    | [.Return none _] => true
    | _ => false)
  | .rai c es, L => (match L, es with
    | [.Raise (some (.Call (.Name x _) [a] [] _)) none _], .cons e .nil => decide (C.cl[c]? = some x) && decide (c ∈ rs) && glB sc x && noStar a && isC C.pr C.fn C.cn N sc .val e a && repK C.pr e
    | _, _ => false)
  | .try_ b hs, L => (match L with
    | [.Try bs (h0 :: hds) [] [] _] => isB b bs && hsB C N sc hs (h0 :: hds)
    | _ => false)
  | .expr e, L => (match L with
    | [.Expr v _] => isC C.pr C.fn C.cn N sc .val e v && repK C.pr e && noComp v
    | _ => false)
end
end PX
end
section
set_option Elab.async false
set_option linter.all false
set_option maxRecDepth 100000
set_option autoImplicit false
set_option maxHeartbeats 8000000
/-! PZa: small facts on the way of the statements. -/
namespace PX
open PySem L2 PySem.Spec PyProof.Rows
section
variable {X : Cx} {C : Cfg} {ca : Nat → Addr} {W : WX} {b : Bs} {fs : Sl → G → R (List D)} {ks : List PX.K} {N : List Str} {sc : Scope}
/-- by way of a tuple of the values -/
theorem par_impT {is : List Nat} {R : List V → L2.St → Hp → Prop} {D : Ends} {σ : L2.St} {H : Hp} (hl : is.length = ks.length) (hR : ∀ vs H, (∀ p, H p = none → D.nx (setVs is vs σ) (upd H p (.tup vs))) → vs.length = is.length → R vs σ H)
    (q : tSt (fx C ca X W) b (fun s g => lift s (fs s g) fun ds g => putAll (is.zip ks) ds s g) D σ H) : tP (fx C ca X W) ks fs σ H fun vs H1 => R vs σ H1 := by
  obtain ⟨ρ, B, s, g, S, q⟩ := q
  refine ⟨ρ, B, s, g, S.sim, ?_⟩
  cases z : fs s g with
  | bad => simp only [z] at q; exact q.elim
  | exc y g1 =>
    simp only [z] at q
    exact fun cls dx H1 ρ1 B1 e1 k1 k2 S1 xr => q cls dx σ H1 ρ1 B1 ⟨S.ext.trans e1, fun c m => k1 c (S.sub c m), S.new, S1⟩ xr
  | ok ds g1 =>
    simp only [z] at q
    have q : OutSt (fx C ca X W) b ρ B H (putAll (is.zip ks) ds s g1) D := q
    intro vs H1 ρ1 B1 as e1 k1 k2 k3 S1 pr
    have St1 : StOk X.K b H1 g1 s σ ρ1 B1 := ⟨S.ext.trans e1, fun c m => (k1 c).mpr (.inr (S.sub c m)), S.new, S1⟩
    have hst : Stp ρ B H ρ1 B1 H1 := ⟨e1.pre, fun c o t n _ => e1.keep c o t n, e1.there, e1.tup, e1.frz, fun c ⟨o, t⟩ n m => by
      rcases (k1 c).mp m with m | m
      · rw [(k3 c m).2] at t; cases t
      · exact n m⟩
    have hlen : vs.length = is.length := by
      rw [hl]; exact pr.length
    cases z2 : putAll (is.zip ks) ds s g1 with
    | nx s' g' =>
      obtain ⟨rfl, S2⟩ := par_put pr St1 k2 (fun a m => ⟨(k1 a).mpr (.inl m), fun t => (k3 a m).1 (S.sub a t), S.ext.free (k3 a m).2, fun j u q1 q2 => by
        obtain ⟨c, w1, w2, _⟩ := S.sim.own j u q1
        rw [q2] at w1
        cases w1
        exact (k3 a m).1 w2⟩) hl z2
      rw [z2] at q
      refine hR vs H1 (fun p hp => ?_) hlen
      have el : Ext ρ1 H1 ρ1 (upd H1 p (.tup vs)) := Ext.laid hp
      exact q _ _ ρ1 B1 (hst.trans (Stp.ofExt el)) (S2.step el (S2.sim.laid hp))
    | ret fr d g' => exact (putAll_nx z2).elim
    | exc y s' g' => exact (putAll_nx z2).elim
    | bad => rw [z2] at q; exact q.elim
theorem s_parT2 {i j : Nat} {x y : Str} {k1 k2 : PX.K} {a c : Expr} {px py pt pt2 pos : Pos} {kt kt2 : Nat} (hc : X.calm = true) (hN : X.N.Nodup) (hi : X.N[i]? = some x) (hj : X.N[j]? = some y)
    (hx : Loc X.env.scope x) (hy : Loc X.env.scope y) (hf : ∀ x, X.fn x = true) (ha : PA X [a, c] (tP (fx C ca X W) [k1, k2] fs))
    (hw : swappedStores [.Tuple [.Name x px, .Name y py] kt pt] (.Tuple [a, c] kt2 pt2) X.env = pure none) :
    PS X (.Assign [.Tuple [.Name x px, .Name y py] kt pt] (.Tuple [a, c] kt2 pt2) pos) (tSt (fx C ca X W) b fun s g => lift s (fs s g) fun ds g => putAll [(i, k1), (j, k2)] ds s g) :=
  (ps_asg (pe_tup ha) (pg_tup hc (pgs_cons (pg_name hN hi hx (.inl (hf _))) (pgs_cons (pg_name hN hj hy (.inl (hf _))) pgs_nil rfl) rfl) rfl rfl) rfl hw rfl).impX fun D σ H q =>
    par_impT (is := [i, j]) (R := fun vs σ H => vs.length ≤ sizeLine ∧ ∀ p, H p = none → gTup X.K 2 (gCons (gName i) (gCons (gName j) gNil)) (.ref p) σ (upd H p (.tup vs)) D.nx) rfl (fun vs H q hl => by
      match vs, hl with
      | [v, w], hl => exact ⟨Nat.le_of_lt (small1000 (by rw [hl]; show (2 : Nat) ≤ 1000; omega)), fun p hp => ⟨p, [v, w], rfl, .inl (.inl upd_same), rfl, v, [w], rfl, w, [], rfl, rfl, q p hp⟩⟩) q
theorem s_parT3 {i j l : Nat} {x y z : Str} {k1 k2 k3 : PX.K} {a c d : Expr} {px py pz pt pt2 pos : Pos} {kt kt2 : Nat} (hc : X.calm = true) (hN : X.N.Nodup) (hi : X.N[i]? = some x) (hj : X.N[j]? = some y) (hk : X.N[l]? = some z)
    (hx : Loc X.env.scope x) (hy : Loc X.env.scope y) (hz : Loc X.env.scope z) (hf : ∀ x, X.fn x = true) (ha : PA X [a, c, d] (tP (fx C ca X W) [k1, k2, k3] fs))
    (hw : swappedStores [.Tuple [.Name x px, .Name y py, .Name z pz] kt pt] (.Tuple [a, c, d] kt2 pt2) X.env = pure none) :
    PS X (.Assign [.Tuple [.Name x px, .Name y py, .Name z pz] kt pt] (.Tuple [a, c, d] kt2 pt2) pos) (tSt (fx C ca X W) b fun s g => lift s (fs s g) fun ds g => putAll [(i, k1), (j, k2), (l, k3)] ds s g) :=
  (ps_asg (pe_tup ha) (pg_tup hc (pgs_cons (pg_name hN hi hx (.inl (hf _))) (pgs_cons (pg_name hN hj hy (.inl (hf _))) (pgs_cons (pg_name hN hk hz (.inl (hf _))) pgs_nil rfl) rfl) rfl) rfl rfl) rfl hw rfl).impX fun D σ H q =>
    par_impT (is := [i, j, l]) (R := fun vs σ H => vs.length ≤ sizeLine ∧ ∀ p, H p = none → gTup X.K 3 (gCons (gName i) (gCons (gName j) (gCons (gName l) gNil))) (.ref p) σ (upd H p (.tup vs)) D.nx) rfl (fun vs H q hl => by
      match vs, hl with
      | [v, w, u], hl => exact ⟨Nat.le_of_lt (small1000 (by rw [hl]; show (3 : Nat) ≤ 1000; omega)), fun p hp => ⟨p, [v, w, u], rfl, .inl (.inl upd_same), rfl, v, [w, u], rfl, w, [u], rfl, u, [], rfl, rfl, q p hp⟩⟩) q
/-- a name among the targets is no plain local: the tuple is made -/
theorem swapn2 {x y : Str} {px py : Pos} {a c : Expr} {kt kt2 : Nat} {pt pt2 : Pos} (hsc : X.env.scope = sc) (h : (sc.names.lookup x = some .cell ∨ sc.names.lookup y = some .cell) ∨ (foldedForSure 8 a = true ∧ foldedForSure 8 c = true)) : swappedStores [.Tuple [.Name x px, .Name y py] kt pt] (.Tuple [a, c] kt2 pt2) X.env = pure none := by
  subst hsc
  rcases h with (h | h) | ⟨h1, h2⟩
  · have k : X.env.kindOf x = some .cell := h
    unfold swappedStores
    simp only [List.filterMap_cons, List.filterMap_nil, k]
    cases (X.env.kindOf y == some .local && _) <;> simp
  · have k : X.env.kindOf y = some .cell := h
    unfold swappedStores
    simp only [List.filterMap_cons, List.filterMap_nil, k]
    cases (X.env.kindOf x == some .local && _) <;> simp
  · have f : [a, c].all (foldedForSure 8) = true := by simp [h1, h2]
    unfold swappedStores
    simp only [f, if_true]
    repeat (first | rfl | split)
theorem swapn3 {x y z : Str} {px py pz : Pos} {a c d : Expr} {kt kt2 : Nat} {pt pt2 : Pos} (hsc : X.env.scope = sc) (h : (sc.names.lookup x = some .cell ∨ sc.names.lookup y = some .cell ∨ sc.names.lookup z = some .cell) ∨ ((foldedForSure 8 a = true ∧ foldedForSure 8 c = true) ∧ foldedForSure 8 d = true)) :
    swappedStores [.Tuple [.Name x px, .Name y py, .Name z pz] kt pt] (.Tuple [a, c, d] kt2 pt2) X.env = pure none := by
  subst hsc
  rcases h with (h | h | h) | ⟨⟨h1, h2⟩, h3⟩
  · have k : X.env.kindOf x = some .cell := h
    unfold swappedStores
    simp only [List.filterMap_cons, List.filterMap_nil, k]
    cases (X.env.kindOf y == some .local && _) <;> cases (X.env.kindOf z == some .local && _) <;> simp
  · have k : X.env.kindOf y = some .cell := h
    unfold swappedStores
    simp only [List.filterMap_cons, List.filterMap_nil, k]
    cases (X.env.kindOf x == some .local && _) <;> cases (X.env.kindOf z == some .local && _) <;> simp
  · have k : X.env.kindOf z = some .cell := h
    unfold swappedStores
    simp only [List.filterMap_cons, List.filterMap_nil, k]
    cases (X.env.kindOf x == some .local && _) <;> cases (X.env.kindOf y == some .local && _) <;> simp
  · have f : [a, c, d].all (foldedForSure 8) = true := by simp [h1, h2, h3]
    unfold swappedStores
    simp only [f, if_true]
    repeat (first | rfl | split)
end
/-- what stands of the error classes -/
structure GlobS (Pg : Program) (K : Fg) (mg : Str → Option Value) (A : Around) (C : Cfg) (ca : Nat → Addr) (rs : List Nat) : Prop where
  room : ∃ k, Room k A
  nm : ∀ (c : Nat) (x : Str), C.cl[c]? = some x → mg x = some (.ref (ca c))
  err : ∀ c ∈ rs, ∃ fl Dc fI, ErrTxt fl Pg K (ca c) Dc fI ∧ C.flds.getD c [] = [fl]
  fld : ∀ c, c < C.cl.length → XfC K (ca c) ∧ L2.ExcC K (ca c) ∧ ∀ fl ∈ C.flds.getD c [], PySem.W.findIn K (.ref (ca c)) fl = some none
  kit : ∀ c c', c < C.cl.length → c' < C.cl.length → PySem.W.kitOne K (.ref (ca c)) (.ref (ca c')) = some (C.pr.sub c c')
  exm : ∀ c c', c < C.cl.length → c' < C.cl.length → PySem.W.exmOne K (.ref (ca c)) (.ref (ca c')) = some (C.pr.sub c c')
structure Cxs (X : Cx) (C : Cfg) (ca : Nat → Addr) (N : List Str) (sc : Scope) (rs : List Nat) (W : WX) (n : Nat) : Prop where
  cx : Cxt X C ca N sc W n
  fnT : ∀ x, X.fn x = true
  stk : X.stack = X.env :: X.outer
  frm : X.env.frame = some X.env.locals
  pass : PassesOwn (model X.prog X.w) X.A X.env X.xe
  gs : GlobS X.prog X.K X.mg X.A C ca rs
section
variable {C : Cfg} {ca : Nat → Addr} {n : Nat} {X : Cx} {W : WX} {N : List Str} {sc : Scope} {rs : List Nat} {b : Bs}
theorem Cxs.tr (c : Cxs X C ca N sc rs W n) {W' : WX} {pn : List (Addr × Obj)} {xe : Value → Shared → Prop} (tk : Takes (X.tr pn xe) W') (hp : PassesOwn (model X.prog X.w) X.A X.env xe) : Cxs (X.tr pn xe) C ca N sc rs W' n :=
  ⟨⟨c.cx.hsc, c.cx.hN, c.cx.nd, c.cx.calm, tk, c.cx.gl⟩, c.fnT, c.stk, c.frm, hp, c.gs⟩
theorem swf_of {v : Expr} {t : Option Expr} {l : Nat} {env : Env} (h : noComp v = true) : swapsWith v t l env = pure false := by
  cases v <;> first | rfl | exact noC h
theorem swc_of {elt : E} {tg : Tg} {it : E} {cs : Es} {v : Expr} {x : Str} {py : Pos} {l : Nat} (hsc : X.env.scope = sc) (hx : sc.names.lookup x = some .cell) (h : isC C.pr C.fn C.cn N sc .val (.lc elt tg it cs) v = true) : swapsWith v (some (.Name x py)) l X.env = pure false := by
  obtain ⟨_, h2⟩ := and2 (show (plM .val v && _) = true from h)
  clear h
  split at h2
  · have k : X.env.kindOf x = some .cell := by show X.env.scope.names.lookup x = _; rw [hsc]; exact hx
    have kk : (NameKind.cell == NameKind.local) = false := rfl
    unfold swapsWith
    simp [k, kk]
  · exact noC h2
theorem sws_of {v t : Expr} {l : Nat} {env : Env} (h : noComp v = true) : swapsWithSole [t] v l env = pure false := swf_of h
theorem loc_of {x : Str} (h : locB sc x = true) : Loc sc x := by
  unfold locB at h
  simp only [Bool.or_eq_true, decide_eq_true_eq] at h
  exact h
theorem swapped_no {v tgE : Expr} {env : Env} (h : noTup v = true) : swappedStores [tgE] v env = pure none := by
  unfold swappedStores
  cases v <;> first | exact noC h | skip
  all_goals (cases tgE <;> rfl)
theorem swapped_sub1 {v o k : Expr} {p : Pos} {env : Env} : swappedStores [.Subscript o k p] v env = pure none := by
  unfold swappedStores
  rfl
theorem swap2 {x y : Str} {px py : Pos} {a c : Expr} {kt kt2 : Nat} {pt pt2 : Pos} (hsc : X.env.scope = sc) (h : par2B sc x y px py a c = true) : swappedStores [.Tuple [.Name x px, .Name y py] kt pt] (.Tuple [a, c] kt2 pt2) X.env = pure (some [x, y]) := by
  unfold par2B at h
  simp only [Bool.and_eq_true, decide_eq_true_eq, Bool.not_eq_true'] at h
  obtain ⟨⟨⟨⟨⟨⟨⟨⟨hk, hx⟩, hy⟩, hl⟩, hxy⟩, na⟩, nc⟩, hf⟩, hcs⟩ := h
  subst hsc
  have kx : X.env.kindOf x = some .local := hx
  have ky : X.env.kindOf y = some .local := hy
  have hb : X.env.blockKind = .function := by unfold Env.blockKind; rw [hk]; rfl
  have e : ([x, y] : List Str).eraseDups.length = 2 := by
    have this : (y == x) = false := beq_eq_false_iff_ne.mpr fun z => hxy z.symm
    simp [List.eraseDups, List.eraseDupsBy, List.eraseDupsBy.loop, this]
  have f1 : [a, c].all (foldedForSure 8) = false := by
    rw [List.all_cons, List.all_cons, List.all_nil, Bool.and_true]; exact hf
  have f2 : [a, c].all (constantsAlone 8) = false := by
    rw [List.all_cons, List.all_cons, List.all_nil, Bool.and_true]; exact hcs
  unfold swappedStores
  simp only [hb, kx, ky, f1, f2, Expr.pos, List.head?_cons, Option.map_some, Option.getD_some, List.filterMap_cons, List.filterMap_nil, hl]
  simp [e]
  intro h
  rcases h with h | h
  · cases a <;> first | exact noC na | exact noC h
  · cases c <;> first | exact noC nc | exact noC h
theorem swap3 {x y z : Str} {px py pz : Pos} {a c d : Expr} {kt kt2 : Nat} {pt pt2 : Pos} (hsc : X.env.scope = sc) (h : par3B sc x y z px py pz a c d = true) : swappedStores [.Tuple [.Name x px, .Name y py, .Name z pz] kt pt] (.Tuple [a, c, d] kt2 pt2) X.env = pure (some [x, y, z]) := by
  unfold par3B at h
  simp only [Bool.and_eq_true, decide_eq_true_eq, Bool.not_eq_true'] at h
  obtain ⟨⟨⟨⟨⟨⟨⟨⟨⟨⟨⟨⟨⟨hk, hx⟩, hy⟩, hz⟩, hl⟩, hl2⟩, hxy⟩, hxz⟩, hyz⟩, na⟩, nc⟩, nd⟩, hf⟩, hcs⟩ := h
  subst hsc
  have kx : X.env.kindOf x = some .local := hx
  have ky : X.env.kindOf y = some .local := hy
  have kz : X.env.kindOf z = some .local := hz
  have hb : X.env.blockKind = .function := by unfold Env.blockKind; rw [hk]; rfl
  have e : ([x, y, z] : List Str).eraseDups.length = 3 := by
    have h1 : (y == x) = false := beq_eq_false_iff_ne.mpr fun z => hxy z.symm
    have h2 : (z == x) = false := beq_eq_false_iff_ne.mpr fun z => hxz z.symm
    have h3 : (z == y) = false := beq_eq_false_iff_ne.mpr fun z => hyz z.symm
    simp [List.eraseDups, List.eraseDupsBy, List.eraseDupsBy.loop, h1, h2, h3]
  have f1 : [a, c, d].all (foldedForSure 8) = false := by
    rw [List.all_cons, List.all_cons, List.all_cons, List.all_nil, Bool.and_true, ← Bool.and_assoc]; exact hf
  have f2 : [a, c, d].all (constantsAlone 8) = false := by
    rw [List.all_cons, List.all_cons, List.all_cons, List.all_nil, Bool.and_true, ← Bool.and_assoc]; exact hcs
  unfold swappedStores
  simp only [hb, kx, ky, kz, f1, f2, Expr.pos, List.head?_cons, Option.map_some, Option.getD_some, List.filterMap_cons, List.filterMap_nil, ← hl, ← hl2]
  simp [e]
  intro h
  rcases h with h | h | h
  · cases a <;> first | exact noC na | exact noC h
  · cases c <;> first | exact noC nc | exact noC h
  · cases d <;> first | exact noC nd | exact noC h
theorem lc_parts {elt : E} {tg : Tg} {it : E} {cs : Es} {A : Expr} (c : Cxt X C ca N sc W n) (h : isC C.pr C.fn C.cn N sc .val (.lc elt tg it cs) A = true) : ∃ elt' tg' it' ifs scope pos, A = .ListComp elt' [⟨tg', it', ifs, 0⟩] scope pos ∧
    PI X tg' it' (tS (fx C ca X W) (evC C n it .val)) ∧ BlkOk X.N X.env.scope scope (ownL N tg) ∧
    (∀ (s : Shared) (H : Hp) (C' : Addr) (cl : List (Str × Addr)) (fp : List Addr), PG (X.blk s H scope (compEnvC scope cl C' X.env) fp) tg' (gT X.K tg)) ∧
    (∀ (s : Shared) (H : Hp) (C' : Addr) (cl : List (Str × Addr)) (fp : List Addr), PTs (X.blk s H scope (compEnvC scope cl C' X.env) fp) ifs (tI ⟨C, ca, X.K, WF⟩ rBl fun s g => evc C.pr.cons (call C.pr n) cs s g)) ∧
    (∀ (s : Shared) (H : Hp) (C' : Addr) (cl : List (Str × Addr)) (fp : List Addr), PE (X.blk s H scope (compEnvC scope cl C' X.env) fp) elt' (tE ⟨C, ca, X.K, WF⟩ (evC C n elt .val))) ∧
    ∀ x, foldedSetIterable it' X.env x = pure x := by
  obtain ⟨h1, h2⟩ := and2 (show (plM .val A && _) = true from h)
  clear h
  split at h2
  · rename_i elt' tg' it' ifs k scope pos
    obtain ⟨h3, hcs⟩ := and2 h2
    obtain ⟨h4, helt⟩ := and2 h3
    obtain ⟨h5, hit⟩ := and2 h4
    obtain ⟨h6, hk⟩ := and2 h5
    obtain ⟨h7, hl⟩ := and2 h6
    obtain ⟨h8, htg⟩ := and2 h7
    obtain ⟨h9, hblk⟩ := and2 h8
    obtain ⟨h10, hen⟩ := and2 h9
    obtain ⟨hz, hset⟩ := and2 h10
    have hz := of_decide_eq_true hz
    subst hz
    have hl : cs.len ≤ 1 := of_decide_eq_true hl
    have hen : isEnum it = true → isTup tg' = true := fun z => by simpa [z] using hen
    have src : SrcOk C ca n X W it it' := isC_ok it (m := .it) c hit
    have ok : BlkOk X.N X.env.scope scope (ownL N tg) := by rw [c.hN, c.hsc]; exact blk_of hblk
    refine ⟨elt', tg', it', ifs, scope, pos, rfl, src_it c src hen, ok, fun s H C' cl fp => ?_, fun s H C' cl fp => ?_, fun s H C' cl fp => ?_, set_of hset⟩
    · have cb := c.blk s H scope cl C' fp
      refine tg_of (sc' := relS scope sc) (scope := scope) (fnb := blkFn scope) cb.hsc cb.calm cb.nd (fun x z => z) ?_
      rw [cb.hN]; exact htg
    · have cb := c.blk s H scope cl C' fp
      have al := isCs_ok cs cb hcs
      cases cs with
      | nil =>
        cases ifs with
        | nil => exact ⟨fun pins s σ H Q I q => pts_nil.run pins s σ H Q I (by
            obtain ⟨ρ, B, s, g, S, q⟩ := q
            exact q true H ρ Ext.refl S rfl)⟩
        | cons _ _ => exact al.elim
      | cons e es =>
        cases es with
        | cons _ _ => exact absurd hl (by show ¬ (_ + 1 + 1 ≤ 1); omega)
        | nil =>
          cases ifs with
          | nil => exact al.elim
          | cons a' r =>
            cases r with
            | cons _ _ => exact al.2.2.elim
            | nil =>
              have ht : PT _ a' (tT (fx C ca _ WF) (evC C n e .tst)) := al.2.1.1
              refine pts_one (ht.impX fun σ H Q q => ?_)
              obtain ⟨ρ, B, s, g, S, q⟩ := q
              refine ⟨ρ, B, s, g, S, Out.seq (R1 := rBool B) q fun x g1 k H1 ρ1 _ e1 S1 r1 h1 => ?_⟩
              have r1 : x = .bl k := r1
              subst r1
              exact h1 k H1 ρ1 Ext.refl S1 (by cases k <;> rfl)
    · have cb := c.blk s H scope cl C' fp
      exact Nt.rep (isC_ok elt (m := .val) cb helt) hk
  · exact noC h2
theorem ps_args : ∀ {ks : List PX.K} {es : Es} {vs : List Expr}, Cxt X C ca N sc W n → isPs C N sc ks es vs = true → PA X vs (tP (fx C ca X W) ks (evL C n es))
  | [], .nil, [], c, h => p_nil
  | k :: ks, .cons e es, v :: vs, c, h => by
    obtain ⟨h1, h2⟩ := and2 (show (_ && isPs C N sc ks es vs) = true from h)
    obtain ⟨h3, hk⟩ := and2 h1
    obtain ⟨ns, he⟩ := and2 h3
    have r := ps_args c h2
    have nt : Nt C ca n X W e v := isC_ok e (m := .val) c he
    cases k with
    | val => exact p_val (nt.rep hk) r (star_of ns)
    | own =>
      have hk := of_decide_eq_true hk
      exact p_own (nt.fr hk) (fresh_cont hk) r (star_of ns)
    | hp => exact noC hk
  | [], .nil, _ :: _, _, h => noC h
  | [], .cons _ _, _, _, h => noC h
  | _ :: _, .nil, _, _, h => noC h
  | _ :: _, .cons _ _, [], _, h => noC h
theorem lit_of {X : Cx} {d : D} {A : Expr} (h : litB d A = true) : ∃ v, PE X A (tC v) ∧ ∀ (K : Fg) ρ B H, Rep K ρ B H v d := by
  cases d with
  | non =>
    cases A <;> first | exact noC h | skip
    rename_i c k p
    cases c <;> first | exact noC h | skip
    exact ⟨_, pe_non, fun _ _ _ _ => .non⟩
  | bl x =>
    cases A <;> first | exact noC h | skip
    rename_i c k p
    cases c <;> first | exact noC h | skip
    rename_i y
    have h : (x == y) = true := h
    have : x = y := by simpa using h
    subst this
    exact ⟨_, pe_bl, fun _ _ _ _ => .bl _⟩
  | int x =>
    cases A <;> first | exact noC h | skip
    rename_i c k p
    cases c <;> first | exact noC h | skip
    rename_i y
    have : x = y := of_decide_eq_true h
    subst this
    exact ⟨_, pe_int, fun _ _ _ _ => .int _⟩
  | str x =>
    cases A <;> first | exact noC h | skip
    rename_i c k p
    cases c <;> first | exact noC h | skip
    rename_i y
    have : y = mkS x := of_decide_eq_true h
    subst this
    exact ⟨_, pe_str, fun _ _ _ _ => .str _⟩
  | _ => exact noC h
theorem fldB_ok {cc : Nat} {f : Str} (h : fldB C cc f = true) : ∀ c, c < C.cl.length → C.pr.sub c cc = true → C.flds.getD c [] = [f] := by
  intro c hc hs
  unfold fldB at h
  have := List.all_eq_true.mp h c (List.mem_range.mpr hc)
  simpa [hs] using this
theorem se_of {n0 : Str} {cc i : Nat} {x : Ex} {a : Addr} {cls : Value} {d : Option Addr} {oe : Obj} {pn : List (Addr × Obj)} (c : Cxs X C ca N sc rs W n) (hi : X.N[i]? = some n0) (hz : Zc cls d oe) (hf : ∃ vs, oe.data = .fields vs) :
    ∀ {e : SE} {A : Expr}, seB C cc N sc n0 e A = true → PE (X.suite a ((a, oe) :: pn)) A (tSE C ca X.K x cc i a cls d e)
  | .lit dv, A, h => by
    obtain ⟨v, h1, h2⟩ := lit_of (X := X.suite a ((a, oe) :: pn)) (show litB dv A = true from h)
    exact se_lit h1 fun H => h2 _ _ _ _
  | .fld j, A, h => by
    unfold seB at h
    split at h
    · obtain ⟨h1, hv⟩ := and2 h
      obtain ⟨h2, h3⟩ := and2 h1
      obtain ⟨h4, h5⟩ := and2 h2
      have h4 := of_decide_eq_true h4
      have h5 := of_decide_eq_true h5
      subst h4 h5
      obtain ⟨v1, v2, v3⟩ := vis_of hv
      exact se_fld hi (by rw [c.cx.hsc]; exact v1) v2 v3 (fun k hk hs => ⟨(c.gs.fld k hk).1, (c.gs.fld k hk).2.2 _ (by rw [fldB_ok h3 k hk hs]; exact List.mem_cons_self), fldB_ok h3 k hk hs⟩) hz hf
    · exact noC h
  | .tup2 s1 s2, A, h => by
    unfold seB at h
    split at h
    · obtain ⟨h1, h2⟩ := and2 h
      obtain ⟨h3, h4⟩ := and2 h1
      obtain ⟨n1, n2⟩ := and2 h3
      exact se_tup (se_of c hi hz hf h4) (se_of c hi hz hf h2) (star_of n1) (star_of n2)
    · exact noC h
  | .tup1 _, _, h => noC h
  | .ifIs k s1 s2, A, h => by
    unfold seB at h
    split at h
    · obtain ⟨h, r2⟩ := and2 h
      obtain ⟨h, r1⟩ := and2 h
      obtain ⟨h, hv⟩ := and2 h
      obtain ⟨h, gz⟩ := and2 h
      obtain ⟨h, gy⟩ := and2 h
      obtain ⟨h, hc⟩ := and2 h
      obtain ⟨hy, hx⟩ := and2 h
      have hc := of_decide_eq_true hc
      have hx := of_decide_eq_true hx
      have hy := of_decide_eq_true hy
      subst hx hy
      obtain ⟨v1, v2, v3⟩ := vis_of hv
      obtain ⟨z1, z2⟩ := gl_of c.cx.hsc gz
      obtain ⟨y1, y2⟩ := gl_of c.cx.hsc gy
      exact se_ifIs hi (by rw [c.cx.hsc]; exact v1) v2 v3 (fun k hk => (c.gs.fld k hk).2.1) c.gs.kit (List.getElem?_eq_some_iff.mp hc).1 y1 (c.cx.gl.bn _ (by simp [bnames])) z1 (c.gs.nm _ _ hc) z2 hz hf (se_of c hi hz hf r1) (se_of c hi hz hf r2)
    · exact noC h
theorem hs_of (c : Cxs X C ca N sc rs W n) : ∀ {hs : List (Nat × SE)} {hds : List ExceptHandler}, hsB C N sc hs hds = true → ∃ l, HdsA X hds l ∧ ClsOk C ca X.K hs l
  | [], [], _ => ⟨[], .nil, .nil⟩
  | [], _ :: _, h => noC h
  | _ :: _, [], h => noC h
  | (cc, e) :: hs, hd :: hds, h => by
    unfold hsB at h
    split at h
    · cases ‹_ :: _ = []›
    · rename_i c0 e0 hs0 x np n0 v rp hp hds0 z1 z2
      cases z1
      cases z2
      obtain ⟨h1, hr⟩ := and2 h
      obtain ⟨h2, he⟩ := and2 h1
      obtain ⟨h3, hl⟩ := and2 h2
      obtain ⟨h4, hn⟩ := and2 h3
      obtain ⟨hc, hg⟩ := and2 h4
      have hc := of_decide_eq_true hc
      have hn := of_decide_eq_true hn
      have hl := of_decide_eq_true hl
      obtain ⟨l, r1, r2⟩ := hs_of c hr
      obtain ⟨i, hi⟩ := List.getElem?_of_mem hn
      have hi : X.N[i]? = some n0 := by rw [c.cx.hN]; exact hi
      obtain ⟨g1, g2⟩ := gl_of c.cx.hsc hg
      have hlt : cc < C.cl.length := (List.getElem?_eq_some_iff.mp hc).1
      refine ⟨(.ref (ca cc), i, tsE C ca X.K cc i e) :: l, .cons hi ?_ ⟨g1, g2, .inl (c.gs.nm _ _ hc)⟩ (fun a oe cls d pn hz hf => ?_) r1, .cons hlt r2⟩
      · show X.env.scope.names.lookup n0 = _
        rw [c.cx.hsc]; exact hl
      · exact ⟨fun pins s σ H D I ⟨x, q⟩ => (pss_one (ps_ret (se_of (x := x) c hi hz hf he))).run pins s σ H D I q⟩
    · exact noC h
end
end PX
end
section
set_option Elab.async false
set_option linter.all false
set_option maxRecDepth 100000
set_option autoImplicit false
set_option maxHeartbeats 8000000
/-! PZb: the checker of statements is right. -/
namespace PX
open PySem L2 PySem.Spec PyProof.Rows
section
variable {C : Cfg} {ca : Nat → Addr} {n : Nat} {N : List Str} {sc : Scope} {rs : List Nat}
abbrev exC (C : Cfg) (n : Nat) (a : S) : Sl → G → Fl := exec C.pr.cons C.pr.sub C.pr.W (call C.pr n) a
theorem lift_one {f : Sl → G → R D} {s : Sl} {g : G} {k : List D → G → Fl} : lift s ((f s g).bind fun d g => (R.ok [] g : R (List D)).bind fun ds g => .ok (d :: ds) g) k = lift s (f s g) fun d g => k [d] g := by
  cases f s g <;> rfl
theorem store_eq {k1 k2 : E} {i : Nat} {es : Es} (h2 : es.len = 2) : (fun s g => lift s (evs C.pr.cons (call C.pr n) es s g) fun ds g => storeAll (fun k s g => ev C.pr.cons (call C.pr n) k .val s g) i (.cons k1 (.cons k2 .nil)) ds s g) =
    fun s g => lift s (evs C.pr.cons (call C.pr n) es s g) fun ds g => put2 i (evC C n k1 .val) (evC C n k2 .val) ds s g := by
  funext s g
  cases q : evs C.pr.cons (call C.pr n) es s g with
  | exc x g1 => rfl
  | bad => rfl
  | ok ds g1 =>
    have hl : ds.length = 2 := (evs_len q).trans h2
    match ds, hl with
    | [d1, d2], _ =>
      show (storeAll (fun k s g => ev C.pr.cons (call C.pr n) k .val s g) i (.cons k1 (.cons k2 .nil)) [d1, d2] s g1 : Fl) = putS i (evC C n k1 .val) d1 (putS i (evC C n k2 .val) d2 fun s g => .nx s g) s g1
      rfl
def SOk (C : Cfg) (ca : Nat → Addr) (n : Nat) (X : Cx) (W : WX) (b : Bs) (a : S) (L : List Stmt) : Prop :=
  PSs X L (tSt (fx C ca X W) b (exC C n a)) ∧ (isSimp a = true → ∀ st, L = [st] → PS X st (tSt (fx C ca X W) b (exC C n a)))
theorem SOk.one {X : Cx} {W : WX} {b : Bs} {a : S} {st : Stmt} (h : PS X st (tSt (fx C ca X W) b (exC C n a))) : SOk C ca n X W b a [st] :=
  ⟨ss_one h, fun _ st' e => by cases e; exact h⟩
theorem isB_ok : ∀ (a : S) {L : List Stmt} {X : Cx} {W : WX} {b : Bs}, Cxs X C ca N sc rs W n → isB C N sc rs a L = true → SOk C ca n X W b a L
  | .nop, L, X, W, b, c, h => by
    cases L with
    | nil => exact ⟨ss_nil, fun z => noC z⟩
    | cons _ _ => exact noC h
  | .seq x r, L, X, W, b, c, h => by
    unfold isB at h
    refine ⟨?_, fun z => noC z⟩
    by_cases z : isFrz x = true
    · rw [if_pos z] at h
      cases x <;> first | exact noC z | skip
      exact ss_frz (isB_ok r c h).1
    · rw [if_neg z] at h
      cases L with
      | nil => exact noC h
      | cons st rest =>
        obtain ⟨h1, h2⟩ := and2 h
        obtain ⟨h0, h1⟩ := and2 h1
        exact ss_cons ((isB_ok x (b := b) c h1).2 h0 st rfl) (isB_ok r (b := b) c h2).1
  | .frz _, L, X, W, b, c, h => noC h
  | .put _ _ _, L, X, W, b, c, h => noC h
  | .aug i o e, L, X, W, b, c, h => by
    unfold isB at h
    split at h
    · rename_i x p v pos
      obtain ⟨h1, hk⟩ := and2 h
      obtain ⟨h2, he⟩ := and2 h1
      obtain ⟨hi, hl⟩ := and2 h2
      have hi : X.N[i]? = some x := by rw [c.cx.hN]; exact of_decide_eq_true hi
      exact .one (s_aug c.cx.nd hi (by rw [c.cx.hsc]; exact loc_of hl) (Nt.rep (isC_ok e (m := .val) c.cx he) hk) (.inl (c.fnT x)))
    · exact noC h
  | .set i k e, L, X, W, b, c, h => by
    unfold isB at h
    split at h
    · rename_i x py v pos
      obtain ⟨h1, h2⟩ := and2 h
      obtain ⟨h3, he⟩ := and2 h1
      obtain ⟨hi, hl⟩ := and2 h3
      have hi : X.N[i]? = some x := by rw [c.cx.hN]; exact of_decide_eq_true hi
      refine .one ?_
      by_cases z0 : (isLc e && !decide (sc.names.lookup x = some .cell)) = true
      · rw [if_pos z0] at h2
        have z := (and2 z0).1
        cases e <;> first | exact noC z | skip
        rename_i elt tg it cs
        obtain ⟨elt', tg', it', ifs, scope, lp, rfl, l1, l2, l3, l4, l5, l6⟩ := lc_parts c.cx he
        have h2 : (decide (sc.kind = .function) && decide (sc.names.lookup x = some .local) && (py.line == lp.line) && !(scope.names.any fun (n, k) => n == x && (k == .local || k == .cell))) = true := h2
        obtain ⟨h4, ha⟩ := and2 h2
        obtain ⟨h5, hln⟩ := and2 h4
        obtain ⟨hk, hloc⟩ := and2 h5
        have hk := of_decide_eq_true hk
        have hloc := of_decide_eq_true hloc
        have ha : (scope.names.any fun (n, k) => n == x && (k == .local || k == .cell)) = false := by simpa using ha
        have hsc := c.cx.hsc
        subst hsc
        exact s_setL k (s_setLc (tg := tg) (own := ownL N tg) c.cx.calm c.cx.nd hi hloc (sw_true hk hloc hln ha) l1 l2 own_slots l3 l4 l5 l6) fun _ => fresh_cont (e := .lc elt tg it cs) rfl
      · rw [if_neg z0] at h2
        obtain ⟨nc0, hk⟩ := and2 h2
        have nc : swapsWith v (some (.Name x py)) pos.line X.env = pure false := by
          rcases (Bool.or_eq_true _ _).mp nc0 with w | w
          · exact swf_of w
          · obtain ⟨w1, w2⟩ := and2 w
            cases e <;> first | exact noC w1 | skip
            exact swc_of c.cx.hsc (of_decide_eq_true w2) he
        have lo : Loc X.env.scope x := by rw [c.cx.hsc]; exact loc_of hl
        have nt : Nt C ca n X W e v := isC_ok e (m := .val) c.cx he
        cases k with
        | val => exact s_set c.cx.nd hi lo (nt.rep hk) nc (.inl (c.fnT x))
        | own => exact s_setF .own c.cx.nd hi lo (nt.fr (of_decide_eq_true hk)) (fun z => by cases z) nc (.inl (c.fnT x))
        | hp => exact s_setF .hp c.cx.nd hi lo (nt.fr (of_decide_eq_true hk)) (fun z => by cases z) nc (.inl (c.fnT x))
    · exact noC h
  | .setP ts es, L, X, W, b, c, h => by
    unfold isB at h
    split at h
    · rename_i x px y py k1 p1 a d k2 p2 p3
      obtain ⟨h1, ha⟩ := and2 h
      obtain ⟨h2, hp⟩ := and2 h1
      obtain ⟨h3, hj⟩ := and2 h2
      obtain ⟨h4, hi⟩ := and2 h3
      have h4 := of_decide_eq_true h4
      match ts, h4 with
      | [(i, q1), (j, q2)], _ =>
        have hi2 : X.N[i]? = some x := by rw [c.cx.hN]; exact of_decide_eq_true hi
        have hj2 : X.N[j]? = some y := by rw [c.cx.hN]; exact of_decide_eq_true hj
        by_cases hp1 : par2B sc x y px py a d = true
        · have hp := hp1
          have hp0 := hp
          unfold par2B at hp0
          simp only [Bool.and_eq_true, decide_eq_true_eq, Bool.not_eq_true'] at hp0
          have hx : X.env.scope.names.lookup x = some .local := by rw [c.cx.hsc]; exact hp0.1.1.1.1.1.1.1.2
          have hy : X.env.scope.names.lookup y = some .local := by rw [c.cx.hsc]; exact hp0.1.1.1.1.1.1.2
          have hne : x ≠ y := hp0.1.1.1.1.2
          have hij : i ≠ j := fun z => by rw [z] at hi2; rw [hi2] at hj2; exact hne (Option.some.inj hj2)
          exact .one (s_par2 c.cx.calm c.cx.nd hi2 hj2 hij hx hy (ps_args c.cx ha) (swap2 c.cx.hsc hp))
        · have hp : cel2B sc x y a d = true := by simpa [hp1] using hp
          unfold cel2B at hp
          simp only [Bool.and_eq_true, Bool.or_eq_true, decide_eq_true_eq] at hp
          exact .one (s_parT2 c.cx.calm c.cx.nd hi2 hj2 (by rw [c.cx.hsc]; exact loc_of hp.1.2) (by rw [c.cx.hsc]; exact loc_of hp.2) c.fnT (ps_args c.cx ha) (swapn2 c.cx.hsc hp.1.1))
    · rename_i x px y py z pz k1 p1 a d e k2 p2 p3
      obtain ⟨h1, ha⟩ := and2 h
      obtain ⟨h2, hp⟩ := and2 h1
      obtain ⟨h3, hl⟩ := and2 h2
      obtain ⟨h3, hj⟩ := and2 h3
      obtain ⟨h4, hi⟩ := and2 h3
      have h4 := of_decide_eq_true h4
      match ts, h4 with
      | [(i, q1), (j, q2), (l, q3)], _ =>
        have hi2 : X.N[i]? = some x := by rw [c.cx.hN]; exact of_decide_eq_true hi
        have hj2 : X.N[j]? = some y := by rw [c.cx.hN]; exact of_decide_eq_true hj
        have hl2 : X.N[l]? = some z := by rw [c.cx.hN]; exact of_decide_eq_true hl
        by_cases hp1 : par3B sc x y z px py pz a d e = true
        · have hp := hp1
          have hp0 := hp
          unfold par3B at hp0
          simp only [Bool.and_eq_true, decide_eq_true_eq, Bool.not_eq_true'] at hp0
          obtain ⟨⟨⟨⟨⟨⟨⟨⟨⟨⟨⟨⟨⟨_, hx⟩, hy⟩, hz⟩, _⟩, _⟩, hxy⟩, hxz⟩, hyz⟩, _⟩, _⟩, _⟩, _⟩, _⟩ := hp0
          have hx : X.env.scope.names.lookup x = some .local := by rw [c.cx.hsc]; exact hx
          have hy : X.env.scope.names.lookup y = some .local := by rw [c.cx.hsc]; exact hy
          have hz : X.env.scope.names.lookup z = some .local := by rw [c.cx.hsc]; exact hz
          have hij : i ≠ j := fun w => by rw [w] at hi2; rw [hi2] at hj2; exact hxy (Option.some.inj hj2)
          have hil : i ≠ l := fun w => by rw [w] at hi2; rw [hi2] at hl2; exact hxz (Option.some.inj hl2)
          have hjl : j ≠ l := fun w => by rw [w] at hj2; rw [hj2] at hl2; exact hyz (Option.some.inj hl2)
          exact .one (s_par3 c.cx.calm c.cx.nd hi2 hj2 hl2 hij hil hjl hx hy hz (ps_args c.cx ha) (swap3 c.cx.hsc hp))
        · have hp : cel3B sc x y z a d e = true := by simpa [hp1] using hp
          unfold cel3B at hp
          simp only [Bool.and_eq_true, Bool.or_eq_true, decide_eq_true_eq] at hp
          exact .one (s_parT3 c.cx.calm c.cx.nd hi2 hj2 hl2 (by rw [c.cx.hsc]; exact loc_of hp.1.1.2) (by rw [c.cx.hsc]; exact loc_of hp.1.2) (by rw [c.cx.hsc]; exact loc_of hp.2) c.fnT (ps_args c.cx ha) (swapn3 c.cx.hsc hp.1.1.1))
    · exact noC h
  | .unp is e, L, X, W, b, c, h => by
    unfold isB at h
    split at h
    · rename_i tgE v pos
      obtain ⟨h1, nt⟩ := and2 h
      obtain ⟨h2, nc⟩ := and2 h1
      obtain ⟨h3, hk⟩ := and2 h2
      obtain ⟨h4, he⟩ := and2 h3
      obtain ⟨ht, htg⟩ := and2 h4
      have hg : PG X tgE (gT X.K (.tup is)) := tg_of c.cx.hsc c.cx.calm c.cx.nd (fun x _ => c.fnT x) (by rw [c.cx.hN]; exact htg)
      refine .one (s_unp (Nt.rep (isC_ok e (m := .val) c.cx he) hk) hg (sws_of nc) (swapped_no nt) ?_)
      cases tgE <;> first | exact noC ht | rfl
    · exact noC h
  | .app i e, L, X, W, b, c, h => by
    unfold isB at h
    split at h
    · rename_i x p f ap v cp pos
      obtain ⟨h1, hl⟩ := and2 h
      obtain ⟨h2, ns⟩ := and2 h1
      obtain ⟨h3, hk⟩ := and2 h2
      obtain ⟨h4, he⟩ := and2 h3
      obtain ⟨h5, hv⟩ := and2 h4
      obtain ⟨hf, hi⟩ := and2 h5
      have hf := of_decide_eq_true hf
      subst hf
      have hi : X.N[i]? = some x := by rw [c.cx.hN]; exact of_decide_eq_true hi
      obtain ⟨v1, v2, v3⟩ := vis_of hv
      exact .one (s_app hi (by rw [c.cx.hsc]; exact v1) v2 v3 (Nt.rep (isC_ok e (m := .val) c.cx he) hk) (star_of ns) hl)
    · exact noC h
  | .ext i e, L, X, W, b, c, h => by
    unfold isB at h
    split at h
    · rename_i x p v pos
      obtain ⟨h1, hk⟩ := and2 h
      obtain ⟨h2, he⟩ := and2 h1
      obtain ⟨hi, hl⟩ := and2 h2
      have hi : X.N[i]? = some x := by rw [c.cx.hN]; exact of_decide_eq_true hi
      exact .one (s_ext c.cx.nd hi (by rw [c.cx.hsc]; exact loc_of hl) (Nt.fr (isC_ok e (m := .val) c.cx he) (of_decide_eq_true hk)) (.inl (c.fnT x)))
    · exact noC h
  | .putR a k e, L, X, W, b, c, h => by
    unfold isB at h
    split at h
    · rename_i o k' p v pos
      obtain ⟨h1, nc⟩ := and2 h
      obtain ⟨h2, ns⟩ := and2 h1
      obtain ⟨h3, k3⟩ := and2 h2
      obtain ⟨h4, he⟩ := and2 h3
      obtain ⟨h5, k2⟩ := and2 h4
      obtain ⟨h6, hk⟩ := and2 h5
      obtain ⟨ha, k1⟩ := and2 h6
      refine .one (s_putR (Nt.rep (isC_ok a (m := .val) c.cx ha) k1) (Nt.rep (isC_ok k (m := .val) c.cx hk) k2) (Nt.rep (isC_ok e (m := .val) c.cx he) k3) (sws_of nc) swapped_sub1 fun v => ?_)
      cases k' <;> first | rfl | exact noC ns
    · exact noC h
  | .putT i ks es, L, X, W, b, c, h => by
    unfold isB at h
    split at h
    · rename_i x r1 k1' q1 y r2 k2' q2 kt pt a d kt2 pt2 pos k1 k2
      obtain ⟨h1, hes⟩ := and2 h
      obtain ⟨h2, n2⟩ := and2 h1
      obtain ⟨h3, n1⟩ := and2 h2
      obtain ⟨h4, r2⟩ := and2 h3
      obtain ⟨h5, hk2⟩ := and2 h4
      obtain ⟨h6, r1⟩ := and2 h5
      obtain ⟨h7, hk1⟩ := and2 h6
      obtain ⟨h8, hv⟩ := and2 h7
      obtain ⟨hi, hy⟩ := and2 h8
      have hy := of_decide_eq_true hy
      subst hy
      have hi : X.N[i]? = some y := by rw [c.cx.hN]; exact of_decide_eq_true hi
      obtain ⟨v1, v2, v3⟩ := vis_of hv
      have al : AllOk C ca n X W .rep es [a, d] := isCs_ok es c.cx hes
      have hlen : es.len = 2 := by
        match es, al with
        | .cons _ (.cons _ .nil), _ => rfl
        | .cons _ (.cons _ (.cons _ _)), al => exact al.2.2.2.2.elim
        | .cons _ .nil, al => exact al.2.2.elim
        | .nil, al => exact al.elim
      have ht := e_tup (k := kt2) (pos := pt2) (args_rep al) (fun s g ds g' z => by rw [evs_len z, hlen]; omega)
      refine .one ?_
      have e0 : exC C n (.putT i (.cons k1 (.cons k2 .nil)) es) = fun s g => lift s (evs C.pr.cons (call C.pr n) es s g) fun ds g => put2 i (evC C n k1 .val) (evC C n k2 .val) ds s g := store_eq hlen
      rw [e0]
      refine s_putT c.cx.calm hi (by rw [c.cx.hsc]; exact v1) v2 v3 (Nt.rep (isC_ok k1 (m := .val) c.cx hk1) r1) (Nt.rep (isC_ok k2 (m := .val) c.cx hk2) r2) ht (fun v => ?_) (fun v => ?_)
      · cases k1' <;> first | rfl | exact noC n1
      · cases k2' <;> first | rfl | exact noC n2
    · exact noC h
  | .if_ t x y, L, X, W, b, c, h => by
    unfold isB at h
    split at h
    · obtain ⟨h1, h2⟩ := and2 h
      obtain ⟨ht, h1⟩ := and2 h1
      exact .one (s_if (isC_ok t (m := .tst) c.cx ht).1 (isB_ok x c h1).1 (isB_ok y c h2).1)
    · exact noC h
  | .whl t x, L, X, W, b, c, h => by
    unfold isB at h
    split at h
    · obtain ⟨ht, h1⟩ := and2 h
      exact .one (s_while c.pass (isC_ok t (m := .tst) c.cx ht).1 (isB_ok x c h1).1)
    · exact noC h
  | .for_ tg it x, L, X, W, b, c, h => by
    unfold isB at h
    split at h
    · rename_i tg' it' bs pos
      obtain ⟨h1, hb⟩ := and2 h
      obtain ⟨h2, hset⟩ := and2 h1
      obtain ⟨h3, hen⟩ := and2 h2
      obtain ⟨htg, hit⟩ := and2 h3
      have hen : isEnum it = true → isTup tg' = true := fun z => by simpa [z] using hen
      have hg : PG X tg' (gT X.K tg) := tg_of c.cx.hsc c.cx.calm c.cx.nd (fun x _ => c.fnT x) (by rw [c.cx.hN]; exact htg)
      exact .one (s_for c.pass c.cx.calm (src_it c.cx (isC_ok it (m := .it) c.cx hit) hen) hg (isB_ok x c hb).1 (set_of hset))
    · exact noC h
  | .ret e, L, X, W, b, c, h => by
    unfold isB at h
    split at h
    · obtain ⟨he, hk⟩ := and2 h
      exact .one (s_ret (Nt.rep (isC_ok e (m := .val) c.cx he) hk))
    · exact noC h
  | .retO i, L, X, W, b, c, h => by
    unfold isB at h
    split at h
    · obtain ⟨hi, hv⟩ := and2 h
      obtain ⟨v1, v2, v3⟩ := vis_of hv
      exact .one (s_retO (by rw [c.cx.hN]; exact of_decide_eq_true hi) (by rw [c.cx.hsc]; exact v1) v2 v3)
    · exact noC h
  | .retF e, L, X, W, b, c, h => by
    unfold isB at h
    split at h
    · obtain ⟨he, hk⟩ := and2 h
      exact .one (s_retF (Nt.fr (isC_ok e (m := .val) c.cx he) (of_decide_eq_true hk)))
    · exact noC h
  | .ret0, L, X, W, b, c, h => by
    unfold isB at h
    split at h
    · exact .one s_retN
    · exact noC h
  | .rai k es, L, X, W, b, c, h => by
    unfold isB at h
    split at h
    · rename_i x p a q p2 e
      obtain ⟨h1, hk⟩ := and2 h
      obtain ⟨h2, he⟩ := and2 h1
      obtain ⟨h3, ns⟩ := and2 h2
      obtain ⟨h4, hg⟩ := and2 h3
      obtain ⟨hc, hr⟩ := and2 h4
      have hc := of_decide_eq_true hc
      have hr := of_decide_eq_true hr
      obtain ⟨fl, Dc, fI, T, hfd⟩ := c.gs.err k hr
      obtain ⟨j, rm⟩ := c.gs.room
      obtain ⟨g1, g2⟩ := gl_of c.cx.hsc hg
      have hlt : k < C.cl.length := (List.getElem?_eq_some_iff.mp hc).1
      refine .one ?_
      have e0 : exC C n (.rai k (.cons e .nil)) = fun s g => lift s (evC C n e .val s g) fun d g => if flats [d] = true then .exc ⟨k, [d]⟩ s g else .bad := by
        funext s g
        exact lift_one
      rw [e0]
      exact s_rai c.cx.calm c.cx.tk T (c.gs.nm _ _ hc) (c.cx.gl.bn _ (by simp [bnames])) rm (Nt.rep (isC_ok e (m := .val) c.cx he) hk) g1 g2 (star_of ns) hlt hfd
    · exact noC h
  | .try_ x hs, L, X, W, b, c, h => by
    unfold isB at h
    split at h
    · rename_i bs h0 hds pos
      obtain ⟨hb, hh⟩ := and2 h
      obtain ⟨l, r1, r2⟩ := hs_of c hh
      refine .one (s_try c.stk c.frm c.cx.nd c.cx.tk (fun W' pn xe tk hp => ?_) r1 r2 c.gs.exm)
      exact (isB_ok x (c.tr tk hp) hb).1
    · exact noC h
  | .expr e, L, X, W, b, c, h => by
    unfold isB at h
    split at h
    · obtain ⟨h1, nc⟩ := and2 h
      obtain ⟨he, hk⟩ := and2 h1
      exact .one (s_expr (Nt.rep (isC_ok e (m := .val) c.cx he) hk) (swf_of nc))
    · exact noC h
end
end PX
end
section
set_option Elab.async false
set_option linter.all false
set_option maxRecDepth 100000
set_option autoImplicit false
set_option maxHeartbeats 4000000
/-! PZc: every def of the row does what its own text does. -/
namespace PX
open PySem L2 PySem.Spec PyProof.Rows
section
variable {K : Fg} {ρ ρ' m B B0 : List Addr} {H H' : Hp} {g g' : G} {C : Cfg} {ca : Nat → Addr} {Q : VK} {E : XK} {fresh : Bool}
theorem ObjR.cut {a : Addr} {o : PO} (h : ObjR K (ρ ++ m) B H' a o) (low : ∃ B2 H2 a2, ObjR K ρ B2 H2 a2 o) : ObjR K ρ B H' a o := by
  obtain ⟨B2, H2, a2, low⟩ := low
  cases o with
  | lst xs =>
    obtain ⟨vs, k, r⟩ := h
    obtain ⟨_, _, r2⟩ := low
    exact ⟨vs, k, r.cut r2.low⟩
  | dic xs =>
    obtain ⟨vs, k, r⟩ := h
    obtain ⟨_, _, r2⟩ := low
    exact ⟨vs, k, r.cut r2.low⟩
  | dead => exact h
theorem HeapOk.cutH (h0 : HeapOk K ρ B0 H g) (h : HeapOk K (ρ ++ m) B H' g') (t : g'.take g.length = g) : HeapOk K ρ B H' g := by
  refine ⟨h0.len, h0.nd, fun a ha => h.no a (List.mem_append_left _ ha), fun l a o h1 h2 => ?_, h.tr⟩
  have hl : l < ρ.length := (List.getElem?_eq_some_iff.mp h1).1
  have h3 : (ρ ++ m)[l]? = some a := by rw [List.getElem?_append_left hl]; exact h1
  have h4 : g'[l]? = some o := by
    rw [← t, List.getElem?_take] at h2
    split at h2
    · exact h2
    · cases h2
  exact (h.obj l a o h3 h4).cut ⟨_, _, _, h0.obj l a o h1 h2⟩
theorem Ext.cutE (e : Ext ρ H ρ' H') : Ext ρ H ρ H' := ⟨⟨[], by simp, by simp⟩, e.keep, e.there, e.tup, e.frz⟩
theorem objR_cutD {a : Addr} {d : D} (h : ObjR K (ρ ++ m) B H' a (toPO d)) (l : PX.below ρ.length d = true) : ObjR K ρ B H' a (toPO d) := by
  cases d with
  | lst xs =>
    obtain ⟨vs, k, r⟩ := h
    exact ⟨vs, k, r.cut (by simpa [PX.below] using l)⟩
  | dic xs =>
    obtain ⟨vs, k, r⟩ := h
    exact ⟨vs, k, r.cut (by simpa [PX.below] using l)⟩
  | _ => exact h
theorem OutC.close {pure : Bool} {r : R D} (h0 : HeapOk K ρ B H g) (h : OutC C ca K fresh ρ B H (close pure g r) Q E) : OutC C ca K fresh ρ B H r Q E := by
  cases r with
  | bad => exact h
  | ok d g' =>
    have h : OutC C ca K fresh ρ B H (if pure = true then (if g'.take g.length = g ∧ PX.below g.length d = true then .ok d g else .bad) else .ok d g') Q E := h
    by_cases p : pure = true
    · rw [if_pos p] at h
      by_cases k : g'.take g.length = g ∧ PX.below g.length d = true
      · rw [if_pos k] at h
        have kb : PX.below ρ.length d = true := by rw [h0.len]; exact k.2
        unfold OutC at h ⊢
        simp only at h ⊢
        by_cases f : fresh = true
        · rw [if_pos f] at h ⊢
          intro hc a H' ρ' e hn hf hh ho
          obtain ⟨m, rfl, _⟩ := e.pre
          exact h hc a H' ρ e.cutE hn hf (h0.cutH hh k.1) (objR_cutD ho kb)
        · rw [if_neg f] at h ⊢
          intro v H' ρ' e hh r
          obtain ⟨m, rfl, _⟩ := e.pre
          exact h v H' ρ e.cutE (h0.cutH hh k.1) (r.cut kb)
      · rw [if_neg k] at h; exact h.elim
    · rw [if_neg p] at h; exact h
  | exc x g' =>
    have h : OutC C ca K fresh ρ B H (if pure = true then (if g'.take g.length = g ∧ PX.belows g.length x.args = true then .exc x g else .bad) else .exc x g') Q E := h
    by_cases p : pure = true
    · rw [if_pos p] at h
      by_cases k : g'.take g.length = g ∧ PX.belows g.length x.args = true
      · rw [if_pos k] at h
        intro cls dx H' ρ' e hh xr
        obtain ⟨m, rfl, _⟩ := e.pre
        exact h cls dx H' ρ e.cutE (h0.cutH hh k.1) xr
      · rw [if_neg k] at h; exact h.elim
    · rw [if_neg p] at h; exact h
theorem OutC.toSt {fl : Fl} (h : OutC C ca K fresh ρ B H (ofFl fresh fl) Q E) : OutSt ⟨C, ca, K, fun cls d _ H' => E cls d H'⟩ ⟨ρ, B, H⟩ ρ B H fl { nx := fun _ H' => Q .non H', rt := Q } := by
  cases fl with
  | bad => exact h
  | nx s g' =>
    have h : OutC C ca K fresh ρ B H (if fresh = true then .bad else .ok .non g') Q E := h
    by_cases f : fresh = true
    · rw [if_pos f] at h; exact h.elim
    · rw [if_neg f] at h
      unfold OutC at h
      simp only at h
      rw [if_neg f] at h
      exact fun σ H' ρ' B' _ S => h .non H' ρ' S.ext S.base.1 .non
  | ret fr d g' =>
    have h : OutC C ca K fresh ρ B H (if fr = fresh ∧ (fresh = true → isCont d = true) then .ok d g' else .bad) Q E := h
    by_cases k : fr = fresh ∧ (fresh = true → isCont d = true)
    · rw [if_pos k] at h
      obtain ⟨rfl, _⟩ := k
      exact h
    · rw [if_neg k] at h; exact h.elim
  | exc x s g' => exact fun cls dx σ H' ρ' B' S xr => h cls dx H' ρ' S.ext S.base.1 xr
theorem RepL.at {d : D} : ∀ {i : Nat} {vs : List V} {ds : List D}, RepL K ρ B H vs ds → ds[i]? = some d → ∃ v, vs[i]? = some v ∧ Rep K ρ B H v d
  | 0, _, _, .cons h _, e => by cases e; exact ⟨_, rfl, h⟩
  | i + 1, _, _, .cons _ r, e => RepL.at (i := i) r (by simpa using e)
  | _, _, _, .nil, e => by simp at e
theorem sim_start {vs : List V} {ds : List D} {N : List Str} {fn : Fn} (h : HeapOk K ρ B H g) (r : RepL K ρ B H vs ds) (hN : N.length = fn.ns) (hl : ds.length ≤ fn.ns) : Sim K ρ B H g (PX.start fn ds) (L2.start N vs) := by
  have len := r.length
  have get : ∀ (i : Nat) x, (PX.start fn ds)[i]? = some x → (∃ d, ds[i]? = some d ∧ x = .val d) ∨ x = .un := fun i x q => by
    unfold PX.start at q
    rw [List.getElem?_append] at q
    split at q
    · rw [List.getElem?_map] at q
      cases k : ds[i]? with
      | none => rw [k] at q; cases q
      | some d => rw [k] at q; cases q; exact .inl ⟨d, rfl, rfl⟩
    · rw [List.getElem?_replicate] at q
      split at q
      · cases q; exact .inr rfl
      · cases q
  refine ⟨h, ?_, fun i d q => ?_, fun i d q => ?_, fun i j d e a q => ?_⟩
  · unfold PX.start L2.start
    simp only [List.length_append, List.length_map, List.length_replicate]
    omega
  · rcases get i _ q with ⟨d', k, e⟩ | e
    · cases e
      obtain ⟨v, k2, r2⟩ := RepL.at (i := i) r k
      refine ⟨v, ?_, r2⟩
      unfold L2.start
      have hi : i < vs.length := (List.getElem?_eq_some_iff.mp k2).1
      rw [List.getElem?_append_left (by rw [List.length_map]; exact hi), List.getElem?_map, k2]
      rfl
    · cases e
  · rcases get i _ q with ⟨d', k, e⟩ | e <;> cases e
  · rcases get i _ q with ⟨d', k, e⟩ | e <;> cases e
end
end PX
end
section
set_option Elab.async false
set_option linter.all false
set_option maxRecDepth 100000
set_option autoImplicit false
set_option maxHeartbeats 4000000
/-! PZd: all defs of the row, by the calls' depth. -/
namespace PX
open PySem L2 PySem.Spec PyProof.Rows
/-- a def of the row and its own text -/
structure DefOk (K : Fg) (mg : Str → Option Value) (C : Cfg) (rs : List Nat) (i : Nat) (x : Str) (f : Addr) (fd : FuncData) (ps : List Str) (fn : Fn) : Prop where
  body : ∃ (N : List Str) (body : List Stmt) (qual : Str) (scope : Scope) (cdv : Value), DefAt K f N ps body qual scope cdv fd ∧ N.length = fn.ns ∧ isB C N scope rs fn.body body = true
  mg : mg x = some (.ref f)
  keep : PySem.W.keepIn K (.ref f) = true
  binds : Binds K fd ps []
  hfn : C.pr.fns[i]? = some fn
  hnp : ps.length = fn.np
  hns : fn.np ≤ fn.ns
structure GlobD (Pg : Program) (K : Fg) (mg : Str → Option Value) (C : Cfg) (ca : Nat → Addr) (rs : List Nat) : Prop where
  bn : ∀ x ∈ bnames, mg x = none
  ty : ∀ t : Ty, mg (tyS t) = none
  con : ∀ (i : Nat) (x : Str), C.cn[i]? = some x → ∃ (u : Value) (v : V) (d : D), mg x = some u ∧ RelV v u ∧ C.pr.cons[i]? = some d ∧ ∀ (ρ B : List Addr) (H : Hp), Rep K ρ B H v d
  nm : ∀ (c : Nat) (x : Str), C.cl[c]? = some x → mg x = some (.ref (ca c))
  err : ∀ c ∈ rs, ∃ fl Dc fI, ErrTxt fl Pg K (ca c) Dc fI ∧ C.flds.getD c [] = [fl]
  fld : ∀ c, c < C.cl.length → XfC K (ca c) ∧ L2.ExcC K (ca c) ∧ ∀ fl ∈ C.flds.getD c [], PySem.W.findIn K (.ref (ca c)) fl = some none
  kit : ∀ c c', c < C.cl.length → c' < C.cl.length → PySem.W.kitOne K (.ref (ca c)) (.ref (ca c')) = some (C.pr.sub c c')
  exm : ∀ c c', c < C.cl.length → c' < C.cl.length → PySem.W.exmOne K (.ref (ca c)) (.ref (ca c')) = some (C.pr.sub c c')
  defs : ∀ (i : Nat) (x : Str), C.fn[i]? = some x → ∃ f fd ps fn, DefOk K mg C rs i x f fd ps fn
section
variable {Pg : Program} {w : World} {K : Fg} {mg : Str → Option Value} {base : Heap} {C : Cfg} {ca : Nat → Addr} {rs : List Nat}
theorem fn_at (D : GlobD Pg K mg C ca rs) : ∀ (n i : Nat) (x : Str) (f : Addr) (fd : FuncData) (ps : List Str) (fn : Fn), C.fn[i]? = some x → DefOk K mg C rs i x f fd ps fn → FnG Pg w K mg base n f fd ps (spI C ca K fn.fresh n i)
  | 0, i, x, f, fd, ps, fn, hi, d => fun A outer s H args us vs Q E hg hr e0 hb r hl hsp => by
    obtain ⟨ρ, B, g, ds, _, _, q⟩ := hsp
    exact q.elim
  | n + 1, i, x, f, fd, ps, fn, hi, d => by
    obtain ⟨N, body, qual, scope, cdv, da, hns, hb⟩ := d.body
    refine fnG_of da fun A outer s H vs Q E hg hr hl ⟨ρ, B, g, ds, hh, rl, q⟩ => ?_
    have hnp : ds.length = fn.np := by rw [← rl.length, hl, d.hnp]
    have e : call C.pr (n + 1) i ds g = close fn.pure g (ofFl fn.fresh (exec C.pr.cons C.pr.sub C.pr.W (call C.pr n) fn.body (start fn ds) g)) := by
      rw [call, d.hfn]
      simp only [hnp, if_true]
    rw [e] at q
    have cxs : Cxs (cxG Pg w K mg base N qual scope f cdv A outer s H E) C ca N scope rs (fun cls dx _ H' => E cls dx H') n := by
      refine ⟨⟨rfl, rfl, da.sc.nd, rfl, takes_of rfl rfl rfl rfl, ⟨hg, ?_, D.bn, D.ty, D.con, fun j y hj => ?_⟩⟩, fun _ => rfl, rfl, rfl, passes_of rfl, ⟨⟨n, hr⟩, D.nm, D.err, D.fld, D.kit, D.exm⟩⟩
      · have := hr.un
        show (A.deeper (envOfC qual scope s.heap.objs.size f cdv)).units + 65 < cLine
        omega
      · obtain ⟨f', fd', ps', fn', d'⟩ := D.defs j y hj
        exact ⟨n, f', fd', ps', fn', fn_at D n j y f' fd' ps' fn' hj d', hr, d'.mg, d'.keep, d'.binds, d'.hfn, d'.hnp⟩
    refine ⟨_, (isB_ok (b := ⟨ρ, B, H⟩) fn.body cxs hb).1, ?_⟩
    have sm : Sim K ρ B H g (start fn ds) (L2.start N vs) := sim_start hh rl hns (by rw [hnp]; exact d.hns)
    refine ⟨ρ, B, start fn ds, g, ⟨Ext.refl, fun a m => m, fun j u a k1 k2 => ?_, sm⟩, (OutC.close hh q).toSt⟩
    unfold PX.start at k1
    rw [List.getElem?_append] at k1
    split at k1
    · rw [List.getElem?_map] at k1
      cases k : ds[j]? with
      | none => rw [k] at k1; cases k1
      | some d => rw [k] at k1; cases k1
    · rw [List.getElem?_replicate] at k1
      split at k1 <;> cases k1
end
end PX
end
section
set_option Elab.async false
set_option linter.all false
set_option maxRecDepth 100000
set_option autoImplicit false
set_option maxHeartbeats 4000000
/-! PZe: the end of a law by the interpreter's run of its def. -/
namespace PX
open PySem L2 PySem.Spec PyProof.Rows
section
variable {Pg : Program} {w : World} {K : Fg} {mg mb : Str → Option Value} {C : Cfg} {ca : Nat → Addr} {rs : List Nat} {sh : Shared} {cells : List Value} {ns : List Int} {scr f : Addr}
/-- the law's call, where H says of the script's list what it is -/
theorem end_core {n i : Nat} {x : Str} {fd : FuncData} {p : Str} {fn : Fn} {g' : G} {H : Hp} (hK : K.In sh.heap) (hN : sh.heap.Ns mainGlobals mg) (hB : sh.heap.Ns builtinsNs mb) (hBB : ∀ y : Str, y ≠ "__name__" → mb y = bootBuiltins y)
    (hL : sh.heap.NoLimit) (hG : sh.gens = #[]) (D : GlobD Pg K mg C ca rs) (hi : C.fn[i]? = some x) (d : DefOk K mg C rs i x f fd [p] fn) (hfr : fn.fresh = false) (rm : Room n callerA) (run : call C.pr n i [.lst (ns.map .int)] [] = .ok (.bl true) g')
    (hscr : sh.heap.get? scr = some { cls := .type "list", data := .seq cells.toArray }) (hOnly : ∀ b, H b = none ∨ ∃ o xs, H b = some (.frz o (.lst xs))) (hS : Frozen K [] [] H scr (ns.map V.int)) (hOk : HOk Pg w H sh.heap)
    (hA : ∀ b, H b ≠ none → b = scr) (hKn : H scr ≠ none → K.lookup scr = none) :
    codeAny (model Pg w) callerA (.call (.ref f) ⟨[.ref scr], []⟩) (fun r s' => r = .ok (.ret (.bool true)) ∧ OldK sh.heap s'.heap ∧ s'.os = sh.os ∧ AllBare s'.gens) sh := by
  have own : ∀ {b : Addr}, H b ≠ none → b = scr := fun {b} z => hA b z
  have hid : ∀ {b : Addr} {o : Obj}, sh.heap.get? b = some o → H b = none → (hidT sh.heap H).get? b = some o := fun q z => hidT_get q z
  have dictFree : ∀ {b : Addr} {o : Obj} {es : Array DictEntry} {ep : Nat}, sh.heap.get? b = some o → o.data = .dict es ep → H b = none := by
    intro b o es ep q hd
    by_cases z : H b = none
    · exact z
    · have e := own z
      subst e
      rw [hscr] at q
      cases q
      cases hd
  have lay : ∀ {b : Addr} {m : Str → Option Value}, sh.heap.Ns b m → (hidT sh.heap H).Ns b m := fun {b m} ⟨o, es, ep, q, hd, r⟩ => ⟨o, es, ep, hid q (dictFree q hd), hd, r⟩
  have inK : K.In (hidT sh.heap H) := by
    intro b o q
    refine hid (hK b o q) ?_
    by_cases z : H b = none
    · exact z
    · have e := own z
      subst e
      rw [hKn z] at q
      cases q
  obtain ⟨mc, l1, l2⟩ := hL
  have mod : Mod K mg (hidT sh.heap H) := ⟨inK, lay hN, ⟨mb, lay hB, hBB⟩, ⟨mc, lay l1, l2⟩⟩
  have env : Env0 Pg w K mg (hidT sh.heap H) callerA [] sh H := by
    refine ⟨rfl, mod, fun b o q => of_hidT q, Nat.le_of_eq (hidT_size _ _), trivial, fun b z => ?_, hOk, .of_eq hG⟩
    exact absurd (show b ∈ ([] : List Addr) from z) (by simp)
  have F : FnG Pg w K mg (hidT sh.heap H) n f fd [p] (spI C ca K fn.fresh n i) := fn_at D n i x f fd [p] fn hi d
  have bs : BindsTo sh fd ⟨[.ref scr], []⟩ [(p, .ref scr)] := d.binds sh [.ref scr] hK rfl
  have sp : spI C ca K fn.fresh n i [.ref scr] H (fun v _ => v = .bl true) (fun _ _ _ => False) := by
    refine ⟨[], [], [], [.lst (ns.map .int)], ⟨rfl, List.nodup_nil, by simp, fun l a o z => by simp at z, by simp⟩, .cons (.lst hS (repL_ints ns)) .nil, ?_⟩
    rw [run]
    unfold OutC
    simp only [hfr]
    intro v H' ρ' _ _ r
    cases r
    trivial
  refine codeAny_mono (F callerA [] sh H ⟨[.ref scr], []⟩ [.ref scr] [.ref scr] _ _ rfl rm env bs (.cons rfl .nil) rfl sp) fun r s' h => ?_
  cases r with
  | error e =>
    obtain ⟨a, B, H', cls, dd, _, _, _, _, _, _, _, z⟩ := h
    exact z.elim
  | ok fl =>
    cases fl with
    | ret u =>
      obtain ⟨v, H', os, bare, un, ok', rv, rfl⟩ := h
      obtain rfl : u = Value.bool true := rv
      refine ⟨rfl, .of_keep fun b o q => ?_, os, bare⟩
      rcases hOnly b with z | ⟨ob, xs, z⟩
      · exact un.keep b o q z (fun m => absurd (show b ∈ ([] : List Addr) from m) (by simp)) (by simp)
      · obtain ⟨e1, _⟩ := hOk b _ z
        obtain ⟨e2, _⟩ := ok' b _ (un.frzs b ob _ z)
        rw [q] at e1
        cases e1
        exact e2
    | _ => exact False.elim h
end
end PX
end
section
set_option Elab.async false
set_option linter.all false
set_option maxRecDepth 100000
set_option autoImplicit false
set_option maxHeartbeats 4000000
/-! PZf: the end of a law: what is asked of the head. -/
namespace PX
open PySem L2 PySem.Spec PyProof.Rows
section
variable {Pg : Program} {w : World} {K : Fg} {mg mb : Str → Option Value} {C : Cfg} {ca : Nat → Addr} {rs : List Nat} {sh : Shared} {cells : List Value} {ns : List Int} {scr f : Addr}
theorem end_call {n i : Nat} {x : Str} {fd : FuncData} {p : Str} {fn : Fn} {g' : G} (hK : K.In sh.heap) (hN : sh.heap.Ns mainGlobals mg) (hB : sh.heap.Ns builtinsNs mb) (hBB : ∀ y : Str, y ≠ "__name__" → mb y = bootBuiltins y)
    (hL : sh.heap.NoLimit) (hG : sh.gens = #[]) (D : GlobD Pg K mg C ca rs) (hi : C.fn[i]? = some x) (d : DefOk K mg C rs i x f fd [p] fn) (hfr : fn.fresh = false) (rm : Room n callerA) (run : call C.pr n i [.lst (ns.map .int)] [] = .ok (.bl true) g')
    (hscr : sh.heap.get? scr = some { cls := .type "list", data := .seq cells.toArray }) (hInts : IntsAre cells ns) (hLen : ns.length ≤ sizeLine) :
    codeAny (model Pg w) callerA (.call (.ref f) ⟨[.ref scr], []⟩) (fun r s' => r = .ok (.ret (.bool true)) ∧ OldK sh.heap s'.heap ∧ s'.os = sh.os ∧ AllBare s'.gens) sh := by
  have rel := vals_ints hInts
  have same : cells.length = ns.length := hInts.length
  cases look : K.lookup scr with
  | some o =>
    have q := hK scr o look
    rw [hscr] at q
    cases q
    refine end_core (H := fun _ => none) hK hN hB hBB hL hG D hi d hfr rm run hscr (fun _ => .inl rfl) (.inr ⟨_, cells.toArray, _, look, rfl, rfl, rfl, ?_, ?_⟩) (fun b u z => ?_) (fun b z => absurd rfl z) (fun z => absurd rfl z)
    · rw [List.size_toArray, same]; exact hLen
    · simpa using rel
    · have z : (none : Option HO) = some u := z
      cases z
  | none =>
    let ob : Obj := { cls := .type "list", data := .seq cells.toArray }
    let H : Hp := fun b => if b = scr then some (.frz ob (.lst (ns.map V.int))) else none
    have at1 : H scr = some (.frz ob (.lst (ns.map V.int))) := if_pos rfl
    have off : ∀ b, b ≠ scr → H b = none := fun b z => if_neg z
    refine end_core (H := H) hK hN hB hBB hL hG D hi d hfr rm run hscr (fun b => ?_) (.inl ⟨.inr ⟨ob, at1⟩, by simp, by simp⟩) (fun b u z => ?_) (fun b z => ?_) (fun _ => look)
    · by_cases e : b = scr
      · subst e; exact .inr ⟨_, _, at1⟩
      · exact .inl (off b e)
    · by_cases e : b = scr
      · subst e
        rw [at1] at z
        cases z
        exact ⟨hscr, by rw [List.length_map]; exact hLen, cells, _, rel, hscr⟩
      · rw [off b e] at z; cases z
    · by_cases e : b = scr
      · exact e
      · exact absurd (off b e) z
end
/-- what the head's facts must give -/
structure Facts (Pg : Program) (K : Fg) (mg : Str → Option Value) (C : Cfg) (rs : List Nat) (i : Nat) (law p : Str) : Prop where
  ex : ∃ (ca : Nat → Addr) (f : Addr) (fd : FuncData) (fn : Fn), GlobD Pg K mg C ca rs ∧ C.fn[i]? = some law ∧ DefOk K mg C rs i law f fd [p] fn ∧ fn.fresh = false
theorem walk_px {l : PySem.W.OpenLaw} {m n i : Nat} {q : Program} {loose : List Str} {XP : (Str → Option Value) → Heap → Prop} {YP : World → Heap → Prop} {d : DefRec} {K : Params → Fg} {C : Cfg} {rs : List Nat} {law p : Str}
    (hn : l.most = some m) (hm : m ≤ sizeLine) (hdf : d.params.defaults = []) (hd : d.name = law) (rm : Room n callerA) (hY : ∀ (w : World) (h : Heap), YP w h → (K w.params).In h)
    (F : ∀ (w : World) (mg : Str → Option Value) (h : Heap), (K w.params).In h → h.Ns mainGlobals mg → Facts l.prog (K w.params) mg C rs i law p)
    (run : ∀ ns : List Int, ns.length ≤ m → (∀ z ∈ ns, Builtin.Int.intBits z ≤ 1048576) → ∃ g', call C.pr n i [.lst (ns.map .int)] [] = .ok (.bl true) g') :
    PySem.W.WalkO q loose XP YP l.row.toRowW d [] (fun f vs => PySem.call f vs) := by
  refine Att.attach_callB hn hdf fun w s0 s1 mg mb fa o pm cd doc scr cells ns Gr Y ho hdd hcd hmg hobj hints hlen hbits hg => ?_
  have hK := hY w _ Y
  obtain ⟨ca, f, fd, fn, D, hi, dok, hfr⟩ := (F w mg _ hK Gr.T.g).ex
  obtain ⟨g', r⟩ := run ns hlen hbits
  have e : fa = f := by
    have := dok.mg
    rw [← hd, hmg] at this
    cases this
    rfl
  subst e
  exact end_call hK Gr.T.g Gr.T.b Gr.T.builtins Gr.T.nolimit hg D hi dok hfr rm r hobj hints (Nat.le_trans hlen hm)
end PX
end
section
set_option Elab.async false
set_option linter.all false
set_option maxRecDepth 100000
set_option autoImplicit false
set_option maxHeartbeats 4000000
/-! PZg: the head's rows, def by def, and the checks of the own text. -/
namespace PX
open PySem L2 PySem.Spec PyProof.Rows
/-- what the written part holds of a def at the top -/
structure DefRow (K : Fg) (mg : Str → Option Value) (x : Str) (st : Stmt) : Prop where
  ex : ∃ (f : Addr) (oc : Value) (od : Option Addr) (kV dc pm : Value) (an : Option Addr) (cd ct : Value) (sl : Array (Option Value)), mg x = some (.ref f) ∧
    K.lookup f = some ⟨oc, od, .func (PySem.W.fnOf x x (defArgs st) (defBody st) (defScope st) .none kV dc pm an cd ct), sl⟩ ∧ PySem.W.codeIn K cd x = true ∧ PySem.W.keepIn K (.ref f) = true
theorem row_mk {K : Fg} {h : Heap} {mg : Str → Option Value} {x : Str} {st : Stmt} {f : Addr} {oc : Value} {od : Option Addr} {kV dc pm : Value} {an : Option Addr} {cd ct : Value} {sl : Array (Option Value)} (X : K.In h) (G : h.Ns mainGlobals mg)
    (a : PySem.W.nsIn K mainGlobals x = some (some (.ref f))) (l : K.lookup f = some ⟨oc, od, .func (PySem.W.fnOf x x (defArgs st) (defBody st) (defScope st) .none kV dc pm an cd ct), sl⟩) (c : PySem.W.codeIn K cd x = true) (k : PySem.W.keepIn K (.ref f) = true) : DefRow K mg x st :=
  ⟨⟨f, oc, od, kV, dc, pm, an, cd, ct, sl, PySem.W.mg_of X G a, l, c, k⟩⟩
def RowsOk (K : Fg) (mg : Str → Option Value) : List (Str × Stmt) → Prop
  | [] => True
  | p :: r => DefRow K mg p.1 p.2 ∧ RowsOk K mg r
theorem RowsOk.at {K : Fg} {mg : Str → Option Value} : ∀ {l : List (Str × Stmt)} {i : Nat} {p : Str × Stmt}, RowsOk K mg l → l[i]? = some p → DefRow K mg p.1 p.2
  | [], _, _, _, h => by simp at h
  | q :: r, 0, p, h, e => by cases e; exact h.1
  | q :: r, i + 1, p, h, e => RowsOk.at (l := r) (i := i) h.2 (by simpa using e)
/-- the names all of a list are none of the module's -/
def NoneOk (K : Fg) : List Str → Prop
  | [] => True
  | x :: r => PySem.W.nsIn K mainGlobals x = some none ∧ NoneOk K r
theorem NoneOk.of {K : Fg} {h : Heap} {mg : Str → Option Value} (X : K.In h) (G : h.Ns mainGlobals mg) : ∀ {l : List Str}, NoneOk K l → ∀ x ∈ l, mg x = none
  | [], _, _, m => by simp at m
  | y :: r, hh, x, m => by
    rcases List.mem_cons.mp m with e | e
    · subst e; exact PySem.W.mg_none_of X G hh.1
    · exact NoneOk.of X G hh.2 x e
/-- how the parameters of all are bound -/
def BindAll : List (Str × Stmt) → List (List Str) → List Fn → Prop
  | [], [], [] => True
  | p :: r, N :: Ns, fn :: fns => (∀ (kV dc pm : Value) (an : Option Addr) (cd ct : Value) (us : List Value), us.length = (N.take fn.np).length →
      bindArgs (PySem.W.fnOf p.1 p.1 (defArgs p.2) (defBody p.2) (defScope p.2) .none kV dc pm an cd ct) ⟨us, []⟩ = pure ((N.take fn.np).zip us)) ∧ BindAll r Ns fns
  | _, _, _ => False
theorem BindAll.at {K : Fg} : ∀ {l : List (Str × Stmt)} {Ns : List (List Str)} {fns : List Fn} {i : Nat} {p : Str × Stmt} {N : List Str} {fn : Fn}, BindAll l Ns fns → l[i]? = some p → Ns[i]? = some N → fns[i]? = some fn →
    ∀ {kV dc pm : Value} {an : Option Addr} {cd ct : Value}, Binds K (PySem.W.fnOf p.1 p.1 (defArgs p.2) (defBody p.2) (defScope p.2) .none kV dc pm an cd ct) (N.take fn.np) []
  | [], _, _, _, _, _, _, _, e, _, _ => by simp at e
  | q :: r, [], _, _, _, _, _, h, _, _, _ => h.elim
  | q :: r, M :: Ns, [], _, _, _, _, h, _, _, _ => h.elim
  | q :: r, M :: Ns, f0 :: fns, 0, p, N, fn, h, e1, e2, e3 => by
    cases e1
    cases e2
    cases e3
    exact .all (h.1 _ _ _ _ _ _)
  | q :: r, M :: Ns, f0 :: fns, i + 1, p, N, fn, h, e1, e2, e3 => BindAll.at (i := i) h.2 (by simpa using e1) (by simpa using e2) (by simpa using e3)
def scB (N ps : List Str) (sc : Scope) : Bool :=
  decide (sc.kind = .function) && decide (sc.isCoroutine = false) && decide (sc.isGenerator = false) && decide N.Nodup && decide (N.take ps.length = ps) &&
  decide (∀ x ∈ ps, sc.names.lookup x = some .local ∨ sc.names.lookup x = some .cell) && decide (∀ y ∈ sc.names, y.2 ≠ .free)
theorem sc_of {N ps : List Str} {sc : Scope} (h : scB N ps sc = true) : FnScope N ps sc := by
  unfold scB at h
  simp only [Bool.and_eq_true, decide_eq_true_eq] at h
  exact ⟨h.1.1.1.1.1.1, h.1.1.1.1.1.2, h.1.1.1.1.2, h.1.1.1.2, h.1.1.2, h.1.2, h.2⟩
/-- an own text's def against the row's -/
def defB (C : Cfg) (rs : List Nat) (N : List Str) (fn : Fn) (st : Stmt) : Bool :=
  scB N (N.take fn.np) (defScope st) && decide (N.length = fn.ns) && decide (fn.np ≤ fn.ns) && isB C N (defScope st) rs fn.body (defBody st)
def defsB (C : Cfg) (rs : List Nat) : List (List Str) → List Fn → List (Str × Stmt) → Bool
  | [], [], [] => true
  | N :: Ns, fn :: fns, p :: ps => defB C rs N fn p.2 && defsB C rs Ns fns ps
  | _, _, _ => false
theorem defsB_at {C : Cfg} {rs : List Nat} : ∀ {Ns : List (List Str)} {fns : List Fn} {ps : List (Str × Stmt)} {i : Nat} {p : Str × Stmt}, defsB C rs Ns fns ps = true → ps[i]? = some p → ∃ N fn, fns[i]? = some fn ∧ defB C rs N fn p.2 = true ∧ Ns[i]? = some N
  | [], [], [], _, _, _, h => by simp at h
  | N :: Ns, fn :: fns, q :: ps, 0, p, h, e => by
    cases e
    exact ⟨N, fn, rfl, (and2 h).1, rfl⟩
  | N :: Ns, fn :: fns, q :: ps, i + 1, p, h, e => by
    obtain ⟨N', fn', h1, h2, h3⟩ := defsB_at (i := i) (and2 h).2 (by simpa using e)
    exact ⟨N', fn', by simpa using h1, h2, by simpa using h3⟩
  | [], [], _ :: _, _, _, h, _ => noC h
  | [], _ :: _, _, _, _, h, _ => noC h
  | _ :: _, [], _, _, _, h, _ => noC h
  | _ :: _, _ :: _, [], _, _, h, _ => noC h
theorem defOk_of {K : Fg} {mg : Str → Option Value} {C : Cfg} {rs : List Nat} {Ns : List (List Str)} {ps : List (Str × Stmt)} (R : RowsOk K mg ps) (Bd : BindAll ps Ns C.pr.fns) (h : defsB C rs Ns C.pr.fns ps = true) (hn : C.fn = ps.map (·.1)) :
    ∀ (i : Nat) (x : Str), C.fn[i]? = some x → ∃ f fd fn N, Ns[i]? = some N ∧ C.pr.fns[i]? = some fn ∧ DefOk K mg C rs i x f fd (N.take fn.np) fn := by
  intro i x hi
  rw [hn, List.getElem?_map] at hi
  cases hp : ps[i]? with
  | none => rw [hp] at hi; cases hi
  | some p =>
    rw [hp] at hi
    cases hi
    obtain ⟨N, fn, h1, h2, h3⟩ := defsB_at h hp
    unfold defB at h2
    simp only [Bool.and_eq_true, decide_eq_true_eq] at h2
    obtain ⟨⟨⟨h4, h6⟩, h7⟩, h8⟩ := h2
    obtain ⟨f, oc, od, kV, dc, pm, an, cd, ct, sl, r1, r2, r3, r4⟩ := (R.at hp).ex
    have hl : (N.take fn.np).length = fn.np := by rw [List.length_take, h6]; exact Nat.min_eq_left h7
    exact ⟨f, _, fn, N, h3, h1, ⟨⟨N, defBody p.2, p.1, defScope p.2, cd, ⟨⟨p.1, defArgs p.2, .none, kV, dc, pm, ct, oc, an, od, sl, rfl, r2⟩, r3, sc_of h4⟩, h6, h8⟩, r1, r4, Bd.at hp h3 h1, h1, hl, h7⟩⟩
end PX
end
section
set_option Elab.async false
set_option linter.all false
set_option maxRecDepth 100000
set_option autoImplicit false
set_option maxHeartbeats 4000000
/-! PZh: what the written part holds of the error classes. -/
namespace PX
open PySem L2 PySem.Spec PyProof.Rows
theorem exm_of {K : Fg} {a b : Addr} {v : Bool} (h1 : PySem.W.subIn K (.ref b) (.type "BaseException") = some true) (h2 : PySem.W.isClsIn K b = true) (h3 : PySem.W.typeIn K (.ref b) = some (.type "type")) (h4 : PySem.W.subIn K (.ref a) (.ref b) = some v) :
    PySem.W.exmOne K (.ref a) (.ref b) = some v := by
  have e2 : (PySem.W.clsIn K b).isSome = true := h2
  show (if (PySem.W.subIn K (.ref b) (.type "BaseException") == some true) = true then (if ((PySem.W.clsIn K b).isSome && PySem.W.typeIn K (.ref b) == some (.type "type")) = true then PySem.W.subIn K (.ref a) (.ref b) else none) else none) = some v
  have t1 : (PySem.W.subIn K (.ref b) (.type "BaseException") == some true) = true := by rw [h1]; rfl
  have t2 : ((PySem.W.clsIn K b).isSome && PySem.W.typeIn K (.ref b) == some (.type "type")) = true := by rw [e2, h3]; rfl
  rw [if_pos t1, if_pos t2]
  exact h4
theorem kit_of {K : Fg} {a b : Addr} {v : Bool} (h2 : PySem.W.isClsIn K b = true) (h3 : PySem.W.typeIn K (.ref b) = some (.type "type")) (h4 : PySem.W.subIn K (.ref a) (.ref b) = some v) (h5 : a = b → v = true) : PySem.W.kitOne K (.ref a) (.ref b) = some v := by
  have e2 : (PySem.W.clsIn K b).isSome = true := h2
  have t2 : ((PySem.W.clsIn K b).isSome && PySem.W.typeIn K (.ref b) == some (.type "type")) = true := by rw [e2, h3]; rfl
  unfold PySem.W.kitOne
  by_cases z : (Value.ref a == Value.ref b) = true
  · rw [if_pos z, h5 (Value.ref.inj (beq_iff_eq.mp z))]
  · rw [if_neg z]
    show (if ((PySem.W.clsIn K b).isSome && PySem.W.typeIn K (.ref b) == some (.type "type")) = true then PySem.W.subIn K (.ref a) (.ref b) else none) = some v
    rw [if_pos t2]
    exact h4
/-- none of the names is a member of the class -/
def NoAll (K : Fg) (c : Addr) : List Str → Prop
  | [] => True
  | f :: r => PySem.W.findIn K (.ref c) f = some none ∧ NoAll K c r
theorem NoAll.of {K : Fg} {c : Addr} : ∀ {l : List Str}, NoAll K c l → ∀ f ∈ l, PySem.W.findIn K (.ref c) f = some none
  | [], _, _, m => by simp at m
  | y :: r, h, f, m => by
    rcases List.mem_cons.mp m with e | e
    · subst e; exact h.1
    · exact NoAll.of h.2 f e
/-- a class of errors at the top; fs its fields -/
structure ClsRow (K : Fg) (mg : Str → Option Value) (x : Str) (fs : List Str) (c : Addr) : Prop where
  mg : mg x = some (.ref c)
  xf : XfC K c
  ec : L2.ExcC K c
  no : NoAll K c fs
  isc : PySem.W.isClsIn K c = true
  typ : PySem.W.typeIn K (.ref c) = some (.type "type")
theorem cls_mk {K : Fg} {h : Heap} {mg : Str → Option Value} {x : Str} {fs : List Str} {c : Addr} (X : K.In h) (G : h.Ns mainGlobals mg) (hn : PySem.W.specialIn K (.builtin "object.__class__") "__get__" = some (some (.builtin "getset_descriptor.__get__"))) (ht : PySem.W.takesIn K (.builtin "object.__class__") = some true) (a : PySem.W.nsIn K mainGlobals x = some (some (.ref c)))
    (ga : PySem.W.findIn K (.ref c) "__getattribute__" = some (some (.builtin "BaseException.__getattribute__"))) (gg : PySem.W.findIn K (.ref c) "__getattr__" = some none) (ex : PySem.W.subIn K (.ref c) (.type "BaseException") = some true) (hd : PySem.W.hasDictIn K c = true)
    (ha : PySem.W.findIn K (.ref c) "__class__" = some (some (.builtin "object.__class__"))) (hm : PySem.W.mroIn K c (.type "object") = some true)
    (no : NoAll K c fs) (isc : PySem.W.isClsIn K c = true) (typ : PySem.W.typeIn K (.ref c) = some (.type "type")) : ClsRow K mg x fs c := ⟨PySem.W.mg_of X G a, ⟨ga, gg, ex, hd⟩, ⟨ga, gg, ex, hd, ha, hn, ht, hm⟩, no, isc, typ⟩
/-- the rows of classes, in order -/
def ClsAll (K : Fg) (mg : Str → Option Value) : List Str → List (List Str) → List Addr → Prop
  | [], [], [] => True
  | x :: xs, f :: fs, c :: cs => ClsRow K mg x f c ∧ ClsAll K mg xs fs cs
  | _, _, _ => False
theorem ClsAll.at {K : Fg} {mg : Str → Option Value} : ∀ {xs : List Str} {fs : List (List Str)} {cs : List Addr} {i : Nat} {x : Str}, ClsAll K mg xs fs cs → xs[i]? = some x → ClsRow K mg x (fs.getD i []) (cs.getD i 0)
  | [], _, _, _, _, _, e => by simp at e
  | _ :: _, [], _, _, _, h, _ => h.elim
  | _ :: _, _ :: _, [], _, _, h, _ => h.elim
  | y :: xs, f :: fs, c :: cs, 0, x, h, e => by cases e; exact h.1
  | y :: xs, f :: fs, c :: cs, i + 1, x, h, e => by
    have := ClsAll.at (xs := xs) (fs := fs) (cs := cs) (i := i) h.2 (by simpa using e)
    simpa using this
/-! ### constants -/
def conB : D → Value → Bool
  | .int i, .int j _ => decide (i = j)
  | .str t, .str y _ => decide (y = mkS t)
  | .bl b, .bool c => b == c
  | .non, .none => true
  | _, _ => false
theorem conB_ok {K : Fg} {d : D} {u : Value} (h : conB d u = true) : ∃ v, RelV v u ∧ ∀ (ρ B : List Addr) (H : Hp), Rep K ρ B H v d := by
  cases d <;> cases u <;> first | exact noC h | skip
  · exact ⟨.non, rfl, fun _ _ _ => .non⟩
  · obtain rfl := (beq_iff_eq.mp (show (_ == _) = true from h))
    exact ⟨.bl _, rfl, fun _ _ _ => .bl _⟩
  · obtain rfl := (of_decide_eq_true (show decide (_ = _) = true from h))
    exact ⟨.int _, ⟨_, rfl⟩, fun _ _ _ => .int _⟩
  · obtain rfl := (of_decide_eq_true (show decide (_ = _) = true from h))
    exact ⟨.str _, ⟨_, rfl⟩, fun _ _ _ => .str _⟩
def consB : List D → List Value → Bool
  | [], [] => true
  | d :: ds, u :: us => conB d u && consB ds us
  | _, _ => false
theorem consB_ok {K : Fg} : ∀ {ds : List D} {us : List Value}, consB ds us = true → ∃ vs, Vals vs us ∧ ∀ (ρ B : List Addr) (H : Hp), RepL K ρ B H vs ds
  | [], [], _ => ⟨[], .nil, fun _ _ _ => .nil⟩
  | [], _ :: _, h => noC h
  | _ :: _, [], h => noC h
  | d :: ds, u :: us, h => by
    obtain ⟨h1, h2⟩ := and2 h
    obtain ⟨v, r1, r2⟩ := conB_ok (K := K) h1
    obtain ⟨vs, q1, q2⟩ := consB_ok h2
    exact ⟨v :: vs, .cons r1 q1, fun ρ B H => .cons (r2 ρ B H) (q2 ρ B H)⟩
/-- a name of the module that holds a value -/
structure ConRow (K : Fg) (mg : Str → Option Value) (x : Str) (d : D) : Prop where
  ex : ∃ (u : Value) (v : V), mg x = some u ∧ RelV v u ∧ ∀ (ρ B : List Addr) (H : Hp), Rep K ρ B H v d
theorem con_mk {K : Fg} {h : Heap} {mg : Str → Option Value} {x : Str} {d : D} {u : Value} (X : K.In h) (G : h.Ns mainGlobals mg) (a : PySem.W.nsIn K mainGlobals x = some (some u)) (c : conB d u = true) : ConRow K mg x d := by
  obtain ⟨v, r1, r2⟩ := conB_ok (K := K) c
  exact ⟨⟨u, v, PySem.W.mg_of X G a, r1, r2⟩⟩
theorem con_tup {K : Fg} {h : Heap} {mg : Str → Option Value} {x : Str} {ds : List D} {a : Addr} {dd : Option Addr} {its : Array Value} {n : Nat} {sl : Array (Option Value)} (X : K.In h) (G : h.Ns mainGlobals mg) (e : PySem.W.nsIn K mainGlobals x = some (some (.ref a)))
    (l : K.lookup a = some ⟨.type "tuple", dd, .seq its n, sl⟩) (c : consB ds its.toList = true) (hs : ds.length ≤ 1000) : ConRow K mg x (.tup ds) := by
  obtain ⟨vs, r1, r2⟩ := consB_ok (K := K) c
  have h1 := r1.length
  have h2 := (r2 [] [] fun _ => none).length
  refine ⟨⟨.ref a, .ref a, PySem.W.mg_of X G e, rfl, fun ρ B H => .tup (.inr ⟨_, its, n, l, rfl, rfl, ?_, r1⟩) (r2 ρ B H)⟩⟩
  rw [sizeLine_eq]
  have h3 : its.toList.length = its.size := Array.length_toList
  omega
def ConAll (K : Fg) (mg : Str → Option Value) : List Str → List D → Prop
  | [], [] => True
  | x :: xs, d :: ds => ConRow K mg x d ∧ ConAll K mg xs ds
  | _, _ => False
theorem ConAll.at {K : Fg} {mg : Str → Option Value} : ∀ {xs : List Str} {ds : List D} {i : Nat} {x : Str}, ConAll K mg xs ds → xs[i]? = some x → ∃ d, ds[i]? = some d ∧ ConRow K mg x d
  | [], _, _, _, _, e => by simp at e
  | _ :: _, [], _, _, h, _ => h.elim
  | y :: xs, d :: ds, 0, x, h, e => by cases e; exact ⟨d, rfl, h.1⟩
  | y :: xs, d :: ds, i + 1, x, h, e => by
    obtain ⟨d', h1, h2⟩ := ConAll.at (xs := xs) (ds := ds) (i := i) h.2 (by simpa using e)
    exact ⟨d', by simpa using h1, h2⟩
/-- subclass or not, row by row -/
def SubAll (K : Fg) (sub : Nat → Nat → Bool) (cs : List Addr) : List (Nat × Nat) → Prop
  | [] => True
  | p :: r => PySem.W.subIn K (.ref (cs.getD p.1 0)) (.ref (cs.getD p.2 0)) = some (sub p.1 p.2) ∧ SubAll K sub cs r
theorem SubAll.at {K : Fg} {sub : Nat → Nat → Bool} {cs : List Addr} {p : Nat × Nat} : ∀ {l : List (Nat × Nat)}, SubAll K sub cs l → p ∈ l → PySem.W.subIn K (.ref (cs.getD p.1 0)) (.ref (cs.getD p.2 0)) = some (sub p.1 p.2)
  | [], _, m => by simp at m
  | q :: r, h, m => by
    rcases List.mem_cons.mp m with e | e
    · subst e; exact h.1
    · exact SubAll.at h.2 e
theorem glob_of {Pg : Program} {K : Fg} {h : Heap} {mg : Str → Option Value} {C : Cfg} {rs : List Nat} {Ns : List (List Str)} {ps : List (Str × Stmt)} {cs : List Addr} {prs : List (Nat × Nat)} (X : K.In h) (G : h.Ns mainGlobals mg)
    (R : RowsOk K mg ps) (Bd : BindAll ps Ns C.pr.fns) (hchk : defsB C rs Ns C.pr.fns ps = true) (hn : C.fn = ps.map (·.1)) (none : NoneOk K bnames) (cl : ClsAll K mg C.cl C.flds cs) (con : ConAll K mg C.cn C.pr.cons)
    (sb : SubAll K C.pr.sub cs prs) (hp : ∀ c c', c < C.cl.length → c' < C.cl.length → (c, c') ∈ prs) (rf : ∀ c, c < C.cl.length → C.pr.sub c c = true) (err : ∀ c ∈ rs, ∃ fl Dc fI, ErrTxt fl Pg K (cs.getD c 0) Dc fI ∧ C.flds.getD c [] = [fl]) : GlobD Pg K mg C (fun c => cs.getD c 0) rs := by
  have bn := none.of X G
  refine ⟨bn, fun t => bn _ (by cases t <;> decide), fun i x e => ?_, fun c x e => (cl.at e).mg, err, fun c hc => ?_, fun c c' hc hc' => ?_, fun c c' hc hc' => ?_, fun i x hi => ?_⟩
  · obtain ⟨d, h1, ⟨u, v, h2, h3, h4⟩⟩ := con.at e
    exact ⟨u, v, d, h2, h3, h1, h4⟩
  · have q := cl.at (List.getElem?_eq_getElem hc)
    exact ⟨q.xf, q.ec, q.no.of⟩
  · have q := cl.at (List.getElem?_eq_getElem hc')
    refine kit_of q.isc q.typ (sb.at (hp c c' hc hc')) fun z => ?_
    have h1 := sb.at (hp c c' hc hc')
    have h2 := sb.at (hp c c hc hc)
    have z : cs.getD c 0 = cs.getD c' 0 := z
    dsimp only at h1 h2
    rw [← z, h2, rf c hc] at h1
    exact (Option.some.inj h1).symm
  · have q := cl.at (List.getElem?_eq_getElem hc')
    exact exm_of q.xf.exC q.isc q.typ (sb.at (hp c c' hc hc'))
  · obtain ⟨f, fd, fn, N, h1, h2, h3⟩ := defOk_of R Bd hchk hn i x hi
    exact ⟨f, fd, _, fn, h3⟩
theorem super_of {K : Fg} {C D c0 : Addr} {kC kD : Value} {dC dD : Option Addr} {sC sD : Array (Option Value)} {cdC cd0 : ClassData} {name : Str} {v : Value} (hC : K.lookup C = some ⟨kC, dC, .cls cdC, sC⟩) (h0 : K.lookup c0 = some ⟨kD, dD, .cls cd0, sD⟩)
    (hm : (cdC.mro.dropWhile (· != .ref D)).drop 1 = cd0.mro) (hf : PySem.W.findIn K (.ref c0) name = some (some v)) : PySem.W.ks_superIn K C D name = some (some v) := by
  unfold PySem.W.findIn at hf
  simp only [h0] at hf
  have e : PySem.W.clsIn K C = some cdC := by
    unfold PySem.W.clsIn
    rw [hC]
  unfold PySem.W.ks_superIn
  rw [e]
  show PySem.W.alongIn K name ((cdC.mro.dropWhile (· != .ref D)).drop 1) = _
  rw [hm]
  exact hf
/-- the function of __init__ in the written part -/
structure InitRow (fl : Str) (Pg : Program) (K : Fg) (D fI : Addr) : Prop where
  ty : PySem.W.typeIn K (.ref fI) = some (.type "function")
  fn : ∃ (fd : FuncData) (oF : Obj) (cc : Addr) (oc : Obj) (co : Addr) (ok : Obj) (vs : Array Value) (file : Str) (tf : Tok) (p1 p2 q0 q1 q2 q3 q4 q5 q6 q7 q8 q9 : Pos), K.lookup fI = some oF ∧ oF.data = .func fd ∧ fd.params = eA fl p1 p2 ∧ fd.body = .stmts (eB fl q0 q1 q2 q3 q4 q5 q6 q7 q8 q9) ∧
    fd.scope.kind = .function ∧ (∀ x ∈ fd.scope.names, x.2 ≠ .cell) ∧ fd.scope.names.lookup ("self" : Str) = some .local ∧ fd.scope.names.lookup fl = some .local ∧ fd.scope.names.lookup ("super" : Str) = some .globalImplicit ∧ fd.scope.names.lookup ("__class__" : Str) = some .free ∧
    fd.scope.isCoroutine = false ∧ fd.scope.isGenerator = false ∧ fd.globals = mainGlobals ∧ fd.builtins = builtinsNs ∧ fd.closure = [(("__class__" : Str), cc)] ∧ K.lookup cc = some oc ∧ oc.data = .cell (some (.ref D)) ∧
    fd.code = .ref co ∧ K.lookup co = some ok ∧ ok.data = .fields vs ∧ vs[2]? = some (.str file tf) ∧ ((Pg.main.file : Str) == file) = true ∧ PySem.W.codeIn K fd.code fd.qualname = true ∧ (q2.endLine == q4.line) = true ∧ (∀ u v : Value, bindArgs fd ⟨[u, v], []⟩ = pure [(("self" : Str), u), (fl, v)])
theorem init_mk {fl : Str} {Pg : Program} {K : Fg} {D fI cc co : Addr} {kF kc ko : Value} {dF dc dk : Option Addr} {sF sc sk : Array (Option Value)} {fd : FuncData} {vs : Array Value} {file : Str} {tf : Tok} {p1 p2 q0 q1 q2 q3 q4 q5 q6 q7 q8 q9 : Pos}
    (ty : PySem.W.typeIn K (.ref fI) = some (.type "function")) (l : K.lookup fI = some ⟨kF, dF, .func fd, sF⟩) (h1 : fd.params = eA fl p1 p2) (h2 : fd.body = .stmts (eB fl q0 q1 q2 q3 q4 q5 q6 q7 q8 q9)) (h3 : fd.scope.kind = .function) (h4 : ∀ x ∈ fd.scope.names, x.2 ≠ .cell)
    (h5 : fd.scope.names.lookup ("self" : Str) = some .local) (h6 : fd.scope.names.lookup fl = some .local) (h7 : fd.scope.names.lookup ("super" : Str) = some .globalImplicit) (h8 : fd.scope.names.lookup ("__class__" : Str) = some .free) (h9 : fd.scope.isCoroutine = false)
    (h10 : fd.scope.isGenerator = false) (h11 : fd.globals = mainGlobals) (h12 : fd.builtins = builtinsNs) (h13 : fd.closure = [(("__class__" : Str), cc)]) (lc : K.lookup cc = some ⟨kc, dc, .cell (some (.ref D)), sc⟩) (h14 : fd.code = .ref co) (lk : K.lookup co = some ⟨ko, dk, .fields vs, sk⟩)
    (h15 : vs[2]? = some (.str file tf)) (h16 : ((Pg.main.file : Str) == file) = true) (h17 : PySem.W.codeIn K fd.code fd.qualname = true) (h18 : (q2.endLine == q4.line) = true) (h19 : ∀ u v : Value, bindArgs fd ⟨[u, v], []⟩ = pure [(("self" : Str), u), (fl, v)]) : InitRow fl Pg K D fI :=
  ⟨ty, fd, _, cc, _, co, _, vs, file, tf, p1, p2, q0, q1, q2, q3, q4, q5, q6, q7, q8, q9, l, rfl, h1, h2, h3, h4, h5, h6, h7, h8, h9, h10, h11, h12, h13, lc, rfl, h14, lk, rfl, h15, h16, h17, h18, h19⟩
theorem err_mk {fl : Str} {Pg : Program} {K : Fg} {mg : Str → Option Value} {x : Str} {C D c0 fI : Addr} {nm q : Str} {N : Addr} {bs bm : List Value} {sn : List Str} {sub : List Value} {ab : Bool} {col : Option Bool} {dd : Option Addr} {k0 k1 k2 k3 k5 : Option Value}
    {kD kE : Value} {dD dE : Option Addr} {sD sE : Array (Option Value)} {cdD cd0 : ClassData} (cl : ClsRow K mg x [fl] C) {y : Str} {fs0 : List Str} (cl0 : ClsRow K mg y fs0 c0) (flo : fl = "reason" ∨ fl = "at" ∨ fl = "line") (I : InitRow fl Pg K D fI) (top : (Pg.main.scope.names.lookup ("super" : Str)).isSome = false)
    (xL : K.lookup C = some (excClassObj nm q C N bs bm true sn sub ab col dd k0 k1 k2 k3 k5 "ValueError.__new__")) (hb : PySem.HandSPX.refsVE bm = true) (xD : K.lookup D = some ⟨kD, dD, .cls cdD, sD⟩) (x0 : K.lookup c0 = some ⟨kE, dE, .cls cd0, sE⟩)
    (hm : ((Value.ref C :: bm).dropWhile (· != .ref D)).drop 1 = cd0.mro) (f0 : PySem.W.findIn K (.ref c0) "__init__" = some (some (.builtin "ValueError.__init__"))) (sD1 : PySem.W.subIn K (.ref C) (.ref D) = some true) (sV : PySem.W.subIn K (.ref C) (.type "ValueError") = some true)
    (op : PySem.W.nsIn K cStatics "thirdparty.any" = some none) (sa : PySem.W.findIn K (.ref C) "__setattr__" = some (some (.builtin "object.__setattr__"))) (iC : PySem.W.findIn K (.ref C) "__init__" = some (some (.ref fI))) (kC : PySem.W.keepIn K (.ref C) = true) : ErrTxt fl Pg K C D fI :=
  ⟨⟨nm, q, N, bs, bm, sn, sub, ab, col, dd, k0, k1, k2, k3, k5, xL, hb⟩, ⟨_, cdD, xD, rfl⟩, sD1, sV, op, super_of xL x0 hm f0, sa, cl.xf.ga, cl.xf.gg, cl.no.1, iC, I.ty, kC, cl.xf.exC, cl.typ, cl.xf.hdC, flo, top, I.fn⟩
end PX
end
section
set_option autoImplicit false
set_option maxRecDepth 100000
namespace K30
open PX
/-- 0: is_integer(value); slots value -/
def b_is_integer : S := (.ret (.and_ (.isi .int (.var 0)) (.not_ (.isi .bool (.var 0)))))
abbrev i_is_integer : Nat := 0
/-- 1: in_range(value, least, most); slots value least most -/
def b_in_range : S := (.ret (.and_ (.call 0 (.cons (.var 0) .nil)) (.chain .le .le (.var 1) (.var 0) (.var 2))))
abbrev i_in_range : Nat := 1
/-- 2: demand_text(text); slots text -/
def b_demand_text : S := (.if_ (.or_ (.not_ (.isi .str (.var 0))) (.cmp .gt (.p1 .len (.var 0)) (.con 1)))
(.rai 3 (.cons (.lit (.int 0)) .nil))
.nop)
abbrev i_demand_text : Nat := 2
/-- 3: tokens_of(text); slots text found at sign end kind value size -/
def b_tokens_of : S := (.seq (.setP [(1, .own), (2, .val)] (.cons (.lst .nil) (.cons (.lit (.int 0)) .nil)))
(.seq (.whl (.cmp .lt (.var 2) (.p1 .len (.var 0)))
(.seq (.set 3 .val (.idx (.var 0) (.var 2)))
(.if_ (.cmp .inn (.var 3) (.lit (.str [32, 10])))
(.aug 2 .add (.lit (.int 1)))
(.if_ (.cmp .eq (.var 3) (.lit (.str (T "#"))))
(.seq (.set 4 .val (.find (.var 0) (.lit (.str [10])) (.var 2)))
(.set 2 .val (.ite (.cmp .lt (.var 4) (.lit (.int 0))) (.p1 .len (.var 0)) (.var 4))))
(.seq (.unp [5, 6, 7] (.call 4 (.cons (.var 0) (.cons (.var 2) .nil))))
(.seq (.app 1 (.tup (.cons (.var 5) (.cons (.var 6) (.cons (.var 2) .nil)))))
(.aug 2 .add (.var 7))))))))
(.seq (.frz 1)
(.ret (.var 1)))))
abbrev i_tokens_of : Nat := 3
/-- 4: token_at(text, at); slots text at sign end own -/
def b_token_at : S := (.seq (.set 2 .val (.idx (.var 0) (.var 1)))
(.seq (.if_ (.or_ (.cmp .inn (.var 2) (.con 2)) (.cmp .inn (.var 2) (.con 3)))
(.seq (.set 3 .val (.call 5 (.cons (.var 0) (.cons (.var 1) (.cons (.con 6) .nil)))))
(.seq (.if_ (.cmp .gt (.bin .sub (.var 3) (.var 1)) (.lit (.int 12)))
(.rai 3 (.cons (.var 1) .nil))
.nop)
(.ret (.tup (.cons (.ite (.cmp .inn (.var 2) (.con 2)) (.lit (.str (T "word"))) (.lit (.str (T "var")))) (.cons (.slc (.var 0) (.var 1) (.var 3)) (.cons (.bin .sub (.var 3) (.var 1)) .nil)))))))
.nop)
(.seq (.if_ (.or_ (.cmp .inn (.var 2) (.con 4)) (.and_ (.cmp .eq (.var 2) (.lit (.str (T "-")))) (.cmp .inn (.slc (.var 0) (.bin .add (.var 1) (.lit (.int 1))) (.bin .add (.var 1) (.lit (.int 2)))) (.p1 .tuple (.con 4)))))
(.ret (.call 6 (.cons (.var 0) (.cons (.var 1) .nil))))
.nop)
(.seq (.for_ (.one 4) (.con 5)
(.if_ (.cmp .eq (.slc (.var 0) (.var 1) (.bin .add (.var 1) (.p1 .len (.var 4)))) (.var 4))
(.ret (.tup (.cons (.lit (.str (T "sign"))) (.cons (.var 4) (.cons (.p1 .len (.var 4)) .nil)))))
.nop))
(.rai 3 (.cons (.var 1) .nil))))))
abbrev i_token_at : Nat := 4
/-- 5: end_of(text, at, signs); slots text at signs -/
def b_end_of : S := (.seq (.whl (.and_ (.cmp .lt (.var 1) (.p1 .len (.var 0))) (.cmp .inn (.idx (.var 0) (.var 1)) (.var 2)))
(.aug 1 .add (.lit (.int 1))))
(.ret (.var 1)))
abbrev i_end_of : Nat := 5
/-- 6: number_at(text, at); slots text at begin end row number -/
def b_number_at : S := (.seq (.set 2 .val (.ite (.cmp .eq (.idx (.var 0) (.var 1)) (.lit (.str (T "-")))) (.bin .add (.var 1) (.lit (.int 1))) (.var 1)))
(.seq (.set 3 .val (.call 5 (.cons (.var 0) (.cons (.var 2) (.cons (.con 4) .nil)))))
(.seq (.set 4 .val (.slc (.var 0) (.var 2) (.var 3)))
(.seq (.if_ (.or_ (.cmp .gt (.p1 .len (.var 4)) (.lit (.int 7))) (.and_ (.cmp .eq (.idx (.var 4) (.lit (.int 0))) (.lit (.str (T "0")))) (.or_ (.cmp .gt (.p1 .len (.var 4)) (.lit (.int 1))) (.cmp .gt (.var 2) (.var 1)))))
(.rai 3 (.cons (.var 1) .nil))
.nop)
(.seq (.set 5 .val (.p1 .int (.slc (.var 0) (.var 1) (.var 3))))
(.seq (.if_ (.or_ (.cmp .gt (.p1 .abs (.var 5)) (.con 0)) (.and_ (.cmp .lt (.var 3) (.p1 .len (.var 0))) (.cmp .inn (.idx (.var 0) (.var 3)) (.con 6))))
(.rai 3 (.cons (.var 1) .nil))
.nop)
(.ret (.tup (.cons (.lit (.str (T "num"))) (.cons (.var 5) (.cons (.bin .sub (.var 3) (.var 1)) .nil)))))))))))
abbrev i_number_at : Nat := 6
/-- 7: tokens(text); slots text -/
def b_tokens : S := (.seq (.expr (.call 2 (.cons (.var 0) .nil)))
(.ret (.p1 .tuple (.call 3 (.cons (.var 0) .nil)))))
abbrev i_tokens : Nat := 7
/-- 8: token_text(token); slots token -/
def b_token_text : S := (.ret (.p1 .str (.idx (.var 0) (.lit (.int 1)))))
abbrev i_token_text : Nat := 8
/-- 9: spaced(rows); slots rows one -/
def b_spaced : S := (.seq (.if_ (.or_ (.not_ (.isi .tuple (.var 0))) (.not_ (.p1 .all (.lc (.call 10 (.cons (.var 1) .nil)) (.one 1) (.var 0) .nil))))
(.rai 2 (.cons (.lit (.str (T "rows"))) .nil))
.nop)
(.ret (.p2 .join (.lit (.str (T " "))) (.lc (.call 8 (.cons (.var 1) .nil)) (.one 1) (.var 0) .nil))))
abbrev i_spaced : Nat := 9
/-- 10: is_token(value); slots value kind own sign -/
def b_is_token : S := (.seq (.if_ (.or_ (.not_ (.isi .tuple (.var 0))) (.cmp .ne (.p1 .len (.var 0)) (.lit (.int 2))))
(.ret (.lit (.bl false)))
.nop)
(.seq (.unp [1, 2] (.var 0))
(.seq (.if_ (.cmp .eq (.var 1) (.lit (.str (T "num"))))
(.ret (.call 1 (.cons (.var 2) (.cons (.bin .sub (.lit (.int 0)) (.con 0)) (.cons (.con 0) .nil)))))
.nop)
(.seq (.if_ (.cmp .eq (.var 1) (.lit (.str (T "sign"))))
(.ret (.and_ (.isi .str (.var 2)) (.cmp .inn (.var 2) (.con 5))))
.nop)
(.seq (.if_ (.or_ (.cmp .nin (.var 1) (.tup (.cons (.lit (.str (T "word"))) (.cons (.lit (.str (T "var"))) .nil)))) (.or_ (.not_ (.isi .str (.var 2))) (.not_ (.chain .le .le (.lit (.int 1)) (.p1 .len (.var 2)) (.lit (.int 12))))))
(.ret (.lit (.bl false)))
.nop)
(.ret (.and_ (.cmp .inn (.idx (.var 2) (.lit (.int 0))) (.ite (.cmp .eq (.var 1) (.lit (.str (T "word")))) (.con 2) (.con 3))) (.p1 .all (.lc (.cmp .inn (.var 3) (.con 6)) (.one 3) (.var 2) .nil)))))))))
abbrev i_is_token : Nat := 10
/-- 11: spot(text, at); slots text at ahead -/
def b_spot : S := (.seq (.expr (.call 2 (.cons (.var 0) .nil)))
(.seq (.if_ (.not_ (.call 1 (.cons (.var 1) (.cons (.lit (.int 0)) (.cons (.p1 .len (.var 0)) .nil)))))
(.rai 2 (.cons (.lit (.str (T "at"))) .nil))
.nop)
(.seq (.set 2 .val (.p2 .split (.slc (.var 0) (.lit .non) (.var 1)) (.lit (.str [10]))))
(.ret (.tup (.cons (.p1 .len (.var 2)) (.cons (.bin .add (.p1 .len (.idx (.var 2) (.neg (.lit (.int 1))))) (.lit (.int 1))) .nil)))))))
abbrev i_spot : Nat := 11
/-- 12: _law_draws(script); slots script draws cell rest k mixed -/
def b_law_draws : S := (.seq (.set 1 .own (.lst .nil))
(.seq (.for_ (.one 2) (.slc (.var 0) (.lit .non) (.lit (.int 63)))
(.seq (.set 3 .val (.p1 .abs (.var 2)))
(.if_ (.cmp .ge (.var 3) (.bin .pow (.lit (.int 10)) (.lit (.int 18))))
(.for_ (.one 4) (.p1 .range (.lit (.int 60)))
(.if_ (.cmp .gt (.var 3) (.lit (.int 0)))
(.seq (.app 1 (.bin .mod (.p1 .int (.var 3)) (.lit (.int 1009))))
(.set 3 .val (.bin .fdiv (.var 3) (.lit (.int 1009)))))
.nop))
(.seq (.set 5 .val (.bin .mod (.p1 .int (.bin .add (.bin .mul (.var 3) (.lit (.int 48271))) (.lit (.int 11)))) (.lit (.int 2147483647))))
(.for_ (.one 4) (.p1 .range (.lit (.int 12)))
(.seq (.set 5 .val (.bin .mod (.p1 .int (.bin .add (.bin .add (.bin .mul (.var 5) (.lit (.int 16807))) (.bin .mul (.lit (.int 69621)) (.var 4))) (.lit (.int 5)))) (.lit (.int 2147483629))))
(.app 1 (.bin .fdiv (.var 5) (.lit (.int 1009))))))))))
(.seq (.frz 1)
(.ret (.var 1)))))
abbrev i_law_draws : Nat := 12
/-- 13: _law_more(draws, place); slots draws place mixed k -/
def b_law_more : S := (.seq (.set 2 .val (.bin .mod (.p1 .int (.bin .add (.bin .add (.bin .mul (.var 1) (.lit (.int 48271))) (.p1 .len (.var 0))) (.lit (.int 11)))) (.lit (.int 2147483629))))
(.seq (.for_ (.one 3) (.p1 .range (.lit (.int 3)))
(.seq (.if_ (.var 0)
(.set 2 .val (.bin .add (.var 2) (.idx (.var 0) (.bin .mod (.p1 .int (.bin .add (.bin .mul (.var 1) (.bin .add (.var 3) (.lit (.int 5)))) (.var 3))) (.p1 .len (.var 0))))))
.nop)
(.set 2 .val (.bin .mod (.p1 .int (.bin .add (.bin .add (.bin .mul (.var 2) (.lit (.int 16807))) (.bin .mul (.lit (.int 69621)) (.var 3))) (.lit (.int 5)))) (.lit (.int 2147483629))))))
(.ret (.bin .fdiv (.var 2) (.lit (.int 1009))))))
abbrev i_law_more : Nat := 13
/-- 14: _law_take(draws, at, many); slots draws at many place -/
def b_law_take : S := (.seq (.set 3 .val (.idx (.var 1) (.lit (.int 0))))
(.seq (.putR (.var 1) (.lit (.int 0)) (.bin .add (.var 3) (.lit (.int 1))))
(.ret (.bin .mod (.p1 .int (.ite (.cmp .lt (.var 3) (.p1 .len (.var 0))) (.idx (.var 0) (.var 3)) (.call 13 (.cons (.var 0) (.cons (.var 3) .nil))))) (.var 2)))))
abbrev i_law_take : Nat := 14
/-- 15: _law_one(rows, draws, at); slots rows draws at -/
def b_law_one : S := (.ret (.idx (.var 0) (.call 14 (.cons (.var 1) (.cons (.var 2) (.cons (.p1 .len (.var 0)) .nil))))))
abbrev i_law_one : Nat := 15
/-- 16: _law_told(call, one, two); slots call one two e -/
def b_law_told : S := (.try_ (.ret (.ite (.cmp .eq (.var 0) (.lit (.int 0))) (.call 7 (.cons (.var 1) .nil)) (.ite (.cmp .eq (.var 0) (.lit (.int 1))) (.call 9 (.cons (.var 1) .nil)) (.call 11 (.cons (.var 1) (.cons (.var 2) .nil)))))) [(2, (.ifIs 0 (.tup2 (.lit (.str (T "argument"))) (.fld 0)) (.lit (.str (T ""))))), (3, (.tup2 (.lit (.str (T "at"))) (.fld 0)))])
abbrev i_law_told : Nat := 16
/-- 17: _law_inner(sign); slots sign -/
def b_law_inner : S := (.ret (.or_ (.chain .le .le (.lit (.str (T "a"))) (.var 0) (.lit (.str (T "z")))) (.or_ (.chain .le .le (.lit (.str (T "A"))) (.var 0) (.lit (.str (T "Z")))) (.or_ (.chain .le .le (.lit (.str (T "0"))) (.var 0) (.lit (.str (T "9")))) (.cmp .eq (.var 0) (.lit (.str (T "_"))))))))
abbrev i_law_inner : Nat := 17
/-- 18: _law_row(text, begin, digits); slots text begin digits end sign -/
def b_law_row : S := (.seq (.set 3 .val (.var 1))
(.seq (.for_ (.one 4) (.slc (.var 0) (.var 1) (.lit .non))
(.seq (.if_ (.not_ (.ite (.var 2) (.chain .le .le (.lit (.str (T "0"))) (.var 4) (.lit (.str (T "9")))) (.call 17 (.cons (.var 4) .nil))))
(.ret (.var 3))
.nop)
(.set 3 .val (.bin .add (.var 3) (.lit (.int 1))))))
(.ret (.var 3))))
abbrev i_law_row : Nat := 18
/-- 19: _law_number(text, k); slots text k begin end row -/
def b_law_number : S := (.seq (.set 2 .val (.ite (.cmp .eq (.idx (.var 0) (.var 1)) (.lit (.str (T "-")))) (.bin .add (.var 1) (.lit (.int 1))) (.var 1)))
(.seq (.set 3 .val (.call 18 (.cons (.var 0) (.cons (.var 2) (.cons (.lit (.bl true)) .nil)))))
(.seq (.set 4 .val (.slc (.var 0) (.var 2) (.var 3)))
(.seq (.if_ (.or_ (.cmp .eq (.var 4) (.lit (.str (T "")))) (.or_ (.cmp .ne (.p1 .str (.p1 .int (.var 4))) (.var 4)) (.or_ (.and_ (.cmp .eq (.var 4) (.lit (.str (T "0")))) (.cmp .gt (.var 2) (.var 1))) (.cmp .gt (.p1 .int (.var 4)) (.lit (.int 1000000))))))
(.ret (.lit .non))
.nop)
(.ret (.ite (.and_ (.cmp .lt (.var 3) (.p1 .len (.var 0))) (.call 17 (.cons (.idx (.var 0) (.var 3)) .nil))) (.lit .non) (.tup (.cons (.tup (.cons (.lit (.str (T "num"))) (.cons (.p1 .int (.slc (.var 0) (.var 1) (.var 3))) (.cons (.var 1) .nil)))) (.cons (.var 3) .nil)))))))))
abbrev i_law_number : Nat := 19
/-- 20: _law_read(text); slots text found k turn sign own end rows part -/
def b_law_read : S := (.seq (.setP [(1, .val), (2, .val)] (.cons (.tup .nil) (.cons (.lit (.int 0)) .nil)))
(.seq (.for_ (.one 3) (.p1 .range (.bin .add (.p1 .len (.var 0)) (.lit (.int 1))))
(.seq (.if_ (.cmp .ge (.var 2) (.p1 .len (.var 0)))
(.ret (.var 1))
.nop)
(.seq (.setP [(4, .val), (5, .val)] (.cons (.idx (.var 0) (.var 2)) (.cons (.lit .non) .nil)))
(.if_ (.cmp .inn (.var 4) (.lit (.str [32, 10])))
(.set 2 .val (.bin .add (.var 2) (.lit (.int 1))))
(.if_ (.cmp .eq (.var 4) (.lit (.str (T "#"))))
(.set 2 .val (.bin .add (.var 2) (.p1 .len (.idx (.p2 .split (.slc (.var 0) (.var 2) (.lit .non)) (.lit (.str [10]))) (.lit (.int 0))))))
(.seq (.if_ (.or_ (.chain .le .le (.lit (.str (T "a"))) (.var 4) (.lit (.str (T "z")))) (.chain .le .le (.lit (.str (T "A"))) (.var 4) (.lit (.str (T "Z")))))
(.seq (.set 6 .val (.call 18 (.cons (.var 0) (.cons (.var 2) (.cons (.lit (.bl false)) .nil)))))
(.set 5 .val (.ite (.cmp .le (.bin .sub (.var 6) (.var 2)) (.lit (.int 12))) (.tup (.cons (.tup (.cons (.ite (.chain .le .le (.lit (.str (T "a"))) (.var 4) (.lit (.str (T "z")))) (.lit (.str (T "word"))) (.lit (.str (T "var")))) (.cons (.slc (.var 0) (.var 2) (.var 6)) (.cons (.var 2) .nil)))) (.cons (.var 6) .nil))) (.lit .non))))
(.if_ (.or_ (.chain .le .le (.lit (.str (T "0"))) (.var 4) (.lit (.str (T "9")))) (.and_ (.cmp .eq (.var 4) (.lit (.str (T "-")))) (.and_ (.chain .le .le (.lit (.str (T "0"))) (.slc (.var 0) (.bin .add (.var 2) (.lit (.int 1))) (.bin .add (.var 2) (.lit (.int 2)))) (.lit (.str (T "9")))) (.cmp .ne (.slc (.var 0) (.bin .add (.var 2) (.lit (.int 1))) (.bin .add (.var 2) (.lit (.int 2)))) (.lit (.str (T "")))))))
(.set 5 .val (.call 19 (.cons (.var 0) (.cons (.var 2) .nil))))
(.seq (.set 7 .val (.lc (.var 8) (.one 8) (.tup (.cons (.lit (.str (T ":-"))) (.cons (.lit (.str (T "!="))) (.cons (.lit (.str (T "<="))) (.cons (.lit (.str (T "("))) (.cons (.lit (.str (T ")"))) (.cons (.lit (.str (T ","))) (.cons (.lit (.str (T "."))) (.cons (.lit (.str (T "?"))) (.cons (.lit (.str (T "="))) (.cons (.lit (.str (T "<"))) .nil))))))))))) (.cons (.cmp .eq (.slc (.var 0) (.var 2) (.bin .add (.var 2) (.p1 .len (.var 8)))) (.var 8)) .nil)))
(.set 5 .val (.ite (.cmp .ne (.var 7) (.lst .nil)) (.tup (.cons (.tup (.cons (.lit (.str (T "sign"))) (.cons (.idx (.var 7) (.lit (.int 0))) (.cons (.var 2) .nil)))) (.cons (.bin .add (.var 2) (.p1 .len (.idx (.var 7) (.lit (.int 0))))) .nil))) (.lit .non))))))
(.seq (.if_ (.isN (.var 5))
(.ret (.var 2))
.nop)
(.setP [(1, .val), (2, .val)] (.cons (.bin .add (.var 1) (.tup (.cons (.idx (.var 5) (.lit (.int 0))) .nil))) (.cons (.idx (.var 5) (.lit (.int 1))) .nil))))))))))
(.ret (.var 1))))
abbrev i_law_read : Nat := 20
/-- 21: _law_token(draws, at); slots draws at words numbers kind word -/
def b_law_token : S := (.seq (.set 2 .val (.lst (.cons (.lit (.str (T "p"))) (.cons (.lit (.str (T "edge"))) (.cons (.lit (.str (T "a_1"))) (.cons (.lit (.str (T "zZ9"))) (.cons (.lit (.str (T "abcdefghijkl"))) (.cons (.lit (.str (T "not"))) (.cons (.lit (.str (T "rel"))) (.cons (.lit (.str (T "X"))) (.cons (.lit (.str (T "Y2"))) (.cons (.lit (.str (T "Long_Name12"))) .nil))))))))))))
(.seq (.set 3 .val (.lst (.cons (.lit (.int 0)) (.cons (.lit (.int 7)) (.cons (.neg (.lit (.int 3))) (.cons (.lit (.int 1000000)) (.cons (.neg (.lit (.int 1000000))) (.cons (.lit (.int 42)) .nil))))))))
(.seq (.set 4 .val (.call 14 (.cons (.var 0) (.cons (.var 1) (.cons (.lit (.int 4)) .nil)))))
(.seq (.if_ (.cmp .eq (.var 4) (.lit (.int 0)))
(.ret (.tup (.cons (.lit (.str (T "num"))) (.cons (.call 15 (.cons (.var 3) (.cons (.var 0) (.cons (.var 1) .nil)))) .nil))))
.nop)
(.seq (.if_ (.cmp .eq (.var 4) (.lit (.int 1)))
(.ret (.tup (.cons (.lit (.str (T "sign"))) (.cons (.call 15 (.cons (.lst (.cons (.lit (.str (T "("))) (.cons (.lit (.str (T ")"))) (.cons (.lit (.str (T ","))) (.cons (.lit (.str (T "."))) (.cons (.lit (.str (T "?"))) (.cons (.lit (.str (T ":-"))) (.cons (.lit (.str (T "="))) (.cons (.lit (.str (T "!="))) (.cons (.lit (.str (T "<"))) (.cons (.lit (.str (T "<="))) .nil))))))))))) (.cons (.var 0) (.cons (.var 1) .nil)))) .nil))))
.nop)
(.seq (.set 5 .val (.call 15 (.cons (.var 2) (.cons (.var 0) (.cons (.var 1) .nil)))))
(.ret (.tup (.cons (.ite (.chain .le .le (.lit (.str (T "a"))) (.idx (.var 5) (.lit (.int 0))) (.lit (.str (T "z")))) (.lit (.str (T "word"))) (.lit (.str (T "var")))) (.cons (.var 5) .nil))))))))))
abbrev i_law_token : Nat := 21
/-- 22: law(script); slots script draws at turn rows text due k token number more bent found lines odd bad told -/
def b_law : S := (.seq (.set 1 .val (.call 12 (.cons (.var 0) .nil)))
(.seq (.set 2 .hp (.lst (.cons (.lit (.int 0)) .nil)))
(.seq (.for_ (.one 3) (.p1 .range (.lit (.int 4)))
(.seq (.setP [(4, .val), (5, .val), (6, .val)] (.cons (.tup .nil) (.cons (.lit (.str (T ""))) (.cons (.tup .nil) .nil))))
(.seq (.for_ (.one 7) (.p1 .range (.call 14 (.cons (.var 1) (.cons (.var 2) (.cons (.lit (.int 9)) .nil)))))
(.seq (.set 8 .val (.call 21 (.cons (.var 1) (.cons (.var 2) .nil))))
(.seq (.set 5 .val (.bin .add (.var 5) (.call 15 (.cons (.lst (.cons (.lit (.str (T " "))) (.cons (.lit (.str (T "  "))) (.cons (.lit (.str [10])) (.cons (.lit (.str [32, 35, 32, 115, 111, 58, 32, 88, 33, 32, 10])) (.cons (.lit (.str [32, 10, 10])) .nil)))))) (.cons (.var 1) (.cons (.var 2) .nil))))))
(.seq (.setP [(4, .val), (6, .val)] (.cons (.bin .add (.var 4) (.tup (.cons (.var 8) .nil))) (.cons (.bin .add (.var 6) (.tup (.cons (.bin .add (.var 8) (.tup (.cons (.p1 .len (.var 5)) .nil))) .nil))) .nil)))
(.set 5 .val (.bin .add (.var 5) (.p1 .str (.idx (.var 8) (.lit (.int 1))))))))))
(.seq (.set 5 .val (.bin .add (.var 5) (.call 15 (.cons (.lst (.cons (.lit (.str (T ""))) (.cons (.lit (.str (T " "))) (.cons (.lit (.str (T "#"))) (.cons (.lit (.str [10])) (.cons (.lit (.str (T " # end"))) .nil)))))) (.cons (.var 1) (.cons (.var 2) .nil))))))
(.seq (.if_ (.or_ (.cmp .ne (.p1 .repr (.call 16 (.cons (.lit (.int 0)) (.cons (.var 5) (.cons (.lit .non) .nil))))) (.p1 .repr (.var 6))) (.cmp .ne (.call 16 (.cons (.lit (.int 1)) (.cons (.var 4) (.cons (.lit .non) .nil)))) (.p2 .join (.lit (.str (T " "))) (.lc (.p1 .str (.idx (.var 8) (.lit (.int 1)))) (.one 8) (.var 4) .nil))))
(.ret (.lit (.bl false)))
.nop)
(.seq (.for_ (.one 9) (.p1 .range (.lit (.int 5)))
(.seq (.set 7 .val (.call 14 (.cons (.var 1) (.cons (.var 2) (.cons (.bin .add (.p1 .len (.var 5)) (.lit (.int 1))) .nil)))))
(.seq (.set 10 .val (.call 15 (.cons (.lst (.cons (.lit (.str (T "-"))) (.cons (.lit (.str (T "0"))) (.cons (.lit (.str (T "_"))) (.cons (.lit (.str (T "A"))) (.cons (.lit (.str (T "b"))) (.cons (.lit (.str (T ":"))) (.cons (.lit (.str (T "!"))) (.cons (.lit (.str (T "<"))) (.cons (.lit (.str (T "="))) (.cons (.lit (.str (T "-1"))) (.cons (.lit (.str (T "'"))) (.cons (.lit (.str [9])) (.cons (.lit (.str (T "#"))) (.cons (.lit (.str (T "00"))) (.cons (.lit (.str (T "1000001"))) (.cons (.lit (.str (T "abcdefghijklm"))) .nil))))))))))))))))) (.cons (.var 1) (.cons (.var 2) .nil)))))
(.seq (.set 11 .val (.call 15 (.cons (.lstR (.bin .add (.bin .add (.slc (.var 5) (.lit .non) (.var 7)) (.var 10)) (.slc (.var 5) (.var 7) (.lit .non))) (.bin .add (.slc (.var 5) (.lit .non) (.var 7)) (.slc (.var 5) (.bin .add (.var 7) (.lit (.int 1))) (.lit .non))) (.cons (.strike (.var 5) 32) (.cons (.bin .add (.slc (.var 5) (.lit .non) (.var 7)) (.var 10)) .nil))) (.cons (.var 1) (.cons (.var 2) .nil)))))
(.seq (.set 12 .val (.call 20 (.cons (.var 11) .nil)))
(.if_ (.cmp .ne (.p1 .repr (.call 16 (.cons (.lit (.int 0)) (.cons (.var 11) (.cons (.lit .non) .nil))))) (.p1 .repr (.ite (.isi .int (.var 12)) (.tup (.cons (.lit (.str (T "at"))) (.cons (.var 12) .nil))) (.var 12))))
(.ret (.lit (.bl false)))
.nop))))))
(.seq (.set 7 .val (.call 14 (.cons (.var 1) (.cons (.var 2) (.cons (.bin .add (.p1 .len (.var 5)) (.lit (.int 1))) .nil)))))
(.seq (.set 13 .val (.p2 .split (.slc (.var 5) (.lit .non) (.var 7)) (.lit (.str [10]))))
(.if_ (.cmp .ne (.call 16 (.cons (.lit (.int 2)) (.cons (.var 5) (.cons (.var 7) .nil)))) (.tup (.cons (.p1 .len (.var 13)) (.cons (.bin .add (.p1 .len (.idx (.var 13) (.bin .sub (.p1 .len (.var 13)) (.lit (.int 1))))) (.lit (.int 1))) .nil))))
(.ret (.lit (.bl false)))
.nop)))))))))
(.seq (.set 14 .val (.call 15 (.cons (.lst (.cons (.lit .non) (.cons (.lit (.int 5)) (.cons (.tup (.cons (.lit (.str (T "p"))) .nil)) (.cons (.bin .mul (.lit (.str (T " "))) (.bin .add (.con 1) (.lit (.int 1)))) .nil))))) (.cons (.var 1) (.cons (.var 2) .nil)))))
(.seq (.set 15 .val (.call 15 (.cons (.lst (.cons (.lit .non) (.cons (.lst (.cons (.tup (.cons (.lit (.str (T "num"))) (.cons (.lit (.int 1)) .nil))) .nil)) (.cons (.tup (.cons (.lit (.int 5)) .nil)) (.cons (.tup (.cons (.tup (.cons (.lit (.str (T "num"))) (.cons (.lit (.bl true)) .nil))) .nil)) (.cons (.tup (.cons (.tup (.cons (.lit (.str (T "num"))) (.cons (.lit (.int 1000001)) .nil))) .nil)) (.cons (.tup (.cons (.tup (.cons (.lit (.str (T "word"))) (.cons (.lit (.str (T "X"))) .nil))) .nil)) (.cons (.tup (.cons (.tup (.cons (.lit (.str (T "var"))) (.cons (.lit (.str (T "x"))) .nil))) .nil)) (.cons (.tup (.cons (.tup (.cons (.lit (.str (T "sign"))) (.cons (.lit (.str (T ";"))) .nil))) .nil)) (.cons (.tup (.cons (.tup (.cons (.lit (.str (T "word"))) (.cons (.lit (.str (T ""))) .nil))) .nil)) (.cons (.tup (.cons (.tup (.cons (.lit (.str (T "end"))) (.cons (.lit .non) .nil))) .nil)) .nil))))))))))) (.cons (.var 1) (.cons (.var 2) .nil)))))
(.seq (.set 16 .val (.lst (.cons (.call 16 (.cons (.lit (.int 0)) (.cons (.var 14) (.cons (.lit .non) .nil)))) (.cons (.call 16 (.cons (.lit (.int 2)) (.cons (.var 14) (.cons (.lit (.int 0)) .nil)))) (.cons (.call 16 (.cons (.lit (.int 1)) (.cons (.var 15) (.cons (.lit .non) .nil)))) (.cons (.call 16 (.cons (.lit (.int 2)) (.cons (.var 5) (.cons (.call 15 (.cons (.lst (.cons (.neg (.lit (.int 1))) (.cons (.bin .add (.p1 .len (.var 5)) (.lit (.int 1))) (.cons (.lit .non) (.cons (.lit (.bl true)) .nil))))) (.cons (.var 1) (.cons (.var 2) .nil)))) .nil)))) .nil))))))
(.ret (.cmp .eq (.var 16) (.lst (.cons (.tup (.cons (.lit (.str (T "at"))) (.cons (.lit (.int 0)) .nil))) (.cons (.tup (.cons (.lit (.str (T "at"))) (.cons (.lit (.int 0)) .nil))) (.cons (.tup (.cons (.lit (.str (T "argument"))) (.cons (.lit (.str (T "rows"))) .nil))) (.cons (.tup (.cons (.lit (.str (T "argument"))) (.cons (.lit (.str (T "at"))) .nil))) .nil)))))))))))))
abbrev i_law : Nat := 22
def fns : List Fn := [⟨1, 1, true, false, b_is_integer⟩,
  ⟨3, 3, true, false, b_in_range⟩,
  ⟨1, 1, true, false, b_demand_text⟩,
  ⟨1, 8, true, false, b_tokens_of⟩,
  ⟨2, 5, true, false, b_token_at⟩,
  ⟨3, 3, true, false, b_end_of⟩,
  ⟨2, 6, true, false, b_number_at⟩,
  ⟨1, 1, true, false, b_tokens⟩,
  ⟨1, 1, true, false, b_token_text⟩,
  ⟨1, 2, true, false, b_spaced⟩,
  ⟨1, 4, true, false, b_is_token⟩,
  ⟨2, 3, true, false, b_spot⟩,
  ⟨1, 6, true, false, b_law_draws⟩,
  ⟨2, 4, true, false, b_law_more⟩,
  ⟨3, 4, false, false, b_law_take⟩,
  ⟨3, 3, false, false, b_law_one⟩,
  ⟨3, 4, true, false, b_law_told⟩,
  ⟨1, 1, true, false, b_law_inner⟩,
  ⟨3, 5, true, false, b_law_row⟩,
  ⟨2, 5, true, false, b_law_number⟩,
  ⟨1, 9, true, false, b_law_read⟩,
  ⟨2, 6, false, false, b_law_token⟩,
  ⟨1, 17, true, false, b_law⟩]
def names : List (List PySem.Str) := [["value"],
  ["value", "least", "most"],
  ["text"],
  ["text", "found", "at", "sign", "end", "kind", "value", "size"],
  ["text", "at", "sign", "end", "own"],
  ["text", "at", "signs"],
  ["text", "at", "begin", "end", "row", "number"],
  ["text"],
  ["token"],
  ["rows", "one"],
  ["value", "kind", "own", "sign"],
  ["text", "at", "ahead"],
  ["script", "draws", "cell", "rest", "k", "mixed"],
  ["draws", "place", "mixed", "k"],
  ["draws", "at", "many", "place"],
  ["rows", "draws", "at"],
  ["call", "one", "two", "e"],
  ["sign"],
  ["text", "begin", "digits", "end", "sign"],
  ["text", "k", "begin", "end", "row"],
  ["text", "found", "k", "turn", "sign", "own", "end", "rows", "part"],
  ["draws", "at", "words", "numbers", "kind", "word"],
  ["script", "draws", "at", "turn", "rows", "text", "due", "k", "token", "number", "more", "bent", "found", "lines", "odd", "bad", "told"]]
def fnN : List PySem.Str := ["is_integer", "in_range", "demand_text", "tokens_of", "token_at", "end_of", "number_at", "tokens", "token_text", "spaced", "is_token", "spot", "_law_draws", "_law_more", "_law_take", "_law_one", "_law_told", "_law_inner", "_law_row", "_law_number", "_law_read", "_law_token", "law"]
def clN : List PySem.Str := ["FactsError", "ReasonError", "ArgumentError", "TextError"]
def cnN : List PySem.Str := ["MAX_NUMBER", "MAX_TEXT", "SMALL", "GREAT", "DIGITS", "SIGNS", "INNER"]
def flN : List (List PySem.Str) := [[], ["reason"], ["reason"], ["at"]]
def raised : List Nat := [2, 3]
def pars : List Nat := [1, 3, 1, 1, 2, 3, 2, 1, 1, 1, 1, 2, 1, 2, 3, 3, 3, 1, 3, 2, 1, 2, 1]
def tops : List Nat := [6, 7, 16, 17, 18, 19, 20, 21, 22, 23, 24, 25, 27, 28, 29, 30, 31, 32, 33, 34, 35, 36, 37]
def cons : List D := [(.int 1000000), (.int 8000), (.str (T "abcdefghijklmnopqrstuvwxyz")), (.str (T "ABCDEFGHIJKLMNOPQRSTUVWXYZ")), (.str (T "0123456789")), (.tup [(.str (T ":-")), (.str (T "!=")), (.str (T "<=")), (.str (T "(")), (.str (T ")")), (.str (T ",")), (.str (T ".")), (.str (T "?")), (.str (T "=")), (.str (T "<"))]), (.str (T "abcdefghijklmnopqrstuvwxyzABCDEFGHIJKLMNOPQRSTUVWXYZ0123456789_"))]
def supers : List (List Nat) := [[0], [1, 0], [2, 1, 0], [3, 0]]
def sub (a b : Nat) : Bool := (supers.getD a []).contains b
def prog : Pr := ⟨cons, fns, sub, 100000⟩
end K30
end
section
set_option Elab.async false
set_option linter.all false
set_option maxRecDepth 100000
set_option autoImplicit false
set_option maxHeartbeats 2000000
/-! PLa: plain laws of the interpreter: loops by invariants; the helpers that all laws' texts share. -/
namespace PX
/-- a loop by an invariant that counts -/
theorem forL_inv {f : D → Sl → G → Fl} {I : Nat → Sl → G → Prop} : ∀ (xs : List D) (k : Nat) {s : Sl} {g : G}, (∀ i x s g, xs[i]? = some x → I (k + i) s g → ∃ s' g', f x s g = .nx s' g' ∧ I (k + i + 1) s' g') → I k s g →
    ∃ s' g', forL f xs s g = .nx s' g' ∧ I (k + xs.length) s' g'
  | [], k, s, g, _, h => ⟨s, g, rfl, h⟩
  | x :: xs, k, s, g, hs, h => by
    obtain ⟨s1, g1, e1, h1⟩ := hs 0 x s g rfl h
    have e0 : k + 0 + 1 = k + 1 := rfl
    obtain ⟨s2, g2, e2, h2⟩ := forL_inv xs (k + 1) (s := s1) (g := g1) (fun i y s g hy hi => by
      have := hs (i + 1) y s g (by simpa using hy) (by rw [show k + (i + 1) = k + 1 + i by omega]; exact hi)
      rw [show k + (i + 1) + 1 = k + 1 + i + 1 by omega] at this
      exact this) h1
    refine ⟨s2, g2, ?_, ?_⟩
    · show (f x s g).bind _ = _
      rw [e1]; exact e2
    · rw [show k + (x :: xs).length = k + 1 + xs.length by simp; omega]
      exact h2
/-- a loop that changes nothing but the slots by a step -/
theorem forL_all {f : D → Sl → G → Fl} {I : Sl → G → Prop} {xs : List D} {s : Sl} {g : G} (hs : ∀ x ∈ xs, ∀ s g, I s g → ∃ s' g', f x s g = .nx s' g' ∧ I s' g') (h : I s g) : ∃ s' g', forL f xs s g = .nx s' g' ∧ I s' g' := by
  obtain ⟨s', g', e, h'⟩ := forL_inv (I := fun _ => I) xs 0 (fun i x s g hx hi => hs x (List.mem_of_getElem? hx) s g hi) h
  exact ⟨s', g', e, h'⟩
/-- a comprehension that makes no change -/
theorem compL_pure {f : D → G → R (Option D)} {h : D → Option D} {g : G} : ∀ (xs : List D) (acc : List D), (∀ x ∈ xs, f x g = .ok (h x) g) → compL f xs acc g = .ok (acc ++ xs.filterMap h) g
  | [], acc, _ => by rw [List.filterMap_nil, List.append_nil]; rfl
  | x :: xs, acc, hx => by
    have e : f x g = .ok (h x) g := hx x List.mem_cons_self
    have ih := fun acc => compL_pure xs acc fun y hy => hx y (List.mem_cons_of_mem _ hy)
    show (noExc (f x g)).bind _ = _
    rw [e]
    show (match h x with
      | some d => compL f xs (acc ++ [d]) g
      | none => compL f xs acc g) = _
    cases q : h x with
    | none => simp only [List.filterMap_cons, q]; exact ih acc
    | some d =>
      simp only [List.filterMap_cons, q]
      rw [ih (acc ++ [d])]
      simp
/-- a comprehension by what each item may give; the heap may change -/
theorem compL_inv {f : D → G → R (Option D)} {I : G → Prop} {V : D → Prop} : ∀ (xs : List D) (acc : List D) {g : G}, (∀ x ∈ xs, ∀ g, I g → ∃ o g', f x g = .ok o g' ∧ I g' ∧ ∀ d, o = some d → V d) → I g → (∀ d ∈ acc, V d) →
    ∃ ds g', compL f xs acc g = .ok ds g' ∧ I g' ∧ (∀ d ∈ ds, V d) ∧ ds.length ≤ acc.length + xs.length
  | [], acc, g, _, hg, ha => ⟨acc, g, rfl, hg, ha, by simp⟩
  | x :: xs, acc, g, hx, hg, ha => by
    obtain ⟨o, g1, e1, h1, v1⟩ := hx x List.mem_cons_self g hg
    cases o with
    | none =>
      obtain ⟨ds, g2, e2, h2, v2, l2⟩ := compL_inv xs acc (g := g1) (fun y hy => hx y (List.mem_cons_of_mem _ hy)) h1 ha
      refine ⟨ds, g2, ?_, h2, v2, by simp; omega⟩
      show (noExc (f x g)).bind _ = _
      rw [e1]; exact e2
    | some d =>
      obtain ⟨ds, g2, e2, h2, v2, l2⟩ := compL_inv xs (acc ++ [d]) (g := g1) (fun y hy => hx y (List.mem_cons_of_mem _ hy)) h1 (fun z hz => by
        rcases List.mem_append.mp hz with q | q
        · exact ha z q
        · rw [List.mem_singleton.mp q]; exact v1 d rfl)
      refine ⟨ds, g2, ?_, h2, v2, by simp at l2 ⊢; omega⟩
      show (noExc (f x g)).bind _ = _
      rw [e1]; exact e2
end PX
end
section
set_option Elab.async false
set_option linter.all false
set_option maxRecDepth 100000
set_option autoImplicit false
set_option maxHeartbeats 2000000
/-! PLc: evaluation, one lemma per construct (to be applied backwards). -/
namespace PX
section
variable {cons : List D} {sub : Nat → Nat → Bool} {W : Nat} {F : Nat → List D → G → R D} {s s1 s2 : Sl} {g g1 g2 g3 : G} {a b c : E} {x y z x' y' z' : D} {i : Nat} {k k1 k2 : Bool}
theorem v_lit {d : D} : ev cons F (.lit d) .val s g = .ok d g := rfl
theorem v_var (h : s[i]? = some (.val x)) : ev cons F (.var i) .val s g = .ok x g := by
  show R.ofO g (look s i) = _
  unfold look
  rw [h]
  rfl
theorem v_bor (h : s[i]? = some (.own x)) : ev cons F (.bor i) .val s g = .ok x g := by
  show R.ofO g (lookO s i) = _
  unfold lookO
  rw [h]
  rfl
theorem v_bin {o : Bop} (ha : ev cons F a .val s g = .ok x g1) (hb : ev cons F b .val s g1 = .ok y g2) (dx : deref g2 x = some x') (dy : deref g2 y = some y') (h : bop o x' y' = some z) : ev cons F (.bin o a b) .val s g = .ok z g2 := by
  show (ev cons F a .val s g).bind _ = _
  rw [ha]
  show (ev cons F b .val s g1).bind _ = _
  rw [hb]
  show R.ofO g2 ((deref g2 x).bind fun x => (deref g2 y).bind fun y => bop o x y) = _
  rw [dx, dy]
  show R.ofO g2 (bop o x' y') = _
  rw [h]
  rfl
theorem v_cmp {o : Cop} (ha : ev cons F a .val s g = .ok x g1) (hb : ev cons F b .val s g1 = .ok y g2) (dx : deref g2 x = some x') (dy : deref g2 y = some y') (h : cop o x' y' = some k) : ev cons F (.cmp o a b) .val s g = .ok (.bl k) g2 := by
  show (ev cons F a .val s g).bind _ = _
  rw [ha]
  show (ev cons F b .val s g1).bind _ = _
  rw [hb]
  show R.ofO g2 ((deref g2 x).bind fun x => (deref g2 y).bind fun y => (cop o x y).map D.bl) = _
  rw [dx, dy]
  show R.ofO g2 ((cop o x' y').map D.bl) = _
  rw [h]
  rfl
theorem v_idx (ha : ev cons F a .val s g = .ok x g1) (hb : ev cons F b .val s g1 = .ok y g2) (dx : deref g2 x = some x') (h : idx x' y = some z) : ev cons F (.idx a b) .val s g = .ok z g2 := by
  show (ev cons F a .val s g).bind _ = _
  rw [ha]
  show (ev cons F b .val s g1).bind _ = _
  rw [hb]
  show R.ofO g2 ((deref g2 x).bind fun x => idx x y) = _
  rw [dx]
  show R.ofO g2 (idx x' y) = _
  rw [h]
  rfl
theorem v_p1 {p : P1} (hp : p ≠ .enum) (ha : ev cons F a .val s g = .ok x g1) (dx : deref g1 x = some x') (h : prim1 p x' = some z) : ev cons F (.p1 p a) .val s g = .ok z g1 := by
  show (ev cons F a .val s g).bind _ = _
  rw [ha]
  have e : app1 p g1 x = some z := by
    have : app1 p g1 x = at1 g1 x (prim1 p) := by cases p <;> first | rfl | exact absurd rfl hp
    rw [this]
    show (deref g1 x).bind _ = _
    rw [dx]
    exact h
  show R.ofO g1 (app1 p g1 x) = _
  rw [e]
  rfl
theorem v_enum (ha : ev cons F a .val s g = .ok x g1) (h : prim1 .enum x = some z) : ev cons F (.p1 .enum a) .val s g = .ok z g1 := by
  show (ev cons F a .val s g).bind _ = _
  rw [ha]
  show R.ofO g1 (prim1 .enum x) = _
  rw [h]
  rfl
theorem v_isN (ha : ev cons F a .val s g = .ok x g1) : ev cons F (.isN a) .val s g = .ok (.bl (decide (x = .non))) g1 := by
  show (ev cons F a .val s g).bind _ = _
  rw [ha]
  rfl
theorem v_notN (ha : ev cons F a .val s g = .ok x g1) : ev cons F (.notN a) .val s g = .ok (.bl (!decide (x = .non))) g1 := by
  show (ev cons F a .val s g).bind _ = _
  rw [ha]
  rfl
theorem v_isi {t : Ty} (ha : ev cons F a .val s g = .ok x g1) (dx : deref g1 x = some x') : ev cons F (.isi t a) .val s g = .ok (.bl (isTy t x')) g1 := by
  show (ev cons F a .val s g).bind _ = _
  rw [ha]
  show R.ofO g1 ((deref g1 x).bind fun x => some (D.bl (isTy t x))) = _
  rw [dx]
  rfl
theorem v_rev (ha : ev cons F a .val s g = .ok x g1) (dx : deref g1 x = some x') (h : rev x' = some z) : ev cons F (.rev a) .val s g = .ok z g1 := by
  show (ev cons F a .val s g).bind _ = _
  rw [ha]
  show R.ofO g1 ((deref g1 x).bind rev) = _
  rw [dx]
  show R.ofO g1 (rev x') = _
  rw [h]
  rfl
theorem v_slc {lo hi : E} {l h : Option Int} (ha : ev cons F a .val s g = .ok x g1) (hl : ev cons F lo .val s g1 = .ok y g2) (bl : bd (isNon lo) y = some l) (hh : ev cons F hi .val s g2 = .ok z g3) (bh : bd (isNon hi) z = some h) (dx : deref g3 x = some x') (hs : slc x' l h = some z') :
    ev cons F (.slc a lo hi) .val s g = .ok z' g3 := by
  show (ev cons F a .val s g).bind _ = _
  rw [ha]
  show ((ev cons F lo .val s g1).bind fun d g => R.ofO g (bd (isNon lo) d)).bind _ = _
  rw [hl]
  show (R.ofO g2 (bd (isNon lo) y)).bind _ = _
  rw [bl]
  show ((ev cons F hi .val s g2).bind fun d g => R.ofO g (bd (isNon hi) d)).bind _ = _
  rw [hh]
  show (R.ofO g3 (bd (isNon hi) z)).bind _ = _
  rw [bh]
  show R.ofO g3 ((deref g3 x).bind fun x => slc x l h) = _
  rw [dx]
  show R.ofO g3 (slc x' l h) = _
  rw [hs]
  rfl
/-! tests -/
theorem q_fin (hb : ev cons F a .tst s g = fin .tst (ev cons F a .val s g)) (ha : ev cons F a .val s g = .ok x g1) (dx : deref g1 x = some x') (h : tru x' = some k) : ev cons F a .tst s g = .ok (.bl k) g1 := by
  rw [hb, ha]
  show R.ofO g1 (((deref g1 x).bind tru).map D.bl) = _
  rw [dx]
  show R.ofO g1 ((tru x').map D.bl) = _
  rw [h]
  rfl
theorem q_and (ha : ev cons F a .tst s g = .ok (.bl true) g1) (hb : ev cons F b .tst s g1 = .ok (.bl k) g2) : ev cons F (.and_ a b) .tst s g = .ok (.bl k) g2 := by
  show (ev cons F a .tst s g).bind _ = _
  rw [ha]
  simp [R.bind, hb]
theorem q_andF (ha : ev cons F a .tst s g = .ok (.bl false) g1) : ev cons F (.and_ a b) .tst s g = .ok (.bl false) g1 := by
  show (ev cons F a .tst s g).bind _ = _
  rw [ha]
  simp [R.bind]
theorem q_orT (ha : ev cons F a .tst s g = .ok (.bl true) g1) : ev cons F (.or_ a b) .tst s g = .ok (.bl true) g1 := by
  show (ev cons F a .tst s g).bind _ = _
  rw [ha]
  simp [R.bind]
theorem q_or (ha : ev cons F a .tst s g = .ok (.bl false) g1) (hb : ev cons F b .tst s g1 = .ok (.bl k) g2) : ev cons F (.or_ a b) .tst s g = .ok (.bl k) g2 := by
  show (ev cons F a .tst s g).bind _ = _
  rw [ha]
  simp [R.bind, hb]
theorem q_not (ha : ev cons F a .tst s g = .ok (.bl k) g1) : ev cons F (.not_ a) .tst s g = .ok (.bl (!k)) g1 := by
  show fin .tst ((ev cons F a .tst s g).bind _) = _
  rw [ha]
  rfl
theorem v_not (ha : ev cons F a .tst s g = .ok (.bl k) g1) : ev cons F (.not_ a) .val s g = .ok (.bl (!k)) g1 := by
  show ((ev cons F a .tst s g).bind _) = _
  rw [ha]
  rfl
theorem v_iteT (hc : ev cons F c .tst s g = .ok (.bl true) g1) (ha : ev cons F a .val s g1 = .ok x g2) : ev cons F (.ite c a b) .val s g = .ok x g2 := by
  show (ev cons F c .tst s g).bind _ = _
  rw [hc]
  simp [R.bind, ha]
theorem v_iteF (hc : ev cons F c .tst s g = .ok (.bl false) g1) (hb : ev cons F b .val s g1 = .ok x g2) : ev cons F (.ite c a b) .val s g = .ok x g2 := by
  show (ev cons F c .tst s g).bind _ = _
  rw [hc]
  simp [R.bind, hb]
theorem v_andT (ha : ev cons F a .val s g = .ok (.bl true) g1) (hb : ev cons F b .val s g1 = .ok x g2) : ev cons F (.and_ a b) .val s g = .ok x g2 := by
  show (ev cons F a .val s g).bind _ = _
  rw [ha]
  exact hb
theorem v_andF (ha : ev cons F a .val s g = .ok (.bl false) g1) : ev cons F (.and_ a b) .val s g = .ok (.bl false) g1 := by
  show (ev cons F a .val s g).bind _ = _
  rw [ha]
  rfl
theorem v_orT (ha : ev cons F a .val s g = .ok (.bl true) g1) : ev cons F (.or_ a b) .val s g = .ok (.bl true) g1 := by
  show (ev cons F a .val s g).bind _ = _
  rw [ha]
  rfl
theorem v_orF (ha : ev cons F a .val s g = .ok (.bl false) g1) (hb : ev cons F b .val s g1 = .ok x g2) : ev cons F (.or_ a b) .val s g = .ok x g2 := by
  show (ev cons F a .val s g).bind _ = _
  rw [ha]
  exact hb
/-! lists, calls -/
theorem vs_nil : evs cons F .nil s g = .ok [] g := rfl
theorem vs_cons {e : E} {es : Es} {ds : List D} (h : ev cons F e .val s g = .ok x g1) (hs : evs cons F es s g1 = .ok ds g2) : evs cons F (.cons e es) s g = .ok (x :: ds) g2 := by
  show (ev cons F e .val s g).bind _ = _
  rw [h]
  show (evs cons F es s g1).bind _ = _
  rw [hs]
  rfl
theorem v_tup {es : Es} {ds : List D} (h : evs cons F es s g = .ok ds g1) : ev cons F (.tup es) .val s g = .ok (.tup ds) g1 := by
  show (evs cons F es s g).bind _ = _
  rw [h]
  rfl
theorem v_lst {es : Es} {ds : List D} (h : evs cons F es s g = .ok ds g1) : ev cons F (.lst es) .val s g = .ok (.lst ds) g1 := by
  show (evs cons F es s g).bind _ = _
  rw [h]
  rfl
theorem v_call {f : Nat} {es : Es} {ds : List D} {r : R D} (h : evs cons F es s g = .ok ds g1) (hf : F f ds g1 = r) : ev cons F (.call f es) .val s g = r := by
  show (evs cons F es s g).bind _ = _
  rw [h]
  exact hf
theorem v_callB {f : Nat} {es : Es} {ds : List D} (h : evs cons F es s g = .ok ds g1) (hb : belows 0 ds = true) (hf : F f ds [] = .ok x g2) (hx : flat x = true) : ev cons F (.callB f es) .val s g = .ok x g1 := by
  show (evs cons F es s g).bind _ = _
  rw [h]
  show (if belows 0 ds = true then lent g1 (F f ds []) else .bad) = _
  rw [if_pos hb, hf]
  show (if flat x = true then R.ok x g1 else .bad) = _
  rw [if_pos hx]
end
end PX
end
section
set_option Elab.async false
set_option linter.all false
set_option maxRecDepth 100000
set_option autoImplicit false
set_option maxHeartbeats 2000000
/-! PLd: runs of statements, one lemma per construct. -/
namespace PX
section
variable {cons : List D} {sub : Nat → Nat → Bool} {W : Nat} {F : Nat → List D → G → R D} {s s1 s2 : Sl} {g g1 g2 g3 : G} {c e : E} {a b : S} {x y z : D} {i : Nat} {k : Bool} {r : Fl}
theorem x_seq (ha : exec cons sub W F a s g = .nx s1 g1) (hb : exec cons sub W F b s1 g1 = r) : exec cons sub W F (.seq a b) s g = r := by
  show (exec cons sub W F a s g).bind _ = _
  rw [ha]
  exact hb
theorem x_seqR {fr : Bool} {d : D} (ha : exec cons sub W F a s g = .ret fr d g1) : exec cons sub W F (.seq a b) s g = .ret fr d g1 := by
  show (exec cons sub W F a s g).bind _ = _
  rw [ha]
  rfl
theorem x_seqX {q : Ex} (ha : exec cons sub W F a s g = .exc q s1 g1) : exec cons sub W F (.seq a b) s g = .exc q s1 g1 := by
  show (exec cons sub W F a s g).bind _ = _
  rw [ha]
  rfl
theorem x_set (he : ev cons F e .val s g = .ok x g1) (hs : s.set i (.val x) = s1) : exec cons sub W F (.set i .val e) s g = .nx s1 g1 := by
  show lift s (ev cons F e .val s g) _ = _
  rw [he, ← hs]
  rfl
theorem x_setO (he : ev cons F e .val s g = .ok x g1) (hc : isCont x = true) (hs : s.set i (.own x) = s1) : exec cons sub W F (.set i .own e) s g = .nx s1 g1 := by
  show lift s (ev cons F e .val s g) _ = _
  rw [he, ← hs]
  show (if isCont x then Fl.nx (s.set i (.own x)) g1 else .bad) = _
  rw [if_pos hc]
theorem x_setH (he : ev cons F e .val s g = .ok x g1) (hc : isCont x = true) (hs : s.set i (.val (.ref g1.length)) = s1) : exec cons sub W F (.set i .hp e) s g = .nx s1 (g1 ++ [toPO x]) := by
  show lift s (ev cons F e .val s g) _ = _
  rw [he, ← hs]
  show (if isCont x then Fl.nx (s.set i (.val (.ref g1.length))) (g1 ++ [toPO x]) else .bad) = _
  rw [if_pos hc]
theorem x_frz (h : s[i]? = some (.own x)) (hs : s.set i (.val x) = s1) : exec cons sub W F (.frz i) s g = .nx s1 g := by
  show (match lookO s i with
    | some d => Fl.nx (s.set i (.val d)) g
    | none => .bad) = _
  unfold lookO
  rw [h, ← hs]
theorem x_app {xs : List D} (h : s[i]? = some (.own (.lst xs))) (he : ev cons F e .val s g = .ok x g1) (hl : xs.length < LIM) (hs : s.set i (.own (.lst (xs ++ [x]))) = s1) : exec cons sub W F (.app i e) s g = .nx s1 g1 := by
  show (match lookO s i with
    | some (.lst xs) => lift s (ev cons F e .val s g) fun d g => if xs.length < LIM then .nx (s.set i (.own (.lst (xs ++ [d])))) g else .bad
    | _ => .bad) = _
  unfold lookO
  rw [h]
  show lift s (ev cons F e .val s g) _ = _
  rw [he, ← hs]
  show (if xs.length < LIM then Fl.nx (s.set i (.own (.lst (xs ++ [x])))) g1 else .bad) = _
  rw [if_pos hl]
theorem x_ext {xs ys : List D} (h : s[i]? = some (.own (.lst xs))) (he : ev cons F e .val s g = .ok (.lst ys) g1) (hl : xs.length + ys.length ≤ LIM) (hs : s.set i (.own (.lst (xs ++ ys))) = s1) : exec cons sub W F (.ext i e) s g = .nx s1 g1 := by
  show (match lookO s i with
    | some (.lst xs) => lift s (ev cons F e .val s g) fun d g => match d with
      | .lst ys => if xs.length + ys.length ≤ LIM then .nx (s.set i (.own (.lst (xs ++ ys)))) g else .bad
      | _ => .bad
    | _ => .bad) = _
  unfold lookO
  rw [h]
  show lift s (ev cons F e .val s g) _ = _
  rw [he, ← hs]
  show (if xs.length + ys.length ≤ LIM then Fl.nx (s.set i (.own (.lst (xs ++ ys)))) g1 else .bad) = _
  rw [if_pos hl]
theorem x_if (hc : ev cons F c .tst s g = .ok (.bl true) g1) (ha : exec cons sub W F a s g1 = r) : exec cons sub W F (.if_ c a b) s g = r := by
  show lift s (ev cons F c .tst s g) _ = _
  rw [hc]
  show (if D.bl true = .bl true then exec cons sub W F a s g1 else exec cons sub W F b s g1) = _
  rw [if_pos rfl, ha]
theorem x_ifF (hc : ev cons F c .tst s g = .ok (.bl false) g1) (hb : exec cons sub W F b s g1 = r) : exec cons sub W F (.if_ c a b) s g = r := by
  show lift s (ev cons F c .tst s g) _ = _
  rw [hc]
  show (if D.bl false = .bl true then exec cons sub W F a s g1 else exec cons sub W F b s g1) = _
  rw [if_neg (by simp), hb]
theorem x_ret (he : ev cons F e .val s g = .ok x g1) : exec cons sub W F (.ret e) s g = .ret false x g1 := by
  show lift s (ev cons F e .val s g) _ = _
  rw [he]
  rfl
theorem x_retF (he : ev cons F e .val s g = .ok x g1) (hc : isCont x = true) : exec cons sub W F (.retF e) s g = .ret true x g1 := by
  show lift s (ev cons F e .val s g) _ = _
  rw [he]
  show (if isCont x then Fl.ret true x g1 else .bad) = _
  rw [if_pos hc]
theorem x_retO (h : s[i]? = some (.own x)) : exec cons sub W F (.retO i) s g = .ret true x g := by
  show (match lookO s i with
    | some d => Fl.ret true d g
    | none => .bad) = _
  unfold lookO
  rw [h]
theorem x_retX {q : Ex} (he : ev cons F e .val s g = .exc q g1) : exec cons sub W F (.ret e) s g = .exc q s g1 := by
  show lift s (ev cons F e .val s g) _ = _
  rw [he]
  rfl
theorem x_for {tg : Tg} {xs : List D} (he : ev cons F e .val s g = .ok x g1) (hx : itemsOf x = some xs) (hf : forL (fun x s g => match bindT tg x s with
      | none => .bad
      | some s => exec cons sub W F a s g) xs s g1 = r) : exec cons sub W F (.for_ tg e a) s g = r := by
  show lift s (ev cons F e .val s g) _ = _
  rw [he]
  show (match itemsOf x with
    | none => Fl.bad
    | some xs => forL (fun x s g => match bindT tg x s with
      | none => Fl.bad
      | some s => exec cons sub W F a s g) xs s g1) = _
  rw [hx]
  exact hf
theorem x_rai {cc : Nat} {es : Es} {ds : List D} (he : evs cons F es s g = .ok ds g1) (hf : flats ds = true) : exec cons sub W F (.rai cc es) s g = .exc ⟨cc, ds⟩ s g1 := by
  show lift s (evs cons F es s g) _ = _
  rw [he]
  show (if flats ds = true then Fl.exc ⟨cc, ds⟩ s g1 else .bad) = _
  rw [if_pos hf]
/-- a call of a def -/
theorem call_of {P : Pr} {n f : Nat} {fn : Fn} {ds : List D} (hf : P.fns[f]? = some fn) (hl : ds.length = fn.np) : call P (n + 1) f ds g = close fn.pure g (ofFl fn.fresh (exec P.cons P.sub P.W (call P n) fn.body (start fn ds) g)) := by
  rw [call, hf]
  simp only [hl, if_true]
end
end PX
end
section
set_option Elab.async false
set_option linter.all false
set_option maxRecDepth 100000
set_option autoImplicit false
set_option maxHeartbeats 4000000
/-! PLb: _law_draws, the same in all laws. -/
namespace PX
def bDraws : S := (.seq (.set 1 .own (.lst .nil))
(.seq (.for_ (.one 2) (.slc (.var 0) (.lit .non) (.lit (.int 63)))
(.seq (.set 3 .val (.p1 .abs (.var 2)))
(.if_ (.cmp .ge (.var 3) (.bin .pow (.lit (.int 10)) (.lit (.int 18))))
(.for_ (.one 4) (.p1 .range (.lit (.int 60)))
(.if_ (.cmp .gt (.var 3) (.lit (.int 0)))
(.seq (.app 1 (.bin .mod (.p1 .int (.var 3)) (.lit (.int 1009))))
(.set 3 .val (.bin .fdiv (.var 3) (.lit (.int 1009)))))
.nop))
(.seq (.set 5 .val (.bin .mod (.p1 .int (.bin .add (.bin .mul (.var 3) (.lit (.int 48271))) (.lit (.int 11)))) (.lit (.int 2147483647))))
(.for_ (.one 4) (.p1 .range (.lit (.int 12)))
(.seq (.set 5 .val (.bin .mod (.p1 .int (.bin .add (.bin .add (.bin .mul (.var 5) (.lit (.int 16807))) (.bin .mul (.lit (.int 69621)) (.var 4))) (.lit (.int 5)))) (.lit (.int 2147483629))))
(.app 1 (.bin .fdiv (.var 5) (.lit (.int 1009))))))))))
(.seq (.frz 1)
(.ret (.var 1)))))
section
variable {cons : List D} {sub : Nat → Nat → Bool} {W : Nat} {F : Nat → List D → G → R D}
theorem rangeL_len (a n : Nat) : (rangeL a n).length = n := by simp [rangeL]
theorem rangeL_mem {a n : Nat} {x : D} (h : x ∈ rangeL a n) : ∃ i : Int, x = .int i := by
  unfold rangeL at h
  obtain ⟨i, _, e⟩ := List.mem_map.mp h
  exact ⟨_, e.symm⟩
/-- an int a times a small one -/
theorem mul_sml {a b : Int} (h : -(2 ^ 64) < b ∧ b < 2 ^ 64) : bop .mul (.int a) (.int b) = some (.int (a * b)) := by
  show (if (-(2 ^ 64) < a ∧ a < 2 ^ 64) ∨ (-(2 ^ 64) < b ∧ b < 2 ^ 64) then some (D.int (a * b)) else none) = _
  rw [if_pos (.inr h)]
theorem mul_sml' {a b : Int} (h : -(2 ^ 64) < a ∧ a < 2 ^ 64) : bop .mul (.int a) (.int b) = some (.int (a * b)) := by
  show (if (-(2 ^ 64) < a ∧ a < 2 ^ 64) ∨ (-(2 ^ 64) < b ∧ b < 2 ^ 64) then some (D.int (a * b)) else none) = _
  rw [if_pos (.inl h)]
theorem mod_pos {a b : Int} (h : 0 < b) : bop .mod (.int a) (.int b) = some (.int (a % b)) := by
  show (if 0 < b then some (D.int (a % b)) else none) = _
  rw [if_pos h]
/-- one draw more of a large number -/
theorem draws_in1 {g : G} {x0 x2 x4 x5 : SV} {r i : Int} {ds : List Int} (hl : ds.length < LIM) :
    ∃ (ds' : List Int) (x3 : Int), exec cons sub W F (.if_ (.cmp .gt (.var 3) (.lit (.int 0))) (.seq (.app 1 (.bin .mod (.p1 .int (.var 3)) (.lit (.int 1009)))) (.set 3 .val (.bin .fdiv (.var 3) (.lit (.int 1009))))) .nop)
      [x0, .own (.lst (ds.map .int)), x2, .val (.int r), .val (.int i), x5] g = .nx [x0, .own (.lst (ds'.map .int)), x2, .val (.int x3), .val (.int i), x5] g ∧ ds'.length ≤ ds.length + 1 := by
  by_cases h : 0 < r
  · refine ⟨ds ++ [r % 1009], r / 1009, x_if ?_ (x_seq (x_app rfl (v_bin (v_p1 (by decide) (v_var rfl) rfl rfl) v_lit rfl rfl (mod_pos (by decide))) (by rw [List.length_map]; exact hl) rfl) (x_set (v_bin (v_var rfl) v_lit rfl rfl rfl) (by simp))), by simp⟩
    exact q_fin rfl (v_cmp (v_var rfl) v_lit rfl rfl (show some (decide ((0 : Int) < r)) = some true by rw [decide_eq_true h])) rfl rfl
  · refine ⟨ds, r, x_ifF ?_ rfl, by simp⟩
    exact q_fin rfl (v_cmp (v_var rfl) v_lit rfl rfl (show some (decide ((0 : Int) < r)) = some false by rw [decide_eq_false h])) rfl rfl
theorem draws_in2 {g : G} {x0 x2 x3 : SV} {m i : Int} {ds : List Int} (hl : ds.length < LIM) :
    ∃ (ds' : List Int) (y : Int), exec cons sub W F (.seq (.set 5 .val (.bin .mod (.p1 .int (.bin .add (.bin .add (.bin .mul (.var 5) (.lit (.int 16807))) (.bin .mul (.lit (.int 69621)) (.var 4))) (.lit (.int 5)))) (.lit (.int 2147483629)))) (.app 1 (.bin .fdiv (.var 5) (.lit (.int 1009)))))
      [x0, .own (.lst (ds.map .int)), x2, x3, .val (.int i), .val (.int m)] g = .nx [x0, .own (.lst (ds'.map .int)), x2, x3, .val (.int i), .val (.int y)] g ∧ ds'.length ≤ ds.length + 1 := by
  refine ⟨ds ++ [((m * 16807 + 69621 * i + 5) % 2147483629) / 1009], (m * 16807 + 69621 * i + 5) % 2147483629, x_seq (x_set (v_bin (v_p1 (by decide) (v_bin (v_bin (v_bin (v_var rfl) v_lit rfl rfl (mul_sml (by decide))) (v_bin v_lit (v_var rfl) rfl rfl (mul_sml' (by decide))) rfl rfl rfl) v_lit rfl rfl rfl) rfl rfl) v_lit rfl rfl (mod_pos (by decide))) rfl)
    (x_app rfl (v_bin (v_var rfl) v_lit rfl rfl rfl) (by rw [List.length_map]; exact hl) (by simp)), by simp⟩
theorem bind_one {i : Nat} {d : D} {s : Sl} : bindT (.one i) d s = some (s.set i (.val d)) := rfl
/-- all of one script's number -/
theorem draws_item {g : G} {x0 x3 x4 x5 : SV} {c : Int} {ds : List Int} (hl : ds.length + 61 < LIM) :
    ∃ (ds' : List Int) (y3 y4 y5 : SV), exec cons sub W F (.seq (.set 3 .val (.p1 .abs (.var 2)))
      (.if_ (.cmp .ge (.var 3) (.bin .pow (.lit (.int 10)) (.lit (.int 18))))
      (.for_ (.one 4) (.p1 .range (.lit (.int 60)))
      (.if_ (.cmp .gt (.var 3) (.lit (.int 0)))
      (.seq (.app 1 (.bin .mod (.p1 .int (.var 3)) (.lit (.int 1009))))
      (.set 3 .val (.bin .fdiv (.var 3) (.lit (.int 1009)))))
      .nop))
      (.seq (.set 5 .val (.bin .mod (.p1 .int (.bin .add (.bin .mul (.var 3) (.lit (.int 48271))) (.lit (.int 11)))) (.lit (.int 2147483647))))
      (.for_ (.one 4) (.p1 .range (.lit (.int 12)))
      (.seq (.set 5 .val (.bin .mod (.p1 .int (.bin .add (.bin .add (.bin .mul (.var 5) (.lit (.int 16807))) (.bin .mul (.lit (.int 69621)) (.var 4))) (.lit (.int 5)))) (.lit (.int 2147483629))))
      (.app 1 (.bin .fdiv (.var 5) (.lit (.int 1009)))))))))
      [x0, .own (.lst (ds.map .int)), .val (.int c), x3, x4, x5] g = .nx [x0, .own (.lst (ds'.map .int)), .val (.int c), y3, y4, y5] g ∧ ds'.length ≤ ds.length + 60 := by
  generalize hr : (if c < 0 then -c else c) = r
  have l1 := fun (r : Int) => forL_inv (f := fun x s g => match bindT (.one 4) x s with
      | none => .bad
      | some s => exec cons sub W F (.if_ (.cmp .gt (.var 3) (.lit (.int 0))) (.seq (.app 1 (.bin .mod (.p1 .int (.var 3)) (.lit (.int 1009)))) (.set 3 .val (.bin .fdiv (.var 3) (.lit (.int 1009))))) .nop) s g)
    (I := fun k s g' => g' = g ∧ ∃ (es : List Int) (r : Int) (y4 : SV), s = [x0, .own (.lst (es.map .int)), .val (.int c), .val (.int r), y4, x5] ∧ es.length ≤ ds.length + k) (rangeL 0 60) 0 (s := [x0, .own (.lst (ds.map .int)), .val (.int c), .val (.int r), x4, x5]) (g := g)
    (fun i x s g' hx ⟨e, es, r, y4, hs, hlen⟩ => by
      subst e hs
      obtain ⟨v, rfl⟩ := rangeL_mem (List.mem_of_getElem? hx)
      have hi : i < 60 := by
        have := (List.getElem?_eq_some_iff.mp hx).1
        rwa [rangeL_len] at this
      obtain ⟨es', y, q1, q2⟩ := draws_in1 (cons := cons) (sub := sub) (W := W) (F := F) (g := g') (x0 := x0) (x2 := .val (.int c)) (x4 := y4) (x5 := x5) (r := r) (i := v) (ds := es) (by omega)
      exact ⟨_, _, q1, rfl, es', y, .val (.int v), rfl, by omega⟩) ⟨rfl, ds, r, x4, rfl, by omega⟩
  have l2 := fun (m : Int) => forL_inv (f := fun x s g => match bindT (.one 4) x s with
      | none => .bad
      | some s => exec cons sub W F (.seq (.set 5 .val (.bin .mod (.p1 .int (.bin .add (.bin .add (.bin .mul (.var 5) (.lit (.int 16807))) (.bin .mul (.lit (.int 69621)) (.var 4))) (.lit (.int 5)))) (.lit (.int 2147483629)))) (.app 1 (.bin .fdiv (.var 5) (.lit (.int 1009))))) s g)
    (I := fun k s g' => g' = g ∧ ∃ (es : List Int) (m : Int) (y4 : SV), s = [x0, .own (.lst (es.map .int)), .val (.int c), .val (.int r), y4, .val (.int m)] ∧ es.length ≤ ds.length + k) (rangeL 0 12) 0 (s := [x0, .own (.lst (ds.map .int)), .val (.int c), .val (.int r), x4, .val (.int m)]) (g := g)
    (fun i x s g' hx ⟨e, es, m, y4, hs, hlen⟩ => by
      subst e hs
      obtain ⟨v, rfl⟩ := rangeL_mem (List.mem_of_getElem? hx)
      have hi : i < 12 := by
        have := (List.getElem?_eq_some_iff.mp hx).1
        rwa [rangeL_len] at this
      obtain ⟨es', y, q1, q2⟩ := draws_in2 (cons := cons) (sub := sub) (W := W) (F := F) (g := g') (x0 := x0) (x2 := .val (.int c)) (x3 := .val (.int r)) (m := m) (i := v) (ds := es) (by omega)
      exact ⟨_, _, q1, rfl, es', y, .val (.int v), rfl, by omega⟩) ⟨rfl, ds, m, x4, rfl, by omega⟩
  by_cases big : (1000000000000000000 : Int) ≤ r
  · obtain ⟨s', g', e, rfl, es, r', y4, rfl, hlen⟩ := l1 r
    refine ⟨es, _, _, _, x_seq (x_set (v_p1 (by decide) (v_var rfl) rfl (show prim1 .abs (.int c) = some (.int r) by rw [← hr]; rfl)) rfl) (x_if (q_fin rfl (v_cmp (v_var rfl) (v_bin v_lit v_lit rfl rfl rfl) rfl rfl (show some (decide ((10 : Int) ^ 18 ≤ r)) = some true by
      rw [decide_eq_true]; exact big)) rfl rfl) (x_for (v_p1 (by decide) v_lit rfl rfl) rfl e)), ?_⟩
    rw [rangeL_len] at hlen
    omega
  · obtain ⟨s', g', e, rfl, es, m', y4, rfl, hlen⟩ := l2 ((r * 48271 + 11) % 2147483647)
    refine ⟨es, _, _, _, x_seq (x_set (v_p1 (by decide) (v_var rfl) rfl (show prim1 .abs (.int c) = some (.int r) by rw [← hr]; rfl)) rfl) (x_ifF (q_fin rfl (v_cmp (v_var rfl) (v_bin v_lit v_lit rfl rfl rfl) rfl rfl (show some (decide ((10 : Int) ^ 18 ≤ r)) = some false by
      rw [decide_eq_false]; exact big)) rfl rfl) (x_seq (x_set (v_bin (v_p1 (by decide) (v_bin (v_bin (v_var rfl) v_lit rfl rfl (mul_sml (by decide))) v_lit rfl rfl rfl) rfl rfl) v_lit rfl rfl (mod_pos (by decide))) rfl) (x_for (v_p1 (by decide) v_lit rfl rfl) rfl e))), ?_⟩
    rw [rangeL_len] at hlen
    omega
theorem cut_len {α : Type} (xs : List α) (hi : Nat) : (PX.cut xs none (some (hi : Int))).length ≤ hi := by
  unfold PX.cut cutAt
  rw [List.length_take, List.length_drop]
  have : ¬ ((hi : Int) < 0) := by omega
  simp only [this, if_false]
  omega
theorem cut_mem {α : Type} {xs : List α} {lo hi : Option Int} {x : α} (h : x ∈ PX.cut xs lo hi) : x ∈ xs := by
  unfold PX.cut at h
  exact List.mem_of_mem_drop (List.mem_of_mem_take h)
theorem draws_run (ns : List Int) (g : G) : ∃ ds : List Int, exec cons sub W F bDraws [.val (.lst (ns.map .int)), .un, .un, .un, .un, .un] g = .ret false (.lst (ds.map .int)) g := by
  have hlim : (3780 : Nat) + 61 < LIM := by decide
  have hl : (PX.cut (ns.map D.int) none (some 63)).length ≤ 63 := cut_len _ 63
  obtain ⟨s', g', e, rfl, es, y2, y3, y4, y5, rfl, _⟩ := forL_inv (f := fun x s g => match bindT (.one 2) x s with
      | none => .bad
      | some s => exec cons sub W F (.seq (.set 3 .val (.p1 .abs (.var 2)))
        (.if_ (.cmp .ge (.var 3) (.bin .pow (.lit (.int 10)) (.lit (.int 18))))
        (.for_ (.one 4) (.p1 .range (.lit (.int 60)))
        (.if_ (.cmp .gt (.var 3) (.lit (.int 0)))
        (.seq (.app 1 (.bin .mod (.p1 .int (.var 3)) (.lit (.int 1009))))
        (.set 3 .val (.bin .fdiv (.var 3) (.lit (.int 1009)))))
        .nop))
        (.seq (.set 5 .val (.bin .mod (.p1 .int (.bin .add (.bin .mul (.var 3) (.lit (.int 48271))) (.lit (.int 11)))) (.lit (.int 2147483647))))
        (.for_ (.one 4) (.p1 .range (.lit (.int 12)))
        (.seq (.set 5 .val (.bin .mod (.p1 .int (.bin .add (.bin .add (.bin .mul (.var 5) (.lit (.int 16807))) (.bin .mul (.lit (.int 69621)) (.var 4))) (.lit (.int 5)))) (.lit (.int 2147483629))))
        (.app 1 (.bin .fdiv (.var 5) (.lit (.int 1009))))))))) s g)
    (I := fun k s g' => g' = g ∧ ∃ (es : List Int) (y2 y3 y4 y5 : SV), s = [.val (.lst (ns.map .int)), .own (.lst (es.map .int)), y2, y3, y4, y5] ∧ es.length ≤ 60 * k) (PX.cut (ns.map D.int) none (some 63)) 0 (s := [.val (.lst (ns.map .int)), .own (.lst []), .un, .un, .un, .un]) (g := g)
    (fun i x s g' hx ⟨e, es, y2, y3, y4, y5, hs, hlen⟩ => by
      subst e hs
      obtain ⟨v, _, rfl⟩ := List.mem_map.mp (cut_mem (List.mem_of_getElem? hx))
      have hi : i < 63 := Nat.lt_of_lt_of_le (List.getElem?_eq_some_iff.mp hx).1 hl
      obtain ⟨es', z3, z4, z5, q1, q2⟩ := draws_item (cons := cons) (sub := sub) (W := W) (F := F) (g := g') (x0 := .val (.lst (ns.map .int))) (x3 := y3) (x4 := y4) (x5 := y5) (c := v) (ds := es) (by omega)
      exact ⟨_, _, q1, rfl, es', _, z3, z4, z5, rfl, by omega⟩) ⟨rfl, [], .un, .un, .un, .un, rfl, by simp⟩
  exact ⟨es, x_seq (x_setO (v_lst vs_nil) rfl rfl) (x_seq (x_for (v_slc (v_var rfl) v_lit rfl v_lit rfl rfl rfl) rfl e) (x_seq (x_frz rfl rfl) (x_ret (v_var rfl))))⟩
theorem belows_ints (n : Nat) : ∀ ns : List Int, PX.belows n (ns.map D.int) = true
  | [] => rfl
  | x :: xs => by
    show (PX.below n (.int x) && PX.belows n (xs.map D.int)) = true
    rw [belows_ints n xs]
    rfl
/-- what a def that leaves the heap gives -/
theorem close_ok {g : G} {d : D} (h : PX.below g.length d = true) : close true g (.ok d g) = .ok d g := by
  show (if true = true then (if g.take g.length = g ∧ PX.below g.length d = true then R.ok d g else .bad) else .ok d g) = _
  rw [if_pos rfl, if_pos ⟨List.take_length, h⟩]
theorem draws_call {P : Pr} {n i : Nat} (hf : P.fns[i]? = some ⟨1, 6, true, false, bDraws⟩) (ns : List Int) (g : G) : ∃ ds : List Int, call P (n + 1) i [.lst (ns.map .int)] g = .ok (.lst (ds.map .int)) g := by
  obtain ⟨ds, e⟩ := draws_run (cons := P.cons) (sub := P.sub) (W := P.W) (F := call P n) ns g
  refine ⟨ds, ?_⟩
  rw [call_of hf rfl]
  show close true g (ofFl false (exec P.cons P.sub P.W (call P n) bDraws [.val (.lst (ns.map .int)), .un, .un, .un, .un, .un] g)) = _
  rw [e]
  exact close_ok (by show PX.belows g.length (ds.map .int) = true; exact belows_ints _ ds)
end
end PX
end
section
set_option Elab.async false
set_option linter.all false
set_option maxRecDepth 100000
set_option autoImplicit false
set_option maxHeartbeats 4000000
/-! PLe: _law_more, _law_take, _law_one, the same in all laws. -/
namespace PX
def bMore : S := (.seq (.set 2 .val (.bin .mod (.p1 .int (.bin .add (.bin .add (.bin .mul (.var 1) (.lit (.int 48271))) (.p1 .len (.var 0))) (.lit (.int 11)))) (.lit (.int 2147483629))))
(.seq (.for_ (.one 3) (.p1 .range (.lit (.int 3)))
(.seq (.if_ (.var 0)
(.set 2 .val (.bin .add (.var 2) (.idx (.var 0) (.bin .mod (.p1 .int (.bin .add (.bin .mul (.var 1) (.bin .add (.var 3) (.lit (.int 5)))) (.var 3))) (.p1 .len (.var 0))))))
.nop)
(.set 2 .val (.bin .mod (.p1 .int (.bin .add (.bin .add (.bin .mul (.var 2) (.lit (.int 16807))) (.bin .mul (.lit (.int 69621)) (.var 3))) (.lit (.int 5)))) (.lit (.int 2147483629))))))
(.ret (.bin .fdiv (.var 2) (.lit (.int 1009))))))
def bTake (more : Nat) : S := (.seq (.set 3 .val (.idx (.var 1) (.lit (.int 0))))
(.seq (.putR (.var 1) (.lit (.int 0)) (.bin .add (.var 3) (.lit (.int 1))))
(.ret (.bin .mod (.p1 .int (.ite (.cmp .lt (.var 3) (.p1 .len (.var 0))) (.idx (.var 0) (.var 3)) (.call more (.cons (.var 0) (.cons (.var 3) .nil))))) (.var 2)))))
def bOne (take : Nat) : S := (.ret (.idx (.var 0) (.call take (.cons (.var 1) (.cons (.var 2) (.cons (.p1 .len (.var 0)) .nil))))))
section
variable {cons : List D} {sub : Nat → Nat → Bool} {W : Nat} {F : Nat → List D → G → R D} {s s1 : Sl} {g g1 g2 g3 : G} {a k e : E} {d c kd : D}
theorem x_putR {l : Nat} {xs : List D} (he : ev cons F e .val s g = .ok d g1) (ha : ev cons F a .val s g1 = .ok (.ref l) g2) (hk : ev cons F k .val s g2 = .ok kd g3) (hd : deref g3 (.ref l) = some c) (hs : store c kd d = some (.lst xs)) :
    exec cons sub W F (.putR a k e) s g = .nx s (g3.set l (.lst xs)) := by
  show lift s (ev cons F e .val s g) _ = _
  rw [he]
  show lift s (ev cons F a .val s g1) _ = _
  rw [ha]
  show lift s (ev cons F k .val s g2) _ = _
  rw [hk]
  show (match (deref g3 (.ref l)).bind fun c => store c kd d with
    | some (.lst xs) => Fl.nx s (g3.set l (.lst xs))
    | _ => .bad) = _
  rw [hd]
  show (match store c kd d with
    | some (.lst xs) => Fl.nx s (g3.set l (.lst xs))
    | _ => .bad) = _
  rw [hs]
theorem getI_nat {α : Type} {xs : List α} {i : Nat} {x : α} (h : xs[i]? = some x) : getI xs (i : Int) = some x := by
  have hi : i < xs.length := (List.getElem?_eq_some_iff.mp h).1
  unfold getI ixOf
  rw [if_pos (by omega), if_pos (by omega)]
  show xs[(i : Int).toNat]? = some x
  rw [Int.toNat_natCast]
  exact h
theorem getI_in {α : Type} {xs : List α} {i : Int} (h0 : 0 ≤ i) (h1 : i < xs.length) : ∃ x, getI xs i = some x ∧ x ∈ xs := by
  obtain ⟨n, rfl⟩ := Int.eq_ofNat_of_zero_le h0
  have hn : n < xs.length := by omega
  exact ⟨xs[n], getI_nat (List.getElem?_eq_getElem hn), List.getElem_mem hn⟩
theorem ints_get {ns : List Int} {i : Int} (h0 : 0 ≤ i) (h1 : i < ns.length) : ∃ v : Int, getI (ns.map D.int) i = some (.int v) := by
  obtain ⟨x, e, m⟩ := getI_in (xs := ns.map D.int) h0 (by simpa using h1)
  obtain ⟨v, _, rfl⟩ := List.mem_map.mp m
  exact ⟨v, e⟩
theorem more_call {P : Pr} {n i : Nat} (hf : P.fns[i]? = some ⟨2, 4, true, false, bMore⟩) (ds : List Int) (p : Int) (g : G) : ∃ v : Int, call P (n + 1) i [.lst (ds.map .int), .int p] g = .ok (.int v) g := by
  have body : ∃ v : Int, exec P.cons P.sub P.W (call P n) bMore [.val (.lst (ds.map .int)), .val (.int p), .un, .un] g = .ret false (.int v) g := by
    obtain ⟨s', g', e, rfl, m, y, rfl⟩ := forL_inv (f := fun x s g => match bindT (.one 3) x s with
        | none => .bad
        | some s => exec P.cons P.sub P.W (call P n) (.seq (.if_ (.var 0)
          (.set 2 .val (.bin .add (.var 2) (.idx (.var 0) (.bin .mod (.p1 .int (.bin .add (.bin .mul (.var 1) (.bin .add (.var 3) (.lit (.int 5)))) (.var 3))) (.p1 .len (.var 0))))))
          .nop)
          (.set 2 .val (.bin .mod (.p1 .int (.bin .add (.bin .add (.bin .mul (.var 2) (.lit (.int 16807))) (.bin .mul (.lit (.int 69621)) (.var 3))) (.lit (.int 5)))) (.lit (.int 2147483629))))) s g)
      (I := fun k s g' => g' = g ∧ ∃ (m : Int) (y : SV), s = [.val (.lst (ds.map .int)), .val (.int p), .val (.int m), y]) (rangeL 0 3) 0 (s := [.val (.lst (ds.map .int)), .val (.int p), .val (.int ((p * 48271 + (ds.map D.int).length + 11) % 2147483629)), .un]) (g := g)
      (fun j x s g' hx ⟨e, m, y, hs⟩ => by
        subst e hs
        have hv : x = .int ((j : Nat) : Int) ∧ j < 3 := by
          have hj : j < 3 := by
            have := (List.getElem?_eq_some_iff.mp hx).1
            rwa [rangeL_len] at this
          refine ⟨?_, hj⟩
          match j, hj with
          | 0, _ => exact (Option.some.inj hx).symm
          | 1, _ => exact (Option.some.inj hx).symm
          | 2, _ => exact (Option.some.inj hx).symm
        obtain ⟨rfl, hj⟩ := hv
        have second : ∀ m : Int, exec P.cons P.sub P.W (call P n) (.set 2 .val (.bin .mod (.p1 .int (.bin .add (.bin .add (.bin .mul (.var 2) (.lit (.int 16807))) (.bin .mul (.lit (.int 69621)) (.var 3))) (.lit (.int 5)))) (.lit (.int 2147483629))))
            [.val (.lst (ds.map .int)), .val (.int p), .val (.int m), .val (.int j)] g' = .nx [.val (.lst (ds.map .int)), .val (.int p), .val (.int ((m * 16807 + 69621 * j + 5) % 2147483629)), .val (.int j)] g' := fun m =>
          x_set (v_bin (v_p1 (by decide) (v_bin (v_bin (v_bin (v_var rfl) v_lit rfl rfl (mul_sml (by decide))) (v_bin v_lit (v_var rfl) rfl rfl (mul_sml' (by decide))) rfl rfl rfl) v_lit rfl rfl rfl) rfl rfl) v_lit rfl rfl (mod_pos (by decide))) rfl
        cases ds with
        | nil => exact ⟨_, _, x_seq (x_ifF (q_fin rfl (v_var rfl) rfl rfl) rfl) (second m), rfl, _, _, rfl⟩
        | cons d ds =>
          have hpos : (0 : Int) < ((((d :: ds).map D.int).length : Nat) : Int) := by simp
          obtain ⟨v, ev⟩ := ints_get (ns := d :: ds) (i := (p * ((j : Int) + 5) + j) % ((((d :: ds).map D.int).length : Nat) : Int)) (Int.emod_nonneg _ (by omega)) (by
            have := Int.emod_lt_of_pos (p * ((j : Int) + 5) + j) hpos
            simpa using this)
          refine ⟨_, _, x_seq (x_if (q_fin rfl (v_var rfl) rfl rfl) (x_set (v_bin (v_var rfl) (v_idx (v_var rfl) (v_bin (v_p1 (by decide) (v_bin (v_bin (v_var rfl) (v_bin (v_var rfl) v_lit rfl rfl rfl) rfl rfl (mul_sml (by omega))) (v_var rfl) rfl rfl rfl) rfl rfl) (v_p1 (by decide) (v_var rfl) rfl rfl) rfl rfl (mod_pos hpos)) rfl ev) rfl rfl rfl) rfl)) (second _), rfl, _, _, rfl⟩) ⟨rfl, _, .un, rfl⟩
    exact ⟨_, x_seq (x_set (v_bin (v_p1 (by decide) (v_bin (v_bin (v_bin (v_var rfl) v_lit rfl rfl (mul_sml (by decide))) (v_p1 (by decide) (v_var rfl) rfl rfl) rfl rfl rfl) v_lit rfl rfl rfl) rfl rfl) v_lit rfl rfl (mod_pos (by decide))) rfl)
      (x_seq (x_for (v_p1 (by decide) v_lit rfl rfl) rfl e) (x_ret (v_bin (v_var rfl) v_lit rfl rfl rfl)))⟩
  obtain ⟨v, e⟩ := body
  refine ⟨v, ?_⟩
  rw [call_of hf rfl]
  show close true g (ofFl false (exec P.cons P.sub P.W (call P n) bMore [.val (.lst (ds.map .int)), .val (.int p), .un, .un] g)) = _
  rw [e]
  exact close_ok rfl
/-- the heap that holds how many draws are taken -/
abbrev Hat (p : Int) (rest : G) : G := .lst [.int p] :: rest
theorem take_call {P : Pr} {n i j : Nat} (hf : P.fns[i]? = some ⟨3, 4, false, false, bTake j⟩) (hj : P.fns[j]? = some ⟨2, 4, true, false, bMore⟩) (ds : List Int) {p m : Int} (hp : 0 ≤ p) (hm : 0 < m) (rest : G) :
    ∃ v : Int, call P (n + 2) i [.lst (ds.map .int), .ref 0, .int m] (Hat p rest) = .ok (.int v) (Hat (p + 1) rest) ∧ 0 ≤ v ∧ v < m := by
  have val : ∃ w : Int, ev P.cons (call P (n + 1)) (.ite (.cmp .lt (.var 3) (.p1 .len (.var 0))) (.idx (.var 0) (.var 3)) (.call j (.cons (.var 0) (.cons (.var 3) .nil)))) .val [.val (.lst (ds.map .int)), .val (.ref 0), .val (.int m), .val (.int p)] (Hat (p + 1) rest) = .ok (.int w) (Hat (p + 1) rest) := by
    by_cases h : p < (((ds.map D.int).length : Nat) : Int)
    · obtain ⟨w, e⟩ := ints_get (ns := ds) hp (by simpa using h)
      exact ⟨w, v_iteT (q_fin rfl (v_cmp (v_var rfl) (v_p1 (by decide) (v_var rfl) rfl rfl) rfl rfl (show some (decide (p < (((ds.map D.int).length : Nat) : Int))) = some true by rw [decide_eq_true h])) rfl rfl) (v_idx (v_var rfl) (v_var rfl) rfl e)⟩
    · obtain ⟨w, e⟩ := more_call (P := P) (n := n) hj ds p (Hat (p + 1) rest)
      exact ⟨w, v_iteF (q_fin rfl (v_cmp (v_var rfl) (v_p1 (by decide) (v_var rfl) rfl rfl) rfl rfl (show some (decide (p < (((ds.map D.int).length : Nat) : Int))) = some false by rw [decide_eq_false h])) rfl rfl) (v_call (vs_cons (v_var rfl) (vs_cons (v_var rfl) vs_nil)) e)⟩
  obtain ⟨w, e⟩ := val
  refine ⟨w % m, ?_, Int.emod_nonneg _ (by omega), Int.emod_lt_of_pos _ hm⟩
  rw [call_of hf rfl]
  show close false (Hat p rest) (ofFl false (exec P.cons P.sub P.W (call P (n + 1)) (bTake j) [.val (.lst (ds.map .int)), .val (.ref 0), .val (.int m), .un] (Hat p rest))) = _
  have q : exec P.cons P.sub P.W (call P (n + 1)) (bTake j) [.val (.lst (ds.map .int)), .val (.ref 0), .val (.int m), .un] (Hat p rest) = .ret false (.int (w % m)) (Hat (p + 1) rest) :=
    x_seq (x_set (v_idx (v_var rfl) v_lit rfl rfl) rfl) (x_seq (x_putR (v_bin (v_var rfl) v_lit rfl rfl rfl) (v_var rfl) v_lit rfl rfl) (x_ret (v_bin (v_p1 (by decide) e rfl rfl) (v_var rfl) rfl rfl (mod_pos hm))))
  rw [q]
  rfl
theorem one_call {P : Pr} {n i j k : Nat} (hi : P.fns[i]? = some ⟨3, 3, false, false, bOne k⟩) (hf : P.fns[k]? = some ⟨3, 4, false, false, bTake j⟩) (hj : P.fns[j]? = some ⟨2, 4, true, false, bMore⟩) (ds : List Int) {p : Int} (hp : 0 ≤ p) (rest : G) {rows : List D} (hr : rows ≠ []) :
    ∃ d ∈ rows, call P (n + 3) i [.lst rows, .lst (ds.map .int), .ref 0] (Hat p rest) = .ok d (Hat (p + 1) rest) := by
  have hpos : (0 : Int) < ((rows.length : Nat) : Int) := by
    have := List.length_pos_iff.mpr hr
    omega
  obtain ⟨v, e, h0, h1⟩ := take_call (P := P) (n := n) hf hj ds hp hpos rest
  obtain ⟨d, e2, m⟩ := getI_in h0 h1
  refine ⟨d, m, ?_⟩
  rw [call_of hi rfl]
  show close false (Hat p rest) (ofFl false (exec P.cons P.sub P.W (call P (n + 2)) (bOne k) [.val (.lst rows), .val (.lst (ds.map .int)), .val (.ref 0)] (Hat p rest))) = _
  have q : exec P.cons P.sub P.W (call P (n + 2)) (bOne k) [.val (.lst rows), .val (.lst (ds.map .int)), .val (.ref 0)] (Hat p rest) = .ret false d (Hat (p + 1) rest) :=
    x_ret (v_idx (v_var rfl) (v_call (vs_cons (v_var rfl) (vs_cons (v_var rfl) (vs_cons (v_p1 (by decide) (v_var rfl) rfl rfl) vs_nil))) e) rfl e2)
  rw [q]
  rfl
theorem v_lc {elt it : E} {tg : Tg} {cs : Es} {x : D} {xs ys : List D} (hi : ev cons F it .val s g = .ok x g1) (hx : itemsOf x = some xs) (hc : compL (fun x g => match bindT tg x (wipeS tg.slots s) with
      | none => .bad
      | some s' => (evc cons F cs s' g).bind fun b g => if b = true then (ev cons F elt .val s' g).bind fun y g => .ok (some y) g else .ok none g) xs [] g1 = .ok ys g2) : ev cons F (.lc elt tg it cs) .val s g = .ok (.lst ys) g2 := by
  show (ev cons F it .val s g).bind _ = _
  rw [hi]
  show (match itemsOf x with
    | none => R.bad
    | some xs => (compL (fun x g => match bindT tg x (wipeS tg.slots s) with
      | none => .bad
      | some s' => (evc cons F cs s' g).bind fun b g => if b = true then (ev cons F elt .val s' g).bind fun y g => .ok (some y) g else .ok none g) xs [] g1).bind fun ys g => R.ok (D.lst ys) g) = _
  rw [hx]
  show (compL _ xs [] g1).bind _ = _
  rw [hc]
  rfl
/-- a comprehension that draws: each item gives one of a kind -/
theorem compL_draw {α : Type} {f : D → G → R (Option D)} {enc : α → D} {good : α → Prop} {rest : G} : ∀ (xs acc : List D) {p : Int}, (∀ x ∈ xs, ∀ p : Int, 0 ≤ p → ∃ (t : α) (p' : Int), good t ∧ 0 ≤ p' ∧ f x (Hat p rest) = .ok (some (enc t)) (Hat p' rest)) → 0 ≤ p →
    ∃ (ts : List α) (p' : Int), ts.length = xs.length ∧ (∀ t ∈ ts, good t) ∧ 0 ≤ p' ∧ compL f xs acc (Hat p rest) = .ok (acc ++ ts.map enc) (Hat p' rest)
  | [], acc, p, _, hp => ⟨[], p, rfl, by simp, hp, by rw [List.map_nil, List.append_nil]; rfl⟩
  | x :: xs, acc, p, h, hp => by
    obtain ⟨t, p1, g1, h1, e1⟩ := h x List.mem_cons_self p hp
    obtain ⟨ts, p2, l2, g2, h2, e2⟩ := compL_draw xs (acc ++ [enc t]) (p := p1) (fun y hy => h y (List.mem_cons_of_mem _ hy)) h1
    refine ⟨t :: ts, p2, by simp [l2], fun u hu => ?_, h2, ?_⟩
    · rcases List.mem_cons.mp hu with z | z
      · rw [z]; exact g1
      · exact g2 u z
    · show (noExc (f x (Hat p rest))).bind _ = _
      rw [e1]
      show compL f xs (acc ++ [enc t]) (Hat p1 rest) = _
      rw [e2]
      simp
/-- the same, as an expression: [elt for k in range(m)] -/
theorem draw_lc {α : Type} {enc : α → D} {good : α → Prop} {rest : G} {elt it : E} {k : Nat} {m : Int} {p p0 : Int} (hp : 0 ≤ p) (hm : 0 ≤ m ∧ m ≤ 16777216) (hi : ev cons F it .val s (Hat p0 rest) = .ok (.int m) (Hat p rest))
    (he : ∀ (i p : Int), 0 ≤ p → ∃ (t : α) (p' : Int), good t ∧ 0 ≤ p' ∧ ev cons F elt .val ((wipeS [k] s).set k (.val (.int i))) (Hat p rest) = .ok (enc t) (Hat p' rest)) :
    ∃ (ts : List α) (p' : Int), (ts.length : Int) = m ∧ (∀ t ∈ ts, good t) ∧ 0 ≤ p' ∧ ev cons F (.lc elt (.one k) (.p1 .range it) .nil) .val s (Hat p0 rest) = .ok (.lst (ts.map enc)) (Hat p' rest) := by
  obtain ⟨ts, p', l, gd, hp', e⟩ := compL_draw (enc := enc) (good := good) (rest := rest) (f := fun x g => match bindT (.one k) x (wipeS [k] s) with
      | none => .bad
      | some s' => (evc cons F .nil s' g).bind fun b g => if b = true then (ev cons F elt .val s' g).bind fun y g => .ok (some y) g else .ok none g) (rangeL 0 m.toNat) [] (p := p) (fun x hx p hp => by
    obtain ⟨i, rfl⟩ := rangeL_mem hx
    obtain ⟨t, p', g1, h1, e1⟩ := he i p hp
    refine ⟨t, p', g1, h1, ?_⟩
    show (if true = true then (ev cons F elt .val ((wipeS [k] s).set k (.val (.int i))) (Hat p rest)).bind fun y g => R.ok (some y) g else .ok none (Hat p rest)) = _
    rw [if_pos rfl, e1]
    rfl) hp
  rw [rangeL_len] at l
  refine ⟨ts, p', by omega, gd, hp', v_lc (x := .lst (rangeL 0 m.toNat)) (v_p1 (by decide) hi rfl ?_) rfl e⟩
  show (if -(2 ^ 62) ≤ m ∧ m ≤ 16777216 then some (D.lst (rangeL 0 m.toNat)) else none) = _
  rw [if_pos ⟨by omega, hm.2⟩]
end
end PX
end
section
set_option Elab.async false
set_option linter.all false
set_option maxRecDepth 100000
set_option autoImplicit false
set_option maxHeartbeats 2000000
/-! PLf: comparisons of texts and ints, membership. -/
namespace PX
/-- a text whose code points are code points -/
def TxOk (x : Txt) : Prop := plain (.str x) = true
theorem eq_str {a b : Txt} (ha : TxOk a) (hb : TxOk b) : cop .eq (.str a) (.str b) = some (a == b) := by
  show (if eqOk (.str a) (.str b) = true then some (eqv (.str a) (.str b)) else none) = _
  have h : eqOk (.str a) (.str b) = true := by
    unfold eqOk
    rw [show plain (.str a) = true from ha, show plain (.str b) = true from hb]
    simp [depth]
  rw [if_pos h]
  simp [eqv]
theorem plains_strs : ∀ {xs : List Txt}, (∀ x ∈ xs, TxOk x) → plains (xs.map D.str) = true
  | [], _ => rfl
  | x :: xs, h => by
    show (plain (.str x) && plains (xs.map D.str)) = true
    rw [show plain (.str x) = true from h x List.mem_cons_self, plains_strs fun y hy => h y (List.mem_cons_of_mem _ hy)]
    rfl
theorem depths_strs : ∀ (xs : List Txt), depths (xs.map D.str) = 0
  | [] => rfl
  | x :: xs => by
    show max (depth (.str x)) (depths (xs.map D.str)) = 0
    rw [depths_strs xs]
    rfl
theorem isInL_strs {x : Txt} {xs : List Txt} (hx : TxOk x) (h : ∀ y ∈ xs, TxOk y) : isInL (.str x) (xs.map D.str) = some (decide (x ∈ xs)) := by
  unfold isInL
  have e : eqOk (.str x) (.lst (xs.map D.str)) = true := by
    unfold eqOk
    rw [show plain (.str x) = true from hx, show plain (.lst (xs.map D.str)) = true from plains_strs h]
    simp [depth, depths_strs]
  rw [if_pos e]
  congr 1
  rw [List.any_map]
  have : (xs.any ((fun y => eqv y (.str x)) ∘ D.str)) = xs.any fun y => y == x := by
    congr 1
  rw [this]
  by_cases m : x ∈ xs
  · rw [decide_eq_true m]
    exact List.any_eq_true.mpr ⟨x, m, by simp⟩
  · rw [decide_eq_false m]
    rw [List.any_eq_false]
    intro y hy z
    have : y = x := by simpa using z
    exact m (this ▸ hy)
/-- a comprehension over encoded items -/
theorem compL_enc {α : Type} {enc : α → D} {f : D → G → R (Option D)} {h : α → Option D} {g : G} : ∀ (ts : List α) (acc : List D), (∀ t ∈ ts, f (enc t) g = .ok (h t) g) → compL f (ts.map enc) acc g = .ok (acc ++ ts.filterMap h) g
  | [], acc, _ => by rw [List.map_nil, List.filterMap_nil, List.append_nil]; rfl
  | t :: ts, acc, hx => by
    have e : f (enc t) g = .ok (h t) g := hx t List.mem_cons_self
    have ih := fun acc => compL_enc ts acc fun y hy => hx y (List.mem_cons_of_mem _ hy)
    show (noExc (f (enc t) g)).bind _ = _
    rw [e]
    show (match h t with
      | some d => compL f (ts.map enc) (acc ++ [d]) g
      | none => compL f (ts.map enc) acc g) = _
    cases q : h t with
    | none => simp only [List.filterMap_cons, q]; exact ih acc
    | some d =>
      simp only [List.filterMap_cons, q]
      rw [ih (acc ++ [d])]
      simp
theorem fm_if {α : Type} {h : α → D} {b : α → Bool} : ∀ ts : List α, ts.filterMap (fun t => if b t = true then some (h t) else none) = (ts.filter b).map h
  | [] => rfl
  | t :: ts => by
    rw [List.filterMap_cons, List.filter_cons]
    cases q : b t with
    | true => simp [fm_if ts]
    | false => simp [fm_if ts]
section
variable {cons : List D} {F : Nat → List D → G → R D} {s : Sl} {g : G}
/-- [elt for x in ts], the heap as it was -/
theorem lc_map {α : Type} {enc : α → D} {h : α → D} {ts : List α} {elt it : E} {k : Nat} {x : D} (hi : ev cons F it .val s g = .ok x g) (hx : itemsOf x = some (ts.map enc)) (he : ∀ t ∈ ts, ev cons F elt .val ((s.set k .un).set k (.val (enc t))) g = .ok (h t) g) :
    ev cons F (.lc elt (.one k) it .nil) .val s g = .ok (.lst (ts.map h)) g := by
  refine v_lc hi hx ?_
  rw [compL_enc (h := fun t => some (h t)) ts [] fun t ht => ?_]
  · simp
  · show (if true = true then (ev cons F elt .val ((s.set k .un).set k (.val (enc t))) g).bind fun y g => R.ok (some y) g else .ok none g) = _
    rw [if_pos rfl, he t ht]
    rfl
/-- [elt for x in ts if c] -/
theorem lc_filter {α : Type} {enc : α → D} {h : α → D} {b : α → Bool} {ts : List α} {elt it c : E} {k : Nat} {x : D} (hi : ev cons F it .val s g = .ok x g) (hx : itemsOf x = some (ts.map enc)) (hc : ∀ t ∈ ts, ev cons F c .tst ((s.set k .un).set k (.val (enc t))) g = .ok (.bl (b t)) g)
    (he : ∀ t ∈ ts, b t = true → ev cons F elt .val ((s.set k .un).set k (.val (enc t))) g = .ok (h t) g) : ev cons F (.lc elt (.one k) it (.cons c .nil)) .val s g = .ok (.lst ((ts.filter b).map h)) g := by
  refine v_lc hi hx ?_
  rw [compL_enc (h := fun t => if b t = true then some (h t) else none) ts [] fun t ht => ?_]
  · rw [List.nil_append]
    congr 1
    exact fm_if ts
  · show ((ev cons F c .tst ((s.set k .un).set k (.val (enc t))) g).bind fun x g => R.ok (decide (x = .bl true)) g).bind (fun b g => if b = true then (ev cons F elt .val ((s.set k .un).set k (.val (enc t))) g).bind fun y g => R.ok (some y) g else .ok none g) = _
    rw [hc t ht]
    show (if decide (D.bl (b t) = .bl true) = true then (ev cons F elt .val ((s.set k .un).set k (.val (enc t))) g).bind fun y g => R.ok (some y) g else .ok none g) = _
    cases q : b t with
    | true =>
      rw [if_pos (by simp), if_pos rfl, he t ht q]
      rfl
    | false => rw [if_neg (by simp), if_neg (by simp)]
end
section
variable {cons : List D} {sub : Nat → Nat → Bool} {W : Nat} {F : Nat → List D → G → R D} {s s1 : Sl} {g g1 : G} {c : E} {b : S}
theorem x_whl {r : Fl} (h : whileL (fun s g => ev cons F c .tst s g) (fun s g => exec cons sub W F b s g) W s g = r) : exec cons sub W F (.whl c b) s g = r := h
theorem wh_ret {n : Nat} {fr : Bool} {d : D} {cf : Sl → G → R D} {bf : Sl → G → Fl} (hc : cf s g = .ok (.bl true) g) (hb : bf s g = .ret fr d g1) : whileL cf bf (n + 1) s g = .ret fr d g1 := by
  show lift s (cf s g) _ = _
  rw [hc]
  show (if D.bl true = .bl true then (bf s g).bind fun s g => whileL cf bf n s g else .nx s g) = _
  rw [if_pos rfl, hb]
  rfl
theorem wh_go {n : Nat} {r : Fl} {cf : Sl → G → R D} {bf : Sl → G → Fl} (hc : cf s g = .ok (.bl true) g) (hb : bf s g = .nx s1 g1) (hr : whileL cf bf n s1 g1 = r) : whileL cf bf (n + 1) s g = r := by
  show lift s (cf s g) _ = _
  rw [hc]
  show (if D.bl true = .bl true then (bf s g).bind fun s g => whileL cf bf n s g else .nx s g) = _
  rw [if_pos rfl, hb]
  exact hr
end
theorem eq_int {a b : Int} : cop .eq (.int a) (.int b) = some (decide (a = b)) := by
  show (if eqOk (.int a) (.int b) = true then some (eqv (.int a) (.int b)) else none) = _
  have h : eqOk (.int a) (.int b) = true := by simp [eqOk, plain, depth]
  rw [if_pos h]
  show some (a == b) = some (decide (a = b))
  by_cases e : a = b
  · subst e; simp
  · rw [decide_eq_false e, beq_eq_false_iff_ne.mpr e]
theorem ne_int {a b : Int} : cop .ne (.int a) (.int b) = some (decide (a ≠ b)) := by
  show (if eqOk (.int a) (.int b) = true then some (!eqv (.int a) (.int b)) else none) = _
  have h : eqOk (.int a) (.int b) = true := by simp [eqOk, plain, depth]
  rw [if_pos h]
  show some (!(a == b)) = some (decide (a ≠ b))
  by_cases e : a = b
  · subst e; simp
  · rw [decide_eq_true e, beq_eq_false_iff_ne.mpr e]
    rfl
/-- natural numbers as values -/
abbrev nat (j : Nat) : D := .int (j : Int)
theorem rangeL_nat (a n : Nat) : rangeL a n = (List.range' a n).map nat := rfl
theorem nin_strs {x : Txt} {K : List Txt} (hx : TxOk x) (hK : ∀ y ∈ K, TxOk y) : cop .nin (.str x) (.lst (K.map .str)) = some (!decide (x ∈ K)) := by
  show (isInL (.str x) (K.map .str)).map (!·) = _
  rw [isInL_strs hx hK]
  rfl
end PX
end
section
set_option Elab.async false
set_option linter.all false
set_option maxRecDepth 100000
set_option autoImplicit false
set_option maxHeartbeats 2000000
/-! PLs: rules by which simp runs the interpreter. -/
namespace PX
section
variable {cons : List D} {sub : Nat → Nat → Bool} {W : Nat} {F : Nat → List D → G → R D} {s : Sl} {g g1 : G} {m : M} {a b c : E} {x y : D} {i : Nat}
@[simp] theorem rb_ok {α β : Type} {a : α} {f : α → G → R β} : (R.ok a g).bind f = f a g := rfl
@[simp] theorem rb_exc {α β : Type} {q : Ex} {f : α → G → R β} : (R.exc q g : R α).bind f = .exc q g := rfl
@[simp] theorem rb_bad {α β : Type} {f : α → G → R β} : (R.bad : R α).bind f = .bad := rfl
@[simp] theorem ro_some {α : Type} {a : α} : R.ofO g (some a) = .ok a g := rfl
@[simp] theorem ro_none {α : Type} : R.ofO g (none : Option α) = .bad := rfl
@[simp] theorem fb_nx {f : Sl → G → Fl} : (Fl.nx s g).bind f = f s g := rfl
@[simp] theorem fb_ret {f : Sl → G → Fl} {fr : Bool} {d : D} : (Fl.ret fr d g).bind f = .ret fr d g := rfl
@[simp] theorem fb_exc {f : Sl → G → Fl} {q : Ex} : (Fl.exc q s g).bind f = .exc q s g := rfl
@[simp] theorem fb_bad {f : Sl → G → Fl} : (Fl.bad).bind f = .bad := rfl
@[simp] theorem li_ok {α : Type} {a : α} {f : α → G → Fl} : lift s (.ok a g) f = f a g := rfl
@[simp] theorem li_exc {α : Type} {q : Ex} {f : α → G → Fl} : lift s (.exc q g : R α) f = .exc q s g := rfl
@[simp] theorem li_bad {α : Type} {f : α → G → Fl} : lift s (.bad : R α) f = .bad := rfl
@[simp] theorem fin_val {r : R D} : fin .val r = r := rfl
@[simp] theorem fin_ok {d : D} : fin .tst (.ok d g) = R.ofO g (truth g d) := rfl
@[simp] theorem fin_exc {q : Ex} : fin m (.exc q g) = .exc q g := by cases m <;> rfl
@[simp] theorem fin_bad : fin m (.bad) = .bad := by cases m <;> rfl
@[simp] theorem truth_bl {k : Bool} : truth g (.bl k) = some (.bl k) := rfl
@[simp] theorem truth_non : truth g .non = some (.bl false) := rfl
@[simp] theorem truth_int {i : Int} : truth g (.int i) = some (.bl (i != 0)) := rfl
@[simp] theorem truth_tup {xs : List D} : truth g (.tup xs) = some (.bl (!xs.isEmpty)) := rfl
@[simp] theorem truth_lst {xs : List D} : truth g (.lst xs) = some (.bl (!xs.isEmpty)) := rfl
@[simp] theorem look_def {d : D} (h : s[i]? = some (.val d)) : look s i = some d := by unfold look; rw [h]
@[simp] theorem lookO_def {d : D} (h : s[i]? = some (.own d)) : lookO s i = some d := by unfold lookO; rw [h]
@[simp] theorem deref_non : deref g .non = some .non := rfl
@[simp] theorem deref_bl_ {k : Bool} : deref g (.bl k) = some (.bl k) := rfl
@[simp] theorem deref_int {k : Int} : deref g (.int k) = some (.int k) := rfl
@[simp] theorem deref_str {k : Txt} : deref g (.str k) = some (.str k) := rfl
@[simp] theorem deref_tup {k : List D} : deref g (.tup k) = some (.tup k) := rfl
@[simp] theorem deref_lst {k : List D} : deref g (.lst k) = some (.lst k) := rfl
@[simp] theorem deref_dic {k : List (D × D)} : deref g (.dic k) = some (.dic k) := rfl
@[simp] theorem at1_def {h : D → Option D} : at1 g x h = (deref g x).bind h := rfl
@[simp] theorem at2_def {h : D → D → Option D} : at2 g x y h = (deref g x).bind fun x => (deref g y).bind fun y => h x y := rfl
@[simp] theorem app1_def {p : P1} (h : p ≠ .enum) : app1 p g x = (deref g x).bind (prim1 p) := by cases p <;> first | rfl | exact absurd rfl h
@[simp] theorem app1_enum : app1 .enum g x = prim1 .enum x := rfl
/-! expressions -/
@[simp] theorem ze_lit {d : D} : ev cons F (.lit d) m s g = fin m (.ok d g) := rfl
@[simp] theorem ze_con {n : Nat} : ev cons F (.con n) m s g = fin m (R.ofO g cons[n]?) := rfl
@[simp] theorem ze_var : ev cons F (.var i) m s g = fin m (R.ofO g (look s i)) := rfl
@[simp] theorem ze_bor : ev cons F (.bor i) m s g = fin m (R.ofO g (lookO s i)) := rfl
@[simp] theorem ze_tup {es : Es} : ev cons F (.tup es) m s g = fin m ((evs cons F es s g).bind fun ds g => .ok (.tup ds) g) := rfl
@[simp] theorem ze_lst {es : Es} : ev cons F (.lst es) m s g = fin m ((evs cons F es s g).bind fun ds g => .ok (.lst ds) g) := rfl
@[simp] theorem ze_bin {o : Bop} : ev cons F (.bin o a b) m s g = fin m ((ev cons F a .val s g).bind fun x g => (ev cons F b .val s g).bind fun y g => R.ofO g (at2 g x y (bop o))) := rfl
@[simp] theorem ze_neg : ev cons F (.neg a) m s g = fin m ((ev cons F a .val s g).bind fun x g => match x with
    | .int i => .ok (.int (-i)) g
    | _ => .bad) := rfl
@[simp] theorem ze_not : ev cons F (.not_ a) m s g = fin m ((ev cons F a .tst s g).bind fun x g => match x with
    | .bl b => .ok (.bl (!b)) g
    | _ => .bad) := rfl
@[simp] theorem ze_andt : ev cons F (.and_ a b) .tst s g = (ev cons F a .tst s g).bind fun x g => if x = .bl true then ev cons F b .tst s g else .ok (.bl false) g := rfl
@[simp] theorem ze_andv : ev cons F (.and_ a b) .val s g = (ev cons F a .val s g).bind fun x g => match x with
      | .bl true => ev cons F b .val s g
      | .bl false => .ok (.bl false) g
      | _ => .bad := rfl
@[simp] theorem ze_ort : ev cons F (.or_ a b) .tst s g = (ev cons F a .tst s g).bind fun x g => if x = .bl true then .ok (.bl true) g else ev cons F b .tst s g := rfl
@[simp] theorem ze_orv : ev cons F (.or_ a b) .val s g = (ev cons F a .val s g).bind fun x g => match x with
      | .bl true => .ok (.bl true) g
      | .bl false => ev cons F b .val s g
      | _ => .bad := rfl
@[simp] theorem ze_ite : ev cons F (.ite c a b) m s g = (ev cons F c .tst s g).bind fun x g => if x = .bl true then ev cons F a m s g else ev cons F b m s g := rfl
@[simp] theorem ze_cmp {o : Cop} : ev cons F (.cmp o a b) m s g = fin m ((ev cons F a .val s g).bind fun x g => (ev cons F b .val s g).bind fun y g => R.ofO g (at2 g x y fun x y => (cop o x y).map .bl)) := rfl
@[simp] theorem ze_isN : ev cons F (.isN a) m s g = fin m ((ev cons F a .val s g).bind fun x g => .ok (.bl (decide (x = .non))) g) := rfl
@[simp] theorem ze_notN : ev cons F (.notN a) m s g = fin m ((ev cons F a .val s g).bind fun x g => .ok (.bl (!decide (x = .non))) g) := rfl
@[simp] theorem ze_idx : ev cons F (.idx a b) m s g = fin m ((ev cons F a .val s g).bind fun x g => (ev cons F b .val s g).bind fun y g => R.ofO g (at1 g x fun x => idx x y)) := rfl
@[simp] theorem ze_slc : ev cons F (.slc a b c) m s g = fin m ((ev cons F a .val s g).bind fun x g => ((ev cons F b .val s g).bind fun d g => R.ofO g (bd (isNon b) d)).bind fun l g => ((ev cons F c .val s g).bind fun d g => R.ofO g (bd (isNon c) d)).bind fun h g => R.ofO g (at1 g x fun x => slc x l h)) := rfl
@[simp] theorem ze_rev : ev cons F (.rev a) m s g = fin m ((ev cons F a .val s g).bind fun x g => R.ofO g (at1 g x rev)) := rfl
@[simp] theorem ze_isi {t : Ty} : ev cons F (.isi t a) m s g = fin m ((ev cons F a .val s g).bind fun x g => R.ofO g (at1 g x fun x => some (.bl (isTy t x)))) := rfl
@[simp] theorem ze_p1 {p : P1} : ev cons F (.p1 p a) m s g = fin m ((ev cons F a .val s g).bind fun x g => R.ofO g (app1 p g x)) := rfl
@[simp] theorem ze_p2 {p : P2} : ev cons F (.p2 p a b) m s g = fin m ((ev cons F a .val s g).bind fun x g => if isTxtD x = true then (ev cons F b .val s g).bind fun y g => R.ofO g (at2 g x y (prim2 p)) else .bad) := rfl
@[simp] theorem ze_find : ev cons F (.find a b c) m s g = fin m ((ev cons F a .val s g).bind fun x g => if isTxtD x = true then (ev cons F b .val s g).bind fun y g => (ev cons F c .val s g).bind fun z g => R.ofO g (findD x y z) else .bad) := rfl
@[simp] theorem ze_lstR {es : Es} : ev cons F (.lstR a b es) m s g = fin m ((ev cons F a .val s g).bind fun x g => (ev cons F b .val s g).bind fun y g => (evs cons F es s g).bind fun ds g => .ok (.lst (x :: y :: ds)) g) := rfl
@[simp] theorem ze_strike {n : Nat} : ev cons F (.strike a n) m s g = fin m ((ev cons F a .val s g).bind fun x g => R.ofO g (at1 g x (strikeD n))) := rfl
@[simp] theorem ze_chain {o p : Cop} : ev cons F (.chain o p a b c) m s g = fin m ((ev cons F a .val s g).bind fun x g => (ev cons F b .val s g).bind fun y g => match at2 g x y fun x y => (cop o x y).map .bl with
    | some (.bl true) => (ev cons F c .val s g).bind fun z g => R.ofO g (at2 g y z fun y z => (cop p y z).map .bl)
    | some (.bl false) => .ok (.bl false) g
    | _ => .bad) := rfl
@[simp] theorem isTxt_str {t : Txt} : isTxtD (.str t) = true := rfl
@[simp] theorem ze_call {f : Nat} {es : Es} : ev cons F (.call f es) m s g = fin m ((evs cons F es s g).bind fun ds g => F f ds g) := rfl
@[simp] theorem ze_callB {f : Nat} {es : Es} : ev cons F (.callB f es) m s g = fin m ((evs cons F es s g).bind fun ds g => if belows 0 ds = true then lent g (F f ds []) else .bad) := rfl
/-- a comprehension's items as such -/
def compG {α : Type} (f : α → G → R (Option D)) : List α → List D → G → R (List D)
  | [], acc, g => .ok acc g
  | x :: xs, acc, g => (noExc (f x g)).bind fun o g' => match o with
    | some d => compG f xs (acc ++ [d]) g'
    | none => compG f xs acc g'
@[simp] theorem compG_eq {α : Type} {f : D → G → R (Option D)} {enc : α → D} : ∀ (ts : List α) (acc : List D) (g : G), compL f (ts.map enc) acc g = compG (fun t g => f (enc t) g) ts acc g
  | [], acc, g => rfl
  | t :: ts, acc, g => by
    show (noExc (f (enc t) g)).bind _ = (noExc (f (enc t) g)).bind _
    congr 1
    funext o g'
    cases o with
    | some d => exact compG_eq ts _ g'
    | none => exact compG_eq ts _ g'
@[simp] theorem compG_ok {α : Type} {h : α → Option D} : ∀ (ts : List α) (acc : List D) (g : G), compG (fun t g => R.ok (h t) g) ts acc g = .ok (acc ++ ts.filterMap h) g
  | [], acc, g => by simp [compG]
  | t :: ts, acc, g => by
    show (match h t with
      | some d => compG (fun t g => R.ok (h t) g) ts (acc ++ [d]) g
      | none => compG (fun t g => R.ok (h t) g) ts acc g) = _
    cases q : h t with
    | none => simp only [List.filterMap_cons, q]; exact compG_ok ts acc g
    | some d => simp only [List.filterMap_cons, q]; rw [compG_ok ts (acc ++ [d]) g]; simp
/-- by what each item of the list gives -/
theorem compG_of {α : Type} {f : α → G → R (Option D)} {h : α → Option D} {g : G} : ∀ (ts : List α) (acc : List D), (∀ t ∈ ts, f t g = .ok (h t) g) → compG f ts acc g = .ok (acc ++ ts.filterMap h) g
  | [], acc, _ => by simp [compG]
  | t :: ts, acc, hf => by
    have e := hf t List.mem_cons_self
    have ih := fun acc => compG_of ts acc fun u hu => hf u (List.mem_cons_of_mem _ hu)
    show (noExc (f t g)).bind _ = _
    rw [e]
    show (match h t with
      | some d => compG f ts (acc ++ [d]) g
      | none => compG f ts acc g) = _
    cases q : h t with
    | none => simp only [List.filterMap_cons, q]; exact ih acc
    | some d => simp only [List.filterMap_cons, q]; rw [ih (acc ++ [d])]; simp
@[simp] theorem ite_ro {α : Type} {p : Prop} [Decidable p] {u v : Option α} : (if p then R.ok u g else R.ok v g) = R.ok (if p then u else v) g := by split <;> rfl
@[simp] theorem ze_lc {tg : Tg} {cs : Es} : ev cons F (.lc a tg b cs) m s g = fin m ((ev cons F b .val s g).bind fun d g => match itemsOf d with
    | none => .bad
    | some xs => (compL (fun x g => match bindT tg x (wipeS tg.slots s) with
        | none => .bad
        | some s' => (evc cons F cs s' g).bind fun b g => if b = true then (ev cons F a .val s' g).bind fun y g => .ok (some y) g else .ok none g) xs [] g).bind fun ys g => .ok (.lst ys) g) := rfl
@[simp] theorem zes_nil : evs cons F .nil s g = .ok [] g := rfl
@[simp] theorem zes_cons {es : Es} : evs cons F (.cons a es) s g = (ev cons F a .val s g).bind fun d g => (evs cons F es s g).bind fun ds g => .ok (d :: ds) g := rfl
@[simp] theorem zec_nil : evc cons F .nil s g = .ok true g := rfl
@[simp] theorem zec_cons {es : Es} : evc cons F (.cons a es) s g = (ev cons F a .tst s g).bind fun x g => .ok (decide (x = .bl true)) g := rfl
@[simp] theorem bindT_one {i : Nat} {d : D} : bindT (.one i) d s = some (s.set i (.val d)) := rfl
@[simp] theorem slots_one {i : Nat} : (Tg.one i).slots = [i] := rfl
@[simp] theorem slots_tup {is : List Nat} : (Tg.tup is).slots = is := rfl
@[simp] theorem wipeS_nil : wipeS [] s = s := rfl
@[simp] theorem wipeS_cons {i : Nat} {is : List Nat} : wipeS (i :: is) s = (wipeS is s).set i .un := rfl
@[simp] theorem bindT_tup {is : List Nat} {ds : List D} : bindT (.tup is) (.tup ds) s = if ds.length = is.length then some (setAll is ds s) else none := rfl
@[simp] theorem setAll_cons {i : Nat} {is : List Nat} {d : D} {ds : List D} : setAll (i :: is) (d :: ds) s = setAll is ds (s.set i (.val d)) := rfl
@[simp] theorem setAll_nil {ds : List D} : setAll [] ds s = s := by cases ds <;> rfl
/-! statements -/
variable {A B : S}
@[simp] theorem zs_nop : exec cons sub W F .nop s g = .nx s g := rfl
@[simp] theorem zs_seq : exec cons sub W F (.seq A B) s g = (exec cons sub W F A s g).bind fun s g => exec cons sub W F B s g := rfl
@[simp] theorem zs_set {k : K} : exec cons sub W F (.set i k a) s g = lift s (ev cons F a .val s g) fun d g => put1 k i d s g := rfl
@[simp] theorem zs_frz : exec cons sub W F (.frz i) s g = match lookO s i with
    | some d => .nx (s.set i (.val d)) g
    | none => .bad := rfl
@[simp] theorem zs_setP {ts : List (Nat × K)} {es : Es} : exec cons sub W F (.setP ts es) s g = lift s (evs cons F es s g) fun ds g => putAll ts ds s g := rfl
@[simp] theorem zs_unp {is : List Nat} : exec cons sub W F (.unp is a) s g = lift s (ev cons F a .val s g) fun d g => match bindT (.tup is) d s with
    | some s => .nx s g
    | none => .bad := rfl
@[simp] theorem zs_app : exec cons sub W F (.app i a) s g = match lookO s i with
    | some (.lst xs) => lift s (ev cons F a .val s g) fun d g => if xs.length < LIM then .nx (s.set i (.own (.lst (xs ++ [d])))) g else .bad
    | _ => .bad := rfl
@[simp] theorem zs_ext : exec cons sub W F (.ext i a) s g = match lookO s i with
    | some (.lst xs) => lift s (ev cons F a .val s g) fun d g => match d with
      | .lst ys => if xs.length + ys.length ≤ LIM then .nx (s.set i (.own (.lst (xs ++ ys)))) g else .bad
      | _ => .bad
    | _ => .bad := rfl
@[simp] theorem zs_aug {o : Bop} : exec cons sub W F (.aug i o a) s g = match look s i with
    | some x => lift s (ev cons F a .val s g) fun y g => match augD o x y with
      | some z => .nx (s.set i (.val z)) g
      | none => .bad
    | none => .bad := rfl
@[simp] theorem aug_add {p q : Int} : augD .add (.int p) (.int q) = some (.int (p + q)) := rfl
@[simp] theorem zs_if : exec cons sub W F (.if_ c A B) s g = lift s (ev cons F c .tst s g) fun x g => if x = .bl true then exec cons sub W F A s g else exec cons sub W F B s g := rfl
/-- the body of a loop, left as it is till it has its arguments -/
def loopF (cons : List D) (sub : Nat → Nat → Bool) (W : Nat) (F : Nat → List D → G → R D) (tg : Tg) (A : S) (x : D) (s : Sl) (g : G) : Fl := match bindT tg x s with
      | none => .bad
      | some s => exec cons sub W F A s g
@[simp] theorem loopF_app {tg : Tg} : loopF cons sub W F tg A x s g = match bindT tg x s with
      | none => .bad
      | some s => exec cons sub W F A s g := rfl
@[simp] theorem zs_for {tg : Tg} : exec cons sub W F (.for_ tg a A) s g = lift s (ev cons F a .val s g) fun d g => match itemsOf d with
    | none => .bad
    | some xs => forL (loopF cons sub W F tg A) xs s g := rfl
def whC (cons : List D) (F : Nat → List D → G → R D) (c : E) (s : Sl) (g : G) : R D := ev cons F c .tst s g
def whB (cons : List D) (sub : Nat → Nat → Bool) (W : Nat) (F : Nat → List D → G → R D) (A : S) (s : Sl) (g : G) : Fl := exec cons sub W F A s g
@[simp] theorem whC_app : whC cons F c s g = ev cons F c .tst s g := rfl
@[simp] theorem whB_app : whB cons sub W F A s g = exec cons sub W F A s g := rfl
@[simp] theorem zs_whl : exec cons sub W F (.whl c A) s g = whileL (whC cons F c) (whB cons sub W F A) W s g := rfl
@[simp] theorem zs_ret : exec cons sub W F (.ret a) s g = lift s (ev cons F a .val s g) fun d g => .ret false d g := rfl
@[simp] theorem zs_retO : exec cons sub W F (.retO i) s g = match lookO s i with
    | some d => .ret true d g
    | none => .bad := rfl
@[simp] theorem zs_retF : exec cons sub W F (.retF a) s g = lift s (ev cons F a .val s g) fun d g => if isCont d then .ret true d g else .bad := rfl
@[simp] theorem zs_ret0 : exec cons sub W F .ret0 s g = .ret false .non g := rfl
@[simp] theorem zs_rai {k : Nat} {es : Es} : exec cons sub W F (.rai k es) s g = lift s (evs cons F es s g) fun ds g => if flats ds = true then .exc ⟨k, ds⟩ s g else .bad := rfl
@[simp] theorem zs_try {hs : List (Nat × SE)} : exec cons sub W F (.try_ A hs) s g = match exec cons sub W F A s g with
    | .exc x s g => handle sub x s g hs
    | r => r := rfl
@[simp] theorem zs_expr : exec cons sub W F (.expr a) s g = lift s (ev cons F a .val s g) fun _ g => .nx s g := rfl
@[simp] theorem zs_put {k : E} : exec cons sub W F (.put i k a) s g = lift s (ev cons F a .val s g) fun d g => lift s (ev cons F k .val s g) fun kd g => match (lookO s i).bind fun c => store c kd d with
    | some c => .nx (s.set i (.own c)) g
    | none => .bad := rfl
@[simp] theorem put1_val {d : D} : put1 .val i d s g = .nx (s.set i (.val d)) g := rfl
@[simp] theorem put1_own {d : D} : put1 .own i d s g = if isCont d then .nx (s.set i (.own d)) g else .bad := rfl
@[simp] theorem putAll_cons {k : K} {d : D} {ts : List (Nat × K)} {ds : List D} : putAll ((i, k) :: ts) (d :: ds) s g = (put1 k i d s g).bind fun s g => putAll ts ds s g := rfl
@[simp] theorem putAll_nil : putAll [] [] s g = .nx s g := rfl
@[simp] theorem isCont_lst {xs : List D} : isCont (.lst xs) = true := rfl
@[simp] theorem isCont_dic {xs : List (D × D)} : isCont (.dic xs) = true := rfl
@[simp] theorem of_nx : ofFl false (.nx s g) = .ok .non g := rfl
@[simp] theorem of_ret {d : D} : ofFl false (.ret false d g) = .ok d g := rfl
@[simp] theorem of_retT {d : D} : ofFl true (.ret true d g) = if isCont d = true then .ok d g else .bad := by simp [ofFl]
@[simp] theorem of_exc {fr : Bool} {q : Ex} : ofFl fr (.exc q s g) = .exc q g := rfl
@[simp] theorem close_f {d : D} {r : R D} : close false g (.ok d g1) = .ok d g1 := rfl
@[simp] theorem close_fx {q : Ex} : close false g (.exc q g1) = .exc q g1 := rfl
/-! loops over encoded items: the body is left as it is -/
/-- what a turn of a loop may do: go on, return, raise -/
inductive Tu (σ : Type) where
  | go (v : σ) | ret (d : D) | exc (x : Ex)
def runT {α σ : Type} (f : σ → α → Tu σ) : List α → σ → Tu σ
  | [], v => .go v
  | t :: ts, v => match f v t with
    | .go v => runT f ts v
    | r => r
/-- a loop as a run; the heap stays; y: slots of no weight; P: what holds of the state -/
theorem for_run {α σ τ : Type} {f : D → Sl → G → Fl} {enc : α → D} (L : σ → τ → Sl) (step : σ → α → Tu σ) (P : Nat → σ → Prop) {fr : Bool} {g : G} : ∀ (ts : List α) (k : Nat) (v : σ) (y : τ), P k v →
    (∀ i t, ts[i]? = some t → ∀ v y, P (k + i) v → match step v t with
      | .go v' => (∃ y', f (enc t) (L v y) g = .nx (L v' y') g) ∧ P (k + i + 1) v'
      | .ret d => f (enc t) (L v y) g = .ret fr d g
      | .exc x => ∃ s', f (enc t) (L v y) g = .exc x s' g) →
    match runT step ts v with
      | .go v' => (∃ y', forL f (ts.map enc) (L v y) g = .nx (L v' y') g) ∧ P (k + ts.length) v'
      | .ret d => forL f (ts.map enc) (L v y) g = .ret fr d g
      | .exc x => ∃ s', forL f (ts.map enc) (L v y) g = .exc x s' g
  | [], k, v, y, hp, _ => ⟨⟨y, rfl⟩, hp⟩
  | t :: ts, k, v, y, hp, h => by
    have ht := h 0 t rfl v y hp
    unfold runT
    have un : forL f ((t :: ts).map enc) (L v y) g = (f (enc t) (L v y) g).bind fun s g => forL f (ts.map enc) s g := rfl
    cases q : step v t with
    | go v' =>
      rw [q] at ht
      obtain ⟨⟨y', e⟩, hp'⟩ := ht
      have ih := for_run L step P (fr := fr) (f := f) (enc := enc) (g := g) ts (k + 1) v' y' hp' fun i u hu v y hp => by
        have := h (i + 1) u (by simpa using hu) v y (by rw [show k + (i + 1) = k + 1 + i by omega]; exact hp)
        rw [show k + (i + 1) + 1 = k + 1 + i + 1 by omega] at this
        exact this
      rw [un, e]
      rw [show k + (t :: ts).length = k + 1 + ts.length by simp; omega]
      exact ih
    | ret d => rw [q] at ht; rw [un, ht]; rfl
    | exc x =>
      rw [q] at ht
      obtain ⟨s', e⟩ := ht
      exact ⟨s', by rw [un, e]; rfl⟩
/-- a loop as a fold -/
theorem for_fold {α σ τ : Type} {f : D → Sl → G → Fl} {enc : α → D} (L : σ → τ → Sl) (step : σ → α → σ) (P : Nat → σ → Prop) (v0 : σ) (y0 : τ) {ts : List α} {s : Sl} {g : G} {k : Sl → G → Fl} {r : Fl} (hs : s = L v0 y0) (hp : P 0 v0)
    (h : ∀ i t, ts[i]? = some t → i < ts.length → ∀ v y, P i v → (∃ y', f (enc t) (L v y) g = .nx (L (step v t) y') g) ∧ P (i + 1) (step v t)) (hk : P ts.length (ts.foldl step v0) → ∀ y, k (L (ts.foldl step v0) y) g = r) : (forL f (ts.map enc) s g).bind k = r := by
  have e : ∀ (ts : List α) (v : σ), runT (fun v t => Tu.go (step v t)) ts v = .go (ts.foldl step v) := by
    intro ts
    induction ts with
    | nil => intro v; rfl
    | cons t ts ih => intro v; exact ih (step v t)
  have := for_run (f := f) (enc := enc) L (fun v t => .go (step v t)) P (fr := false) (g := g) ts 0 v0 y0 hp (fun i t ht v y hp => by
    have := h i t ht (List.getElem?_eq_some_iff.mp ht).1 v y (by simpa using hp)
    simpa using this)
  rw [e] at this
  obtain ⟨⟨y', q⟩, hp'⟩ := this
  rw [hs, q]
  exact hk (by simpa using hp') y'
/-- a loop that may return or raise -/
theorem for_tu {α σ τ : Type} {f : D → Sl → G → Fl} {enc : α → D} (L : σ → τ → Sl) (step : σ → α → Tu σ) (P : Nat → σ → Prop) (v0 : σ) (y0 : τ) {fr : Bool} {ts : List α} {s : Sl} {g : G} {k : Sl → G → Fl} (hs : s = L v0 y0) (hp : P 0 v0)
    (h : ∀ i t, ts[i]? = some t → i < ts.length → ∀ v y, P i v → match step v t with
      | .go v' => (∃ y', f (enc t) (L v y) g = .nx (L v' y') g) ∧ P (i + 1) v'
      | .ret d => f (enc t) (L v y) g = .ret fr d g
      | .exc x => ∃ s', f (enc t) (L v y) g = .exc x s' g) :
    match runT step ts v0 with
      | .go v' => P ts.length v' ∧ ∃ y', (forL f (ts.map enc) s g).bind k = k (L v' y') g
      | .ret d => (forL f (ts.map enc) s g).bind k = .ret fr d g
      | .exc x => ∃ s', (forL f (ts.map enc) s g).bind k = .exc x s' g := by
  have := for_run (f := f) (enc := enc) L step P (fr := fr) (g := g) ts 0 v0 y0 hp (fun i t ht v y hp => by
    have := h i t ht (List.getElem?_eq_some_iff.mp ht).1 v y (by simpa using hp)
    revert this
    cases step v t <;> simp)
  rw [← hs] at this
  revert this
  cases runT step ts v0 with
  | go v' =>
    intro ⟨⟨y', q⟩, hp'⟩
    exact ⟨by simpa using hp', y', by rw [q]; rfl⟩
  | ret d =>
    intro (q : _ = _)
    show (forL f (ts.map enc) s g).bind k = _
    rw [q]; rfl
  | exc x =>
    intro ⟨s', q⟩
    exact ⟨s', by rw [q]; rfl⟩
/-- the same, backwards -/
theorem for_turn {α σ τ : Type} {f : D → Sl → G → Fl} {enc : α → D} (L : σ → τ → Sl) (step : σ → α → Tu σ) (P : Nat → σ → Prop) (v0 : σ) (y0 : τ) (fr : Bool) {ts : List α} {s : Sl} {g : G} {k : Sl → G → Fl} {r : Fl} (hs : s = L v0 y0) (hp : P 0 v0)
    (h : ∀ i t, ts[i]? = some t → i < ts.length → ∀ v y, P i v → match step v t with
      | .go v' => (∃ y', f (enc t) (L v y) g = .nx (L v' y') g) ∧ P (i + 1) v'
      | .ret d => f (enc t) (L v y) g = .ret fr d g
      | .exc x => ∃ s', f (enc t) (L v y) g = .exc x s' g)
    (hk : match runT step ts v0 with
      | .go v' => P ts.length v' → ∀ y, k (L v' y) g = r
      | .ret d => .ret fr d g = r
      | .exc x => ∀ s', .exc x s' g = r) : (forL f (ts.map enc) s g).bind k = r := by
  have e := for_tu (f := f) (enc := enc) L step P v0 y0 (fr := fr) (ts := ts) (s := s) (g := g) (k := k) hs hp h
  revert e hk
  cases runT step ts v0 with
  | go v =>
    intro hk ⟨a, y, e⟩
    rw [e]; exact hk a y
  | ret d => intro (hk : _ = r) (e : _ = _); rw [e]; exact hk
  | exc x => intro hk ⟨s', e⟩; rw [e]; exact hk s'
/-- a loop that ends a def -/
theorem for_end {α σ τ : Type} {f : D → Sl → G → Fl} {enc : α → D} (L : σ → τ → Sl) (step : σ → α → Tu σ) (P : Nat → σ → Prop) (v0 : σ) (y0 : τ) (fr' : Bool) {ts : List α} {s : Sl} {g : G} {p fr : Bool} {q : R D} (hs : s = L v0 y0) (hp : P 0 v0)
    (h : ∀ i t, ts[i]? = some t → i < ts.length → ∀ v y, P i v → match step v t with
      | .go v' => (∃ y', f (enc t) (L v y) g = .nx (L v' y') g) ∧ P (i + 1) v'
      | .ret d => f (enc t) (L v y) g = .ret fr' d g
      | .exc x => ∃ s', f (enc t) (L v y) g = .exc x s' g)
    (hk : match runT step ts v0 with
      | .go v' => P ts.length v' → ∀ y, close p g (ofFl fr (.nx (L v' y) g)) = q
      | .ret d => close p g (ofFl fr (.ret fr' d g)) = q
      | .exc x => close p g (.exc x g) = q) : close p g (ofFl fr (forL f (ts.map enc) s g)) = q := by
  have e := for_run (f := f) (enc := enc) L step P (fr := fr') (g := g) ts 0 v0 y0 hp (fun i t ht v y hp => by
    have := h i t ht (List.getElem?_eq_some_iff.mp ht).1 v y (by simpa using hp)
    revert this
    cases step v t <;> simp)
  rw [← hs] at e
  revert e hk
  cases runT step ts v0 with
  | go v =>
    intro hk ⟨⟨y, e⟩, a⟩
    rw [e]; exact hk (by simpa using a) y
  | ret d => intro (hk : _ = q) (e : _ = _); rw [e]; exact hk
  | exc x => intro hk ⟨s', e⟩; rw [e]; exact hk
theorem bind_nx {x : Fl} : x.bind .nx = x := by cases x <;> rfl
@[simp] theorem nat_cast_eq {a b : Nat} : ((a : Int) = (b : Int)) ↔ a = b := Int.natCast_inj
@[simp] theorem compL_nil {f : D → G → R (Option D)} {acc : List D} : compL f [] acc g = .ok acc g := rfl
@[simp] theorem compL_cons {f : D → G → R (Option D)} {acc xs : List D} : compL f (x :: xs) acc g = (noExc (f x g)).bind fun o g' => match o with
    | some d => compL f xs (acc ++ [d]) g'
    | none => compL f xs acc g' := rfl
@[simp] theorem noExc_ok {α : Type} {u : α} : noExc (.ok u g) = .ok u g := rfl
@[simp] theorem fm_if_ {α : Type} {h : α → D} {p : α → Prop} [DecidablePred p] (ts : List α) : ts.filterMap (fun t => if p t then some (h t) else none) = (ts.filter fun t => decide (p t)).map h := by
  induction ts with
  | nil => rfl
  | cons t ts ih => by_cases q : p t <;> simp [List.filterMap_cons, q, ih]
@[simp] theorem fm_ifn_ {α : Type} {h : α → D} {p : α → Prop} [DecidablePred p] (ts : List α) : ts.filterMap (fun t => if p t then none else some (h t)) = (ts.filter fun t => !decide (p t)).map h := by
  induction ts with
  | nil => rfl
  | cons t ts ih => by_cases q : p t <;> simp [List.filterMap_cons, q, ih]
@[simp] theorem fm_some_ {α : Type} {h : α → D} (ts : List α) : ts.filterMap (fun t => some (h t)) = ts.map h := by
  induction ts with
  | nil => rfl
  | cons t ts ih => simp [List.filterMap_cons, ih]
end
/-! places -/
@[simp] theorem idx_tup {xs : List D} {i : Int} : idx (.tup xs) (.int i) = getI xs i := rfl
@[simp] theorem idx_lst {xs : List D} {i : Int} : idx (.lst xs) (.int i) = getI xs i := rfl
@[simp] theorem getI_nat_ {α : Type} {xs : List α} {k : Nat} : getI xs (k : Int) = xs[k]? := by
  unfold getI ixOf
  by_cases h : k < xs.length
  · simp [h]
  · simp [h]
@[simp] theorem getI_0 {α : Type} {xs : List α} : getI xs 0 = xs[0]? := getI_nat_ (k := 0)
@[simp] theorem getI_1 {α : Type} {xs : List α} : getI xs 1 = xs[1]? := getI_nat_ (k := 1)
@[simp] theorem getI_2 {α : Type} {xs : List α} : getI xs 2 = xs[2]? := getI_nat_ (k := 2)
@[simp] theorem getI_3 {α : Type} {xs : List α} : getI xs 3 = xs[3]? := getI_nat_ (k := 3)
@[simp] theorem getI_m1 {α : Type} {xs : List α} : getI xs (-1) = xs.getLast? := by
  unfold getI ixOf
  rw [List.getLast?_eq_getElem?]
  cases xs with
  | nil => rfl
  | cons x xs =>
    have h : 0 ≤ -1 + ((x :: xs).length : Int) := by simp; omega
    simp only [show ¬ (0 : Int) ≤ -1 by omega, if_false, h, if_true]
    show (x :: xs)[(-1 + ((x :: xs).length : Int)).toNat]? = _
    congr 1
    simp
    omega
@[simp] theorem cut_2 {α : Type} {x y : α} {xs : List α} : PX.cut (x :: y :: xs) (some 2) none = xs := by simp [PX.cut, cutAt]
@[simp] theorem bop_add_int {a b : Int} : bop .add (.int a) (.int b) = some (.int (a + b)) := rfl
@[simp] theorem bop_sub_int {a b : Int} : bop .sub (.int a) (.int b) = some (.int (a - b)) := rfl
@[simp] theorem cop_lt_int {a b : Int} : cop .lt (.int a) (.int b) = some (decide (a < b)) := rfl
@[simp] theorem cop_le_int {a b : Int} : cop .le (.int a) (.int b) = some (decide (a ≤ b)) := rfl
@[simp] theorem cop_gt_int {a b : Int} : cop .gt (.int a) (.int b) = some (decide (b < a)) := rfl
@[simp] theorem cop_ge_int {a b : Int} : cop .ge (.int a) (.int b) = some (decide (b ≤ a)) := rfl
@[simp] theorem cop_eq_int {a b : Int} : cop .eq (.int a) (.int b) = some (decide (a = b)) := eq_int
@[simp] theorem cop_ne_int {a b : Int} : cop .ne (.int a) (.int b) = some (!decide (a = b)) := by rw [ne_int]; simp
@[simp] theorem items_tup {xs : List D} : itemsOf (.tup xs) = some xs := rfl
@[simp] theorem items_lst {xs : List D} : itemsOf (.lst xs) = some xs := rfl
@[simp] theorem p_len_tup {xs : List D} : prim1 .len (.tup xs) = some (.int xs.length) := rfl
@[simp] theorem p_len_lst {xs : List D} : prim1 .len (.lst xs) = some (.int xs.length) := rfl
@[simp] theorem p_list_tup {xs : List D} : prim1 .list (.tup xs) = some (.lst xs) := rfl
@[simp] theorem p_list_lst {xs : List D} : prim1 .list (.lst xs) = some (.lst xs) := rfl
@[simp] theorem p_tuple_tup {xs : List D} : prim1 .tuple (.tup xs) = some (.tup xs) := rfl
@[simp] theorem p_tuple_lst {xs : List D} : prim1 .tuple (.lst xs) = some (.tup xs) := rfl
theorem bools_map_ {α : Type} (f : α → Bool) : ∀ ts : List α, bools? (ts.map fun t => D.bl (f t)) = some (ts.map f)
  | [] => rfl
  | t :: ts => by
    show (bools? (ts.map fun t => D.bl (f t))).map (f t :: ·) = _
    rw [bools_map_ f ts]
    rfl
@[simp] theorem p_any {α : Type} {f : α → Bool} {ts : List α} : prim1 .any (.lst (ts.map fun t => D.bl (f t))) = some (.bl (ts.any f)) := by
  show (bools? _).map _ = _
  rw [bools_map_]
  simp [List.any_map]
@[simp] theorem p_all {α : Type} {f : α → Bool} {ts : List α} : prim1 .all (.lst (ts.map fun t => D.bl (f t))) = some (.bl (ts.all f)) := by
  show (bools? _).map _ = _
  rw [bools_map_]
  simp [List.all_map]
theorem p_range_nat {k : Nat} (h : k ≤ 16777216) : prim1 .range (.int (k : Int)) = some (.lst ((List.range' 0 k).map nat)) := by
  show (if -(2 ^ 62) ≤ (k : Int) ∧ (k : Int) ≤ 16777216 then some (D.lst (rangeL 0 (k : Int).toNat)) else none) = _
  rw [if_pos ⟨by omega, by omega⟩]
  rfl
@[simp] theorem bd_non : bd (isNon (.lit .non)) .non = some none := rfl
@[simp] theorem bd_int {k i : Int} : bd (isNon (.lit (.int k))) (.int i) = some (some i) := rfl
@[simp] theorem slc_tup {xs : List D} {lo hi : Option Int} : slc (.tup xs) lo hi = some (.tup (PX.cut xs lo hi)) := rfl
@[simp] theorem slc_lst {xs : List D} {lo hi : Option Int} : slc (.lst xs) lo hi = some (.lst (PX.cut xs lo hi)) := rfl
@[simp] theorem rev_tup {xs : List D} : rev (.tup xs) = some (.tup xs.reverse) := rfl
@[simp] theorem isTy_tt {xs : List D} : isTy .tuple (.tup xs) = true := rfl
@[simp] theorem isTy_tl {xs : List D} : isTy .tuple (.lst xs) = false := rfl
@[simp] theorem isTy_tn : isTy .tuple .non = false := rfl
@[simp] theorem isTy_ts {s : Txt} : isTy .tuple (.str s) = false := rfl
@[simp] theorem isTy_ti {i : Int} : isTy .tuple (.int i) = false := rfl
@[simp] theorem isTy_ss {s : Txt} : isTy .str (.str s) = true := rfl
@[simp] theorem isTy_si {i : Int} : isTy .str (.int i) = false := rfl
@[simp] theorem isTy_sn : isTy .str .non = false := rfl
@[simp] theorem isTy_st {xs : List D} : isTy .str (.tup xs) = false := rfl
@[simp] theorem isTy_sl {xs : List D} : isTy .str (.lst xs) = false := rfl
@[simp] theorem isTy_sb {k : Bool} : isTy .str (.bl k) = false := rfl
@[simp] theorem isTy_ii {i : Int} : isTy .int (.int i) = true := rfl
@[simp] theorem isTy_ib {k : Bool} : isTy .int (.bl k) = true := rfl
@[simp] theorem isTy_in : isTy .int .non = false := rfl
@[simp] theorem isTy_is {s : Txt} : isTy .int (.str s) = false := rfl
@[simp] theorem isTy_it {xs : List D} : isTy .int (.tup xs) = false := rfl
@[simp] theorem isTy_bi {i : Int} : isTy .bool (.int i) = false := rfl
@[simp] theorem isTy_bb {k : Bool} : isTy .bool (.bl k) = true := rfl
@[simp] theorem isTy_bn : isTy .bool .non = false := rfl
@[simp] theorem isTy_bs {s : Txt} : isTy .bool (.str s) = false := rfl
@[simp] theorem isTy_bt {xs : List D} : isTy .bool (.tup xs) = false := rfl
@[simp] theorem lent_ok {g g1 : G} {d : D} : lent g (.ok d g1) = if flat d = true then .ok d g else .bad := rfl
@[simp] theorem flat_bl {k : Bool} : flat (.bl k) = true := id rfl
@[simp] theorem flat_int {k : Int} : flat (.int k) = true := id rfl
@[simp] theorem flat_str {k : Txt} : flat (.str k) = true := id rfl
@[simp] theorem flat_non : flat .non = true := id rfl
@[simp] theorem flats_nil : flats [] = true := id rfl
@[simp] theorem flats_cons {x : D} {xs : List D} : flats (x :: xs) = (flat x && flats xs) := id rfl
@[simp] theorem deref_nat {g : G} {k : Nat} : deref g (nat k) = some (nat k) := rfl
@[simp] theorem belows_nat {m : Nat} {xs : List Nat} : PX.belows m (xs.map nat) = true := by
  induction xs with
  | nil => rfl
  | cons x xs ih => show (PX.below m (nat x) && PX.belows m (xs.map nat)) = true; rw [ih]; rfl
@[simp] theorem enum_map {α : Type} {f : α → D} : ∀ (xs : List α) (k : Nat), enumL k (xs.map f) = (xs.zipIdx k).map fun p => .tup [nat p.2, f p.1]
  | [], k => rfl
  | x :: xs, k => by
    show D.tup [.int (k : Int), f x] :: enumL (k + 1) (xs.map f) = _
    rw [enum_map xs (k + 1)]; rfl
@[simp] theorem p_enum_tup {xs : List D} : prim1 .enum (.tup xs) = some (.lst (enumL 0 xs)) := rfl
@[simp] theorem p_enum_lst {xs : List D} : prim1 .enum (.lst xs) = some (.lst (enumL 0 xs)) := rfl
/-! no places -/
@[simp] theorem below_non {m : Nat} : PX.below m .non = true := id rfl
@[simp] theorem below_bl {m : Nat} {k : Bool} : PX.below m (.bl k) = true := id rfl
@[simp] theorem below_int {m : Nat} {k : Int} : PX.below m (.int k) = true := id rfl
@[simp] theorem below_str {m : Nat} {k : Txt} : PX.below m (.str k) = true := id rfl
@[simp] theorem below_tup {m : Nat} {xs : List D} : PX.below m (.tup xs) = PX.belows m xs := id rfl
@[simp] theorem below_lst {m : Nat} {xs : List D} : PX.below m (.lst xs) = PX.belows m xs := id rfl
@[simp] theorem belows_nil {m : Nat} : PX.belows m [] = true := id rfl
@[simp] theorem belows_cons {m : Nat} {x : D} {xs : List D} : PX.belows m (x :: xs) = (PX.below m x && PX.belows m xs) := id rfl
theorem belows_map {α : Type} {f : α → D} {m : Nat} (h : ∀ a, PX.below m (f a) = true) : ∀ xs : List α, PX.belows m (xs.map f) = true
  | [] => rfl
  | x :: xs => by simp [h, belows_map h xs]
@[simp] theorem belows_app {m : Nat} : ∀ {xs ys : List D}, PX.belows m (xs ++ ys) = (PX.belows m xs && PX.belows m ys)
  | [], ys => by simp
  | x :: xs, ys => by simp [belows_app (xs := xs) (ys := ys), Bool.and_assoc]
@[simp] theorem close_t {g : G} {d : D} (h : PX.below g.length d = true) : close true g (.ok d g) = .ok d g := close_ok h
@[simp] theorem close_tx {g : G} {q : Ex} (h : PX.belows g.length q.args = true) : close true g (.exc q g) = .exc q g := by
  show (if true = true then (if g.take g.length = g ∧ PX.belows g.length q.args = true then R.exc q g else .bad) else .exc q g) = _
  rw [if_pos rfl, if_pos ⟨List.take_length, h⟩]
/-! texts -/
/-- a text as a value -/
abbrev tx (s : String) : D := .str (T s)
theorem T_inj {a b : String} (h : T a = T b) : a = b := by
  have key : ∀ xs ys : List Char, xs.map Char.toNat = ys.map Char.toNat → xs = ys := by
    intro xs
    induction xs with
    | nil => intro ys h; cases ys with
      | nil => rfl
      | cons y ys => simp at h
    | cons x xs ih =>
      intro ys h
      cases ys with
      | nil => simp at h
      | cons y ys =>
        simp only [List.map_cons, List.cons.injEq] at h
        rw [Char.toNat_inj.mp h.1, ih ys h.2]
  exact String.toList_inj.mp (key _ _ h)
theorem T_iff {a b : String} : T a = T b ↔ a = b := ⟨T_inj, fun h => h ▸ rfl⟩
theorem T_ok (a : String) : TxOk (T a) := by
  show (T a).all _ = true
  unfold T
  rw [List.all_eq_true]
  intro c hc
  obtain ⟨x, _, rfl⟩ := List.mem_map.mp hc
  have := x.valid
  have h2 : x.toNat < 0x110000 := by
    rcases this with h | h
    · have : x.toNat < 0xd800 := h
      omega
    · exact h.2
  simpa using h2
@[simp] theorem cop_eq_tx {a b : String} : cop .eq (tx a) (tx b) = some (decide (a = b)) := by
  rw [eq_str (T_ok a) (T_ok b)]
  by_cases h : a = b
  · subst h; simp
  · rw [decide_eq_false h, beq_eq_false_iff_ne.mpr fun e => h (T_inj e)]
theorem cop_ne_of {x y : D} {k : Bool} (h : cop .eq x y = some k) : cop .ne x y = some (!k) := by
  have e1 : cop .eq x y = (if eqOk x y then some (eqv x y) else none) := rfl
  have e2 : cop .ne x y = (if eqOk x y then some (!eqv x y) else none) := rfl
  rw [e2]
  rw [e1] at h
  split at h
  · rename_i q
    rw [if_pos q]
    rw [Option.some.inj h]
  · exact absurd h (by simp)
@[simp] theorem cop_ne_tx {a b : String} : cop .ne (tx a) (tx b) = some (!decide (a = b)) := cop_ne_of cop_eq_tx
theorem isInL_tx {x : String} {xs : List String} : isInL (tx x) (xs.map tx) = some (decide (x ∈ xs)) := by
  have h := isInL_strs (x := T x) (xs := xs.map T) (T_ok x) (fun y hy => by
    obtain ⟨z, _, rfl⟩ := List.mem_map.mp hy
    exact T_ok z)
  rw [List.map_map] at h
  rw [show xs.map tx = xs.map (D.str ∘ T) from rfl, h]
  congr 1
  apply decide_eq_decide.mpr
  constructor
  · intro m
    obtain ⟨z, hz, e⟩ := List.mem_map.mp m
    rw [← T_inj e]; exact hz
  · intro m; exact List.mem_map.mpr ⟨x, m, rfl⟩
@[simp] theorem cop_inn_tx {x : String} {xs : List String} : cop .inn (tx x) (.lst (xs.map tx)) = some (decide (x ∈ xs)) := isInL_tx
@[simp] theorem cop_inn_txt {x : String} {xs : List String} : cop .inn (tx x) (.tup (xs.map tx)) = some (decide (x ∈ xs)) := isInL_tx
@[simp] theorem cop_nin_tx {x : String} {xs : List String} : cop .nin (tx x) (.lst (xs.map tx)) = some (!decide (x ∈ xs)) := by
  show (isInL _ _).map _ = _
  rw [isInL_tx]; rfl
@[simp] theorem cop_nin_txt {x : String} {xs : List String} : cop .nin (tx x) (.tup (xs.map tx)) = some (!decide (x ∈ xs)) := by
  show (isInL _ _).map _ = _
  rw [isInL_tx]; rfl
@[simp] theorem inn_t1 {x a0 : String} : cop .inn (tx x) (.tup [tx a0]) = some (decide (x ∈ [a0])) := cop_inn_txt (xs := [a0])
@[simp] theorem nin_t1 {x a0 : String} : cop .nin (tx x) (.tup [tx a0]) = some (!decide (x ∈ [a0])) := cop_nin_txt (xs := [a0])
@[simp] theorem inn_l1 {x a0 : String} : cop .inn (tx x) (.lst [tx a0]) = some (decide (x ∈ [a0])) := cop_inn_tx (xs := [a0])
@[simp] theorem nin_l1 {x a0 : String} : cop .nin (tx x) (.lst [tx a0]) = some (!decide (x ∈ [a0])) := cop_nin_tx (xs := [a0])
@[simp] theorem inn_t2 {x a0 a1 : String} : cop .inn (tx x) (.tup [tx a0, tx a1]) = some (decide (x ∈ [a0, a1])) := cop_inn_txt (xs := [a0, a1])
@[simp] theorem nin_t2 {x a0 a1 : String} : cop .nin (tx x) (.tup [tx a0, tx a1]) = some (!decide (x ∈ [a0, a1])) := cop_nin_txt (xs := [a0, a1])
@[simp] theorem inn_l2 {x a0 a1 : String} : cop .inn (tx x) (.lst [tx a0, tx a1]) = some (decide (x ∈ [a0, a1])) := cop_inn_tx (xs := [a0, a1])
@[simp] theorem nin_l2 {x a0 a1 : String} : cop .nin (tx x) (.lst [tx a0, tx a1]) = some (!decide (x ∈ [a0, a1])) := cop_nin_tx (xs := [a0, a1])
@[simp] theorem inn_t3 {x a0 a1 a2 : String} : cop .inn (tx x) (.tup [tx a0, tx a1, tx a2]) = some (decide (x ∈ [a0, a1, a2])) := cop_inn_txt (xs := [a0, a1, a2])
@[simp] theorem nin_t3 {x a0 a1 a2 : String} : cop .nin (tx x) (.tup [tx a0, tx a1, tx a2]) = some (!decide (x ∈ [a0, a1, a2])) := cop_nin_txt (xs := [a0, a1, a2])
@[simp] theorem inn_l3 {x a0 a1 a2 : String} : cop .inn (tx x) (.lst [tx a0, tx a1, tx a2]) = some (decide (x ∈ [a0, a1, a2])) := cop_inn_tx (xs := [a0, a1, a2])
@[simp] theorem nin_l3 {x a0 a1 a2 : String} : cop .nin (tx x) (.lst [tx a0, tx a1, tx a2]) = some (!decide (x ∈ [a0, a1, a2])) := cop_nin_tx (xs := [a0, a1, a2])
@[simp] theorem inn_t4 {x a0 a1 a2 a3 : String} : cop .inn (tx x) (.tup [tx a0, tx a1, tx a2, tx a3]) = some (decide (x ∈ [a0, a1, a2, a3])) := cop_inn_txt (xs := [a0, a1, a2, a3])
@[simp] theorem nin_t4 {x a0 a1 a2 a3 : String} : cop .nin (tx x) (.tup [tx a0, tx a1, tx a2, tx a3]) = some (!decide (x ∈ [a0, a1, a2, a3])) := cop_nin_txt (xs := [a0, a1, a2, a3])
@[simp] theorem inn_l4 {x a0 a1 a2 a3 : String} : cop .inn (tx x) (.lst [tx a0, tx a1, tx a2, tx a3]) = some (decide (x ∈ [a0, a1, a2, a3])) := cop_inn_tx (xs := [a0, a1, a2, a3])
@[simp] theorem nin_l4 {x a0 a1 a2 a3 : String} : cop .nin (tx x) (.lst [tx a0, tx a1, tx a2, tx a3]) = some (!decide (x ∈ [a0, a1, a2, a3])) := cop_nin_tx (xs := [a0, a1, a2, a3])
@[simp] theorem inn_t5 {x a0 a1 a2 a3 a4 : String} : cop .inn (tx x) (.tup [tx a0, tx a1, tx a2, tx a3, tx a4]) = some (decide (x ∈ [a0, a1, a2, a3, a4])) := cop_inn_txt (xs := [a0, a1, a2, a3, a4])
@[simp] theorem nin_t5 {x a0 a1 a2 a3 a4 : String} : cop .nin (tx x) (.tup [tx a0, tx a1, tx a2, tx a3, tx a4]) = some (!decide (x ∈ [a0, a1, a2, a3, a4])) := cop_nin_txt (xs := [a0, a1, a2, a3, a4])
@[simp] theorem inn_l5 {x a0 a1 a2 a3 a4 : String} : cop .inn (tx x) (.lst [tx a0, tx a1, tx a2, tx a3, tx a4]) = some (decide (x ∈ [a0, a1, a2, a3, a4])) := cop_inn_tx (xs := [a0, a1, a2, a3, a4])
@[simp] theorem nin_l5 {x a0 a1 a2 a3 a4 : String} : cop .nin (tx x) (.lst [tx a0, tx a1, tx a2, tx a3, tx a4]) = some (!decide (x ∈ [a0, a1, a2, a3, a4])) := cop_nin_tx (xs := [a0, a1, a2, a3, a4])
@[simp] theorem inn_t6 {x a0 a1 a2 a3 a4 a5 : String} : cop .inn (tx x) (.tup [tx a0, tx a1, tx a2, tx a3, tx a4, tx a5]) = some (decide (x ∈ [a0, a1, a2, a3, a4, a5])) := cop_inn_txt (xs := [a0, a1, a2, a3, a4, a5])
@[simp] theorem nin_t6 {x a0 a1 a2 a3 a4 a5 : String} : cop .nin (tx x) (.tup [tx a0, tx a1, tx a2, tx a3, tx a4, tx a5]) = some (!decide (x ∈ [a0, a1, a2, a3, a4, a5])) := cop_nin_txt (xs := [a0, a1, a2, a3, a4, a5])
@[simp] theorem inn_l6 {x a0 a1 a2 a3 a4 a5 : String} : cop .inn (tx x) (.lst [tx a0, tx a1, tx a2, tx a3, tx a4, tx a5]) = some (decide (x ∈ [a0, a1, a2, a3, a4, a5])) := cop_inn_tx (xs := [a0, a1, a2, a3, a4, a5])
@[simp] theorem nin_l6 {x a0 a1 a2 a3 a4 a5 : String} : cop .nin (tx x) (.lst [tx a0, tx a1, tx a2, tx a3, tx a4, tx a5]) = some (!decide (x ∈ [a0, a1, a2, a3, a4, a5])) := cop_nin_tx (xs := [a0, a1, a2, a3, a4, a5])
@[simp] theorem inn_t7 {x a0 a1 a2 a3 a4 a5 a6 : String} : cop .inn (tx x) (.tup [tx a0, tx a1, tx a2, tx a3, tx a4, tx a5, tx a6]) = some (decide (x ∈ [a0, a1, a2, a3, a4, a5, a6])) := cop_inn_txt (xs := [a0, a1, a2, a3, a4, a5, a6])
@[simp] theorem nin_t7 {x a0 a1 a2 a3 a4 a5 a6 : String} : cop .nin (tx x) (.tup [tx a0, tx a1, tx a2, tx a3, tx a4, tx a5, tx a6]) = some (!decide (x ∈ [a0, a1, a2, a3, a4, a5, a6])) := cop_nin_txt (xs := [a0, a1, a2, a3, a4, a5, a6])
@[simp] theorem inn_l7 {x a0 a1 a2 a3 a4 a5 a6 : String} : cop .inn (tx x) (.lst [tx a0, tx a1, tx a2, tx a3, tx a4, tx a5, tx a6]) = some (decide (x ∈ [a0, a1, a2, a3, a4, a5, a6])) := cop_inn_tx (xs := [a0, a1, a2, a3, a4, a5, a6])
@[simp] theorem nin_l7 {x a0 a1 a2 a3 a4 a5 a6 : String} : cop .nin (tx x) (.lst [tx a0, tx a1, tx a2, tx a3, tx a4, tx a5, tx a6]) = some (!decide (x ∈ [a0, a1, a2, a3, a4, a5, a6])) := cop_nin_tx (xs := [a0, a1, a2, a3, a4, a5, a6])
@[simp] theorem belows_tx {m : Nat} {xs : List String} : PX.belows m (xs.map tx) = true := belows_map (fun _ => rfl) xs
@[simp] theorem tru_tx {s : String} : plain (tx s) = true := T_ok s
end PX
namespace PX
theorem run_as {p fr : Bool} {g : G} {e r : Fl} {q : R D} (h : e = r) (h2 : close p g (ofFl fr r) = q) : close p g (ofFl fr e) = q := by rw [h]; exact h2
/-- texts ascending -/
def leT (a b : String) : Bool := decide (T a ≤ T b)
def sortS (xs : List String) : List String := xs.mergeSort leT
theorem strs_tx : ∀ xs : List String, strs? (xs.map tx) = some (xs.map T)
  | [] => rfl
  | x :: xs => by
    show (strs? (xs.map tx)).map (T x :: ·) = _
    rw [strs_tx xs]; rfl
theorem ints_tx {x : String} {xs : List String} : ints? ((x :: xs).map tx) = none := rfl
theorem sortT_T (xs : List String) : sortT (xs.map T) = (sortS xs).map T := by
  have h := List.map_mergeSort (r := leT) (s := fun a b => decide (a ≤ b)) (f := T) (l := xs) (fun a _ b _ => rfl)
  exact h.symm
theorem sorted_tx {xs : List String} (h : xs.length < 64) : sorted (xs.map tx) = some ((sortS xs).map tx) := by
  unfold sorted
  cases xs with
  | nil => simp [ints?, sortI, sortS]
  | cons x xs =>
    rw [ints_tx, strs_tx]
    simp only [List.length_map, h, if_true]
    rw [sortT_T, List.map_map]; rfl
@[simp] theorem p_sorted_tx {xs : List String} (h : xs.length < 64) : prim1 .sorted (.lst (xs.map tx)) = some (.lst ((sortS xs).map tx)) := by
  show (sorted _).map D.lst = _
  rw [sorted_tx h]; rfl
end PX
end
section
set_option Elab.async false
set_option linter.all false
set_option maxRecDepth 100000
set_option autoImplicit false
set_option maxHeartbeats 2000000
/-! PLr: the text of repr has code points alone; _law_same_as. -/
namespace PX
open PySem
def OkS (s : PySem.Str) : Prop := ∀ c ∈ s.cps.toList, c < 0x110000
theorem char_lt (x : Char) : x.toNat < 0x110000 := by
  rcases x.valid with h | h
  · have : x.toNat < 0xd800 := h
    omega
  · exact h.2
theorem oks_of (s : String) : OkS (PySem.Str.ofString s) := by
  intro c hc
  rw [PySem.Str.ofString_eq_toList] at hc
  obtain ⟨x, _, rfl⟩ := List.mem_map.mp (by simpa using hc)
  exact char_lt x
theorem oks_app {a b : PySem.Str} (ha : OkS a) (hb : OkS b) : OkS (a ++ b) := by
  intro c hc
  have : c ∈ (a.cps ++ b.cps).toList := hc
  rw [Array.toList_append] at this
  rcases List.mem_append.mp this with h | h
  · exact ha c h
  · exact hb c h
theorem oks_join {sep : PySem.Str} (hs : OkS sep) : ∀ xs : List PySem.Str, (∀ x ∈ xs, OkS x) → OkS (PySem.Str.join sep xs)
  | [], _ => by intro c hc; simp [PySem.Str.join, PySem.Str.empty] at hc
  | [x], h => h x List.mem_cons_self
  | x :: y :: r, h => oks_app (oks_app (h x List.mem_cons_self) hs) (oks_join hs (y :: r) fun z hz => h z (List.mem_cons_of_mem _ hz))
theorem reprChar_ok {q c : Nat} (hq : q < 0x110000) (hc : c < 0x110000) : ∀ d ∈ PySem.Builtin.Str.reprChar q c, d < 0x110000 := by
  have hex : ∀ w, ∀ d ∈ List.replicate (w - ((Nat.toDigits 16 c).map Char.toNat).length) 48 ++ (Nat.toDigits 16 c).map Char.toNat, d < 0x110000 := by
    intro w d hd
    rcases List.mem_append.mp hd with h | h
    · rw [List.eq_of_mem_replicate h]; decide
    · obtain ⟨x, _, rfl⟩ := List.mem_map.mp h
      exact char_lt x
  intro d hd
  unfold PySem.Builtin.Str.reprChar at hd
  dsimp only at hd
  split at hd
  · simp at hd; rcases hd with rfl | rfl <;> omega
  split at hd
  · simp at hd; rcases hd with rfl | rfl <;> omega
  split at hd
  · simp at hd; rcases hd with rfl | rfl <;> omega
  split at hd
  · simp at hd; rcases hd with rfl | rfl <;> omega
  split at hd
  · simp at hd; omega
  split at hd
  · rcases List.mem_append.mp hd with h | h
    · simp at h; rcases h with rfl | rfl <;> omega
    · exact hex 2 d h
  split at hd
  · rcases List.mem_append.mp hd with h | h
    · simp at h; rcases h with rfl | rfl <;> omega
    · exact hex 4 d h
  · rcases List.mem_append.mp hd with h | h
    · simp at h; rcases h with rfl | rfl <;> omega
    · exact hex 8 d h
theorem reprText_ok {x : PySem.Str} (hx : OkS x) : OkS (PySem.reprText x) := by
  have hq : PySem.reprQuote x < 0x110000 := by
    unfold PySem.reprQuote
    split <;> decide
  have key : ∀ (l : List Nat) (acc : Array Nat), (∀ c ∈ l, c < 0x110000) → (∀ c ∈ acc.toList, c < 0x110000) → ∀ c ∈ (l.foldl (fun out c => out ++ (PySem.Builtin.Str.reprChar (PySem.reprQuote x) c).toArray) acc).toList, c < 0x110000 := by
    intro l
    induction l with
    | nil => intro acc _ h; exact h
    | cons y l ih =>
      intro acc hl ha
      refine ih _ (fun c hc => hl c (List.mem_cons_of_mem _ hc)) ?_
      intro c hc
      rw [Array.toList_append] at hc
      rcases List.mem_append.mp hc with h | h
      · exact ha c h
      · exact reprChar_ok hq (hl y List.mem_cons_self) c (by simpa using h)
  intro c hc
  unfold PySem.reprText at hc
  simp only [Array.toList_push, ← Array.foldl_toList] at hc
  rcases List.mem_append.mp hc with h | h
  · exact key _ _ hx (by intro c hc; simp at hc; omega) c h
  · simp at h; omega
mutual
theorem shown_ok : ∀ d : D, plain d = true → OkS (PyData.shown (toPy d))
  | .non, _ => by rw [toPy, PySem.PyData.shown_none]; exact oks_of _
  | .bl b, _ => by rw [toPy, PySem.PyData.shown_bool]; split <;> exact oks_of _
  | .int i, _ => by rw [toPy, PySem.PyData.shown_int]; exact oks_of _
  | .str t, h => by
    rw [toPy, PySem.PyData.shown_str]
    refine reprText_ok ?_
    intro c hc
    have : t.all (fun c => decide (c < 0x110000)) = true := by simpa [plain] using h
    have := List.all_eq_true.mp this c (by simpa using hc)
    simpa using this
  | .tup xs, h => by
    rw [toPy, PySem.PyData.shown_tuple]
    refine oks_app (oks_app (oks_of _) (oks_join (oks_of _) _ (showns_ok xs (by simpa [plain] using h)))) (oks_of _)
  | .lst xs, h => by
    rw [toPy, PySem.PyData.shown_list]
    refine oks_app (oks_app (oks_of _) (oks_join (oks_of _) _ (showns_ok xs (by simpa [plain] using h)))) (oks_of _)
  | .dic _, h => by simp [plain] at h
  | .ref _, h => by simp [plain] at h
theorem showns_ok : ∀ xs : List D, plains xs = true → ∀ s ∈ PyData.shownAll (toPys xs), OkS s
  | [], _ => by intro s hs; simp [toPys, PySem.PyData.shownAll_nil] at hs
  | x :: xs, h => by
    have h' : plain x = true ∧ plains xs = true := by simpa [plains] using h
    intro s hs
    rw [toPys, PySem.PyData.shownAll_cons] at hs
    rcases List.mem_cons.mp hs with rfl | q
    · exact shown_ok x h'.1
    · exact showns_ok xs h'.2 s q
end
theorem reprT_ok {d : D} (h : plain d = true) : TxOk (reprT d) := by
  show (reprT d).all _ = true
  rw [List.all_eq_true]
  intro c hc
  simpa using shown_ok d h c hc
mutual
theorem eqv_refl : ∀ d : D, plain d = true → eqv d d = true
  | .non, _ => rfl
  | .bl b, _ => by simp [eqv]
  | .int i, _ => by simp [eqv]
  | .str t, _ => by simp [eqv]
  | .tup xs, h => by simp [eqv, eqvs_refl xs (by simpa [plain] using h)]
  | .lst xs, h => by simp [eqv, eqvs_refl xs (by simpa [plain] using h)]
  | .dic _, h => by simp [plain] at h
  | .ref _, h => by simp [plain] at h
theorem eqvs_refl : ∀ xs : List D, plains xs = true → eqvs xs xs = true
  | [], _ => rfl
  | x :: xs, h => by
    have h' : plain x = true ∧ plains xs = true := by simpa [plains] using h
    simp [eqvs, eqv_refl x h'.1, eqvs_refl xs h'.2]
end
/-- equal values are == -/
theorem cop_eq_refl {d : D} (h : plain d = true) (hd : depth d ≤ 60) : cop .eq d d = some true := by
  show (if eqOk d d = true then some (eqv d d) else none) = _
  rw [if_pos (by simp [eqOk, h, hd]), eqv_refl d h]
theorem cop_ne_refl {d : D} (h : plain d = true) (hd : depth d ≤ 60) : cop .ne d d = some false := cop_ne_of (cop_eq_refl h hd)
def bSame : S := (.ret (.and_ (.cmp .eq (.var 0) (.var 1)) (.cmp .eq (.p1 .repr (.var 0)) (.p1 .repr (.var 1)))))
theorem deref_seq {g : G} {d : D} (h : isSeq d = true) : deref g d = some d := by cases d <;> simp_all [isSeq]
theorem same_call {P : Pr} {n i : Nat} {g : G} (hf : P.fns[i]? = some ⟨2, 2, true, false, bSame⟩) {d : D} (hs : isSeq d = true) (hr : reprOk d = true) : call P (n + 1) i [d, d] g = .ok (.bl true) g := by
  have h1 : plain d = true ∧ depth d ≤ 60 := by
    simp only [reprOk, Bool.and_eq_true, decide_eq_true_eq] at hr
    exact ⟨hr.1.1.1, hr.1.2⟩
  have e1 := cop_eq_refl h1.1 h1.2
  have e2 : cop .eq (.str (reprT d)) (.str (reprT d)) = some true := by rw [eq_str (reprT_ok h1.1) (reprT_ok h1.1)]; simp
  have e3 : prim1 .repr d = some (.str (reprT d)) := by simp [prim1, hs, hr]
  rw [call_of hf rfl]
  refine run_as (r := .ret false (.bl true) g) ?_ (by simp)
  simp [bSame, start, deref_seq hs, e1, e2, e3]
/-! rows of numbers and of names compared -/
def sortN (xs : List Nat) : List Nat := xs.mergeSort fun a b => decide (a ≤ b)
theorem ints_nat : ∀ xs : List Nat, ints? (xs.map nat) = some (xs.map fun (n : Nat) => (n : Int))
  | [] => rfl
  | x :: xs => by
    show (ints? (xs.map nat)).map ((x : Int) :: ·) = _
    rw [ints_nat xs]; rfl
theorem sortI_nat (xs : List Nat) : sortI (xs.map fun (n : Nat) => (n : Int)) = (sortN xs).map fun (n : Nat) => (n : Int) := by
  unfold sortI sortN
  exact (List.map_mergeSort (r := fun a b => decide (a ≤ b)) (s := fun (a b : Int) => decide (a ≤ b)) (f := fun (n : Nat) => (n : Int)) (l := xs) (fun a _ b _ => by simp)).symm
@[simp] theorem p_sorted_nat {xs : List Nat} : prim1 .sorted (.tup (xs.map nat)) = some (.lst ((sortN xs).map nat)) := by
  show (ints? _).map _ = _
  rw [ints_nat]
  simp [sortI_nat]
@[simp] theorem p_sorted_natl {xs : List Nat} : prim1 .sorted (.lst (xs.map nat)) = some (.lst ((sortN xs).map nat)) := by
  show (sorted _).map _ = _
  unfold sorted
  rw [ints_nat]
  simp [sortI_nat]
theorem plains_map {α : Type} {f : α → D} (h : ∀ a, plain (f a) = true) : ∀ xs : List α, plains (xs.map f) = true
  | [] => rfl
  | x :: xs => by simp [plains, h, plains_map h xs]
theorem depths_map {α : Type} {f : α → D} {k : Nat} (h : ∀ a, depth (f a) ≤ k) : ∀ xs : List α, depths (xs.map f) ≤ k
  | [] => Nat.zero_le _
  | x :: xs => by
    show max (depth (f x)) (depths (xs.map f)) ≤ k
    exact Nat.max_le.mpr ⟨h x, depths_map h xs⟩
theorem eqvs_map {α : Type} [DecidableEq α] {f : α → D} (h : ∀ a b, eqv (f a) (f b) = decide (a = b)) : ∀ xs ys : List α, eqvs (xs.map f) (ys.map f) = decide (xs = ys)
  | [], [] => by simp [eqvs]
  | [], y :: ys => by simp [eqvs]
  | x :: xs, [] => by simp [eqvs]
  | x :: xs, y :: ys => by
    show (eqv (f x) (f y) && eqvs (xs.map f) (ys.map f)) = _
    rw [h, eqvs_map h xs ys]
    simp
theorem cop_eq_lmap {α : Type} [DecidableEq α] {f : α → D} {k : Nat} (hk : k ≤ 59) (hp : ∀ a, plain (f a) = true) (hd : ∀ a, depth (f a) ≤ k) (h : ∀ a b, eqv (f a) (f b) = decide (a = b)) {xs ys : List α} : cop .eq (.lst (xs.map f)) (.lst (ys.map f)) = some (decide (xs = ys)) := by
  show (if eqOk (.lst (xs.map f)) (.lst (ys.map f)) = true then some (eqvs (xs.map f) (ys.map f)) else none) = _
  rw [if_pos, eqvs_map h]
  have d1 := depths_map hd xs
  have d2 := depths_map hd ys
  simp [eqOk, plain, depth, plains_map hp]
  omega
theorem cop_eq_tmap {α : Type} [DecidableEq α] {f : α → D} {k : Nat} (hk : k ≤ 59) (hp : ∀ a, plain (f a) = true) (hd : ∀ a, depth (f a) ≤ k) (h : ∀ a b, eqv (f a) (f b) = decide (a = b)) {xs ys : List α} : cop .eq (.tup (xs.map f)) (.tup (ys.map f)) = some (decide (xs = ys)) := by
  show (if eqOk (.tup (xs.map f)) (.tup (ys.map f)) = true then some (eqvs (xs.map f) (ys.map f)) else none) = _
  rw [if_pos, eqvs_map h]
  have d1 := depths_map hd xs
  have d2 := depths_map hd ys
  simp [eqOk, plain, depth, plains_map hp]
  omega
theorem eqv_nat (a b : Nat) : eqv (nat a) (nat b) = decide (a = b) := by
  show ((a : Int) == (b : Int)) = _
  by_cases h : a = b
  · subst h; simp
  · rw [decide_eq_false h]; simp; omega
theorem eqv_tx (a b : String) : eqv (tx a) (tx b) = decide (a = b) := by
  show (T a == T b) = _
  by_cases h : a = b
  · subst h; simp
  · rw [decide_eq_false h, beq_eq_false_iff_ne.mpr fun e => h (T_inj e)]
@[simp] theorem plain_nat (a : Nat) : plain (nat a) = true := rfl
@[simp] theorem cop_eq_natl {xs ys : List Nat} : cop .eq (.lst (xs.map nat)) (.lst (ys.map nat)) = some (decide (xs = ys)) := cop_eq_lmap (f := nat) (k := 0) (by omega) (fun _ => rfl) (fun _ => Nat.le_refl 0) eqv_nat
@[simp] theorem cop_ne_natl {xs ys : List Nat} : cop .ne (.lst (xs.map nat)) (.lst (ys.map nat)) = some (!decide (xs = ys)) := cop_ne_of cop_eq_natl
/-- against nothing -/
theorem cop_eq_nilt {xs : List D} (hp : plains xs = true) (hd : depths xs ≤ 59) : cop .eq (.tup xs) (.tup []) = some xs.isEmpty := by
  show (if eqOk (.tup xs) (.tup []) = true then some (eqvs xs []) else none) = _
  rw [if_pos]
  · cases xs <;> rfl
  · simp [eqOk, plain, depth, plains, depths, hp]; omega
theorem cop_eq_nill {xs : List D} (hp : plains xs = true) (hd : depths xs ≤ 59) : cop .eq (.lst xs) (.lst []) = some xs.isEmpty := by
  show (if eqOk (.lst xs) (.lst []) = true then some (eqvs xs []) else none) = _
  rw [if_pos]
  · cases xs <;> rfl
  · simp [eqOk, plain, depth, plains, depths, hp]; omega
theorem cop_eq_nilt_ {α : Type} {f : α → D} {k : Nat} (hk : k ≤ 59) (hp : ∀ a, plain (f a) = true) (hd : ∀ a, depth (f a) ≤ k) {xs : List α} : cop .eq (.tup (xs.map f)) (.tup []) = some xs.isEmpty := by
  rw [cop_eq_nilt (plains_map hp xs) (Nat.le_trans (depths_map hd xs) hk)]; simp
theorem cop_eq_nill_ {α : Type} {f : α → D} {k : Nat} (hk : k ≤ 59) (hp : ∀ a, plain (f a) = true) (hd : ∀ a, depth (f a) ≤ k) {xs : List α} : cop .eq (.lst (xs.map f)) (.lst []) = some xs.isEmpty := by
  rw [cop_eq_nill (plains_map hp xs) (Nat.le_trans (depths_map hd xs) hk)]; simp
@[simp] theorem eq_nil_txt {xs : List String} : cop .eq (.tup (xs.map tx)) (.tup []) = some xs.isEmpty := cop_eq_nilt_ (k := 0) (by omega) (fun _ => T_ok _) (fun _ => Nat.le_refl 0)
@[simp] theorem ne_nil_txt {xs : List String} : cop .ne (.tup (xs.map tx)) (.tup []) = some (!xs.isEmpty) := cop_ne_of eq_nil_txt
@[simp] theorem eq_nil_txl {xs : List String} : cop .eq (.lst (xs.map tx)) (.lst []) = some xs.isEmpty := cop_eq_nill_ (k := 0) (by omega) (fun _ => T_ok _) (fun _ => Nat.le_refl 0)
@[simp] theorem ne_nil_txl {xs : List String} : cop .ne (.lst (xs.map tx)) (.lst []) = some (!xs.isEmpty) := cop_ne_of eq_nil_txl
@[simp] theorem eq_nil_natt {xs : List Nat} : cop .eq (.tup (xs.map nat)) (.tup []) = some xs.isEmpty := cop_eq_nilt_ (f := nat) (k := 0) (by omega) (fun _ => rfl) (fun _ => Nat.le_refl 0)
@[simp] theorem eq_nil_0 : cop .eq (.tup []) (.tup []) = some true := rfl
@[simp] theorem eq_nill_0 : cop .eq (.lst []) (.lst []) = some true := rfl
@[simp] theorem p_any_rep {k : Nat} : prim1 .any (.lst (List.replicate k (.bl false))) = some (.bl false) := by
  have h : List.replicate k (D.bl false) = (List.range k).map fun (_ : Nat) => D.bl false := by simp [List.map_const']
  rw [h, p_any]; simp
@[simp] theorem p_all_rep {k : Nat} : prim1 .all (.lst (List.replicate k (.bl true))) = some (.bl true) := by
  have h : List.replicate k (D.bl true) = (List.range k).map fun (_ : Nat) => D.bl true := by simp [List.map_const']
  rw [h, p_all]; simp
theorem isInL_map {α : Type} [DecidableEq α] {f : α → D} {k : Nat} (hk : k ≤ 59) (hp : ∀ a, plain (f a) = true) (hd : ∀ a, depth (f a) ≤ k) (h : ∀ a b, eqv (f a) (f b) = decide (a = b)) {x : α} {xs : List α} : isInL (f x) (xs.map f) = some (decide (x ∈ xs)) := by
  unfold isInL
  have d1 := depths_map hd xs
  have d2 := hd x
  rw [if_pos (by simp [eqOk, plain, depth, plains_map hp, hp]; omega)]
  congr 1
  rw [List.any_map]
  by_cases m : x ∈ xs
  · rw [decide_eq_true m]
    exact List.any_eq_true.mpr ⟨x, m, by simp [h]⟩
  · rw [decide_eq_false m, List.any_eq_false]
    intro y hy q
    have : y = x := by simpa [h] using q
    exact m (this ▸ hy)
@[simp] theorem inn_natt {x : Nat} {xs : List Nat} : cop .inn (nat x) (.tup (xs.map nat)) = some (decide (x ∈ xs)) := isInL_map (f := nat) (k := 0) (by omega) (fun _ => rfl) (fun _ => Nat.le_refl 0) eqv_nat
@[simp] theorem inn_natl {x : Nat} {xs : List Nat} : cop .inn (nat x) (.lst (xs.map nat)) = some (decide (x ∈ xs)) := isInL_map (f := nat) (k := 0) (by omega) (fun _ => rfl) (fun _ => Nat.le_refl 0) eqv_nat
theorem nin_of {x y : D} {k : Bool} (h : cop .inn x y = some k) : cop .nin x y = some (!k) := by
  show (isIn x y).map (!·) = _
  rw [show isIn x y = some k from h]; rfl
@[simp] theorem nin_natt {x : Nat} {xs : List Nat} : cop .nin (nat x) (.tup (xs.map nat)) = some (!decide (x ∈ xs)) := nin_of inn_natt
@[simp] theorem nin_natl {x : Nat} {xs : List Nat} : cop .nin (nat x) (.lst (xs.map nat)) = some (!decide (x ∈ xs)) := nin_of inn_natl
@[simp] theorem add_tup {xs ys : List D} (h : xs.length + ys.length ≤ LIM) : bop .add (.tup xs) (.tup ys) = some (.tup (xs ++ ys)) := by
  show (if xs.length + ys.length ≤ LIM then some (D.tup (xs ++ ys)) else none) = _
  rw [if_pos h]
@[simp] theorem add_lst {xs ys : List D} (h : xs.length + ys.length ≤ LIM) : bop .add (.lst xs) (.lst ys) = some (.lst (xs ++ ys)) := by
  show (if xs.length + ys.length ≤ LIM then some (D.lst (xs ++ ys)) else none) = _
  rw [if_pos h]
/-- each once -/
def addU (acc : List String) (x : String) : List String := if x ∈ acc then acc else acc ++ [x]
def dedup (xs : List String) : List String := xs.foldl addU []
theorem dictOf_tx (v : D) : ∀ (xs acc : List String), dictOf (xs.map fun x => .tup [tx x, v]) (acc.map fun x => (tx x, v)) = some ((xs.foldl addU acc).map fun x => (tx x, v))
  | [], acc => rfl
  | x :: xs, acc => by
    show (if isKey (tx x) then dictOf (xs.map fun x => .tup [tx x, v]) (dput (acc.map fun x => (tx x, v)) (tx x) v) else none) = _
    rw [if_pos (show isKey (tx x) = true from rfl)]
    have e : dput (acc.map fun x => (tx x, v)) (tx x) v = (addU acc x).map fun x => (tx x, v) := by
      unfold dput addU
      rw [List.any_map]
      by_cases m : x ∈ acc
      · rw [if_pos (List.any_eq_true.mpr ⟨x, m, by simp [eqv_tx]⟩), if_pos m, List.map_map]
        apply List.map_congr_left
        intro y _
        by_cases q : y = x
        · subst q; simp [eqv_tx]
        · simp [eqv_tx, q]
      · rw [if_neg (by
          intro q
          obtain ⟨y, hy, e⟩ := List.any_eq_true.mp q
          have : y = x := by simpa [eqv_tx] using e
          exact m (this ▸ hy)), if_neg m]
        simp
    rw [e, dictOf_tx v xs (addU acc x)]
    rfl
@[simp] theorem p_dict_tx {v : D} {xs : List String} : prim1 .dict (.lst (xs.map fun x => .tup [tx x, v])) = some (.dic ((dedup xs).map fun x => (tx x, v))) := by
  show (dictOf _ []).map D.dic = _
  have := dictOf_tx v xs []
  simp only [List.map_nil] at this
  rw [this]; rfl
@[simp] theorem p_sorted_dic {v : D} {xs : List String} (h : xs.length < 64) : prim1 .sorted (.dic (xs.map fun x => (tx x, v))) = some (.lst ((sortS xs).map tx)) := by
  show ((strs? ((xs.map fun x => (tx x, v)).map (·.1))).bind fun ts => if ts.length < 64 then some (D.lst ((sortT ts).map .str)) else none) = _
  rw [List.map_map, show ((fun x : D × D => x.1) ∘ fun x => (tx x, v)) = tx from rfl, strs_tx]
  simp only [Option.bind_some, List.length_map, h, if_true]
  rw [sortT_T, List.map_map]; rfl
theorem addU_len (acc : List String) (x : String) : (addU acc x).length ≤ acc.length + 1 := by unfold addU; split <;> simp
theorem dedup_len0 : ∀ (xs acc : List String), (xs.foldl addU acc).length ≤ acc.length + xs.length
  | [], acc => by simp
  | x :: xs, acc => by
    have := dedup_len0 xs (addU acc x)
    have := addU_len acc x
    simp only [List.foldl_cons, List.length_cons]; omega
theorem dedup_len (xs : List String) : (dedup xs).length ≤ xs.length := by simpa [dedup] using dedup_len0 xs []
theorem mem_addU {acc : List String} {x y : String} : y ∈ addU acc x ↔ y ∈ acc ∨ y = x := by
  unfold addU
  split
  · rename_i h
    constructor
    · exact .inl
    · rintro (h' | rfl)
      · exact h'
      · exact h
  · simp
theorem mem_dedup0 : ∀ (xs acc : List String) {y : String}, y ∈ xs.foldl addU acc ↔ y ∈ acc ∨ y ∈ xs
  | [], acc, y => by simp
  | x :: xs, acc, y => by
    rw [List.foldl_cons, mem_dedup0 xs, mem_addU, List.mem_cons]
    simp [or_assoc]
theorem mem_dedup {xs : List String} {y : String} : y ∈ dedup xs ↔ y ∈ xs := by simp [dedup, mem_dedup0]
theorem nodup_addU {acc : List String} {x : String} (h : acc.Nodup) : (addU acc x).Nodup := by
  unfold addU
  split
  · exact h
  · rename_i hx
    exact List.nodup_append.mpr ⟨h, by simp, by intro a ha b hb; simp at hb; subst hb; intro e; subst e; exact hx ha⟩
theorem nodup_dedup0 : ∀ (xs acc : List String), acc.Nodup → (xs.foldl addU acc).Nodup
  | [], _, h => h
  | x :: xs, acc, h => nodup_dedup0 xs _ (nodup_addU h)
theorem nodup_dedup (xs : List String) : (dedup xs).Nodup := nodup_dedup0 xs [] List.nodup_nil
theorem leT_trans (a b c : String) (h1 : leT a b = true) (h2 : leT b c = true) : leT a c = true := by
  simp only [leT, decide_eq_true_eq] at *
  exact List.le_trans h1 h2
theorem leT_total (a b : String) : (leT a b || leT b a) = true := by
  simp only [leT, Bool.or_eq_true, decide_eq_true_eq]
  exact List.le_total _ _
theorem leT_anti (a b : String) (h1 : leT a b = true) (h2 : leT b a = true) : a = b := by
  simp only [leT, decide_eq_true_eq] at *
  exact T_inj (List.le_antisymm h1 h2)
/-- rows with the same members, each once, are alike when sorted -/
theorem sortS_ext {xs ys : List String} (hx : xs.Nodup) (hy : ys.Nodup) (h : ∀ x, x ∈ xs ↔ x ∈ ys) : sortS xs = sortS ys := by
  have p : xs.Perm ys := (List.perm_ext_iff_of_nodup hx hy).mpr h
  have p2 : (sortS xs).Perm (sortS ys) := (List.mergeSort_perm _ _).trans (p.trans (List.mergeSort_perm _ _).symm)
  refine p2.eq_of_pairwise (le := fun a b => leT a b = true) (fun a b _ _ h1 h2 => leT_anti a b h1 h2) ?_ ?_
  · exact List.pairwise_mergeSort (fun a b c => leT_trans a b c) (fun a b => leT_total a b) xs
  · exact List.pairwise_mergeSort (fun a b c => leT_trans a b c) (fun a b => leT_total a b) ys
@[simp] theorem plain_tup {xs : List D} : plain (.tup xs) = plains xs := id rfl
@[simp] theorem plain_lst {xs : List D} : plain (.lst xs) = plains xs := id rfl
@[simp] theorem plain_non : plain .non = true := id rfl
@[simp] theorem plain_bl {k : Bool} : plain (.bl k) = true := id rfl
@[simp] theorem plain_int {k : Int} : plain (.int k) = true := id rfl
@[simp] theorem plains_nil : plains [] = true := id rfl
@[simp] theorem plains_cons {x : D} {xs : List D} : plains (x :: xs) = (plain x && plains xs) := id rfl
@[simp] theorem depth_tup {xs : List D} : depth (.tup xs) = depths xs + 1 := id rfl
@[simp] theorem depth_lst {xs : List D} : depth (.lst xs) = depths xs + 1 := id rfl
@[simp] theorem depth_non : depth .non = 0 := id rfl
@[simp] theorem depth_bl {k : Bool} : depth (.bl k) = 0 := id rfl
@[simp] theorem depth_int {k : Int} : depth (.int k) = 0 := id rfl
@[simp] theorem depth_str {k : Txt} : depth (.str k) = 0 := id rfl
@[simp] theorem depths_nil : depths [] = 0 := id rfl
@[simp] theorem depths_cons {x : D} {xs : List D} : depths (x :: xs) = max (depth x) (depths xs) := id rfl
@[simp] theorem eq_nil_t {xs : List D} (hp : plains xs = true) (hd : depths xs ≤ 59) : cop .eq (.tup xs) (.tup []) = some xs.isEmpty := cop_eq_nilt hp hd
@[simp] theorem eq_nil_l {xs : List D} (hp : plains xs = true) (hd : depths xs ≤ 59) : cop .eq (.lst xs) (.lst []) = some xs.isEmpty := cop_eq_nill hp hd
@[simp] theorem ne_nil_t {xs : List D} (hp : plains xs = true) (hd : depths xs ≤ 59) : cop .ne (.tup xs) (.tup []) = some (!xs.isEmpty) := cop_ne_of (cop_eq_nilt hp hd)
@[simp] theorem ne_nil_l {xs : List D} (hp : plains xs = true) (hd : depths xs ≤ 59) : cop .ne (.lst xs) (.lst []) = some (!xs.isEmpty) := cop_ne_of (cop_eq_nill hp hd)
@[simp] theorem flat_tup {xs : List D} : flat (.tup xs) = flats xs := id rfl
@[simp] theorem zs_putT {cons : List D} {sub : Nat → Nat → Bool} {W : Nat} {F : Nat → List D → G → R D} {i : Nat} {ks es : Es} {s : Sl} {g : G} : exec cons sub W F (.putT i ks es) s g = lift s (evs cons F es s g) fun ds g => storeAll (fun k s g => ev cons F k .val s g) i ks ds s g := rfl
@[simp] theorem sa_nil {evk : E → Sl → G → R D} {i : Nat} {s : Sl} {g : G} : storeAll evk i .nil [] s g = .nx s g := rfl
@[simp] theorem sa_cons {evk : E → Sl → G → R D} {i : Nat} {k : E} {ks : Es} {d : D} {ds : List D} {s : Sl} {g : G} : storeAll evk i (.cons k ks) (d :: ds) s g = match lookO s i with
    | some c => lift s (evk k s g) fun kd g => match store c kd d with
      | some (.lst xs) => storeAll evk i ks ds (s.set i (.own (.lst xs))) g
      | _ => .bad
    | none => .bad := rfl
theorem store_nat {xs : List D} {j : Nat} {v : D} (h : j < xs.length) : store (.lst xs) (nat j) v = some (.lst (xs.set j v)) := by
  show (ixOf xs.length (j : Int)).map _ = _
  simp [ixOf, h]
/-- values whose repr is short -/
def Nice (k b : Nat) (d : D) : Prop := plain d = true ∧ small d = true ∧ depth d ≤ k ∧ sz d ≤ b
theorem nice_mono {k b k' b' : Nat} {d : D} (h : Nice k b d) (hk : k ≤ k') (hb : b ≤ b') : Nice k' b' d := ⟨h.1, h.2.1, Nat.le_trans h.2.2.1 hk, Nat.le_trans h.2.2.2 hb⟩
theorem nices {k b : Nat} : ∀ ds : List D, (∀ d ∈ ds, Nice k b d) → plains ds = true ∧ smalls ds = true ∧ depths ds ≤ k ∧ szs ds ≤ ds.length * (b + 2)
  | [], _ => ⟨rfl, rfl, Nat.zero_le _, Nat.zero_le _⟩
  | d :: ds, h => by
    obtain ⟨a1, a2, a3, a4⟩ := h d List.mem_cons_self
    obtain ⟨b1, b2, b3, b4⟩ := nices ds fun e he => h e (List.mem_cons_of_mem _ he)
    refine ⟨by show (plain d && plains ds) = true; rw [a1, b1]; rfl, by show (small d && smalls ds) = true; rw [a2, b2]; rfl, Nat.max_le.mpr ⟨a3, b3⟩, ?_⟩
    show sz d + 2 + szs ds ≤ _
    rw [List.length_cons, Nat.succ_mul]
    omega
theorem nice_tup {k b : Nat} {ds : List D} (h : ∀ d ∈ ds, Nice k b d) : Nice (k + 1) (ds.length * (b + 2) + 3) (.tup ds) := by
  obtain ⟨b1, b2, b3, b4⟩ := nices ds h
  exact ⟨b1, b2, Nat.succ_le_succ b3, Nat.add_le_add_right b4 3⟩
theorem nice_lst {k b : Nat} {ds : List D} (h : ∀ d ∈ ds, Nice k b d) : Nice (k + 1) (ds.length * (b + 2) + 3) (.lst ds) := by
  obtain ⟨b1, b2, b3, b4⟩ := nices ds h
  exact ⟨b1, b2, Nat.succ_le_succ b3, Nat.add_le_add_right b4 3⟩
theorem nice_non : Nice 0 5 .non := ⟨rfl, rfl, Nat.le_refl _, Nat.le_refl _⟩
theorem nice_bl {b : Bool} : Nice 0 5 (.bl b) := ⟨rfl, rfl, Nat.le_refl _, Nat.le_refl _⟩
theorem nice_nat {j : Nat} (h : j < 2 ^ 64) : Nice 0 21 (nat j) := ⟨rfl, by show decide (((j : Int)).natAbs < 2 ^ 64) = true; simpa using h, Nat.le_refl _, Nat.le_refl _⟩
theorem nice_tx {s : String} : Nice 0 (10 * (T s).length + 2) (tx s) := ⟨T_ok s, rfl, Nat.le_refl _, Nat.le_refl _⟩
theorem nice_reprOk {k b : Nat} {d : D} (h : Nice k b d) (hk : k ≤ 60) (hb : b ≤ LIM) : reprOk d = true := by
  obtain ⟨a1, a2, a3, a4⟩ := h
  have h1 : depth d ≤ 60 := by omega
  have h2 : sz d ≤ LIM := by omega
  simp only [reprOk, a1, a2, decide_eq_true h1, decide_eq_true h2]
  rfl
theorem zip_range {α β : Type} {h : α → Nat → Option β} : ∀ (rs pre : List α), (List.range' pre.length rs.length).filterMap (fun k => ((pre ++ rs)[k]?).bind fun r => h r k) = (rs.zipIdx pre.length).filterMap fun p => h p.1 p.2
  | [], pre => rfl
  | r :: rs, pre => by
    have ih := zip_range (h := h) rs (pre ++ [r])
    simp only [List.length_append, List.length_singleton, List.append_assoc, List.singleton_append] at ih
    simp only [List.length_cons, List.range'_succ, List.zipIdx_cons, List.filterMap_cons]
    have e : ((pre ++ r :: rs)[pre.length]?).bind (fun r => h r pre.length) = h r pre.length := by simp
    rw [e, ih]
@[simp] theorem cut_to1 {α : Type} {xs : List α} : PX.cut xs none (some 1) = xs.take 1 := by
  unfold PX.cut cutAt
  cases xs with
  | nil => rfl
  | cons x xs => simp
@[simp] theorem cut_from1 {α : Type} {xs : List α} : PX.cut xs (some 1) none = xs.drop 1 := by
  unfold PX.cut cutAt
  cases xs with
  | nil => rfl
  | cons x xs => simp
end PX
end
section
set_option Elab.async false
set_option linter.all false
set_option maxRecDepth 100000
set_option autoImplicit false
set_option maxHeartbeats 4000000
/-! K30q: texts as rows of code points; signs of tokens. -/
namespace K30
open PX
def isSm (c : Nat) : Bool := decide (97 ≤ c) && decide (c ≤ 122)
def isGr (c : Nat) : Bool := decide (65 ≤ c) && decide (c ≤ 90)
def inner (c : Nat) : Bool := isSm c || isGr c || isDig c || decide (c = 95)
/-- the text from a up to b -/
def sl (t : Txt) (a b : Nat) : Txt := (t.drop a).take (b - a)
def run (P : Nat → Bool) (t : Txt) (k : Nat) : Nat := k + ((t.drop k).takeWhile P).length
theorem mem_sm {c : Nat} : c ∈ T "abcdefghijklmnopqrstuvwxyz" ↔ isSm c = true := by
  have : T "abcdefghijklmnopqrstuvwxyz" = [97, 98, 99, 100, 101, 102, 103, 104, 105, 106, 107, 108, 109, 110, 111, 112, 113, 114, 115, 116, 117, 118, 119, 120, 121, 122] := by decide
  rw [this]
  simp [isSm]
  omega
theorem mem_gr {c : Nat} : c ∈ T "ABCDEFGHIJKLMNOPQRSTUVWXYZ" ↔ isGr c = true := by
  have : T "ABCDEFGHIJKLMNOPQRSTUVWXYZ" = [65, 66, 67, 68, 69, 70, 71, 72, 73, 74, 75, 76, 77, 78, 79, 80, 81, 82, 83, 84, 85, 86, 87, 88, 89, 90] := by decide
  rw [this]
  simp [isGr]
  omega
theorem mem_dg {c : Nat} : c ∈ T "0123456789" ↔ isDig c = true := by
  have : T "0123456789" = [48, 49, 50, 51, 52, 53, 54, 55, 56, 57] := by decide
  rw [this]
  simp [isDig]
  omega
theorem T_app (a b : String) : T (a ++ b) = T a ++ T b := by simp [T]
theorem mem_in {c : Nat} : c ∈ T "abcdefghijklmnopqrstuvwxyzABCDEFGHIJKLMNOPQRSTUVWXYZ0123456789_" ↔ inner c = true := by
  have : T "abcdefghijklmnopqrstuvwxyzABCDEFGHIJKLMNOPQRSTUVWXYZ0123456789_" = T "abcdefghijklmnopqrstuvwxyz" ++ (T "ABCDEFGHIJKLMNOPQRSTUVWXYZ" ++ (T "0123456789" ++ [95])) := by decide
  rw [this]
  simp only [List.mem_append, mem_sm, mem_gr, mem_dg, inner, List.mem_singleton, Bool.or_eq_true, decide_eq_true_eq, or_assoc]
abbrev SMALL : Txt := T "abcdefghijklmnopqrstuvwxyz"
abbrev GREAT : Txt := T "ABCDEFGHIJKLMNOPQRSTUVWXYZ"
abbrev DIGITS : Txt := T "0123456789"
abbrev INNER : Txt := T "abcdefghijklmnopqrstuvwxyzABCDEFGHIJKLMNOPQRSTUVWXYZ0123456789_"
@[simp] theorem in_sm {c : Nat} : cop .inn (.str [c]) (.str SMALL) = some (isSm c) := by
  show some (decide (c ∈ SMALL)) = _
  congr 1
  rw [Bool.eq_iff_iff, decide_eq_true_eq]; exact mem_sm
@[simp] theorem in_gr {c : Nat} : cop .inn (.str [c]) (.str GREAT) = some (isGr c) := by
  show some (decide (c ∈ GREAT)) = _
  congr 1
  rw [Bool.eq_iff_iff, decide_eq_true_eq]; exact mem_gr
@[simp] theorem in_dg {c : Nat} : cop .inn (.str [c]) (.str DIGITS) = some (isDig c) := by
  show some (decide (c ∈ DIGITS)) = _
  congr 1
  rw [Bool.eq_iff_iff, decide_eq_true_eq]; exact mem_dg
@[simp] theorem in_inner {c : Nat} : cop .inn (.str [c]) (.str INNER) = some (inner c) := by
  show some (decide (c ∈ INNER)) = _
  congr 1
  rw [Bool.eq_iff_iff, decide_eq_true_eq]; exact mem_in
theorem in_txt {c : Nat} {S : Txt} : cop .inn (.str [c]) (.str S) = some (decide (c ∈ S)) := rfl
/-! texts in the interpreter -/
theorem eq_txt {a b : Txt} (ha : TxOk a) (hb : TxOk b) : cop .eq (.str a) (.str b) = some (decide (a = b)) := by
  rw [eq_str ha hb]
  congr 1
  rw [Bool.eq_iff_iff]; simp
theorem ne_txt {a b : Txt} (ha : TxOk a) (hb : TxOk b) : cop .ne (.str a) (.str b) = some (!decide (a = b)) := cop_ne_of (eq_txt ha hb)
theorem txok_iff {t : Txt} : TxOk t ↔ ∀ c ∈ t, c < 0x110000 := by
  unfold TxOk
  simp [plain]
theorem txok_sub {t u : Txt} (h : TxOk t) (hs : ∀ c ∈ u, c ∈ t) : TxOk u := txok_iff.mpr fun c hc => txok_iff.mp h c (hs c hc)
theorem txok_drop {t : Txt} {k : Nat} (h : TxOk t) : TxOk (t.drop k) := txok_sub h fun c hc => List.mem_of_mem_drop hc
theorem txok_take {t : Txt} {k : Nat} (h : TxOk t) : TxOk (t.take k) := txok_sub h fun c hc => List.mem_of_mem_take hc
theorem txok_sl {t : Txt} {a b : Nat} (h : TxOk t) : TxOk (sl t a b) := txok_take (txok_drop h)
theorem txok_app {t u : Txt} (h : TxOk t) (h2 : TxOk u) : TxOk (t ++ u) := txok_iff.mpr fun c hc => (List.mem_append.mp hc).elim (txok_iff.mp h c) (txok_iff.mp h2 c)
theorem txok_get {t : Txt} {k c : Nat} (h : TxOk t) (hc : t[k]? = some c) : TxOk [c] := txok_sub h fun d hd => by rw [List.mem_singleton.mp hd]; exact List.mem_of_getElem? hc
theorem le_c {a c : Nat} : cop .le (.str [a]) (.str [c]) = some (decide (a ≤ c)) := by
  show some (decide ([a] ≤ [c])) = _
  congr 1
  apply decide_eq_decide.mpr
  simp [List.cons_le_cons_iff]
  omega
theorem le_nil {c : Nat} : cop .le (.str [c]) (.str []) = some false := by
  show some (decide ([c] ≤ ([] : List Nat))) = _
  congr 1
theorem cut_sl {t : Txt} {a b : Nat} : cut t (some (a : Int)) (some (b : Int)) = sl t a b := by
  unfold cut cutAt sl
  simp only [show ¬ ((a : Int) < 0) by omega, show ¬ ((b : Int) < 0) by omega, if_false, Int.toNat_natCast]
  by_cases h : a ≤ t.length
  · rw [Nat.min_eq_left h]
    by_cases h2 : b ≤ t.length
    · rw [Nat.min_eq_left h2]
    · rw [show min b t.length = t.length by omega, List.take_of_length_le (by simp), List.take_of_length_le (by simp; omega)]
  · rw [show min a t.length = t.length by omega, List.drop_of_length_le (Nat.le_refl _), List.drop_of_length_le (by omega)]
    simp
theorem cut_from {t : Txt} {a : Nat} : cut t (some (a : Int)) none = t.drop a := by
  unfold cut cutAt
  simp only [show ¬ ((a : Int) < 0) by omega, if_false, Int.toNat_natCast]
  by_cases h : a ≤ t.length
  · rw [Nat.min_eq_left h, List.take_of_length_le (by simp)]
  · rw [Nat.min_eq_right (by omega), List.drop_of_length_le (Nat.le_refl _), List.drop_of_length_le (by omega)]
    simp
theorem cut_to {t : Txt} {b : Nat} : cut t none (some (b : Int)) = t.take b := by
  unfold cut cutAt
  simp only [show ¬ ((b : Int) < 0) by omega, if_false, Int.toNat_natCast]
  by_cases h : b ≤ t.length
  · rw [Nat.min_eq_left h]; simp
  · rw [Nat.min_eq_right (by omega)]; simp [List.take_of_length_le (show t.length ≤ b by omega)]
def Sz (t : Txt) : Prop := t.length ≤ 8000
theorem slc_str {t : Txt} {lo hi : Option Int} (h : t.length ≤ LIM) : slc (.str t) lo hi = some (.str (cut t lo hi)) := by
  show (if t.length ≤ LIM then some (D.str (cut t lo hi)) else none) = _
  rw [if_pos h]
theorem len_str {t : Txt} (h : t.length ≤ LIM) : prim1 .len (.str t) = some (nat t.length) := by
  show (if t.length ≤ LIM then some (D.int t.length) else none) = _
  rw [if_pos h]
theorem idx_str {t : Txt} {k : Nat} (h : t.length ≤ LIM) : idx (.str t) (nat k) = (t[k]?).map fun c => .str [c] := by
  show (if t.length ≤ LIM then (getI t (k : Int)).map fun c => D.str [c] else none) = _
  rw [if_pos h, getI_nat_]
theorem items_str {t : Txt} (h : t.length ≤ LIM) : itemsOf (.str t) = some (t.map fun c => .str [c]) := by
  show (if t.length ≤ LIM then some (t.map fun c => D.str [c]) else none) = _
  rw [if_pos h]
@[simp] theorem isNon_var {i : Nat} : isNon (.var i) = false := rfl
@[simp] theorem isNon_bin {o : Bop} {a b : E} : isNon (.bin o a b) = false := rfl
@[simp] theorem isNon_int {i : Int} : isNon (.lit (.int i)) = false := rfl
@[simp] theorem isNon_non : isNon (.lit .non) = true := rfl
@[simp] theorem bd_f {i : Int} : bd false (.int i) = some (some i) := rfl
@[simp] theorem bd_t : bd true .non = some none := rfl
@[simp] theorem i1lt {x : Nat} : (1 : Int) < (x : Int) ↔ 1 < x := by omega
@[simp] theorem i1le {x : Nat} : (1 : Int) ≤ (x : Int) ↔ 1 ≤ x := by omega
@[simp] theorem i7lt {x : Nat} : (7 : Int) < (x : Int) ↔ 7 < x := by omega
@[simp] theorem i12lt {x : Nat} : (12 : Int) < (x : Int) ↔ 12 < x := by omega
@[simp] theorem i12le {x : Nat} : (x : Int) ≤ 12 ↔ x ≤ 12 := by omega
@[simp] theorem i8000 {x : Nat} : (8000 : Int) < (x : Int) ↔ 8000 < x := by omega
@[simp] theorem i0lt {x : Nat} : (x : Int) < 0 ↔ False := ⟨fun h => by omega, False.elim⟩
@[simp] theorem eq48 : cop .eq (.str [48]) (.str [48]) = some true := id rfl
@[simp] theorem eq45 : cop .eq (.str [45]) (.str [45]) = some true := id rfl
@[simp] theorem eq35 : cop .eq (.str [35]) (.str [35]) = some true := id rfl
theorem le_lim {n : Nat} (h : n ≤ 100000) : n ≤ LIM := Nat.le_trans h (by decide)
end K30
end
section
set_option Elab.async false
set_option linter.all false
set_option maxRecDepth 100000
set_option autoImplicit false
set_option maxHeartbeats 4000000
/-! K30r: ends of rows. -/
namespace K30
open PX
theorem get_drop {t : Txt} {k c : Nat} (h : t[k]? = some c) : t.drop k = c :: t.drop (k + 1) := by
  obtain ⟨hk, rfl⟩ := List.getElem?_eq_some_iff.mp h
  exact List.drop_eq_getElem_cons hk
theorem run_go {P : Nat → Bool} {t : Txt} {k c : Nat} (h : t[k]? = some c) (hp : P c = true) : run P t k = run P t (k + 1) := by
  unfold run
  rw [get_drop h, List.takeWhile_cons_of_pos hp, List.length_cons]
  omega
theorem run_no {P : Nat → Bool} {t : Txt} {k c : Nat} (h : t[k]? = some c) (hp : P c = false) : run P t k = k := by
  unfold run
  rw [get_drop h, List.takeWhile_cons_of_neg (by simp [hp])]
  rfl
theorem run_end {P : Nat → Bool} {t : Txt} {k : Nat} (h : t.length ≤ k) : run P t k = k := by
  unfold run
  rw [List.drop_of_length_le h]
  rfl
theorem run_le {P : Nat → Bool} {t : Txt} {k : Nat} (h : k ≤ t.length) : run P t k ≤ t.length := by
  unfold run
  have := (List.takeWhile_prefix P (l := t.drop k)).length_le
  rw [List.length_drop] at this
  omega
theorem run_sl {P : Nat → Bool} {t : Txt} {k : Nat} : sl t k (run P t k) = (t.drop k).takeWhile P := by
  unfold sl run
  rw [show k + ((t.drop k).takeWhile P).length - k = ((t.drop k).takeWhile P).length by omega]
  exact (List.prefix_iff_eq_take.mp (List.takeWhile_prefix P)).symm
theorem wh_end {n : Nat} {s : Sl} {g : G} {cf : Sl → G → R D} {bf : Sl → G → Fl} (hc : cf s g = .ok (.bl false) g) : whileL cf bf (n + 1) s g = .nx s g := by
  show lift s (cf s g) _ = _
  rw [hc]
  show (if D.bl false = .bl true then (bf s g).bind fun s g => whileL cf bf n s g else .nx s g) = _
  rw [if_neg (by simp)]
section
variable {n : Nat} {g : G} {t : Txt}
theorem end_wh {S : Txt} (hz : t.length ≤ 100000) {F : Nat → List D → G → R D} : ∀ (m k w : Nat), t.length - k ≤ m → m < w →
    whileL (whC prog.cons F (.and_ (.cmp .lt (.var 1) (.p1 .len (.var 0))) (.cmp .inn (.idx (.var 0) (.var 1)) (.var 2)))) (whB prog.cons prog.sub prog.W F (.aug 1 .add (.lit (.int 1)))) w [.val (.str t), .val (nat k), .val (.str S)] g =
    .nx [.val (.str t), .val (nat (run (fun c => decide (c ∈ S)) t k)), .val (.str S)] g
  | m, k, 0, _, h => absurd h (Nat.not_lt_zero m)
  | m, k, w + 1, hm, hw => by
    have hl := le_lim hz
    by_cases hk : k < t.length
    · have e := List.getElem?_eq_getElem hk
      by_cases hp : t[k] ∈ S
      · refine wh_go (s1 := [.val (.str t), .val (nat (k + 1)), .val (.str S)]) (g1 := g) ?_ ?_ ?_
        · simp [len_str hl, idx_str hl, hk, e, in_txt, hp]
        · simp
        · cases m with
          | zero => omega
          | succ m =>
            rw [run_go e (by simpa using hp)]
            exact end_wh hz m (k + 1) w (by omega) (by omega)
      · rw [run_no e (by simpa using hp)]
        refine wh_end ?_
        simp [len_str hl, idx_str hl, hk, e, in_txt, hp]
    · rw [run_end (by omega)]
      refine wh_end ?_
      simp [len_str hl, hk]
theorem end_call {S : Txt} {k : Nat} (hz : t.length < 100000) : call prog (n + 1) 5 [.str t, nat k, .str S] g = .ok (nat (run (fun c => decide (c ∈ S)) t k)) g := by
  rw [call_of (P := prog) (fn := ⟨3, 3, true, false, b_end_of⟩) rfl rfl]
  refine run_as (r := .ret false (nat (run (fun c => decide (c ∈ S)) t k)) g) ?_ (by simp)
  simp [b_end_of, start]
  rw [end_wh (by omega) t.length k prog.W (by omega) hz]
  simp
theorem run_congr {P Q : Nat → Bool} (h : ∀ c, P c = Q c) {k : Nat} : run P t k = run Q t k := by rw [show P = Q from funext h]
@[simp] theorem end_inner {k : Nat} (hz : t.length < 100000) : call prog (n + 1) 5 [.str t, nat k, .str INNER] g = .ok (nat (run inner t k)) g := by
  rw [end_call hz, run_congr (Q := inner)]
  intro c
  rw [Bool.eq_iff_iff, decide_eq_true_eq]; exact mem_in
@[simp] theorem end_digits {k : Nat} (hz : t.length < 100000) : call prog (n + 1) 5 [.str t, nat k, .str DIGITS] g = .ok (nat (run isDig t k)) g := by
  rw [end_call hz, run_congr (Q := isDig)]
  intro c
  rw [Bool.eq_iff_iff, decide_eq_true_eq]; exact mem_dg
@[simp] theorem T1 (c : Char) : T (String.singleton c) = [c.toNat] := by simp [T]
/-- a sign is inner, in the law's words -/
theorem inner_call {c : Nat} (hc : TxOk [c]) : call prog (n + 1) 17 [.str [c]] g = .ok (.bl (inner c)) g := by
  rw [call_of (P := prog) (fn := ⟨1, 1, true, false, b_law_inner⟩) rfl rfl]
  refine run_as (r := .ret false (.bl (inner c)) g) ?_ (by simp)
  have e1 : T "a" = [97] := rfl
  have e2 : T "z" = [122] := rfl
  have e3 : T "A" = [65] := rfl
  have e4 : T "Z" = [90] := rfl
  have e5 : T "0" = [48] := rfl
  have e6 : T "9" = [57] := rfl
  have e7 : T "_" = [95] := rfl
  have ok95 : TxOk [95] := (rfl : plain (.str [95]) = true)
  have eq := eq_txt hc ok95
  have eq2 := eq_txt ok95 ok95
  by_cases h1 : 97 ≤ c <;> by_cases h2 : c ≤ 122 <;> by_cases h3 : 65 ≤ c <;> by_cases h4 : c ≤ 90 <;> by_cases h5 : 48 ≤ c <;> by_cases h6 : c ≤ 57 <;> by_cases h7 : c = 95 <;>
    simp [b_law_inner, start, le_c, e1, e2, e3, e4, e5, e6, e7, eq, eq2, inner, isSm, isGr, isDig, h1, h2, h3, h4, h5, h6, h7]
def rowStep (P : Nat → Bool) (e : Nat) (c : Nat) : Tu Nat := if P c then .go (e + 1) else .ret (nat e)
theorem row_run {P : Nat → Bool} : ∀ (u : Txt) (e : Nat), (runT (rowStep P) u e = .go (e + (u.takeWhile P).length)) ∨ (runT (rowStep P) u e = .ret (nat (e + (u.takeWhile P).length)))
  | [], e => .inl rfl
  | c :: u, e => by
    unfold runT rowStep
    by_cases h : P c = true
    · rw [if_pos h, List.takeWhile_cons_of_pos h]
      have := row_run (P := P) u (e + 1)
      simp only [List.length_cons]
      rw [show e + ((u.takeWhile P).length + 1) = e + 1 + (u.takeWhile P).length by omega]
      exact this
    · rw [if_neg h, List.takeWhile_cons_of_neg h]
      exact .inr rfl
theorem dig_chain {c : Nat} {h : G} {g : G} : (match (some (decide (48 ≤ c))).map D.bl with
    | some (.bl true) => R.ofO g ((some (decide (c ≤ 57))).map D.bl)
    | some (.bl false) => .ok (.bl false) g
    | _ => .bad : R D) = .ok (.bl (isDig c)) g := by
  by_cases h1 : 48 ≤ c <;> simp [h1, isDig]
theorem row_call {b : Nat} {dg : Bool} (hz : t.length < 100000) (ht : TxOk t) : call prog (n + 2) 18 [.str t, nat b, .bl dg] g = .ok (nat (run (if dg then isDig else inner) t b)) g := by
  have hl := le_lim (Nat.le_of_lt hz)
  rw [call_of (P := prog) (fn := ⟨3, 5, true, false, b_law_row⟩) rfl rfl]
  refine run_as (r := .ret false (nat (run (if dg then isDig else inner) t b)) g) ?_ (by simp)
  have ld : (t.drop b).length ≤ LIM := by rw [List.length_drop]; omega
  have e5 : T "0" = [48] := rfl
  have e6 : T "9" = [57] := rfl
  simp [b_law_row, start, slc_str hl, cut_from, items_str ld, -List.map_drop]
  refine for_turn (fun (e : Nat) y => [.val (.str t), .val (nat b), .val (.bl dg), .val (nat e), y]) (rowStep (if dg then isDig else inner)) (fun _ _ => True) b .un false rfl trivial ?_ ?_
  · intro i c hc hi e y _
    have oc : TxOk [c] := txok_get (txok_drop (k := b) ht) hc
    have ic := inner_call (n := n) (g := g) oc
    cases dg with
    | true =>
      by_cases h : isDig c = true
      · have h' := h
        simp [isDig] at h'
        simp [rowStep, h, e5, e6, le_c, h']
      · have h' : 48 ≤ c → 57 < c := by simpa [isDig] using h
        by_cases h1 : 48 ≤ c
        · have : ¬ c ≤ 57 := by have := h' h1; omega
          simp [rowStep, h, e5, e6, le_c, h1, this]
        · simp [rowStep, h, e5, e6, le_c, h1]
    | false =>
      by_cases h : inner c = true
      · simp [rowStep, h, ic]
      · simp [rowStep, h, ic]
  · rcases row_run (P := if dg then isDig else inner) (t.drop b) b with h | h
    · rw [h]
      intro _ y
      simp [run]
    · rw [h]
      rfl
end
end K30
end
section
set_option Elab.async false
set_option linter.all false
set_option maxRecDepth 100000
set_option autoImplicit false
set_option maxHeartbeats 4000000
/-! K30s: numbers and their texts. -/
namespace K30
open PX
/-- the digits of a number -/
def dg (n : Nat) : Txt := (Nat.toDigits 10 n).map Char.toNat
theorem dg_lt {n : Nat} (h : n < 10) : dg n = [48 + n] := by
  unfold dg
  rw [Nat.toDigits_of_lt_base h]
  have : ∀ m < 10, [Nat.digitChar m].map Char.toNat = [48 + m] := by decide
  exact this n h
theorem dg_ge {n : Nat} (h : 10 ≤ n) : dg n = dg (n / 10) ++ [48 + n % 10] := by
  unfold dg
  rw [Nat.toDigits_of_base_le (by decide) h, List.map_append]
  have : ∀ m < 10, [Nat.digitChar m].map Char.toNat = [48 + m] := by decide
  rw [this _ (Nat.mod_lt _ (by decide))]
theorem T_nat (n : Nat) : T (toString ((n : Nat) : Int)) = dg n := by
  show T (Nat.repr n) = _
  unfold T Nat.repr dg
  simp
theorem digV_acc (r : Txt) (acc : Nat) : digV acc r = acc * 10 ^ r.length + digV 0 r := by
  induction r generalizing acc with
  | nil =>
    show acc = acc * 1 + 0
    omega
  | cons c r ih =>
    have e1 : digV acc (c :: r) = digV (acc * 10 + (c - 48)) r := rfl
    have e2 : digV 0 (c :: r) = digV (0 * 10 + (c - 48)) r := rfl
    rw [e1, e2, ih (acc * 10 + (c - 48)), ih (0 * 10 + (c - 48)), List.length_cons, Nat.pow_succ]
    generalize 10 ^ r.length = p
    rw [Nat.zero_mul, Nat.zero_add, Nat.add_mul, Nat.mul_assoc acc 10, Nat.mul_comm 10 p, Nat.add_assoc]
theorem digV_snoc (r : Txt) (c : Nat) (acc : Nat) : digV acc (r ++ [c]) = digV acc r * 10 + (c - 48) := by
  induction r generalizing acc with
  | nil => rfl
  | cons d r ih => exact ih _
theorem digV_lt : ∀ (r : Txt), (∀ c ∈ r, isDig c = true) → digV 0 r < 10 ^ r.length
  | [], _ => Nat.zero_lt_one
  | c :: r, h => by
    have ih := digV_lt r fun d hd => h d (List.mem_cons_of_mem _ hd)
    have hc := h c List.mem_cons_self
    simp only [isDig, Bool.and_eq_true, decide_eq_true_eq] at hc
    show digV (0 * 10 + (c - 48)) r < 10 ^ (r.length + 1)
    rw [digV_acc, Nat.pow_succ]
    have : (0 * 10 + (c - 48)) * 10 ^ r.length ≤ 9 * 10 ^ r.length := Nat.mul_le_mul_right _ (by omega)
    omega
theorem digV_ge {c : Nat} {r : Txt} (h : 49 ≤ c) : 10 ^ r.length ≤ digV 0 (c :: r) := by
  show _ ≤ digV (0 * 10 + (c - 48)) r
  rw [digV_acc]
  have : 1 * 10 ^ r.length ≤ (0 * 10 + (c - 48)) * 10 ^ r.length := Nat.mul_le_mul_right _ (by omega)
  omega
/-- a number's digits do not begin with 0, but 0's -/
theorem dg_head : ∀ (n : Nat), 1 ≤ n → ∃ d l, dg n = d :: l ∧ 49 ≤ d := by
  intro n
  induction n using Nat.strongRecOn with
  | ind n ih =>
    intro h
    by_cases q : n < 10
    · exact ⟨48 + n, [], dg_lt q, by omega⟩
    · obtain ⟨d, l, e, h2⟩ := ih (n / 10) (by omega) (by omega)
      exact ⟨d, l ++ [48 + n % 10], by rw [dg_ge (by omega), e]; rfl, h2⟩
/-- digits that do not begin with 0 are their number's -/
theorem dg_val (r : Txt) (hd : ∀ c ∈ r, isDig c = true) (hn : r ≠ []) (h0 : r.head? ≠ some 48 ∨ r.length = 1) : dg (digV 0 r) = r := by
  obtain ⟨m, hm⟩ : ∃ m, r.length = m + 1 := ⟨r.length - 1, by have := List.length_pos_iff.mpr hn; omega⟩
  induction m generalizing r with
  | zero =>
    match r, hm with
    | [c], _ =>
      have hc := hd c List.mem_cons_self
      simp only [isDig, Bool.and_eq_true, decide_eq_true_eq] at hc
      show dg (0 * 10 + (c - 48)) = _
      rw [dg_lt (by omega)]
      congr 1
      omega
  | succ m ih =>
    obtain ⟨s, c, rfl⟩ : ∃ s c, r = s ++ [c] := ⟨r.dropLast, r.getLast hn, (List.dropLast_concat_getLast hn).symm⟩
    have hs : s.length = m + 1 := by simpa using hm
    have sn : s ≠ [] := by intro e; rw [e] at hs; cases hs
    have hh : s.head? ≠ some 48 := by
      rcases h0 with h | h
      · intro e
        apply h
        rw [List.head?_append, e]; rfl
      · rw [hm] at h; omega
    have i := ih s (fun d h => hd d (List.mem_append_left _ h)) sn (.inl hh) hs
    have hc := hd c (by simp)
    simp only [isDig, Bool.and_eq_true, decide_eq_true_eq] at hc
    rw [digV_snoc]
    have hp : 1 ≤ digV 0 s := by
      match s, sn with
      | d :: s', _ =>
        have hd0 := hd d (by simp)
        simp only [isDig, Bool.and_eq_true, decide_eq_true_eq] at hd0
        have h48 : d ≠ 48 := fun e => hh (by rw [e]; rfl)
        have := digV_ge (c := d) (r := s') (by omega)
        have := Nat.pos_of_neZero (10 ^ s'.length)
        omega
    rw [dg_ge (by omega), show (digV 0 s * 10 + (c - 48)) / 10 = digV 0 s by omega, i, show 48 + (digV 0 s * 10 + (c - 48)) % 10 = c by omega]
/-- not fit as a number's digits -/
def bad (r : Txt) (m : Bool) : Bool := decide (7 < r.length) || (decide (r.head? = some 48) && (decide (1 < r.length) || m))
theorem num_eq {r : Txt} {m : Bool} (hd : ∀ c ∈ r, isDig c = true) (hn : r ≠ []) :
    (bad r m || decide (1000000 < digV 0 r)) = (!decide (dg (digV 0 r) = r) || ((decide (r = [48]) && m) || decide (1000000 < digV 0 r))) := by
  by_cases hz : r.head? = some 48
  · by_cases h1 : 1 < r.length
    · have : ¬ dg (digV 0 r) = r := by
        intro e
        by_cases q : digV 0 r = 0
        · rw [q, dg_lt (by decide)] at e
          rw [← e] at h1
          simp at h1
        · obtain ⟨d, l, e2, h2⟩ := dg_head (digV 0 r) (by omega)
          rw [← e, e2] at hz
          simp at hz
          omega
      simp [bad, hz, h1, this]
    · have e : r = [48] := by
        match r, hn with
        | c :: s, _ =>
          have : s = [] := by
            rw [List.length_cons] at h1
            exact List.length_eq_zero_iff.mp (by omega)
          subst this
          simp at hz
          rw [hz]
      subst e
      have d0 : dg (digV 0 [48]) = [48] := dg_val [48] hd hn (.inr rfl)
      simp [bad, d0]
  · have e := dg_val r hd hn (.inl hz)
    have n48 : r ≠ [48] := fun q => hz (by rw [q]; rfl)
    by_cases h7 : 7 < r.length
    · have : 1000000 < digV 0 r := by
        match r, hn with
        | c :: s, _ =>
          have hc := hd c List.mem_cons_self
          simp only [isDig, Bool.and_eq_true, decide_eq_true_eq] at hc
          have h48 : c ≠ 48 := fun q => hz (by rw [q]; rfl)
          have := digV_ge (c := c) (r := s) (by omega)
          have h8 : 10 ^ 7 ≤ 10 ^ s.length := Nat.pow_le_pow_right (by decide) (by simp at h7; omega)
          omega
      simp [this]
    · simp [bad, hz, h7, e, n48]
theorem digs_of {r : Txt} (hd : ∀ c ∈ r, isDig c = true) (hn : r ≠ []) (hl : r.length ≤ 600) : digsOk r = true := by
  have h1 : r.all isDig = true := List.all_eq_true.mpr hd
  unfold digsOk
  simp [h1, hl, hn]
theorem int_dig {r : Txt} (hd : ∀ c ∈ r, isDig c = true) (hn : r ≠ []) (hl : r.length ≤ 600) : intOf r = some ((digV 0 r : Nat) : Int) := by
  unfold intOf
  split
  · rename_i r'
    have := hd 45 List.mem_cons_self
    simp [isDig] at this
  · rw [if_pos (digs_of hd hn hl)]
theorem int_neg {r : Txt} (hd : ∀ c ∈ r, isDig c = true) (hn : r ≠ []) (hl : r.length ≤ 600) : intOf (45 :: r) = some (-((digV 0 r : Nat) : Int)) := by
  show (if digsOk r = true then some (-((digV 0 r : Nat) : Int)) else none) = _
  rw [if_pos (digs_of hd hn hl)]
theorem log_dig {r : Txt} (hd : ∀ c ∈ r, isDig c = true) (hl : r.length ≤ 400) : (((digV 0 r : Nat) : Int)).natAbs.log2 < 1920 := by
  rw [Int.natAbs_natCast]
  by_cases z : digV 0 r = 0
  · rw [z]; decide
  · rw [Nat.log2_lt z]
    have h1 := digV_lt r hd
    have h2 : 10 ^ r.length ≤ 10 ^ 400 := Nat.pow_le_pow_right (by decide) hl
    have h3 : (10 : Nat) ^ 400 ≤ 16 ^ 400 := Nat.pow_le_pow_left (show 10 ≤ 16 by decide) 400
    have h4 : (16 : Nat) ^ 400 = 2 ^ 1600 := by
      rw [show (16 : Nat) = 2 ^ 4 from rfl, ← Nat.pow_mul]
    have h5 : (2 : Nat) ^ 1600 ≤ 2 ^ 1920 := Nat.pow_le_pow_right (by decide) (by decide)
    exact Nat.lt_of_lt_of_le h1 (Nat.le_trans h2 (Nat.le_trans h3 (by rw [h4]; exact h5)))
end K30
end
section
set_option Elab.async false
set_option linter.all false
set_option maxRecDepth 100000
set_option autoImplicit false
set_option maxHeartbeats 4000000
/-! K30t: numbers read by the package and by the law. -/
namespace K30
open PX
def sgn (m : Bool) (v : Nat) : Int := if m then -(v : Int) else (v : Int)
def off (m : Bool) : Nat := if m then 1 else 0
def behind (u : Txt) (e : Nat) : Bool := ((u[e]?).map inner).getD false
/-- a number at the begin of a text: its value and its size -/
def numS (u : Txt) : Option (D × Nat) :=
  let m := decide (u.head? = some 45)
  let r := (u.drop (off m)).takeWhile isDig
  if bad r m || decide (1000000 < digV 0 r) || behind u (off m + r.length) then none else some (.int (sgn m (digV 0 r)), off m + r.length)
def badE : E := (.or_ (.cmp .gt (.p1 .len (.var 4)) (.lit (.int 7))) (.and_ (.cmp .eq (.idx (.var 4) (.lit (.int 0))) (.lit (.str (T "0")))) (.or_ (.cmp .gt (.p1 .len (.var 4)) (.lit (.int 1))) (.cmp .gt (.var 2) (.var 1)))))
def wideE : E := (.or_ (.cmp .gt (.p1 .abs (.var 5)) (.con 0)) (.and_ (.cmp .lt (.var 3) (.p1 .len (.var 0))) (.cmp .inn (.idx (.var 0) (.var 3)) (.con 6))))
section
variable {n : Nat} {g : G} {t : Txt} {k : Nat}
theorem con0 : prog.cons[0]? = some (.int 1000000) := rfl
theorem con1 : prog.cons[1]? = some (.int 8000) := rfl
theorem con2 : prog.cons[2]? = some (.str SMALL) := rfl
theorem con3 : prog.cons[3]? = some (.str GREAT) := rfl
theorem con4 : prog.cons[4]? = some (.str DIGITS) := rfl
theorem con6 : prog.cons[6]? = some (.str INNER) := rfl
structure NumAt (t : Txt) (k : Nat) (m : Bool) (b e : Nat) (r : Txt) : Prop where
  hb : b = k + off m
  he : e = run isDig t b
  hr : r = (t.drop b).takeWhile isDig
  hn : r ≠ []
  hm : m = decide (t[k]? = some 45)
theorem NumAt.dig {m : Bool} {b e : Nat} {r : Txt} (h : NumAt t k m b e r) : ∀ c ∈ r, isDig c = true := by
  rw [h.hr]
  intro c hc
  have := List.all_takeWhile (p := isDig) (l := t.drop b)
  exact List.all_eq_true.mp this c hc
theorem NumAt.end {m : Bool} {b e : Nat} {r : Txt} (h : NumAt t k m b e r) : e = k + (off m + r.length) := by
  rw [h.he, run, ← h.hr, h.hb]; omega
theorem NumAt.row {m : Bool} {b e : Nat} {r : Txt} (h : NumAt t k m b e r) : sl t b e = r := by
  rw [h.he, run_sl, ← h.hr]
theorem NumAt.whole {m : Bool} {b e : Nat} {r : Txt} (h : NumAt t k m b e r) : sl t k e = if m then 45 :: r else r := by
  have e1 := h.end
  have hr := h.row
  cases hm : m with
  | false =>
    have hb : b = k := by rw [h.hb, hm]; rfl
    rw [hb] at hr
    simpa using hr
  | true =>
    have hb : b = k + 1 := by rw [h.hb, hm]; rfl
    have h45 : t[k]? = some 45 := by have := h.hm; rw [hm] at this; exact of_decide_eq_true this.symm
    rw [hb] at hr
    unfold sl at hr ⊢
    rw [get_drop h45]
    have : e - k = (e - (k + 1)) + 1 := by rw [hm] at e1; simp [off] at e1; omega
    rw [this, List.take_succ_cons, hr]
    rfl
theorem NumAt.val {m : Bool} {b e : Nat} {r : Txt} (h : NumAt t k m b e r) (hl : r.length ≤ 600) : intOf (sl t k e) = some (sgn m (digV 0 r)) := by
  rw [h.whole]
  cases m with
  | true => exact int_neg h.dig h.hn hl
  | false => exact int_dig h.dig h.hn hl
theorem NumAt.spec {m : Bool} {b e : Nat} {r : Txt} (h : NumAt t k m b e r) : numS (t.drop k) = if bad r m || decide (1000000 < digV 0 r) || behind t e then none else some (.int (sgn m (digV 0 r)), e - k) := by
  have hd : (t.drop k).head? = t[k]? := by rw [List.head?_drop]
  have h1 : decide ((t.drop k).head? = some 45) = m := by rw [hd]; exact h.hm.symm
  have h2 : ((t.drop k).drop (off m)).takeWhile isDig = r := by rw [List.drop_drop, ← h.hb]; exact h.hr.symm
  have h3 : behind (t.drop k) (off m + r.length) = behind t e := by
    unfold behind
    rw [List.getElem?_drop, h.end]
  unfold numS
  simp only [h1, h2, h3]
  rw [show e - k = off m + r.length by rw [h.end]; omega]
theorem minus_ev {c : Nat} (hz : t.length < 100000) (ht : TxOk t) (hc : t[k]? = some c) {F : Nat → List D → G → R D} {x2 : SV} {rest : Sl} :
    exec prog.cons prog.sub prog.W F (.set 2 .val (.ite (.cmp .eq (.idx (.var 0) (.var 1)) (.lit (.str (T "-")))) (.bin .add (.var 1) (.lit (.int 1))) (.var 1))) (.val (.str t) :: .val (nat k) :: x2 :: rest) g =
    .nx (.val (.str t) :: .val (nat k) :: .val (nat (k + off (decide (t[k]? = some 45)))) :: rest) g := by
  have hl := le_lim (Nat.le_of_lt hz)
  have o1 : TxOk [c] := txok_get ht hc
  have o2 : TxOk (T "-") := T_ok _
  have e := eq_txt o1 o2
  have e45 : T "-" = [45] := rfl
  rw [e45] at e
  by_cases h : c = 45
  · simp [idx_str hl, hc, e, e45, h, off]
  · simp [idx_str hl, hc, e, e45, h, off]
theorem number_call {c b e : Nat} {m : Bool} {r : Txt} (hz : t.length < 100000) (ht : TxOk t) (hc : t[k]? = some c) (h : NumAt t k m b e r) :
    call prog (n + 2) 6 [.str t, nat k] g = match numS (t.drop k) with
      | some (v, s) => .ok (.tup [tx "num", v, nat s]) g
      | none => .exc ⟨3, [nat k]⟩ g := by
  have hl := le_lim (Nat.le_of_lt hz)
  have hrl : r.length ≤ t.length := by
    rw [h.hr]
    have := (List.takeWhile_prefix isDig (l := t.drop b)).length_le
    rw [List.length_drop] at this
    omega
  have hl2 : r.length ≤ LIM := Nat.le_trans hrl hl
  obtain ⟨d, r', er⟩ : ∃ d r', r = d :: r' := by
    match r, h.hn with
    | d :: r', _ => exact ⟨d, r', rfl⟩
  have f1 : call prog (n + 1) 5 [.str t, nat b, .str DIGITS] g = .ok (nat e) g := by rw [end_digits hz, h.he]
  have f2 : slc (.str t) (some (b : Int)) (some (e : Int)) = some (.str r) := by rw [slc_str hl, cut_sl, h.row]
  have f3 := len_str hl2
  have f4 : idx (.str r) (.int 0) = some (.str [d]) := by
    have := idx_str (k := 0) hl2
    rw [er] at this ⊢
    exact this
  have od : TxOk [d] := txok_sub ht fun x hx => by
    rw [List.mem_singleton.mp hx]
    have : d ∈ (t.drop b).takeWhile isDig := by rw [← h.hr, er]; exact List.mem_cons_self
    exact List.mem_of_mem_drop ((List.takeWhile_prefix isDig).subset this)
  have e48 : T "0" = [48] := rfl
  have f5 : cop .eq (.str [d]) (.str [48]) = some (decide (d = 48)) := by
    rw [eq_txt od (rfl : plain (.str [48]) = true)]
    congr 1
    simp
  have f6 : slc (.str t) (some (k : Int)) (some (e : Int)) = some (.str (sl t k e)) := by rw [slc_str hl, cut_sl]
  rw [call_of (P := prog) (fn := ⟨2, 6, true, false, b_number_at⟩) rfl rfl]
  have hT : ev prog.cons (call prog (n + 1)) badE .tst [.val (.str t), .val (nat k), .val (nat b), .val (nat e), .val (.str r), .un] g = .ok (.bl (bad r m)) g := by
    have hbk : (k < b) ↔ m = true := by
      rw [h.hb]
      cases m <;> simp [off]
    have hh : r.head? = some d := by rw [er]; rfl
    by_cases h7 : 7 < r.length <;> by_cases h48 : d = 48 <;> by_cases h1 : 1 < r.length <;> cases hm : m <;>
      simp [hm] at hbk <;> simp [badE, f3, f4, e48, f5, bad, hh, h7, h48, h1, hbk]
  rw [h.spec]
  have mv := minus_ev (g := g) hz ht hc (F := call prog (n + 1)) (x2 := .un) (rest := [.un, .un, .un])
  rw [← h.hm, ← h.hb] at mv
  have hke : k < e := by
    have := h.end
    have := List.length_pos_iff.mpr h.hn
    omega
  have hsub : (e : Int) - (k : Int) = ((e - k : Nat) : Int) := by omega
  have run : exec prog.cons prog.sub prog.W (call prog (n + 1)) b_number_at [.val (.str t), .val (nat k), .un, .un, .un, .un] g = (exec prog.cons prog.sub prog.W (call prog (n + 1)) (.seq (.if_ badE (.rai 3 (.cons (.var 1) .nil)) .nop) (.seq (.set 5 .val (.p1 .int (.slc (.var 0) (.var 1) (.var 3))))
      (.seq (.if_ wideE (.rai 3 (.cons (.var 1) .nil)) .nop) (.ret (.tup (.cons (.lit (.str (T "num"))) (.cons (.var 5) (.cons (.bin .sub (.var 3) (.var 1)) .nil)))))))) [.val (.str t), .val (nat k), .val (nat b), .val (nat e), .val (.str r), .un] g) := by
    show (exec prog.cons prog.sub prog.W (call prog (n + 1)) (.set 2 .val (.ite (.cmp .eq (.idx (.var 0) (.var 1)) (.lit (.str (T "-")))) (.bin .add (.var 1) (.lit (.int 1))) (.var 1))) _ g).bind _ = _
    rw [mv]
    show exec prog.cons prog.sub prog.W (call prog (n + 1)) (.seq (.set 3 .val (.call 5 (.cons (.var 0) (.cons (.var 2) (.cons (.con 4) .nil))))) (.seq (.set 4 .val (.slc (.var 0) (.var 2) (.var 3))) (.seq (.if_ badE (.rai 3 (.cons (.var 1) .nil)) .nop) (.seq (.set 5 .val (.p1 .int (.slc (.var 0) (.var 1) (.var 3))))
      (.seq (.if_ wideE (.rai 3 (.cons (.var 1) .nil)) .nop) (.ret (.tup (.cons (.lit (.str (T "num"))) (.cons (.var 5) (.cons (.bin .sub (.var 3) (.var 1)) .nil)))))))))) _ g = _
    rw [zs_seq, zs_set]
    simp only [ze_call, zes_cons, zes_nil, ze_var, ze_con, con4, look, List.getElem?_cons_zero, List.getElem?_cons_succ, ro_some, fin_val, rb_ok, f1, li_ok, put1_val, fb_nx, List.set]
    rw [zs_seq, zs_set]
    simp [f2]
  show close true g (ofFl false (exec prog.cons prog.sub prog.W (call prog (n + 1)) b_number_at [.val (.str t), .val (nat k), .un, .un, .un, .un] g)) = _
  rw [run]
  cases hbd : bad r m with
  | true =>
    refine run_as (r := .exc ⟨3, [nat k]⟩ [.val (.str t), .val (nat k), .val (nat b), .val (nat e), .val (.str r), .un] g) ?_ (by simp)
    simp [hT, hbd]
  | false =>
    have h7 : r.length ≤ 7 := by
      simp [bad] at hbd
      exact hbd.1
    have f7 : prim1 .int (.str (sl t k e)) = some (.int (sgn m (digV 0 r))) := by
      show (intOf (sl t k e)).map D.int = _
      rw [h.val (by omega)]; rfl
    have hW : ev prog.cons (call prog (n + 1)) wideE .tst [.val (.str t), .val (nat k), .val (nat b), .val (nat e), .val (.str r), .val (.int (sgn m (digV 0 r)))] g = .ok (.bl (decide (1000000 < digV 0 r) || behind t e)) g := by
      have ha : prim1 .abs (.int (sgn m (digV 0 r))) = some (nat (digV 0 r)) := by
        show some (D.int (if sgn m (digV 0 r) < 0 then -sgn m (digV 0 r) else sgn m (digV 0 r))) = _
        cases m <;> simp [sgn]
        omega
      have lm : ((1000000 : Int) < ((digV 0 r : Nat) : Int)) ↔ 1000000 < digV 0 r := by omega
      by_cases h1 : 1000000 < digV 0 r
      · simp [wideE, ha, con0, lm, h1]
      · by_cases h2 : e < t.length
        · have e2 := List.getElem?_eq_getElem h2
          simp [wideE, ha, con0, con6, lm, h1, len_str hl, idx_str hl, h2, e2, behind]
        · have e2 := List.getElem?_eq_none (Nat.le_of_not_lt h2)
          simp [wideE, ha, con0, con6, lm, h1, len_str hl, idx_str hl, h2, e2, behind]
    cases hwd : (decide (1000000 < digV 0 r) || behind t e) with
    | true =>
      refine run_as (r := .exc ⟨3, [nat k]⟩ [.val (.str t), .val (nat k), .val (nat b), .val (nat e), .val (.str r), .val (.int (sgn m (digV 0 r)))] g) ?_ (by simp [hwd])
      simp [hT, hbd, f6, f7, hW, hwd]
    | false =>
      refine run_as (r := .ret false (.tup [tx "num", .int (sgn m (digV 0 r)), nat (e - k)]) g) ?_ (by simp [hwd])
      simp [hT, hbd, f6, f7, hW, hwd, hsub]
end
end K30
end
section
set_option Elab.async false
set_option linter.all false
set_option maxRecDepth 100000
set_option autoImplicit false
set_option maxHeartbeats 4000000
/-! K30u: the law's numbers. -/
namespace K30
open PX
def lbadE : E := (.or_ (.cmp .eq (.var 4) (.lit (.str (T "")))) (.or_ (.cmp .ne (.p1 .str (.p1 .int (.var 4))) (.var 4)) (.or_ (.and_ (.cmp .eq (.var 4) (.lit (.str (T "0")))) (.cmp .gt (.var 2) (.var 1))) (.cmp .gt (.p1 .int (.var 4)) (.lit (.int 1000000))))))
def lwideE : E := (.and_ (.cmp .lt (.var 3) (.p1 .len (.var 0))) (.call 17 (.cons (.idx (.var 0) (.var 3)) .nil)))
theorem p_str_int (i : Int) : prim1 .str (.int i) = if i.natAbs.log2 < 1920 then some (.str (T (toString i))) else none := rfl
section
variable {n : Nat} {g : G} {t : Txt} {k : Nat}
/-- what the law makes of a token -/
def tokL (k : Nat) (kd : String) : Option (D × Nat) → D
  | some (v, s) => .tup [.tup [tx kd, v, nat k], nat (k + s)]
  | none => .non
theorem lnumber_call {c b e : Nat} {m : Bool} {r : Txt} (hz : t.length ≤ 400) (ht : TxOk t) (hc : t[k]? = some c) (h : NumAt t k m b e r) :
    call prog (n + 3) 19 [.str t, nat k] g = .ok (tokL k "num" (numS (t.drop k))) g := by
  have hl : t.length ≤ LIM := le_lim (by omega)
  have hrl : r.length ≤ t.length := by
    rw [h.hr]
    have := (List.takeWhile_prefix isDig (l := t.drop b)).length_le
    rw [List.length_drop] at this
    omega
  have f1 : call prog (n + 2) 18 [.str t, nat b, .bl true] g = .ok (nat e) g := by rw [row_call (by omega) ht, h.he]; rfl
  have f2 : slc (.str t) (some (b : Int)) (some (e : Int)) = some (.str r) := by rw [slc_str hl, cut_sl, h.row]
  have or : TxOk r := by rw [h.hr]; exact txok_sub ht fun c hc => List.mem_of_mem_drop ((List.takeWhile_prefix isDig).subset hc)
  have f6 : slc (.str t) (some (k : Int)) (some (e : Int)) = some (.str (sl t k e)) := by rw [slc_str hl, cut_sl]
  have f7 : prim1 .int (.str (sl t k e)) = some (.int (sgn m (digV 0 r))) := by
    show (intOf (sl t k e)).map D.int = _
    rw [h.val (by omega)]; rfl
  have f8 : prim1 .int (.str r) = some (nat (digV 0 r)) := by
    show (intOf r).map D.int = _
    rw [int_dig h.dig h.hn (by omega)]; rfl
  have f9 : prim1 .str (nat (digV 0 r)) = some (.str (dg (digV 0 r))) := by
    rw [p_str_int, if_pos (log_dig h.dig (by omega)), T_nat]
  have od : TxOk (dg (digV 0 r)) := by rw [← T_nat]; exact T_ok _
  have g1 : cop .eq (.str r) (.str (T "")) = some false := by
    rw [eq_txt or (T_ok _)]
    congr 1
    exact decide_eq_false h.hn
  have g2 : cop .ne (.str (dg (digV 0 r))) (.str r) = some (!decide (dg (digV 0 r) = r)) := ne_txt od or
  have g3 : cop .eq (.str r) (.str (T "0")) = some (decide (r = [48])) := eq_txt or (T_ok _)
  have hbk : (k < b) ↔ m = true := by
    rw [h.hb]
    cases m <;> simp [off]
  have hke : k + (e - k) = e := by
    have := h.end
    omega
  have lm : ((1000000 : Int) < ((digV 0 r : Nat) : Int)) ↔ 1000000 < digV 0 r := by omega
  have hT : ev prog.cons (call prog (n + 2)) lbadE .tst [.val (.str t), .val (nat k), .val (nat b), .val (nat e), .val (.str r)] g = .ok (.bl (bad r m || decide (1000000 < digV 0 r))) g := by
    rw [num_eq h.dig h.hn]
    by_cases h1 : dg (digV 0 r) = r
    · have g2' : cop .ne (.str r) (.str r) = some false := by rw [ne_txt or or]; simp
      by_cases h2 : r = [48]
      · have g3' : cop .eq (.str r) (.str (T "0")) = some true := by rw [g3, decide_eq_true h2]
        rcases Bool.eq_false_or_eq_true m with hm | hm
        · have hlt : k < b := hbk.mpr hm
          simp [lbadE, g1, g2', f8, f9, g3', h1, decide_eq_true h2, lm, hlt, hm]
        · have hlt : ¬ k < b := fun q => by have := hbk.mp q; rw [hm] at this; cases this
          simp [lbadE, g1, g2', f8, f9, g3', h1, decide_eq_true h2, lm, hlt, hm]
      · have g3' : cop .eq (.str r) (.str (T "0")) = some false := by rw [g3, decide_eq_false h2]
        simp [lbadE, g1, g2', f8, f9, g3', h1, h2, lm]
    · simp [lbadE, g1, g2, f8, f9, h1]
  have hW : ev prog.cons (call prog (n + 2)) lwideE .tst [.val (.str t), .val (nat k), .val (nat b), .val (nat e), .val (.str r)] g = .ok (.bl (behind t e)) g := by
    by_cases h2 : e < t.length
    · have e2 := List.getElem?_eq_getElem h2
      have ic := inner_call (n := n + 1) (g := g) (txok_get ht e2)
      simp [lwideE, len_str hl, idx_str hl, h2, e2, behind, ic]
    · have e2 := List.getElem?_eq_none (Nat.le_of_not_lt h2)
      simp [lwideE, len_str hl, h2, e2, behind]
  have mv := minus_ev (g := g) (show t.length < 100000 by omega) ht hc (F := call prog (n + 2)) (x2 := .un) (rest := [.un, .un])
  rw [← h.hm, ← h.hb] at mv
  have run : exec prog.cons prog.sub prog.W (call prog (n + 2)) b_law_number [.val (.str t), .val (nat k), .un, .un, .un] g = (exec prog.cons prog.sub prog.W (call prog (n + 2)) (.seq (.if_ lbadE (.ret (.lit .non)) .nop)
      (.ret (.ite lwideE (.lit .non) (.tup (.cons (.tup (.cons (.lit (.str (T "num"))) (.cons (.p1 .int (.slc (.var 0) (.var 1) (.var 3))) (.cons (.var 1) .nil)))) (.cons (.var 3) .nil)))))) [.val (.str t), .val (nat k), .val (nat b), .val (nat e), .val (.str r)] g) := by
    show (exec prog.cons prog.sub prog.W (call prog (n + 2)) (.set 2 .val (.ite (.cmp .eq (.idx (.var 0) (.var 1)) (.lit (.str (T "-")))) (.bin .add (.var 1) (.lit (.int 1))) (.var 1))) _ g).bind _ = _
    rw [mv]
    show exec prog.cons prog.sub prog.W (call prog (n + 2)) (.seq (.set 3 .val (.call 18 (.cons (.var 0) (.cons (.var 2) (.cons (.lit (.bl true)) .nil))))) (.seq (.set 4 .val (.slc (.var 0) (.var 2) (.var 3))) (.seq (.if_ lbadE (.ret (.lit .non)) .nop)
      (.ret (.ite lwideE (.lit .non) (.tup (.cons (.tup (.cons (.lit (.str (T "num"))) (.cons (.p1 .int (.slc (.var 0) (.var 1) (.var 3))) (.cons (.var 1) .nil)))) (.cons (.var 3) .nil)))))))) _ g = _
    rw [zs_seq, zs_set]
    simp only [ze_call, zes_cons, zes_nil, ze_var, ze_lit, look, List.getElem?_cons_zero, List.getElem?_cons_succ, ro_some, fin_val, rb_ok, f1, li_ok, put1_val, fb_nx, List.set]
    rw [zs_seq, zs_set]
    simp [f2]
  rw [call_of (P := prog) (fn := ⟨2, 5, true, false, b_law_number⟩) rfl rfl]
  show close true g (ofFl false (exec prog.cons prog.sub prog.W (call prog (n + 2)) b_law_number [.val (.str t), .val (nat k), .un, .un, .un] g)) = _
  rw [run, h.spec]
  cases hbd : (bad r m || decide (1000000 < digV 0 r)) with
  | true =>
    refine run_as (r := .ret false .non g) ?_ (by simp [tokL])
    simp [hT, hbd]
  | false =>
    cases hwd : behind t e with
    | true =>
      refine run_as (r := .ret false .non g) ?_ (by simp [tokL])
      simp [hT, hbd, hW, hwd]
    | false =>
      refine run_as (r := .ret false (.tup [.tup [tx "num", .int (sgn m (digV 0 r)), nat k], nat e]) g) ?_ (by simp [tokL, hke])
      simp [hT, hbd, f6, f7, hW, hwd]
end
end K30
end
section
set_option Elab.async false
set_option linter.all false
set_option maxRecDepth 100000
set_option autoImplicit false
set_option maxHeartbeats 4000000
/-! K30v: a token at a place. -/
namespace K30
open PX
def signs : List Txt := [T ":-", T "!=", T "<=", T "(", T ")", T ",", T ".", T "?", T "=", T "<"]
def dig1 (u : Txt) : Bool := ((u[1]?).map isDig).getD false
/-- a token at the begin of a text: its kind, value, size -/
def tokS : Txt → Option (String × D × Nat)
  | [] => none
  | c :: u =>
    if isSm c || isGr c then (if 12 < ((c :: u).takeWhile inner).length then none else some (if isSm c then "word" else "var", .str ((c :: u).takeWhile inner), ((c :: u).takeWhile inner).length))
    else if isDig c || (decide (c = 45) && dig1 (c :: u)) then (numS (c :: u)).map fun p => ("num", p.1, p.2)
    else (signs.find? fun o => decide ((c :: u).take o.length = o)).map fun o => ("sign", .str o, o.length)
theorem con5 : prog.cons[5]? = some (.tup (signs.map .str)) := rfl
theorem find_map {α : Type} {p : α → Bool} {f : α → D} : ∀ xs : List α, runT (fun (_ : Unit) o => if p o then Tu.ret (f o) else .go ()) xs () = match xs.find? p with
    | some o => .ret (f o)
    | none => .go ()
  | [] => rfl
  | x :: xs => by
    unfold runT
    by_cases h : p x = true
    · simp [h]
    · simp only [h]
      have ih := find_map (p := p) (f := f) xs
      simp [h] at ih ⊢
      exact ih
/-- what number_at asks of the text -/
theorem num_at {t : Txt} {k c : Nat} (hc : t[k]? = some c) (h : (isDig c || (decide (c = 45) && dig1 (t.drop k))) = true) : ∃ b e r, NumAt t k (decide (t[k]? = some 45)) b e r := by
  refine ⟨_, _, _, rfl, rfl, rfl, ?_, rfl⟩
  by_cases h45 : c = 45
  · subst h45
    have h1 : dig1 (t.drop k) = true := by simpa [isDig] using h
    unfold dig1 at h1
    rw [List.getElem?_drop] at h1
    cases q : t[k + 1]? with
    | none => rw [q] at h1; cases h1
    | some d =>
      rw [q] at h1
      have hd : isDig d = true := h1
      simp only [hc, decide_true, off, if_true]
      rw [get_drop q, List.takeWhile_cons_of_pos hd]
      simp
  · have hd : isDig c = true := by simpa [h45] using h
    have : decide (t[k]? = some 45) = false := by rw [hc]; simp [h45]
    rw [this]
    show (t.drop (k + 0)).takeWhile isDig ≠ []
    rw [Nat.add_zero, get_drop hc, List.takeWhile_cons_of_pos hd]
    simp
theorem for_cl {α σ τ : Type} {f : D → Sl → G → Fl} {enc : α → D} (L : σ → τ → Sl) (step : σ → α → Tu σ) (P : Nat → σ → Prop) (v0 : σ) (y0 : τ) (fr' : Bool) {ts : List α} {s : Sl} {g : G} {kk : Sl → G → Fl} {p fr : Bool} {q : R D} (hs : s = L v0 y0) (hp : P 0 v0)
    (h : ∀ i t, ts[i]? = some t → i < ts.length → ∀ v y, P i v → match step v t with
      | .go v' => (∃ y', f (enc t) (L v y) g = .nx (L v' y') g) ∧ P (i + 1) v'
      | .ret d => f (enc t) (L v y) g = .ret fr' d g
      | .exc x => ∃ s', f (enc t) (L v y) g = .exc x s' g)
    (hk : match runT step ts v0 with
      | .go v' => P ts.length v' → ∀ y, close p g (ofFl fr (kk (L v' y) g)) = q
      | .ret d => close p g (ofFl fr (.ret fr' d g)) = q
      | .exc x => ∀ s', close p g (ofFl fr (.exc x s' g)) = q) : close p g (ofFl fr ((forL f (ts.map enc) s g).bind kk)) = q := by
  have e := for_tu (f := f) (enc := enc) L step P v0 y0 (fr := fr') (ts := ts) (s := s) (g := g) (k := kk) hs hp h
  revert e hk
  cases runT step ts v0 with
  | go v =>
    intro hk ⟨a, y, e⟩
    rw [e]; exact hk a y
  | ret d => intro (hk : _ = q) (e : _ = _); rw [e]; exact hk
  | exc x => intro hk ⟨s', e⟩; rw [e]; exact hk s'
section
variable {n : Nat} {g : G} {t : Txt} {k : Nat}
def oneDig : Txt → Bool
  | [d] => isDig d
  | _ => false
theorem oneDig_mem {x : Txt} : x ∈ DIGITS.map (fun c => [c]) ↔ oneDig x = true := by
  constructor
  · intro m
    obtain ⟨c, hc, rfl⟩ := List.mem_map.mp m
    exact mem_dg.mp hc
  · intro h
    match x, h with
    | [d], h => exact List.mem_map.mpr ⟨d, mem_dg.mpr h, rfl⟩
theorem in_digits {x : Txt} (hx : TxOk x) : cop .inn (.str x) (.tup (chars DIGITS)) = some (oneDig x) := by
  have h := isInL_strs (x := x) (xs := DIGITS.map fun c => [c]) hx (fun y hy => by
    obtain ⟨c, hc, rfl⟩ := List.mem_map.mp hy
    exact txok_sub (T_ok "0123456789") fun d hd => by rw [List.mem_singleton.mp hd]; exact hc)
  rw [List.map_map] at h
  show isInL (.str x) (DIGITS.map fun c => .str [c]) = _
  rw [show (DIGITS.map fun c => D.str [c]) = DIGITS.map (D.str ∘ fun c => [c]) from rfl, h]
  congr 1
  rw [Bool.eq_iff_iff, decide_eq_true_eq]
  exact oneDig_mem
theorem sl_one : sl t (k + 1) (k + 2) = match t[k + 1]? with
    | some d => [d]
    | none => [] := by
  unfold sl
  rw [show k + 2 - (k + 1) = 1 by omega]
  cases q : t[k + 1]? with
  | none => rw [List.drop_of_length_le (List.getElem?_eq_none_iff.mp q)]; rfl
  | some d => rw [get_drop q]; rfl
theorem dig1_sl : oneDig (sl t (k + 1) (k + 2)) = dig1 (t.drop k) := by
  unfold dig1
  rw [sl_one, List.getElem?_drop]
  cases q : t[k + 1]? with
  | none => rfl
  | some d => rfl
def wordE : E := (.or_ (.cmp .inn (.var 2) (.con 2)) (.cmp .inn (.var 2) (.con 3)))
def digE : E := (.or_ (.cmp .inn (.var 2) (.con 4)) (.and_ (.cmp .eq (.var 2) (.lit (.str (T "-")))) (.cmp .inn (.slc (.var 0) (.bin .add (.var 1) (.lit (.int 1))) (.bin .add (.var 1) (.lit (.int 2)))) (.p1 .tuple (.con 4)))))
theorem token_call {c : Nat} (hz : t.length < 100000) (ht : TxOk t) (hc : t[k]? = some c) :
    call prog (n + 3) 4 [.str t, nat k] g = match tokS (t.drop k) with
      | some (kd, v, s) => .ok (.tup [tx kd, v, nat s]) g
      | none => .exc ⟨3, [nat k]⟩ g := by
  have hl := le_lim (Nat.le_of_lt hz)
  have oc := txok_get ht hc
  have hu := get_drop hc
  have i0 : idx (.str t) (nat k) = some (.str [c]) := by rw [idx_str hl, hc]; rfl
  have e45 : T "-" = [45] := rfl
  have g1 : cop .eq (.str [c]) (.str [45]) = some (decide (c = 45)) := by
    rw [eq_txt oc (rfl : plain (.str [45]) = true)]
    congr 1
    simp
  have sl1 : slc (.str t) (some ((k : Int) + 1)) (some ((k : Int) + 2)) = some (.str (sl t (k + 1) (k + 2))) := by
    rw [slc_str hl]
    have := cut_sl (t := t) (a := k + 1) (b := k + 2)
    rw [← this]
    rfl
  have pt : prim1 .tuple (.str DIGITS) = some (.tup (chars DIGITS)) := by
    show (if DIGITS.length ≤ LIM then some (D.tup (chars DIGITS)) else none) = _
    rw [if_pos (by decide)]
  have id1 : cop .inn (.str (sl t (k + 1) (k + 2))) (.tup (chars DIGITS)) = some (dig1 (t.drop k)) := by rw [in_digits (txok_sl ht), dig1_sl]
  have hW : ∀ y3 y4, ev prog.cons (call prog (n + 2)) wordE .tst [.val (.str t), .val (nat k), .val (.str [c]), y3, y4] g = .ok (.bl (isSm c || isGr c)) g := fun y3 y4 => by
    by_cases h1 : isSm c = true <;> simp [wordE, con2, con3, h1]
  have hD : ∀ y3 y4, ev prog.cons (call prog (n + 2)) digE .tst [.val (.str t), .val (nat k), .val (.str [c]), y3, y4] g = .ok (.bl (isDig c || (decide (c = 45) && dig1 (t.drop k)))) g := fun y3 y4 => by
    by_cases h1 : isDig c = true
    · simp [digE, con4, h1]
    · by_cases h2 : c = 45
      · subst h2
        simp [digE, con4, h1, e45, sl1, pt, id1]
      · simp [digE, con4, h1, e45, g1, h2]
  rw [call_of (P := prog) (fn := ⟨2, 5, true, false, b_token_at⟩) rfl rfl]
  have rn : exec prog.cons prog.sub prog.W (call prog (n + 2)) b_token_at [.val (.str t), .val (nat k), .un, .un, .un] g = exec prog.cons prog.sub prog.W (call prog (n + 2)) (.seq (.if_ wordE
      (.seq (.set 3 .val (.call 5 (.cons (.var 0) (.cons (.var 1) (.cons (.con 6) .nil))))) (.seq (.if_ (.cmp .gt (.bin .sub (.var 3) (.var 1)) (.lit (.int 12))) (.rai 3 (.cons (.var 1) .nil)) .nop)
        (.ret (.tup (.cons (.ite (.cmp .inn (.var 2) (.con 2)) (.lit (.str (T "word"))) (.lit (.str (T "var")))) (.cons (.slc (.var 0) (.var 1) (.var 3)) (.cons (.bin .sub (.var 3) (.var 1)) .nil))))))) .nop)
      (.seq (.if_ digE (.ret (.call 6 (.cons (.var 0) (.cons (.var 1) .nil)))) .nop)
      (.seq (.for_ (.one 4) (.con 5) (.if_ (.cmp .eq (.slc (.var 0) (.var 1) (.bin .add (.var 1) (.p1 .len (.var 4)))) (.var 4)) (.ret (.tup (.cons (.lit (.str (T "sign"))) (.cons (.var 4) (.cons (.p1 .len (.var 4)) .nil))))) .nop))
      (.rai 3 (.cons (.var 1) .nil))))) [.val (.str t), .val (nat k), .val (.str [c]), .un, .un] g := by
    show (exec prog.cons prog.sub prog.W (call prog (n + 2)) (.set 2 .val (.idx (.var 0) (.var 1))) _ g).bind _ = _
    simp [i0]
    rfl
  show close true g (ofFl false (exec prog.cons prog.sub prog.W (call prog (n + 2)) b_token_at [.val (.str t), .val (nat k), .un, .un, .un] g)) = _
  rw [rn]
  cases hw : (isSm c || isGr c) with
  | true =>
    have e1 : call prog (n + 2) 5 [.str t, nat k, .str INNER] g = .ok (nat (run inner t k)) g := end_inner hz
    have e2 : slc (.str t) (some (k : Int)) (some ((run inner t k : Nat) : Int)) = some (.str ((t.drop k).takeWhile inner)) := by rw [slc_str hl, cut_sl, run_sl]
    have e3 : ((run inner t k : Nat) : Int) - (k : Int) = ((((t.drop k).takeWhile inner).length : Nat) : Int) := by
      unfold run; omega
    rw [hu] at e2 e3 ⊢
    by_cases h12 : 12 < ((c :: t.drop (k + 1)).takeWhile inner).length
    · refine run_as (r := .exc ⟨3, [nat k]⟩ [.val (.str t), .val (nat k), .val (.str [c]), .val (nat (run inner t k)), .un] g) ?_ (by simp [tokS, hw, h12])
      simp [hW, hw, con6, e1, e3, h12]
    · refine run_as (r := .ret false (.tup [tx (if isSm c then "word" else "var"), .str ((c :: t.drop (k + 1)).takeWhile inner), nat ((c :: t.drop (k + 1)).takeWhile inner).length]) g) ?_ (by simp [tokS, hw, h12])
      by_cases hs : isSm c = true
      · simp [hW, con6, e1, e2, e3, h12, con2, hs]
      · have hg : isGr c = true := by simpa [hs] using hw
        simp [hW, con6, e1, e2, e3, h12, con2, hs, hg]
  | false =>
    cases hd : (isDig c || (decide (c = 45) && dig1 (t.drop k))) with
    | true =>
      obtain ⟨b, e, r, ha⟩ := num_at hc hd
      have nc := number_call (n := n) (g := g) hz ht hc ha
      rw [hu] at hd nc ⊢
      have e1 : tokS (c :: t.drop (k + 1)) = (numS (c :: t.drop (k + 1))).map fun p => ("num", p.1, p.2) := by
        simp [tokS, hw, hd]
      rw [e1]
      cases q : numS (c :: t.drop (k + 1)) with
      | none =>
        rw [q] at nc
        have nc : call prog (n + 2) 6 [.str t, nat k] g = .exc ⟨3, [nat k]⟩ g := nc
        refine run_as (r := .exc ⟨3, [nat k]⟩ [.val (.str t), .val (nat k), .val (.str [c]), .un, .un] g) ?_ (by simp)
        rw [← hu] at hd
        simp [hW, hw, hD, hd, nc]
      | some p =>
        rw [q] at nc
        have nc : call prog (n + 2) 6 [.str t, nat k] g = .ok (.tup [tx "num", p.1, nat p.2]) g := nc
        have bl : PX.below g.length p.1 = true := by
          unfold numS at q
          simp only at q
          split at q
          · cases q
          · cases q; rfl
        refine run_as (r := .ret false (.tup [tx "num", p.1, nat p.2]) g) ?_ (by simp [bl])
        rw [← hu] at hd
        simp [hW, hw, hD, hd, nc]
    | false =>
      have e1 : tokS (t.drop k) = (signs.find? fun o => decide ((t.drop k).take o.length = o)).map fun o => ("sign", .str o, o.length) := by
        rw [hu] at hd ⊢
        simp [tokS, hw, hd]
      rw [e1]
      have fm := find_map (p := fun o => decide ((t.drop k).take o.length = o)) (f := fun o => D.tup [tx "sign", .str o, nat o.length]) signs
      simp only [zs_seq, zs_if, hW, hw, hD, hd, li_ok, fb_nx, zs_nop, D.bl.injEq, Bool.false_eq_true, ↓reduceIte]
      simp only [zs_for, ze_con, con5, ro_some, fin_val, li_ok, items_tup]
      refine for_cl (fun (_ : Unit) y => [.val (.str t), .val (nat k), .val (.str [c]), .un, y]) (fun (_ : Unit) o => if decide ((t.drop k).take o.length = o) = true then Tu.ret (D.tup [tx "sign", .str o, nat o.length]) else .go ()) (fun _ _ => True) () .un false rfl trivial ?_ ?_
      · intro i o ho hi v y _
        have hm : o ∈ signs := List.mem_of_getElem? ho
        have ok : TxOk o := by
          have : ∀ o ∈ signs, plain (.str o) = true := by decide
          exact this o hm
        have ol : o.length ≤ LIM := by
          have : ∀ o ∈ signs, o.length ≤ 2 := by decide
          exact Nat.le_trans (this o hm) (by decide)
        have s1 : slc (.str t) (some (k : Int)) (some ((k : Int) + (o.length : Int))) = some (.str ((t.drop k).take o.length)) := by
          rw [slc_str hl]
          have := cut_sl (t := t) (a := k) (b := k + o.length)
          rw [show ((k + o.length : Nat) : Int) = (k : Int) + (o.length : Int) by omega] at this
          rw [this, sl, show k + o.length - k = o.length by omega]
        have q1 := eq_txt (txok_take (k := o.length) (txok_drop (k := k) ht)) ok
        by_cases h : (t.drop k).take o.length = o
        · have q2 := eq_txt ok ok
          simp [len_str ol, s1, h, q2]
        · simp [len_str ol, s1, q1, h]
      · rw [fm]
        cases q : signs.find? (fun o => decide ((t.drop k).take o.length = o)) with
        | none =>
          intro _ y
          simp
        | some o => simp
end
end K30
end
section
set_option Elab.async false
set_option linter.all false
set_option maxRecDepth 100000
set_option autoImplicit false
set_option maxHeartbeats 4000000
/-! K30w: all tokens of a text, by the package. -/
namespace K30
open PX
def nl (c : Nat) : Bool := !decide (c = 10)
def entry (k : Nat) (p : String × D × Nat) : D := .tup [tx p.1, p.2.1, nat k]
def lexF (t : Txt) : Nat → Nat → List D → Except Nat (List D)
  | 0, k, _ => .error k
  | n + 1, k, f => match t[k]? with
    | none => .ok f
    | some c => if c = 32 ∨ c = 10 then lexF t n (k + 1) f else if c = 35 then lexF t n (run nl t k) f else match tokS (t.drop k) with
      | none => .error k
      | some p => lexF t n (k + p.2.2) (f ++ [entry k p])
theorem numS_val {u : Txt} {p : D × Nat} (h : numS u = some p) : (∃ i : Int, p.1 = .int i ∧ i.natAbs ≤ 1000000) ∧ p.2 ≤ u.length := by
  unfold numS at h
  simp only at h
  split at h
  · cases h
  · rename_i hb
    cases h
    refine ⟨⟨_, rfl, ?_⟩, ?_⟩
    · simp at hb
      have : ∀ (m : Bool) (v : Nat), (sgn m v).natAbs = v := fun m v => by cases m <;> simp [sgn]
      rw [this]; exact hb.1.2
    · have := (List.takeWhile_prefix isDig (l := u.drop (off (decide (u.head? = some 45))))).length_le
      rw [List.length_drop] at this
      show off _ + _ ≤ _
      by_cases q : u.head? = some 45
      · cases u with
        | nil => cases q
        | cons c u => simp [off, q] at this ⊢; omega
      · simp [off, q] at this ⊢; exact this
/-- what a token is -/
structure TokOk (p : String × D × Nat) : Prop where
  pos : 1 ≤ p.2.2
  val : (∃ i : Int, p.2.1 = .int i ∧ i.natAbs ≤ 1000000) ∨ ∃ x : Txt, p.2.1 = .str x ∧ x.length ≤ 12 ∧ TxOk x
  kind : p.1 = "word" ∨ p.1 = "var" ∨ p.1 = "num" ∨ p.1 = "sign"
theorem tokS_cons {c : Nat} {u : Txt} : tokS (c :: u) = if isSm c || isGr c then (if 12 < ((c :: u).takeWhile inner).length then none else some (if isSm c then "word" else "var", .str ((c :: u).takeWhile inner), ((c :: u).takeWhile inner).length))
    else if isDig c || (decide (c = 45) && dig1 (c :: u)) then (numS (c :: u)).map fun p => ("num", p.1, p.2)
    else (signs.find? fun o => decide ((c :: u).take o.length = o)).map fun o => ("sign", .str o, o.length) := rfl
theorem tokS_ok {u : Txt} {p : String × D × Nat} (hu : TxOk u) (h : tokS u = some p) : TokOk p := by
  cases u with
  | nil => cases h
  | cons c u =>
    rw [tokS_cons] at h
    split at h
    · rename_i hw
      split at h
      · cases h
      · rename_i h12
        cases h
        have hin : inner c = true := by
          simp only [inner, Bool.or_eq_true] at hw ⊢
          exact .inl (.inl hw)
        refine ⟨?_, .inr ⟨_, rfl, by omega, txok_sub hu fun d hd => (List.takeWhile_prefix inner).subset hd⟩, ?_⟩
        · show 1 ≤ ((c :: u).takeWhile inner).length
          rw [List.takeWhile_cons_of_pos hin]
          simp
        · by_cases hs : isSm c = true <;> simp [hs]
    · split at h
      · rename_i hw hd
        obtain ⟨q, hq, rfl⟩ := Option.map_eq_some_iff.mp h
        obtain ⟨b, e, r, na⟩ := num_at (t := c :: u) (k := 0) (c := c) rfl hd
        have sp := na.spec
        rw [List.drop_zero, hq] at sp
        have e2 := na.end
        have e3 := List.length_pos_iff.mpr na.hn
        refine ⟨?_, .inl (numS_val hq).1, .inr (.inr (.inl rfl))⟩
        split at sp
        · cases sp
        · cases sp
          show 1 ≤ e - 0
          omega
      · obtain ⟨o, ho, rfl⟩ := Option.map_eq_some_iff.mp h
        have hm := List.mem_of_find?_eq_some ho
        have : ∀ o ∈ signs, 1 ≤ o.length ∧ o.length ≤ 2 ∧ plain (.str o) = true := by decide
        have := this o hm
        exact ⟨this.1, .inr ⟨o, rfl, by omega, this.2.2⟩, .inr (.inr (.inr rfl))⟩
theorem TokOk.below {p : String × D × Nat} (h : TokOk p) (m : Nat) : PX.below m p.2.1 = true := by
  rcases h.val with ⟨i, e, _⟩ | ⟨x, e, _⟩ <;> rw [e] <;> rfl
/-- the rows that a reading makes -/
def Rows (f : List D) : Prop := ∀ d ∈ f, ∃ k p, d = entry k p ∧ TokOk p ∧ k < 100000
theorem Rows.below {f : List D} (h : Rows f) (m : Nat) : PX.belows m f = true := by
  induction f with
  | nil => rfl
  | cons d f ih =>
    obtain ⟨k, p, rfl, hp, _⟩ := h d List.mem_cons_self
    have := ih fun e he => h e (List.mem_cons_of_mem _ he)
    simp [entry, hp.below, this]
theorem Rows.snoc {f : List D} {k : Nat} {p : String × D × Nat} (h : Rows f) (hp : TokOk p) (hk : k < 100000) : Rows (f ++ [entry k p]) := by
  intro d hd
  rcases List.mem_append.mp hd with m | m
  · exact h d m
  · rw [List.mem_singleton.mp m]; exact ⟨k, p, rfl, hp, hk⟩
theorem run_gt {t : Txt} {k : Nat} (h : t[k]? = some 35) : k < run nl t k := by
  rw [run_go h rfl]
  unfold run; omega
theorem lex_rows {t : Txt} (ht : TxOk t) (hz : t.length < 100000) : ∀ (n k : Nat) (f f' : List D), Rows f → f.length ≤ k → lexF t n k f = .ok f' → Rows f' ∧ f'.length ≤ max t.length f.length
  | 0, _, _, _, _, _, h => by cases h
  | n + 1, k, f, f', hf, hk, h => by
    unfold lexF at h
    cases q : t[k]? with
    | none => rw [q] at h; cases h; exact ⟨hf, Nat.le_max_right _ _⟩
    | some c =>
      have kl : k < t.length := (List.getElem?_eq_some_iff.mp q).1
      rw [q] at h
      simp only at h
      split at h
      · exact lex_rows ht hz n _ f f' hf (by omega) h
      · split at h
        · rename_i hc
          subst hc
          exact lex_rows ht hz n _ f f' hf (by have := run_gt q; omega) h
        · split at h
          · cases h
          · rename_i p hp
            have ok := tokS_ok (txok_drop ht) hp
            have := lex_rows ht hz n _ _ f' (hf.snoc ok (by omega)) (by have := ok.pos; simp; omega) h
            refine ⟨this.1, ?_⟩
            have := this.2
            simp at this
            omega
theorem find_nl {t : Txt} {k : Nat} (hk : k ≤ t.length) : (if findT 10 t k < 0 then (t.length : Int) else findT 10 t k) = ((run nl t k : Nat) : Int) := by
  have key : ∀ u : Txt, (match u.findIdx? (· == 10) with
      | some j => (u.takeWhile nl).length = j
      | none => (u.takeWhile nl).length = u.length) := by
    intro u
    induction u with
    | nil => rfl
    | cons c u ih =>
      rw [List.findIdx?_cons]
      by_cases h : c = 10
      · subst h; simp [nl]
      · have : nl c = true := by simp [nl, h]
        rw [List.takeWhile_cons_of_pos this]
        simp only [beq_iff_eq, h, if_false]
        cases q : u.findIdx? (· == 10) with
        | none => rw [q] at ih; simpa using ih
        | some j => rw [q] at ih; simpa using ih
  have := key (t.drop k)
  unfold findT
  cases q : (t.drop k).findIdx? (· == 10) with
  | none =>
    rw [q] at this
    simp only at this ⊢
    rw [if_pos (by omega), run, this, List.length_drop]
    omega
  | some j =>
    rw [q] at this
    simp only at this ⊢
    rw [if_neg (by omega), run, this]
end K30
end
section
set_option Elab.async false
set_option linter.all false
set_option maxRecDepth 100000
set_option autoImplicit false
set_option maxHeartbeats 4000000
/-! K30x: tokens. -/
namespace K30
open PX
def bodyT : S := (.seq (.set 3 .val (.idx (.var 0) (.var 2)))
  (.if_ (.cmp .inn (.var 3) (.lit (.str [32, 10]))) (.aug 2 .add (.lit (.int 1)))
  (.if_ (.cmp .eq (.var 3) (.lit (.str (T "#")))) (.seq (.set 4 .val (.find (.var 0) (.lit (.str [10])) (.var 2))) (.set 2 .val (.ite (.cmp .lt (.var 4) (.lit (.int 0))) (.p1 .len (.var 0)) (.var 4))))
  (.seq (.unp [5, 6, 7] (.call 4 (.cons (.var 0) (.cons (.var 2) .nil)))) (.seq (.app 1 (.tup (.cons (.var 5) (.cons (.var 6) (.cons (.var 2) .nil))))) (.aug 2 .add (.var 7)))))))
abbrev S8 (t : Txt) (f : List D) (k : Nat) (y3 y4 y5 y6 y7 : SV) : Sl := [.val (.str t), .own (.lst f), .val (nat k), y3, y4, y5, y6, y7]
section
variable {n : Nat} {g : G} {t : Txt}
theorem wh_exc {n : Nat} {s s' : Sl} {g : G} {x : Ex} {cf : Sl → G → R D} {bf : Sl → G → Fl} (hc : cf s g = .ok (.bl true) g) (hb : bf s g = .exc x s' g) : whileL cf bf (n + 1) s g = .exc x s' g := by
  show lift s (cf s g) _ = _
  rw [hc]
  show (if D.bl true = .bl true then (bf s g).bind fun s g => whileL cf bf n s g else .nx s g) = _
  rw [if_pos rfl, hb]
  rfl
theorem ws_in {c : Nat} : cop .inn (.str [c]) (.str [32, 10]) = some (decide (c = 32 ∨ c = 10)) := by
  show some (decide (c ∈ [32, 10])) = _
  congr 1
  rw [Bool.eq_iff_iff]; simp
theorem eq_hash {c : Nat} (hc : TxOk [c]) : cop .eq (.str [c]) (.str (T "#")) = some (decide (c = 35)) := by
  rw [eq_txt hc (T_ok _)]
  congr 1
  rw [show T "#" = [35] from rfl, Bool.eq_iff_iff]
  simp
theorem body_ev {c k : Nat} {f : List D} {y3 y4 y5 y6 y7 : SV} (hz : t.length < 100000) (ht : TxOk t) (hc : t[k]? = some c) (hf : f.length ≤ k) :
    (c = 32 ∨ c = 10 → ∃ z, exec prog.cons prog.sub prog.W (call prog (n + 3)) bodyT (S8 t f k y3 y4 y5 y6 y7) g = .nx (S8 t f (k + 1) z y4 y5 y6 y7) g) ∧
    (c = 35 → ∃ z3 z4, exec prog.cons prog.sub prog.W (call prog (n + 3)) bodyT (S8 t f k y3 y4 y5 y6 y7) g = .nx (S8 t f (run nl t k) z3 z4 y5 y6 y7) g) ∧
    (¬ (c = 32 ∨ c = 10) → c ≠ 35 → match tokS (t.drop k) with
      | none => ∃ s', exec prog.cons prog.sub prog.W (call prog (n + 3)) bodyT (S8 t f k y3 y4 y5 y6 y7) g = .exc ⟨3, [nat k]⟩ s' g
      | some p => ∃ z3 z5 z6 z7, exec prog.cons prog.sub prog.W (call prog (n + 3)) bodyT (S8 t f k y3 y4 y5 y6 y7) g = .nx (S8 t (f ++ [entry k p]) (k + p.2.2) z3 y4 z5 z6 z7) g) := by
  have hl := le_lim (Nat.le_of_lt hz)
  have kl : k < t.length := (List.getElem?_eq_some_iff.mp hc).1
  have oc := txok_get ht hc
  have i0 : idx (.str t) (nat k) = some (.str [c]) := by rw [idx_str hl, hc]; rfl
  have tc := token_call (n := n) (g := g) hz ht hc
  have eh := eq_hash oc
  refine ⟨fun h => ?_, fun h => ?_, fun h1 h2 => ?_⟩
  · refine ⟨.val (.str [c]), ?_⟩
    have : decide (c = 32 ∨ c = 10) = true := decide_eq_true h
    simp only [bodyT, zs_seq, zs_set, zs_if, zs_aug]
    simp [i0, ws_in, h]
  · subst h
    have fd : findD (.str t) (.str [10]) (nat k) = some (.int (findT 10 t k)) := by
      show (if (0 : Int) ≤ (k : Int) then some (D.int (findT 10 t (k : Int).toNat)) else none) = _
      rw [if_pos (by omega), Int.toNat_natCast]
    have fn := find_nl (t := t) (k := k) (by omega)
    have eh' : cop .eq (.str [35]) (.str (T "#")) = some true := by rw [eh]; simp
    by_cases q : findT 10 t k < 0
    · rw [if_pos q] at fn
      refine ⟨.val (.str [35]), .val (.int (findT 10 t k)), ?_⟩
      simp [bodyT, i0, ws_in, eh', fd, q, len_str hl, ← fn]
    · rw [if_neg q] at fn
      refine ⟨.val (.str [35]), .val (.int (findT 10 t k)), ?_⟩
      simp [bodyT, i0, ws_in, eh', fd, q, len_str hl, ← fn]
  · have eh' : cop .eq (.str [c]) (.str (T "#")) = some false := by rw [eh]; simp [h2]
    have lim : f.length < LIM := Nat.lt_of_lt_of_le (show f.length < 100000 by omega) (by decide)
    cases q : tokS (t.drop k) with
    | none =>
      rw [q] at tc
      have tc : call prog (n + 3) 4 [.str t, nat k] g = .exc ⟨3, [nat k]⟩ g := tc
      refine ⟨S8 t f k (.val (.str [c])) y4 y5 y6 y7, ?_⟩
      simp [bodyT, i0, ws_in, h1, eh', tc]
    | some p =>
      rw [q] at tc
      have tc : call prog (n + 3) 4 [.str t, nat k] g = .ok (.tup [tx p.1, p.2.1, nat p.2.2]) g := tc
      refine ⟨.val (.str [c]), .val (tx p.1), .val p.2.1, .val (nat p.2.2), ?_⟩
      simp [bodyT, i0, ws_in, h1, eh', tc, lim, entry]
theorem lexF_none {k m : Nat} {f : List D} (h : t[k]? = none) : lexF t (m + 1) k f = .ok f := by
  unfold lexF
  rw [h]
theorem lexF_some {k m c : Nat} {f : List D} (h : t[k]? = some c) : lexF t (m + 1) k f = if c = 32 ∨ c = 10 then lexF t m (k + 1) f else if c = 35 then lexF t m (run nl t k) f else match tokS (t.drop k) with
      | none => .error k
      | some p => lexF t m (k + p.2.2) (f ++ [entry k p]) := by
  rw [lexF, h] <;> rfl
theorem lex_wh (hz : t.length < 100000) (ht : TxOk t) : ∀ (m k w : Nat) (f : List D) (y3 y4 y5 y6 y7 : SV), t.length - k < m → m ≤ w → f.length ≤ k →
    match lexF t m k f with
    | .ok f' => ∃ k' z3 z4 z5 z6 z7, whileL (whC prog.cons (call prog (n + 3)) (.cmp .lt (.var 2) (.p1 .len (.var 0)))) (whB prog.cons prog.sub prog.W (call prog (n + 3)) bodyT) w (S8 t f k y3 y4 y5 y6 y7) g = .nx (S8 t f' k' z3 z4 z5 z6 z7) g
    | .error j => ∃ s', whileL (whC prog.cons (call prog (n + 3)) (.cmp .lt (.var 2) (.p1 .len (.var 0)))) (whB prog.cons prog.sub prog.W (call prog (n + 3)) bodyT) w (S8 t f k y3 y4 y5 y6 y7) g = .exc ⟨3, [nat j]⟩ s' g
  | 0, _, _, _, _, _, _, _, _, h, _, _ => absurd h (Nat.not_lt_zero _)
  | m + 1, k, 0, _, _, _, _, _, _, _, h, _ => absurd h (by omega)
  | m + 1, k, w + 1, f, y3, y4, y5, y6, y7, hm, hw, hf => by
    have hl := le_lim (Nat.le_of_lt hz)
    cases q : t[k]? with
    | none =>
      rw [lexF_none q]
      have kl : ¬ k < t.length := Nat.not_lt.mpr (List.getElem?_eq_none_iff.mp q)
      refine ⟨k, y3, y4, y5, y6, y7, wh_end ?_⟩
      simp [len_str hl, kl]
    | some c =>
      have kl : k < t.length := (List.getElem?_eq_some_iff.mp q).1
      obtain ⟨b1, b2, b3⟩ := body_ev (n := n) (g := g) (y3 := y3) (y4 := y4) (y5 := y5) (y6 := y6) (y7 := y7) hz ht q hf
      have hcond : whC prog.cons (call prog (n + 3)) (.cmp .lt (.var 2) (.p1 .len (.var 0))) (S8 t f k y3 y4 y5 y6 y7) g = .ok (.bl true) g := by simp [len_str hl, kl]
      have go : ∀ (k' : Nat) (f' : List D) (z3 z4 z5 z6 z7 : SV), k < k' → f'.length ≤ k' → exec prog.cons prog.sub prog.W (call prog (n + 3)) bodyT (S8 t f k y3 y4 y5 y6 y7) g = .nx (S8 t f' k' z3 z4 z5 z6 z7) g →
          match lexF t m k' f' with
          | .ok f' => ∃ k' z3 z4 z5 z6 z7, whileL (whC prog.cons (call prog (n + 3)) (.cmp .lt (.var 2) (.p1 .len (.var 0)))) (whB prog.cons prog.sub prog.W (call prog (n + 3)) bodyT) (w + 1) (S8 t f k y3 y4 y5 y6 y7) g = .nx (S8 t f' k' z3 z4 z5 z6 z7) g
          | .error j => ∃ s', whileL (whC prog.cons (call prog (n + 3)) (.cmp .lt (.var 2) (.p1 .len (.var 0)))) (whB prog.cons prog.sub prog.W (call prog (n + 3)) bodyT) (w + 1) (S8 t f k y3 y4 y5 y6 y7) g = .exc ⟨3, [nat j]⟩ s' g := fun k' f' z3 z4 z5 z6 z7 h1 h2 h3 => by
        have ih := lex_wh hz ht m k' w f' z3 z4 z5 z6 z7 (by omega) (by omega) h2
        cases r : lexF t m k' f' with
        | ok f2 =>
          rw [r] at ih
          obtain ⟨a1, a2, a3, a4, a5, a6, e⟩ := ih
          exact ⟨a1, a2, a3, a4, a5, a6, wh_go hcond h3 e⟩
        | error j =>
          rw [r] at ih
          obtain ⟨s', e⟩ := ih
          exact ⟨s', wh_go hcond h3 e⟩
      rw [lexF_some q]
      by_cases h : c = 32 ∨ c = 10
      · rw [if_pos h]
        obtain ⟨z, e⟩ := b1 h
        exact go _ _ _ _ _ _ _ (by omega) (by omega) e
      · rw [if_neg h]
        by_cases h2 : c = 35
        · rw [if_pos h2]
          obtain ⟨z3, z4, e⟩ := b2 h2
          subst h2
          have := run_gt q
          exact go _ _ _ _ _ _ _ this (by omega) e
        · rw [if_neg h2]
          have e := b3 h h2
          cases r : tokS (t.drop k) with
          | none =>
            rw [r] at e
            obtain ⟨s', e⟩ := e
            exact ⟨s', wh_exc hcond e⟩
          | some p =>
            rw [r] at e
            obtain ⟨z3, z5, z6, z7, e⟩ := e
            have ok := (tokS_ok (txok_drop ht) r).pos
            exact go _ _ _ _ _ _ _ (by omega) (by simp; omega) e
/-- the reading of a text -/
def lex (t : Txt) : Except Nat (List D) := lexF t (t.length + 1) 0 []
theorem tokens_of_call (hz : t.length < 99999) (ht : TxOk t) : call prog (n + 4) 3 [.str t] g = match lex t with
    | .ok f => .ok (.lst f) g
    | .error j => .exc ⟨3, [nat j]⟩ g := by
  have e := lex_wh (n := n) (g := g) (by omega) ht (t.length + 1) 0 prog.W [] .un .un .un .un .un (by omega) (show t.length + 1 ≤ 100000 by omega) (by simp)
  rw [call_of (P := prog) (fn := ⟨1, 8, true, false, b_tokens_of⟩) rfl rfl]
  unfold lex
  cases r : lexF t (t.length + 1) 0 [] with
  | ok f =>
    rw [r] at e
    obtain ⟨k', z3, z4, z5, z6, z7, e⟩ := e
    have gd := (lex_rows ht (by omega) _ _ _ _ (by intro d hd; cases hd) (by simp) r).1
    refine run_as (r := .ret false (.lst f) g) ?_ (by simp [gd.below])
    show exec prog.cons prog.sub prog.W (call prog (n + 3)) (.seq (.setP [(1, .own), (2, .val)] (.cons (.lst .nil) (.cons (.lit (.int 0)) .nil))) (.seq (.whl (.cmp .lt (.var 2) (.p1 .len (.var 0))) bodyT) (.seq (.frz 1) (.ret (.var 1))))) [.val (.str t), .un, .un, .un, .un, .un, .un, .un] g = _
    have e' : whileL (whC prog.cons (call prog (n + 3)) (.cmp .lt (.var 2) (.p1 .len (.var 0)))) (whB prog.cons prog.sub prog.W (call prog (n + 3)) bodyT) prog.W [.val (.str t), .own (.lst []), .val (.int 0), .un, .un, .un, .un, .un] g = _ := e
    simp [e']
  | error j =>
    rw [r] at e
    obtain ⟨s', e⟩ := e
    refine run_as (r := .exc ⟨3, [nat j]⟩ s' g) ?_ (by simp)
    show exec prog.cons prog.sub prog.W (call prog (n + 3)) (.seq (.setP [(1, .own), (2, .val)] (.cons (.lst .nil) (.cons (.lit (.int 0)) .nil))) (.seq (.whl (.cmp .lt (.var 2) (.p1 .len (.var 0))) bodyT) (.seq (.frz 1) (.ret (.var 1))))) [.val (.str t), .un, .un, .un, .un, .un, .un, .un] g = _
    have e' : whileL (whC prog.cons (call prog (n + 3)) (.cmp .lt (.var 2) (.p1 .len (.var 0)))) (whB prog.cons prog.sub prog.W (call prog (n + 3)) bodyT) prog.W [.val (.str t), .own (.lst []), .val (.int 0), .un, .un, .un, .un, .un] g = _ := e
    simp [e']
theorem demand_ok (hz : t.length ≤ 8000) : call prog (n + 1) 2 [.str t] g = .ok .non g := by
  rw [call_of (P := prog) (fn := ⟨1, 1, true, false, b_demand_text⟩) rfl rfl]
  have hl := le_lim (show t.length ≤ 100000 by omega)
  have : ¬ 8000 < t.length := by omega
  refine run_as (r := .nx [.val (.str t)] g) ?_ (by simp)
  simp [b_demand_text, start, len_str hl, con1, this]
theorem tokens_call (hz : t.length ≤ 8000) (ht : TxOk t) : call prog (n + 5) 7 [.str t] g = match lex t with
    | .ok f => .ok (.tup f) g
    | .error j => .exc ⟨3, [nat j]⟩ g := by
  have e := tokens_of_call (n := n) (g := g) (show t.length < 99999 by omega) ht
  have d := demand_ok (n := n + 3) (g := g) hz
  rw [call_of (P := prog) (fn := ⟨1, 1, true, false, b_tokens⟩) rfl rfl]
  cases r : lex t with
  | ok f =>
    rw [r] at e
    have gd := (lex_rows ht (by omega) _ _ _ _ (by intro d hd; cases hd) (by simp) r).1
    have e : call prog (n + 4) 3 [.str t] g = .ok (.lst f) g := e
    refine run_as (r := .ret false (.tup f) g) ?_ (by simp [gd.below])
    simp [b_tokens, start, d, e]
  | error j =>
    rw [r] at e
    have e : call prog (n + 4) 3 [.str t] g = .exc ⟨3, [nat j]⟩ g := e
    refine run_as (r := .exc ⟨3, [nat j]⟩ [.val (.str t)] g) ?_ (by simp)
    simp [b_tokens, start, d, e]
end
end K30
end
section
set_option Elab.async false
set_option linter.all false
set_option maxRecDepth 100000
set_option autoImplicit false
set_option maxHeartbeats 4000000
/-! K30y: all tokens of a text, by the law. -/
namespace K30
open PX
def ownL (k : Nat) : Option (String × D × Nat) → D
  | some p => .tup [entry k p, nat (k + p.2.2)]
  | none => .non
def lwE : E := (.or_ (.chain .le .le (.lit (.str (T "a"))) (.var 4) (.lit (.str (T "z")))) (.chain .le .le (.lit (.str (T "A"))) (.var 4) (.lit (.str (T "Z")))))
def smE : E := (.chain .le .le (.lit (.str (T "a"))) (.var 4) (.lit (.str (T "z"))))
def ldE : E := (.or_ (.chain .le .le (.lit (.str (T "0"))) (.var 4) (.lit (.str (T "9")))) (.and_ (.cmp .eq (.var 4) (.lit (.str (T "-")))) (.and_ (.chain .le .le (.lit (.str (T "0"))) (.slc (.var 0) (.bin .add (.var 2) (.lit (.int 1))) (.bin .add (.var 2) (.lit (.int 2)))) (.lit (.str (T "9")))) (.cmp .ne (.slc (.var 0) (.bin .add (.var 2) (.lit (.int 1))) (.bin .add (.var 2) (.lit (.int 2)))) (.lit (.str (T "")))))))
def rowsE : E := (.lc (.var 8) (.one 8) (.tup (.cons (.lit (.str (T ":-"))) (.cons (.lit (.str (T "!="))) (.cons (.lit (.str (T "<="))) (.cons (.lit (.str (T "("))) (.cons (.lit (.str (T ")"))) (.cons (.lit (.str (T ","))) (.cons (.lit (.str (T "."))) (.cons (.lit (.str (T "?"))) (.cons (.lit (.str (T "="))) (.cons (.lit (.str (T "<"))) .nil))))))))))) (.cons (.cmp .eq (.slc (.var 0) (.var 2) (.bin .add (.var 2) (.p1 .len (.var 8)))) (.var 8)) .nil))
def pieceS : S := (.if_ lwE
  (.seq (.set 6 .val (.call 18 (.cons (.var 0) (.cons (.var 2) (.cons (.lit (.bl false)) .nil)))))
  (.set 5 .val (.ite (.cmp .le (.bin .sub (.var 6) (.var 2)) (.lit (.int 12))) (.tup (.cons (.tup (.cons (.ite smE (.lit (.str (T "word"))) (.lit (.str (T "var")))) (.cons (.slc (.var 0) (.var 2) (.var 6)) (.cons (.var 2) .nil)))) (.cons (.var 6) .nil))) (.lit .non))))
  (.if_ ldE (.set 5 .val (.call 19 (.cons (.var 0) (.cons (.var 2) .nil))))
  (.seq (.set 7 .val rowsE)
  (.set 5 .val (.ite (.cmp .ne (.var 7) (.lst .nil)) (.tup (.cons (.tup (.cons (.lit (.str (T "sign"))) (.cons (.idx (.var 7) (.lit (.int 0))) (.cons (.var 2) .nil)))) (.cons (.bin .add (.var 2) (.p1 .len (.idx (.var 7) (.lit (.int 0))))) .nil))) (.lit .non))))))
def tailS : S := (.seq (.if_ (.isN (.var 5)) (.ret (.var 2)) .nop) (.setP [(1, .val), (2, .val)] (.cons (.bin .add (.var 1) (.tup (.cons (.idx (.var 5) (.lit (.int 0))) .nil))) (.cons (.idx (.var 5) (.lit (.int 1))) .nil))))
def stepS : S := (.seq (.if_ (.cmp .ge (.var 2) (.p1 .len (.var 0))) (.ret (.var 1)) .nop)
  (.seq (.setP [(4, .val), (5, .val)] (.cons (.idx (.var 0) (.var 2)) (.cons (.lit .non) .nil)))
  (.if_ (.cmp .inn (.var 4) (.lit (.str [32, 10]))) (.set 2 .val (.bin .add (.var 2) (.lit (.int 1))))
  (.if_ (.cmp .eq (.var 4) (.lit (.str (T "#")))) (.set 2 .val (.bin .add (.var 2) (.p1 .len (.idx (.p2 .split (.slc (.var 0) (.var 2) (.lit .non)) (.lit (.str [10]))) (.lit (.int 0))))))
  (.seq pieceS tailS)))))
theorem law_read_is : b_law_read = (.seq (.setP [(1, .val), (2, .val)] (.cons (.tup .nil) (.cons (.lit (.int 0)) .nil))) (.seq (.for_ (.one 3) (.p1 .range (.bin .add (.p1 .len (.var 0)) (.lit (.int 1)))) stepS) (.ret (.var 1)))) := rfl
abbrev S9 (t : Txt) (f : List D) (k : Nat) (y3 y4 y5 y6 y7 y8 : SV) : Sl := [.val (.str t), .val (.tup f), .val (nat k), y3, y4, y5, y6, y7, y8]
theorem split_head : ∀ u : Txt, ∃ r, splitT 10 u = u.takeWhile nl :: r
  | [] => ⟨[], rfl⟩
  | c :: u => by
    obtain ⟨r, e⟩ := split_head u
    by_cases h : c = 10
    · subst h
      exact ⟨splitT 10 u, by simp [splitT, nl]⟩
    · have : nl c = true := by simp [nl, h]
      refine ⟨r, ?_⟩
      rw [List.takeWhile_cons_of_pos this]
      simp [splitT, h, e]
section
variable {n : Nat} {g : G} {t : Txt} {k c : Nat} {f : List D} {y3 y4 y5 y6 y7 y8 : SV}
theorem rows_ev (hz : t.length < 100000) (ht : TxOk t) {F : Nat → List D → G → R D} : ev prog.cons F rowsE .val (S9 t f k y3 y4 y5 y6 y7 y8) g = .ok (.lst ((signs.filter fun o => decide ((t.drop k).take o.length = o)).map .str)) g := by
  have hl := le_lim (Nat.le_of_lt hz)
  refine lc_filter (enc := .str) (h := .str) (b := fun o => decide ((t.drop k).take o.length = o)) (ts := signs) (x := .tup (signs.map .str)) rfl rfl ?_ ?_
  · intro o ho
    have ok : TxOk o := by
      have : ∀ o ∈ signs, plain (.str o) = true := by decide
      exact this o ho
    have ol : o.length ≤ LIM := by
      have : ∀ o ∈ signs, o.length ≤ 2 := by decide
      exact Nat.le_trans (this o ho) (by decide)
    have s1 : slc (.str t) (some (k : Int)) (some ((k : Int) + (o.length : Int))) = some (.str ((t.drop k).take o.length)) := by
      rw [slc_str hl]
      have := cut_sl (t := t) (a := k) (b := k + o.length)
      rw [show ((k + o.length : Nat) : Int) = (k : Int) + (o.length : Int) by omega] at this
      rw [this, sl, show k + o.length - k = o.length by omega]
    have q1 := eq_txt (txok_take (k := o.length) (txok_drop (k := k) ht)) ok
    simp [len_str ol, s1, q1]
  · intro o ho
    simp
theorem piece_ev (hz : t.length ≤ 400) (ht : TxOk t) (hc : t[k]? = some c) : ∃ z6 z7, exec prog.cons prog.sub prog.W (call prog (n + 3)) pieceS (S9 t f k y3 (.val (.str [c])) y5 y6 y7 y8) g = .nx (S9 t f k y3 (.val (.str [c])) (.val (ownL k (tokS (t.drop k)))) z6 z7 y8) g := by
  have hz' : t.length < 100000 := by omega
  have hl := le_lim (Nat.le_of_lt hz')
  have oc := txok_get ht hc
  have hu := get_drop hc
  have ea : T "a" = [97] := rfl
  have ez : T "z" = [122] := rfl
  have eA : T "A" = [65] := rfl
  have eZ : T "Z" = [90] := rfl
  have e0 : T "0" = [48] := rfl
  have e9 : T "9" = [57] := rfl
  have em : T "-" = [45] := rfl
  have hS : ∀ z5 z6 z7, ev prog.cons (call prog (n + 3)) smE .tst (S9 t f k y3 (.val (.str [c])) z5 z6 z7 y8) g = .ok (.bl (isSm c)) g := fun z5 z6 z7 => by
    by_cases h1 : 97 ≤ c <;> by_cases h2 : c ≤ 122 <;> simp [smE, ea, ez, le_c, h1, h2, isSm]
  have hW : ev prog.cons (call prog (n + 3)) lwE .tst (S9 t f k y3 (.val (.str [c])) y5 y6 y7 y8) g = .ok (.bl (isSm c || isGr c)) g := by
    by_cases h1 : 97 ≤ c <;> by_cases h2 : c ≤ 122 <;> by_cases h3 : 65 ≤ c <;> by_cases h4 : c ≤ 90 <;> simp [lwE, ea, ez, eA, eZ, le_c, h1, h2, h3, h4, isSm, isGr]
  have g1 : cop .eq (.str [c]) (.str [45]) = some (decide (c = 45)) := by
    rw [eq_txt oc (rfl : plain (.str [45]) = true)]
    congr 1
    simp
  have sl1 : slc (.str t) (some ((k : Int) + 1)) (some ((k : Int) + 2)) = some (.str (sl t (k + 1) (k + 2))) := by
    rw [slc_str hl]
    have := cut_sl (t := t) (a := k + 1) (b := k + 2)
    rw [← this]
    rfl
  have hD : ev prog.cons (call prog (n + 3)) ldE .tst (S9 t f k y3 (.val (.str [c])) y5 y6 y7 y8) g = .ok (.bl (isDig c || (decide (c = 45) && dig1 (t.drop k)))) g := by
    have hx : dig1 (t.drop k) = oneDig (sl t (k + 1) (k + 2)) := dig1_sl.symm
    by_cases h1 : isDig c = true
    · have h' := h1
      simp [isDig] at h'
      simp [ldE, e0, e9, le_c, h', h1]
    · have step1 : ∀ (r : R D), ((match (some (decide (48 ≤ c))).map D.bl with
        | some (.bl true) => (R.ok (D.str [57]) g).bind fun z g => R.ofO g ((some (decide (c ≤ 57))).map D.bl)
        | some (.bl false) => .ok (.bl false) g
        | _ => .bad : R D).bind fun x g => if x = .bl true then .ok (.bl true) g else r) = r := fun r => by
        have h' : 48 ≤ c → 57 < c := by simpa [isDig] using h1
        by_cases q : 48 ≤ c
        · have : ¬ c ≤ 57 := by have := h' q; omega
          simp [q, this]
        · simp [q]
      have h' : 48 ≤ c → 57 < c := by simpa [isDig] using h1
      by_cases h2 : c = 45
      · subst h2
        rw [hx]
        cases q : t[k + 1]? with
        | none =>
          have es : sl t (k + 1) (k + 2) = [] := by rw [sl_one, q]
          simp [ldE, e0, e9, em, le_c, h1, sl1, es, oneDig, show cop .le (.str [48]) (.str []) = some false from le_nil]
        | some d =>
          have es : sl t (k + 1) (k + 2) = [d] := by rw [sl_one, q]
          have od := txok_get ht q
          have ne : cop .ne (.str [d]) (.str (T "")) = some true := by rw [ne_txt od (T_ok _)]; rfl
          by_cases h5 : 48 ≤ d <;> by_cases h6 : d ≤ 57 <;> simp [ldE, e0, e9, em, le_c, h1, sl1, es, oneDig, isDig, h5, h6, ne]
      · by_cases q : 48 ≤ c
        · have : ¬ c ≤ 57 := by have := h' q; omega
          simp [ldE, e0, e9, em, le_c, h1, g1, h2, q, this]
        · simp [ldE, e0, e9, em, le_c, h1, g1, h2, q]
  cases hw : (isSm c || isGr c) with
  | true =>
    have e1 : call prog (n + 3) 18 [.str t, nat k, .bl false] g = .ok (nat (run inner t k)) g := row_call hz' ht
    have e2 : slc (.str t) (some (k : Int)) (some ((run inner t k : Nat) : Int)) = some (.str ((t.drop k).takeWhile inner)) := by rw [slc_str hl, cut_sl, run_sl]
    have e3 : ((run inner t k : Nat) : Int) - (k : Int) = ((((t.drop k).takeWhile inner).length : Nat) : Int) := by
      unfold run; omega
    have e4 : run inner t k = k + ((t.drop k).takeWhile inner).length := rfl
    have tk : tokS (t.drop k) = if 12 < ((t.drop k).takeWhile inner).length then none else some (if isSm c then "word" else "var", .str ((t.drop k).takeWhile inner), ((t.drop k).takeWhile inner).length) := by
      rw [hu, tokS_cons, if_pos hw]
    rw [tk]
    by_cases h12 : 12 < ((t.drop k).takeWhile inner).length
    · refine ⟨.val (nat (run inner t k)), y7, ?_⟩
      have : ¬ ((t.drop k).takeWhile inner).length ≤ 12 := by omega
      rw [if_pos h12]
      simp [pieceS, hW, hw, e1, e3, this, ownL]
    · refine ⟨.val (nat (run inner t k)), y7, ?_⟩
      have : ((t.drop k).takeWhile inner).length ≤ 12 := by omega
      rw [if_neg h12]
      by_cases hs : isSm c = true
      · simp [pieceS, hW, e1, e2, e3, this, ownL, hS, hs, entry, ← e4]
      · have hg : isGr c = true := by simpa [hs] using hw
        simp [pieceS, hW, e1, e2, e3, this, ownL, hS, hs, hg, entry, ← e4]
  | false =>
    cases hd : (isDig c || (decide (c = 45) && dig1 (t.drop k))) with
    | true =>
      obtain ⟨b, e, r, ha⟩ := num_at hc hd
      have nc := lnumber_call (n := n) (g := g) hz ht hc ha
      have e1 : tokS (t.drop k) = (numS (t.drop k)).map fun p => ("num", p.1, p.2) := by
        rw [hu] at hd ⊢
        simp [tokS, hw, hd]
      have e2 : ownL k (tokS (t.drop k)) = tokL k "num" (numS (t.drop k)) := by
        rw [e1]
        cases numS (t.drop k) <;> rfl
      rw [e2]
      refine ⟨y6, y7, ?_⟩
      simp [pieceS, hW, hw, hD, hd, nc]
    | false =>
      have e1 : tokS (t.drop k) = (signs.find? fun o => decide ((t.drop k).take o.length = o)).map fun o => ("sign", .str o, o.length) := by
        rw [hu] at hd ⊢
        simp [tokS, hw, hd]
      have re := rows_ev (f := f) (k := k) (g := g) (y3 := y3) (y4 := .val (.str [c])) (y5 := y5) (y6 := y6) (y7 := y7) (y8 := y8) hz' ht (F := call prog (n + 3))
      rw [← List.head?_filter] at e1
      rw [e1]
      have pl : plains ((signs.filter fun o => decide ((t.drop k).take o.length = o)).map D.str) = true := plains_strs fun x hx => by
        have : ∀ o ∈ signs, plain (.str o) = true := by decide
        exact this x (List.mem_filter.mp hx).1
      have dp : depths ((signs.filter fun o => decide ((t.drop k).take o.length = o)).map D.str) ≤ 59 := by rw [depths_strs]; omega
      refine ⟨y6, .val (.lst ((signs.filter fun o => decide ((t.drop k).take o.length = o)).map .str)), ?_⟩
      cases q : signs.filter (fun o => decide ((t.drop k).take o.length = o)) with
      | nil =>
        rw [q] at re pl dp
        simp [pieceS, hW, hw, hD, hd, re, ownL, show cop .ne (.lst []) (.lst []) = some false from rfl]
      | cons o os =>
        rw [q] at re pl dp
        have ho : o ∈ signs := (List.mem_filter.mp (q ▸ List.mem_cons_self : o ∈ signs.filter _)).1
        have ol : o.length ≤ LIM := by
          have : ∀ o ∈ signs, o.length ≤ 2 := by decide
          exact Nat.le_trans (this o ho) (by decide)
        have ne : cop .ne (.lst ((o :: os).map .str)) (.lst []) = some true := by rw [cop_ne_of (cop_eq_nill pl dp)]; rfl
        simp only [List.map_cons] at ne re
        simp [pieceS, hW, hw, hD, hd, re, ownL, ne, len_str ol, entry]
theorem tail_no : exec prog.cons prog.sub prog.W (call prog (n + 3)) tailS (S9 t f k y3 y4 (.val .non) y6 y7 y8) g = .ret false (nat k) g := by
  simp [tailS]
theorem tail_go {p : String × D × Nat} (hf : f.length ≤ 100000) : exec prog.cons prog.sub prog.W (call prog (n + 3)) tailS (S9 t f k y3 y4 (.val (ownL k (some p))) y6 y7 y8) g = .nx (S9 t (f ++ [entry k p]) (k + p.2.2) y3 y4 (.val (ownL k (some p))) y6 y7 y8) g := by
  have : f.length + [entry k p].length ≤ LIM := Nat.le_trans (show _ ≤ 100001 by simp; omega) (by decide)
  simp [tailS, ownL, add_tup this]
def stepL (t : Txt) (v : List D × Nat) : Tu (List D × Nat) := match t[v.2]? with
  | none => .ret (.tup v.1)
  | some c => if c = 32 ∨ c = 10 then .go (v.1, v.2 + 1) else if c = 35 then .go (v.1, run nl t v.2) else match tokS (t.drop v.2) with
    | none => .ret (nat v.2)
    | some p => .go (v.1 ++ [entry v.2 p], v.2 + p.2.2)
theorem step_ev (hz : t.length ≤ 400) (ht : TxOk t) (hf : f.length ≤ k) : match stepL t (f, k) with
    | .go v' => ∃ z4 z5 z6 z7, exec prog.cons prog.sub prog.W (call prog (n + 3)) stepS (S9 t f k y3 y4 y5 y6 y7 y8) g = .nx (S9 t v'.1 v'.2 y3 z4 z5 z6 z7 y8) g ∧ v'.1.length ≤ v'.2
    | .ret d => exec prog.cons prog.sub prog.W (call prog (n + 3)) stepS (S9 t f k y3 y4 y5 y6 y7 y8) g = .ret false d g
    | .exc _ => True := by
  have hl := le_lim (show t.length ≤ 100000 by omega)
  unfold stepL
  cases q : t[k]? with
  | none =>
    have kl : t.length ≤ k := List.getElem?_eq_none_iff.mp q
    simp [stepS, len_str hl, kl]
  | some c =>
    have kl : k < t.length := (List.getElem?_eq_some_iff.mp q).1
    have kl' : ¬ t.length ≤ k := by omega
    have oc := txok_get ht q
    have i0 : idx (.str t) (nat k) = some (.str [c]) := by rw [idx_str hl, q]; rfl
    have eh := eq_hash oc
    simp only
    by_cases h : c = 32 ∨ c = 10
    · rw [if_pos h]
      exact ⟨.val (.str [c]), .val .non, y6, y7, by simp [stepS, len_str hl, kl', i0, ws_in, h], by show f.length ≤ k + 1; omega⟩
    · rw [if_neg h]
      by_cases h2 : c = 35
      · rw [if_pos h2]
        subst h2
        have eh' : cop .eq (.str [35]) (.str (T "#")) = some true := by rw [eh]; simp
        obtain ⟨r, er⟩ := split_head (t.drop k)
        have s1 : slc (.str t) (some (k : Int)) none = some (.str (t.drop k)) := by rw [slc_str hl, cut_from]
        have s2 : prim2 .split (.str (t.drop k)) (.str [10]) = some (.lst (((t.drop k).takeWhile nl :: r).map .str)) := by
          show (if (t.drop k).length + 2 ≤ LIM ∧ 10 < 256 then some (D.lst ((splitT 10 (t.drop k)).map .str)) else none) = _
          rw [if_pos ⟨by rw [List.length_drop]; exact Nat.le_trans (show _ ≤ 402 by omega) (by decide), by decide⟩, er]
        have s3 : prim1 .len (.str ((t.drop k).takeWhile nl)) = some (nat ((t.drop k).takeWhile nl).length) := len_str (by
          have := (List.takeWhile_prefix nl (l := t.drop k)).length_le
          rw [List.length_drop] at this
          omega)
        refine ⟨.val (.str [35]), .val .non, y6, y7, ?_, ?_⟩
        · simp only [List.map_cons] at s2
          simp [stepS, len_str hl, kl', i0, ws_in, eh', s1, s2, s3, run]
        · show f.length ≤ run nl t k
          have := run_gt q
          omega
      · rw [if_neg h2]
        have eh' : cop .eq (.str [c]) (.str (T "#")) = some false := by rw [eh]; simp [h2]
        obtain ⟨z6, z7, pe⟩ := piece_ev (n := n) (g := g) (f := f) (y3 := y3) (y5 := .val .non) (y6 := y6) (y7 := y7) (y8 := y8) hz ht q
        have e : exec prog.cons prog.sub prog.W (call prog (n + 3)) stepS (S9 t f k y3 y4 y5 y6 y7 y8) g = exec prog.cons prog.sub prog.W (call prog (n + 3)) tailS (S9 t f k y3 (.val (.str [c])) (.val (ownL k (tokS (t.drop k)))) z6 z7 y8) g := by
          simp [stepS, len_str hl, kl', i0, ws_in, h, eh', pe]
        cases r : tokS (t.drop k) with
        | none =>
          rw [r] at e
          show _ = _
          rw [e]
          exact tail_no
        | some p =>
          rw [r] at e
          have ok := (tokS_ok (txok_drop ht) r).pos
          exact ⟨_, _, _, _, e.trans (tail_go (by omega)), by simp; omega⟩
theorem runT_go {α σ : Type} {f : σ → α → Tu σ} {x : α} {xs : List α} {v v' : σ} (h : f v x = .go v') : runT f (x :: xs) v = runT f xs v' := by
  rw [runT, h]
theorem runT_ret {α σ : Type} {f : σ → α → Tu σ} {x : α} {xs : List α} {v : σ} {d : D} (h : f v x = .ret d) : runT f (x :: xs) v = .ret d := by
  rw [runT, h]
theorem read_run (ht : TxOk t) : ∀ (ts : List Nat) (f : List D) (k : Nat), t.length - k < ts.length → runT (fun v (_ : Nat) => stepL t v) ts (f, k) = match lexF t ts.length k f with
    | .ok f' => .ret (.tup f')
    | .error j => .ret (nat j)
  | [], _, _, h => absurd h (by simp)
  | i :: ts, f, k, h => by
    rw [List.length_cons]
    rw [List.length_cons] at h
    cases q : t[k]? with
    | none =>
      rw [lexF_none q]
      have : stepL t (f, k) = .ret (.tup f) := by unfold stepL; simp only [q]
      rw [runT_ret this]
    | some c =>
      have kl : k < t.length := (List.getElem?_eq_some_iff.mp q).1
      rw [lexF_some q]
      by_cases h1 : c = 32 ∨ c = 10
      · have : stepL t (f, k) = .go (f, k + 1) := by unfold stepL; simp only [q, if_pos h1]
        rw [runT_go this, if_pos h1]
        exact read_run ht ts f (k + 1) (by omega)
      · rw [if_neg h1]
        by_cases h2 : c = 35
        · have : stepL t (f, k) = .go (f, run nl t k) := by unfold stepL; simp only [q, if_neg h1, if_pos h2]
          rw [runT_go this, if_pos h2]
          subst h2
          have := run_gt q
          exact read_run ht ts f (run nl t k) (by omega)
        · rw [if_neg h2]
          cases r : tokS (t.drop k) with
          | none =>
            have : stepL t (f, k) = .ret (nat k) := by unfold stepL; simp only [q, if_neg h1, if_neg h2, r]
            rw [runT_ret this]
          | some p =>
            have : stepL t (f, k) = .go (f ++ [entry k p], k + p.2.2) := by unfold stepL; simp only [q, if_neg h1, if_neg h2, r]
            rw [runT_go this]
            have := (tokS_ok (txok_drop ht) r).pos
            exact read_run ht ts _ _ (by omega)
theorem read_rg (hz : t.length ≤ 400) : prim1 .range (.int ((t.length : Int) + 1)) = some (.lst ((List.range' 0 (t.length + 1)).map nat)) := by
  have := p_range_nat (k := t.length + 1) (by omega)
  rw [show ((t.length + 1 : Nat) : Int) = (t.length : Int) + 1 by omega] at this
  exact this
theorem read_body (hz : t.length ≤ 400) : exec prog.cons prog.sub prog.W (call prog (n + 3)) b_law_read [.val (.str t), .un, .un, .un, .un, .un, .un, .un, .un] g = (forL (loopF prog.cons prog.sub prog.W (call prog (n + 3)) (.one 3) stepS) ((List.range' 0 (t.length + 1)).map nat) (S9 t [] 0 .un .un .un .un .un .un) g).bind fun s g => exec prog.cons prog.sub prog.W (call prog (n + 3)) (.ret (.var 1)) s g := by
  have hl := le_lim (show t.length ≤ 100000 by omega)
  have rg := read_rg hz
  have a1 : exec prog.cons prog.sub prog.W (call prog (n + 3)) (.setP [(1, .val), (2, .val)] (.cons (.tup .nil) (.cons (.lit (.int 0)) .nil))) [.val (.str t), .un, .un, .un, .un, .un, .un, .un, .un] g = .nx (S9 t [] 0 .un .un .un .un .un .un) g := by
    simp
  have a2 : ev prog.cons (call prog (n + 3)) (.p1 .range (.bin .add (.p1 .len (.var 0)) (.lit (.int 1)))) .val (S9 t [] 0 .un .un .un .un .un .un) g = .ok (.lst ((List.range' 0 (t.length + 1)).map nat)) g := by
    have b : ev prog.cons (call prog (n + 3)) (.bin .add (.p1 .len (.var 0)) (.lit (.int 1))) .val (S9 t [] 0 .un .un .un .un .un .un) g = .ok (.int ((t.length : Int) + 1)) g := by simp [len_str hl]
    have c : app1 .range g (.int ((t.length : Int) + 1)) = some (.lst ((List.range' 0 (t.length + 1)).map nat)) := by
      rw [app1_def (by simp), deref_int, Option.bind_some, rg]
    rw [ze_p1, b, rb_ok, c, ro_some, fin_val]
  rw [law_read_is, zs_seq, a1, fb_nx, zs_seq, zs_for, a2, li_ok, items_lst]
theorem read_loop (hz : t.length ≤ 400) (ht : TxOk t) (i j : Nat) (v : List D × Nat) (y : SV × SV × SV × SV × SV) (hv : v.1.length ≤ v.2) : match stepL t v with
    | .go v' => (∃ y' : SV × SV × SV × SV × SV, loopF prog.cons prog.sub prog.W (call prog (n + 3)) (.one 3) stepS (nat j) (S9 t v.1 v.2 y.1 y.2.1 y.2.2.1 y.2.2.2.1 y.2.2.2.2 .un) g = .nx (S9 t v'.1 v'.2 y'.1 y'.2.1 y'.2.2.1 y'.2.2.2.1 y'.2.2.2.2 .un) g) ∧ v'.1.length ≤ v'.2
    | .ret d => loopF prog.cons prog.sub prog.W (call prog (n + 3)) (.one 3) stepS (nat j) (S9 t v.1 v.2 y.1 y.2.1 y.2.2.1 y.2.2.2.1 y.2.2.2.2 .un) g = .ret false d g
    | .exc x => ∃ s', loopF prog.cons prog.sub prog.W (call prog (n + 3)) (.one 3) stepS (nat j) (S9 t v.1 v.2 y.1 y.2.1 y.2.2.1 y.2.2.2.1 y.2.2.2.2 .un) g = .exc x s' g := by
  have se := step_ev (n := n) (g := g) (y3 := .val (nat j)) (y4 := y.2.1) (y5 := y.2.2.1) (y6 := y.2.2.2.1) (y7 := y.2.2.2.2) (y8 := .un) hz ht hv
  cases q : stepL t v with
  | go v' =>
    rw [show stepL t (v.1, v.2) = .go v' from q] at se
    obtain ⟨z4, z5, z6, z7, e, hv'⟩ := se
    exact ⟨⟨(_, z4, z5, z6, z7), by simp; exact e⟩, hv'⟩
  | ret d =>
    rw [show stepL t (v.1, v.2) = .ret d from q] at se
    simp
    exact se
  | exc x =>
    exfalso
    unfold stepL at q
    split at q
    · cases q
    · split at q
      · cases q
      · split at q
        · cases q
        · split at q <;> cases q
theorem read_call (hz : t.length ≤ 400) (ht : TxOk t) : call prog (n + 4) 20 [.str t] g = .ok (match lex t with
    | .ok f => .tup f
    | .error j => nat j) g := by
  rw [call_of (P := prog) (fn := ⟨1, 9, true, false, b_law_read⟩) rfl rfl]
  show close true g (ofFl false (exec prog.cons prog.sub prog.W (call prog (n + 3)) b_law_read [.val (.str t), .un, .un, .un, .un, .un, .un, .un, .un] g)) = _
  rw [read_body hz]
  refine for_cl (fun (v : List D × Nat) (y : SV × SV × SV × SV × SV) => S9 t v.1 v.2 y.1 y.2.1 y.2.2.1 y.2.2.2.1 y.2.2.2.2 .un) (fun v (_ : Nat) => stepL t v) (fun _ v => v.1.length ≤ v.2) ([], 0) (.un, .un, .un, .un, .un) false rfl (by simp) ?_ ?_
  · intro i j hj hi v y hv
    have r := read_loop (n := n) (g := g) hz ht i j v y hv
    revert r
    cases stepL t v <;> exact fun r => r
  · rw [read_run ht _ [] 0 (by simp)]
    rw [List.length_range']
    rw [show lexF t (t.length + 1) 0 [] = lex t from rfl]
    cases r : lex t with
    | ok f =>
      have gd := (lex_rows ht (by omega) _ _ _ _ (by intro d hd; cases hd) (by simp) r).1
      simp [gd.below]
    | error j => simp
end
end K30
end
section
set_option Elab.async false
set_option linter.all false
set_option maxRecDepth 100000
set_option autoImplicit false
set_option maxHeartbeats 4000000
/-! K30za: what is told of a text; tokens drawn. -/
namespace K30
open PX
/-- what the law is told of a text -/
def toldT (t : Txt) : D := match lex t with
  | .ok f => .tup f
  | .error j => .tup [tx "at", nat j]
section
variable {n : Nat} {g : G} {t : Txt}
theorem sub32 : prog.sub 3 2 = false := by decide
theorem sub33 : prog.sub 3 3 = true := by decide
theorem sub22 : prog.sub 2 2 = true := by decide
theorem sub20 : prog.sub 2 0 = true := by decide
@[simp] theorem se_lit {sub : Nat → Nat → Bool} {x : Ex} {d : D} : se sub x (.lit d) = some d := rfl
@[simp] theorem se_fld {sub : Nat → Nat → Bool} {x : Ex} {j : Nat} : se sub x (.fld j) = x.args[j]? := rfl
@[simp] theorem se_tup2 {sub : Nat → Nat → Bool} {x : Ex} {a b : SE} : se sub x (.tup2 a b) = (se sub x a).bind fun d => (se sub x b).map fun d' => .tup [d, d'] := rfl
@[simp] theorem se_ifIs {sub : Nat → Nat → Bool} {x : Ex} {c : Nat} {a b : SE} : se sub x (.ifIs c a b) = if sub x.c c then se sub x a else se sub x b := rfl
@[simp] theorem handle_cons {sub : Nat → Nat → Bool} {x : Ex} {s : Sl} {g : G} {c : Nat} {e : SE} {hs : List (Nat × SE)} : handle sub x s g ((c, e) :: hs) = if sub x.c c then (match se sub x e with
    | some d => if flat d = true then .ret false d g else .bad
    | none => .bad) else handle sub x s g hs := rfl
theorem toldT_below (hz : t.length ≤ 8000) (ht : TxOk t) {m : Nat} : PX.below m (toldT t) = true := by
  unfold toldT
  cases r : lex t with
  | ok f =>
    have gd := (lex_rows ht (by omega) _ _ _ _ (by intro d hd; cases hd) (by simp) r).1
    simp [gd.below]
  | error j => simp
theorem told0_call {two : D} (hz : t.length ≤ 8000) (ht : TxOk t) : call prog (n + 6) 16 [.int 0, .str t, two] g = .ok (toldT t) g := by
  have tc := tokens_call (n := n) (g := g) hz ht
  have bl := toldT_below hz ht (m := g.length)
  rw [call_of (P := prog) (fn := ⟨3, 4, true, false, b_law_told⟩) rfl rfl]
  refine run_as (r := .ret false (toldT t) g) ?_ (by simp [bl])
  unfold toldT
  cases r : lex t with
  | ok f =>
    rw [r] at tc
    have tc : call prog (n + 5) 7 [.str t] g = .ok (.tup f) g := tc
    simp [b_law_told, start, tc]
  | error j =>
    rw [r] at tc
    have tc : call prog (n + 5) 7 [.str t] g = .exc ⟨3, [nat j]⟩ g := tc
    simp [b_law_told, start, tc, sub32, sub33]
/-- a token of the law: its kind, its value, its text -/
abbrev Tk : Type := String × D × Txt
def Tk.d (p : Tk) : D := .tup [tx p.1, p.2.1]
def numT : List Tk := [("num", .int 0, T "0"), ("num", .int 7, T "7"), ("num", .int (-3), T "-3"), ("num", .int 1000000, T "1000000"), ("num", .int (-1000000), T "-1000000"), ("num", .int 42, T "42")]
def sgnT : List Tk := [T "(", T ")", T ",", T ".", T "?", T ":-", T "=", T "!=", T "<", T "<="].map fun o => ("sign", .str o, o)
def wordT : List Tk := ([T "p", T "edge", T "a_1", T "zZ9", T "abcdefghijkl", T "not", T "rel"].map fun o => ("word", .str o, o)) ++ [T "X", T "Y2", T "Long_Name12"].map fun o => ("var", .str o, o)
def toks : List Tk := numT ++ (sgnT ++ wordT)
variable {ds : List Int} {p : Int} {rest : G}
theorem take (m : Int) (hm : 0 < m) (hp : 0 ≤ p) : ∃ v : Int, call prog (n + 2) 14 [.lst (ds.map .int), .ref 0, .int m] (Hat p rest) = .ok (.int v) (Hat (p + 1) rest) ∧ 0 ≤ v ∧ v < m :=
  take_call (P := prog) (n := n) (i := 14) (j := 13) rfl rfl ds hp hm rest
theorem one {rows : List D} (hr : rows ≠ []) (hp : 0 ≤ p) : ∃ d ∈ rows, call prog (n + 3) 15 [.lst rows, .lst (ds.map .int), .ref 0] (Hat p rest) = .ok d (Hat (p + 1) rest) :=
  one_call (P := prog) (n := n) (i := 15) (k := 14) (j := 13) rfl rfl rfl ds hp rest hr
theorem token_draw (hp : 0 ≤ p) : ∃ (q : Tk) (p' : Int), q ∈ toks ∧ 0 ≤ p' ∧ call prog (n + 4) 21 [.lst (ds.map .int), .ref 0] (Hat p rest) = .ok q.d (Hat p' rest) := by
  obtain ⟨v, e, h0, h1⟩ := take (n := n + 1) (ds := ds) (rest := rest) 4 (by decide) hp
  obtain ⟨d1, m1, e1⟩ := one (n := n) (ds := ds) (rest := rest) (rows := [.int 0, .int 7, .int (-3), .int 1000000, .int (-1000000), .int 42]) (p := p + 1) (by simp) (by omega)
  obtain ⟨d2, m2, e2⟩ := one (n := n) (ds := ds) (rest := rest) (rows := [.str (T "("), .str (T ")"), .str (T ","), .str (T "."), .str (T "?"), .str (T ":-"), .str (T "="), .str (T "!="), .str (T "<"), .str (T "<=")]) (p := p + 1) (by simp) (by omega)
  obtain ⟨d3, m3, e3⟩ := one (n := n) (ds := ds) (rest := rest) (rows := [.str (T "p"), .str (T "edge"), .str (T "a_1"), .str (T "zZ9"), .str (T "abcdefghijkl"), .str (T "not"), .str (T "rel"), .str (T "X"), .str (T "Y2"), .str (T "Long_Name12")]) (p := p + 1) (by simp) (by omega)
  rw [call_of (P := prog) (fn := ⟨2, 6, false, false, b_law_token⟩) rfl rfl]
  by_cases hv0 : v = 0
  · obtain ⟨q, hq, hd⟩ : ∃ q ∈ numT, d1 = q.2.1 ∧ q.1 = "num" := by
      simp only [List.mem_cons, List.not_mem_nil, or_false] at m1
      rcases m1 with rfl | rfl | rfl | rfl | rfl | rfl <;> simp [numT]
    refine ⟨q, p + 1 + 1, List.mem_append_left _ hq, by omega, ?_⟩
    refine run_as (r := .ret false q.d (Hat (p + 1 + 1) rest)) ?_ (by simp)
    subst hv0
    obtain ⟨rfl, hk⟩ := hd
    simp [b_law_token, start, e, e1, Tk.d, hk]
  · by_cases hv1 : v = 1
    · obtain ⟨q, hq, hd⟩ : ∃ q ∈ sgnT, d2 = q.2.1 ∧ q.1 = "sign" := by
        simp only [List.mem_cons, List.not_mem_nil, or_false] at m2
        rcases m2 with rfl | rfl | rfl | rfl | rfl | rfl | rfl | rfl | rfl | rfl <;> simp [sgnT]
      refine ⟨q, p + 1 + 1, List.mem_append_right _ (List.mem_append_left _ hq), by omega, ?_⟩
      refine run_as (r := .ret false q.d (Hat (p + 1 + 1) rest)) ?_ (by simp)
      subst hv1
      obtain ⟨rfl, hk⟩ := hd
      simp [b_law_token, start, e, e2, Tk.d, hk]
    · have wc : ∀ (w : Txt) (kd : String) (c : Nat), (kd, D.str w, w) ∈ wordT → w[0]? = some c → w.length ≤ 12 → kd = (if isSm c then "word" else "var") → d3 = .str w →
          ∃ (q : Tk) (p' : Int), q ∈ toks ∧ 0 ≤ p' ∧ close false (Hat p rest) (ofFl false (exec prog.cons prog.sub prog.W (call prog (n + 3)) b_law_token [.val (.lst (ds.map .int)), .val (.ref 0), .un, .un, .un, .un] (Hat p rest))) = .ok q.d (Hat p' rest) := by
        intro w kd c hm hc hl hk hd
        refine ⟨(kd, .str w, w), p + 1 + 1, List.mem_append_right _ (List.mem_append_right _ hm), by omega, ?_⟩
        refine run_as (r := .ret false (.tup [tx kd, .str w]) (Hat (p + 1 + 1) rest)) ?_ (by simp [Tk.d])
        subst hd
        have i0 : idx (.str w) (.int 0) = some (.str [c]) := by
          have := idx_str (t := w) (k := 0) (Nat.le_trans hl (by decide))
          rw [hc] at this
          exact this
        have ea : T "a" = [97] := rfl
        have ez : T "z" = [122] := rfl
        have hi : (v = 0) = False := eq_false hv0
        have hj : (v = 1) = False := eq_false hv1
        rw [hk]
        by_cases h1 : 97 ≤ c <;> by_cases h2 : c ≤ 122 <;> simp [b_law_token, start, e, e3, hi, hj, i0, ea, ez, le_c, h1, h2, isSm]
      simp only [List.mem_cons, List.not_mem_nil, or_false] at m3
      rcases m3 with h | h | h | h | h | h | h | h | h | h
      · exact wc (T "p") "word" 112 (by simp [wordT]) rfl (by decide) (by decide) h
      · exact wc (T "edge") "word" 101 (by simp [wordT]) rfl (by decide) (by decide) h
      · exact wc (T "a_1") "word" 97 (by simp [wordT]) rfl (by decide) (by decide) h
      · exact wc (T "zZ9") "word" 122 (by simp [wordT]) rfl (by decide) (by decide) h
      · exact wc (T "abcdefghijkl") "word" 97 (by simp [wordT]) rfl (by decide) (by decide) h
      · exact wc (T "not") "word" 110 (by simp [wordT]) rfl (by decide) (by decide) h
      · exact wc (T "rel") "word" 114 (by simp [wordT]) rfl (by decide) (by decide) h
      · exact wc (T "X") "var" 88 (by simp [wordT]) rfl (by decide) (by decide) h
      · exact wc (T "Y2") "var" 89 (by simp [wordT]) rfl (by decide) (by decide) h
      · exact wc (T "Long_Name12") "var" 76 (by simp [wordT]) rfl (by decide) (by decide) h
end
end K30
end
section
set_option Elab.async false
set_option linter.all false
set_option maxRecDepth 100000
set_option autoImplicit false
set_option maxHeartbeats 4000000
/-! K30zb: spaced rows, spots. -/
namespace K30
open PX
section
variable {n : Nat} {g : G} {t : Txt}
theorem int_call {i : Int} : call prog (n + 1) 0 [.int i] g = .ok (.bl true) g := by
  rw [call_of (P := prog) (fn := ⟨1, 1, true, false, b_is_integer⟩) rfl rfl]
  refine run_as (r := .ret false (.bl true) g) ?_ (by simp)
  simp [b_is_integer, start]
theorem bool_call {b : Bool} : call prog (n + 1) 0 [.bl b] g = .ok (.bl false) g := by
  rw [call_of (P := prog) (fn := ⟨1, 1, true, false, b_is_integer⟩) rfl rfl]
  refine run_as (r := .ret false (.bl false) g) ?_ (by simp)
  simp [b_is_integer, start]
theorem none_call : call prog (n + 1) 0 [.non] g = .ok (.bl false) g := by
  rw [call_of (P := prog) (fn := ⟨1, 1, true, false, b_is_integer⟩) rfl rfl]
  refine run_as (r := .ret false (.bl false) g) ?_ (by simp)
  simp [b_is_integer, start]
theorem range_call {i a b : Int} : call prog (n + 2) 1 [.int i, .int a, .int b] g = .ok (.bl (decide (a ≤ i) && decide (i ≤ b))) g := by
  have e := int_call (n := n) (g := g) (i := i)
  rw [call_of (P := prog) (fn := ⟨3, 3, true, false, b_in_range⟩) rfl rfl]
  refine run_as (r := .ret false (.bl (decide (a ≤ i) && decide (i ≤ b))) g) ?_ (by simp)
  by_cases h : a ≤ i <;> simp [b_in_range, start, e, h]
theorem range_no {v : D} {a b : Int} (hv : call prog (n + 1) 0 [v] g = .ok (.bl false) g) : call prog (n + 2) 1 [v, .int a, .int b] g = .ok (.bl false) g := by
  rw [call_of (P := prog) (fn := ⟨3, 3, true, false, b_in_range⟩) rfl rfl]
  refine run_as (r := .ret false (.bl false) g) ?_ (by simp)
  simp [b_in_range, start, hv]
theorem num_of {q : Tk} (h : q ∈ numT) : q.1 = "num" ∧ ∃ i : Int, q.2.1 = .int i ∧ -1000000 ≤ i ∧ i ≤ 1000000 ∧ prim1 .str (.int i) = some (.str q.2.2) := by
  simp only [numT, List.mem_cons, List.not_mem_nil, or_false] at h
  rcases h with rfl | rfl | rfl | rfl | rfl | rfl
  · exact ⟨rfl, 0, rfl, by decide, by decide, by rw [p_str_int, if_pos (by decide)]; rfl⟩
  · exact ⟨rfl, 7, rfl, by decide, by decide, by rw [p_str_int, if_pos (by decide)]; rfl⟩
  · exact ⟨rfl, -3, rfl, by decide, by decide, by rw [p_str_int, if_pos (by decide)]; rfl⟩
  · exact ⟨rfl, 1000000, rfl, by decide, by decide, by rw [p_str_int, if_pos (by decide)]; rfl⟩
  · exact ⟨rfl, -1000000, rfl, by decide, by decide, by rw [p_str_int, if_pos (by decide)]; rfl⟩
  · exact ⟨rfl, 42, rfl, by decide, by decide, by rw [p_str_int, if_pos (by decide)]; rfl⟩
theorem sgn_of {q : Tk} (h : q ∈ sgnT) : q.1 = "sign" ∧ q.2.1 = .str q.2.2 ∧ q.2.2 ∈ signs := by
  have : ∀ o ∈ [T "(", T ")", T ",", T ".", T "?", T ":-", T "=", T "!=", T "<", T "<="], o ∈ signs := by decide
  obtain ⟨o, ho, rfl⟩ := List.mem_map.mp h
  exact ⟨rfl, rfl, this o ho⟩
structure WordIs (q : Tk) (c : Nat) : Prop where
  val : q.2.1 = .str q.2.2
  hd : q.2.2[0]? = some c
  kd : (q.1 = "word" ∧ isSm c = true) ∨ (q.1 = "var" ∧ isGr c = true)
  inn : ∀ d ∈ q.2.2, inner d = true
  lo : 1 ≤ q.2.2.length
  hi : q.2.2.length ≤ 12
  ok : TxOk q.2.2
theorem word_of {q : Tk} (h : q ∈ wordT) : ∃ c, WordIs q c := by
  simp only [wordT, List.map_cons, List.map_nil, List.mem_append, List.mem_cons, List.not_mem_nil, or_false] at h
  rcases h with (rfl | rfl | rfl | rfl | rfl | rfl | rfl) | (rfl | rfl | rfl)
  · exact ⟨112, rfl, rfl, .inl ⟨rfl, rfl⟩, by decide, by decide, by decide, T_ok _⟩
  · exact ⟨101, rfl, rfl, .inl ⟨rfl, rfl⟩, by decide, by decide, by decide, T_ok _⟩
  · exact ⟨97, rfl, rfl, .inl ⟨rfl, rfl⟩, by decide, by decide, by decide, T_ok _⟩
  · exact ⟨122, rfl, rfl, .inl ⟨rfl, rfl⟩, by decide, by decide, by decide, T_ok _⟩
  · exact ⟨97, rfl, rfl, .inl ⟨rfl, rfl⟩, by decide, by decide, by decide, T_ok _⟩
  · exact ⟨110, rfl, rfl, .inl ⟨rfl, rfl⟩, by decide, by decide, by decide, T_ok _⟩
  · exact ⟨114, rfl, rfl, .inl ⟨rfl, rfl⟩, by decide, by decide, by decide, T_ok _⟩
  · exact ⟨88, rfl, rfl, .inr ⟨rfl, rfl⟩, by decide, by decide, by decide, T_ok _⟩
  · exact ⟨89, rfl, rfl, .inr ⟨rfl, rfl⟩, by decide, by decide, by decide, T_ok _⟩
  · exact ⟨76, rfl, rfl, .inr ⟨rfl, rfl⟩, by decide, by decide, by decide, T_ok _⟩
theorem toks_cases {q : Tk} (h : q ∈ toks) : q ∈ numT ∨ q ∈ sgnT ∨ q ∈ wordT := by
  rcases List.mem_append.mp h with h | h
  · exact .inl h
  · exact .inr (List.mem_append.mp h)
theorem tk_text {q : Tk} (h : q ∈ toks) : prim1 .str q.2.1 = some (.str q.2.2) := by
  rcases toks_cases h with h | h | h
  · obtain ⟨_, i, e, _, _, h2⟩ := num_of h
    rw [e]; exact h2
  · obtain ⟨_, e, _⟩ := sgn_of h
    rw [e]; rfl
  · obtain ⟨c, w⟩ := word_of h
    rw [w.val]; rfl
theorem sign_in {x : Txt} (hx : TxOk x) : cop .inn (.str x) (.tup (signs.map .str)) = some (decide (x ∈ signs)) := isInL_strs hx fun y hy => by
  have : ∀ o ∈ signs, plain (.str o) = true := by decide
  exact this y hy
theorem istok_call {q : Tk} (h : q ∈ toks) : call prog (n + 3) 10 [q.d] g = .ok (.bl true) g := by
  rw [call_of (P := prog) (fn := ⟨1, 4, true, false, b_is_token⟩) rfl rfl]
  refine run_as (r := .ret false (.bl true) g) ?_ (by simp)
  rcases toks_cases h with h | h | h
  · obtain ⟨k, i, e, h1, h2, _⟩ := num_of h
    have rc := range_call (n := n) (g := g) (i := i) (a := -1000000) (b := 1000000)
    simp [h1, h2] at rc
    simp [b_is_token, start, Tk.d, k, e, con0, rc]
  · obtain ⟨k, e, h1⟩ := sgn_of h
    have ok : TxOk q.2.2 := by
      have : ∀ o ∈ signs, plain (.str o) = true := by decide
      exact this _ h1
    simp [b_is_token, start, Tk.d, k, e, con5, sign_in ok, h1]
  · obtain ⟨c, w⟩ := word_of h
    have hl : q.2.2.length ≤ LIM := Nat.le_trans w.hi (by decide)
    have i0 : idx (.str q.2.2) (.int 0) = some (.str [c]) := by
      have := idx_str (k := 0) hl
      rw [w.hd] at this
      exact this
    have al : (q.2.2.all fun d => inner d) = true := List.all_eq_true.mpr w.inn
    rcases w.kd with ⟨k, h1⟩ | ⟨k, h1⟩
    · simp [b_is_token, start, Tk.d, k, w.val, len_str hl, w.lo, w.hi, i0, con2, con6, h1, items_str hl]
      exact w.inn
    · simp [b_is_token, start, Tk.d, k, w.val, len_str hl, w.lo, w.hi, i0, con3, con6, h1, items_str hl]
      exact w.inn
theorem text_call {q : Tk} (h : q ∈ toks) : call prog (n + 1) 8 [q.d] g = .ok (.str q.2.2) g := by
  rw [call_of (P := prog) (fn := ⟨1, 1, true, false, b_token_text⟩) rfl rfl]
  refine run_as (r := .ret false (.str q.2.2) g) ?_ (by simp)
  have e := tk_text h
  have dq : deref g q.2.1 = some q.2.1 := by
    rcases toks_cases h with h | h | h
    · obtain ⟨_, i, e, _⟩ := num_of h
      rw [e]; rfl
    · obtain ⟨_, e, _⟩ := sgn_of h
      rw [e]; rfl
    · obtain ⟨c, w⟩ := word_of h
      rw [w.val]; rfl
  simp [b_token_text, start, Tk.d, dq, e]
def lcIs : E := (.lc (.call 10 (.cons (.var 1) .nil)) (.one 1) (.var 0) .nil)
def lcTx : E := (.lc (.call 8 (.cons (.var 1) .nil)) (.one 1) (.var 0) .nil)
/-- the texts of a row, a blank between -/
def rowT (qs : List Tk) : Txt := joinT (T " ") (qs.map (·.2.2))
theorem tk_len {q : Tk} (h : q ∈ toks) : 1 ≤ q.2.2.length ∧ q.2.2.length ≤ 12 := by
  have : ∀ q ∈ toks.map (fun q => q.2.2), 1 ≤ q.length ∧ q.length ≤ 12 := by decide
  exact this _ (List.mem_map.mpr ⟨q, h, rfl⟩)
theorem join_row {qs : List Tk} (h : ∀ q ∈ qs, q ∈ toks) (hl : qs.length ≤ 100) : prim2 .join (.str (T " ")) (.lst (qs.map fun q => .str q.2.2)) = some (.str (rowT qs)) := by
  have sum : ∀ xs : List Tk, (∀ q ∈ xs, q ∈ toks) → ((xs.map fun q => q.2.2).map (·.length)).sum ≤ 12 * xs.length := by
    intro xs
    induction xs with
    | nil => intro _; simp
    | cons x xs ih =>
      intro hx
      have h1 := tk_len (hx x List.mem_cons_self)
      have h2 := ih fun q hq => hx q (List.mem_cons_of_mem _ hq)
      simp only [List.map_cons, List.sum_cons, List.length_cons]
      omega
  have e : strs? (qs.map fun q => D.str q.2.2) = some (qs.map fun q => q.2.2) := by
    clear sum h hl
    induction qs with
    | nil => rfl
    | cons q qs ih =>
      show (strs? (qs.map fun q => D.str q.2.2)).map (q.2.2 :: ·) = _
      rw [ih]; rfl
  show (strs? (qs.map fun q => D.str q.2.2)).bind (fun ts => if (ts.map (·.length)).sum + ts.length * (T " ").length ≤ LIM then some (D.str (joinT (T " ") ts)) else none) = _
  have s1 := sum qs h
  rw [e, Option.bind_some, if_pos]
  · rfl
  · have : (T " ").length = 1 := rfl
    rw [this, List.length_map]
    exact Nat.le_trans (show _ ≤ 1300 by omega) (by decide)
theorem spaced_call {qs : List Tk} (h : ∀ q ∈ qs, q ∈ toks) (hl : qs.length ≤ 100) : call prog (n + 4) 9 [.tup (qs.map Tk.d)] g = .ok (.str (rowT qs)) g := by
  rw [call_of (P := prog) (fn := ⟨1, 2, true, false, b_spaced⟩) rfl rfl]
  refine run_as (r := .ret false (.str (rowT qs)) g) ?_ (by simp)
  have j := join_row h hl
  have dq : ∀ {q : Tk}, deref g q.d = some q.d := rfl
  have c1 : ev prog.cons (call prog (n + 3)) lcIs .val [.val (.tup (qs.map Tk.d)), .un] g = .ok (.lst (qs.map fun _ => .bl true)) g := by
    simp [lcIs]
    rw [compG_of (h := fun _ => some (.bl true))]
    · simp
    · intro q hq
      simp [istok_call (h q hq)]
  have c2 : ev prog.cons (call prog (n + 3)) lcTx .val [.val (.tup (qs.map Tk.d)), .un] g = .ok (.lst (qs.map fun q => .str q.2.2)) g := by
    simp [lcTx]
    rw [compG_of (h := fun q => some (.str q.2.2))]
    · simp
    · intro q hq
      simp [text_call (h q hq)]
  have al : prim1 .all (.lst (qs.map fun _ => D.bl true)) = some (.bl true) := by
    rw [p_all (f := fun _ => true)]; simp
  show exec prog.cons prog.sub prog.W (call prog (n + 3)) (.seq (.if_ (.or_ (.not_ (.isi .tuple (.var 0))) (.not_ (.p1 .all lcIs))) (.rai 2 (.cons (.lit (.str (T "rows"))) .nil)) .nop) (.ret (.p2 .join (.lit (.str (T " "))) lcTx))) [.val (.tup (qs.map Tk.d)), .un] g = _
  simp [c1, c2, j, al]
theorem told1_call {qs : List Tk} {two : D} (h : ∀ q ∈ qs, q ∈ toks) (hl : qs.length ≤ 100) : call prog (n + 5) 16 [.int 1, .tup (qs.map Tk.d), two] g = .ok (.str (rowT qs)) g := by
  have sc := spaced_call (n := n) (g := g) h hl
  rw [call_of (P := prog) (fn := ⟨3, 4, true, false, b_law_told⟩) rfl rfl]
  refine run_as (r := .ret false (.str (rowT qs)) g) ?_ (by simp)
  simp [b_law_told, start, sc]
/-- a place's line and column -/
def spotD (t : Txt) (k : Nat) : D := .tup [nat (splitT 10 (t.take k)).length, nat (((splitT 10 (t.take k)).getLast?.map (·.length)).getD 0 + 1)]
theorem split_ne (u : Txt) : ∃ x, (splitT 10 u).getLast? = some x ∧ x.length ≤ u.length := by
  induction u with
  | nil => exact ⟨[], rfl, Nat.le_refl _⟩
  | cons c u ih =>
    obtain ⟨x, hx, hl⟩ := ih
    by_cases h : c = 10
    · subst h
      refine ⟨x, ?_, by simp; omega⟩
      show ([] :: splitT 10 u).getLast? = _
      rw [List.getLast?_cons, hx]; rfl
    · cases q : splitT 10 u with
      | nil => rw [q] at hx; cases hx
      | cons y ys =>
        have e : splitT 10 (c :: u) = (c :: y) :: ys := by simp [splitT, h, q]
        rw [e]
        rw [q] at hx
        cases ys with
        | nil =>
          simp at hx
          subst hx
          exact ⟨c :: y, rfl, by simp; omega⟩
        | cons z zs => exact ⟨x, by simpa using hx, by simp; omega⟩
theorem split_str {u : Txt} (h : u.length ≤ 100000) : prim2 .split (.str u) (.str [10]) = some (.lst ((splitT 10 u).map .str)) := by
  show (if u.length + 2 ≤ LIM ∧ 10 < 256 then some (D.lst ((splitT 10 u).map .str)) else none) = _
  rw [if_pos ⟨Nat.le_trans (show _ ≤ 100002 by omega) (by decide), by decide⟩]
theorem spot_call {k : Nat} (hz : t.length ≤ 8000) (hk : k ≤ t.length) : call prog (n + 3) 11 [.str t, nat k] g = .ok (spotD t k) g := by
  have hl := le_lim (show t.length ≤ 100000 by omega)
  have d := demand_ok (n := n + 1) (g := g) hz
  have rc := range_call (n := n) (g := g) (i := (k : Int)) (a := 0) (b := (t.length : Int))
  have s1 : slc (.str t) none (some (k : Int)) = some (.str (t.take k)) := by rw [slc_str hl, cut_to]
  have s2 := split_str (u := t.take k) (by rw [List.length_take]; omega)
  obtain ⟨x, hx, hxl⟩ := split_ne (t.take k)
  have xl : x.length ≤ LIM := le_lim (by rw [List.length_take] at hxl; omega)
  rw [call_of (P := prog) (fn := ⟨2, 3, true, false, b_spot⟩) rfl rfl]
  refine run_as (r := .ret false (spotD t k) g) ?_ (by simp [spotD])
  simp [hk] at rc
  simp [b_spot, start, d, len_str hl, rc, s1, s2, hx, len_str xl, spotD]
theorem told2_call {k : Nat} (hz : t.length ≤ 8000) (hk : k ≤ t.length) : call prog (n + 4) 16 [.int 2, .str t, nat k] g = .ok (spotD t k) g := by
  have sc := spot_call (n := n) (g := g) hz hk
  rw [call_of (P := prog) (fn := ⟨3, 4, true, false, b_law_told⟩) rfl rfl]
  refine run_as (r := .ret false (spotD t k) g) ?_ (by simp [spotD])
  simp [b_law_told, start, sc]
end
end K30
end
section
set_option Elab.async false
set_option linter.all false
set_option maxRecDepth 100000
set_option autoImplicit false
set_option maxHeartbeats 4000000
/-! K30zc: the reading of a text that was built of tokens. -/
namespace K30
open PX
abbrev Pc : Type := Txt × Tk
def seps : List Txt := [T " ", T "  ", [10], [32, 35, 32, 115, 111, 58, 32, 88, 33, 32, 10], [32, 10, 10]]
def fins : List Txt := [T "", T " ", T "#", [10], T " # end"]
def textOf : List Pc → Txt
  | [] => []
  | q :: ps => q.1 ++ (q.2.2.2 ++ textOf ps)
def dueOf : Nat → List Pc → List D
  | _, [] => []
  | k, q :: ps => entry (k + q.1.length) (q.2.1, q.2.2.1, q.2.2.2.length) :: dueOf (k + q.1.length + q.2.2.2.length) ps
def Pcs (ps : List Pc) : Prop := ∀ q ∈ ps, q.1 ∈ seps ∧ q.2 ∈ toks
/-- nothing that goes on with a token -/
def Soft (u : Txt) : Prop := u = [] ∨ ∃ c r, u = c :: r ∧ (c = 32 ∨ c = 10 ∨ c = 35)
theorem soft_text {ps : List Pc} {fin : Txt} (h : Pcs ps) (hf : fin ∈ fins) : Soft (textOf ps ++ fin) := by
  cases ps with
  | nil =>
    simp only [fins, List.mem_cons, List.not_mem_nil, or_false] at hf
    rcases hf with rfl | rfl | rfl | rfl | rfl
    · exact .inl rfl
    · exact .inr ⟨32, [], rfl, .inl rfl⟩
    · exact .inr ⟨35, [], rfl, .inr (.inr rfl)⟩
    · exact .inr ⟨10, [], rfl, .inr (.inl rfl)⟩
    · exact .inr ⟨32, T "# end", rfl, .inl rfl⟩
  | cons q ps =>
    have := (h q List.mem_cons_self).1
    obtain ⟨sep, tk⟩ := q
    simp only [seps, List.mem_cons, List.not_mem_nil, or_false] at this
    rcases this with rfl | rfl | rfl | rfl | rfl
    · exact .inr ⟨32, _, rfl, .inl rfl⟩
    · exact .inr ⟨32, _, rfl, .inl rfl⟩
    · exact .inr ⟨10, _, rfl, .inr (.inl rfl)⟩
    · exact .inr ⟨32, _, rfl, .inl rfl⟩
    · exact .inr ⟨32, _, rfl, .inl rfl⟩
theorem tok_soft {q : Tk} (h : q ∈ toks) {u : Txt} (hu : Soft u) : tokS (q.2.2 ++ u) = some (q.1, q.2.1, q.2.2.length) := by
  simp only [toks, numT, sgnT, wordT, List.map_cons, List.map_nil, List.mem_append, List.mem_cons, List.not_mem_nil, or_false] at h
  rcases hu with rfl | ⟨c, r, rfl, hc⟩
  · rcases h with (rfl | rfl | rfl | rfl | rfl | rfl) | (rfl | rfl | rfl | rfl | rfl | rfl | rfl | rfl | rfl | rfl) | (rfl | rfl | rfl | rfl | rfl | rfl | rfl) | rfl | rfl | rfl <;> rfl
  · rcases hc with rfl | rfl | rfl
    · rcases h with (rfl | rfl | rfl | rfl | rfl | rfl) | (rfl | rfl | rfl | rfl | rfl | rfl | rfl | rfl | rfl | rfl) | (rfl | rfl | rfl | rfl | rfl | rfl | rfl) | rfl | rfl | rfl <;> rfl
    · rcases h with (rfl | rfl | rfl | rfl | rfl | rfl) | (rfl | rfl | rfl | rfl | rfl | rfl | rfl | rfl | rfl | rfl) | (rfl | rfl | rfl | rfl | rfl | rfl | rfl) | rfl | rfl | rfl <;> rfl
    · rcases h with (rfl | rfl | rfl | rfl | rfl | rfl) | (rfl | rfl | rfl | rfl | rfl | rfl | rfl | rfl | rfl | rfl) | (rfl | rfl | rfl | rfl | rfl | rfl | rfl) | rfl | rfl | rfl <;> rfl
theorem tk_head {q : Tk} (h : q ∈ toks) : ∃ c r, q.2.2 = c :: r ∧ c ≠ 32 ∧ c ≠ 10 ∧ c ≠ 35 := by
  have : ∀ x ∈ toks.map (fun q => q.2.2), ∃ c ∈ x.head?, c ≠ 32 ∧ c ≠ 10 ∧ c ≠ 35 := by decide
  obtain ⟨c, hc, h1⟩ := this _ (List.mem_map.mpr ⟨q, h, rfl⟩)
  cases e : q.2.2 with
  | nil => rw [e] at hc; cases hc
  | cons d r =>
    rw [e] at hc
    have : d = c := by simpa using hc
    subst this
    exact ⟨d, r, rfl, h1⟩
theorem tw_all {P : Nat → Bool} : ∀ w : Txt, (∀ c ∈ w, P c = true) → w.takeWhile P = w
  | [], _ => rfl
  | c :: w, h => by
    rw [List.takeWhile_cons_of_pos (h c List.mem_cons_self), tw_all w fun d hd => h d (List.mem_cons_of_mem _ hd)]
section
variable {t : Txt}
/-- the reading goes on at j, where the text that is left is u -/
def Goes (t : Txt) (k : Nat) (f : List D) (j : Nat) (f' : List D) (u : Txt) : Prop := t.drop j = u ∧ k ≤ j ∧ ∀ n, t.length - k < n → ∃ n', t.length - j < n' ∧ lexF t n k f = lexF t n' j f'
theorem Goes.refl {k : Nat} {f : List D} {u : Txt} (h : t.drop k = u) : Goes t k f k f u := ⟨h, Nat.le_refl _, fun n hn => ⟨n, hn, rfl⟩⟩
theorem Goes.trans {k j l : Nat} {f f' f'' : List D} {u w : Txt} (a : Goes t k f j f' u) (b : Goes t j f' l f'' w) : Goes t k f l f'' w := by
  refine ⟨b.1, Nat.le_trans a.2.1 b.2.1, fun n hn => ?_⟩
  obtain ⟨n1, h1, e1⟩ := a.2.2 n hn
  obtain ⟨n2, h2, e2⟩ := b.2.2 n1 h1
  exact ⟨n2, h2, e1.trans e2⟩
theorem get_of_drop {k c : Nat} {u : Txt} (h : t.drop k = c :: u) : t[k]? = some c ∧ t.drop (k + 1) = u := by
  have e : t[k]? = some c := by rw [← List.head?_drop, h]; rfl
  refine ⟨e, ?_⟩
  have := get_drop e
  rw [h] at this
  exact (List.cons.inj this).2.symm
theorem goes_ws {k c : Nat} {f : List D} {u : Txt} (h : t.drop k = c :: u) (hc : c = 32 ∨ c = 10) : Goes t k f (k + 1) f u := by
  obtain ⟨e, d⟩ := get_of_drop h
  have kl : k < t.length := (List.getElem?_eq_some_iff.mp e).1
  refine ⟨d, by omega, fun n hn => ?_⟩
  cases n with
  | zero => omega
  | succ n => exact ⟨n, by omega, by rw [lexF_some e, if_pos hc]⟩
theorem goes_hash {k : Nat} {f : List D} {w u : Txt} (h : t.drop k = 35 :: (w ++ 10 :: u)) (hw : ∀ c ∈ w, nl c = true) : Goes t k f (k + (w.length + 1)) f (10 :: u) := by
  obtain ⟨e, d⟩ := get_of_drop h
  have kl : k < t.length := (List.getElem?_eq_some_iff.mp e).1
  have tw : (35 :: (w ++ 10 :: u)).takeWhile nl = 35 :: w := by
    rw [List.takeWhile_cons_of_pos rfl, List.takeWhile_append_of_pos hw]
    simp [nl]
  have er : run nl t k = k + (w.length + 1) := by
    unfold run
    rw [h, tw]; rfl
  refine ⟨?_, by omega, fun n hn => ?_⟩
  · rw [← List.drop_drop, h]
    simp
  · cases n with
    | zero => omega
    | succ n =>
      refine ⟨n, by omega, ?_⟩
      rw [lexF_some e, if_neg (by decide), if_pos rfl, er]
theorem goes_rest {k : Nat} {f : List D} {w : Txt} (h : t.drop k = 35 :: w) (hw : ∀ c ∈ w, nl c = true) : Goes t k f t.length f [] := by
  obtain ⟨e, d⟩ := get_of_drop h
  have kl : k < t.length := (List.getElem?_eq_some_iff.mp e).1
  have tw : (35 :: w).takeWhile nl = 35 :: w := by
    rw [List.takeWhile_cons_of_pos rfl]
    congr 1
    exact tw_all w hw
  have hl : t.length = k + (35 :: w).length := by
    have := congrArg List.length h
    rw [List.length_drop] at this
    omega
  have er : run nl t k = t.length := by
    unfold run
    rw [h, tw, hl]
  refine ⟨List.drop_length .., by omega, fun n hn => ?_⟩
  cases n with
  | zero => omega
  | succ n =>
    refine ⟨n, by omega, ?_⟩
    rw [lexF_some e, if_neg (by decide), if_pos rfl, er]
theorem goes_tok {k : Nat} {f : List D} {q : Tk} {u : Txt} (hq : q ∈ toks) (hu : Soft u) (h : t.drop k = q.2.2 ++ u) : Goes t k f (k + q.2.2.length) (f ++ [entry k (q.1, q.2.1, q.2.2.length)]) u := by
  obtain ⟨c, r, e, h32, h10, h35⟩ := tk_head hq
  have h' : t.drop k = c :: (r ++ u) := by rw [h, e]; rfl
  obtain ⟨g, d⟩ := get_of_drop h'
  have kl : k < t.length := (List.getElem?_eq_some_iff.mp g).1
  have lq := (tk_len hq).1
  refine ⟨?_, by omega, fun n hn => ?_⟩
  · rw [← List.drop_drop, h, List.drop_left]
  · cases n with
    | zero => omega
    | succ n =>
      refine ⟨n, by omega, ?_⟩
      rw [lexF_some g, if_neg (by simp [h32, h10]), if_neg h35, h, tok_soft hq hu]
theorem goes_sep {k : Nat} {f : List D} {sep u : Txt} (hs : sep ∈ seps) (h : t.drop k = sep ++ u) : Goes t k f (k + sep.length) f u := by
  simp only [seps, List.mem_cons, List.not_mem_nil, or_false] at hs
  rcases hs with rfl | rfl | rfl | rfl | rfl
  · exact goes_ws h (.inl rfl)
  · have a := goes_ws (f := f) h (.inl rfl)
    exact a.trans (goes_ws a.1 (.inl rfl))
  · exact goes_ws h (.inr rfl)
  · have a := goes_ws (f := f) (u := 35 :: ([32, 115, 111, 58, 32, 88, 33, 32] ++ 10 :: u)) h (.inl rfl)
    have b := a.trans (goes_hash a.1 (by decide))
    exact b.trans (goes_ws b.1 (.inr rfl))
  · have a := goes_ws (f := f) h (.inl rfl)
    have b := a.trans (goes_ws a.1 (.inr rfl))
    exact b.trans (goes_ws b.1 (.inr rfl))
theorem goes_fin {k : Nat} {f : List D} {fin : Txt} (hs : fin ∈ fins) (h : t.drop k = fin) (hk : k ≤ t.length) : Goes t k f t.length f [] := by
  have e0 : t.drop t.length = [] := List.drop_length ..
  have len : t.length = k + fin.length := by
    have := congrArg List.length h
    rw [List.length_drop] at this
    omega
  simp only [fins, List.mem_cons, List.not_mem_nil, or_false] at hs
  rcases hs with rfl | rfl | rfl | rfl | rfl
  · have : t.length = k := len
    rw [this]; exact .refl h
  · have : t.length = k + 1 := len
    rw [this]; exact goes_ws h (.inl rfl)
  · exact goes_rest (w := []) h (by simp)
  · have : t.length = k + 1 := len
    rw [this]; exact goes_ws h (.inr rfl)
  · have a := goes_ws (f := f) (u := T "# end") h (.inl rfl)
    exact a.trans (goes_rest (w := T " end") a.1 (by decide))
theorem goes_text : ∀ (ps : List Pc) {k : Nat} {f : List D} {fin : Txt}, Pcs ps → fin ∈ fins → k ≤ t.length → t.drop k = textOf ps ++ fin → Goes t k f t.length (f ++ dueOf k ps) []
  | [], k, f, fin, _, hf, hk, h => by
    rw [show f ++ dueOf k [] = f from List.append_nil f]
    exact goes_fin hf h hk
  | q :: ps, k, f, fin, hp, hf, hk, h => by
    have hq := hp q List.mem_cons_self
    have hps : Pcs ps := fun x hx => hp x (List.mem_cons_of_mem _ hx)
    have h1 : t.drop k = q.1 ++ (q.2.2.2 ++ (textOf ps ++ fin)) := by rw [h]; simp [textOf]
    have a := goes_sep (f := f) hq.1 h1
    have b := a.trans (goes_tok hq.2 (soft_text hps hf) a.1)
    have lb : k + q.1.length + q.2.2.2.length ≤ t.length := by
      have := congrArg List.length h1
      rw [List.length_drop] at this
      simp at this
      omega
    have c := b.trans (goes_text ps hps hf lb b.1)
    simpa [dueOf, List.append_assoc] using c
theorem lex_text {ps : List Pc} {fin : Txt} (h : Pcs ps) (hf : fin ∈ fins) : lex (textOf ps ++ fin) = .ok (dueOf 0 ps) := by
  have g := goes_text (t := textOf ps ++ fin) ps (k := 0) (f := []) h hf (Nat.zero_le _) rfl
  obtain ⟨n', h1, e⟩ := g.2.2 ((textOf ps ++ fin).length + 1) (by omega)
  unfold lex
  rw [e]
  cases n' with
  | zero => omega
  | succ n' =>
    rw [lexF_none (List.getElem?_eq_none (Nat.le_refl _))]
    simp
end
end K30
end
section
set_option Elab.async false
set_option linter.all false
set_option maxRecDepth 100000
set_option autoImplicit false
set_option maxHeartbeats 4000000
/-! K30zd: wrong values. -/
namespace K30
open PX
section
variable {n : Nat} {g : G} {t : Txt}
def Odd (v : D) : Prop := v = .non ∨ v = .int 5 ∨ v = .tup [.str (T "p")] ∨ ∃ u : Txt, v = .str u ∧ 8000 < u.length ∧ u.length ≤ LIM
theorem demand_odd {v : D} (h : Odd v) : call prog (n + 1) 2 [v] g = .exc ⟨3, [.int 0]⟩ g := by
  rw [call_of (P := prog) (fn := ⟨1, 1, true, false, b_demand_text⟩) rfl rfl]
  refine run_as (r := .exc ⟨3, [.int 0]⟩ [.val v] g) ?_ (by simp)
  rcases h with rfl | rfl | rfl | ⟨u, rfl, h1, h2⟩
  · simp [b_demand_text, start]
  · simp [b_demand_text, start]
  · simp [b_demand_text, start]
  · simp [b_demand_text, start, len_str h2, con1, h1]
theorem told0_odd {v two : D} (h : Odd v) : call prog (n + 3) 16 [.int 0, v, two] g = .ok (.tup [tx "at", .int 0]) g := by
  have d := demand_odd (n := n) (g := g) h
  have tc : call prog (n + 2) 7 [v] g = .exc ⟨3, [.int 0]⟩ g := by
    rw [call_of (P := prog) (fn := ⟨1, 1, true, false, b_tokens⟩) rfl rfl]
    refine run_as (r := .exc ⟨3, [.int 0]⟩ [.val v] g) ?_ (by simp)
    simp [b_tokens, start, d]
  rw [call_of (P := prog) (fn := ⟨3, 4, true, false, b_law_told⟩) rfl rfl]
  refine run_as (r := .ret false (.tup [tx "at", .int 0]) g) ?_ (by simp)
  simp [b_law_told, start, tc, sub32, sub33]
theorem told2_odd {v two : D} (h : Odd v) : call prog (n + 3) 16 [.int 2, v, two] g = .ok (.tup [tx "at", .int 0]) g := by
  have d := demand_odd (n := n) (g := g) h
  have tc : call prog (n + 2) 11 [v, two] g = .exc ⟨3, [.int 0]⟩ g := by
    rw [call_of (P := prog) (fn := ⟨2, 3, true, false, b_spot⟩) rfl rfl]
    refine run_as (r := .exc ⟨3, [.int 0]⟩ [.val v, .val two, .un] g) ?_ (by simp)
    simp [b_spot, start, d]
  rw [call_of (P := prog) (fn := ⟨3, 4, true, false, b_law_told⟩) rfl rfl]
  refine run_as (r := .ret false (.tup [tx "at", .int 0]) g) ?_ (by simp)
  simp [b_law_told, start, tc, sub32, sub33]
theorem told2_arg {w : D} (hz : t.length ≤ 8000) (h : w = .int (-1) ∨ w = .int ((t.length : Int) + 1) ∨ w = .non ∨ w = .bl true) : call prog (n + 4) 16 [.int 2, .str t, w] g = .ok (.tup [tx "argument", tx "at"]) g := by
  have hl := le_lim (show t.length ≤ 100000 by omega)
  have d := demand_ok (n := n + 1) (g := g) hz
  have rc : call prog (n + 2) 1 [w, .int 0, nat t.length] g = .ok (.bl false) g := by
    rcases h with rfl | rfl | rfl | rfl
    · rw [range_call]; simp
    · rw [range_call]
      have : ¬ ((t.length : Int) + 1 ≤ (t.length : Int)) := by omega
      simp [this]
    · exact range_no none_call
    · exact range_no bool_call
  have tc : call prog (n + 3) 11 [.str t, w] g = .exc ⟨2, [tx "at"]⟩ g := by
    rw [call_of (P := prog) (fn := ⟨2, 3, true, false, b_spot⟩) rfl rfl]
    refine run_as (r := .exc ⟨2, [tx "at"]⟩ [.val (.str t), .val w, .un] g) ?_ (by simp)
    simp [b_spot, start, d, len_str hl, rc]
  rw [call_of (P := prog) (fn := ⟨3, 4, true, false, b_law_told⟩) rfl rfl]
  refine run_as (r := .ret false (.tup [tx "argument", tx "at"]) g) ?_ (by simp)
  simp [b_law_told, start, tc, sub22, sub20]
def bads : List D := [.int 5, .tup [tx "num", .bl true], .tup [tx "num", .int 1000001], .tup [tx "word", tx "X"], .tup [tx "var", tx "x"], .tup [tx "sign", tx ";"], .tup [tx "word", tx ""], .tup [tx "end", .non]]
theorem istok_bad {d : D} (h : d ∈ bads) : call prog (n + 3) 10 [d] g = .ok (.bl false) g := by
  rw [call_of (P := prog) (fn := ⟨1, 4, true, false, b_is_token⟩) rfl rfl]
  refine run_as (r := .ret false (.bl false) g) ?_ (by simp)
  have eX : T "X" = [88] := rfl
  have ex : T "x" = [120] := rfl
  have es : T ";" = [59] := rfl
  have en : T "" = [] := rfl
  have l1 : ∀ c : Nat, prim1 .len (.str [c]) = some (.int 1) := fun c => len_str (t := [c]) (by show 1 ≤ LIM; decide)
  have l0 : prim1 .len (.str []) = some (.int 0) := len_str (t := []) (by show 0 ≤ LIM; decide)
  have i0 : ∀ c : Nat, idx (.str [c]) (.int 0) = some (.str [c]) := fun c => idx_str (t := [c]) (k := 0) (by show 1 ≤ LIM; decide)
  have rb := range_no (n := n) (g := g) (a := -1000000) (b := 1000000) (bool_call (b := true))
  have r1 := range_call (n := n) (g := g) (i := 1000001) (a := -1000000) (b := 1000000)
  have s1 : cop .inn (.str [59]) (.tup (signs.map .str)) = some false := by rw [sign_in (rfl : plain (.str [59]) = true)]; rfl
  simp only [bads, List.mem_cons, List.not_mem_nil, or_false] at h
  rcases h with rfl | rfl | rfl | rfl | rfl | rfl | rfl | rfl
  · simp [b_is_token, start]
  · simp [b_is_token, start, con0, rb]
  · simp [b_is_token, start, con0, r1]
  · simp [b_is_token, start, eX, l1, i0, con2, show isSm 88 = false from rfl]
  · simp [b_is_token, start, ex, l1, i0, con3, show isGr 120 = false from rfl]
  · simp [b_is_token, start, es, con5, s1]
  · simp [b_is_token, start, en, l0]
  · simp [b_is_token, start]
def Bad (v : D) : Prop := v = .non ∨ v = .lst [.tup [tx "num", .int 1]] ∨ ∃ d ∈ bads, v = .tup [d]
theorem told1_bad {v two : D} (h : Bad v) : call prog (n + 5) 16 [.int 1, v, two] g = .ok (.tup [tx "argument", tx "rows"]) g := by
  have tc : call prog (n + 4) 9 [v] g = .exc ⟨2, [tx "rows"]⟩ g := by
    rw [call_of (P := prog) (fn := ⟨1, 2, true, false, b_spaced⟩) rfl rfl]
    refine run_as (r := .exc ⟨2, [tx "rows"]⟩ [.val v, .un] g) ?_ (by simp)
    rcases h with rfl | rfl | ⟨d, hd, rfl⟩
    · simp [b_spaced, start]
    · simp [b_spaced, start]
    · have ib := istok_bad (n := n) (g := g) hd
      have al : prim1 .all (.lst [.bl false]) = some (.bl false) := rfl
      simp [b_spaced, start, ib, al]
  rw [call_of (P := prog) (fn := ⟨3, 4, true, false, b_law_told⟩) rfl rfl]
  refine run_as (r := .ret false (.tup [tx "argument", tx "rows"]) g) ?_ (by simp)
  simp [b_law_told, start, tc, sub22, sub20]
/-! what is told has a short repr -/
theorem entry_nice {k : Nat} {p : String × D × Nat} (hp : TokOk p) (hk : k < 100000) : Nice 1 500 (entry k p) := by
  have hv : Nice 0 130 p.2.1 := by
    rcases hp.val with ⟨i, e, h⟩ | ⟨x, e, h, ok⟩
    · rw [e]
      refine ⟨rfl, ?_, Nat.le_refl _, show 21 ≤ 130 by decide⟩
      show decide (i.natAbs < 2 ^ 64) = true
      exact decide_eq_true (Nat.lt_of_le_of_lt h (by decide))
    · rw [e]
      exact ⟨ok, rfl, Nat.le_refl _, show 10 * x.length + 2 ≤ 130 by omega⟩
  have hkd : Nice 0 130 (tx p.1) := by
    refine nice_mono nice_tx (Nat.le_refl _) ?_
    rcases hp.kind with e | e | e | e <;> rw [e] <;> decide
  have hn : Nice 0 130 (nat k) := nice_mono (nice_nat (Nat.lt_of_lt_of_le hk (by decide))) (Nat.le_refl _) (by decide)
  refine nice_mono (nice_tup (k := 0) (b := 130) (ds := [tx p.1, p.2.1, nat k]) ?_) (Nat.le_refl _) (show 3 * (130 + 2) + 3 ≤ 500 by decide)
  intro d hd
  simp only [List.mem_cons, List.not_mem_nil, or_false] at hd
  rcases hd with rfl | rfl | rfl
  · exact hkd
  · exact hv
  · exact hn
theorem told_repr (hz : t.length ≤ 400) (ht : TxOk t) : isSeq (toldT t) = true ∧ reprOk (toldT t) = true := by
  unfold toldT
  cases r : lex t with
  | ok f =>
    refine ⟨rfl, ?_⟩
    obtain ⟨h1, h2⟩ := lex_rows ht (by omega) _ _ _ _ (by intro d hd; cases hd) (by simp) r
    have h2 : f.length ≤ 400 := by simp at h2; omega
    have ni : Nice 2 (f.length * (500 + 2) + 3) (.tup f) := nice_tup fun d hd => by
      obtain ⟨k, p, rfl, hp, hk⟩ := h1 d hd
      exact entry_nice hp hk
    refine nice_reprOk ni (by decide) (Nat.le_trans (show _ ≤ 400 * 502 + 3 from Nat.add_le_add_right (Nat.mul_le_mul_right _ h2) 3) (by decide))
  | error j =>
    refine ⟨rfl, ?_⟩
    have hj : j < 100000 := by
      have : ∀ (m k : Nat) (f : List D), k ≤ t.length + m → lexF t m k f = .error j → t.length - k < m → j ≤ t.length := by
        intro m
        induction m with
        | zero => intro k f _ _ h; omega
        | succ m ih =>
          intro k f hk he hm
          cases q : t[k]? with
          | none => rw [lexF_none q] at he; cases he
          | some c =>
            have kl : k < t.length := (List.getElem?_eq_some_iff.mp q).1
            rw [lexF_some q] at he
            split at he
            · exact ih _ _ (by omega) he (by omega)
            · split at he
              · rename_i h2
                subst h2
                have := run_gt q
                have := run_le (P := nl) (t := t) (k := k) (by omega)
                exact ih _ _ (by omega) he (by omega)
              · split at he
                · cases he; omega
                · rename_i p hp
                  have := (tokS_ok (txok_drop ht) hp).pos
                  by_cases hb : k + p.2.2 ≤ t.length
                  · exact ih _ _ (by omega) he (by omega)
                  · exfalso
                    cases m with
                    | zero => omega
                    | succ m =>
                      rw [lexF_none (List.getElem?_eq_none (by omega))] at he
                      cases he
      have := this (t.length + 1) 0 [] (by omega) r (by omega)
      omega
    have ni : Nice 1 (2 * (30 + 2) + 3) (.tup [tx "at", nat j]) := nice_tup fun d hd => by
      simp only [List.mem_cons, List.not_mem_nil, or_false] at hd
      rcases hd with rfl | rfl
      · exact nice_mono nice_tx (Nat.le_refl _) (by decide)
      · exact nice_mono (nice_nat (Nat.lt_of_lt_of_le hj (by decide))) (Nat.le_refl _) (by decide)
    exact nice_reprOk ni (by decide) (by decide)
theorem repr_same {d : D} (h : isSeq d = true ∧ reprOk d = true) : prim1 .repr d = some (.str (reprT d)) ∧ cop .ne (.str (reprT d)) (.str (reprT d)) = some false := by
  have h1 : plain d = true := by
    have := h.2
    simp only [reprOk, Bool.and_eq_true, decide_eq_true_eq] at this
    exact this.1.1.1
  refine ⟨by simp [prim1, h], ?_⟩
  rw [ne_txt (reprT_ok h1) (reprT_ok h1)]
  simp
end
end K30
end
section
set_option Elab.async false
set_option linter.all false
set_option maxRecDepth 100000
set_option autoImplicit false
set_option maxHeartbeats 4000000
/-! K30ze: a turn of the law. -/
namespace K30
open PX
def bS : S := (.seq (.set 8 .val (.call 21 (.cons (.var 1) (.cons (.var 2) .nil))))
  (.seq (.set 5 .val (.bin .add (.var 5) (.call 15 (.cons (.lst (.cons (.lit (.str (T " "))) (.cons (.lit (.str (T "  "))) (.cons (.lit (.str [10])) (.cons (.lit (.str [32, 35, 32, 115, 111, 58, 32, 88, 33, 32, 10])) (.cons (.lit (.str [32, 10, 10])) .nil)))))) (.cons (.var 1) (.cons (.var 2) .nil))))))
  (.seq (.setP [(4, .val), (6, .val)] (.cons (.bin .add (.var 4) (.tup (.cons (.var 8) .nil))) (.cons (.bin .add (.var 6) (.tup (.cons (.bin .add (.var 8) (.tup (.cons (.p1 .len (.var 5)) .nil))) .nil))) .nil)))
  (.set 5 .val (.bin .add (.var 5) (.p1 .str (.idx (.var 8) (.lit (.int 1)))))))))
def bentE : E := (.lstR (.bin .add (.bin .add (.slc (.var 5) (.lit .non) (.var 7)) (.var 10)) (.slc (.var 5) (.var 7) (.lit .non))) (.bin .add (.slc (.var 5) (.lit .non) (.var 7)) (.slc (.var 5) (.bin .add (.var 7) (.lit (.int 1))) (.lit .non))) (.cons (.strike (.var 5) 32) (.cons (.bin .add (.slc (.var 5) (.lit .non) (.var 7)) (.var 10)) .nil)))
def moreE : E := (.lst (.cons (.lit (.str (T "-"))) (.cons (.lit (.str (T "0"))) (.cons (.lit (.str (T "_"))) (.cons (.lit (.str (T "A"))) (.cons (.lit (.str (T "b"))) (.cons (.lit (.str (T ":"))) (.cons (.lit (.str (T "!"))) (.cons (.lit (.str (T "<"))) (.cons (.lit (.str (T "="))) (.cons (.lit (.str (T "-1"))) (.cons (.lit (.str (T "'"))) (.cons (.lit (.str [9])) (.cons (.lit (.str (T "#"))) (.cons (.lit (.str (T "00"))) (.cons (.lit (.str (T "1000001"))) (.cons (.lit (.str (T "abcdefghijklm"))) .nil)))))))))))))))))
def iteE : E := (.ite (.isi .int (.var 12)) (.tup (.cons (.lit (.str (T "at"))) (.cons (.var 12) .nil))) (.var 12))
def bentS : S := (.seq (.set 7 .val (.call 14 (.cons (.var 1) (.cons (.var 2) (.cons (.bin .add (.p1 .len (.var 5)) (.lit (.int 1))) .nil)))))
  (.seq (.set 10 .val (.call 15 (.cons moreE (.cons (.var 1) (.cons (.var 2) .nil)))))
  (.seq (.set 11 .val (.call 15 (.cons bentE (.cons (.var 1) (.cons (.var 2) .nil)))))
  (.seq (.set 12 .val (.call 20 (.cons (.var 11) .nil)))
  (.if_ (.cmp .ne (.p1 .repr (.call 16 (.cons (.lit (.int 0)) (.cons (.var 11) (.cons (.lit .non) .nil))))) (.p1 .repr iteE)) (.ret (.lit (.bl false))) .nop)))))
abbrev S17 (sc DS : D) (y3 y4 y5 y6 y7 y8 y9 y10 y11 y12 y13 y14 y15 y16 : SV) : Sl := [.val sc, .val DS, .val (.ref 0), y3, y4, y5, y6, y7, y8, y9, y10, y11, y12, y13, y14, y15, y16]
theorem text_len : ∀ ps : List Pc, Pcs ps → (textOf ps).length ≤ 23 * ps.length
  | [], _ => Nat.le_refl _
  | q :: ps, h => by
    have ih := text_len ps fun x hx => h x (List.mem_cons_of_mem _ hx)
    have hq := h q List.mem_cons_self
    have h1 : ∀ s ∈ seps, s.length ≤ 11 := by decide
    have h1 := h1 _ hq.1
    have h2 := (tk_len hq.2).2
    simp only [textOf, List.length_append, List.length_cons]
    omega
theorem text_ok : ∀ ps : List Pc, Pcs ps → TxOk (textOf ps)
  | [], _ => T_ok ""
  | q :: ps, h => by
    have ih := text_ok ps fun x hx => h x (List.mem_cons_of_mem _ hx)
    have hq := h q List.mem_cons_self
    have h1 : ∀ s ∈ seps, plain (.str s) = true := by decide
    have h2 : ∀ s ∈ toks.map (fun q => q.2.2), plain (.str s) = true := by decide
    exact txok_app (h1 _ hq.1) (txok_app (h2 _ (List.mem_map.mpr ⟨q.2, hq.2, rfl⟩)) ih)
theorem text_snoc (q : Pc) : ∀ ps : List Pc, textOf (ps ++ [q]) = textOf ps ++ q.1 ++ q.2.2.2
  | [] => by simp [textOf]
  | x :: ps => by
    show x.1 ++ (x.2.2.2 ++ textOf (ps ++ [q])) = _
    rw [text_snoc q ps]
    simp [textOf]
theorem due_snoc (q : Pc) : ∀ (ps : List Pc) (k : Nat), dueOf k (ps ++ [q]) = dueOf k ps ++ [.tup [tx q.2.1, q.2.2.1, nat (k + (textOf ps ++ q.1).length)]]
  | [], k => by simp [dueOf, textOf, entry]
  | x :: ps, k => by
    show entry _ _ :: dueOf _ (ps ++ [q]) = _
    rw [due_snoc q ps]
    simp [dueOf, textOf]
    omega
theorem due_len : ∀ (ps : List Pc) (k : Nat), (dueOf k ps).length = ps.length
  | [], _ => rfl
  | x :: ps, k => by simp [dueOf, due_len ps]
theorem add_str {a b : Txt} (h : a.length + b.length ≤ 100000) : bop .add (.str a) (.str b) = some (.str (a ++ b)) := by
  show (if a.length + b.length ≤ LIM then some (D.str (a ++ b)) else none) = _
  rw [if_pos (le_lim h)]
section
variable {n : Nat} {ds : List Int} {sc : D} {p : Int} {y3 y4 y5 y6 y7 y8 y9 y10 y11 y12 y13 y14 y15 y16 : SV}
theorem build_step (hp : 0 ≤ p) {ps : List Pc} (h : Pcs ps) (hl : ps.length ≤ 8) : ∃ (q : Pc) (p' : Int) (z8 : SV), q.1 ∈ seps ∧ q.2 ∈ toks ∧ 0 ≤ p' ∧
    exec prog.cons prog.sub prog.W (call prog (n + 6)) bS (S17 sc (.lst (ds.map .int)) y3 (.val (.tup (ps.map fun q => q.2.d))) (.val (.str (textOf ps))) (.val (.tup (dueOf 0 ps))) y7 y8 y9 y10 y11 y12 y13 y14 y15 y16) (Hat p []) =
    .nx (S17 sc (.lst (ds.map .int)) y3 (.val (.tup ((ps ++ [q]).map fun q => q.2.d))) (.val (.str (textOf (ps ++ [q])))) (.val (.tup (dueOf 0 (ps ++ [q])))) y7 z8 y9 y10 y11 y12 y13 y14 y15 y16) (Hat p' []) := by
  obtain ⟨q, p1, hq, hp1, td⟩ := token_draw (n := n + 2) (ds := ds) (rest := []) hp
  have td : call prog (n + 6) 21 [.lst (ds.map .int), .ref 0] (Hat p []) = .ok q.d (Hat p1 []) := td
  obtain ⟨d, hd, on⟩ := one (n := n + 3) (ds := ds) (rest := []) (rows := seps.map .str) (p := p1) (by simp [seps]) hp1
  obtain ⟨sep, hs, rfl⟩ := List.mem_map.mp hd
  have on : call prog (n + 6) 15 [.lst [.str (T " "), .str (T "  "), .str [10], .str [32, 35, 32, 115, 111, 58, 32, 88, 33, 32, 10], .str [32, 10, 10]], .lst (ds.map .int), .ref 0] (Hat p1 []) = .ok (.str sep) (Hat (p1 + 1) []) := on
  have tl := text_len ps h
  have sl : sep.length ≤ 11 := by
    have : ∀ s ∈ seps, s.length ≤ 11 := by decide
    exact this _ hs
  have ql := (tk_len hq).2
  have A1 := add_str (a := textOf ps) (b := sep) (by omega)
  have A2 : prim1 .len (.str (textOf ps ++ sep)) = some (nat (textOf ps ++ sep).length) := len_str (le_lim (by rw [List.length_append]; omega))
  have A3 : bop .add (.tup (ps.map fun q => q.2.d)) (.tup [q.d]) = some (.tup ((ps.map fun q => q.2.d) ++ [q.d])) := add_tup (le_lim (by simp; omega))
  have A4 : ∀ x : D, bop .add q.d (.tup [x]) = some (.tup [tx q.1, q.2.1, x]) := fun x => add_tup (xs := [tx q.1, q.2.1]) (ys := [x]) (le_lim (by simp))
  have A5 : ∀ x : D, bop .add (.tup (dueOf 0 ps)) (.tup [x]) = some (.tup (dueOf 0 ps ++ [x])) := fun x => add_tup (le_lim (by rw [due_len]; simp; omega))
  have A6 := add_str (a := textOf ps ++ sep) (b := q.2.2) (by rw [List.length_append]; omega)
  have A7 : idx q.d (.int 1) = some q.2.1 := rfl
  have A8 : ∀ g : G, deref g q.d = some q.d := fun g => rfl
  have A9 : ∀ g : G, deref g q.2.1 = some q.2.1 := fun g => by
    rcases toks_cases hq with h | h | h
    · obtain ⟨_, i, e, _⟩ := num_of h
      rw [e]; rfl
    · obtain ⟨_, e, _⟩ := sgn_of h
      rw [e]; rfl
    · obtain ⟨c, w⟩ := word_of h
      rw [w.val]; rfl
  have A10 := tk_text hq
  refine ⟨(sep, q), p1 + 1, .val q.d, hs, hq, by omega, ?_⟩
  rw [text_snoc, due_snoc, Nat.zero_add, List.map_append]
  simp [bS, td, on, A1, A2, A3, A4, A5, A6, A7, A8, A9, A10, -List.length_append, -List.append_assoc]
end
end K30
end
section
set_option Elab.async false
set_option linter.all false
set_option maxRecDepth 100000
set_option autoImplicit false
set_option maxHeartbeats 4000000
/-! K30zf: bent texts; a turn. -/
namespace K30
open PX
def mores : List Txt := [T "-", T "0", T "_", T "A", T "b", T ":", T "!", T "<", T "=", T "-1", T "'", [9], T "#", T "00", T "1000001", T "abcdefghijklm"]
section
variable {n : Nat} {ds : List Int} {sc : D} {p : Int} {y3 y4 y5 y6 y7 y8 y9 y10 y11 y12 y13 y14 y15 y16 : SV} {t : Txt} {g : G}
theorem bent_ev {k : Nat} {m : Txt} (hz : t.length ≤ 300) (ht : TxOk t) (hm : m.length ≤ 13) {F : Nat → List D → G → R D} {y11 y12 : SV} : ev prog.cons F bentE .val (S17 sc (.lst (ds.map .int)) y3 y4 (.val (.str t)) y6 (.val (nat k)) y8 y9 (.val (.str m)) y11 y12 y13 y14 y15 y16) g =
    .ok (.lst ([t.take k ++ m ++ t.drop k, t.take k ++ t.drop (k + 1), t.filter (fun c => c != 32), t.take k ++ m].map .str)) g := by
  have hl := le_lim (show t.length ≤ 100000 by omega)
  have s1 : slc (.str t) none (some (k : Int)) = some (.str (t.take k)) := by rw [slc_str hl, cut_to]
  have s2 : slc (.str t) (some (k : Int)) none = some (.str (t.drop k)) := by rw [slc_str hl, cut_from]
  have s3 : slc (.str t) (some ((k : Int) + 1)) none = some (.str (t.drop (k + 1))) := by
    rw [slc_str hl, ← cut_from (a := k + 1)]
    rfl
  have l1 : (t.take k).length ≤ 300 := by rw [List.length_take]; omega
  have l2 : (t.drop k).length ≤ 300 := by rw [List.length_drop]; omega
  have l3 : (t.drop (k + 1)).length ≤ 300 := by rw [List.length_drop]; omega
  have a1 := add_str (a := t.take k) (b := m) (by omega)
  have a2 := add_str (a := t.take k ++ m) (b := t.drop k) (by rw [List.length_append]; omega)
  have a3 := add_str (a := t.take k) (b := t.drop (k + 1)) (by omega)
  have st : strikeD 32 (.str t) = some (.str (t.filter (fun c => c != 32))) := by
    show (if t.length ≤ LIM then some (D.str (t.filter (fun c => c != 32))) else none) = _
    rw [if_pos hl]
  simp [bentE, s1, s2, s3, a1, a2, a3, st, -List.append_assoc]
theorem bent_step (hp : 0 ≤ p) (hz : t.length ≤ 300) (ht : TxOk t) : ∃ (p' : Int) (z7 z10 z11 z12 : SV), 0 ≤ p' ∧
    exec prog.cons prog.sub prog.W (call prog (n + 6)) bentS (S17 sc (.lst (ds.map .int)) y3 y4 (.val (.str t)) y6 y7 y8 y9 y10 y11 y12 y13 y14 y15 y16) (Hat p []) =
    .nx (S17 sc (.lst (ds.map .int)) y3 y4 (.val (.str t)) y6 z7 y8 y9 z10 z11 z12 y13 y14 y15 y16) (Hat p' []) := by
  have hl := le_lim (show t.length ≤ 100000 by omega)
  obtain ⟨v, e1, v0, v1⟩ := take (n := n + 4) (ds := ds) (rest := []) ((t.length : Int) + 1) (by omega) hp
  have e1 : call prog (n + 6) 14 [.lst (ds.map .int), .ref 0, .int ((t.length : Int) + 1)] (Hat p []) = .ok (.int v) (Hat (p + 1) []) := e1
  obtain ⟨k, rfl⟩ := Int.eq_ofNat_of_zero_le v0
  obtain ⟨d, hd, e2⟩ := one (n := n + 3) (ds := ds) (rest := []) (rows := mores.map .str) (p := p + 1) (by simp [mores]) (by omega)
  obtain ⟨m, hm, rfl⟩ := List.mem_map.mp hd
  have e2 : call prog (n + 6) 15 [.lst (mores.map .str), .lst (ds.map .int), .ref 0] (Hat (p + 1) []) = .ok (.str m) (Hat (p + 1 + 1) []) := e2
  have ml : m.length ≤ 13 := by
    have : ∀ s ∈ mores, s.length ≤ 13 := by decide
    exact this _ hm
  have mo : TxOk m := by
    have : ∀ s ∈ mores, plain (.str s) = true := by decide
    exact this _ hm
  obtain ⟨B, hB⟩ : ∃ B : List Txt, B = [t.take k ++ m ++ t.drop k, t.take k ++ t.drop (k + 1), t.filter (fun c => c != 32), t.take k ++ m] := ⟨_, rfl⟩
  obtain ⟨d, hd, e3⟩ := one (n := n + 3) (ds := ds) (rest := []) (rows := B.map .str) (p := p + 1 + 1) (by rw [hB]; simp) (by omega)
  obtain ⟨u, hu, rfl⟩ := List.mem_map.mp hd
  have l1 : (t.take k).length + (t.drop k).length = t.length := by rw [List.length_take, List.length_drop]; omega
  have l3 : (t.drop (k + 1)).length ≤ (t.drop k).length := by rw [List.length_drop, List.length_drop]; omega
  have l4 := List.length_filter_le (fun c => c != 32) t
  have uz : u.length ≤ 400 ∧ TxOk u := by
    rw [hB] at hu
    simp only [List.mem_cons, List.not_mem_nil, or_false] at hu
    rcases hu with rfl | rfl | rfl | rfl
    · exact ⟨by simp only [List.length_append]; omega, txok_app (txok_app (txok_take ht) mo) (txok_drop ht)⟩
    · exact ⟨by simp only [List.length_append]; omega, txok_app (txok_take ht) (txok_drop ht)⟩
    · exact ⟨by omega, txok_sub ht fun c hc => (List.mem_filter.mp hc).1⟩
    · exact ⟨by simp only [List.length_append]; omega, txok_app (txok_take ht) mo⟩
  have e3 : call prog (n + 6) 15 [.lst (B.map .str), .lst (ds.map .int), .ref 0] (Hat (p + 1 + 1) []) = .ok (.str u) (Hat (p + 1 + 1 + 1) []) := e3
  have rd := read_call (n := n + 2) (g := Hat (p + 1 + 1 + 1) []) uz.1 uz.2
  have t0 := told0_call (n := n) (g := Hat (p + 1 + 1 + 1) []) (t := u) (two := .non) (by omega) uz.2
  have rp := repr_same (told_repr uz.1 uz.2)
  have dt : ∀ g : G, deref g (toldT u) = some (toldT u) := fun g => deref_seq (told_repr uz.1 uz.2).1
  have me : ∀ (g : G) (s : Sl), ev prog.cons (call prog (n + 6)) moreE .val s g = .ok (.lst (mores.map .str)) g := fun g s => by simp [moreE, mores]
  have be : ev prog.cons (call prog (n + 6)) bentE .val (S17 sc (.lst (ds.map .int)) y3 y4 (.val (.str t)) y6 (.val (nat k)) y8 y9 (.val (.str m)) y11 y12 y13 y14 y15 y16) (Hat (p + 1 + 1) []) = .ok (.lst (B.map .str)) (Hat (p + 1 + 1) []) := by
    rw [hB]; exact bent_ev hz ht ml
  obtain ⟨f, ef, hf⟩ : ∃ f : D, call prog (n + 6) 20 [.str u] (Hat (p + 1 + 1 + 1) []) = .ok f (Hat (p + 1 + 1 + 1) []) ∧ ∀ s : Sl, s[12]? = some (.val f) → ev prog.cons (call prog (n + 6)) iteE .val s (Hat (p + 1 + 1 + 1) []) = .ok (toldT u) (Hat (p + 1 + 1 + 1) []) := by
    refine ⟨_, rd, fun s hs => ?_⟩
    unfold toldT
    cases r : lex u with
    | ok f =>
      rw [r] at hs
      simp [iteE, hs]
    | error j =>
      rw [r] at hs
      simp [iteE, hs]
  refine ⟨p + 1 + 1 + 1, .val (nat k), .val (.str m), .val (.str u), .val f, by omega, ?_⟩
  have x1 : exec prog.cons prog.sub prog.W (call prog (n + 6)) (.set 7 .val (.call 14 (.cons (.var 1) (.cons (.var 2) (.cons (.bin .add (.p1 .len (.var 5)) (.lit (.int 1))) .nil))))) (S17 sc (.lst (ds.map .int)) y3 y4 (.val (.str t)) y6 y7 y8 y9 y10 y11 y12 y13 y14 y15 y16) (Hat p []) =
      .nx (S17 sc (.lst (ds.map .int)) y3 y4 (.val (.str t)) y6 (.val (nat k)) y8 y9 y10 y11 y12 y13 y14 y15 y16) (Hat (p + 1) []) := by
    simp [len_str hl, e1]
  have x2 : exec prog.cons prog.sub prog.W (call prog (n + 6)) (.set 10 .val (.call 15 (.cons moreE (.cons (.var 1) (.cons (.var 2) .nil))))) (S17 sc (.lst (ds.map .int)) y3 y4 (.val (.str t)) y6 (.val (nat k)) y8 y9 y10 y11 y12 y13 y14 y15 y16) (Hat (p + 1) []) =
      .nx (S17 sc (.lst (ds.map .int)) y3 y4 (.val (.str t)) y6 (.val (nat k)) y8 y9 (.val (.str m)) y11 y12 y13 y14 y15 y16) (Hat (p + 1 + 1) []) := by
    simp [me, e2]
  have x3 : exec prog.cons prog.sub prog.W (call prog (n + 6)) (.set 11 .val (.call 15 (.cons bentE (.cons (.var 1) (.cons (.var 2) .nil))))) (S17 sc (.lst (ds.map .int)) y3 y4 (.val (.str t)) y6 (.val (nat k)) y8 y9 (.val (.str m)) y11 y12 y13 y14 y15 y16) (Hat (p + 1 + 1) []) =
      .nx (S17 sc (.lst (ds.map .int)) y3 y4 (.val (.str t)) y6 (.val (nat k)) y8 y9 (.val (.str m)) (.val (.str u)) y12 y13 y14 y15 y16) (Hat (p + 1 + 1 + 1) []) := by
    simp [be, e3]
  have x4 : exec prog.cons prog.sub prog.W (call prog (n + 6)) (.set 12 .val (.call 20 (.cons (.var 11) .nil))) (S17 sc (.lst (ds.map .int)) y3 y4 (.val (.str t)) y6 (.val (nat k)) y8 y9 (.val (.str m)) (.val (.str u)) y12 y13 y14 y15 y16) (Hat (p + 1 + 1 + 1) []) =
      .nx (S17 sc (.lst (ds.map .int)) y3 y4 (.val (.str t)) y6 (.val (nat k)) y8 y9 (.val (.str m)) (.val (.str u)) (.val f) y13 y14 y15 y16) (Hat (p + 1 + 1 + 1) []) := by
    simp [ef]
  have x5 : exec prog.cons prog.sub prog.W (call prog (n + 6)) (.if_ (.cmp .ne (.p1 .repr (.call 16 (.cons (.lit (.int 0)) (.cons (.var 11) (.cons (.lit .non) .nil))))) (.p1 .repr iteE)) (.ret (.lit (.bl false))) .nop) (S17 sc (.lst (ds.map .int)) y3 y4 (.val (.str t)) y6 (.val (nat k)) y8 y9 (.val (.str m)) (.val (.str u)) (.val f) y13 y14 y15 y16) (Hat (p + 1 + 1 + 1) []) =
      .nx (S17 sc (.lst (ds.map .int)) y3 y4 (.val (.str t)) y6 (.val (nat k)) y8 y9 (.val (.str m)) (.val (.str u)) (.val f) y13 y14 y15 y16) (Hat (p + 1 + 1 + 1) []) := by
    simp [t0, hf, rp.1, rp.2, dt]
  rw [bentS, zs_seq, x1, fb_nx, zs_seq, x2, fb_nx, zs_seq, x3, fb_nx, zs_seq, x4, fb_nx, x5]
end
end K30
end
section
set_option Elab.async false
set_option linter.all false
set_option maxRecDepth 100000
set_option autoImplicit false
set_option maxHeartbeats 4000000
/-! K30zg: the parts of a turn. -/
namespace K30
open PX
def lcJ : E := (.lc (.p1 .str (.idx (.var 8) (.lit (.int 1)))) (.one 8) (.var 4) .nil)
def finE : E := (.lst (.cons (.lit (.str (T ""))) (.cons (.lit (.str (T " "))) (.cons (.lit (.str (T "#"))) (.cons (.lit (.str [10])) (.cons (.lit (.str (T " # end"))) .nil))))))
def chkS : S := (.if_ (.or_ (.cmp .ne (.p1 .repr (.call 16 (.cons (.lit (.int 0)) (.cons (.var 5) (.cons (.lit .non) .nil))))) (.p1 .repr (.var 6))) (.cmp .ne (.call 16 (.cons (.lit (.int 1)) (.cons (.var 4) (.cons (.lit .non) .nil)))) (.p2 .join (.lit (.str (T " "))) lcJ))) (.ret (.lit (.bl false))) .nop)
def spotS : S := (.seq (.set 7 .val (.call 14 (.cons (.var 1) (.cons (.var 2) (.cons (.bin .add (.p1 .len (.var 5)) (.lit (.int 1))) .nil)))))
  (.seq (.set 13 .val (.p2 .split (.slc (.var 5) (.lit .non) (.var 7)) (.lit (.str [10]))))
  (.if_ (.cmp .ne (.call 16 (.cons (.lit (.int 2)) (.cons (.var 5) (.cons (.var 7) .nil)))) (.tup (.cons (.p1 .len (.var 13)) (.cons (.bin .add (.p1 .len (.idx (.var 13) (.bin .sub (.p1 .len (.var 13)) (.lit (.int 1))))) (.lit (.int 1))) .nil)))) (.ret (.lit (.bl false))) .nop)))
def turnS : S := (.seq (.setP [(4, .val), (5, .val), (6, .val)] (.cons (.tup .nil) (.cons (.lit (.str (T ""))) (.cons (.tup .nil) .nil))))
  (.seq (.for_ (.one 7) (.p1 .range (.call 14 (.cons (.var 1) (.cons (.var 2) (.cons (.lit (.int 9)) .nil))))) bS)
  (.seq (.set 5 .val (.bin .add (.var 5) (.call 15 (.cons finE (.cons (.var 1) (.cons (.var 2) .nil))))))
  (.seq chkS (.seq (.for_ (.one 9) (.p1 .range (.lit (.int 5))) bentS) spotS)))))
section
variable {n : Nat} {ds : List Int} {sc : D} {p : Int} {y3 y4 y5 y6 y7 y8 y9 y10 y11 y12 y13 y14 y15 y16 : SV} {t : Txt} {g : G}
theorem build_loop (hp : 0 ≤ p) (v : Nat) (hv : v ≤ 9) : ∃ (ps : List Pc) (p' : Int) (z7 z8 : SV), Pcs ps ∧ ps.length = v ∧ 0 ≤ p' ∧
    forL (loopF prog.cons prog.sub prog.W (call prog (n + 6)) (.one 7) bS) ((List.range' 0 v).map nat) (S17 sc (.lst (ds.map .int)) y3 (.val (.tup [])) (.val (.str [])) (.val (.tup [])) y7 y8 y9 y10 y11 y12 y13 y14 y15 y16) (Hat p []) =
    .nx (S17 sc (.lst (ds.map .int)) y3 (.val (.tup (ps.map fun q => q.2.d))) (.val (.str (textOf ps))) (.val (.tup (dueOf 0 ps))) z7 z8 y9 y10 y11 y12 y13 y14 y15 y16) (Hat p' []) := by
  obtain ⟨s', g', e, ps, p', z7, z8, rfl, rfl, hps, hl, hp'⟩ := forL_inv (f := loopF prog.cons prog.sub prog.W (call prog (n + 6)) (.one 7) bS)
    (I := fun i s g => ∃ (ps : List Pc) (p' : Int) (z7 z8 : SV), s = S17 sc (.lst (ds.map .int)) y3 (.val (.tup (ps.map fun q => q.2.d))) (.val (.str (textOf ps))) (.val (.tup (dueOf 0 ps))) z7 z8 y9 y10 y11 y12 y13 y14 y15 y16 ∧ g = Hat p' [] ∧ Pcs ps ∧ ps.length = i ∧ 0 ≤ p')
    ((List.range' 0 v).map nat) 0 (s := S17 sc (.lst (ds.map .int)) y3 (.val (.tup [])) (.val (.str [])) (.val (.tup [])) y7 y8 y9 y10 y11 y12 y13 y14 y15 y16) (g := Hat p []) (by
      rintro i x s g hx ⟨ps, p1, w7, w8, rfl, rfl, hps, hl, hp1⟩
      have hi : i < v := by
        have := (List.getElem?_eq_some_iff.mp hx).1
        simpa using this
      obtain ⟨q, p2, z8, hs, hq, hp2, e⟩ := build_step (n := n) (ds := ds) (sc := sc) (y3 := y3) (y7 := .val x) (y8 := w8) (y9 := y9) (y10 := y10) (y11 := y11) (y12 := y12) (y13 := y13) (y14 := y14) (y15 := y15) (y16 := y16) hp1 hps (by omega)
      refine ⟨_, _, e, ps ++ [q], p2, .val x, z8, rfl, rfl, ?_, by simp; omega, hp2⟩
      intro r hr
      rcases List.mem_append.mp hr with m | m
      · exact hps r m
      · rw [List.mem_singleton.mp m]; exact ⟨hs, hq⟩) ⟨[], p, y7, y8, rfl, rfl, (fun q hq => by cases hq), rfl, hp⟩
  exact ⟨ps, p', z7, z8, hps, by simpa using hl, hp', e⟩
theorem bent_loop (hp : 0 ≤ p) (hz : t.length ≤ 300) (ht : TxOk t) (xs : List D) : ∃ (p' : Int) (z7 z9 z10 z11 z12 : SV), 0 ≤ p' ∧
    forL (loopF prog.cons prog.sub prog.W (call prog (n + 6)) (.one 9) bentS) xs (S17 sc (.lst (ds.map .int)) y3 y4 (.val (.str t)) y6 y7 y8 y9 y10 y11 y12 y13 y14 y15 y16) (Hat p []) =
    .nx (S17 sc (.lst (ds.map .int)) y3 y4 (.val (.str t)) y6 z7 y8 z9 z10 z11 z12 y13 y14 y15 y16) (Hat p' []) := by
  obtain ⟨s', g', e, p', z7, z9, z10, z11, z12, rfl, rfl, hp'⟩ := forL_inv (f := loopF prog.cons prog.sub prog.W (call prog (n + 6)) (.one 9) bentS)
    (I := fun _ s g => ∃ (p' : Int) (z7 z9 z10 z11 z12 : SV), s = S17 sc (.lst (ds.map .int)) y3 y4 (.val (.str t)) y6 z7 y8 z9 z10 z11 z12 y13 y14 y15 y16 ∧ g = Hat p' [] ∧ 0 ≤ p')
    xs 0 (s := S17 sc (.lst (ds.map .int)) y3 y4 (.val (.str t)) y6 y7 y8 y9 y10 y11 y12 y13 y14 y15 y16) (g := Hat p []) (by
      rintro i x s g hx ⟨p1, w7, w9, w10, w11, w12, rfl, rfl, hp1⟩
      obtain ⟨p2, z7, z10, z11, z12, hp2, e⟩ := bent_step (n := n) (ds := ds) (sc := sc) (y3 := y3) (y4 := y4) (y6 := y6) (y7 := w7) (y8 := y8) (y9 := .val x) (y10 := w10) (y11 := w11) (y12 := w12) (y13 := y13) (y14 := y14) (y15 := y15) (y16 := y16) hp1 hz ht
      exact ⟨_, _, e, p2, z7, .val x, z10, z11, z12, rfl, rfl, hp2⟩) ⟨p, y7, y9, y10, y11, y12, rfl, rfl, hp⟩
  exact ⟨p', z7, z9, z10, z11, z12, hp', e⟩
theorem row_ok : ∀ xs : List Txt, (∀ x ∈ xs, TxOk x) → TxOk (joinT (T " ") xs)
  | [], _ => T_ok ""
  | [x], h => h x List.mem_cons_self
  | x :: y :: r, h => txok_app (h x List.mem_cons_self) (txok_app (T_ok " ") (row_ok (y :: r) fun z hz => h z (List.mem_cons_of_mem _ hz)))
theorem chk_ev {ps : List Pc} {fin : Txt} (h : Pcs ps) (hl : ps.length ≤ 9) (hf : fin ∈ fins) :
    exec prog.cons prog.sub prog.W (call prog (n + 6)) chkS (S17 sc (.lst (ds.map .int)) y3 (.val (.tup (ps.map fun q => q.2.d))) (.val (.str (textOf ps ++ fin))) (.val (.tup (dueOf 0 ps))) y7 y8 y9 y10 y11 y12 y13 y14 y15 y16) g =
    .nx (S17 sc (.lst (ds.map .int)) y3 (.val (.tup (ps.map fun q => q.2.d))) (.val (.str (textOf ps ++ fin))) (.val (.tup (dueOf 0 ps))) y7 y8 y9 y10 y11 y12 y13 y14 y15 y16) g := by
  have fl : ∀ s ∈ fins, s.length ≤ 6 ∧ plain (.str s) = true := by decide
  have tl := text_len ps h
  have hz : (textOf ps ++ fin).length ≤ 400 := by
    rw [List.length_append]
    have := (fl _ hf).1
    omega
  have ht : TxOk (textOf ps ++ fin) := txok_app (text_ok ps h) (fl _ hf).2
  have t0 := told0_call (n := n) (g := g) (t := textOf ps ++ fin) (two := .non) (by omega) ht
  have td : toldT (textOf ps ++ fin) = .tup (dueOf 0 ps) := by unfold toldT; rw [lex_text h hf]
  have rp := repr_same (told_repr hz ht)
  rw [td] at t0 rp
  have hq : ∀ q ∈ ps.map (fun q => q.2), q ∈ toks := fun q hq => by
    obtain ⟨r, hr, rfl⟩ := List.mem_map.mp hq
    exact (h r hr).2
  have ql : (ps.map fun q => q.2).length ≤ 100 := by rw [List.length_map]; omega
  have t1 := told1_call (n := n + 1) (g := g) (two := .non) hq ql
  rw [List.map_map] at t1
  have t1 : call prog (n + 6) 16 [.int 1, .tup (ps.map fun q => q.2.d), .non] g = .ok (.str (rowT (ps.map fun q => q.2))) g := t1
  have jr := join_row hq ql
  rw [List.map_map] at jr
  have jr : prim2 .join (.str (T " ")) (.lst (ps.map fun q => .str q.2.2.2)) = some (.str (rowT (ps.map fun q => q.2))) := jr
  have ok : TxOk (rowT (ps.map fun q => q.2)) := row_ok _ fun x hx => by
    obtain ⟨q, hq2, rfl⟩ := List.mem_map.mp hx
    have h2 : ∀ s ∈ toks.map (fun q => q.2.2), plain (.str s) = true := by decide
    exact h2 _ (List.mem_map.mpr ⟨q, hq q hq2, rfl⟩)
  have ne := ne_txt ok ok
  have lj : ev prog.cons (call prog (n + 6)) lcJ .val (S17 sc (.lst (ds.map .int)) y3 (.val (.tup (ps.map fun q => q.2.d))) (.val (.str (textOf ps ++ fin))) (.val (.tup (dueOf 0 ps))) y7 y8 y9 y10 y11 y12 y13 y14 y15 y16) g = .ok (.lst (ps.map fun q => .str q.2.2.2)) g := by
    simp [lcJ]
    rw [compG_of (h := fun q => some (.str q.2.2.2))]
    · simp
    · intro q hq
      have A7 : idx q.2.d (.int 1) = some q.2.2.1 := rfl
      have A8 : deref g q.2.d = some q.2.d := rfl
      have A9 : deref g q.2.2.1 = some q.2.2.1 := by
        rcases toks_cases (h q hq).2 with h | h | h
        · obtain ⟨_, i, e, _⟩ := num_of h
          rw [e]; rfl
        · obtain ⟨_, e, _⟩ := sgn_of h
          rw [e]; rfl
        · obtain ⟨c, w⟩ := word_of h
          rw [w.val]; rfl
      simp [A7, A8, A9, tk_text (h q hq).2]
  simp [chkS, t0, rp.1, rp.2, t1, lj, jr, ne, -List.length_append]
theorem spot_ev (hp : 0 ≤ p) (hz : t.length ≤ 300) (ht : TxOk t) : ∃ (p' : Int) (z7 z13 : SV), 0 ≤ p' ∧
    exec prog.cons prog.sub prog.W (call prog (n + 6)) spotS (S17 sc (.lst (ds.map .int)) y3 y4 (.val (.str t)) y6 y7 y8 y9 y10 y11 y12 y13 y14 y15 y16) (Hat p []) =
    .nx (S17 sc (.lst (ds.map .int)) y3 y4 (.val (.str t)) y6 z7 y8 y9 y10 y11 y12 z13 y14 y15 y16) (Hat p' []) := by
  have hl := le_lim (show t.length ≤ 100000 by omega)
  obtain ⟨v, e1, v0, v1⟩ := take (n := n + 4) (ds := ds) (rest := []) ((t.length : Int) + 1) (by omega) hp
  have e1 : call prog (n + 6) 14 [.lst (ds.map .int), .ref 0, .int ((t.length : Int) + 1)] (Hat p []) = .ok (.int v) (Hat (p + 1) []) := e1
  obtain ⟨k, rfl⟩ := Int.eq_ofNat_of_zero_le v0
  have s1 : slc (.str t) none (some (k : Int)) = some (.str (t.take k)) := by rw [slc_str hl, cut_to]
  have s2 := split_str (u := t.take k) (by rw [List.length_take]; omega)
  obtain ⟨x, hx, hxl⟩ := split_ne (t.take k)
  have xl : x.length ≤ LIM := le_lim (by rw [List.length_take] at hxl; omega)
  have t2 := told2_call (n := n + 2) (g := Hat (p + 1) []) (t := t) (k := k) (by omega) (by omega)
  have t2 : call prog (n + 6) 16 [.int 2, .str t, nat k] (Hat (p + 1) []) = .ok (spotD t k) (Hat (p + 1) []) := t2
  have sd : spotD t k = .tup [nat (splitT 10 (t.take k)).length, .int ((x.length : Int) + 1)] := by
    unfold spotD
    rw [hx]
    rfl
  have ne : cop .ne (spotD t k) (spotD t k) = some false := cop_ne_refl (by rw [sd]; rfl) (by rw [sd]; show 1 ≤ 60; decide)
  rw [sd] at ne t2
  obtain ⟨m, hm⟩ : ∃ m, (splitT 10 (t.take k)).length = m + 1 := by
    cases q : splitT 10 (t.take k) with
    | nil => rw [q] at hx; cases hx
    | cons a b => exact ⟨b.length, rfl⟩
  have hi : idx (.lst ((splitT 10 (t.take k)).map .str)) (.int (((splitT 10 (t.take k)).length : Int) - 1)) = some (.str x) := by
    rw [hm, show ((m + 1 : Nat) : Int) - 1 = (m : Int) by omega, idx_lst, getI_nat_, List.getElem?_map]
    have : (splitT 10 (t.take k))[m]? = some x := by
      rw [← hx, List.getLast?_eq_getElem?, hm]; rfl
    rw [this]; rfl
  have pl : prim1 .len (.lst ((splitT 10 (t.take k)).map .str)) = some (nat (splitT 10 (t.take k)).length) := by
    rw [p_len_lst, List.length_map]
  refine ⟨p + 1, .val (nat k), .val (.lst ((splitT 10 (t.take k)).map .str)), by omega, ?_⟩
  simp only [spotS, zs_seq]
  simp [len_str hl, e1, s1, s2, t2, pl, hi, len_str xl, ne, -p_len_lst, -idx_lst]
end
end K30
end
section
set_option Elab.async false
set_option linter.all false
set_option maxRecDepth 100000
set_option autoImplicit false
set_option maxHeartbeats 4000000
/-! K30zi: the law. -/
namespace K30
open PX
def oddE : E := (.lst (.cons (.lit .non) (.cons (.lit (.int 5)) (.cons (.tup (.cons (.lit (.str (T "p"))) .nil)) (.cons (.bin .mul (.lit (.str (T " "))) (.bin .add (.con 1) (.lit (.int 1)))) .nil)))))
def badL : E := (.lst (.cons (.lit .non) (.cons (.lst (.cons (.tup (.cons (.lit (.str (T "num"))) (.cons (.lit (.int 1)) .nil))) .nil)) (.cons (.tup (.cons (.lit (.int 5)) .nil)) (.cons (.tup (.cons (.tup (.cons (.lit (.str (T "num"))) (.cons (.lit (.bl true)) .nil))) .nil)) (.cons (.tup (.cons (.tup (.cons (.lit (.str (T "num"))) (.cons (.lit (.int 1000001)) .nil))) .nil)) (.cons (.tup (.cons (.tup (.cons (.lit (.str (T "word"))) (.cons (.lit (.str (T "X"))) .nil))) .nil)) (.cons (.tup (.cons (.tup (.cons (.lit (.str (T "var"))) (.cons (.lit (.str (T "x"))) .nil))) .nil)) (.cons (.tup (.cons (.tup (.cons (.lit (.str (T "sign"))) (.cons (.lit (.str (T ";"))) .nil))) .nil)) (.cons (.tup (.cons (.tup (.cons (.lit (.str (T "word"))) (.cons (.lit (.str (T ""))) .nil))) .nil)) (.cons (.tup (.cons (.tup (.cons (.lit (.str (T "end"))) (.cons (.lit .non) .nil))) .nil)) .nil)))))))))))
def toldE : E := (.lst (.cons (.call 16 (.cons (.lit (.int 0)) (.cons (.var 14) (.cons (.lit .non) .nil)))) (.cons (.call 16 (.cons (.lit (.int 2)) (.cons (.var 14) (.cons (.lit (.int 0)) .nil)))) (.cons (.call 16 (.cons (.lit (.int 1)) (.cons (.var 15) (.cons (.lit .non) .nil)))) (.cons (.call 16 (.cons (.lit (.int 2)) (.cons (.var 5) (.cons (.call 15 (.cons (.lst (.cons (.neg (.lit (.int 1))) (.cons (.bin .add (.p1 .len (.var 5)) (.lit (.int 1))) (.cons (.lit .non) (.cons (.lit (.bl true)) .nil))))) (.cons (.var 1) (.cons (.var 2) .nil)))) .nil)))) .nil)))))
def lawS : S := (.seq (.set 1 .val (.call 12 (.cons (.var 0) .nil)))
  (.seq (.set 2 .hp (.lst (.cons (.lit (.int 0)) .nil)))
  (.seq (.for_ (.one 3) (.p1 .range (.lit (.int 4))) turnS)
  (.seq (.set 14 .val (.call 15 (.cons oddE (.cons (.var 1) (.cons (.var 2) .nil)))))
  (.seq (.set 15 .val (.call 15 (.cons badL (.cons (.var 1) (.cons (.var 2) .nil)))))
  (.seq (.set 16 .val toldE)
  (.ret (.cmp .eq (.var 16) (.lst (.cons (.tup (.cons (.lit (.str (T "at"))) (.cons (.lit (.int 0)) .nil))) (.cons (.tup (.cons (.lit (.str (T "at"))) (.cons (.lit (.int 0)) .nil))) (.cons (.tup (.cons (.lit (.str (T "argument"))) (.cons (.lit (.str (T "rows"))) .nil))) (.cons (.tup (.cons (.lit (.str (T "argument"))) (.cons (.lit (.str (T "at"))) .nil))) .nil)))))))))))))
theorem law_is : b_law = lawS := rfl
section
variable {n : Nat} {ds : List Int} {sc : D} {p : Int} {y3 y4 y5 y6 y7 y8 y9 y10 y11 y12 y13 y14 y15 y16 : SV} {t : Txt} {g : G}
theorem turn_ev (hp : 0 ≤ p) : ∃ (p' : Int) (t : Txt) (z4 z6 z7 z8 z9 z10 z11 z12 z13 : SV), 0 ≤ p' ∧ t.length ≤ 300 ∧ TxOk t ∧
    exec prog.cons prog.sub prog.W (call prog (n + 6)) turnS (S17 sc (.lst (ds.map .int)) y3 y4 y5 y6 y7 y8 y9 y10 y11 y12 y13 y14 y15 y16) (Hat p []) =
    .nx (S17 sc (.lst (ds.map .int)) y3 z4 (.val (.str t)) z6 z7 z8 z9 z10 z11 z12 z13 y14 y15 y16) (Hat p' []) := by
  obtain ⟨v, e1, v0, v1⟩ := take (n := n + 4) (ds := ds) (rest := []) 9 (by omega) hp
  have e1 : call prog (n + 6) 14 [.lst (ds.map .int), .ref 0, .int 9] (Hat p []) = .ok (.int v) (Hat (p + 1) []) := e1
  obtain ⟨k, rfl⟩ := Int.eq_ofNat_of_zero_le v0
  have rg := p_range_nat (k := k) (by omega)
  obtain ⟨ps, p1, z7, z8, hps, hl, hp1, eb⟩ := build_loop (n := n) (ds := ds) (sc := sc) (y3 := y3) (y7 := y7) (y8 := y8) (y9 := y9) (y10 := y10) (y11 := y11) (y12 := y12) (y13 := y13) (y14 := y14) (y15 := y15) (y16 := y16) (p := p + 1) (by omega) k (by omega)
  obtain ⟨d, hd, e2⟩ := one (n := n + 3) (ds := ds) (rest := []) (rows := fins.map .str) (p := p1) (by simp [fins]) hp1
  obtain ⟨fin, hf, rfl⟩ := List.mem_map.mp hd
  have e2 : call prog (n + 6) 15 [.lst (fins.map .str), .lst (ds.map .int), .ref 0] (Hat p1 []) = .ok (.str fin) (Hat (p1 + 1) []) := e2
  have fl : ∀ s ∈ fins, s.length ≤ 6 ∧ plain (.str s) = true := by decide
  have tl := text_len ps hps
  have tz : (textOf ps ++ fin).length ≤ 300 := by
    rw [List.length_append]
    have := (fl _ hf).1
    omega
  have to : TxOk (textOf ps ++ fin) := txok_app (text_ok ps hps) (fl _ hf).2
  have A := add_str (a := textOf ps) (b := fin) (by rw [List.length_append] at tz; omega)
  obtain ⟨p2, w7, w9, w10, w11, w12, hp2, ebt⟩ := bent_loop (n := n) (ds := ds) (sc := sc) (y3 := y3) (y4 := .val (.tup (ps.map fun q => q.2.d))) (y6 := .val (.tup (dueOf 0 ps))) (y7 := z7) (y8 := z8) (y9 := y9) (y10 := y10) (y11 := y11) (y12 := y12) (y13 := y13) (y14 := y14) (y15 := y15) (y16 := y16) (p := p1 + 1) (by omega) tz to ((List.range' 0 5).map nat)
  obtain ⟨p3, x7, x13, hp3, es⟩ := spot_ev (n := n) (ds := ds) (sc := sc) (y3 := y3) (y4 := .val (.tup (ps.map fun q => q.2.d))) (y6 := .val (.tup (dueOf 0 ps))) (y7 := w7) (y8 := z8) (y9 := w9) (y10 := w10) (y11 := w11) (y12 := w12) (y13 := y13) (y14 := y14) (y15 := y15) (y16 := y16) hp2 tz to
  refine ⟨p3, textOf ps ++ fin, .val (.tup (ps.map fun q => q.2.d)), .val (.tup (dueOf 0 ps)), x7, z8, w9, w10, w11, w12, x13, hp3, tz, to, ?_⟩
  have x1 : exec prog.cons prog.sub prog.W (call prog (n + 6)) (.setP [(4, .val), (5, .val), (6, .val)] (.cons (.tup .nil) (.cons (.lit (.str (T ""))) (.cons (.tup .nil) .nil)))) (S17 sc (.lst (ds.map .int)) y3 y4 y5 y6 y7 y8 y9 y10 y11 y12 y13 y14 y15 y16) (Hat p []) =
      .nx (S17 sc (.lst (ds.map .int)) y3 (.val (.tup [])) (.val (.str [])) (.val (.tup [])) y7 y8 y9 y10 y11 y12 y13 y14 y15 y16) (Hat p []) := by
    have : T "" = [] := rfl
    simp [this]
  have x2 : ev prog.cons (call prog (n + 6)) (.p1 .range (.call 14 (.cons (.var 1) (.cons (.var 2) (.cons (.lit (.int 9)) .nil))))) .val (S17 sc (.lst (ds.map .int)) y3 (.val (.tup [])) (.val (.str [])) (.val (.tup [])) y7 y8 y9 y10 y11 y12 y13 y14 y15 y16) (Hat p []) = .ok (.lst ((List.range' 0 k).map nat)) (Hat (p + 1) []) := by
    simp [e1, rg]
  have me : ∀ (g : G) (s : Sl), ev prog.cons (call prog (n + 6)) finE .val s g = .ok (.lst (fins.map .str)) g := fun g s => by simp [finE, fins]
  have x3 : exec prog.cons prog.sub prog.W (call prog (n + 6)) (.set 5 .val (.bin .add (.var 5) (.call 15 (.cons finE (.cons (.var 1) (.cons (.var 2) .nil)))))) (S17 sc (.lst (ds.map .int)) y3 (.val (.tup (ps.map fun q => q.2.d))) (.val (.str (textOf ps))) (.val (.tup (dueOf 0 ps))) z7 z8 y9 y10 y11 y12 y13 y14 y15 y16) (Hat p1 []) =
      .nx (S17 sc (.lst (ds.map .int)) y3 (.val (.tup (ps.map fun q => q.2.d))) (.val (.str (textOf ps ++ fin))) (.val (.tup (dueOf 0 ps))) z7 z8 y9 y10 y11 y12 y13 y14 y15 y16) (Hat (p1 + 1) []) := by
    simp [me, e2, A]
  have x4 : ev prog.cons (call prog (n + 6)) (.p1 .range (.lit (.int 5))) .val (S17 sc (.lst (ds.map .int)) y3 (.val (.tup (ps.map fun q => q.2.d))) (.val (.str (textOf ps ++ fin))) (.val (.tup (dueOf 0 ps))) z7 z8 y9 y10 y11 y12 y13 y14 y15 y16) (Hat (p1 + 1) []) = .ok (.lst ((List.range' 0 5).map nat)) (Hat (p1 + 1) []) := by
    have := p_range_nat (k := 5) (by omega)
    rw [show ((5 : Nat) : Int) = 5 from rfl] at this
    simp only [ze_p1, ze_lit, fin_val, rb_ok]
    rw [app1_def (by simp), deref_int, Option.bind_some, this, ro_some]
  have ck := chk_ev (n := n) (ds := ds) (sc := sc) (y3 := y3) (y7 := z7) (y8 := z8) (y9 := y9) (y10 := y10) (y11 := y11) (y12 := y12) (y13 := y13) (y14 := y14) (y15 := y15) (y16 := y16) (g := Hat (p1 + 1) []) hps (by omega) hf
  rw [turnS, zs_seq, x1, fb_nx, zs_seq, zs_for, x2, li_ok, items_lst]
  show (forL _ _ _ _).bind _ = _
  rw [eb, fb_nx, zs_seq, x3, fb_nx, zs_seq, ck, fb_nx, zs_seq, zs_for, x4, li_ok, items_lst]
  show (forL _ _ _ _).bind _ = _
  rw [ebt, fb_nx, es]
theorem turns_ev (hp : 0 ≤ p) : ∃ (p' : Int) (t : Txt) (z3 z4 z6 z7 z8 z9 z10 z11 z12 z13 : SV), 0 ≤ p' ∧ t.length ≤ 300 ∧ TxOk t ∧
    forL (loopF prog.cons prog.sub prog.W (call prog (n + 6)) (.one 3) turnS) ((List.range' 0 4).map nat) (S17 sc (.lst (ds.map .int)) y3 y4 y5 y6 y7 y8 y9 y10 y11 y12 y13 y14 y15 y16) (Hat p []) =
    .nx (S17 sc (.lst (ds.map .int)) z3 z4 (.val (.str t)) z6 z7 z8 z9 z10 z11 z12 z13 y14 y15 y16) (Hat p' []) := by
  obtain ⟨s', g', e, p', z3, z4, z5, z6, z7, z8, z9, z10, z11, z12, z13, rfl, rfl, hp', ht⟩ := forL_inv (f := loopF prog.cons prog.sub prog.W (call prog (n + 6)) (.one 3) turnS)
    (I := fun i s g => ∃ (p' : Int) (z3 z4 z5 z6 z7 z8 z9 z10 z11 z12 z13 : SV), s = S17 sc (.lst (ds.map .int)) z3 z4 z5 z6 z7 z8 z9 z10 z11 z12 z13 y14 y15 y16 ∧ g = Hat p' [] ∧ 0 ≤ p' ∧ (i = 0 ∨ ∃ t : Txt, z5 = .val (.str t) ∧ t.length ≤ 300 ∧ TxOk t))
    ((List.range' 0 4).map nat) 0 (s := S17 sc (.lst (ds.map .int)) y3 y4 y5 y6 y7 y8 y9 y10 y11 y12 y13 y14 y15 y16) (g := Hat p []) (by
      rintro i x s g hx ⟨p1, w3, w4, w5, w6, w7, w8, w9, w10, w11, w12, w13, rfl, rfl, hp1, _⟩
      obtain ⟨p2, t, z4, z6, z7, z8, z9, z10, z11, z12, z13, hp2, hz, ht, e⟩ := turn_ev (n := n) (ds := ds) (sc := sc) (y3 := .val x) (y4 := w4) (y5 := w5) (y6 := w6) (y7 := w7) (y8 := w8) (y9 := w9) (y10 := w10) (y11 := w11) (y12 := w12) (y13 := w13) (y14 := y14) (y15 := y15) (y16 := y16) hp1
      exact ⟨_, _, e, p2, .val x, z4, .val (.str t), z6, z7, z8, z9, z10, z11, z12, z13, rfl, rfl, hp2, .inr ⟨t, rfl, hz, ht⟩⟩) ⟨p, y3, y4, y5, y6, y7, y8, y9, y10, y11, y12, y13, rfl, rfl, hp, .inl rfl⟩
  rcases ht with h | ⟨t, rfl, hz, ht⟩
  · simp at h
  · exact ⟨p', t, z3, z4, z6, z7, z8, z9, z10, z11, z12, z13, hp', hz, ht, e⟩
theorem odd_ev {s : Sl} : ev prog.cons (call prog (n + 6)) oddE .val s g = .ok (.lst [.non, .int 5, .tup [.str (T "p")], .str (List.replicate 8001 (T " ")).flatten]) g := by
  have m : bop .mul (.str (T " ")) (.int 8001) = some (.str (List.replicate 8001 (T " ")).flatten) := by
    show (if 0 ≤ (8001 : Int) ∧ (8001 : Int) ≤ 16777216 ∧ (T " ").length * (8001 : Int).toNat ≤ LIM then some (D.str (List.replicate (8001 : Int).toNat (T " ")).flatten) else none) = _
    rw [if_pos ⟨by decide, by decide, by show 1 * 8001 ≤ LIM; decide⟩]
    rfl
  simp [oddE, con1, m]
theorem odd_len : (List.replicate 8001 (T " ")).flatten.length = 8001 := by
  rw [List.length_flatten, List.map_replicate, List.sum_replicate_nat]
  rfl
theorem law_call (ns : List Int) : ∃ g', call prog (n + 7) 22 [.lst (ns.map .int)] [] = .ok (.bl true) g' := by
  obtain ⟨ds, ed⟩ := draws_call (P := prog) (n := n + 5) (i := 12) rfl ns []
  have ed : call prog (n + 6) 12 [.lst (ns.map .int)] [] = .ok (.lst (ds.map .int)) [] := ed
  obtain ⟨p, t, z3, z4, z6, z7, z8, z9, z10, z11, z12, z13, hp, hz, ht, et⟩ := turns_ev (n := n) (ds := ds) (sc := .lst (ns.map .int)) (y3 := .un) (y4 := .un) (y5 := .un) (y6 := .un) (y7 := .un) (y8 := .un) (y9 := .un) (y10 := .un) (y11 := .un) (y12 := .un) (y13 := .un) (y14 := .un) (y15 := .un) (y16 := .un) (p := 0) (Int.le_refl 0)
  obtain ⟨od, ho, e1⟩ := one (n := n + 3) (ds := ds) (rest := []) (rows := [.non, .int 5, .tup [.str (T "p")], .str (List.replicate 8001 (T " ")).flatten]) (p := p) (by simp) hp
  have e1 : call prog (n + 6) 15 [.lst [.non, .int 5, .tup [.str (T "p")], .str (List.replicate 8001 (T " ")).flatten], .lst (ds.map .int), .ref 0] (Hat p []) = .ok od (Hat (p + 1) []) := e1
  have hod : Odd od := by
    simp only [List.mem_cons, List.not_mem_nil, or_false] at ho
    rcases ho with h | h | h | h
    · exact .inl h
    · exact .inr (.inl h)
    · exact .inr (.inr (.inl h))
    · exact .inr (.inr (.inr ⟨_, h, by rw [odd_len]; decide, by rw [odd_len]; decide⟩))
  obtain ⟨bd, hb, e2⟩ := one (n := n + 3) (ds := ds) (rest := []) (rows := .non :: .lst [.tup [tx "num", .int 1]] :: bads.map fun d => .tup [d]) (p := p + 1) (by simp) (by omega)
  have e2 : call prog (n + 6) 15 [.lst (.non :: .lst [.tup [tx "num", .int 1]] :: bads.map fun d => .tup [d]), .lst (ds.map .int), .ref 0] (Hat (p + 1) []) = .ok bd (Hat (p + 1 + 1) []) := e2
  have hbd : Bad bd := by
    rcases List.mem_cons.mp hb with h | h
    · exact .inl h
    · rcases List.mem_cons.mp h with h | h
      · exact .inr (.inl h)
      · obtain ⟨d, hd, rfl⟩ := List.mem_map.mp h
        exact .inr (.inr ⟨d, hd, rfl⟩)
  obtain ⟨w, hw, e3⟩ := one (n := n + 3) (ds := ds) (rest := []) (rows := [.int (-1), .int ((t.length : Int) + 1), .non, .bl true]) (p := p + 1 + 1) (by simp) (by omega)
  have e3 : call prog (n + 6) 15 [.lst [.int (-1), .int ((t.length : Int) + 1), .non, .bl true], .lst (ds.map .int), .ref 0] (Hat (p + 1 + 1) []) = .ok w (Hat (p + 1 + 1 + 1) []) := e3
  have hw : w = .int (-1) ∨ w = .int ((t.length : Int) + 1) ∨ w = .non ∨ w = .bl true := by
    simpa using hw
  have c1 : ∀ g, call prog (n + 6) 16 [.int 0, od, .non] g = .ok (.tup [tx "at", .int 0]) g := fun g => told0_odd (n := n + 3) hod
  have c2 : ∀ g, call prog (n + 6) 16 [.int 2, od, .int 0] g = .ok (.tup [tx "at", .int 0]) g := fun g => told2_odd (n := n + 3) hod
  have c3 : ∀ g, call prog (n + 6) 16 [.int 1, bd, .non] g = .ok (.tup [tx "argument", tx "rows"]) g := fun g => told1_bad (n := n + 1) hbd
  have c4 : ∀ g, call prog (n + 6) 16 [.int 2, .str t, w] g = .ok (.tup [tx "argument", tx "at"]) g := fun g => told2_arg (n := n + 2) (by omega) hw
  have hl := le_lim (show t.length ≤ 100000 by omega)
  have oe : ∀ (g : G) (s : Sl), ev prog.cons (call prog (n + 6)) oddE .val s g = .ok (.lst [.non, .int 5, .tup [.str (T "p")], .str (List.replicate 8001 (T " ")).flatten]) g := fun g s => odd_ev
  have be : ∀ (g : G) (s : Sl), ev prog.cons (call prog (n + 6)) badL .val s g = .ok (.lst (.non :: .lst [.tup [tx "num", .int 1]] :: bads.map fun d => .tup [d])) g := fun g s => by simp [badL, bads]
  have rg := p_range_nat (k := 4) (by omega)
  rw [show ((4 : Nat) : Int) = 4 from rfl] at rg
  have s1 : exec prog.cons prog.sub prog.W (call prog (n + 6)) (.set 1 .val (.call 12 (.cons (.var 0) .nil))) [.val (.lst (ns.map .int)), .un, .un, .un, .un, .un, .un, .un, .un, .un, .un, .un, .un, .un, .un, .un, .un] [] =
      .nx [.val (.lst (ns.map .int)), .val (.lst (ds.map .int)), .un, .un, .un, .un, .un, .un, .un, .un, .un, .un, .un, .un, .un, .un, .un] [] := by
    simp [ed]
  have s2 : exec prog.cons prog.sub prog.W (call prog (n + 6)) (.set 2 .hp (.lst (.cons (.lit (.int 0)) .nil))) [.val (.lst (ns.map .int)), .val (.lst (ds.map .int)), .un, .un, .un, .un, .un, .un, .un, .un, .un, .un, .un, .un, .un, .un, .un] [] =
      .nx (S17 (.lst (ns.map .int)) (.lst (ds.map .int)) .un .un .un .un .un .un .un .un .un .un .un .un .un .un) (Hat 0 []) := by
    simp [put1, toPO]
  have s3 : ev prog.cons (call prog (n + 6)) (.p1 .range (.lit (.int 4))) .val (S17 (.lst (ns.map .int)) (.lst (ds.map .int)) .un .un .un .un .un .un .un .un .un .un .un .un .un .un) (Hat 0 []) = .ok (.lst ((List.range' 0 4).map nat)) (Hat 0 []) := by
    simp only [ze_p1, ze_lit, fin_val, rb_ok]
    rw [app1_def (by simp), deref_int, Option.bind_some, rg, ro_some]
  have s4 : exec prog.cons prog.sub prog.W (call prog (n + 6)) (.set 14 .val (.call 15 (.cons oddE (.cons (.var 1) (.cons (.var 2) .nil))))) (S17 (.lst (ns.map .int)) (.lst (ds.map .int)) z3 z4 (.val (.str t)) z6 z7 z8 z9 z10 z11 z12 z13 .un .un .un) (Hat p []) =
      .nx (S17 (.lst (ns.map .int)) (.lst (ds.map .int)) z3 z4 (.val (.str t)) z6 z7 z8 z9 z10 z11 z12 z13 (.val od) .un .un) (Hat (p + 1) []) := by
    simp only [zs_set, ze_call, zes_cons, zes_nil, oe, ze_var, look, List.getElem?_cons_zero, List.getElem?_cons_succ, ro_some, fin_val, rb_ok, e1, li_ok, put1_val, List.set_cons_zero, List.set_cons_succ]
  have s5 : exec prog.cons prog.sub prog.W (call prog (n + 6)) (.set 15 .val (.call 15 (.cons badL (.cons (.var 1) (.cons (.var 2) .nil))))) (S17 (.lst (ns.map .int)) (.lst (ds.map .int)) z3 z4 (.val (.str t)) z6 z7 z8 z9 z10 z11 z12 z13 (.val od) .un .un) (Hat (p + 1) []) =
      .nx (S17 (.lst (ns.map .int)) (.lst (ds.map .int)) z3 z4 (.val (.str t)) z6 z7 z8 z9 z10 z11 z12 z13 (.val od) (.val bd) .un) (Hat (p + 1 + 1) []) := by
    simp only [zs_set, ze_call, zes_cons, zes_nil, be, ze_var, look, List.getElem?_cons_zero, List.getElem?_cons_succ, ro_some, fin_val, rb_ok, e2, li_ok, put1_val, List.set_cons_zero, List.set_cons_succ]
  have s6 : exec prog.cons prog.sub prog.W (call prog (n + 6)) (.set 16 .val toldE) (S17 (.lst (ns.map .int)) (.lst (ds.map .int)) z3 z4 (.val (.str t)) z6 z7 z8 z9 z10 z11 z12 z13 (.val od) (.val bd) .un) (Hat (p + 1 + 1) []) =
      .nx (S17 (.lst (ns.map .int)) (.lst (ds.map .int)) z3 z4 (.val (.str t)) z6 z7 z8 z9 z10 z11 z12 z13 (.val od) (.val bd) (.val (.lst [.tup [tx "at", .int 0], .tup [tx "at", .int 0], .tup [tx "argument", tx "rows"], .tup [tx "argument", tx "at"]]))) (Hat (p + 1 + 1 + 1) []) := by
    simp [toldE, c1, c2, c3, len_str hl, e3, c4]
  have fe : cop .eq (.lst [.tup [tx "at", .int 0], .tup [tx "at", .int 0], .tup [tx "argument", tx "rows"], .tup [tx "argument", tx "at"]]) (.lst [.tup [tx "at", .int 0], .tup [tx "at", .int 0], .tup [tx "argument", tx "rows"], .tup [tx "argument", tx "at"]]) = some true := cop_eq_refl (by decide) (by decide)
  rw [call_of (P := prog) (fn := ⟨1, 17, true, false, b_law⟩) rfl rfl]
  refine ⟨[], ?_⟩
  refine run_as (r := .ret false (.bl true) (Hat (p + 1 + 1 + 1) [])) ?_ (by simp [close])
  show exec prog.cons prog.sub prog.W (call prog (n + 6)) b_law [.val (.lst (ns.map .int)), .un, .un, .un, .un, .un, .un, .un, .un, .un, .un, .un, .un, .un, .un, .un, .un] [] = _
  rw [law_is, lawS, zs_seq, s1, fb_nx, zs_seq, s2, fb_nx, zs_seq, zs_for, s3, li_ok, items_lst]
  show (forL _ _ _ _).bind _ = _
  rw [et, fb_nx, zs_seq, s4, fb_nx, zs_seq, s5, fb_nx, zs_seq, s6, fb_nx]
  simp [fe]
end
end K30
end
section
set_option Elab.async false
set_option linter.all false
set_option maxRecDepth 100000
set_option autoImplicit false
set_option maxHeartbeats 4000000
/-! K30c: the defs against the row. -/
namespace K30
open PySem PX L2
def topS (i : Nat) : Stmt := PySem.Challenge.pw_factskept_k30_whole_tokens.main.body.getD i (.Pass ⟨0, 0, 0, 0⟩)
def cfg : Cfg := ⟨prog, fnN, cnN, clN, flN⟩
abbrev rows : List (Str × Stmt) := [("is_integer", topS 6), ("in_range", topS 7), ("demand_text", topS 16), ("tokens_of", topS 17), ("token_at", topS 18), ("end_of", topS 19), ("number_at", topS 20), ("tokens", topS 21), ("token_text", topS 22), ("spaced", topS 23), ("is_token", topS 24), ("spot", topS 25), ("_law_draws", topS 27), ("_law_more", topS 28), ("_law_take", topS 29), ("_law_one", topS 30), ("_law_told", topS 31), ("_law_inner", topS 32), ("_law_row", topS 33), ("_law_number", topS 34), ("_law_read", topS 35), ("_law_token", topS 36), ("law", topS 37)]
theorem fn_rows : cfg.fn = rows.map (·.1) := rfl
theorem chk : defsB cfg raised names fns rows = true := by decide +kernel
theorem bnd : BindAll rows names fns := ⟨fun _ _ _ _ _ _ us hl => match us, hl with | [_], _ => rfl,
  fun _ _ _ _ _ _ us hl => match us, hl with | [_, _, _], _ => rfl,
  fun _ _ _ _ _ _ us hl => match us, hl with | [_], _ => rfl,
  fun _ _ _ _ _ _ us hl => match us, hl with | [_], _ => rfl,
  fun _ _ _ _ _ _ us hl => match us, hl with | [_, _], _ => rfl,
  fun _ _ _ _ _ _ us hl => match us, hl with | [_, _, _], _ => rfl,
  fun _ _ _ _ _ _ us hl => match us, hl with | [_, _], _ => rfl,
  fun _ _ _ _ _ _ us hl => match us, hl with | [_], _ => rfl,
  fun _ _ _ _ _ _ us hl => match us, hl with | [_], _ => rfl,
  fun _ _ _ _ _ _ us hl => match us, hl with | [_], _ => rfl,
  fun _ _ _ _ _ _ us hl => match us, hl with | [_], _ => rfl,
  fun _ _ _ _ _ _ us hl => match us, hl with | [_, _], _ => rfl,
  fun _ _ _ _ _ _ us hl => match us, hl with | [_], _ => rfl,
  fun _ _ _ _ _ _ us hl => match us, hl with | [_, _], _ => rfl,
  fun _ _ _ _ _ _ us hl => match us, hl with | [_, _, _], _ => rfl,
  fun _ _ _ _ _ _ us hl => match us, hl with | [_, _, _], _ => rfl,
  fun _ _ _ _ _ _ us hl => match us, hl with | [_, _, _], _ => rfl,
  fun _ _ _ _ _ _ us hl => match us, hl with | [_], _ => rfl,
  fun _ _ _ _ _ _ us hl => match us, hl with | [_, _, _], _ => rfl,
  fun _ _ _ _ _ _ us hl => match us, hl with | [_, _], _ => rfl,
  fun _ _ _ _ _ _ us hl => match us, hl with | [_], _ => rfl,
  fun _ _ _ _ _ _ us hl => match us, hl with | [_, _], _ => rfl,
  fun _ _ _ _ _ _ us hl => match us, hl with | [_], _ => rfl,
  trivial⟩
end K30
end
section
set_option Elab.async false
set_option linter.all false
set_option maxRecDepth 100000
set_option autoImplicit false
/-! K30h: the head. -/
open PySem PySem.W PyProof.Rows
namespace K30
open PX
theorem facts {K : Fg} {h : Heap} {mg : Str → Option Value} {c0 c1 c2 c3 : Addr} (X : K.In h) (G : h.Ns mainGlobals mg) (R : RowsOk K mg rows) (Z : NoneOk K bnames) (cl : ClsAll K mg clN flN [c0, c1, c2, c3]) (cn : ConAll K mg cnN cons)
    (s0_0 : PySem.W.subIn K (.ref c0) (.ref c0) = some true) (s0_1 : PySem.W.subIn K (.ref c0) (.ref c1) = some false) (s0_2 : PySem.W.subIn K (.ref c0) (.ref c2) = some false) (s0_3 : PySem.W.subIn K (.ref c0) (.ref c3) = some false) (s1_0 : PySem.W.subIn K (.ref c1) (.ref c0) = some true) (s1_1 : PySem.W.subIn K (.ref c1) (.ref c1) = some true) (s1_2 : PySem.W.subIn K (.ref c1) (.ref c2) = some false) (s1_3 : PySem.W.subIn K (.ref c1) (.ref c3) = some false) (s2_0 : PySem.W.subIn K (.ref c2) (.ref c0) = some true) (s2_1 : PySem.W.subIn K (.ref c2) (.ref c1) = some true) (s2_2 : PySem.W.subIn K (.ref c2) (.ref c2) = some true) (s2_3 : PySem.W.subIn K (.ref c2) (.ref c3) = some false) (s3_0 : PySem.W.subIn K (.ref c3) (.ref c0) = some true) (s3_1 : PySem.W.subIn K (.ref c3) (.ref c1) = some false) (s3_2 : PySem.W.subIn K (.ref c3) (.ref c2) = some false) (s3_3 : PySem.W.subIn K (.ref c3) (.ref c3) = some true)
    (e2 : ClsRow K mg "ArgumentError" ["reason"] c2 → ClsRow K mg "FactsError" [] c0 → ∃ D fI, ErrTxt "reason" PySem.Challenge.rw_factskept_k30_whole_tokens.prog K c2 D fI) (e3 : ClsRow K mg "TextError" ["at"] c3 → ClsRow K mg "FactsError" [] c0 → ∃ D fI, ErrTxt "at" PySem.Challenge.rw_factskept_k30_whole_tokens.prog K c3 D fI) : Facts PySem.Challenge.rw_factskept_k30_whole_tokens.prog K mg cfg raised 22 "law" "script" := by
  have D : GlobD PySem.Challenge.rw_factskept_k30_whole_tokens.prog K mg cfg (fun c => ([c0, c1, c2, c3] : List Addr).getD c 0) raised := by
    refine glob_of (prs := [(0, 0), (0, 1), (0, 2), (0, 3), (1, 0), (1, 1), (1, 2), (1, 3), (2, 0), (2, 1), (2, 2), (2, 3), (3, 0), (3, 1), (3, 2), (3, 3)]) X G R bnd chk fn_rows Z cl cn ⟨s0_0, s0_1, s0_2, s0_3, s1_0, s1_1, s1_2, s1_3, s2_0, s2_1, s2_2, s2_3, s3_0, s3_1, s3_2, s3_3, trivial⟩ (fun c c' h h' => by
      have q : ∀ c < 4, ∀ c' < 4, (c, c') ∈ ([(0, 0), (0, 1), (0, 2), (0, 3), (1, 0), (1, 1), (1, 2), (1, 3), (2, 0), (2, 1), (2, 2), (2, 3), (3, 0), (3, 1), (3, 2), (3, 3)] : List (Nat × Nat)) := by decide
      exact q c h c' h') (by decide) fun c hc => ?_
    have hc : c ∈ [2, 3] := hc
    rcases List.mem_cons.mp hc with rfl | hc
    · obtain ⟨D, fI, T⟩ := e2 cl.2.2.1 cl.1
      exact ⟨_, D, fI, T, rfl⟩
    obtain rfl := List.mem_singleton.mp hc
    obtain ⟨D, fI, T⟩ := e3 cl.2.2.2.1 cl.1
    exact ⟨_, D, fI, T, rfl⟩
  obtain ⟨f, fd, fn, N, h1, h2, h3⟩ := defOk_of R bnd chk fn_rows 22 "law" rfl
  cases h1
  cases h2
  exact ⟨⟨_, f, fd, _, D, rfl, h3, rfl⟩⟩
end K30
/-- the plain run -/
theorem K30.run_ok : ∀ ns : List Int, ns.length ≤ 63 → (∀ z ∈ ns, Builtin.Int.intBits z ≤ 1048576) → ∃ g', PX.call K30.cfg.pr 40 22 [.lst (ns.map .int)] [] = .ok (.bl true) g' := fun ns _ _ => K30.law_call (n := 33) ns
set_option maxHeartbeats 0 in
theorem K30.holds : PySem.Challenge.rw_factskept_k30_whole_tokens.Holds := by
  w_on; o_law; k_head; (case hw => w_witness2)
  k_fill
  refine PX.walk_px (l := PySem.Challenge.rw_factskept_k30_whole_tokens) (m := 63) (n := 40) (i := 22) (C := K30.cfg) (rs := K30.raised) (law := "law") (p := "script") rfl (by decide) rfl rfl ⟨rfl, by decide, by decide⟩ (fun w h Y => PySem.W.kIn_of Y) ?F K30.run_ok
  case F =>
    intro w mg h KX G
    refine' K30.facts KX G ?R ?Z ?CL ?CN ?s0_0 ?s0_1 ?s0_2 ?s0_3 ?s1_0 ?s1_1 ?s1_2 ?s1_3 ?s2_0 ?s2_1 ?s2_2 ?s2_3 ?s3_0 ?s3_1 ?s3_2 ?s3_3 ?E2 ?E3
    case R =>
      refine' ⟨PX.row_mk KX G ?a0 ?l0 ?c0 ?k0, ?_⟩; (case a0 => k_is); (case l0 => k_is); (case c0 => k_is); (case k0 => k_is)
      refine' ⟨PX.row_mk KX G ?a1 ?l1 ?c1 ?k1, ?_⟩; (case a1 => k_is); (case l1 => k_is); (case c1 => k_is); (case k1 => k_is)
      refine' ⟨PX.row_mk KX G ?a2 ?l2 ?c2 ?k2, ?_⟩; (case a2 => k_is); (case l2 => k_is); (case c2 => k_is); (case k2 => k_is)
      refine' ⟨PX.row_mk KX G ?a3 ?l3 ?c3 ?k3, ?_⟩; (case a3 => k_is); (case l3 => k_is); (case c3 => k_is); (case k3 => k_is)
      refine' ⟨PX.row_mk KX G ?a4 ?l4 ?c4 ?k4, ?_⟩; (case a4 => k_is); (case l4 => k_is); (case c4 => k_is); (case k4 => k_is)
      refine' ⟨PX.row_mk KX G ?a5 ?l5 ?c5 ?k5, ?_⟩; (case a5 => k_is); (case l5 => k_is); (case c5 => k_is); (case k5 => k_is)
      refine' ⟨PX.row_mk KX G ?a6 ?l6 ?c6 ?k6, ?_⟩; (case a6 => k_is); (case l6 => k_is); (case c6 => k_is); (case k6 => k_is)
      refine' ⟨PX.row_mk KX G ?a7 ?l7 ?c7 ?k7, ?_⟩; (case a7 => k_is); (case l7 => k_is); (case c7 => k_is); (case k7 => k_is)
      refine' ⟨PX.row_mk KX G ?a8 ?l8 ?c8 ?k8, ?_⟩; (case a8 => k_is); (case l8 => k_is); (case c8 => k_is); (case k8 => k_is)
      refine' ⟨PX.row_mk KX G ?a9 ?l9 ?c9 ?k9, ?_⟩; (case a9 => k_is); (case l9 => k_is); (case c9 => k_is); (case k9 => k_is)
      refine' ⟨PX.row_mk KX G ?a10 ?l10 ?c10 ?k10, ?_⟩; (case a10 => k_is); (case l10 => k_is); (case c10 => k_is); (case k10 => k_is)
      refine' ⟨PX.row_mk KX G ?a11 ?l11 ?c11 ?k11, ?_⟩; (case a11 => k_is); (case l11 => k_is); (case c11 => k_is); (case k11 => k_is)
      refine' ⟨PX.row_mk KX G ?a12 ?l12 ?c12 ?k12, ?_⟩; (case a12 => k_is); (case l12 => k_is); (case c12 => k_is); (case k12 => k_is)
      refine' ⟨PX.row_mk KX G ?a13 ?l13 ?c13 ?k13, ?_⟩; (case a13 => k_is); (case l13 => k_is); (case c13 => k_is); (case k13 => k_is)
      refine' ⟨PX.row_mk KX G ?a14 ?l14 ?c14 ?k14, ?_⟩; (case a14 => k_is); (case l14 => k_is); (case c14 => k_is); (case k14 => k_is)
      refine' ⟨PX.row_mk KX G ?a15 ?l15 ?c15 ?k15, ?_⟩; (case a15 => k_is); (case l15 => k_is); (case c15 => k_is); (case k15 => k_is)
      refine' ⟨PX.row_mk KX G ?a16 ?l16 ?c16 ?k16, ?_⟩; (case a16 => k_is); (case l16 => k_is); (case c16 => k_is); (case k16 => k_is)
      refine' ⟨PX.row_mk KX G ?a17 ?l17 ?c17 ?k17, ?_⟩; (case a17 => k_is); (case l17 => k_is); (case c17 => k_is); (case k17 => k_is)
      refine' ⟨PX.row_mk KX G ?a18 ?l18 ?c18 ?k18, ?_⟩; (case a18 => k_is); (case l18 => k_is); (case c18 => k_is); (case k18 => k_is)
      refine' ⟨PX.row_mk KX G ?a19 ?l19 ?c19 ?k19, ?_⟩; (case a19 => k_is); (case l19 => k_is); (case c19 => k_is); (case k19 => k_is)
      refine' ⟨PX.row_mk KX G ?a20 ?l20 ?c20 ?k20, ?_⟩; (case a20 => k_is); (case l20 => k_is); (case c20 => k_is); (case k20 => k_is)
      refine' ⟨PX.row_mk KX G ?a21 ?l21 ?c21 ?k21, ?_⟩; (case a21 => k_is); (case l21 => k_is); (case c21 => k_is); (case k21 => k_is)
      refine' ⟨PX.row_mk KX G ?a22 ?l22 ?c22 ?k22, ?_⟩; (case a22 => k_is); (case l22 => k_is); (case c22 => k_is); (case k22 => k_is)
      exact trivial
    case Z =>
      refine' ⟨?z0, ?_⟩; (case z0 => k_is)
      refine' ⟨?z1, ?_⟩; (case z1 => k_is)
      refine' ⟨?z2, ?_⟩; (case z2 => k_is)
      refine' ⟨?z3, ?_⟩; (case z3 => k_is)
      refine' ⟨?z4, ?_⟩; (case z4 => k_is)
      refine' ⟨?z5, ?_⟩; (case z5 => k_is)
      refine' ⟨?z6, ?_⟩; (case z6 => k_is)
      refine' ⟨?z7, ?_⟩; (case z7 => k_is)
      refine' ⟨?z8, ?_⟩; (case z8 => k_is)
      refine' ⟨?z9, ?_⟩; (case z9 => k_is)
      refine' ⟨?z10, ?_⟩; (case z10 => k_is)
      refine' ⟨?z11, ?_⟩; (case z11 => k_is)
      refine' ⟨?z12, ?_⟩; (case z12 => k_is)
      refine' ⟨?z13, ?_⟩; (case z13 => k_is)
      refine' ⟨?z14, ?_⟩; (case z14 => k_is)
      refine' ⟨?z15, ?_⟩; (case z15 => k_is)
      exact trivial
    case CL =>
      refine' ⟨PX.cls_mk KX G ?hn0 ?ht0 ?a0 ?ga0 ?gg0 ?ex0 ?hd0 ?ha0 ?hm0 trivial ?ic0 ?ty0, ?_⟩; (case a0 => k_is); (case ga0 => k_is); (case gg0 => k_is); (case ex0 => k_is); (case hd0 => k_is); (case ha0 => k_is); (case hm0 => k_is); (case hn0 => k_is); (case ht0 => k_is); (case ic0 => k_is); (case ty0 => k_is)
      refine' ⟨PX.cls_mk KX G ?hn1 ?ht1 ?a1 ?ga1 ?gg1 ?ex1 ?hd1 ?ha1 ?hm1 ⟨?no1_0, trivial⟩ ?ic1 ?ty1, ?_⟩; (case a1 => k_is); (case ga1 => k_is); (case gg1 => k_is); (case ex1 => k_is); (case hd1 => k_is); (case ha1 => k_is); (case hm1 => k_is); (case hn1 => k_is); (case ht1 => k_is); (case no1_0 => k_is); (case ic1 => k_is); (case ty1 => k_is)
      refine' ⟨PX.cls_mk KX G ?hn2 ?ht2 ?a2 ?ga2 ?gg2 ?ex2 ?hd2 ?ha2 ?hm2 ⟨?no2_0, trivial⟩ ?ic2 ?ty2, ?_⟩; (case a2 => k_is); (case ga2 => k_is); (case gg2 => k_is); (case ex2 => k_is); (case hd2 => k_is); (case ha2 => k_is); (case hm2 => k_is); (case hn2 => k_is); (case ht2 => k_is); (case no2_0 => k_is); (case ic2 => k_is); (case ty2 => k_is)
      refine' ⟨PX.cls_mk KX G ?hn3 ?ht3 ?a3 ?ga3 ?gg3 ?ex3 ?hd3 ?ha3 ?hm3 ⟨?no3_0, trivial⟩ ?ic3 ?ty3, ?_⟩; (case a3 => k_is); (case ga3 => k_is); (case gg3 => k_is); (case ex3 => k_is); (case hd3 => k_is); (case ha3 => k_is); (case hm3 => k_is); (case hn3 => k_is); (case ht3 => k_is); (case no3_0 => k_is); (case ic3 => k_is); (case ty3 => k_is)
      exact trivial
    case CN =>
      refine' ⟨PX.con_mk KX G ?e0 ?c0, ?_⟩; (case e0 => k_is); (case c0 => decide +kernel)
      refine' ⟨PX.con_mk KX G ?e1 ?c1, ?_⟩; (case e1 => k_is); (case c1 => decide +kernel)
      refine' ⟨PX.con_mk KX G ?e2 ?c2, ?_⟩; (case e2 => k_is); (case c2 => decide +kernel)
      refine' ⟨PX.con_mk KX G ?e3 ?c3, ?_⟩; (case e3 => k_is); (case c3 => decide +kernel)
      refine' ⟨PX.con_mk KX G ?e4 ?c4, ?_⟩; (case e4 => k_is); (case c4 => decide +kernel)
      refine' ⟨PX.con_tup KX G ?e5 ?l5 ?c5 (by decide), ?_⟩; (case e5 => k_is); (case l5 => k_is); (case c5 => decide +kernel)
      refine' ⟨PX.con_mk KX G ?e6 ?c6, ?_⟩; (case e6 => k_is); (case c6 => decide +kernel)
      exact trivial
    case s0_0 => k_is
    case s0_1 => k_is
    case s0_2 => k_is
    case s0_3 => k_is
    case s1_0 => k_is
    case s1_1 => k_is
    case s1_2 => k_is
    case s1_3 => k_is
    case s2_0 => k_is
    case s2_1 => k_is
    case s2_2 => k_is
    case s2_3 => k_is
    case s3_0 => k_is
    case s3_1 => k_is
    case s3_2 => k_is
    case s3_3 => k_is
    case E2 =>
      intro cl cl0
      refine' ⟨_, _, PX.err_mk cl cl0 (by decide) (PX.init_mk ?ity ?il ?h1 ?h2 ?h3 ?h4 ?h5 ?h6 ?h7 ?h8 ?h9 ?h10 ?h11 ?h12 ?h13 ?lc ?h14 ?lk ?h15 ?h16 ?h17 ?h18 ?h19) ?top ?xL ?hb ?xD ?x0 ?hm ?f0 ?sD ?sV ?op ?sa ?iC ?kC⟩
      (case top => decide); (case xL => k_is); (case hb => decide); (case iC => k_is)
      (case ity => k_is); (case il => k_is); (case h1 => rfl); (case h2 => rfl); (case h3 => rfl); (case h4 => decide); (case h5 => rfl); (case h6 => rfl); (case h7 => rfl); (case h8 => rfl); (case h9 => rfl); (case h10 => rfl); (case h11 => rfl); (case h12 => rfl); (case h13 => rfl); (case lc => k_is); (case h14 => rfl); (case lk => k_is); (case h15 => rfl); (case h16 => rfl); (case h17 => k_is); (case h18 => rfl); (case h19 => intro u v; rfl)
      (case xD => k_is); (case f0 => k_is); (case x0 => k_is); (case hm => rfl); (case sD => k_is); (case sV => k_is); (case op => k_is); (case sa => k_is); (case kC => k_is)
    case E3 =>
      intro cl cl0
      refine' ⟨_, _, PX.err_mk cl cl0 (by decide) (PX.init_mk ?ity ?il ?h1 ?h2 ?h3 ?h4 ?h5 ?h6 ?h7 ?h8 ?h9 ?h10 ?h11 ?h12 ?h13 ?lc ?h14 ?lk ?h15 ?h16 ?h17 ?h18 ?h19) ?top ?xL ?hb ?xD ?x0 ?hm ?f0 ?sD ?sV ?op ?sa ?iC ?kC⟩
      (case top => decide); (case xL => k_is); (case hb => decide); (case iC => k_is)
      (case ity => k_is); (case il => k_is); (case h1 => rfl); (case h2 => rfl); (case h3 => rfl); (case h4 => decide); (case h5 => rfl); (case h6 => rfl); (case h7 => rfl); (case h8 => rfl); (case h9 => rfl); (case h10 => rfl); (case h11 => rfl); (case h12 => rfl); (case h13 => rfl); (case lc => k_is); (case h14 => rfl); (case lk => k_is); (case h15 => rfl); (case h16 => rfl); (case h17 => k_is); (case h18 => rfl); (case h19 => intro u v; rfl)
      (case xD => k_is); (case f0 => k_is); (case x0 => k_is); (case hm => rfl); (case sD => k_is); (case sV => k_is); (case op => k_is); (case sa => k_is); (case kC => k_is)
end
section
/-! K30zz: k30 joined. -/
theorem PySem.Challenge.cw_factskept_k30_whole_tokens_holds : PySem.Challenge.rw_factskept_k30_whole_tokens.Holds := by
  exact K30.holds
end
