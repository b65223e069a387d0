import PyProof.Rows.All
import Wide.All
import OpenK.AllK
import Wide.FinOn
import HandS.ForMost
import HandS.ForExc
import HandS.Walk
import HandS.Zip
import HandS.TupAny
import HandS.TryMany
import HandS.DictComp
import HandS.HeadHook2
import HandS.IsInst
import HandS.Deep
import HandS.TupLe
import HandS.Text
import HandS.More
import HandS.RaiseMore
import HandS.SortInts
import HandS.Style
import HandS.Rev
import KE.GoesMore
import KE.GoesEnum
import KE.GoesZip
import PyProof.EnumMake
import HandS.Small
import HandS.Defaults
import HandS.HeadHook4
import HandS.Head2
import HandS.HeadEnd
import HandS.Words
import HandS.Ends
import HandS.WordsExc
import HandS.Head0
import HandS.Head1
import HandS.HeadHook1
import KE.KStateDown
import PySem.Challenge.RW_sizestold_k08_reached_told

section
set_option Elab.async false
set_option linter.all false
set_option maxRecDepth 100000
/-! MpA: data, store, expressions, statements of the mini language, and the evaluator (no model in sight). -/
namespace MP
open PySem
abbrev Ky := Sum Int Str
inductive D where
  | non | bl (b : Bool) | int (i : Int) | str (x : Str) | tup (xs : List D) | lst (xs : List D) | rol (ns : List Int)
  | dic (kvs : List (Ky × D)) | dit (kvs : List (List Ky × D)) | ref (n : Nat)
mutual
def D.beq : D → D → Bool
  | .non, .non => true
  | .bl a, .bl b => a == b
  | .int a, .int b => a == b
  | .str a, .str b => decide (a = b)
  | .tup a, .tup b => D.beqL a b
  | .lst a, .lst b => D.beqL a b
  | .rol a, .rol b => decide (a = b)
  | .dic a, .dic b => D.beqK a b
  | .dit a, .dit b => D.beqT a b
  | .ref a, .ref b => a == b
  | _, _ => false
termination_by structural a => a
def D.beqL : List D → List D → Bool
  | [], [] => true
  | x :: xs, y :: ys => D.beq x y && D.beqL xs ys
  | _, _ => false
termination_by structural a => a
def D.beqK : List (Ky × D) → List (Ky × D) → Bool
  | [], [] => true
  | (k, x) :: xs, (j, y) :: ys => decide (k = j) && (D.beq x y && D.beqK xs ys)
  | _, _ => false
termination_by structural a => a
def D.beqT : List (List Ky × D) → List (List Ky × D) → Bool
  | [], [] => true
  | (k, x) :: xs, (j, y) :: ys => decide (k = j) && (D.beq x y && D.beqT xs ys)
  | _, _ => false
termination_by structural a => a
end
mutual
theorem D.beq_eq : ∀ {a b : D}, D.beq a b = true → a = b
  | .non, b, h => by cases b <;> simp_all [D.beq]
  | .bl _, b, h => by cases b <;> simp_all [D.beq]
  | .int _, b, h => by cases b <;> simp_all [D.beq]
  | .str _, b, h => by cases b <;> simp_all [D.beq]
  | .rol _, b, h => by cases b <;> simp_all [D.beq]
  | .ref _, b, h => by cases b <;> simp_all [D.beq]
  | .tup xs, b, h => by
    cases b with
    | tup ys => rw [D.beqL_eq (a := xs) (b := ys) (by simpa [D.beq] using h)]
    | _ => simp [D.beq] at h
  | .lst xs, b, h => by
    cases b with
    | lst ys => rw [D.beqL_eq (a := xs) (b := ys) (by simpa [D.beq] using h)]
    | _ => simp [D.beq] at h
  | .dic xs, b, h => by
    cases b with
    | dic ys => rw [D.beqK_eq (a := xs) (b := ys) (by simpa [D.beq] using h)]
    | _ => simp [D.beq] at h
  | .dit xs, b, h => by
    cases b with
    | dit ys => rw [D.beqT_eq (a := xs) (b := ys) (by simpa [D.beq] using h)]
    | _ => simp [D.beq] at h
theorem D.beqL_eq : ∀ {a b : List D}, D.beqL a b = true → a = b
  | [], b, h => by cases b <;> simp_all [D.beqL]
  | x :: xs, b, h => by
    cases b with
    | nil => simp [D.beqL] at h
    | cons y ys =>
      simp only [D.beqL, Bool.and_eq_true] at h
      rw [D.beq_eq h.1, D.beqL_eq h.2]
theorem D.beqK_eq : ∀ {a b : List (Ky × D)}, D.beqK a b = true → a = b
  | [], b, h => by cases b <;> simp_all [D.beqK]
  | (k, x) :: xs, b, h => by
    cases b with
    | nil => simp [D.beqK] at h
    | cons y ys =>
      obtain ⟨j, y⟩ := y
      simp only [D.beqK, Bool.and_eq_true, decide_eq_true_eq] at h
      rw [h.1, D.beq_eq h.2.1, D.beqK_eq h.2.2]
theorem D.beqT_eq : ∀ {a b : List (List Ky × D)}, D.beqT a b = true → a = b
  | [], b, h => by cases b <;> simp_all [D.beqT]
  | (k, x) :: xs, b, h => by
    cases b with
    | nil => simp [D.beqT] at h
    | cons y ys =>
      obtain ⟨j, y⟩ := y
      simp only [D.beqT, Bool.and_eq_true, decide_eq_true_eq] at h
      rw [h.1, D.beq_eq h.2.1, D.beqT_eq h.2.2]
end
mutual
theorem D.beq_refl : ∀ a : D, D.beq a a = true
  | .non | .bl _ | .int _ | .str _ | .rol _ | .ref _ => by simp [D.beq]
  | .tup xs | .lst xs => by simp [D.beq, D.beqL_refl xs]
  | .dic xs => by simp [D.beq, D.beqK_refl xs]
  | .dit xs => by simp [D.beq, D.beqT_refl xs]
theorem D.beqL_refl : ∀ a : List D, D.beqL a a = true
  | [] => rfl
  | x :: xs => by simp [D.beqL, D.beq_refl x, D.beqL_refl xs]
theorem D.beqK_refl : ∀ a : List (Ky × D), D.beqK a a = true
  | [] => rfl
  | (k, x) :: xs => by simp [D.beqK, D.beq_refl x, D.beqK_refl xs]
theorem D.beqT_refl : ∀ a : List (List Ky × D), D.beqT a a = true
  | [] => rfl
  | (k, x) :: xs => by simp [D.beqT, D.beq_refl x, D.beqT_refl xs]
end
instance : DecidableEq D := fun a b => if h : D.beq a b = true then isTrue (D.beq_eq h) else isFalse fun e => h (e ▸ D.beq_refl a)
/-! all store numbers within are below n -/
mutual
def below (n : Nat) : D → Bool
  | .tup xs => belowL n xs
  | .lst xs => belowL n xs
  | .dic kvs => belowK n kvs
  | .dit kvs => belowT n kvs
  | .ref m => decide (m < n)
  | _ => true
def belowL (n : Nat) : List D → Bool
  | [] => true
  | x :: xs => below n x && belowL n xs
def belowK (n : Nat) : List (Ky × D) → Bool
  | [] => true
  | (_, d) :: r => below n d && belowK n r
def belowT (n : Nat) : List (List Ky × D) → Bool
  | [] => true
  | (_, d) :: r => below n d && belowT n r
end
/-! == as Python has it: True is 1 -/
mutual
def eqv : D → D → Bool
  | .non, .non => true
  | .bl a, .bl b => a == b
  | .bl a, .int j => (if a then 1 else 0) == j
  | .int i, .bl b => i == (if b then 1 else 0)
  | .int i, .int j => i == j
  | .str x, .str y => x == y
  | .lst xs, .lst ys => eqvL xs ys
  | .tup xs, .tup ys => eqvL xs ys
  | _, _ => false
termination_by structural a => a
def eqvL : List D → List D → Bool
  | [], [] => true
  | x :: xs, y :: ys => eqv x y && eqvL xs ys
  | _, _ => false
termination_by structural a => a
end
/-! plain data, at most n deep: what == is told of -/
mutual
def shp : D → Nat → Bool
  | .non, _ | .bl _, _ | .int _, _ | .str _, _ => true
  | .lst xs, n + 1 | .tup xs, n + 1 => shpL xs n
  | _, _ => false
termination_by structural a => a
def shpL : List D → Nat → Bool
  | [], _ => true
  | x :: xs, n => shp x n && shpL xs n
termination_by structural a => a
end
/-! ### the store -/
inductive O where
  | lst (xs : List D) | dic (kvs : List (Ky × D)) | dit (kvs : List (List Ky × D)) | ins (C : Nat) (fs : List (Str × D))
  deriving DecidableEq
abbrev Sto := List O
abbrev Env := List (Option D)
inductive R (α : Type) where
  | ok (a : α) (S : Sto)
  | exc (C : Nat) (fs : List (Str × D)) (S : Sto)
  | no
def R.bind {α β : Type} (r : R α) (k : α → Sto → R β) : R β := match r with
  | .ok a S => k a S
  | .exc C fs S => .exc C fs S
  | .no => .no
def R.of {α : Type} (o : Option α) (S : Sto) : R α := match o with
  | some a => .ok a S
  | none => .no
def LIM : Nat := 1000000
def D.ky : D → Option Ky
  | .int i => some (.inl i)
  | .str x => some (.inr x)
  | _ => none
def Ky.d : Ky → D
  | .inl i => .int i
  | .inr x => .str x
def kys : List D → Option (List Ky)
  | [] => some []
  | x :: xs => match x.ky, kys xs with
    | some k, some ks => some (k :: ks)
    | _, _ => none
/-- keys that are tuples: not yet -/
def D.tky : D → Option (List Ky) := fun _ => none
section
variable {κ α : Type} [DecidableEq κ]
def vget (kvs : List (κ × α)) (k : κ) : Option α := (kvs.find? fun kv => decide (kv.1 = k)).map (·.2)
def vput (kvs : List (κ × α)) (k : κ) (v : α) : List (κ × α) := if (kvs.any fun kv => decide (kv.1 = k)) = true then kvs.map fun kv => if kv.1 = k then (kv.1, v) else kv else kvs ++ [(k, v)]
def vdrop (kvs : List (κ × α)) (k : κ) : List (κ × α) := kvs.filter fun kv => decide (kv.1 ≠ k)
end
def Sto.get (S : Sto) (n : Nat) : Option O := S[n]?
/-! ### places in a row -/
def cut {α : Type} (xs : List α) (lo hi : Option Int) : List α := (xs.drop (HT.sIx xs.length 0 lo)).take (HT.sIx xs.length xs.length hi - HT.sIx xs.length 0 lo)
def sgn (c : Nat) : D := .str ⟨#[c]⟩
/-! ### order -/
def ltL : List Nat → List Nat → Bool
  | [], [] => false
  | [], _ :: _ => true
  | _ :: _, [] => false
  | x :: xs, y :: ys => if x = y then ltL xs ys else decide (x < y)
def ltS (x y : Str) : Bool := decide (x.cps.toList < y.cps.toList)
def insS (x : Str) : List Str → List Str
  | [] => [x]
  | y :: r => if ltS y x then y :: insS x r else x :: y :: r
def sortS : List Str → List Str
  | [] => []
  | x :: r => insS x (sortS r)
def insI (x : Int) : List Int → List Int
  | [] => [x]
  | y :: r => if y < x then y :: insI x r else x :: y :: r
def sortI : List Int → List Int
  | [] => []
  | x :: r => insI x (sortI r)
def strsOf : List D → Option (List Str)
  | [] => some []
  | .str x :: r => (strsOf r).map (x :: ·)
  | _ :: _ => none
def intsOf : List D → Option (List Int)
  | [] => some []
  | .int x :: r => (intsOf r).map (x :: ·)
  | _ :: _ => none
def blsOf : List D → Option (List Bool)
  | [] => some []
  | .bl x :: r => (blsOf r).map (x :: ·)
  | _ :: _ => none
def kstrs : List Ky → Option (List Str)
  | [] => some []
  | .inr x :: r => (kstrs r).map (x :: ·)
  | _ :: _ => none
def kints : List Ky → Option (List Int)
  | [] => some []
  | .inl x :: r => (kints r).map (x :: ·)
  | _ :: _ => none
def pairsOf : List D → Option (List (Ky × D))
  | [] => some []
  | .tup [k, v] :: r => match k.ky, pairsOf r with
    | some k, some q => some ((k, v) :: q)
    | _, _ => none
  | _ :: _ => none
def merge (kvs more : List (Ky × D)) : List (Ky × D) := more.foldl (fun acc kv => vput acc kv.1 kv.2) kvs
/-! ### operators -/
def BIG : Int := 18446744073709551616
def opD (o : Operator) (a b : D) : Option D := match o, a, b with
  | .Add, .int i, .int j => some (.int (i + j))
  | .Add, .str x, .str y => if x.length + y.length ≤ LIM then some (.str (x ++ y)) else none
  | .Add, .tup x, .tup y => if x.length + y.length ≤ LIM then some (.tup (x ++ y)) else none
  | .Add, .lst x, .lst y => if x.length + y.length ≤ LIM then some (.lst (x ++ y)) else none
  | .Sub, .int i, .int j => some (.int (i - j))
  | .Mult, .int i, .int j => if (-BIG < i ∧ i < BIG) ∨ (-BIG < j ∧ j < BIG) then some (.int (i * j)) else none
  | .Mult, .lst x, .int j => if 0 ≤ j ∧ j ≤ 1000 ∧ x.length ≤ 1000 then some (.lst (List.replicate j.toNat x).flatten) else none
  | .FloorDiv, .int i, .int j => if j ≠ 0 ∧ j.natAbs < 1073741824 then some (.int (i.fdiv j)) else none
  | .Mod, .int i, .int j => if j ≠ 0 then some (.int (i.fmod j)) else none
  | .Pow, .int i, .int j => if 0 ≤ j ∧ j ≤ 1000000 ∧ i.natAbs < 18446744073709551616 then some (.int (i ^ j.toNat)) else none
  | _, _, _ => none
def flat : D → Bool
  | .non | .bl _ | .int _ | .str _ => true
  | _ => false
def inL (x : D) : List D → Bool
  | [] => false
  | y :: r => eqv y x || inL x r
def inD (x y : D) (S : Sto) : Option Bool := match y with
  | .str z => (match x with
    | .str w => (match w.cps.toList with
      | [c] => some (decide (c ∈ z.cps.toList))
      | _ => none)
    | _ => none)
  | .tup xs => if flat x && xs.all flat then some (inL x xs) else none
  | .lst xs => if flat x && xs.all flat then some (inL x xs) else if shp x 60 && shpL xs 60 then some (inL x xs) else none
  | .dic kvs => x.ky.map fun k => (vget kvs k).isSome
  | .dit kvs => x.tky.map fun k => (vget kvs k).isSome
  | .ref n => (match S.get n with
    | some (.dic kvs) => x.ky.map fun k => (vget kvs k).isSome
    | some (.dit kvs) => x.tky.map fun k => (vget kvs k).isSome
    | some (.lst xs) => if flat x && xs.all flat then some (inL x xs) else none
    | _ => none)
  | _ => none
def ordD (f : Int → Int → Bool) (g : Str → Str → Bool) (a b : D) : Option Bool := match a, b with
  | .int i, .int j => some (f i j)
  | .str x, .str y => some (g x y)
  | _, _ => none
/-- is: None, booleans -/
def sameD (a b : D) : Option Bool := match b with
  | .non => some (decide (a = .non))
  | .bl y => (match a with
    | .bl x => some (decide (x = y))
    | _ => none)
  | _ => none
def cmpD (o : CmpOp) (a b : D) (S : Sto) : Option Bool := match o with
  | .Eq => if shp a 60 && shp b 60 then some (eqv a b) else none
  | .NotEq => if shp a 60 && shp b 60 then some (!eqv a b) else none
  | .Lt => ordD (fun i j => decide (i < j)) (fun x y => ltS x y) a b
  | .LtE => ordD (fun i j => decide (i ≤ j)) (fun x y => !ltS y x) a b
  | .Gt => ordD (fun i j => decide (j < i)) (fun x y => ltS y x) a b
  | .GtE => ordD (fun i j => decide (j ≤ i)) (fun x y => !ltS x y) a b
  | .Is => sameD a b
  | .IsNot => (sameD a b).map (!·)
  | .In => inD a b S
  | .NotIn => (inD a b S).map (!·)
def ixD (a i : D) (S : Sto) : Option D := match a with
  | .tup xs => (match i with
    | .int k => L2.atI xs k
    | _ => none)
  | .lst xs => (match i with
    | .int k => L2.atI xs k
    | _ => none)
  | .rol ns => (match i with
    | .int k => (L2.atI ns k).map .int
    | _ => none)
  | .str z => (match i with
    | .int k => if z.length ≤ LIM then (L2.atI z.cps.toList k).map sgn else none
    | _ => none)
  | .dic kvs => (match i.ky with
    | some k => vget kvs k
    | none => none)
  | .dit kvs => (match i.tky with
    | some k => vget kvs k
    | none => none)
  | .ref n => (match S.get n with
    | some (.lst xs) => (match i with
      | .int k => L2.atI xs k
      | _ => none)
    | some (.dic kvs) => (match i.ky with
      | some k => vget kvs k
      | none => none)
    | some (.dit kvs) => (match i.tky with
      | some k => vget kvs k
      | none => none)
    | _ => none)
  | _ => none
def optI : Option D → Option (Option Int)
  | none => some none
  | some (.int i) => some (some i)
  | _ => none
def slD (a : D) (lo hi : Option Int) (S : Sto) : Option D := match a with
  | .tup xs => some (.tup (cut xs lo hi))
  | .lst xs => some (.lst (cut xs lo hi))
  | .rol ns => some (.lst ((cut ns lo hi).map .int))
  | .str z => if z.length ≤ LIM then some (.str ⟨(cut z.cps.toList lo hi).toArray⟩) else none
  | .ref n => (match S.get n with
    | some (.lst xs) => some (.lst (cut xs lo hi))
    | _ => none)
  | _ => none
/-- what a row holds, as it stands -/
def rowOf (d : D) (S : Sto) : Option (List D) := match d with
  | .tup xs => some xs
  | .lst xs => some xs
  | .rol ns => some (ns.map .int)
  | .ref n => (match S.get n with
    | some (.lst xs) => some xs
    | _ => none)
  | _ => none
/-- built-in functions -/
inductive Bi where
  | len | int | abs | max | min | sum | all | any | sorted | list | tuple | dict | str
  deriving DecidableEq
def maxL : Int → List Int → Int
  | m, [] => m
  | m, x :: r => maxL (if x > m then x else m) r
def minL : Int → List Int → Int
  | m, [] => m
  | m, x :: r => minL (if x < m then x else m) r
def lenD (d : D) (S : Sto) : Option D := match d with
  | .str x => if x.length ≤ LIM then some (.int x.length) else none
  | .tup xs => some (.int xs.length)
  | .lst xs => some (.int xs.length)
  | .rol xs => some (.int xs.length)
  | .dic kvs => some (.int kvs.length)
  | .ref n => (match S.get n with
    | some (.lst xs) => some (.int xs.length)
    | some (.dic kvs) => some (.int kvs.length)
    | _ => none)
  | _ => none
def sortLD (xs : List D) : Option D := if xs.length < 64 then (match strsOf xs with
  | some ss => some (.lst ((sortS ss).map .str))
  | none => (match intsOf xs with
    | some ns => some (.lst ((sortI ns).map .int))
    | none => none)) else none
def sortKD (ks : List Ky) : Option D := if ks.length < 64 then (match kstrs ks with
  | some ss => some (.lst ((sortS ss).map .str))
  | none => (match kints ks with
    | some ns => some (.lst ((sortI ns).map .int))
    | none => none)) else none
def sortD (d : D) (S : Sto) : Option D := match d with
  | .lst xs => sortLD xs
  | .dic kvs => sortKD (kvs.map (·.1))
  | .ref n => (match S.get n with
    | some (.lst xs) => sortLD xs
    | some (.dic kvs) => sortKD (kvs.map (·.1))
    | _ => none)
  | _ => none
def listD (d : D) (S : Sto) : Option D := match d with
  | .dic kvs => some (.lst (kvs.map fun kv => kv.1.d))
  | .tup xs => some (.lst xs)
  | .lst xs => some (.lst xs)
  | .ref n => (match S.get n with
    | some (.lst xs) => some (.lst xs)
    | some (.dic kvs) => some (.lst (kvs.map fun kv => kv.1.d))
    | _ => none)
  | _ => none
def tupleD (d : D) (S : Sto) : Option D := match d with
  | .tup xs => some (.tup xs)
  | .lst xs => some (.tup xs)
  | .ref n => (match S.get n with
    | some (.lst xs) => some (.tup xs)
    | _ => none)
  | _ => none
def dictD (d : D) (S : Sto) : Option D := match d with
  | .dic kvs => some (.dic kvs)
  | .lst xs => (pairsOf xs).map fun kvs => .dic (merge [] kvs)
  | .ref n => (match S.get n with
    | some (.dic kvs) => some (.dic kvs)
    | _ => none)
  | _ => none
def strD (d : D) : Option D := match d with
  | .int i => if i.natAbs < 1000000000000000000 then some (.str (Str.ofString (toString i))) else none
  | .str x => some (.str x)
  | _ => none
def intD (d : D) : Option D := match d with
  | .int i => some (.int i)
  | .bl b => some (.int (if b then 1 else 0))
  | _ => none
def max1D (d : D) : Option D := match d with
  | .lst xs => (match intsOf xs with
    | some (x :: r) => some (.int (maxL x r))
    | _ => none)
  | _ => none
def min1D (d : D) : Option D := match d with
  | .lst xs => (match intsOf xs with
    | some (x :: r) => some (.int (minL x r))
    | _ => none)
  | _ => none
def sumD (d : D) : Option D := match d with
  | .lst xs => (intsOf xs).map fun ns => .int ns.sum
  | _ => none
def allD (d : D) : Option D := match d with
  | .lst xs => (blsOf xs).map fun bs => .bl (bs.all id)
  | _ => none
def anyD (d : D) : Option D := match d with
  | .lst xs => (blsOf xs).map fun bs => .bl (bs.any id)
  | _ => none
def absD (d : D) : Option D := match d with
  | .int i => some (.int (if i < 0 then -i else i))
  | _ => none
def bi1 (b : Bi) (d : D) (S : Sto) : Option D := match b with
  | .len => lenD d S
  | .int => intD d
  | .abs => absD d
  | .max => max1D d
  | .min => min1D d
  | .sum => sumD d
  | .all => allD d
  | .any => anyD d
  | .sorted => sortD d S
  | .list => listD d S
  | .tuple => tupleD d S
  | .dict => dictD d S
  | .str => strD d
def bi2 (b : Bi) (x y : D) : Option D := match b, x, y with
  | .max, .int i, .int j => some (.int (if j > i then j else i))
  | .min, .int i, .int j => some (.int (if j < i then j else i))
  | _, _, _ => none
def biD (b : Bi) (as : List D) (S : Sto) : Option D := match as with
  | [d] => bi1 b d S
  | [x, y] => bi2 b x y
  | _ => none
/-- the types that isinstance asks for -/
inductive Ty where
  | int | bool | str | tuple | list | dict
  deriving DecidableEq
def isTy (d : D) (t : Ty) : Option Bool := match d with
  | .non => some false
  | .bl _ => some (t == .bool || t == .int)
  | .int _ => some (t == .int)
  | .str _ => some (t == .str)
  | .tup _ => some (t == .tuple)
  | .lst _ => some (t == .list)
  | .rol _ => some (t == .list)
  | .dic _ => some (t == .dict)
  | .dit _ => none
  | .ref _ => none
/-! ### the language -/
inductive Tg where
  | nm (i : Nat) | tp (ts : List Tg)
inductive Ex where
  | var (i : Nat)
  | con (d : D)
  | glo (x : Str) (d : D)
  | tup (es : List Ex)
  | lst (es : List Ex)
  | dk                                    -- {}, keys ints and texts
  | dt                                    -- {}, keys tuples
  | mut (e : Ex)                          -- a fresh list or dict that will be changed
  | op (o : Operator) (a b : Ex)
  | neg (a : Ex)
  | cmp (o : CmpOp) (a b : Ex)
  | chn (o p : CmpOp) (a b c : Ex)
  | and (es : List Ex)
  | or (es : List Ex)
  | not (a : Ex)
  | ite (c a b : Ex)
  | ix (a i : Ex)
  | sl (a : Ex)
  | slL (a lo : Ex)
  | slH (a hi : Ex)
  | slB (a lo hi : Ex)
  | rev (a : Ex)
  | call (f : Nat) (es : List Ex)
  | make (C : Nat) (es : List Ex)
  | meth (o : Ex) (m : Str) (es : List Ex)
  | bi (b : Bi) (es : List Ex)
  | isi (e : Ex) (t : Ty)
  | get1 (o k : Ex)
  | get2 (o k d : Ex)
  | app (o e : Ex)                        -- o.append(e)
  | ext (o e : Ex)                        -- o.extend(e)
  | pop (o : Ex)
  | fld (e : Ex) (f : Str)
  | lc (elt : Ex) (tg : Tg) (it : Ex) (cnd : List Ex) (own : List Nat)
  | lc2 (elt : Ex) (tg : Tg) (it : Ex) (tg1 : Tg) (it1 : Ex) (own own1 : List Nat)
  | dc (k v : Ex) (tg : Tg) (it : Ex) (cnd : List Ex) (own : List Nat)
  -- what is walked
  | itv (a : Ex) | rg1 (a : Ex) | rg2 (a b : Ex) | rg3 (a b c : Ex) | enm (a : Ex) | zp (a b : Ex) | itm (a : Ex) | vls (a : Ex) | rvd (a : Ex)
/-- what stands in an except suite: simple expressions, the fields of the error -/
inductive Sx where
  | con (d : D) | glo (x : Str) (d : D) | var (i : Nat) | xf (f : Str) | tup (es : List Sx)
inductive Sh where
  | ret (e : Sx) | set (i : Nat) (e : Sx) | cnt | pas
structure Hd where
  C : Nat
  x : Option Nat
  body : Sh
inductive Sm where
  | asg (t : Tg) (e : Ex)
  | asgS (o i e : Ex)
  | asgA (o : Ex) (f : Str) (e : Ex)
  | par (ns : List Nat) (es : List Ex)      -- a, b = x, y, plain local names
  | swp (o1 i1 o2 i2 : Ex) (es : List Ex)   -- o1[i1], o2[i2] = x, y
  | aug (i : Nat) (o : Operator) (e : Ex)
  | augA (o : Ex) (f : Str) (op : Operator) (e : Ex)
  | ex (e : Ex)
  | ret (e : Ex)
  | retN
  | ifs (c : Ex) (a b : List Sm)
  | fors (t : Tg) (it : Ex) (body : List Sm)
  | whl (c : Ex) (body : List Sm)
  | rai (C : Nat) (es : List Ex)
  | try_ (body : List Sm) (hs : List Hd)
  | brk | cnt | pas
/-! ### the evaluator -/
structure Ctx where
  F : Nat → List D → Sto → R D
  M : Nat → Str → Option Nat
  I : Nat → Option Nat
  sub : Nat → Nat → Bool
  xf : Nat → Option (Option Str)
  fuel : Nat
def Env.get (ρ : Env) (i : Nat) : Option D := match ρ[i]? with
  | some o => o
  | none => none
def wipe (ρ : Env) : List Nat → Env
  | [] => ρ
  | v :: vs => (wipe ρ vs).set v none
mutual
def bindT : Tg → D → Env → Option Env
  | .nm i, d, ρ => if i < ρ.length then some (ρ.set i (some d)) else none
  | .tp ts, d, ρ => match d with
    | .tup xs => bindTs ts xs ρ
    | .lst xs => bindTs ts xs ρ
    | _ => none
def bindTs : List Tg → List D → Env → Option Env
  | [], [], ρ => some ρ
  | t :: ts, x :: xs, ρ => match bindT t x ρ with
    | some ρ' => bindTs ts xs ρ'
    | none => none
  | _, _, _ => none
end
def zipD : List D → List D → List D
  | x :: xs, y :: ys => .tup [x, y] :: zipD xs ys
  | _, _ => []
def enumD : Nat → List D → List D
  | _, [] => []
  | n, x :: xs => .tup [.int n, x] :: enumD (n + 1) xs
def rangeD (lo : Int) : Nat → List D
  | 0 => []
  | n + 1 => .int lo :: rangeD (lo + 1) n
def rangeC (lo c : Int) : Nat → List D
  | 0 => []
  | n + 1 => .int lo :: rangeC (lo + c) c n
def SMALL : Int := 1000000000000000000
/-- what is walked over a value: its items, and the list in the store that must stay as it is -/
def itemsOf (d : D) (S : Sto) : Option (List D × Option Nat) := match d with
  | .tup xs => some (xs, none)
  | .lst xs => some (xs, none)
  | .rol ns => some (ns.map .int, none)
  | .str z => some (z.cps.toList.map sgn, none)
  | .dic kvs => some (kvs.map fun kv => kv.1.d, none)
  | .ref n => (match S.get n with
    | some (.lst xs) => some (xs, some n)
    | _ => none)
  | _ => none
/-- a row that is a value: it can not change -/
def stillOf (d : D) : Option (List D) := match d with
  | .tup xs => some xs
  | .lst xs => some xs
  | .rol ns => some (ns.map .int)
  | _ => none
def enmD (d : D) (S : Sto) : Option (List D × Option Nat) := match d with
  | .str _ => none
  | .dic _ => none
  | d => (itemsOf d S).map fun p => (enumD 0 p.1, p.2)
def zpD (x y : D) : Option (List D × Option Nat) := match stillOf x, stillOf y with
  | some xs, some ys => some (zipD xs ys, none)
  | _, _ => none
def itmD (d : D) : Option (List D × Option Nat) := match d with
  | .dic kvs => some (kvs.map fun kv => .tup [kv.1.d, kv.2], none)
  | _ => none
def vlsD (d : D) : Option (List D × Option Nat) := match d with
  | .dic kvs => some (kvs.map fun kv => kv.2, none)
  | _ => none
def rvdD (d : D) : Option (List D × Option Nat) := match d with
  | .tup xs => some (xs.reverse, none)
  | .lst xs => some (xs.reverse, none)
  | .rol ns => some ((ns.map D.int).reverse, none)
  | _ => none
def mapR (f : D → Sto → R D) : List D → Sto → R (List D)
  | [], S => .ok [] S
  | x :: xs, S => (f x S).bind fun y S => (mapR f xs S).bind fun ys S => .ok (y :: ys) S
/-- a comprehension's turns: f gives the element, or nothing -/
def compR {α : Type} (f : D → Sto → R (Option α)) : List D → Sto → R (List α)
  | [], S => .ok [] S
  | x :: xs, S => (f x S).bind fun o S => (compR f xs S).bind fun ys S => .ok (match o with | some y => y :: ys | none => ys) S
def noExc {α : Type} (r : R α) : R α := match r with
  | .exc _ _ _ => .no
  | r => r
def held (g : Option Nat) (S S' : Sto) : Bool := match g with
  | none => true
  | some n => decide (S.get n = S'.get n)
def lcF (ev : Env → Sto → R D) (al : Env → Sto → R Bool) (tg : Tg) (own : List Nat) (ρ : Env) (g : Option Nat) (x : D) (S' : Sto) : R (Option D) := match bindT tg x (wipe ρ own) with
  | some ρ' => noExc ((al ρ' S').bind fun c S => if c then (ev ρ' S).bind fun y S => if held g S' S then .ok (some y) S else .no
    else if held g S' S then .ok none S else .no)
  | none => .no
def dcF (ek ev : Env → Sto → R D) (al : Env → Sto → R Bool) (tg : Tg) (own : List Nat) (ρ : Env) (g : Option Nat) (x : D) (S' : Sto) : R (Option (Ky × D)) := match bindT tg x (wipe ρ own) with
  | some ρ' => noExc ((al ρ' S').bind fun c S => if c then (ek ρ' S).bind fun y S => (ev ρ' S).bind fun z S => (match y.ky with
      | some kk => if held g S' S then .ok (some (kk, z)) S else .no
      | none => .no)
    else if held g S' S then .ok none S else .no)
  | none => .no
def lc2F (ev : Env → Sto → R D) (eI : Env → Sto → R (List D × Option Nat)) (tg tg1 : Tg) (own own1 : List Nat) (ρ : Env) (g : Option Nat) (x : D) (S' : Sto) : R (Option (List D)) := match bindT tg x (wipe ρ own) with
  | some ρ' => noExc ((eI ρ' S').bind fun q S => (compR (lcF ev (fun _ S => .ok true S) tg1 own1 ρ' q.2) q.1 S).bind fun ys S => if held g S' S then .ok (some ys) S else .no)
  | none => .no
def newO (d : D) (S : Sto) : R D := match d with
  | .lst xs => .ok (.ref S.length) (S ++ [.lst xs])
  | .dic kvs => .ok (.ref S.length) (S ++ [.dic kvs])
  | .dit kvs => .ok (.ref S.length) (S ++ [.dit kvs])
  | _ => .no
def get1D (d k : D) (S : Sto) : Option (Option D) := match d with
  | .dic kvs => k.ky.map fun k => vget kvs k
  | .dit kvs => k.tky.map fun k => vget kvs k
  | .ref n => (match S.get n with
    | some (.dic kvs) => k.ky.map fun k => vget kvs k
    | some (.dit kvs) => k.tky.map fun k => vget kvs k
    | _ => none)
  | _ => none
def isD (d : D) (S : Sto) : Bool := match d with
  | .dic _ | .dit _ => true
  | .ref n => (match S.get n with
    | some (.dic _) => true
    | some (.dit _) => true
    | _ => false)
  | _ => false
def isL (d : D) (S : Sto) : Bool := match d with
  | .ref n => (match S.get n with
    | some (.lst _) => true
    | _ => false)
  | _ => false
def appD (d x : D) (S : Sto) : R D := match d with
  | .ref n => (match S.get n with
    | some (.lst xs) => if xs.length < LIM then .ok .non (S.set n (.lst (xs ++ [x]))) else .no
    | _ => .no)
  | _ => .no
def extD (d x : D) (S : Sto) : R D := match d with
  | .ref n => (match S.get n with
    | some (.lst xs) => (match x with
      | .lst ys => if xs.length + ys.length ≤ LIM then .ok .non (S.set n (.lst (xs ++ ys))) else .no
      | _ => .no)
    | _ => .no)
  | _ => .no
def popD (d : D) (S : Sto) : R D := match d with
  | .ref n => (match S.get n with
    | some (.lst xs) => (match xs[xs.length - 1]? with
      | some x => .ok x (S.set n (.lst xs.dropLast))
      | none => .no)
    | _ => .no)
  | _ => .no
def setD (o i v : D) (S : Sto) : Option Sto := match o with
  | .ref n => (match S.get n with
    | some (.lst xs) => (match i with
      | .int k => (L2.ixN xs.length k).map fun j => S.set n (.lst (xs.set j v))
      | _ => none)
    | some (.dic kvs) => (match i.ky with
      | some k => if kvs.length < LIM then some (S.set n (.dic (vput kvs k v))) else none
      | none => none)
    | some (.dit kvs) => (match i.tky with
      | some k => if kvs.length < LIM then some (S.set n (.dit (vput kvs k v))) else none
      | none => none)
    | _ => none)
  | _ => none
def fldD (d : D) (f : Str) (S : Sto) : Option D := match d with
  | .ref n => (match S.get n with
    | some (.ins _ fs) => fs.lookup f
    | _ => none)
  | _ => none
def putFld (f : Str) (v : D) : List (Str × D) → List (Str × D)
  | [] => [(f, v)]
  | p :: r => if p.1 = f then (f, v) :: r else p :: putFld f v r
def setF (d : D) (f : Str) (v : D) (S : Sto) : Option Sto := match d with
  | .ref n => (match S.get n with
    | some (.ins C fs) => if fs.length < 900 then some (S.set n (.ins C (putFld f v fs))) else none
    | _ => none)
  | _ => none
def clsD (d : D) (m : Str) (S : Sto) : Option Nat := match d with
  | .ref n => (match S.get n with
    | some (.ins C fs) => if fs.lookup m = none then some C else none
    | _ => none)
  | _ => none
mutual
def evE (Γ : Ctx) : Ex → Env → Sto → R D
  | .var i, ρ, S => R.of (ρ.get i) S
  | .con d, _, S => .ok d S
  | .glo _ d, _, S => .ok d S
  | .tup es, ρ, S => (evL Γ es ρ S).bind fun ds S => if ds.length ≤ LIM then .ok (.tup ds) S else .no
  | .lst es, ρ, S => (evL Γ es ρ S).bind fun ds S => if ds.length ≤ LIM then .ok (.lst ds) S else .no
  | .dk, _, S => .ok (.dic []) S
  | .dt, _, S => .ok (.dit []) S
  | .mut e, ρ, S => (evE Γ e ρ S).bind newO
  | .op o a b, ρ, S => (evE Γ a ρ S).bind fun x S => (evE Γ b ρ S).bind fun y S => R.of (opD o x y) S
  | .neg a, ρ, S => (evE Γ a ρ S).bind fun x S => match x with
    | .int i => .ok (.int (-i)) S
    | _ => .no
  | .cmp o a b, ρ, S => (evE Γ a ρ S).bind fun x S => (evE Γ b ρ S).bind fun y S => match cmpD o x y S with
    | some c => .ok (.bl c) S
    | none => .no
  | .chn o p a b c, ρ, S => (evE Γ a ρ S).bind fun x S => (evE Γ b ρ S).bind fun y S => match cmpD o x y S with
    | some true => (evE Γ c ρ S).bind fun z S => (match cmpD p y z S with
      | some k => .ok (.bl k) S
      | none => .no)
    | some false => .ok (.bl false) S
    | none => .no
  | .and es, ρ, S => evAnd Γ es ρ S
  | .or es, ρ, S => evOr Γ es ρ S
  | .not a, ρ, S => (evE Γ a ρ S).bind fun x S => match x with
    | .bl c => .ok (.bl (!c)) S
    | _ => .no
  | .ite c a b, ρ, S => (evE Γ c ρ S).bind fun x S => match x with
    | .bl true => evE Γ a ρ S
    | .bl false => evE Γ b ρ S
    | _ => .no
  | .ix a i, ρ, S => (evE Γ a ρ S).bind fun x S => (evE Γ i ρ S).bind fun y S => R.of (ixD x y S) S
  | .sl a, ρ, S => (evE Γ a ρ S).bind fun x S => R.of (slD x none none S) S
  | .slL a lo, ρ, S => (evE Γ a ρ S).bind fun x S => (evE Γ lo ρ S).bind fun l S => match l with
    | .int i => R.of (slD x (some i) none S) S
    | _ => .no
  | .slH a hi, ρ, S => (evE Γ a ρ S).bind fun x S => (evE Γ hi ρ S).bind fun h S => match h with
    | .int j => R.of (slD x none (some j) S) S
    | _ => .no
  | .slB a lo hi, ρ, S => (evE Γ a ρ S).bind fun x S => (evE Γ lo ρ S).bind fun l S => match l with
    | .int i => (evE Γ hi ρ S).bind fun h S => (match h with
      | .int j => R.of (slD x (some i) (some j) S) S
      | _ => .no)
    | _ => .no
  | .rev a, ρ, S => (evE Γ a ρ S).bind fun x S => match x with
    | .tup xs => .ok (.tup xs.reverse) S
    | .lst xs => .ok (.lst xs.reverse) S
    | _ => .no
  | .call f es, ρ, S => (evL Γ es ρ S).bind fun ds S => Γ.F f ds S
  | .make C es, ρ, S => match Γ.I C with
    | some f => (evL Γ es ρ S).bind fun ds S => (Γ.F f (.ref S.length :: ds) (S ++ [.ins C []])).bind fun d S' => (match d with
      | .non => .ok (.ref S.length) S'
      | _ => .no)
    | none => .no
  | .meth o m es, ρ, S => (evE Γ o ρ S).bind fun x S => match clsD x m S with
    | some C => (match Γ.M C m with
      | some f => (evL Γ es ρ S).bind fun ds S => Γ.F f (x :: ds) S
      | none => .no)
    | none => .no
  | .bi b es, ρ, S => (evL Γ es ρ S).bind fun ds S => R.of (biD b ds S) S
  | .isi e t, ρ, S => (evE Γ e ρ S).bind fun x S => match isTy x t with
    | some c => .ok (.bl c) S
    | none => .no
  | .get1 o k, ρ, S => (evE Γ o ρ S).bind fun x S => if isD x S then (evE Γ k ρ S).bind fun y S => (match get1D x y S with
      | some r => .ok (r.getD .non) S
      | none => .no) else .no
  | .get2 o k d, ρ, S => (evE Γ o ρ S).bind fun x S => if isD x S then (evE Γ k ρ S).bind fun y S => (evE Γ d ρ S).bind fun z S => (match get1D x y S with
      | some r => .ok (r.getD z) S
      | none => .no) else .no
  | .app o e, ρ, S => (evE Γ o ρ S).bind fun x S => if isL x S then (evE Γ e ρ S).bind fun y S => appD x y S else .no
  | .ext o e, ρ, S => (evE Γ o ρ S).bind fun x S => if isL x S then (evE Γ e ρ S).bind fun y S => extD x y S else .no
  | .pop o, ρ, S => (evE Γ o ρ S).bind fun x S => popD x S
  | .fld e f, ρ, S => (evE Γ e ρ S).bind fun x S => R.of (fldD x f S) S
  | .lc elt tg it cnd own, ρ, S => (evI Γ it ρ S).bind fun p S => (compR (lcF (fun ρ S => evE Γ elt ρ S) (fun ρ S => evAll Γ cnd ρ S) tg own ρ p.2) p.1 S).bind fun ys S => if ys.length ≤ LIM then .ok (.lst ys) S else .no
  | .lc2 elt tg it tg1 it1 own own1, ρ, S => (evI Γ it ρ S).bind fun p S => (compR (lc2F (fun ρ S => evE Γ elt ρ S) (fun ρ S => evI Γ it1 ρ S) tg tg1 (own ++ own1) own1 ρ p.2) p.1 S).bind fun yss S => if yss.flatten.length ≤ LIM then .ok (.lst yss.flatten) S else .no
  | .dc k v tg it cnd own, ρ, S => (evI Γ it ρ S).bind fun p S => (compR (dcF (fun ρ S => evE Γ k ρ S) (fun ρ S => evE Γ v ρ S) (fun ρ S => evAll Γ cnd ρ S) tg own ρ p.2) p.1 S).bind fun ys S => if ys.length ≤ LIM then .ok (.dic (merge [] ys)) S else .no
  | .itv _, _, _ | .rg1 _, _, _ | .rg2 _ _, _, _ | .rg3 _ _ _, _, _ | .enm _, _, _ | .zp _ _, _, _ | .itm _, _, _ | .vls _, _, _ | .rvd _, _, _ => .no
termination_by structural e => e
def evL (Γ : Ctx) : List Ex → Env → Sto → R (List D)
  | [], _, S => .ok [] S
  | e :: es, ρ, S => (evE Γ e ρ S).bind fun x S => (evL Γ es ρ S).bind fun xs S => .ok (x :: xs) S
termination_by structural e => e
def evAnd (Γ : Ctx) : List Ex → Env → Sto → R D
  | [], _, _ => .no
  | [e], ρ, S => evE Γ e ρ S
  | e :: es, ρ, S => (evE Γ e ρ S).bind fun x S => match x with
    | .bl true => evAnd Γ es ρ S
    | .bl false => .ok (.bl false) S
    | _ => .no
termination_by structural e => e
def evOr (Γ : Ctx) : List Ex → Env → Sto → R D
  | [], _, _ => .no
  | [e], ρ, S => evE Γ e ρ S
  | e :: es, ρ, S => (evE Γ e ρ S).bind fun x S => match x with
    | .bl false => evOr Γ es ρ S
    | .bl true => .ok (.bl true) S
    | _ => .no
termination_by structural e => e
/-- all tests of a comprehension -/
def evAll (Γ : Ctx) : List Ex → Env → Sto → R Bool
  | [], _, S => .ok true S
  | e :: es, ρ, S => (evE Γ e ρ S).bind fun x S => match x with
    | .bl true => evAll Γ es ρ S
    | .bl false => .ok false S
    | _ => .no
termination_by structural e => e
def evI (Γ : Ctx) : Ex → Env → Sto → R (List D × Option Nat)
  | .rg1 a, ρ, S => (evE Γ a ρ S).bind fun x S => match x with
    | .int j => if -SMALL ≤ j ∧ j ≤ SMALL then .ok (rangeD 0 j.toNat, none) S else .no
    | _ => .no
  | .rg2 a b, ρ, S => (evE Γ a ρ S).bind fun x S => (evE Γ b ρ S).bind fun y S => match x, y with
    | .int i, .int j => if -SMALL ≤ i ∧ i ≤ SMALL ∧ -SMALL ≤ j ∧ j ≤ SMALL then .ok (rangeD i (j - i).toNat, none) S else .no
    | _, _ => .no
  | .rg3 a b c, ρ, S => (evE Γ a ρ S).bind fun x S => (evE Γ b ρ S).bind fun y S => (evE Γ c ρ S).bind fun z S => match x, y, z with
    | .int i, .int j, .int k => if -SMALL ≤ i ∧ i ≤ SMALL ∧ -SMALL ≤ j ∧ j ≤ SMALL ∧ k = -1 then .ok (rangeC i (-1) (i - j).toNat, none) S else .no
    | _, _, _ => .no
  | .enm a, ρ, S => (evE Γ a ρ S).bind fun x S => R.of (enmD x S) S
  | .zp a b, ρ, S => (evE Γ a ρ S).bind fun x S => (evE Γ b ρ S).bind fun y S => R.of (zpD x y) S
  | .itm a, ρ, S => (evE Γ a ρ S).bind fun x S => R.of (itmD x) S
  | .vls a, ρ, S => (evE Γ a ρ S).bind fun x S => R.of (vlsD x) S
  | .rvd a, ρ, S => (evE Γ a ρ S).bind fun x S => R.of (rvdD x) S
  | .itv e, ρ, S => (evE Γ e ρ S).bind fun x S => R.of (itemsOf x S) S
  | _, _, _ => .no
termination_by structural e => e
end
inductive Fl where
  | nx (ρ : Env) | ret (d : D) | brk (ρ : Env) | cnt (ρ : Env)
inductive RS where
  | ok (f : Fl) (S : Sto)
  | exc (C : Nat) (fs : List (Str × D)) (ρ : Env) (S : Sto)
  | no
/-- an expression's end goes on in a statement -/
def R.go {α : Type} (r : R α) (ρ : Env) (k : α → Sto → RS) : RS := match r with
  | .ok a S => k a S
  | .exc C fs S => .exc C fs ρ S
  | .no => .no
def RS.seq (r : RS) (k : Env → Sto → RS) : RS := match r with
  | .ok (.nx ρ) S => k ρ S
  | r => r
def forR (g : Option Nat) (step : D → Env → Sto → RS) : List D → Env → Sto → RS
  | [], ρ, S => .ok (.nx ρ) S
  | x :: xs, ρ, S => match step x ρ S with
    | .ok (.nx ρ') S' => if held g S S' then forR g step xs ρ' S' else .no
    | .ok (.cnt ρ') S' => if held g S S' then forR g step xs ρ' S' else .no
    | .ok (.brk ρ') S' => .ok (.nx ρ') S'
    | r => r
def forF (body : Env → Sto → RS) (t : Tg) (x : D) (ρ : Env) (S : Sto) : RS := match bindT t x ρ with
  | some ρ' => body ρ' S
  | none => .no
def whileR (c : Env → Sto → R D) (b : Env → Sto → RS) : Nat → Env → Sto → RS
  | 0, _, _ => .no
  | n + 1, ρ, S => (c ρ S).go ρ fun d S => match d with
    | .bl true => (match b ρ S with
      | .ok (.nx ρ') S' => whileR c b n ρ' S'
      | .ok (.cnt ρ') S' => whileR c b n ρ' S'
      | .ok (.brk ρ') S' => .ok (.nx ρ') S'
      | r => r)
    | .bl false => .ok (.nx ρ) S
    | _ => .no
mutual
def evX (fs : List (Str × D)) : Sx → Env → Option D
  | .con d, _ => some d
  | .glo _ d, _ => some d
  | .var i, ρ => ρ.get i
  | .xf f, _ => fs.lookup f
  | .tup es, ρ => match evXs fs es ρ with
    | some ds => if ds.length ≤ LIM then some (.tup ds) else none
    | none => none
def evXs (fs : List (Str × D)) : List Sx → Env → Option (List D)
  | [], _ => some []
  | e :: es, ρ => match evX fs e ρ, evXs fs es ρ with
    | some d, some ds => some (d :: ds)
    | _, _ => none
end
def evH (fs : List (Str × D)) (h : Sh) (ρ : Env) (S : Sto) : RS := match h with
  | .ret e => (match evX fs e ρ with
    | some d => .ok (.ret d) S
    | none => .no)
  | .set i e => (match evX fs e ρ with
    | some d => if i < ρ.length then .ok (.nx (ρ.set i (some d))) S else .no
    | none => .no)
  | .cnt => .ok (.cnt ρ) S
  | .pas => .ok (.nx ρ) S
def handle (Γ : Ctx) (C : Nat) (fs : List (Str × D)) (ρ : Env) (S : Sto) : List Hd → RS
  | [] => .exc C fs ρ S
  | h :: hs => if Γ.sub C h.C then evH fs h.body (match h.x with | some i => ρ.set i none | none => ρ) S else handle Γ C fs ρ S hs
def incOp (o : Operator) (x y : D) : Option D := match o, x, y with
  | .Add, .int i, .int j => some (.int (i + j))
  | .Sub, .int i, .int j => some (.int (i - j))
  | .Mult, .int i, .int j => if (-BIG < i ∧ i < BIG) ∨ (-BIG < j ∧ j < BIG) then some (.int (i * j)) else none
  | .FloorDiv, .int i, .int j => if 0 < j ∧ j < 1073741824 then some (.int (i / j)) else none
  | _, _, _ => none
def setAll : List Nat → List D → Env → Option Env
  | [], [], ρ => some ρ
  | n :: ns, d :: ds, ρ => if n < ρ.length then setAll ns ds (ρ.set n (some d)) else none
  | _, _, _ => none
def sameC (x : D) (S S' : Sto) : Bool := match x with
  | .ref n => (match S.get n with
    | some (.ins C _) => (match S'.get n with
      | some (.ins C' _) => decide (C = C')
      | _ => false)
    | _ => false)
  | _ => false
mutual
def evS (Γ : Ctx) : Sm → Env → Sto → RS
  | .asg t e, ρ, S => (evE Γ e ρ S).go ρ fun d S => match bindT t d ρ with
    | some ρ' => .ok (.nx ρ') S
    | none => .no
  | .asgS o i e, ρ, S => (evE Γ e ρ S).go ρ fun v S => (evE Γ o ρ S).go ρ fun x S => (evE Γ i ρ S).go ρ fun y S => match setD x y v S with
    | some S' => .ok (.nx ρ) S'
    | none => .no
  | .asgA o f e, ρ, S => (evE Γ e ρ S).go ρ fun v S => (evE Γ o ρ S).go ρ fun x S => match setF x f v S with
    | some S' => .ok (.nx ρ) S'
    | none => .no
  | .par ns es, ρ, S => (evL Γ es ρ S).go ρ fun ds S => match setAll ns ds ρ with
    | some ρ' => .ok (.nx ρ') S
    | none => .no
  | .swp o1 i1 o2 i2 es, ρ, S => (evL Γ es ρ S).go ρ fun ds S => match ds with
    | [u, v] => (evE Γ o1 ρ S).go ρ fun x S => (evE Γ i1 ρ S).go ρ fun y S => (match setD x y u S with
      | some S => (evE Γ o2 ρ S).go ρ fun x S => (evE Γ i2 ρ S).go ρ fun y S => (match setD x y v S with
        | some S => .ok (.nx ρ) S
        | none => .no)
      | none => .no)
    | _ => .no
  | .aug i o e, ρ, S => match ρ.get i with
    | some x => (evE Γ e ρ S).go ρ fun y S => (match incOp o x y with
      | some z => .ok (.nx (ρ.set i (some z))) S
      | none => .no)
    | none => .no
  | .augA o f op e, ρ, S => (evE Γ o ρ S).go ρ fun x S => match fldD x f S with
    | some v => (evE Γ e ρ S).go ρ fun y S' => if sameC x S S' then (match incOp op v y with
      | some z => (match setF x f z S' with
        | some S' => .ok (.nx ρ) S'
        | none => .no)
      | none => .no) else .no
    | none => .no
  | .ex e, ρ, S => (evE Γ e ρ S).go ρ fun _ S => .ok (.nx ρ) S
  | .ret e, ρ, S => (evE Γ e ρ S).go ρ fun d S => .ok (.ret d) S
  | .retN, _, S => .ok (.ret .non) S
  | .ifs c a b, ρ, S => (evE Γ c ρ S).go ρ fun d S => match d with
    | .bl true => evSs Γ a ρ S
    | .bl false => evSs Γ b ρ S
    | _ => .no
  | .fors t it body, ρ, S => (evI Γ it ρ S).go ρ fun p S => forR p.2 (forF (fun ρ S => evSs Γ body ρ S) t) p.1 ρ S
  | .whl c body, ρ, S => whileR (fun ρ S => evE Γ c ρ S) (fun ρ S => evSs Γ body ρ S) Γ.fuel ρ S
  | .rai C es, ρ, S => (evL Γ es ρ S).go ρ fun ds S => match Γ.xf C with
    | some (some f) => (match ds with
      | [d] => .exc C [(f, d)] ρ S
      | _ => .no)
    | some none => (match ds with
      | [.str _] => .exc C [] ρ S
      | _ => .no)
    | none => .no
  | .try_ body hs, ρ, S => match evSs Γ body ρ S with
    | .exc C fs ρ' S' => handle Γ C fs ρ' S' hs
    | r => r
  | .brk, ρ, S => .ok (.brk ρ) S
  | .cnt, ρ, S => .ok (.cnt ρ) S
  | .pas, ρ, S => .ok (.nx ρ) S
termination_by structural s => s
def evSs (Γ : Ctx) : List Sm → Env → Sto → RS
  | [], ρ, S => .ok (.nx ρ) S
  | s :: ss, ρ, S => (evS Γ s ρ S).seq fun ρ S => evSs Γ ss ρ S
termination_by structural s => s
end
/-! ### functions -/
structure Fn where
  at_ : Str × Option Str
  N : List Str
  ps : List Str
  body : List Sm
structure Cl where
  name : Str
  init : Option Nat
  meths : List (Str × Nat)
  exc : Option (Option Str)
  ups : List Nat
structure Prog where
  fns : List Fn
  cls : List Cl
  fuel : Nat
def oldOk (n : Nat) (S S' : Sto) : Bool := (List.range n).all fun i => decide (S'[i]? = S[i]?) || (match S'[i]? with
  | some (.lst xs) => belowL n xs
  | some (.dic kvs) => belowK n kvs
  | some (.dit kvs) => belowT n kvs
  | some (.ins _ fs) => fs.all fun p => below n p.2
  | none => false)
mutual
/-- a result as a value: what stands above n in the store is laid open -/
def frz (S : Sto) (n : Nat) : Nat → D → Option D
  | 0, _ => none
  | m + 1, d => match d with
    | .ref i => if i < n then some d else (match S[i]? with
      | some (.lst xs) => (frzL S n m xs).map .lst
      | _ => none)
    | .tup xs => (frzL S n m xs).map .tup
    | .lst xs => (frzL S n m xs).map .lst
    | .dic kvs => (frzK S n m kvs).map .dic
    | .dit kvs => (frzT S n m kvs).map .dit
    | d => some d
termination_by structural m => m
def frzL (S : Sto) (n : Nat) : Nat → List D → Option (List D)
  | 0, _ => none
  | m + 1, xs => match xs with
    | [] => some []
    | x :: r => (match frz S n m x, frzL S n m r with
      | some y, some ys => some (y :: ys)
      | _, _ => none)
termination_by structural m => m
def frzK (S : Sto) (n : Nat) : Nat → List (Ky × D) → Option (List (Ky × D))
  | 0, _ => none
  | m + 1, xs => match xs with
    | [] => some []
    | x :: r => (match frz S n m x.2, frzK S n m r with
      | some y, some ys => some ((x.1, y) :: ys)
      | _, _ => none)
termination_by structural m => m
def frzT (S : Sto) (n : Nat) : Nat → List (List Ky × D) → Option (List (List Ky × D))
  | 0, _ => none
  | m + 1, xs => match xs with
    | [] => some []
    | x :: r => (match frz S n m x.2, frzT S n m r with
      | some y, some ys => some ((x.1, y) :: ys)
      | _, _ => none)
termination_by structural m => m
end
def gc (S : Sto) (d : D) (S' : Sto) : R D :=
  if oldOk S.length S S' = true then (if below S.length d = true then .ok d (S'.take S.length) else (match frz S' S.length 10000 d with
    | some d' => .ok d' (S'.take S.length)
    | none => .ok d S')) else .ok d S'
def gcX (S : Sto) (C : Nat) (fs : List (Str × D)) (S' : Sto) : R D :=
  if oldOk S.length S S' = true ∧ (fs.all fun p => below S.length p.2) = true then .exc C fs (S'.take S.length) else .exc C fs S'
def fin (S : Sto) (r : RS) : R D := match r with
  | .ok (.nx _) S' => gc S .non S'
  | .ok (.ret d) S' => gc S d S'
  | .exc C fs _ S' => gcX S C fs S'
  | _ => .no
def Prog.sub (P : Prog) (C D : Nat) : Bool := decide (C = D) || (match P.cls[C]? with
  | some c => c.ups.contains D
  | none => false)
def Prog.ctx (P : Prog) (F : Nat → List D → Sto → R D) : Ctx where
  F := F
  M := fun C m => match P.cls[C]? with
    | some c => c.meths.lookup m
    | none => none
  I := fun C => match P.cls[C]? with
    | some c => c.init
    | none => none
  sub := P.sub
  xf := fun C => match P.cls[C]? with
    | some c => c.exc
    | none => none
  fuel := P.fuel
def run (P : Prog) : Nat → Nat → List D → Sto → R D
  | 0, _, _, _ => .no
  | k + 1, f, ds, S => match P.fns[f]? with
    | some fn => if ds.length = fn.ps.length then fin S (evSs (P.ctx (run P k)) fn.body (ds.map some ++ List.replicate (fn.N.length - ds.length) none) S) else .no
    | none => .no
end MP
end

section
set_option Elab.async false
set_option linter.all false
set_option maxRecDepth 100000
/-! MpLib: plain rules about the evaluator, for the laws' own mathematics. -/
namespace MP.Lb
open PySem
/-! what a call leaves -/
theorem oldOk_refl (S : Sto) : oldOk S.length S S = true := by
  unfold oldOk
  rw [List.all_eq_true]
  intro i _
  simp
theorem oldOk_append (S R : Sto) : oldOk S.length S (S ++ R) = true := by
  unfold oldOk
  rw [List.all_eq_true]
  intro i hi
  have := List.mem_range.mp hi
  rw [List.getElem?_append_left this]
  simp
mutual
/-- no place of the store is told -/
def dry : D → Bool
  | .tup xs => dryL xs
  | .lst xs => dryL xs
  | .dic kvs => dryK kvs
  | .dit _ => false
  | .ref _ => false
  | _ => true
def dryL : List D → Bool
  | [] => true
  | x :: xs => dry x && dryL xs
def dryK : List (Ky × D) → Bool
  | [] => true
  | (_, d) :: r => dry d && dryK r
end
mutual
theorem dry_below (n : Nat) : ∀ {d : D}, dry d = true → below n d = true
  | .tup xs, h => by simp only [dry] at h; simp only [below]; exact dry_belowL n h
  | .lst xs, h => by simp only [dry] at h; simp only [below]; exact dry_belowL n h
  | .dic kvs, h => by simp only [dry] at h; simp only [below]; exact dry_belowK n h
  | .dit _, h => by simp [dry] at h
  | .ref _, h => by simp [dry] at h
  | .non, _ | .bl _, _ | .int _, _ | .str _, _ | .rol _, _ => by simp [below]
theorem dry_belowL (n : Nat) : ∀ {d : List D}, dryL d = true → belowL n d = true
  | [], _ => by simp [belowL]
  | x :: xs, h => by
    simp only [dryL, Bool.and_eq_true] at h
    simp only [belowL, dry_below n h.1, dry_belowL n h.2]; rfl
theorem dry_belowK (n : Nat) : ∀ {d : List (Ky × D)}, dryK d = true → belowK n d = true
  | [], _ => by simp [belowK]
  | (k, x) :: xs, h => by
    simp only [dryK, Bool.and_eq_true] at h
    simp only [belowK, dry_below n h.1, dry_belowK n h.2]; rfl
end
/-- a result without places; the callee's own objects go -/
theorem gc_dry {S R : Sto} {d : D} (h : dry d = true) : gc S d (S ++ R) = .ok d S := by
  unfold gc
  rw [if_pos (oldOk_append S R), if_pos (dry_below _ h), List.take_left']
  rfl
theorem gc_dry0 {S : Sto} {d : D} (h : dry d = true) : gc S d S = .ok d S := by
  have := gc_dry (S := S) (R := []) h
  simpa using this
theorem gcX_dry {S R : Sto} {C : Nat} : gcX S C [] (S ++ R) = .exc C [] S := by
  unfold gcX
  rw [if_pos ⟨oldOk_append S R, rfl⟩, List.take_left']
  rfl
theorem gcX_dry0 {S : Sto} {C : Nat} : gcX S C [] S = .exc C [] S := by
  have := gcX_dry (S := S) (R := []) (C := C)
  simpa using this
/-- the callee's last own list is what it gives -/
theorem gc_lst {S : Sto} {xs : List D} (h : dryL xs = true) (hf : frzL (S ++ [.lst xs]) S.length 9999 xs = some xs) : gc S (.ref S.length) (S ++ [.lst xs]) = .ok (.lst xs) S := by
  unfold gc
  rw [if_pos (oldOk_append S _), if_neg (by simp [below])]
  have e : frz (S ++ [.lst xs]) S.length 10000 (.ref S.length) = some (.lst xs) := by
    simp only [frz]
    rw [if_neg (Nat.lt_irrefl _)]
    simp [hf]
  rw [e, List.take_left']
  rfl
/-! comprehensions over lists whose elements do nothing to the store -/
theorem compR_pure {α : Type} {f : D → Sto → R (Option α)} {S : Sto} {g : D → Option α} : ∀ {xs : List D}, (∀ x ∈ xs, f x S = .ok (g x) S) → compR f xs S = .ok (xs.filterMap g) S
  | [], _ => rfl
  | x :: xs, h => by
    have ih := compR_pure (xs := xs) fun y hy => h y (List.mem_cons_of_mem _ hy)
    simp only [compR, h x List.mem_cons_self, R.bind, ih]
    cases hg : g x with
    | none => simp [List.filterMap_cons, hg]
    | some y => simp [List.filterMap_cons, hg]
theorem lcF_val {ev : Env → Sto → R D} {al : Env → Sto → R Bool} {tg : Tg} {own : List Nat} {ρ ρ' : Env} {x y : D} {S : Sto} (hb : bindT tg x (wipe ρ own) = some ρ') (ha : al ρ' S = .ok true S) (he : ev ρ' S = .ok y S) (g : Option Nat) : lcF ev al tg own ρ g x S = .ok (some y) S := by
  unfold lcF
  rw [hb]
  simp only [ha, R.bind, he, if_true]
  cases g <;> simp [held, noExc]
theorem lcF_skip {ev : Env → Sto → R D} {al : Env → Sto → R Bool} {tg : Tg} {own : List Nat} {ρ ρ' : Env} {x : D} {S : Sto} (hb : bindT tg x (wipe ρ own) = some ρ') (ha : al ρ' S = .ok false S) (g : Option Nat) : lcF ev al tg own ρ g x S = .ok none S := by
  unfold lcF
  rw [hb]
  simp only [ha, R.bind]
  cases g <;> simp [held, noExc]
/-! calls -/
theorem call_dry {P : Prog} {k f : Nat} {ds : List D} {S R : Sto} {d : D} (fn : Fn) (hf : P.fns[f]? = some fn) (hl : ds.length = fn.ps.length) (h : evSs (P.ctx (run P k)) fn.body (ds.map some ++ List.replicate (fn.N.length - ds.length) none) S = .ok (.ret d) (S ++ R)) (hd : dry d = true) : run P (k + 1) f ds S = .ok d S := by
  simp only [run, hf, if_pos hl, h, fin]
  exact gc_dry hd
theorem call_dry0 {P : Prog} {k f : Nat} {ds : List D} {S : Sto} {d : D} (fn : Fn) (hf : P.fns[f]? = some fn) (hl : ds.length = fn.ps.length) (h : evSs (P.ctx (run P k)) fn.body (ds.map some ++ List.replicate (fn.N.length - ds.length) none) S = .ok (.ret d) S) (hd : dry d = true) : run P (k + 1) f ds S = .ok d S :=
  call_dry (R := []) fn hf hl (by simpa using h) hd
theorem call_lst {P : Prog} {k f : Nat} {ds : List D} {S : Sto} {xs : List D} (fn : Fn) (hf : P.fns[f]? = some fn) (hl : ds.length = fn.ps.length) (h : evSs (P.ctx (run P k)) fn.body (ds.map some ++ List.replicate (fn.N.length - ds.length) none) S = .ok (.ret (.ref S.length)) (S ++ [.lst xs])) (hd : dryL xs = true) (hz : frzL (S ++ [.lst xs]) S.length 9999 xs = some xs) : run P (k + 1) f ds S = .ok (.lst xs) S := by
  simp only [run, hf, if_pos hl, h, fin]
  exact gc_lst hd hz
theorem call_exc {P : Prog} {k f : Nat} {ds : List D} {S R : Sto} {C : Nat} {ρ : Env} (fn : Fn) (hf : P.fns[f]? = some fn) (hl : ds.length = fn.ps.length) (h : evSs (P.ctx (run P k)) fn.body (ds.map some ++ List.replicate (fn.N.length - ds.length) none) S = .exc C [] ρ (S ++ R)) : run P (k + 1) f ds S = .exc C [] S := by
  simp only [run, hf, if_pos hl, h, fin]
  exact gcX_dry
theorem call_exc0 {P : Prog} {k f : Nat} {ds : List D} {S : Sto} {C : Nat} {ρ : Env} (fn : Fn) (hf : P.fns[f]? = some fn) (hl : ds.length = fn.ps.length) (h : evSs (P.ctx (run P k)) fn.body (ds.map some ++ List.replicate (fn.N.length - ds.length) none) S = .exc C [] ρ S) : run P (k + 1) f ds S = .exc C [] S :=
  call_exc (R := []) fn hf hl (by simpa using h)
/-! statements -/
theorem seq_nx {Γ : Ctx} {s : Sm} {ss : List Sm} {ρ ρ' : Env} {S S' : Sto} {r : RS} (h : evS Γ s ρ S = .ok (.nx ρ') S') (h2 : evSs Γ ss ρ' S' = r) : evSs Γ (s :: ss) ρ S = r := by
  simp only [evSs, h, RS.seq, h2]
theorem seq_ret {Γ : Ctx} {s : Sm} {ss : List Sm} {ρ : Env} {S S' : Sto} {d : D} (h : evS Γ s ρ S = .ok (.ret d) S') : evSs Γ (s :: ss) ρ S = .ok (.ret d) S' := by
  simp only [evSs, h, RS.seq]
theorem seq_exc {Γ : Ctx} {s : Sm} {ss : List Sm} {ρ ρ' : Env} {S S' : Sto} {C : Nat} (h : evS Γ s ρ S = .exc C [] ρ' S') : evSs Γ (s :: ss) ρ S = .exc C [] ρ' S' := by
  simp only [evSs, h, RS.seq]
theorem s_asg {Γ : Ctx} {t : Tg} {e : Ex} {ρ ρ' : Env} {S S' : Sto} {d : D} (h : evE Γ e ρ S = .ok d S') (hb : bindT t d ρ = some ρ') : evS Γ (.asg t e) ρ S = .ok (.nx ρ') S' := by
  simp only [evS, h, R.go, hb]
theorem s_ret {Γ : Ctx} {e : Ex} {ρ : Env} {S S' : Sto} {d : D} (h : evE Γ e ρ S = .ok d S') : evS Γ (.ret e) ρ S = .ok (.ret d) S' := by
  simp only [evS, h, R.go]
theorem s_ex {Γ : Ctx} {e : Ex} {ρ : Env} {S S' : Sto} {d : D} (h : evE Γ e ρ S = .ok d S') : evS Γ (.ex e) ρ S = .ok (.nx ρ) S' := by
  simp only [evS, h, R.go]
theorem s_if_t {Γ : Ctx} {c : Ex} {a b : List Sm} {ρ : Env} {S S' : Sto} (h : evE Γ c ρ S = .ok (.bl true) S') : evS Γ (.ifs c a b) ρ S = evSs Γ a ρ S' := by
  simp only [evS, h, R.go]
theorem s_if_f {Γ : Ctx} {c : Ex} {a b : List Sm} {ρ : Env} {S S' : Sto} (h : evE Γ c ρ S = .ok (.bl false) S') : evS Γ (.ifs c a b) ρ S = evSs Γ b ρ S' := by
  simp only [evS, h, R.go]
theorem s_for {Γ : Ctx} {t : Tg} {it : Ex} {body : List Sm} {ρ : Env} {S S' : Sto} {p : List D × Option Nat} (h : evI Γ it ρ S = .ok p S') : evS Γ (.fors t it body) ρ S = forR p.2 (forF (fun ρ S => evSs Γ body ρ S) t) p.1 ρ S' := by
  simp only [evS, h, R.go]
theorem s_rai {Γ : Ctx} {C : Nat} {es : List Ex} {ρ : Env} {S S' : Sto} {z : Str} (h : evL Γ es ρ S = .ok [.str z] S') (hx : Γ.xf C = some none) : evS Γ (.rai C es) ρ S = .exc C [] ρ S' := by
  simp only [evS, h, R.go, hx]
/-! turns of a loop -/
theorem for_nil {g : Option Nat} {f : D → Env → Sto → RS} {ρ : Env} {S : Sto} : forR g f [] ρ S = .ok (.nx ρ) S := rfl
theorem for_nx {f : D → Env → Sto → RS} {x : D} {xs : List D} {ρ ρ' : Env} {S S' : Sto} (h : f x ρ S = .ok (.nx ρ') S') : forR none f (x :: xs) ρ S = forR none f xs ρ' S' := by
  simp only [forR, h, held, if_true]
theorem for_ret {g : Option Nat} {f : D → Env → Sto → RS} {x : D} {xs : List D} {ρ : Env} {S S' : Sto} {d : D} (h : f x ρ S = .ok (.ret d) S') : forR g f (x :: xs) ρ S = .ok (.ret d) S' := by
  simp only [forR, h]
theorem for_exc {g : Option Nat} {f : D → Env → Sto → RS} {x : D} {xs : List D} {ρ ρ' : Env} {S S' : Sto} {C : Nat} (h : f x ρ S = .exc C [] ρ' S') : forR g f (x :: xs) ρ S = .exc C [] ρ' S' := by
  simp only [forR, h]
theorem forF_eq {body : Env → Sto → RS} {t : Tg} {x : D} {ρ ρ' : Env} {S : Sto} (h : bindT t x ρ = some ρ') : forF body t x ρ S = body ρ' S := by
  simp only [forF, h]
/-! comprehensions over a plain list's image -/
theorem lc_map {α : Type} (ps : List α) (f h : α → D) {Γ : Ctx} {elt : Ex} {tg : Tg} {it : Ex} {own : List Nat} {ρ : Env} {S : Sto} {g : Option Nat} (hi : evI Γ it ρ S = .ok (ps.map f, g) S) (he : ∀ p ∈ ps, ∃ ρ', bindT tg (f p) (wipe ρ own) = some ρ' ∧ evE Γ elt ρ' S = .ok (h p) S) (hl : ps.length ≤ LIM) : evE Γ (.lc elt tg it [] own) ρ S = .ok (.lst (ps.map h)) S := by
  have key : ∀ qs : List α, (∀ p ∈ qs, ∃ ρ', bindT tg (f p) (wipe ρ own) = some ρ' ∧ evE Γ elt ρ' S = .ok (h p) S) → compR (lcF (fun ρ S => evE Γ elt ρ S) (fun ρ S => evAll Γ [] ρ S) tg own ρ g) (qs.map f) S = .ok (qs.map h) S := by
    intro qs
    induction qs with
    | nil => intro _; rfl
    | cons q qs ih =>
      intro hq
      obtain ⟨ρ', hb, hv⟩ := hq q List.mem_cons_self
      have e1 : lcF (fun ρ S => evE Γ elt ρ S) (fun ρ S => evAll Γ [] ρ S) tg own ρ g (f q) S = .ok (some (h q)) S := lcF_val hb (by simp only [evAll]) hv g
      simp only [List.map_cons, compR, e1, R.bind, ih fun p hp => hq p (List.mem_cons_of_mem _ hp)]
  simp only [evE, hi, R.bind, key ps he, List.length_map, if_pos hl]
theorem lc_fil {α : Type} (ps : List α) (f h : α → D) (c : α → Bool) {Γ : Ctx} {elt : Ex} {tg : Tg} {it : Ex} {cnd : List Ex} {own : List Nat} {ρ : Env} {S : Sto} {g : Option Nat} (hi : evI Γ it ρ S = .ok (ps.map f, g) S) (he : ∀ p ∈ ps, ∃ ρ', bindT tg (f p) (wipe ρ own) = some ρ' ∧ evAll Γ cnd ρ' S = .ok (c p) S ∧ (c p = true → evE Γ elt ρ' S = .ok (h p) S)) (hl : ps.length ≤ LIM) : evE Γ (.lc elt tg it cnd own) ρ S = .ok (.lst ((ps.filter c).map h)) S := by
  have key : ∀ qs : List α, (∀ p ∈ qs, ∃ ρ', bindT tg (f p) (wipe ρ own) = some ρ' ∧ evAll Γ cnd ρ' S = .ok (c p) S ∧ (c p = true → evE Γ elt ρ' S = .ok (h p) S)) → compR (lcF (fun ρ S => evE Γ elt ρ S) (fun ρ S => evAll Γ cnd ρ S) tg own ρ g) (qs.map f) S = .ok ((qs.filter c).map h) S := by
    intro qs
    induction qs with
    | nil => intro _; rfl
    | cons q qs ih =>
      intro hq
      obtain ⟨ρ', hb, ha, hv⟩ := hq q List.mem_cons_self
      have ih' := ih fun p hp => hq p (List.mem_cons_of_mem _ hp)
      cases hc : c q with
      | true =>
        have e1 : lcF (fun ρ S => evE Γ elt ρ S) (fun ρ S => evAll Γ cnd ρ S) tg own ρ g (f q) S = .ok (some (h q)) S := lcF_val hb (by rw [ha, hc]) (hv hc) g
        simp only [List.map_cons, compR, e1, R.bind, ih', List.filter_cons, hc, if_true]
      | false =>
        have e1 : lcF (fun ρ S => evE Γ elt ρ S) (fun ρ S => evAll Γ cnd ρ S) tg own ρ g (f q) S = .ok none S := lcF_skip hb (by rw [ha, hc]) g
        simp only [List.map_cons, compR, e1, R.bind, ih', List.filter_cons, hc]
        rfl
  have hl' : ((ps.filter c).map h).length ≤ LIM := by
    rw [List.length_map]; exact Nat.le_trans (List.length_filter_le _ _) hl
  simp only [evE, hi, R.bind, key ps he, if_pos hl']
theorem blsOf_map {α : Type} (c : α → Bool) : ∀ ps : List α, blsOf (ps.map fun p => .bl (c p)) = some (ps.map c)
  | [] => rfl
  | p :: ps => by simp [blsOf, blsOf_map c ps]
theorem intsOf_map {α : Type} (c : α → Int) : ∀ ps : List α, intsOf (ps.map fun p => .int (c p)) = some (ps.map c)
  | [] => rfl
  | p :: ps => by simp [intsOf, intsOf_map c ps]
theorem all_lc {α : Type} (ps : List α) (c : α → Bool) {Γ : Ctx} {e : Ex} {ρ : Env} {S : Sto} (h : evE Γ e ρ S = .ok (.lst (ps.map fun p => .bl (c p))) S) : evE Γ (.bi .all [e]) ρ S = .ok (.bl (ps.all c)) S := by
  simp only [evE, evL, h, R.bind, biD, bi1, allD, blsOf_map, Option.map_some, R.of, List.all_map, Function.id_comp]
theorem sum_lc {α : Type} (ps : List α) (c : α → Int) {Γ : Ctx} {e : Ex} {ρ : Env} {S : Sto} (h : evE Γ e ρ S = .ok (.lst (ps.map fun p => .int (c p))) S) : evE Γ (.bi .sum [e]) ρ S = .ok (.int (ps.map c).sum) S := by
  simp only [evE, evL, h, R.bind, biD, bi1, sumD, intsOf_map, Option.map_some, R.of]
theorem tup_lc {Γ : Ctx} {e : Ex} {ρ : Env} {S : Sto} {xs : List D} (h : evE Γ e ρ S = .ok (.lst xs) S) : evE Γ (.bi .tuple [e]) ρ S = .ok (.tup xs) S := by
  simp only [evE, evL, h, R.bind, biD, bi1, tupleD, R.of]
theorem zipD_map {α β : Type} (f : α → D) (g : β → D) : ∀ (xs : List α) (ys : List β), zipD (xs.map f) (ys.map g) = (xs.zip ys).map fun p => .tup [f p.1, g p.2]
  | [], _ => by simp [zipD]
  | _ :: _, [] => by simp [zipD]
  | x :: xs, y :: ys => by simp [zipD, zipD_map f g xs ys]
theorem rangeD_map (lo : Int) : ∀ n : Nat, rangeD lo n = (List.range n).map fun (i : Nat) => .int (lo + i)
  | 0 => rfl
  | n + 1 => by
    rw [rangeD, rangeD_map (lo + 1) n, List.range_succ_eq_map, List.map_cons, List.map_map]
    congr 1
    · simp
    · apply List.map_congr_left; intro i _; simp; omega
theorem enumD_map {α : Type} (f : α → D) : ∀ (n : Nat) (xs : List α), enumD n (xs.map f) = (xs.zipIdx n).map fun p => .tup [.int p.2, f p.1]
  | _, [] => rfl
  | n, x :: xs => by simp [enumD, enumD_map f (n + 1) xs]
/-! expressions -/
theorem e_var {Γ : Ctx} {i : Nat} {ρ : Env} {S : Sto} {d : D} (h : ρ.get i = some d) : evE Γ (.var i) ρ S = .ok d S := by
  simp only [evE, h, R.of]
theorem e_or_f {Γ : Ctx} {e e' : Ex} {es : List Ex} {ρ : Env} {S S' : Sto} {r : R D} (h : evE Γ e ρ S = .ok (.bl false) S') (h2 : evE Γ (.or (e' :: es)) ρ S' = r) : evE Γ (.or (e :: e' :: es)) ρ S = r := by
  simp only [evE, evOr, h, R.bind] at h2 ⊢; exact h2
theorem e_or_t {Γ : Ctx} {e e' : Ex} {es : List Ex} {ρ : Env} {S S' : Sto} (h : evE Γ e ρ S = .ok (.bl true) S') : evE Γ (.or (e :: e' :: es)) ρ S = .ok (.bl true) S' := by
  simp only [evE, evOr, h, R.bind]
theorem e_or_1 {Γ : Ctx} {e : Ex} {ρ : Env} {S : Sto} {r : R D} (h : evE Γ e ρ S = r) : evE Γ (.or [e]) ρ S = r := by
  simp only [evE, evOr, h]
theorem e_and_t {Γ : Ctx} {e e' : Ex} {es : List Ex} {ρ : Env} {S S' : Sto} {r : R D} (h : evE Γ e ρ S = .ok (.bl true) S') (h2 : evE Γ (.and (e' :: es)) ρ S' = r) : evE Γ (.and (e :: e' :: es)) ρ S = r := by
  simp only [evE, evAnd, h, R.bind] at h2 ⊢; exact h2
theorem e_and_f {Γ : Ctx} {e e' : Ex} {es : List Ex} {ρ : Env} {S S' : Sto} (h : evE Γ e ρ S = .ok (.bl false) S') : evE Γ (.and (e :: e' :: es)) ρ S = .ok (.bl false) S' := by
  simp only [evE, evAnd, h, R.bind]
theorem e_and_1 {Γ : Ctx} {e : Ex} {ρ : Env} {S : Sto} {r : R D} (h : evE Γ e ρ S = r) : evE Γ (.and [e]) ρ S = r := by
  simp only [evE, evAnd, h]
/-- two tests -/
theorem e_and2 {Γ : Ctx} {e e' : Ex} {ρ : Env} {S : Sto} {a b : Bool} (h : evE Γ e ρ S = .ok (.bl a) S) (h2 : a = true → evE Γ e' ρ S = .ok (.bl b) S) : evE Γ (.and [e, e']) ρ S = .ok (.bl (a && b)) S := by
  cases a with
  | true => exact e_and_t h (e_and_1 (by rw [h2 rfl]; rfl))
  | false => exact e_and_f h
theorem e_or2 {Γ : Ctx} {e e' : Ex} {ρ : Env} {S : Sto} {a b : Bool} (h : evE Γ e ρ S = .ok (.bl a) S) (h2 : a = false → evE Γ e' ρ S = .ok (.bl b) S) : evE Γ (.or [e, e']) ρ S = .ok (.bl (a || b)) S := by
  cases a with
  | false => exact e_or_f h (e_or_1 (by rw [h2 rfl]; rfl))
  | true => exact e_or_t h
theorem e_not {Γ : Ctx} {e : Ex} {ρ : Env} {S S' : Sto} {b : Bool} (h : evE Γ e ρ S = .ok (.bl b) S') : evE Γ (.not e) ρ S = .ok (.bl (!b)) S' := by
  simp only [evE, h, R.bind]
theorem l_nil {Γ : Ctx} {ρ : Env} {S : Sto} : evL Γ [] ρ S = .ok [] S := by simp only [evL]
theorem l_cons {Γ : Ctx} {e : Ex} {es : List Ex} {ρ : Env} {S S' S'' : Sto} {d : D} {ds : List D} (h : evE Γ e ρ S = .ok d S') (h2 : evL Γ es ρ S' = .ok ds S'') : evL Γ (e :: es) ρ S = .ok (d :: ds) S'' := by
  simp only [evL, h, R.bind, h2]
theorem e_call {Γ : Ctx} {f : Nat} {es : List Ex} {ρ : Env} {S S' : Sto} {ds : List D} {r : R D} (h : evL Γ es ρ S = .ok ds S') (h2 : Γ.F f ds S' = r) : evE Γ (.call f es) ρ S = r := by
  simp only [evE, h, R.bind, h2]
theorem e_bi1 {Γ : Ctx} {b : Bi} {e : Ex} {ρ : Env} {S S' : Sto} {d r : D} (h : evE Γ e ρ S = .ok d S') (h2 : bi1 b d S' = some r) : evE Γ (.bi b [e]) ρ S = .ok r S' := by
  simp only [evE, evL, h, R.bind, biD, h2, R.of]
theorem e_op {Γ : Ctx} {o : Operator} {a b : Ex} {ρ : Env} {S S' S'' : Sto} {x y r : D} (h : evE Γ a ρ S = .ok x S') (h2 : evE Γ b ρ S' = .ok y S'') (h3 : opD o x y = some r) : evE Γ (.op o a b) ρ S = .ok r S'' := by
  simp only [evE, h, R.bind, h2, h3, R.of]
theorem e_cmp {Γ : Ctx} {o : CmpOp} {a b : Ex} {ρ : Env} {S S' S'' : Sto} {x y : D} {c : Bool} (h : evE Γ a ρ S = .ok x S') (h2 : evE Γ b ρ S' = .ok y S'') (h3 : cmpD o x y S'' = some c) : evE Γ (.cmp o a b) ρ S = .ok (.bl c) S'' := by
  simp only [evE, h, R.bind, h2, h3]
theorem e_ix {Γ : Ctx} {a b : Ex} {ρ : Env} {S S' S'' : Sto} {x y r : D} (h : evE Γ a ρ S = .ok x S') (h2 : evE Γ b ρ S' = .ok y S'') (h3 : ixD x y S'' = some r) : evE Γ (.ix a b) ρ S = .ok r S'' := by
  simp only [evE, h, R.bind, h2, h3, R.of]
theorem e_tup {Γ : Ctx} {es : List Ex} {ρ : Env} {S S' : Sto} {ds : List D} (h : evL Γ es ρ S = .ok ds S') (h2 : ds.length ≤ LIM) : evE Γ (.tup es) ρ S = .ok (.tup ds) S' := by
  simp only [evE, h, R.bind, if_pos h2]
theorem e_lst {Γ : Ctx} {es : List Ex} {ρ : Env} {S S' : Sto} {ds : List D} (h : evL Γ es ρ S = .ok ds S') (h2 : ds.length ≤ LIM) : evE Γ (.lst es) ρ S = .ok (.lst ds) S' := by
  simp only [evE, h, R.bind, if_pos h2]
theorem e_ite_t {Γ : Ctx} {c a b : Ex} {ρ : Env} {S S' : Sto} {r : R D} (h : evE Γ c ρ S = .ok (.bl true) S') (h2 : evE Γ a ρ S' = r) : evE Γ (.ite c a b) ρ S = r := by
  simp only [evE, h, R.bind, h2]
theorem e_ite_f {Γ : Ctx} {c a b : Ex} {ρ : Env} {S S' : Sto} {r : R D} (h : evE Γ c ρ S = .ok (.bl false) S') (h2 : evE Γ b ρ S' = r) : evE Γ (.ite c a b) ρ S = r := by
  simp only [evE, h, R.bind, h2]
theorem i_itv {Γ : Ctx} {e : Ex} {ρ : Env} {S S' : Sto} {d : D} {p : List D × Option Nat} (h : evE Γ e ρ S = .ok d S') (h2 : itemsOf d S' = some p) : evI Γ (.itv e) ρ S = .ok p S' := by
  simp only [evI, h, R.bind, h2, R.of]
theorem i_zp {Γ : Ctx} {a b : Ex} {ρ : Env} {S S' S'' : Sto} {x y : D} {p : List D × Option Nat} (h : evE Γ a ρ S = .ok x S') (h2 : evE Γ b ρ S' = .ok y S'') (h3 : zpD x y = some p) : evI Γ (.zp a b) ρ S = .ok p S'' := by
  simp only [evI, h, R.bind, h2, h3, R.of]
theorem i_enm {Γ : Ctx} {e : Ex} {ρ : Env} {S S' : Sto} {d : D} {p : List D × Option Nat} (h : evE Γ e ρ S = .ok d S') (h2 : enmD d S' = some p) : evI Γ (.enm e) ρ S = .ok p S' := by
  simp only [evI, h, R.bind, h2, R.of]
theorem i_rg1 {Γ : Ctx} {e : Ex} {ρ : Env} {S S' : Sto} {j : Int} (h : evE Γ e ρ S = .ok (.int j) S') (h2 : -SMALL ≤ j ∧ j ≤ SMALL) : evI Γ (.rg1 e) ρ S = .ok (rangeD 0 j.toNat, none) S' := by
  simp only [evI, h, R.bind, if_pos h2]
theorem i_rg2 {Γ : Ctx} {a b : Ex} {ρ : Env} {S S' S'' : Sto} {i j : Int} (h : evE Γ a ρ S = .ok (.int i) S') (h1 : evE Γ b ρ S' = .ok (.int j) S'') (h2 : -SMALL ≤ i ∧ i ≤ SMALL ∧ -SMALL ≤ j ∧ j ≤ SMALL) : evI Γ (.rg2 a b) ρ S = .ok (rangeD i (j - i).toNat, none) S'' := by
  simp only [evI, h, h1, R.bind, if_pos h2]
/-! slices -/
theorem cut_lo {α : Type} (xs : List α) (k : Nat) : cut xs (some (k : Int)) none = xs.drop k := by
  unfold cut
  rw [HT.sIx_nat, HT.sIx_none, List.take_of_length_le (by simp)]
  by_cases h : k ≤ xs.length
  · rw [Nat.min_eq_left h]
  · rw [Nat.min_eq_right (by omega), List.drop_length, List.drop_of_length_le (by omega)]
theorem cut_hi {α : Type} (xs : List α) (k : Nat) : cut xs none (some (k : Int)) = xs.take k := by
  unfold cut
  rw [HT.sIx_nat, HT.sIx_none, List.drop_zero, Nat.sub_zero]
  by_cases h : k ≤ xs.length
  · rw [Nat.min_eq_left h]
  · rw [Nat.min_eq_right (by omega), List.take_length, List.take_of_length_le (by omega)]
theorem cut_both {α : Type} (xs : List α) (j k : Nat) (h : j ≤ xs.length) : cut xs (some (j : Int)) (some (k : Int)) = (xs.drop j).take (k - j) := by
  unfold cut
  rw [HT.sIx_nat, HT.sIx_nat, Nat.min_eq_left h]
  by_cases h2 : k ≤ xs.length
  · rw [Nat.min_eq_left h2]
  · rw [Nat.min_eq_right (by omega), List.take_of_length_le (by simp), List.take_of_length_le (by simp; omega)]
theorem e_slH {Γ : Ctx} {a hi : Ex} {ρ : Env} {S S' S'' : Sto} {x r : D} {j : Int} (h : evE Γ a ρ S = .ok x S') (h2 : evE Γ hi ρ S' = .ok (.int j) S'') (h3 : slD x none (some j) S'' = some r) : evE Γ (.slH a hi) ρ S = .ok r S'' := by
  simp only [evE, h, R.bind, h2, h3, R.of]
theorem e_slL {Γ : Ctx} {a lo : Ex} {ρ : Env} {S S' S'' : Sto} {x r : D} {i : Int} (h : evE Γ a ρ S = .ok x S') (h2 : evE Γ lo ρ S' = .ok (.int i) S'') (h3 : slD x (some i) none S'' = some r) : evE Γ (.slL a lo) ρ S = .ok r S'' := by
  simp only [evE, h, R.bind, h2, h3, R.of]
theorem e_slB {Γ : Ctx} {a lo hi : Ex} {ρ : Env} {S S1 S2 S3 : Sto} {x r : D} {i j : Int} (h : evE Γ a ρ S = .ok x S1) (h2 : evE Γ lo ρ S1 = .ok (.int i) S2) (h3 : evE Γ hi ρ S2 = .ok (.int j) S3) (h4 : slD x (some i) (some j) S3 = some r) : evE Γ (.slB a lo hi) ρ S = .ok r S3 := by
  simp only [evE, h, R.bind, h2, h3, h4, R.of]
theorem e_app {Γ : Ctx} {o e : Ex} {ρ : Env} {S : Sto} {n : Nat} {xs : List D} {x : D} (h : evE Γ o ρ S = .ok (.ref n) S) (hx : evE Γ e ρ S = .ok x S) (hn : S.get n = some (.lst xs)) (hl : xs.length < LIM) : evE Γ (.app o e) ρ S = .ok .non (S.set n (.lst (xs ++ [x]))) := by
  simp only [evE, h, R.bind, isL, hn, if_true, hx, appD, if_pos hl]
theorem if_skip {Γ : Ctx} {c : Ex} {a ss : List Sm} {ρ : Env} {S : Sto} {b : Bool} {r : RS} (h : evE Γ c ρ S = .ok (.bl b) S) (hb : b = false) (h2 : evSs Γ ss ρ S = r) : evSs Γ (.ifs c a [] :: ss) ρ S = r := by
  subst hb
  exact seq_nx ((s_if_f h).trans (by simp only [evSs])) h2
theorem if_exc {Γ : Ctx} {c : Ex} {a a' ss : List Sm} {ρ ρ' : Env} {S S' : Sto} {b : Bool} {C : Nat} (h : evE Γ c ρ S = .ok (.bl b) S) (hb : b = true) (h2 : evSs Γ a ρ S = .exc C [] ρ' S') : evSs Γ (.ifs c a a' :: ss) ρ S = .exc C [] ρ' S' := by
  subst hb
  exact seq_exc ((s_if_t h).trans h2)
theorem if_ret {Γ : Ctx} {c : Ex} {a a' ss : List Sm} {ρ : Env} {S S' : Sto} {b : Bool} {d : D} (h : evE Γ c ρ S = .ok (.bl b) S) (hb : b = true) (h2 : evSs Γ a ρ S = .ok (.ret d) S') : evSs Γ (.ifs c a a' :: ss) ρ S = .ok (.ret d) S' := by
  subst hb
  exact seq_ret ((s_if_t h).trans h2)
end MP.Lb
end

section
set_option Elab.async false
set_option linter.all false
set_option maxRecDepth 100000
/-! K08D: the functions of k08 as data (printed by gen.py). -/
namespace K08
open PySem MP MP.Lb
def f_is_integer : Fn := ⟨("is_integer", none), ["value"], ["value"], [.ret (.and [.isi (.var 0) .int, .not (.isi (.var 0) .bool)])]⟩
def f_is_whole : Fn := ⟨("is_whole", none), ["value", "least", "most"], ["value", "least", "most"], [.ret (.and [.call 0 [.var 0], .chn .LtE .LtE (.var 1) (.var 0) (.var 2)])]⟩
def f_is_name : Fn := ⟨("is_name", none), ["value", "sign"], ["value"], [.ifs (.or [.not (.isi (.var 0) .str), .not (.chn .LtE .LtE (.con (.int 1)) (.bi .len [.var 0]) (.glo "MOST_NAME" (.int 8))), .cmp .NotIn (.ix (.var 0) (.con (.int 0))) (.glo "LETTERS" (.str "abcdefghijklmnopqrstuvwxyz"))]) [.ret (.con (.bl false))] [], .ret (.bi .all [.lc (.or [.cmp .In (.var 1) (.glo "LETTERS" (.str "abcdefghijklmnopqrstuvwxyz")), .cmp .In (.var 1) (.glo "FIGURES" (.str "0123456789"))]) (.nm 1) (.itv (.var 0)) [] [1]])]⟩
def f_are_rows : Fn := ⟨("are_rows", none), ["value", "one", "other"], ["value"], [.ifs (.or [.not (.isi (.var 0) .tuple), .not (.bi .all [.lc (.and [.isi (.var 1) .tuple, .cmp .Eq (.bi .len [.var 1]) (.con (.int 2))]) (.nm 1) (.itv (.var 0)) [] [1]])]) [.ret (.con (.bl false))] [], .ifs (.not (.bi .all [.lc (.call 2 [.ix (.var 1) (.con (.int 0))]) (.nm 1) (.itv (.var 0)) [] [1]])) [.ret (.con (.bl false))] [], .ret (.bi .all [.lc (.cmp .Lt (.ix (.var 1) (.con (.int 0))) (.ix (.var 2) (.con (.int 0)))) (.tp [.nm 1, .nm 2]) (.zp (.var 0) (.slL (.var 0) (.con (.int 1)))) [] [1, 2]])]⟩
def f__vector : Fn := ⟨("_vector", none), ["numbers", "other", "times", "one", "two"], ["numbers", "other", "times"], [.ret (.lc (.op .Add (.var 3) (.op .Mult (.var 2) (.var 4))) (.tp [.nm 3, .nm 4]) (.zp (.var 0) (.var 1)) [] [3, 4])]⟩
def f__are_integers : Fn := ⟨("_are_integers", none), ["value", "_name", "one"], ["value"], [.ret (.and [.call 3 [.var 0], .bi .all [.lc (.call 0 [.var 2]) (.tp [.nm 1, .nm 2]) (.itv (.var 0)) [] [1, 2]]])]⟩
def f__check_solutions : Fn := ⟨("_check_solutions", none), ["base", "steps", "names", "found", "step", "own", "first", "size", "name", "_one", "place", "_name", "one", "row"], ["base", "steps"], [.ifs (.or [.not (.call 5 [.var 0]), .not (.isi (.var 1) .tuple), .not (.bi .all [.lc (.call 5 [.var 4]) (.nm 4) (.itv (.var 1)) [] [4]])]) [.rai 1 [.con (.str "not rows")]] [], .asg (.nm 2) (.lc (.var 8) (.tp [.nm 8, .nm 9]) (.itv (.var 0)) [] [8, 9]), .asg (.nm 3) (.mut (.lst [])), .fors (.nm 4) (.itv (.var 1)) [.asg (.nm 5) (.lc (.var 10) (.tp [.nm 10, .tp [.nm 11, .nm 12]]) (.enm (.var 4)) [.cmp .NotEq (.var 12) (.con (.int 0))] [10, 11, 12]), .ifs (.or [.cmp .NotEq (.lc (.var 8) (.tp [.nm 8, .nm 9]) (.itv (.var 4)) [] [8, 9]) (.var 2), .cmp .Eq (.bi .len [.var 5]) (.con (.int 0))]) [.rai 1 [.con (.str "unlike names, or no step")]] [], .asg (.nm 6) (.ix (.var 5) (.con (.int 0))), .asg (.nm 7) (.ix (.ix (.var 4) (.var 6)) (.con (.int 1))), .ifs (.or [.cmp .Lt (.var 7) (.con (.int 0)), .and [.cmp .Gt (.bi .len [.var 3]) (.con (.int 0)), .cmp .LtE (.var 6) (.ix (.var 3) (.neg (.con (.int 1))))]]) [.rai 1 [.con (.str "not in the one form")]] [], .ifs (.not (.bi .all [.lc (.call 1 [.ix (.ix (.var 13) (.var 6)) (.con (.int 1)), .con (.int 0), .op .Sub (.var 7) (.con (.int 1))]) (.nm 13) (.itv (.op .Add (.slH (.var 1) (.bi .len [.var 3])) (.tup [.var 0]))) [] [13]])) [.rai 1 [.con (.str "not in the one form")]] [], .ex (.app (.var 3) (.var 6))], .ret (.var 3)]⟩
def f_reached_by : Fn := ⟨("reached_by", none), ["base", "steps", "row", "firsts", "rest", "found", "step", "first", "times", "_name", "one", "_other", "two", "name", "_one"], ["base", "steps", "row"], [.asg (.nm 3) (.call 6 [.var 0, .var 1]), .ifs (.or [.not (.call 5 [.var 2]), .cmp .NotEq (.lc (.var 13) (.tp [.nm 13, .nm 14]) (.itv (.var 2)) [] [13, 14]) (.lc (.var 13) (.tp [.nm 13, .nm 14]) (.itv (.var 0)) [] [13, 14])]) [.ret (.con .non)] [], .asg (.nm 4) (.lc (.op .Sub (.var 10) (.var 12)) (.tp [.tp [.nm 9, .nm 10], .tp [.nm 11, .nm 12]]) (.zp (.var 2) (.var 0)) [] [9, 10, 11, 12]), .asg (.nm 5) (.mut (.lst [])), .fors (.tp [.nm 6, .nm 7]) (.zp (.var 1) (.var 3)) [.asg (.nm 8) (.op .FloorDiv (.ix (.var 4) (.var 7)) (.ix (.ix (.var 6) (.var 7)) (.con (.int 1)))), .asg (.nm 4) (.call 4 [.var 4, .lc (.var 10) (.tp [.nm 9, .nm 10]) (.itv (.var 6)) [] [9, 10], .op .Sub (.con (.int 0)) (.var 8)]), .ex (.app (.var 5) (.var 8))], .ret (.ite (.bi .all [.lc (.cmp .Eq (.var 10) (.con (.int 0))) (.nm 10) (.itv (.var 4)) [] [10]]) (.bi .tuple [.var 5]) (.con .non))]⟩
def f__law_draws : Fn := ⟨("_law_draws", none), ["script", "many", "draws", "seed", "cell", "number", "k"], ["script", "many"], [.asg (.nm 2) (.mut (.lst [])), .asg (.nm 3) (.con (.int 7)), .fors (.nm 4) (.itv (.slH (.var 0) (.con (.int 63)))) [.asg (.nm 5) (.bi .abs [.var 4]), .asg (.nm 3) (.op .Mod (.bi .int [.op .Add (.op .Add (.op .Mult (.var 3) (.con (.int 48271))) (.var 5)) (.con (.int 11))]) (.con (.int 2147483647))), .ifs (.cmp .GtE (.var 5) (.op .Pow (.con (.int 10)) (.con (.int 18)))) [.fors (.nm 6) (.rg1 (.con (.int 60))) [.ifs (.cmp .Gt (.var 5) (.con (.int 0))) [.ex (.app (.var 2) (.op .Mod (.bi .int [.var 5]) (.con (.int 1009)))), .asg (.nm 5) (.op .FloorDiv (.var 5) (.con (.int 1009)))] []]] [.ex (.app (.var 2) (.op .Mod (.op .FloorDiv (.bi .int [.op .Add (.op .Mult (.var 3) (.con (.int 16807))) (.con (.int 5))]) (.con (.int 3))) (.con (.int 65521))))]], .fors (.nm 6) (.rg1 (.var 1)) [.ifs (.cmp .Lt (.bi .len [.var 2]) (.var 1)) [.asg (.nm 3) (.op .Mod (.bi .int [.op .Add (.op .Add (.op .Mult (.var 3) (.con (.int 69621))) (.var 6)) (.con (.int 1))]) (.con (.int 2147483647))), .ex (.app (.var 2) (.op .Mod (.op .FloorDiv (.bi .int [.var 3]) (.con (.int 7))) (.con (.int 65521))))] []], .ret (.slH (.var 2) (.var 1))]⟩
def f__law_solutions : Fn := ⟨("_law_solutions", none), ["draws", "names", "firsts", "steps", "sizes", "k", "row", "base", "j"], ["draws", "names"], [.asg (.tp [.nm 2, .nm 3]) (.tup [.lc (.var 5) (.nm 5) (.rg1 (.bi .len [.var 1])) [.cmp .Eq (.op .Mod (.bi .int [.ix (.var 0) (.var 5)]) (.con (.int 2))) (.con (.int 0))] [5], .mut (.lst [])]), .asg (.nm 4) (.bi .dict [.lc (.tup [.var 5, .op .Add (.con (.int 1)) (.op .Mod (.bi .int [.ix (.var 0) (.op .Add (.con (.int 6)) (.var 5))]) (.con (.int 5)))]) (.nm 5) (.itv (.var 2)) [] [5]]), .fors (.nm 5) (.itv (.var 2)) [.asg (.nm 6) (.op .Add (.op .Add (.op .Mult (.lst [.con (.int 0)]) (.var 5)) (.lst [.ix (.var 4) (.var 5)])) (.lc (.op .Sub (.op .Mod (.bi .int [.ix (.var 0) (.op .Add (.op .Add (.con (.int 12)) (.op .Mult (.con (.int 5)) (.var 5))) (.var 8))]) (.con (.int 9))) (.con (.int 4))) (.nm 8) (.rg2 (.op .Add (.var 5) (.con (.int 1))) (.bi .len [.var 1])) [] [8])), .asg (.nm 6) (.lc (.ite (.or [.cmp .NotIn (.var 8) (.var 2), .cmp .LtE (.var 8) (.var 5)]) (.ix (.var 6) (.var 8)) (.op .Mod (.bi .int [.op .Add (.ix (.var 6) (.var 8)) (.con (.int 20))]) (.ix (.var 4) (.var 8)))) (.nm 8) (.rg1 (.bi .len [.var 1])) [] [8]), .ex (.app (.var 3) (.bi .tuple [.lc (.tup [.ix (.var 1) (.var 8), .ix (.var 6) (.var 8)]) (.nm 8) (.rg1 (.bi .len [.var 1])) [] [8]]))], .asg (.nm 7) (.bi .tuple [.lc (.tup [.ix (.var 1) (.var 8), .op .Sub (.op .Mod (.bi .int [.ix (.var 0) (.op .Add (.con (.int 50)) (.var 8))]) (.ite (.cmp .In (.var 8) (.var 2)) (.ix (.var 4) (.var 8)) (.con (.int 19)))) (.ite (.cmp .In (.var 8) (.var 2)) (.con (.int 0)) (.con (.int 9)))]) (.nm 8) (.rg1 (.bi .len [.var 1])) [] [8]]), .ret (.tup [.var 7, .bi .tuple [.var 3]])]⟩
def f__law_times : Fn := ⟨("_law_times", none), ["base", "steps", "row", "rest", "found", "step", "first", "times", "j", "one"], ["base", "steps", "row"], [.asg (.tp [.nm 3, .nm 4]) (.tup [.lc (.op .Sub (.ix (.ix (.var 2) (.var 8)) (.con (.int 1))) (.ix (.ix (.var 0) (.var 8)) (.con (.int 1)))) (.nm 8) (.rg1 (.bi .len [.var 0])) [] [8], .lst []]), .fors (.nm 5) (.itv (.var 1)) [.asg (.nm 6) (.ix (.lc (.var 8) (.nm 8) (.rg1 (.bi .len [.var 5])) [.cmp .NotEq (.ix (.ix (.var 5) (.var 8)) (.con (.int 1))) (.con (.int 0))] [8]) (.con (.int 0))), .asg (.nm 7) (.op .FloorDiv (.ix (.var 3) (.var 6)) (.ix (.ix (.var 5) (.var 6)) (.con (.int 1)))), .asg (.tp [.nm 3, .nm 4]) (.tup [.lc (.op .Sub (.ix (.var 3) (.var 8)) (.op .Mult (.var 7) (.ix (.ix (.var 5) (.var 8)) (.con (.int 1))))) (.nm 8) (.rg1 (.bi .len [.var 3])) [] [8], .op .Add (.var 4) (.lst [.var 7])])], .ret (.ite (.bi .all [.lc (.cmp .Eq (.var 9) (.con (.int 0))) (.nm 9) (.itv (.var 3)) [] [9]]) (.bi .tuple [.var 4]) (.con .non))]⟩
def f__law_told : Fn := ⟨("_law_told", none), ["base", "steps", "row"], ["base", "steps", "row"], [.try_ [.ret (.call 7 [.var 0, .var 1, .var 2])] [⟨1, none, .ret (.tup [.con (.str "refused")])⟩]]⟩
def f_law : Fn := ⟨("law", none), ["script", "draws", "turn", "names", "base", "steps", "k", "times", "row", "far", "near", "good", "at", "own", "minus", "first", "high", "low", "pairs", "one", "other", "zero", "j", "name", "number", "wrong", "m"], ["script"], [.asg (.nm 1) (.call 8 [.var 0, .con (.int 300)]), .fors (.nm 2) (.rg1 (.con (.int 6))) [.asg (.nm 3) (.ix (.lst [.con (.str "abc"), .con (.str "x"), .con (.str "xy"), .con (.str "abcd"), .con (.str "bn"), .con (.str "")]) (.var 2)), .asg (.tp [.nm 4, .nm 5]) (.call 9 [.op .Add (.slL (.var 1) (.op .Mult (.con (.int 31)) (.var 2))) (.var 1), .var 3]), .fors (.nm 6) (.rg1 (.con (.int 6))) [.asg (.nm 7) (.lc (.op .Sub (.op .Mod (.bi .int [.ix (.var 1) (.op .Add (.op .Add (.op .Add (.con (.int 200)) (.op .Mult (.con (.int 7)) (.var 6))) (.var 22)) (.var 2))]) (.con (.int 11))) (.con (.int 5))) (.nm 22) (.rg1 (.bi .len [.var 5])) [] [22]), .asg (.nm 8) (.lc (.op .Add (.ix (.ix (.var 4) (.var 22)) (.con (.int 1))) (.bi .sum [.lc (.op .Mult (.ix (.var 7) (.var 26)) (.ix (.ix (.ix (.var 5) (.var 26)) (.var 22)) (.con (.int 1)))) (.nm 26) (.rg1 (.bi .len [.var 5])) [] [26]])) (.nm 22) (.rg1 (.bi .len [.var 3])) [] [22]), .asg (.nm 9) (.bi .tuple [.lc (.tup [.ix (.var 3) (.var 22), .ix (.var 8) (.var 22)]) (.nm 22) (.rg1 (.bi .len [.var 3])) [] [22]]), .ifs (.or [.not (.isi (.call 7 [.var 4, .var 5, .var 9]) .tuple), .cmp .NotEq (.call 7 [.var 4, .var 5, .var 9]) (.bi .tuple [.var 7])]) [.ret (.con (.bl false))] [], .asg (.nm 10) (.bi .tuple [.lc (.tup [.ix (.var 3) (.var 22), .op .Add (.ix (.var 8) (.var 22)) (.op .Sub (.op .Mod (.bi .int [.ix (.var 1) (.op .Add (.op .Add (.con (.int 250)) (.var 6)) (.var 22))]) (.con (.int 3))) (.con (.int 1)))]) (.nm 22) (.rg1 (.bi .len [.var 3])) [] [22]]), .ifs (.cmp .NotEq (.call 7 [.var 4, .var 5, .var 10]) (.call 10 [.var 4, .var 5, .var 10])) [.ret (.con (.bl false))] []], .asg (.nm 11) (.lst [.con .non, .tup [], .bi .list [.var 4], .op .Add (.var 4) (.tup [.tup [.con (.str "zz"), .con (.int 1)]]), .rev (.var 4), .bi .tuple [.lc (.tup [.var 23, .con (.bl true)]) (.tp [.nm 23, .nm 24]) (.itv (.var 4)) [] [23, 24]], .con (.int 5)]), .ifs (.and [.cmp .Gt (.bi .len [.var 3]) (.con (.int 1)), .cmp .NotEq (.lc (.call 11 [.var 4, .var 5, .var 25]) (.nm 25) (.itv (.var 11)) [] [25]) (.op .Mult (.lst [.con .non]) (.con (.int 7)))]) [.ret (.con (.bl false))] [], .ifs (.and [.cmp .Gt (.bi .len [.var 5]) (.con (.int 0)), .cmp .Gt (.bi .len [.var 3]) (.con (.int 1))]) [.asg (.nm 12) (.op .Mod (.bi .int [.ix (.var 1) (.op .Add (.con (.int 280)) (.var 2))]) (.bi .len [.var 5])), .asg (.nm 13) (.ix (.var 5) (.var 12)), .asg (.nm 14) (.bi .tuple [.lc (.tup [.var 23, .op .Sub (.con (.int 0)) (.var 24)]) (.tp [.nm 23, .nm 24]) (.itv (.var 13)) [] [23, 24]]), .asg (.nm 15) (.ix (.lc (.var 22) (.nm 22) (.rg1 (.bi .len [.var 13])) [.cmp .NotEq (.ix (.ix (.var 13) (.var 22)) (.con (.int 1))) (.con (.int 0))] [22]) (.con (.int 0))), .asg (.nm 16) (.op .Add (.op .Add (.slH (.var 4) (.var 15)) (.tup [.tup [.ix (.var 3) (.var 15), .ix (.ix (.var 13) (.var 15)) (.con (.int 1))]])) (.slL (.var 4) (.op .Add (.var 15) (.con (.int 1))))), .asg (.nm 17) (.op .Add (.op .Add (.slH (.var 4) (.var 15)) (.tup [.tup [.ix (.var 3) (.var 15), .neg (.con (.int 1))]])) (.slL (.var 4) (.op .Add (.var 15) (.con (.int 1))))), .asg (.nm 18) (.lst [.tup [.var 16, .var 5], .tup [.var 17, .var 5], .tup [.var 4, .op .Add (.op .Add (.slH (.var 5) (.var 12)) (.tup [.var 14])) (.slL (.var 5) (.op .Add (.var 12) (.con (.int 1))))], .tup [.var 4, .op .Add (.var 5) (.slB (.var 5) (.var 12) (.op .Add (.var 12) (.con (.int 1))))]]), .fors (.tp [.nm 19, .nm 20]) (.itv (.op .Add (.var 18) (.lst [.tup [.var 4, .op .Add (.op .Add (.slH (.var 5) (.var 12)) (.tup [.slL (.var 13) (.con (.int 1))])) (.slL (.var 5) (.op .Add (.var 12) (.con (.int 1))))], .tup [.var 4, .bi .list [.var 5]], .tup [.var 4, .tup [.con .non]], .tup [.con .non, .var 5]]))) [.ifs (.cmp .NotEq (.call 11 [.var 19, .var 20, .var 4]) (.tup [.con (.str "refused")])) [.ret (.con (.bl false))] []], .asg (.nm 21) (.bi .tuple [.lc (.tup [.var 23, .con (.int 0)]) (.tp [.nm 23, .nm 24]) (.itv (.var 13)) [] [23, 24]]), .ifs (.or [.cmp .NotEq (.call 11 [.var 4, .op .Add (.op .Add (.slH (.var 5) (.var 12)) (.tup [.var 21])) (.slL (.var 5) (.op .Add (.var 12) (.con (.int 1)))), .var 4]) (.tup [.con (.str "refused")]), .and [.cmp .Gt (.var 12) (.con (.int 0)), .cmp .NotEq (.call 11 [.var 4, .rev (.var 5), .var 4]) (.tup [.con (.str "refused")])]]) [.ret (.con (.bl false))] []] []], .ret (.and [.cmp .Eq (.call 7 [.tup [], .tup [], .tup []]) (.tup []), .cmp .Eq (.call 7 [.tup [.tup [.con (.str "x"), .con (.int 2)]], .tup [.tup [.tup [.con (.str "x"), .con (.int 3)]]], .tup [.tup [.con (.str "x"), .neg (.con (.int 4))]]]) (.tup [.neg (.con (.int 2))]), .cmp .Is (.call 7 [.tup [.tup [.con (.str "x"), .con (.int 2)]], .tup [.tup [.tup [.con (.str "x"), .con (.int 3)]]], .tup [.tup [.con (.str "x"), .con (.int 4)]]]) (.con .non)])]⟩
def fnL : List Fn := [f_is_integer, f_is_whole, f_is_name, f_are_rows, f__vector, f__are_integers, f__check_solutions, f_reached_by, f__law_draws, f__law_solutions, f__law_times, f__law_told, f_law]
def clL : List Cl := [⟨"SizeError", none, [], some none, []⟩, ⟨"BadSolutions", none, [], some none, [0]⟩]
def P0 : Prog := ⟨fnL, clL, 1000⟩
end K08
end

section
set_option Elab.async false
set_option linter.all false
set_option maxRecDepth 100000
/-! K08P: what the functions of k08 compute (plain). -/
namespace K08
open PySem MP MP.Lb
abbrev Γr (k : Nat) : MP.Ctx := P0.ctx (run P0 k)
/-! ### is_integer, is_whole -/
def isI : D → Bool
  | .int _ => true
  | _ => false
theorem r_int (k : Nat) (S : Sto) : ∀ {d : D}, dry d = true → run P0 (k + 1) 0 [d] S = .ok (.bl (isI d)) S
  | .int _, _ | .bl _, _ | .str _, _ | .tup _, _ | .lst _, _ | .rol _, _ | .dic _, _ | .non, _ => call_dry0 f_is_integer rfl rfl rfl rfl
  | .ref _, h => by simp [dry] at h
  | .dit _, h => by simp [dry] at h
theorem r_whole (k : Nat) (S : Sto) (i lo hi : Int) : run P0 (k + 2) 1 [.int i, .int lo, .int hi] S = .ok (.bl (decide (lo ≤ i) && decide (i ≤ hi))) S := by
  refine call_dry0 f_is_whole rfl rfl (seq_ret (s_ret (e_and_t (e_call (l_cons (e_var rfl) l_nil) (r_int k S (d := .int i) rfl)) (e_and_1 ?_)))) rfl
  by_cases h : lo ≤ i
  · have e : decide (lo ≤ i) = true := decide_eq_true h
    simp only [evE, Env.get, R.of, R.bind, List.map_cons, List.map_nil, List.cons_append, List.getElem?_cons_zero, List.getElem?_cons_succ, cmpD, ordD, e, Bool.true_and]
  · have e : decide (lo ≤ i) = false := decide_eq_false h
    simp only [evE, Env.get, R.of, R.bind, List.map_cons, List.map_nil, List.cons_append, List.getElem?_cons_zero, List.getElem?_cons_succ, cmpD, ordD, e, Bool.false_and]
/-! ### names and rows -/
def names8 : List Str := ["a", "b", "c", "d", "x", "y", "n", "zz"]
theorem r_name (k : Nat) (S : Sto) {z : Str} (h : z ∈ names8) : run P0 (k + 1) 2 [.str z] S = .ok (.bl true) S := by
  simp only [names8, List.mem_cons, List.not_mem_nil, or_false] at h
  rcases h with h | h | h | h | h | h | h | h <;> subst h <;> exact call_dry0 f_is_name rfl rfl rfl rfl
abbrev pr (p : Str × D) : D := .tup [.str p.1, p.2]
def rowX (ps : List (Str × D)) : D := .tup (ps.map pr)
def srt (ps : List Str) : Bool := (ps.zip ps.tail).all fun p => ltS p.1 p.2
theorem r_rows (k : Nat) (S : Sto) {ps : List (Str × D)} (hn : ∀ p ∈ ps, p.1 ∈ names8) (hl : ps.length ≤ LIM) : run P0 (k + 2) 3 [rowX ps] S = .ok (.bl (srt (ps.map (·.1)))) S := by
  refine call_dry0 f_are_rows rfl rfl (seq_nx (ρ' := [some (rowX ps), none, none]) (S' := S) ?_ (seq_nx (ρ' := [some (rowX ps), none, none]) (S' := S) ?_ (seq_ret (s_ret ?_)))) rfl
  · refine (s_if_f (S' := S) (e_or_f (S' := S) rfl (e_or_1 ?_))).trans rfl
    refine e_not (b := true) ?_
    have e := all_lc (Γ := Γr (k + 1)) (ρ := [some (rowX ps), none, none]) (S := S) ps (fun _ => true) (lc_map ps pr (fun _ => .bl true) (elt := .and [.isi (.var 1) .tuple, .cmp .Eq (.bi .len [.var 1]) (.con (.int 2))]) (tg := .nm 1) (it := .itv (.var 0)) (own := [1]) (i_itv (e_var rfl) rfl) (fun p hp => ⟨_, rfl, rfl⟩) hl)
    rw [List.all_eq_true.mpr fun _ _ => rfl] at e
    exact e
  · refine (s_if_f (S' := S) (e_not (b := true) ?_)).trans rfl
    have e := all_lc (Γ := Γr (k + 1)) (ρ := [some (rowX ps), none, none]) (S := S) ps (fun _ => true) (lc_map ps pr (fun _ => .bl true) (elt := .call 2 [.ix (.var 1) (.con (.int 0))]) (tg := .nm 1) (it := .itv (.var 0)) (own := [1]) (i_itv (e_var rfl) rfl) (fun p hp => ⟨_, rfl, e_call (l_cons (d := .str p.1) rfl l_nil) (r_name k S (hn p hp))⟩) hl)
    rw [List.all_eq_true.mpr fun _ _ => rfl] at e
    exact e
  · have e := all_lc (Γ := Γr (k + 1)) (ρ := [some (rowX ps), none, none]) (S := S) (ps.zip ps.tail) (fun q => ltS q.1.1 q.2.1) (lc_map (ps.zip ps.tail) (fun q => .tup [pr q.1, pr q.2]) (fun q => .bl (ltS q.1.1 q.2.1)) (elt := .cmp .Lt (.ix (.var 1) (.con (.int 0))) (.ix (.var 2) (.con (.int 0)))) (tg := .tp [.nm 1, .nm 2]) (it := .zp (.var 0) (.slL (.var 0) (.con (.int 1)))) (own := [1, 2]) (g := none) (i_zp (S' := S) (x := rowX ps) (y := rowX ps.tail) (e_var rfl) ?_ ?_) (fun p hp => ⟨_, rfl, rfl⟩) ?_)
    · rw [e]
      have : (ps.zip ps.tail).all (fun q => ltS q.1.1 q.2.1) = srt (ps.map (·.1)) := by
        unfold srt
        rw [← List.map_tail, List.zip_map, List.all_map]; rfl
      rw [this]
    · simp only [evE, Env.get, R.of, R.bind, List.getElem?_cons_zero, slD, rowX]
      have e1 : cut (ps.map pr) (some 1) none = ps.tail.map pr := by
        have := cut_lo (ps.map pr) 1
        simpa [List.drop_one, ← List.map_tail] using this
      rw [e1]
    · simp only [zpD, rowX, stillOf, zipD_map]
    · exact Nat.le_trans (by simp) hl
theorem dry_mem : ∀ {ds : List D}, (∀ d ∈ ds, dry d = true) → dryL ds = true
  | [], _ => rfl
  | d :: ds, h => by
    simp only [dryL, h d List.mem_cons_self, dry_mem fun x hx => h x (List.mem_cons_of_mem _ hx)]; rfl
/-! ### _vector -/
def nums (xs : List Int) : D := .lst (xs.map .int)
theorem dry_nums (xs : List Int) : dry (nums xs) = true := by
  unfold nums
  simp only [dry]
  exact dry_mem fun d hd => by
    obtain ⟨x, _, rfl⟩ := List.mem_map.mp hd; rfl
def vec (xs ys : List Int) (t : Int) : List Int := (xs.zip ys).map fun q => q.1 + t * q.2
theorem r_vec (k : Nat) (S : Sto) {xs ys : List Int} (t : Int) (hy : ∀ y ∈ ys, -BIG < y ∧ y < BIG) (hl : xs.length ≤ LIM) : run P0 (k + 1) 4 [nums xs, nums ys, .int t] S = .ok (nums (vec xs ys t)) S := by
  refine call_dry0 f__vector rfl rfl (seq_ret (s_ret ?_)) (dry_nums _)
  have e := lc_map (Γ := Γr k) (ρ := [some (nums xs), some (nums ys), some (.int t), none, none]) (S := S) (xs.zip ys) (fun q => .tup [.int q.1, .int q.2]) (fun q => .int (q.1 + t * q.2)) (elt := .op .Add (.var 3) (.op .Mult (.var 2) (.var 4))) (tg := .tp [.nm 3, .nm 4]) (it := .zp (.var 0) (.var 1)) (own := [3, 4]) (g := none) (i_zp (S' := S) (x := nums xs) (y := nums ys) (e_var rfl) (e_var rfl) (by simp only [zpD, nums, stillOf, zipD_map])) (fun q hq => ⟨_, rfl, e_op (x := .int q.1) (y := .int (t * q.2)) rfl (e_op (x := .int t) (y := .int q.2) rfl rfl (by simp only [opD]; rw [if_pos (Or.inr (hy _ (List.of_mem_zip hq).2))])) rfl⟩) (by simp; omega)
  unfold vec nums
  rw [List.map_map]
  exact e
/-! ### _are_integers -/
def okR (ps : List (Str × D)) : Bool := srt (ps.map (·.1)) && ps.all fun p => isI p.2
theorem r_ints (k : Nat) (S : Sto) {ps : List (Str × D)} (hn : ∀ p ∈ ps, p.1 ∈ names8) (hd : ∀ p ∈ ps, dry p.2 = true) (hl : ps.length ≤ LIM) : run P0 (k + 3) 5 [rowX ps] S = .ok (.bl (okR ps)) S := by
  refine call_dry0 f__are_integers rfl rfl (seq_ret (s_ret (e_and2 (e_call (l_cons (e_var rfl) l_nil) (r_rows k S hn hl)) fun _ => ?_))) rfl
  exact all_lc (Γ := Γr (k + 2)) (ρ := [some (rowX ps), none, none]) (S := S) ps (fun p => isI p.2) (lc_map ps pr (fun p => .bl (isI p.2)) (elt := .call 0 [.var 2]) (tg := .tp [.nm 1, .nm 2]) (it := .itv (.var 0)) (own := [1, 2]) (i_itv (e_var rfl) rfl) (fun p hp => ⟨_, rfl, e_call (l_cons (d := p.2) rfl l_nil) (r_int (k + 1) S (hd p hp))⟩) hl)
theorem r_rows_not (k : Nat) (S : Sto) {d : D} (hd : isTy d .tuple = some false) : run P0 (k + 1) 3 [d] S = .ok (.bl false) S := by
  refine call_dry0 f_are_rows rfl rfl (seq_ret ((s_if_t (S' := S) (e_or_t (e_not (b := false) ?_))).trans (seq_ret rfl))) rfl
  show R.bind (R.of (some d) S) _ = _
  simp only [R.of, R.bind, hd]
theorem r_ints_not (k : Nat) (S : Sto) {d : D} (hd : isTy d .tuple = some false) : run P0 (k + 2) 5 [d] S = .ok (.bl false) S :=
  call_dry0 f__are_integers rfl rfl (seq_ret (s_ret (e_and_f (e_call (l_cons (e_var rfl) l_nil) (r_rows_not k S hd))))) rfl
/-! ### _check_solutions -/
abbrev Row := List (Str × Int)
def prI (p : Str × Int) : D := .tup [.str p.1, .int p.2]
def rowI (s : Row) : D := .tup (s.map prI)
def txts (xs : List Str) : D := .lst (xs.map .str)
theorem rowI_eq (s : Row) : rowI s = rowX (s.map fun p => (p.1, .int p.2)) := by
  unfold rowI rowX
  rw [List.map_map]; rfl
theorem shpL_str : ∀ (xs : List Str) (n : Nat), shpL (xs.map .str) n = true
  | [], _ => by simp [shpL]
  | x :: xs, n => by simp [shpL, shp, shpL_str xs n]
theorem shpL_int : ∀ (xs : List Int) (n : Nat), shpL (xs.map .int) n = true
  | [], _ => by simp [shpL]
  | x :: xs, n => by simp [shpL, shp, shpL_int xs n]
theorem eqvL_str : ∀ (xs ys : List Str), eqvL (xs.map .str) (ys.map .str) = decide (xs = ys)
  | [], [] => by simp [eqvL]
  | [], _ :: _ => by simp [eqvL]
  | _ :: _, [] => by simp [eqvL]
  | x :: xs, y :: ys => by
    simp only [List.map_cons, eqvL, eqv, eqvL_str xs ys, List.cons.injEq]
    by_cases h : x = y <;> by_cases h2 : xs = ys <;> simp [h, h2]
theorem eqvL_int : ∀ (xs ys : List Int), eqvL (xs.map .int) (ys.map .int) = decide (xs = ys)
  | [], [] => by simp [eqvL]
  | [], _ :: _ => by simp [eqvL]
  | _ :: _, [] => by simp [eqvL]
  | x :: xs, y :: ys => by
    simp only [List.map_cons, eqvL, eqv, eqvL_int xs ys, List.cons.injEq]
    by_cases h : x = y <;> by_cases h2 : xs = ys <;> simp [h, h2]
theorem ne_txts (xs ys : List Str) (S : Sto) : cmpD .NotEq (txts xs) (txts ys) S = some (!decide (xs = ys)) := by
  simp only [cmpD, txts, shp, shpL_str, Bool.and_true, if_true, eqv, eqvL_str]
def nms (s : Row) : List Str := s.map (·.1)
def goodR (s : Row) : Prop := (∀ p ∈ s, p.1 ∈ names8) ∧ srt (nms s) = true ∧ s.length ≤ 100
theorem r_ints_good (k : Nat) (S : Sto) {s : Row} (h : goodR s) : run P0 (k + 3) 5 [rowI s] S = .ok (.bl true) S := by
  rw [rowI_eq]
  have := r_ints k S (ps := s.map fun p => (p.1, .int p.2)) (by intro p hp; obtain ⟨q, hq, rfl⟩ := List.mem_map.mp hp; exact h.1 q hq) (by intro p hp; obtain ⟨q, hq, rfl⟩ := List.mem_map.mp hp; rfl) (by rw [List.length_map]; exact Nat.le_trans h.2.2 (by decide))
  rw [this]
  have e : okR (s.map fun p => (p.1, .int p.2)) = true := by
    unfold okR
    rw [List.map_map, List.all_map]
    have : (s.map ((fun p : Str × D => p.1) ∘ fun p => (p.1, .int p.2))) = nms s := rfl
    rw [this, h.2.1]
    exact List.all_eq_true.mpr fun _ _ => rfl
  rw [e]
/-- the places that are not zero -/
def nzq (s : Row) : List ((Str × Int) × Nat) := (s.zipIdx).filter fun q => !(q.1.2 == 0)
def nz (s : Row) : List Nat := (nzq s).map (·.2)
abbrev LCnames (v : Nat) : Ex := .lc (.var 8) (.tp [.nm 8, .nm 9]) (.itv (.var v)) [] [8, 9]
abbrev env6 (b s : D) (x2 x3 x4 x5 x6 x7 : Option D) : MP.Env := [some b, some s, x2, x3, x4, x5, x6, x7, none, none, none, none, none, none]
theorem ev_names0 (k : Nat) (S : Sto) (b : Row) (s : D) (x2 x3 x4 x5 x6 x7 : Option D) (hl : b.length ≤ 100) : evE (Γr k) (LCnames 0) (env6 (rowI b) s x2 x3 x4 x5 x6 x7) S = .ok (txts (nms b)) S := by
  have := lc_map (Γ := Γr k) (ρ := env6 (rowI b) s x2 x3 x4 x5 x6 x7) (S := S) b prI (fun p => .str p.1) (elt := .var 8) (tg := .tp [.nm 8, .nm 9]) (it := .itv (.var 0)) (own := [8, 9]) (i_itv (e_var rfl) rfl) (fun p hp => ⟨_, rfl, rfl⟩) (Nat.le_trans hl (by decide))
  unfold txts nms
  rw [List.map_map]
  exact this
theorem ev_names4 (k : Nat) (S : Sto) (b : D) (s : D) (x2 x3 x5 x6 x7 : Option D) (r : Row) (hl : r.length ≤ 100) : evE (Γr k) (LCnames 4) (env6 b s x2 x3 (some (rowI r)) x5 x6 x7) S = .ok (txts (nms r)) S := by
  have := lc_map (Γ := Γr k) (ρ := env6 b s x2 x3 (some (rowI r)) x5 x6 x7) (S := S) r prI (fun p => .str p.1) (elt := .var 8) (tg := .tp [.nm 8, .nm 9]) (it := .itv (.var 4)) (own := [8, 9]) (i_itv (e_var rfl) rfl) (fun p hp => ⟨_, rfl, rfl⟩) (Nat.le_trans hl (by decide))
  unfold txts nms
  rw [List.map_map]
  exact this
abbrev LCown : Ex := .lc (.var 10) (.tp [.nm 10, .tp [.nm 11, .nm 12]]) (.enm (.var 4)) [.cmp .NotEq (.var 12) (.con (.int 0))] [10, 11, 12]
theorem ev_own (k : Nat) (S : Sto) (b : D) (s : D) (x2 x3 x5 x6 x7 : Option D) (r : Row) (hl : r.length ≤ 100) : evE (Γr k) LCown (env6 b s x2 x3 (some (rowI r)) x5 x6 x7) S = .ok (nums ((nz r).map Int.ofNat)) S := by
  have := lc_fil (Γ := Γr k) (ρ := env6 b s x2 x3 (some (rowI r)) x5 x6 x7) (S := S) r.zipIdx (fun q => D.tup [D.int q.2, prI q.1]) (fun q => D.int q.2) (fun q => !(q.1.2 == 0)) (elt := .var 10) (tg := .tp [.nm 10, .tp [.nm 11, .nm 12]]) (it := .enm (.var 4)) (cnd := [.cmp .NotEq (.var 12) (.con (.int 0))]) (own := [10, 11, 12]) (g := none) (i_enm (d := rowI r) (e_var rfl) (by simp only [rowI, enmD, itemsOf, Option.map_some, enumD_map])) (fun q hq => ⟨_, rfl, by
      show R.bind (R.bind (R.of (some (D.int q.1.2)) S) _) _ = _
      simp only [R.of, R.bind, evE, cmpD, shp, Bool.and_true, if_true, eqv]
      cases (q.1.2 == 0) <;> simp [evAll], fun _ => rfl⟩) (by simp; exact Nat.le_trans hl (by decide))
  unfold nums nz nzq
  rw [List.map_map, List.map_map]
  exact this
def val (s : Row) (f : Nat) : Int := match s[f]? with
  | some p => p.2
  | none => 0
def fits (size : Int) (f : Nat) (rs : List Row) : Bool := rs.all fun r => decide (0 ≤ val r f) && decide (val r f ≤ size - 1)
def late (fs : List Nat) (f : Nat) : Bool := match fs.getLast? with
  | some g => decide (f ≤ g)
  | none => false
/-- one step's first place, if it is in the one form -/
def stp (nm : List Str) (b : Row) (done : List Row) (fs : List Nat) (s : Row) : Option Nat :=
  if nms s = nm then (match nz s with
    | [] => none
    | f :: _ => if val s f < 0 then none else if late fs f = true then none else if fits (val s f) f (done ++ [b]) = true then some f else none)
  else none
abbrev RAI1 : Sm := .rai 1 [.con (.str "unlike names, or no step")]
abbrev RAI2 : Sm := .rai 1 [.con (.str "not in the one form")]
abbrev Xtest : Ex := .or [.cmp .NotEq (LCnames 4) (.var 2), .cmp .Eq (.bi .len [.var 5]) (.con (.int 0))]
abbrev Xlate : Ex := .or [.cmp .Lt (.var 7) (.con (.int 0)), .and [.cmp .Gt (.bi .len [.var 3]) (.con (.int 0)), .cmp .LtE (.var 6) (.ix (.var 3) (.neg (.con (.int 1))))]]
abbrev Xfits : Ex := .not (.bi .all [.lc (.call 1 [.ix (.ix (.var 13) (.var 6)) (.con (.int 1)), .con (.int 0), .op .Sub (.var 7) (.con (.int 1))]) (.nm 13) (.itv (.op .Add (.slH (.var 1) (.bi .len [.var 3])) (.tup [.var 0]))) [] [13]])
abbrev bodyC : List Sm := [.asg (.nm 5) LCown, .ifs Xtest [RAI1] [], .asg (.nm 6) (.ix (.var 5) (.con (.int 0))), .asg (.nm 7) (.ix (.ix (.var 4) (.var 6)) (.con (.int 1))), .ifs Xlate [RAI2] [], .ifs Xfits [RAI2] [], .ex (.app (.var 3) (.var 6))]
abbrev at_ (S : Sto) (fs : List Nat) : Sto := S ++ [.lst ((fs.map Int.ofNat).map .int)]
theorem get_at (S : Sto) (xs : List D) : Sto.get (S ++ [.lst xs]) S.length = some (.lst xs) := by
  simp [Sto.get]
theorem set_at (S : Sto) (xs ys : List D) : (S ++ [O.lst xs]).set S.length (.lst ys) = S ++ [.lst ys] := by
  simp
theorem row_at {s : Row} {f : Nat} (h : f < s.length) : ∃ p, s[f]? = some p ∧ L2.atI (s.map prI) (f : Int) = some (prI p) ∧ val s f = p.2 := by
  refine ⟨s[f], List.getElem?_eq_getElem h, L2.atI_nat (by simp [List.getElem?_eq_getElem h]), ?_⟩
  unfold val
  rw [List.getElem?_eq_getElem h]
theorem nz_lt {s : Row} {f : Nat} (h : f ∈ nz s) : f < s.length := by
  unfold nz nzq at h
  obtain ⟨q, hq, rfl⟩ := List.mem_map.mp h
  have := (List.mem_filter.mp hq).1
  exact List.snd_lt_of_mem_zipIdx this
theorem ev_test (k : Nat) (T : Sto) (b s : D) (x3 x6 x7 : Option D) (r : Row) (nm : List Str) (hl : r.length ≤ 100) : evE (Γr k) Xtest (env6 b s (some (txts nm)) x3 (some (rowI r)) (some (nums ((nz r).map Int.ofNat))) x6 x7) T = .ok (.bl (!decide (nms r = nm) || decide (nz r = []))) T := by
  refine e_or2 (e_cmp (ev_names4 k T b s _ _ _ _ _ r hl) (e_var rfl) (ne_txts _ _ T)) fun _ => e_cmp (x := .int (nz r).length) (e_bi1 (e_var rfl) (by simp [bi1, lenD, nums])) rfl ?_
  simp only [cmpD, shp, Bool.and_true, if_true, eqv]
  cases nz r with
  | nil => rfl
  | cons f fs =>
    simp only [List.length_cons, Option.some.injEq]
    rw [decide_eq_false (by simp)]
    exact beq_false_of_ne (by omega)
theorem ev_late (k : Nat) (S : Sto) (b s : D) (x2 x4 x5 : Option D) (fs : List Nat) (f : Nat) (z : Int) : evE (Γr k) Xlate (env6 b s x2 (some (.ref S.length)) x4 x5 (some (.int f)) (some (.int z))) (at_ S fs) = .ok (.bl (decide (z < 0) || late fs f)) (at_ S fs) := by
  refine e_or2 (S := at_ S fs) rfl fun _ => ?_
  have hlen : evE (Γr k) (.bi .len [.var 3]) (env6 b s x2 (some (.ref S.length)) x4 x5 (some (.int f)) (some (.int z))) (at_ S fs) = .ok (.int fs.length) (at_ S fs) := e_bi1 (e_var rfl) (by simp [bi1, lenD, get_at])
  cases h : fs.getLast? with
  | none =>
    have hf : fs = [] := List.getLast?_eq_none_iff.mp h
    subst hf
    refine (e_and_f (e_cmp hlen rfl rfl)).trans ?_
    rfl
  | some g =>
    obtain ⟨ys, hf⟩ := List.getLast?_eq_some_iff.mp h
    have hp : 0 < fs.length := by rw [hf]; simp
    refine (e_and2 (a := true) (b := decide (f ≤ g)) (e_cmp hlen rfl (by simp [cmpD, ordD]; omega)) fun _ => e_cmp (y := .int g) (e_var rfl) (e_ix (e_var rfl) rfl ?_) (by simp [cmpD, ordD])).trans ?_
    · simp only [ixD, get_at]
      show L2.atI _ (-1) = _
      rw [hf]
      simp only [List.map_append, List.map_cons, List.map_nil]
      exact L2.atI_last _ _
    · simp only [late, h, Bool.true_and]
theorem ev_fits (k : Nat) (S : Sto) (b : Row) (steps done : List Row) (x2 x4 x5 : Option D) (fs : List Nat) (f : Nat) (z : Int) (hd : steps.take fs.length = done) (hf : ∀ r ∈ done ++ [b], f < r.length) (hl : steps.length ≤ 100) : evE (Γr (k + 2)) Xfits (env6 (rowI b) (.tup (steps.map rowI)) x2 (some (.ref S.length)) x4 x5 (some (.int f)) (some (.int z))) (at_ S fs) = .ok (.bl (!fits z f (done ++ [b]))) (at_ S fs) := by
  refine e_not ?_
  have hlen : evE (Γr (k + 2)) (.bi .len [.var 3]) (env6 (rowI b) (.tup (steps.map rowI)) x2 (some (.ref S.length)) x4 x5 (some (.int f)) (some (.int z))) (at_ S fs) = .ok (.int fs.length) (at_ S fs) := e_bi1 (e_var rfl) (by simp [bi1, lenD, get_at])
  have hdl : done.length ≤ 100 := by rw [← hd, List.length_take]; omega
  have hs : evE (Γr (k + 2)) (.op .Add (.slH (.var 1) (.bi .len [.var 3])) (.tup [.var 0])) (env6 (rowI b) (.tup (steps.map rowI)) x2 (some (.ref S.length)) x4 x5 (some (.int f)) (some (.int z))) (at_ S fs) = .ok (.tup ((done ++ [b]).map rowI)) (at_ S fs) := by
    refine e_op (S' := at_ S fs) (x := .tup (done.map rowI)) (y := .tup [rowI b]) ?_ (e_tup (l_cons (e_var rfl) l_nil) (by simp [LIM])) ?_
    · exact e_slH (x := .tup (steps.map rowI)) (e_var rfl) hlen (by simp only [slD, cut_hi, ← hd, List.map_take])
    · simp only [opD, List.length_map]
      rw [if_pos (by simp [LIM]; omega), List.map_append]
      rfl
  exact all_lc (Γ := Γr (k + 2)) (done ++ [b]) (fun r => decide (0 ≤ val r f) && decide (val r f ≤ z - 1)) (lc_map (done ++ [b]) rowI _ (i_itv hs rfl) (fun r hr => by
    obtain ⟨p, hp, ha, hv⟩ := row_at (hf r hr)
    refine ⟨_, rfl, ?_⟩
    rw [hv]
    refine e_call (l_cons (d := .int p.2) (e_ix (x := prI p) (y := .int 1) (e_ix (x := rowI r) (y := .int f) rfl rfl ?_) rfl rfl) (l_cons (d := .int 0) rfl (l_cons (d := .int (z - 1)) rfl l_nil))) (r_whole k _ p.2 0 (z - 1))
    exact ha) (by simp [LIM]; omega))
/-- a step in the one form -/
theorem body_ok (k : Nat) (S : Sto) (b : Row) (steps done : List Row) (x5 x6 x7 : Option D) (fs : List Nat) (f : Nat) (s : Row) (nm : List Str) (hd : steps.take fs.length = done) (hdn : ∀ r ∈ done ++ [b], r.length = nm.length) (hl : steps.length ≤ 100) (hls : s.length ≤ 100) (hfl : fs.length ≤ 100) (hs : stp nm b done fs s = some f) : evSs (Γr (k + 2)) bodyC (env6 (rowI b) (.tup (steps.map rowI)) (some (txts nm)) (some (.ref S.length)) (some (rowI s)) x5 x6 x7) (at_ S fs) = .ok (.nx (env6 (rowI b) (.tup (steps.map rowI)) (some (txts nm)) (some (.ref S.length)) (some (rowI s)) (some (nums ((nz s).map Int.ofNat))) (some (.int f)) (some (.int (val s f))))) (at_ S (fs ++ [f])) := by
  unfold stp at hs
  by_cases hnm : nms s = nm
  · rw [if_pos hnm] at hs
    cases hz : nz s with
    | nil => rw [hz] at hs; cases hs
    | cons g gs =>
      rw [hz] at hs
      simp only at hs
      by_cases h1 : val s g < 0
      · rw [if_pos h1] at hs; cases hs
      rw [if_neg h1] at hs
      by_cases h2 : late fs g = true
      · rw [if_pos h2] at hs; cases hs
      rw [if_neg h2] at hs
      by_cases h3 : fits (val s g) g (done ++ [b]) = true
      · rw [if_pos h3] at hs
        cases hs
        have hg : f < s.length := nz_lt (by rw [hz]; exact List.mem_cons_self)
        obtain ⟨p, hp, ha, hv⟩ := row_at hg
        have hsl : s.length = nm.length := by rw [← hnm]; simp [nms]
        rw [← hz]
        refine seq_nx (s_asg (ev_own _ _ _ _ _ _ _ _ _ s hls) rfl) ?_
        refine if_skip (ev_test (k + 2) _ _ _ _ _ _ s nm hls) ?_ ?_
        · rw [hz]; simp [hnm]
        refine seq_nx (s_asg (e_ix (x := nums ((nz s).map Int.ofNat)) (y := .int 0) (r := .int f) rfl rfl ?_) rfl) ?_
        · rw [hz]; exact L2.atI_nat (xs := (List.map Int.ofNat (f :: gs)).map D.int) (j := 0) rfl
        refine seq_nx (s_asg (e_ix (x := prI p) (y := .int 1) (r := .int (val s f)) (e_ix (x := rowI s) (y := .int f) rfl rfl ha) rfl (by rw [hv]; rfl)) rfl) ?_
        refine if_skip (ev_late (k + 2) S _ _ _ _ _ fs f (val s f)) ?_ ?_
        · simp [h1, h2]
        refine if_skip (ev_fits k S b steps done _ _ _ fs f (val s f) hd (fun r hr => by rw [hdn r hr, ← hsl]; exact hg) hl) ?_ ?_
        · rw [h3]; rfl
        refine seq_nx (s_ex (e_app (n := S.length) (x := .int f) rfl rfl (get_at S _) ?_)) ?_
        · simp [LIM]; omega
        · rw [set_at]
          simp [evSs, at_]
      · rw [if_neg h3] at hs; cases hs
  · rw [if_neg hnm] at hs; cases hs
/-- a step that is not -/
theorem body_no (k : Nat) (S : Sto) (b : Row) (steps done : List Row) (x5 x6 x7 : Option D) (fs : List Nat) (s : Row) (nm : List Str) (hd : steps.take fs.length = done) (hdn : ∀ r ∈ done ++ [b], r.length = nm.length) (hl : steps.length ≤ 100) (hls : s.length ≤ 100) (hfl : fs.length ≤ 100) (hs : stp nm b done fs s = none) : ∃ ρ', evSs (Γr (k + 2)) bodyC (env6 (rowI b) (.tup (steps.map rowI)) (some (txts nm)) (some (.ref S.length)) (some (rowI s)) x5 x6 x7) (at_ S fs) = .exc 1 [] ρ' (at_ S fs) := by
  unfold stp at hs
  by_cases hnm : nms s = nm
  · rw [if_pos hnm] at hs
    cases hz : nz s with
    | nil =>
      exact ⟨_, seq_nx (s_asg (ev_own _ _ _ _ _ _ _ _ _ s hls) rfl) (if_exc (ev_test (k + 2) _ _ _ _ _ _ s nm hls) (by rw [hz]; simp) (seq_exc rfl))⟩
    | cons g gs =>
      rw [hz] at hs
      simp only at hs
      have hg : g < s.length := nz_lt (by rw [hz]; exact List.mem_cons_self)
      obtain ⟨p, hp, ha, hv⟩ := row_at hg
      have hsl : s.length = nm.length := by rw [← hnm]; simp [nms]
      have pre : ∀ r : RS, evSs (Γr (k + 2)) (bodyC.drop 4) (env6 (rowI b) (.tup (steps.map rowI)) (some (txts nm)) (some (.ref S.length)) (some (rowI s)) (some (nums ((nz s).map Int.ofNat))) (some (.int g)) (some (.int (val s g)))) (at_ S fs) = r → evSs (Γr (k + 2)) bodyC (env6 (rowI b) (.tup (steps.map rowI)) (some (txts nm)) (some (.ref S.length)) (some (rowI s)) x5 x6 x7) (at_ S fs) = r := by
        intro r hr
        refine seq_nx (s_asg (ev_own _ _ _ _ _ _ _ _ _ s hls) rfl) ?_
        refine if_skip (ev_test (k + 2) _ _ _ _ _ _ s nm hls) ?_ ?_
        · rw [hz]; simp [hnm]
        refine seq_nx (s_asg (e_ix (x := nums ((nz s).map Int.ofNat)) (y := .int 0) (r := .int g) rfl rfl ?_) rfl) ?_
        · rw [hz]; exact L2.atI_nat (xs := (List.map Int.ofNat (g :: gs)).map D.int) (j := 0) rfl
        exact seq_nx (s_asg (e_ix (x := prI p) (y := .int 1) (r := .int (val s g)) (e_ix (x := rowI s) (y := .int g) rfl rfl ha) rfl (by rw [hv]; rfl)) rfl) hr
      by_cases h12 : (decide (val s g < 0) || late fs g) = true
      · exact ⟨_, pre _ (if_exc (ev_late (k + 2) S _ _ _ _ _ fs g (val s g)) h12 (seq_exc rfl))⟩
      · have h1 : ¬ val s g < 0 := fun h => h12 (by simp [h])
        have h2 : ¬ late fs g = true := fun h => h12 (by simp [h])
        rw [if_neg h1, if_neg h2] at hs
        by_cases h3 : fits (val s g) g (done ++ [b]) = true
        · rw [if_pos h3] at hs; cases hs
        refine ⟨_, pre _ (if_skip (ev_late (k + 2) S _ _ _ _ _ fs g (val s g)) (Bool.eq_false_iff.mpr h12) (if_exc (ev_fits k S b steps done _ _ _ fs g (val s g) hd (fun r hr => by rw [hdn r hr, ← hsl]; exact hg) hl) (by rw [Bool.eq_false_iff.mpr h3]; rfl) (seq_exc rfl)))⟩
  · exact ⟨_, seq_nx (s_asg (ev_own _ _ _ _ _ _ _ _ _ s hls) rfl) (if_exc (ev_test (k + 2) _ _ _ _ _ _ s nm hls) (by simp [hnm]) (seq_exc rfl))⟩
def chk (nm : List Str) (b : Row) : List Row → List Nat → List Row → Option (List Nat)
  | _, fs, [] => some fs
  | done, fs, s :: r => match stp nm b done fs s with
    | some f => chk nm b (done ++ [s]) (fs ++ [f]) r
    | none => none
theorem stp_nms {nm : List Str} {b s : Row} {done : List Row} {fs : List Nat} {f : Nat} (h : stp nm b done fs s = some f) : nms s = nm := by
  unfold stp at h
  by_cases hn : nms s = nm
  · exact hn
  · rw [if_neg hn] at h; cases h
theorem nms_len (s : Row) : (nms s).length = s.length := by simp [nms]
theorem loop_ok (k : Nat) (S : Sto) (b : Row) (steps : List Row) (nm : List Str) (hb : b.length = nm.length) (hl : steps.length ≤ 100) : ∀ (todo done : List Row) (fs gs : List Nat) (x4 x5 x6 x7 : Option D), steps = done ++ todo → fs.length = done.length → (∀ r ∈ done, r.length = nm.length) → (∀ r ∈ todo, r.length ≤ 100) → chk nm b done fs todo = some gs →
    ∃ y4 y5 y6 y7, forR none (forF (fun ρ S => evSs (Γr (k + 2)) bodyC ρ S) (.nm 4)) (todo.map rowI) (env6 (rowI b) (.tup (steps.map rowI)) (some (txts nm)) (some (.ref S.length)) x4 x5 x6 x7) (at_ S fs) = .ok (.nx (env6 (rowI b) (.tup (steps.map rowI)) (some (txts nm)) (some (.ref S.length)) y4 y5 y6 y7)) (at_ S gs)
  | [], done, fs, gs, x4, x5, x6, x7, _, _, _, _, hc => by
    cases hc
    exact ⟨_, _, _, _, rfl⟩
  | s :: todo, done, fs, gs, x4, x5, x6, x7, hs, hf, hd, ht, hc => by
    simp only [chk] at hc
    cases hst : stp nm b done fs s with
    | none => rw [hst] at hc; cases hc
    | some f =>
      rw [hst] at hc
      simp only at hc
      have hns := stp_nms hst
      have hdl : done.length ≤ 100 := by rw [hs, List.length_append] at hl; omega
      have e := body_ok k S b steps done x5 x6 x7 fs f s nm (by rw [hs, hf, List.take_left']; rfl) (fun r hr => by
        rcases List.mem_append.mp hr with h | h
        · exact hd r h
        · rw [List.mem_singleton.mp h]; exact hb) hl (ht s List.mem_cons_self) (by omega) hst
      obtain ⟨y4, y5, y6, y7, h⟩ := loop_ok k S b steps nm hb hl todo (done ++ [s]) (fs ++ [f]) gs (some (rowI s)) (some (nums ((nz s).map Int.ofNat))) (some (.int f)) (some (.int (val s f))) (by rw [hs]; simp) (by simp [hf]) (fun r hr => by
        rcases List.mem_append.mp hr with h | h
        · exact hd r h
        · rw [List.mem_singleton.mp h, ← hns, nms_len]) (fun r hr => ht r (List.mem_cons_of_mem _ hr)) hc
      exact ⟨y4, y5, y6, y7, (for_nx ((forF_eq rfl).trans e)).trans h⟩
theorem loop_no (k : Nat) (S : Sto) (b : Row) (steps : List Row) (nm : List Str) (hb : b.length = nm.length) (hl : steps.length ≤ 100) : ∀ (todo done : List Row) (fs : List Nat) (x4 x5 x6 x7 : Option D), steps = done ++ todo → fs.length = done.length → (∀ r ∈ done, r.length = nm.length) → (∀ r ∈ todo, r.length ≤ 100) → chk nm b done fs todo = none →
    ∃ ρ' fs', forR none (forF (fun ρ S => evSs (Γr (k + 2)) bodyC ρ S) (.nm 4)) (todo.map rowI) (env6 (rowI b) (.tup (steps.map rowI)) (some (txts nm)) (some (.ref S.length)) x4 x5 x6 x7) (at_ S fs) = .exc 1 [] ρ' (at_ S fs')
  | [], done, fs, x4, x5, x6, x7, _, _, _, _, hc => by cases hc
  | s :: todo, done, fs, x4, x5, x6, x7, hs, hf, hd, ht, hc => by
    simp only [chk] at hc
    have hdl : done.length ≤ 100 := by rw [hs, List.length_append] at hl; omega
    have hdn : ∀ r ∈ done ++ [b], r.length = nm.length := fun r hr => by
      rcases List.mem_append.mp hr with h | h
      · exact hd r h
      · rw [List.mem_singleton.mp h]; exact hb
    cases hst : stp nm b done fs s with
    | none =>
      obtain ⟨ρ', e⟩ := body_no k S b steps done x5 x6 x7 fs s nm (by rw [hs, hf, List.take_left']; rfl) hdn hl (ht s List.mem_cons_self) (by omega) hst
      exact ⟨ρ', fs, for_exc ((forF_eq rfl).trans e)⟩
    | some f =>
      rw [hst] at hc
      simp only at hc
      have hns := stp_nms hst
      have e := body_ok k S b steps done x5 x6 x7 fs f s nm (by rw [hs, hf, List.take_left']; rfl) hdn hl (ht s List.mem_cons_self) (by omega) hst
      obtain ⟨ρ', fs', h⟩ := loop_no k S b steps nm hb hl todo (done ++ [s]) (fs ++ [f]) (some (rowI s)) (some (nums ((nz s).map Int.ofNat))) (some (.int f)) (some (.int (val s f))) (by rw [hs]; simp) (by simp [hf]) (fun r hr => by
        rcases List.mem_append.mp hr with h | h
        · exact hd r h
        · rw [List.mem_singleton.mp h, ← hns, nms_len]) (fun r hr => ht r (List.mem_cons_of_mem _ hr)) hc
      exact ⟨ρ', fs', (for_nx ((forF_eq rfl).trans e)).trans h⟩
abbrev Xrows : Ex := .or [.not (.call 5 [.var 0]), .not (.isi (.var 1) .tuple), .not (.bi .all [.lc (.call 5 [.var 4]) (.nm 4) (.itv (.var 1)) [] [4]])]
theorem ev_rows (k : Nat) (S : Sto) (b : Row) (steps : List Row) (hb : goodR b) (hs : ∀ r ∈ steps, goodR r) (hl : steps.length ≤ 100) : evE (Γr (k + 3)) Xrows (env6 (rowI b) (.tup (steps.map rowI)) none none none none none none) S = .ok (.bl false) S := by
  refine e_or_f (e_not (b := true) (e_call (l_cons (e_var rfl) l_nil) (r_ints_good k S hb))) (e_or_f (e_not (b := true) rfl) (e_or_1 (e_not (b := true) ?_)))
  have := all_lc (Γ := Γr (k + 3)) (ρ := env6 (rowI b) (.tup (steps.map rowI)) none none none none none none) (S := S) steps (fun _ => true) (lc_map steps rowI (fun _ => .bl true) (elt := .call 5 [.var 4]) (tg := .nm 4) (it := .itv (.var 1)) (own := [4]) (i_itv (e_var rfl) rfl) (fun r hr => ⟨_, rfl, e_call (l_cons (d := rowI r) rfl l_nil) (r_ints_good k S (hs r hr))⟩) (by simp [LIM]; omega))
  rw [List.all_eq_true.mpr fun _ _ => rfl] at this
  exact this
theorem frz_nums (S : Sto) (n : Nat) : ∀ (m : Nat) (xs : List Int), xs.length + 2 ≤ m → frzL S n m (xs.map .int) = some (xs.map .int)
  | 0, _, h => by omega
  | 1, xs, h => by omega
  | m + 2, [], _ => by simp [frzL]
  | m + 2, x :: xs, h => by
    have ih := frz_nums S n (m + 1) xs (by simp at h; omega)
    rw [List.map_cons, frzL, ih]
    simp only [frz]
theorem r_check (k : Nat) (S : Sto) (b : Row) (steps : List Row) (gs : List Nat) (hb : goodR b) (hs : ∀ r ∈ steps, goodR r) (hl : steps.length ≤ 100) (hg : gs.length ≤ 100) (hc : chk (nms b) b [] [] steps = some gs) : run P0 (k + 4) 6 [rowI b, .tup (steps.map rowI)] S = .ok (nums (gs.map Int.ofNat)) S := by
  obtain ⟨y4, y5, y6, y7, hlp⟩ := loop_ok (k + 1) S b steps (nms b) (nms_len b).symm hl steps [] [] gs none none none none (by simp) rfl (by simp) (fun r hr => (hs r hr).2.2) hc
  refine call_lst f__check_solutions rfl rfl (if_skip (ev_rows k S b steps hb hs hl) rfl (seq_nx (s_asg (ev_names0 (k + 3) S b _ _ _ _ _ _ _ hb.2.2) rfl) (seq_nx (s_asg (d := .ref S.length) (S' := at_ S []) rfl rfl) (seq_nx ((s_for (i_itv (e_var rfl) rfl)).trans hlp) (seq_ret (s_ret (e_var rfl))))))) ?_ ?_
  · exact dry_nums (gs.map Int.ofNat)
  · exact frz_nums _ _ 9999 _ (by simp; omega)
theorem r_check_no (k : Nat) (S : Sto) (b : Row) (steps : List Row) (hb : goodR b) (hs : ∀ r ∈ steps, goodR r) (hl : steps.length ≤ 100) (hc : chk (nms b) b [] [] steps = none) : run P0 (k + 4) 6 [rowI b, .tup (steps.map rowI)] S = .exc 1 [] S := by
  obtain ⟨ρ', fs', hlp⟩ := loop_no (k + 1) S b steps (nms b) (nms_len b).symm hl steps [] [] none none none none (by simp) rfl (by simp) (fun r hr => (hs r hr).2.2) hc
  exact call_exc f__check_solutions rfl rfl (if_skip (ev_rows k S b steps hb hs hl) rfl (seq_nx (s_asg (ev_names0 (k + 3) S b _ _ _ _ _ _ _ hb.2.2) rfl) (seq_nx (s_asg (d := .ref S.length) (S' := at_ S []) rfl rfl) (seq_exc ((s_for (i_itv (e_var rfl) rfl)).trans hlp)))))
/-! ### reached_by -/
def vals (s : Row) : List Int := s.map (·.2)
def tms (rest : List Int) (s : Row) (f : Nat) : Int := (rest.getD f 0).fdiv (val s f)
/-- all turns: what is left, the times found -/
def turns : List (Row × Nat) → List Int → List Int → List Int × List Int
  | [], rest, found => (rest, found)
  | q :: qs, rest, found => turns qs (vec rest (vals q.1) (0 - tms rest q.1 q.2)) (found ++ [tms rest q.1 q.2])
def fine (n : Nat) (q : Row × Nat) : Prop := q.1.length = n ∧ q.2 < n ∧ val q.1 q.2 ≠ 0 ∧ (val q.1 q.2).natAbs < 1073741824 ∧ ∀ v ∈ vals q.1, -BIG < v ∧ v < BIG
abbrev env7 (b s r x3 : D) (x4 x5 x6 x7 x8 : Option D) : MP.Env := [some b, some s, some r, some x3, x4, x5, x6, x7, x8, none, none, none, none, none, none]
abbrev bodyR : List Sm := [.asg (.nm 8) (.op .FloorDiv (.ix (.var 4) (.var 7)) (.ix (.ix (.var 6) (.var 7)) (.con (.int 1)))), .asg (.nm 4) (.call 4 [.var 4, .lc (.var 10) (.tp [.nm 9, .nm 10]) (.itv (.var 6)) [] [9, 10], .op .Sub (.con (.int 0)) (.var 8)]), .ex (.app (.var 5) (.var 8))]
abbrev atN (S : Sto) (fs : List Int) : Sto := S ++ [.lst (fs.map .int)]
theorem vec_len {xs ys : List Int} {t : Int} {n : Nat} (hx : xs.length = n) (hy : ys.length = n) : (vec xs ys t).length = n := by
  simp [vec, hx, hy]
theorem bodyR_ok (k : Nat) (S : Sto) (b s r x3 : D) (x8 : Option D) (rest found : List Int) (q : Row × Nat) (n : Nat) (hr : rest.length = n) (hn : n ≤ 100) (hq : fine n q) (hf : found.length ≤ 100) :
    evSs (Γr (k + 1)) bodyR (env7 b s r x3 (some (nums rest)) (some (.ref S.length)) (some (rowI q.1)) (some (.int q.2)) x8) (atN S found) = .ok (.nx (env7 b s r x3 (some (nums (vec rest (vals q.1) (0 - tms rest q.1 q.2)))) (some (.ref S.length)) (some (rowI q.1)) (some (.int q.2)) (some (.int (tms rest q.1 q.2))))) (atN S (found ++ [tms rest q.1 q.2])) := by
  obtain ⟨h1, h2, h3, h4, h5⟩ := hq
  obtain ⟨p, hp, ha, hv⟩ := row_at (s := q.1) (f := q.2) (by omega)
  have hrf : rest[q.2]? = some (rest.getD q.2 0) := by
    rw [List.getD_eq_getElem?_getD, List.getElem?_eq_getElem (by omega)]; rfl
  have hc := lc_map (Γ := Γr (k + 1)) (ρ := env7 b s r x3 (some (nums rest)) (some (.ref S.length)) (some (rowI q.1)) (some (.int q.2)) (some (.int (tms rest q.1 q.2)))) (S := atN S found) q.1 prI (fun p => .int p.2) (elt := .var 10) (tg := .tp [.nm 9, .nm 10]) (it := .itv (.var 6)) (own := [9, 10]) (i_itv (e_var rfl) rfl) (fun p hp => ⟨_, rfl, rfl⟩) (by simp [LIM]; omega)
  have hc2 : evE (Γr (k + 1)) (.lc (.var 10) (.tp [.nm 9, .nm 10]) (.itv (.var 6)) [] [9, 10]) (env7 b s r x3 (some (nums rest)) (some (.ref S.length)) (some (rowI q.1)) (some (.int q.2)) (some (.int (tms rest q.1 q.2)))) (atN S found) = .ok (nums (vals q.1)) (atN S found) := by
    unfold nums vals
    rw [List.map_map]
    exact hc
  refine seq_nx (s_asg (e_op (x := .int (rest.getD q.2 0)) (y := .int (val q.1 q.2)) (r := .int (tms rest q.1 q.2)) (e_ix (x := nums rest) (y := .int q.2) rfl rfl ?_) (e_ix (x := prI p) (y := .int 1) (e_ix (x := rowI q.1) (y := .int q.2) rfl rfl ha) rfl (by rw [hv]; rfl)) ?_) rfl) ?_
  · exact L2.atI_nat (by rw [List.getElem?_map, hrf]; rfl)
  · simp only [opD]
    rw [if_pos ⟨h3, h4⟩]
    rfl
  refine seq_nx (s_asg (e_call (l_cons (d := nums rest) rfl (l_cons hc2 (l_cons (d := .int (0 - tms rest q.1 q.2)) rfl l_nil))) (r_vec k _ _ h5 (by simp [LIM]; omega))) rfl) ?_
  refine seq_nx (s_ex (e_app (n := S.length) (x := .int (tms rest q.1 q.2)) rfl rfl (get_at S _) ?_)) ?_
  · simp [LIM]; omega
  · rw [set_at]
    simp [evSs, atN]
theorem loopR (k : Nat) (S : Sto) (b s r x3 : D) (n : Nat) (hn : n ≤ 100) : ∀ (qs : List (Row × Nat)) (rest found : List Int) (x6 x7 x8 : Option D), rest.length = n → (∀ q ∈ qs, fine n q) → found.length + qs.length ≤ 100 →
    ∃ y6 y7 y8, forR none (forF (fun ρ S => evSs (Γr (k + 1)) bodyR ρ S) (.tp [.nm 6, .nm 7])) (qs.map fun q => .tup [rowI q.1, .int q.2]) (env7 b s r x3 (some (nums rest)) (some (.ref S.length)) x6 x7 x8) (atN S found) = .ok (.nx (env7 b s r x3 (some (nums (turns qs rest found).1)) (some (.ref S.length)) y6 y7 y8)) (atN S (turns qs rest found).2)
  | [], rest, found, x6, x7, x8, _, _, _ => ⟨_, _, _, rfl⟩
  | q :: qs, rest, found, x6, x7, x8, hr, hq, hf => by
    have hq1 := hq q List.mem_cons_self
    have e := bodyR_ok k S b s r x3 x8 rest found q n hr hn hq1 (by simp at hf; omega)
    obtain ⟨y6, y7, y8, h⟩ := loopR k S b s r x3 n hn qs (vec rest (vals q.1) (0 - tms rest q.1 q.2)) (found ++ [tms rest q.1 q.2]) (some (rowI q.1)) (some (.int q.2)) (some (.int (tms rest q.1 q.2))) (vec_len hr (by simp [vals, hq1.1])) (fun x hx => hq x (List.mem_cons_of_mem _ hx)) (by simp at hf ⊢; omega)
    exact ⟨y6, y7, y8, (for_nx ((forF_eq rfl).trans e)).trans h⟩
abbrev LCnm (v : Nat) : Ex := .lc (.var 13) (.tp [.nm 13, .nm 14]) (.itv (.var v)) [] [13, 14]
abbrev Xrow : Ex := .or [.not (.call 5 [.var 2]), .cmp .NotEq (LCnm 2) (LCnm 0)]
theorem ev_nm2 (k : Nat) (S : Sto) (b s x3 : D) (r : Row) (x4 x5 x6 x7 x8 : Option D) (hl : r.length ≤ 100) : evE (Γr k) (LCnm 2) (env7 b s (rowI r) x3 x4 x5 x6 x7 x8) S = .ok (txts (nms r)) S := by
  have := lc_map (Γ := Γr k) (ρ := env7 b s (rowI r) x3 x4 x5 x6 x7 x8) (S := S) r prI (fun p => .str p.1) (elt := .var 13) (tg := .tp [.nm 13, .nm 14]) (it := .itv (.var 2)) (own := [13, 14]) (i_itv (e_var rfl) rfl) (fun p hp => ⟨_, rfl, rfl⟩) (Nat.le_trans hl (by decide))
  unfold txts nms
  rw [List.map_map]
  exact this
theorem ev_nm0 (k : Nat) (S : Sto) (s r x3 : D) (b : Row) (x4 x5 x6 x7 x8 : Option D) (hl : b.length ≤ 100) : evE (Γr k) (LCnm 0) (env7 (rowI b) s r x3 x4 x5 x6 x7 x8) S = .ok (txts (nms b)) S := by
  have := lc_map (Γ := Γr k) (ρ := env7 (rowI b) s r x3 x4 x5 x6 x7 x8) (S := S) b prI (fun p => .str p.1) (elt := .var 13) (tg := .tp [.nm 13, .nm 14]) (it := .itv (.var 0)) (own := [13, 14]) (i_itv (e_var rfl) rfl) (fun p hp => ⟨_, rfl, rfl⟩) (Nat.le_trans hl (by decide))
  unfold txts nms
  rw [List.map_map]
  exact this
def less (r b : Row) : List Int := (r.zip b).map fun q => q.1.2 - q.2.2
/-- what the turns tell -/
def told (p : List Int × List Int) : D := if p.1.all (fun v => v == 0) = true then .tup (p.2.map .int) else .non
def reach (b : Row) (qs : List (Row × Nat)) (r : Row) : D := told (turns qs (less r b) [])
theorem turns_len : ∀ (qs : List (Row × Nat)) (rest found : List Int), (turns qs rest found).2.length = found.length + qs.length
  | [], rest, found => by simp [turns]
  | q :: qs, rest, found => by rw [turns, turns_len qs]; simp; omega
theorem turns_len1 (n : Nat) : ∀ (qs : List (Row × Nat)) (rest found : List Int), rest.length = n → (∀ q ∈ qs, fine n q) → (turns qs rest found).1.length = n
  | [], rest, found, h, _ => by simpa [turns] using h
  | q :: qs, rest, found, h, hq => by
    rw [turns]
    exact turns_len1 n qs _ _ (vec_len h (by simp [vals, (hq q List.mem_cons_self).1])) fun x hx => hq x (List.mem_cons_of_mem _ hx)
theorem told_dry (p : List Int × List Int) : dry (told p) = true := by
  unfold told
  split
  · simp only [dry]
    exact dry_mem fun d hd => by obtain ⟨x, _, rfl⟩ := List.mem_map.mp hd; rfl
  · rfl
theorem r_reach (k : Nat) (S : Sto) (b r : Row) (steps : List Row) (gs : List Nat) (hb : goodR b) (hr : goodR r) (hs : ∀ r ∈ steps, goodR r) (hl : steps.length ≤ 100) (hg : gs.length = steps.length) (hc : chk (nms b) b [] [] steps = some gs) (hn : nms r = nms b) (hq : ∀ q ∈ steps.zip gs, fine b.length q) : run P0 (k + 5) 7 [rowI b, .tup (steps.map rowI), rowI r] S = .ok (reach b (steps.zip gs) r) S := by
  have hrb : r.length = b.length := by rw [← nms_len r, hn, nms_len]
  have hless : (less r b).length = b.length := by simp [less, hrb]
  obtain ⟨y6, y7, y8, hlp⟩ := loopR (k + 3) S (rowI b) (.tup (steps.map rowI)) (rowI r) (nums (gs.map Int.ofNat)) b.length hb.2.2 (steps.zip gs) (less r b) [] none none none hless hq (by simp; omega)
  have hsub : evE (Γr (k + 4)) (.lc (.op .Sub (.var 10) (.var 12)) (.tp [.tp [.nm 9, .nm 10], .tp [.nm 11, .nm 12]]) (.zp (.var 2) (.var 0)) [] [9, 10, 11, 12]) (env7 (rowI b) (.tup (steps.map rowI)) (rowI r) (nums (gs.map Int.ofNat)) none none none none none) S = .ok (nums (less r b)) S := by
    have := lc_map (Γ := Γr (k + 4)) (ρ := env7 (rowI b) (.tup (steps.map rowI)) (rowI r) (nums (gs.map Int.ofNat)) none none none none none) (S := S) (r.zip b) (fun q => .tup [prI q.1, prI q.2]) (fun q => .int (q.1.2 - q.2.2)) (elt := .op .Sub (.var 10) (.var 12)) (tg := .tp [.tp [.nm 9, .nm 10], .tp [.nm 11, .nm 12]]) (it := .zp (.var 2) (.var 0)) (own := [9, 10, 11, 12]) (g := none) (i_zp (S' := S) (x := rowI r) (y := rowI b) (e_var rfl) (e_var rfl) (by simp only [zpD, rowI, stillOf, zipD_map])) (fun q hq => ⟨_, rfl, rfl⟩) (by have := hb.2.2; simp [LIM]; omega)
    have e2 : nums (less r b) = .lst ((r.zip b).map fun q => .int (q.1.2 - q.2.2)) := by
      unfold nums less
      rw [List.map_map]; rfl
    rw [e2]
    exact this
  have hit : evI (Γr (k + 4)) (.zp (.var 1) (.var 3)) (env7 (rowI b) (.tup (steps.map rowI)) (rowI r) (nums (gs.map Int.ofNat)) (some (nums (less r b))) (some (.ref S.length)) none none none) (atN S []) = .ok ((steps.zip gs).map fun q => .tup [rowI q.1, .int q.2], none) (atN S []) :=
    i_zp (S' := atN S []) (x := .tup (steps.map rowI)) (y := nums (gs.map Int.ofNat)) (e_var rfl) (e_var rfl) (by
      simp only [zpD, nums, stillOf, List.map_map, zipD_map]; rfl)
  have hT := turns_len1 b.length (steps.zip gs) (less r b) [] hless hq
  have hall : evE (Γr (k + 4)) (.bi .all [.lc (.cmp .Eq (.var 10) (.con (.int 0))) (.nm 10) (.itv (.var 4)) [] [10]]) (env7 (rowI b) (.tup (steps.map rowI)) (rowI r) (nums (gs.map Int.ofNat)) (some (nums (turns (steps.zip gs) (less r b) []).1)) (some (.ref S.length)) y6 y7 y8) (atN S (turns (steps.zip gs) (less r b) []).2) = .ok (.bl ((turns (steps.zip gs) (less r b) []).1.all fun v => v == 0)) (atN S (turns (steps.zip gs) (less r b) []).2) :=
    all_lc _ _ (lc_map _ D.int _ (i_itv (e_var rfl) rfl) (fun v hv => ⟨_, rfl, rfl⟩) (by have := hb.2.2; rw [hT]; simp [LIM]; omega))
  have hret : evE (Γr (k + 4)) (.ite (.bi .all [.lc (.cmp .Eq (.var 10) (.con (.int 0))) (.nm 10) (.itv (.var 4)) [] [10]]) (.bi .tuple [.var 5]) (.con .non)) (env7 (rowI b) (.tup (steps.map rowI)) (rowI r) (nums (gs.map Int.ofNat)) (some (nums (turns (steps.zip gs) (less r b) []).1)) (some (.ref S.length)) y6 y7 y8) (atN S (turns (steps.zip gs) (less r b) []).2) = .ok (reach b (steps.zip gs) r) (atN S (turns (steps.zip gs) (less r b) []).2) := by
    unfold reach told
    cases ht : (turns (steps.zip gs) (less r b) []).1.all fun v => v == 0 with
    | true => exact e_ite_t (hall.trans (by rw [ht])) (e_bi1 (d := .ref S.length) (e_var rfl) (by simp only [bi1, tupleD, get_at]; rfl))
    | false => exact e_ite_f (hall.trans (by rw [ht])) rfl
  refine call_dry f_reached_by rfl rfl (seq_nx (s_asg (e_call (l_cons (e_var rfl) (l_cons (e_var rfl) l_nil)) (r_check k S b steps gs hb hs hl (by omega) hc)) rfl) (if_skip (b := !true || !decide (nms r = nms b)) (e_or2 (e_not (e_call (l_cons (e_var rfl) l_nil) (r_ints_good (k + 1) S hr))) fun _ => e_cmp (ev_nm2 (k + 4) S _ _ _ r _ _ _ _ _ hr.2.2) (ev_nm0 (k + 4) S _ _ _ b _ _ _ _ _ hb.2.2) (ne_txts _ _ S)) (by simp [hn]) (seq_nx (s_asg hsub rfl) (seq_nx (s_asg (d := .ref S.length) (S' := atN S []) rfl rfl) (seq_nx ((s_for hit).trans hlp) (seq_ret (s_ret hret))))))) (told_dry _)
theorem s_asg_exc {Γ : MP.Ctx} {t : Tg} {e : Ex} {ρ : MP.Env} {S S' : Sto} {C : Nat} (h : evE Γ e ρ S = .exc C [] S') : evS Γ (.asg t e) ρ S = .exc C [] ρ S' := by
  simp only [evS, h, R.go]
theorem r_reach_exc (k : Nat) (S : Sto) {b s r : D} (h : run P0 (k + 1) 6 [b, s] S = .exc 1 [] S) : run P0 (k + 2) 7 [b, s, r] S = .exc 1 [] S :=
  call_exc0 f_reached_by rfl rfl (seq_exc (s_asg_exc (e_call (l_cons (e_var rfl) (l_cons (e_var rfl) l_nil)) h)))
/-- a row that is none -/
theorem r_reach_bad (k : Nat) (S : Sto) {b s r x : D} (h : run P0 (k + 1) 6 [b, s] S = .ok x S) (hr : run P0 (k + 1) 5 [r] S = .ok (.bl false) S) : run P0 (k + 2) 7 [b, s, r] S = .ok .non S :=
  call_dry0 f_reached_by rfl rfl (seq_nx (s_asg (e_call (l_cons (e_var rfl) (l_cons (e_var rfl) l_nil)) h) rfl) (if_ret (b := true) (e_or_t (e_not (b := false) (e_call (l_cons (e_var rfl) l_nil) hr))) rfl (seq_ret (s_ret rfl)))) rfl
/-- a row of other names -/
theorem r_reach_unlike (k : Nat) (S : Sto) {s x : D} {b r : Row} (hb : goodR b) (hr : goodR r) (h : run P0 (k + 3) 6 [rowI b, s] S = .ok x S) (hn : nms r ≠ nms b) : run P0 (k + 4) 7 [rowI b, s, rowI r] S = .ok .non S :=
  call_dry0 f_reached_by rfl rfl (seq_nx (s_asg (e_call (l_cons (e_var rfl) (l_cons (e_var rfl) l_nil)) h) rfl) (if_ret (b := !true || !decide (nms r = nms b)) (e_or2 (e_not (e_call (l_cons (e_var rfl) l_nil) (r_ints_good k S hr))) fun _ => e_cmp (ev_nm2 (k + 3) S _ _ _ r _ _ _ _ _ hr.2.2) (ev_nm0 (k + 3) S _ _ _ b _ _ _ _ _ hb.2.2) (ne_txts _ _ S)) (by simp [hn]) (seq_ret (s_ret rfl)))) rfl
/-! ### _law_told -/
theorem s_ret_exc {Γ : MP.Ctx} {e : Ex} {ρ : MP.Env} {S S' : Sto} {C : Nat} (h : evE Γ e ρ S = .exc C [] S') : evS Γ (.ret e) ρ S = .exc C [] ρ S' := by
  simp only [evS, h, R.go]
theorem s_try_ok {Γ : MP.Ctx} {body : List Sm} {hs : List Hd} {ρ : MP.Env} {S S' : Sto} {f : Fl} (h : evSs Γ body ρ S = .ok f S') : evS Γ (.try_ body hs) ρ S = .ok f S' := by
  simp only [evS, h]
theorem s_try_exc {Γ : MP.Ctx} {body : List Sm} {hs : List Hd} {ρ ρ' : MP.Env} {S S' : Sto} {C : Nat} (h : evSs Γ body ρ S = .exc C [] ρ' S') : evS Γ (.try_ body hs) ρ S = handle Γ C [] ρ' S' hs := by
  simp only [evS, h]
theorem r_told (k : Nat) (S : Sto) {b s r d : D} (h : run P0 (k + 1) 7 [b, s, r] S = .ok d S) (hd : dry d = true) : run P0 (k + 2) 11 [b, s, r] S = .ok d S := by
  exact call_dry0 f__law_told rfl rfl (seq_ret (s_try_ok (seq_ret (s_ret (e_call (l_cons (e_var rfl) (l_cons (e_var rfl) (l_cons (e_var rfl) l_nil))) h))))) hd
theorem r_refused (k : Nat) (S : Sto) {b s r : D} (h : run P0 (k + 1) 7 [b, s, r] S = .exc 1 [] S) : run P0 (k + 2) 11 [b, s, r] S = .ok (.tup [.str "refused"]) S := by
  refine call_dry0 f__law_told rfl rfl (seq_ret ?_) rfl
  exact (s_try_exc (seq_exc (s_ret_exc (e_call (l_cons (e_var rfl) (l_cons (e_var rfl) (l_cons (e_var rfl) l_nil))) h)))).trans rfl
/-! ### what is refused as no rows -/
theorem r_check_base (k : Nat) (S : Sto) {b s : D} (h : run P0 (k + 1) 5 [b] S = .ok (.bl false) S) : run P0 (k + 2) 6 [b, s] S = .exc 1 [] S :=
  call_exc0 f__check_solutions rfl rfl (if_exc (b := true) (e_or_t (e_not (b := false) (e_call (l_cons (e_var rfl) l_nil) h))) rfl (seq_exc rfl))
theorem r_check_list (k : Nat) (S : Sto) {b : D} {xs : List D} (h : run P0 (k + 1) 5 [b] S = .ok (.bl true) S) : run P0 (k + 2) 6 [b, .lst xs] S = .exc 1 [] S :=
  call_exc0 f__check_solutions rfl rfl (if_exc (b := true) (e_or_f (e_not (b := true) (e_call (l_cons (e_var rfl) l_nil) h)) (e_or_t (e_not (b := false) rfl))) rfl (seq_exc rfl))
theorem r_check_none (k : Nat) (S : Sto) {b : D} (h : run P0 (k + 2) 5 [b] S = .ok (.bl true) S) : run P0 (k + 3) 6 [b, .tup [.non]] S = .exc 1 [] S := by
  have e := all_lc (Γ := Γr (k + 2)) (ρ := env6 b (.tup [.non]) none none none none none none) (S := S) [()] (fun _ => false) (lc_map [()] (fun _ => D.non) (fun _ => .bl false) (elt := .call 5 [.var 4]) (tg := .nm 4) (it := .itv (.var 1)) (own := [4]) (i_itv (e_var rfl) rfl) (fun r hr => ⟨_, rfl, e_call (l_cons (d := .non) rfl l_nil) (r_ints_not k S rfl)⟩) (by decide))
  exact call_exc0 f__check_solutions rfl rfl (if_exc (b := true) (e_or_f (e_not (b := true) (e_call (l_cons (e_var rfl) l_nil) h)) (e_or_f (e_not (b := true) rfl) (e_or_1 (e_not (b := false) e)))) rfl (seq_exc rfl))
/-! ### _law_times -/
abbrev envT (b s r : D) (x3 x4 x5 x6 x7 : Option D) : MP.Env := [some b, some s, some r, x3, x4, x5, x6, x7, none, none]
abbrev LCfirst : Ex := .lc (.var 8) (.nm 8) (.rg1 (.bi .len [.var 5])) [.cmp .NotEq (.ix (.ix (.var 5) (.var 8)) (.con (.int 1))) (.con (.int 0))] [8]
abbrev LCleft : Ex := .lc (.op .Sub (.ix (.var 3) (.var 8)) (.op .Mult (.var 7) (.ix (.ix (.var 5) (.var 8)) (.con (.int 1))))) (.nm 8) (.rg1 (.bi .len [.var 3])) [] [8]
abbrev bodyT : List Sm := [.asg (.nm 6) (.ix LCfirst (.con (.int 0))), .asg (.nm 7) (.op .FloorDiv (.ix (.var 3) (.var 6)) (.ix (.ix (.var 5) (.var 6)) (.con (.int 1)))), .asg (.tp [.nm 3, .nm 4]) (.tup [LCleft, .op .Add (.var 4) (.lst [.var 7])])]
theorem nz_range (s : Row) : (List.range s.length).filter (fun j => !(val s j == 0)) = nz s := by
  unfold nz nzq
  have h : s.zipIdx = (List.range s.length).map fun j => (s.getD j ("", 0), j) := by
    apply List.ext_getElem
    · simp
    · intro i h1 h2
      simp at h1
      simp [List.getElem?_eq_getElem h1]
  rw [h, List.filter_map, List.map_map]
  have e : ((fun q : (Str × Int) × Nat => q.2) ∘ fun j => (s.getD j ("", 0), j)) = id := rfl
  rw [e, List.map_id]
  apply List.filter_congr
  intro j hj
  have := List.mem_range.mp hj
  simp [val, List.getElem?_eq_getElem this]
theorem ev_first (k : Nat) (S : Sto) (b s r : D) (x3 x4 x6 x7 : Option D) (q : Row) (hl : q.length ≤ 100) : evE (Γr k) LCfirst (envT b s r x3 x4 (some (rowI q)) x6 x7) S = .ok (nums ((nz q).map Int.ofNat)) S := by
  have hit : evI (Γr k) (.rg1 (.bi .len [.var 5])) (envT b s r x3 x4 (some (rowI q)) x6 x7) S = .ok ((List.range q.length).map fun (i : Nat) => D.int i, none) S := by
    refine (i_rg1 (j := q.length) (e_bi1 (d := rowI q) (e_var rfl) (by simp [bi1, lenD, rowI])) (by simp [SMALL]; omega)).trans ?_
    rw [rangeD_map]; simp
  have := lc_fil (Γ := Γr k) (ρ := envT b s r x3 x4 (some (rowI q)) x6 x7) (S := S) (List.range q.length) (fun (i : Nat) => D.int i) (fun (i : Nat) => D.int i) (fun j => !(val q j == 0)) (elt := .var 8) (tg := .nm 8) (it := .rg1 (.bi .len [.var 5])) (cnd := [.cmp .NotEq (.ix (.ix (.var 5) (.var 8)) (.con (.int 1))) (.con (.int 0))]) (own := [8]) (g := none) hit (fun j hj => ⟨_, rfl, by
      obtain ⟨p, hp, ha, hv⟩ := row_at (List.mem_range.mp hj)
      have e := e_cmp (Γ := Γr k) (o := .NotEq) (ρ := [some b, some s, some r, x3, x4, some (rowI q), x6, x7, some (.int j), none]) (S := S) (c := !(val q j == 0)) (e_ix (x := prI p) (y := .int 1) (r := .int (val q j)) (e_ix (a := .var 5) (b := .var 8) (x := rowI q) (y := .int j) rfl rfl ha) (b := .con (.int 1)) rfl (by rw [hv]; rfl)) (b := .con (.int 0)) rfl rfl
      simp only [evAll]
      refine (congrArg (R.bind · _) e).trans ?_
      cases val q j == 0 <;> rfl, fun _ => rfl⟩) (by simp [LIM]; omega)
  rw [nz_range] at this
  unfold nums
  rw [List.map_map]
  exact this
theorem vec_at (rest : List Int) (q : Row) (t : Int) (h : q.length = rest.length) : vec rest (vals q) (0 - t) = (List.range rest.length).map fun j => rest.getD j 0 - t * val q j := by
  apply List.ext_getElem
  · simp [vec, vals, h]
  · intro i h1 h2
    simp at h2
    have h3 : i < q.length := by omega
    simp [vec, vals, val, List.getElem?_eq_getElem h2, List.getElem?_eq_getElem h3]
    rw [Int.neg_mul]; omega
theorem ev_left (k : Nat) (S : Sto) (b s r : D) (x4 x6 : Option D) (rest : List Int) (t : Int) (q : Row) (hq : q.length = rest.length) (hl : rest.length ≤ 100) (hv : ∀ v ∈ vals q, -BIG < v ∧ v < BIG) : evE (Γr k) LCleft (envT b s r (some (nums rest)) x4 (some (rowI q)) x6 (some (.int t))) S = .ok (nums (vec rest (vals q) (0 - t))) S := by
  have hit : evI (Γr k) (.rg1 (.bi .len [.var 3])) (envT b s r (some (nums rest)) x4 (some (rowI q)) x6 (some (.int t))) S = .ok ((List.range rest.length).map fun (i : Nat) => D.int i, none) S := by
    refine (i_rg1 (j := rest.length) (e_bi1 (d := nums rest) (e_var rfl) (by simp [bi1, lenD, nums])) (by simp [SMALL]; omega)).trans ?_
    rw [rangeD_map]; simp
  have := lc_map (Γ := Γr k) (ρ := envT b s r (some (nums rest)) x4 (some (rowI q)) x6 (some (.int t))) (S := S) (List.range rest.length) (fun (i : Nat) => D.int i) (fun (j : Nat) => D.int (rest.getD j 0 - t * val q j)) (elt := .op .Sub (.ix (.var 3) (.var 8)) (.op .Mult (.var 7) (.ix (.ix (.var 5) (.var 8)) (.con (.int 1))))) (tg := .nm 8) (it := .rg1 (.bi .len [.var 3])) (own := [8]) (g := none) hit (fun j hj => ⟨_, rfl, by
      have hj' := List.mem_range.mp hj
      obtain ⟨p, hp, ha, hpv⟩ := row_at (s := q) (f := j) (by omega)
      have hrf : rest[j]? = some (rest.getD j 0) := by
        rw [List.getD_eq_getElem?_getD, List.getElem?_eq_getElem hj']; rfl
      refine e_op (x := .int (rest.getD j 0)) (y := .int (t * val q j)) (e_ix (x := nums rest) (y := .int j) rfl rfl (L2.atI_nat (by rw [List.getElem?_map, hrf]; rfl))) (e_op (x := .int t) (y := .int (val q j)) rfl (e_ix (x := prI p) (y := .int 1) (e_ix (x := rowI q) (y := .int j) rfl rfl ha) rfl (by rw [hpv]; rfl)) ?_) rfl
      simp only [opD]
      rw [if_pos (Or.inr (hv _ ?_))]
      rw [hpv]
      exact List.mem_map.mpr ⟨p, List.mem_of_getElem? hp, rfl⟩⟩) (by simp [LIM]; omega)
  rw [vec_at rest q t hq]
  unfold nums
  rw [List.map_map]
  exact this
theorem bodyT_ok (k : Nat) (S : Sto) (b s r : D) (x6 x7 : Option D) (rest found : List Int) (q : Row × Nat) (n : Nat) (hr : rest.length = n) (hn : n ≤ 100) (hq : fine n q) (hz : (nz q.1)[0]? = some q.2) (hf : found.length ≤ 100) :
    evSs (Γr k) bodyT (envT b s r (some (nums rest)) (some (nums found)) (some (rowI q.1)) x6 x7) S = .ok (.nx (envT b s r (some (nums (vec rest (vals q.1) (0 - tms rest q.1 q.2)))) (some (nums (found ++ [tms rest q.1 q.2]))) (some (rowI q.1)) (some (.int q.2)) (some (.int (tms rest q.1 q.2))))) S := by
  obtain ⟨h1, h2, h3, h4, h5⟩ := hq
  obtain ⟨p, hp, ha, hv⟩ := row_at (s := q.1) (f := q.2) (by omega)
  have hrf : rest[q.2]? = some (rest.getD q.2 0) := by
    rw [List.getD_eq_getElem?_getD, List.getElem?_eq_getElem (by omega)]; rfl
  refine seq_nx (s_asg (e_ix (x := nums ((nz q.1).map Int.ofNat)) (y := .int 0) (r := .int q.2) (ev_first k S b s r _ _ _ _ q.1 (by omega)) rfl ?_) rfl) ?_
  · exact L2.atI_nat (xs := (List.map Int.ofNat (nz q.1)).map D.int) (j := 0) (by rw [List.getElem?_map, List.getElem?_map, hz]; rfl)
  refine seq_nx (s_asg (e_op (x := .int (rest.getD q.2 0)) (y := .int (val q.1 q.2)) (r := .int (tms rest q.1 q.2)) (e_ix (x := nums rest) (y := .int q.2) rfl rfl ?_) (e_ix (x := prI p) (y := .int 1) (e_ix (x := rowI q.1) (y := .int q.2) rfl rfl ha) rfl (by rw [hv]; rfl)) ?_) rfl) ?_
  · exact L2.atI_nat (by rw [List.getElem?_map, hrf]; rfl)
  · simp only [opD]
    rw [if_pos ⟨h3, h4⟩]
    rfl
  refine seq_nx (s_asg (e_tup (l_cons (ev_left k S b s r _ _ rest _ q.1 (by omega) (by omega) h5) (l_cons (d := nums (found ++ [tms rest q.1 q.2])) (e_op (x := nums found) (y := .lst [.int (tms rest q.1 q.2)]) (e_var rfl) (e_lst (l_cons (e_var rfl) l_nil) (by simp [LIM])) ?_) l_nil)) (by simp [LIM])) rfl) rfl
  simp only [opD, nums, List.length_map]
  rw [if_pos (by simp [LIM]; omega), List.map_append]
  rfl
theorem loopT (k : Nat) (S : Sto) (b s r : D) (n : Nat) (hn : n ≤ 100) : ∀ (qs : List (Row × Nat)) (rest found : List Int) (x5 x6 x7 : Option D), rest.length = n → (∀ q ∈ qs, fine n q ∧ (nz q.1)[0]? = some q.2) → found.length + qs.length ≤ 100 →
    ∃ y5 y6 y7, forR none (forF (fun ρ S => evSs (Γr k) bodyT ρ S) (.nm 5)) (qs.map fun q => rowI q.1) (envT b s r (some (nums rest)) (some (nums found)) x5 x6 x7) S = .ok (.nx (envT b s r (some (nums (turns qs rest found).1)) (some (nums (turns qs rest found).2)) y5 y6 y7)) S
  | [], rest, found, x5, x6, x7, _, _, _ => ⟨_, _, _, rfl⟩
  | q :: qs, rest, found, x5, x6, x7, hr, hq, hf => by
    obtain ⟨hq1, hz⟩ := hq q List.mem_cons_self
    have e := bodyT_ok k S b s r x6 x7 rest found q n hr hn hq1 hz (by simp at hf; omega)
    obtain ⟨y5, y6, y7, h⟩ := loopT k S b s r n hn qs (vec rest (vals q.1) (0 - tms rest q.1 q.2)) (found ++ [tms rest q.1 q.2]) (some (rowI q.1)) (some (.int q.2)) (some (.int (tms rest q.1 q.2))) (vec_len hr (by simp [vals, hq1.1])) (fun x hx => hq x (List.mem_cons_of_mem _ hx)) (by simp at hf ⊢; omega)
    exact ⟨y5, y6, y7, (for_nx ((forF_eq rfl).trans e)).trans h⟩
theorem r_times (k : Nat) (S : Sto) (b r : Row) (qs : List (Row × Nat)) (hb : b.length ≤ 100) (hn : r.length = b.length) (hl : qs.length ≤ 100) (hq : ∀ q ∈ qs, fine b.length q ∧ (nz q.1)[0]? = some q.2) : run P0 (k + 1) 10 [rowI b, .tup (qs.map fun q => rowI q.1), rowI r] S = .ok (reach b qs r) S := by
  have hless : (less r b).length = b.length := by simp [less, hn]
  obtain ⟨y5, y6, y7, hlp⟩ := loopT k S (rowI b) (.tup (qs.map fun q => rowI q.1)) (rowI r) b.length hb qs (less r b) [] none none none hless hq (by simp; omega)
  have hit : evI (Γr k) (.rg1 (.bi .len [.var 0])) (envT (rowI b) (.tup (qs.map fun q => rowI q.1)) (rowI r) none none none none none) S = .ok ((List.range b.length).map fun (i : Nat) => D.int i, none) S := by
    refine (i_rg1 (j := b.length) (e_bi1 (d := rowI b) (e_var rfl) (by simp [bi1, lenD, rowI])) (by simp [SMALL]; omega)).trans ?_
    rw [rangeD_map]; simp
  have hless2 : less r b = (List.range b.length).map fun j => val r j - val b j := by
    apply List.ext_getElem
    · simp [less, hn]
    · intro i h1 h2
      simp at h2
      have h3 : i < r.length := by omega
      simp [less, val, List.getElem?_eq_getElem h2, List.getElem?_eq_getElem h3]
  have h1 : evE (Γr k) (.lc (.op .Sub (.ix (.ix (.var 2) (.var 8)) (.con (.int 1))) (.ix (.ix (.var 0) (.var 8)) (.con (.int 1)))) (.nm 8) (.rg1 (.bi .len [.var 0])) [] [8]) (envT (rowI b) (.tup (qs.map fun q => rowI q.1)) (rowI r) none none none none none) S = .ok (nums (less r b)) S := by
    have := lc_map (Γ := Γr k) (ρ := envT (rowI b) (.tup (qs.map fun q => rowI q.1)) (rowI r) none none none none none) (S := S) (List.range b.length) (fun (i : Nat) => D.int i) (fun (j : Nat) => D.int (val r j - val b j)) (elt := .op .Sub (.ix (.ix (.var 2) (.var 8)) (.con (.int 1))) (.ix (.ix (.var 0) (.var 8)) (.con (.int 1)))) (tg := .nm 8) (it := .rg1 (.bi .len [.var 0])) (own := [8]) (g := none) hit (fun j hj => ⟨_, rfl, by
      have hj' := List.mem_range.mp hj
      obtain ⟨p, hp, ha, hpv⟩ := row_at (s := r) (f := j) (by omega)
      obtain ⟨p', hp', ha', hpv'⟩ := row_at (s := b) (f := j) hj'
      exact e_op (x := .int (val r j)) (y := .int (val b j)) (e_ix (x := prI p) (y := .int 1) (e_ix (x := rowI r) (y := .int j) rfl rfl ha) rfl (by rw [hpv]; rfl)) (e_ix (x := prI p') (y := .int 1) (e_ix (x := rowI b) (y := .int j) rfl rfl ha') rfl (by rw [hpv']; rfl)) rfl⟩) (by simp [LIM]; omega)
    have e2 : nums (less r b) = .lst ((List.range b.length).map fun j => .int (val r j - val b j)) := by
      rw [hless2]; unfold nums; rw [List.map_map]; rfl
    rw [e2]
    exact this
  have hT := turns_len1 b.length qs (less r b) [] hless fun q h => (hq q h).1
  have hall : evE (Γr k) (.bi .all [.lc (.cmp .Eq (.var 9) (.con (.int 0))) (.nm 9) (.itv (.var 3)) [] [9]]) (envT (rowI b) (.tup (qs.map fun q => rowI q.1)) (rowI r) (some (nums (turns qs (less r b) []).1)) (some (nums (turns qs (less r b) []).2)) y5 y6 y7) S = .ok (.bl ((turns qs (less r b) []).1.all fun v => v == 0)) S :=
    all_lc _ _ (lc_map _ D.int _ (i_itv (e_var rfl) rfl) (fun v hv => ⟨_, rfl, rfl⟩) (by rw [hT]; simp [LIM]; omega))
  have hret : evE (Γr k) (.ite (.bi .all [.lc (.cmp .Eq (.var 9) (.con (.int 0))) (.nm 9) (.itv (.var 3)) [] [9]]) (.bi .tuple [.var 4]) (.con .non)) (envT (rowI b) (.tup (qs.map fun q => rowI q.1)) (rowI r) (some (nums (turns qs (less r b) []).1)) (some (nums (turns qs (less r b) []).2)) y5 y6 y7) S = .ok (reach b qs r) S := by
    unfold reach told
    cases ht : (turns qs (less r b) []).1.all fun v => v == 0 with
    | true => exact e_ite_t (hall.trans (by rw [ht])) (e_bi1 (d := nums (turns qs (less r b) []).2) (e_var rfl) rfl)
    | false => exact e_ite_f (hall.trans (by rw [ht])) rfl
  exact call_dry0 f__law_times rfl rfl (seq_nx (s_asg (e_tup (l_cons h1 (l_cons (d := nums []) rfl l_nil)) (by simp [LIM])) rfl) (seq_nx ((s_for (i_itv (e_var rfl) rfl)).trans hlp) (seq_ret (s_ret hret)))) (told_dry _)
end K08
end

section
set_option Elab.async false
set_option linter.all false
/-! K08M: the plain mathematics of k08. -/
namespace K08
open PySem MP MP.Lb
theorem vals_range (s : Row) : vals s = (List.range s.length).map fun j => val s j := by
  apply List.ext_getElem
  · simp [vals]
  · intro i h1 h2
    simp only [vals, List.length_map] at h1
    simp [vals, val, List.getElem?_eq_getElem h1]
theorem vec_range (n : Nat) (f : Nat → Int) (s : Row) (t : Int) (hs : s.length = n) : vec ((List.range n).map f) (vals s) t = (List.range n).map fun j => f j + t * val s j := by
  rw [vals_range, hs]
  unfold vec
  rw [List.zip_map', List.map_map]
  rfl
/-- what is left of the steps qs taken ts times -/
def comb (qs : List (Row × Nat)) (ts : List Int) (j : Nat) : Int := ((qs.zip ts).map fun p => p.2 * val p.1.1 j).sum
/-- every step is zero ahead of its first place, and the first places grow -/
def Form (n : Nat) : List (Row × Nat) → Prop
  | [] => True
  | q :: qs => q.1.length = n ∧ q.2 < n ∧ val q.1 q.2 ≠ 0 ∧ (∀ j, j < q.2 → val q.1 j = 0) ∧ (∀ p ∈ qs, q.2 < p.2) ∧ Form n qs
theorem comb_zero (n : Nat) (f : Nat) : ∀ (qs : List (Row × Nat)) (ts : List Int), Form n qs → (∀ p ∈ qs, f < p.2) → comb qs ts f = 0
  | [], ts, _, _ => by simp [comb]
  | q :: qs, [], _, _ => by simp [comb]
  | q :: qs, t :: ts, h, hf => by
    have ih := comb_zero n f qs ts h.2.2.2.2.2 fun p hp => hf p (List.mem_cons_of_mem _ hp)
    have h0 := h.2.2.2.1 f (hf q List.mem_cons_self)
    simp only [comb, List.zip_cons_cons, List.map_cons, List.sum_cons] at ih ⊢
    rw [ih, h0]; simp
theorem turns_far (n : Nat) : ∀ (qs : List (Row × Nat)) (ts found : List Int), Form n qs → ts.length = qs.length → turns qs ((List.range n).map (comb qs ts)) found = ((List.range n).map fun _ => 0, found ++ ts)
  | [], [], found, _, _ => by
    simp [turns, comb]
  | [], _ :: _, _, _, h => by simp at h
  | _ :: _, [], _, _, h => by simp at h
  | q :: qs, t :: ts, found, h, hl => by
    obtain ⟨h1, h2, h3, h4, h5, h6⟩ := h
    have hz := comb_zero n q.2 qs ts h6 h5
    have hc : ∀ j, comb (q :: qs) (t :: ts) j = t * val q.1 j + comb qs ts j := fun j => by
      simp [comb]
    have ht : tms ((List.range n).map (comb (q :: qs) (t :: ts))) q.1 q.2 = t := by
      unfold tms
      rw [List.getD_eq_getElem?_getD]
      simp only [List.getElem?_map, List.getElem?_range h2, Option.map_some, Option.getD_some]
      rw [hc, hz, Int.add_zero, Int.mul_fdiv_cancel _ h3]
    rw [turns, ht, vec_range n _ _ _ h1]
    have e : (fun j => comb (q :: qs) (t :: ts) j + (0 - t) * val q.1 j) = comb qs ts := by
      funext j
      rw [hc]
      have : (0 - t) * val q.1 j = -(t * val q.1 j) := by rw [Int.zero_sub, Int.neg_mul]
      omega
    rw [e, turns_far n qs ts (found ++ [t]) h6 (by simpa using hl)]
    simp
end K08
end

section
set_option Elab.async false
set_option linter.all false
set_option maxRecDepth 100000
/-! K08Q: the draws. -/
namespace K08
open PySem MP MP.Lb
def inR (ds : List Int) : Prop := ∀ d ∈ ds, 0 ≤ d ∧ d < 65521
theorem inR_app {ds : List Int} {d : Int} (h : inR ds) (h0 : 0 ≤ d) (h1 : d < 65521) : inR (ds ++ [d]) := fun x hx => by
  rcases List.mem_append.mp hx with h' | h'
  · exact h x h'
  · rw [List.mem_singleton.mp h']; exact ⟨h0, h1⟩
abbrev envD (sc mn : D) (x2 x3 x4 x5 x6 : Option D) : MP.Env := [some sc, some mn, x2, x3, x4, x5, x6]
abbrev bodyK : List Sm := [.ifs (.cmp .Gt (.var 5) (.con (.int 0))) [.ex (.app (.var 2) (.op .Mod (.bi .int [.var 5]) (.con (.int 1009)))), .asg (.nm 5) (.op .FloorDiv (.var 5) (.con (.int 1009)))] []]
theorem bodyK_ok (k : Nat) (S : Sto) (sc mn x3 x4 : D) (x6 : D) (ds : List Int) (z : Int) (hd : inR ds) (hl : ds.length ≤ 10000) : ∃ (ds' : List Int) (z' : Int), inR ds' ∧ ds'.length ≤ ds.length + 1 ∧ evSs (Γr k) bodyK (envD sc mn (some (.ref S.length)) (some x3) (some x4) (some (.int z)) (some x6)) (atN S ds) = .ok (.nx (envD sc mn (some (.ref S.length)) (some x3) (some x4) (some (.int z')) (some x6))) (atN S ds') := by
  by_cases h : 0 < z
  · refine ⟨ds ++ [z.fmod 1009], z.fdiv 1009, inR_app hd (Int.fmod_nonneg_of_pos _ (by omega)) (by have := Int.fmod_lt_of_pos z (b := 1009) (by omega); omega), by simp, ?_⟩
    refine seq_nx ((s_if_t (e_cmp (c := true) (x := .int z) (y := .int 0) rfl rfl (by simp [cmpD, ordD, h]))).trans (seq_nx (s_ex (e_app (n := S.length) (x := .int (z.fmod 1009)) rfl rfl (get_at S _) (by simp [LIM]; omega))) ?_)) rfl
    rw [set_at]
    refine (seq_nx (s_asg (d := .int (z.fdiv 1009)) rfl rfl) rfl).trans ?_
    simp [evSs, atN]
  · refine ⟨ds, z, hd, by omega, ?_⟩
    exact seq_nx ((s_if_f (e_cmp (c := false) (x := .int z) (y := .int 0) rfl rfl (by simp [cmpD, ordD, h]))).trans rfl) rfl
theorem loopK (k : Nat) (S : Sto) (sc mn x3 x4 : D) : ∀ (is : List D) (x6 : Option D) (ds : List Int) (z : Int), inR ds → ds.length + is.length ≤ 10000 → ∃ (ds' : List Int) (x5' x6' : Option D), inR ds' ∧ ds'.length ≤ ds.length + is.length ∧ forR none (forF (fun ρ S => evSs (Γr k) bodyK ρ S) (.nm 6)) is (envD sc mn (some (.ref S.length)) (some x3) (some x4) (some (.int z)) x6) (atN S ds) = .ok (.nx (envD sc mn (some (.ref S.length)) (some x3) (some x4) x5' x6')) (atN S ds')
  | [], x6, ds, z, hd, _ => ⟨ds, _, _, hd, by simp, rfl⟩
  | i :: is, x6, ds, z, hd, hl => by
    obtain ⟨ds1, z1, h1, hl1, e⟩ := bodyK_ok k S sc mn x3 x4 i ds z hd (by simp at hl; omega)
    obtain ⟨ds2, y5, y6, h2, hl2, e2⟩ := loopK k S sc mn x3 x4 is (some i) ds1 z1 h1 (by simp at hl; omega)
    exact ⟨ds2, y5, y6, h2, by simp; omega, (for_nx ((forF_eq rfl).trans e)).trans e2⟩
abbrev bodyD : List Sm := [.asg (.nm 5) (.bi .abs [.var 4]), .asg (.nm 3) (.op .Mod (.bi .int [.op .Add (.op .Add (.op .Mult (.var 3) (.con (.int 48271))) (.var 5)) (.con (.int 11))]) (.con (.int 2147483647))), .ifs (.cmp .GtE (.var 5) (.op .Pow (.con (.int 10)) (.con (.int 18)))) [.fors (.nm 6) (.rg1 (.con (.int 60))) bodyK] [.ex (.app (.var 2) (.op .Mod (.op .FloorDiv (.bi .int [.op .Add (.op .Mult (.var 3) (.con (.int 16807))) (.con (.int 5))]) (.con (.int 3))) (.con (.int 65521))))]]
theorem bodyD_ok (k : Nat) (S : Sto) (sc mn : D) (c sd : Int) (x5 x6 : Option D) (ds : List Int) (hd : inR ds) (hl : ds.length ≤ 9000) : ∃ (ds' : List Int) (sd' : Int) (x5' x6' : Option D), inR ds' ∧ ds'.length ≤ ds.length + 60 ∧ evSs (Γr k) bodyD (envD sc mn (some (.ref S.length)) (some (.int sd)) (some (.int c)) x5 x6) (atN S ds) = .ok (.nx (envD sc mn (some (.ref S.length)) (some (.int sd')) (some (.int c)) x5' x6')) (atN S ds') := by
  have h1 : evE (Γr k) (.bi .abs [.var 4]) (envD sc mn (some (.ref S.length)) (some (.int sd)) (some (.int c)) x5 x6) (atN S ds) = .ok (.int (if c < 0 then -c else c)) (atN S ds) := rfl
  generalize (if c < 0 then -c else c) = z at h1
  have h2 : evE (Γr k) (.op .Mod (.bi .int [.op .Add (.op .Add (.op .Mult (.var 3) (.con (.int 48271))) (.var 5)) (.con (.int 11))]) (.con (.int 2147483647))) (envD sc mn (some (.ref S.length)) (some (.int sd)) (some (.int c)) (some (.int z)) x6) (atN S ds) = .ok (.int ((sd * 48271 + z + 11).fmod 2147483647)) (atN S ds) :=
    e_op (x := .int (sd * 48271 + z + 11)) (e_bi1 (d := .int (sd * 48271 + z + 11)) (e_op (x := .int (sd * 48271 + z)) (e_op (x := .int (sd * 48271)) (e_op (x := .int sd) (y := .int 48271) rfl rfl (by simp only [opD]; rw [if_pos (Or.inr (by decide))])) rfl rfl) rfl rfl) rfl) rfl rfl
  generalize (sd * 48271 + z + 11).fmod 2147483647 = s1 at h2
  have h3 : evE (Γr k) (.cmp .GtE (.var 5) (.op .Pow (.con (.int 10)) (.con (.int 18)))) (envD sc mn (some (.ref S.length)) (some (.int s1)) (some (.int c)) (some (.int z)) x6) (atN S ds) = .ok (.bl (decide ((1000000000000000000 : Int) ≤ z))) (atN S ds) :=
    e_cmp (x := .int z) (y := .int 1000000000000000000) rfl (e_op (x := .int 10) (y := .int 18) rfl rfl (by decide +kernel)) rfl
  by_cases hz : (1000000000000000000 : Int) ≤ z
  · rw [decide_eq_true hz] at h3
    obtain ⟨ds', y5, y6, a1, a2, e⟩ := loopK k S sc mn (.int s1) (.int c) (rangeD 0 60) x6 ds z hd (by simp [rangeD_map]; omega)
    exact ⟨ds', s1, y5, y6, a1, by simpa [rangeD_map] using a2, seq_nx (s_asg h1 rfl) (seq_nx (s_asg h2 rfl) (seq_nx ((s_if_t h3).trans (seq_nx ((s_for (i_rg1 (j := 60) rfl (by decide))).trans e) rfl)) rfl))⟩
  · rw [decide_eq_false hz] at h3
    refine ⟨ds ++ [((s1 * 16807 + 5).fdiv 3).fmod 65521], s1, some (.int z), x6, inR_app hd (Int.fmod_nonneg_of_pos _ (by omega)) (Int.fmod_lt_of_pos _ (by omega)), by simp, seq_nx (s_asg h1 rfl) (seq_nx (s_asg h2 rfl) (seq_nx ((s_if_f h3).trans (seq_nx (s_ex (e_app (n := S.length) (x := .int (((s1 * 16807 + 5).fdiv 3).fmod 65521)) rfl ?_ (get_at S _) (by simp [LIM]; omega))) ?_)) rfl))⟩
    · exact e_op (x := .int ((s1 * 16807 + 5).fdiv 3)) (e_op (x := .int (s1 * 16807 + 5)) (e_bi1 (d := .int (s1 * 16807 + 5)) (e_op (x := .int (s1 * 16807)) (e_op (x := .int s1) (y := .int 16807) rfl rfl (by simp only [opD]; rw [if_pos (Or.inr (by decide))])) rfl rfl) rfl) rfl rfl) rfl rfl
    · rw [set_at]
      simp [evSs, atN]
theorem loopD (k : Nat) (S : Sto) (sc mn : D) : ∀ (cs : List Int) (sd : Int) (x4 x5 x6 : Option D) (ds : List Int), inR ds → ds.length + 60 * cs.length ≤ 9000 → ∃ (ds' : List Int) (sd' : Int) (y4 y5 y6 : Option D), inR ds' ∧ ds'.length ≤ ds.length + 60 * cs.length ∧ forR none (forF (fun ρ S => evSs (Γr k) bodyD ρ S) (.nm 4)) (cs.map .int) (envD sc mn (some (.ref S.length)) (some (.int sd)) x4 x5 x6) (atN S ds) = .ok (.nx (envD sc mn (some (.ref S.length)) (some (.int sd')) y4 y5 y6)) (atN S ds')
  | [], sd, x4, x5, x6, ds, hd, _ => ⟨ds, sd, _, _, _, hd, by simp, rfl⟩
  | c :: cs, sd, x4, x5, x6, ds, hd, hl => by
    obtain ⟨ds1, s1, y5, y6, h1, hl1, e⟩ := bodyD_ok k S sc mn c sd x5 x6 ds hd (by simp at hl; omega)
    obtain ⟨ds2, s2, z4, z5, z6, h2, hl2, e2⟩ := loopD k S sc mn cs s1 (some (.int c)) y5 y6 ds1 h1 (by simp at hl; omega)
    exact ⟨ds2, s2, z4, z5, z6, h2, by simp; omega, (for_nx ((forF_eq rfl).trans e)).trans e2⟩
abbrev bodyP : List Sm := [.ifs (.cmp .Lt (.bi .len [.var 2]) (.var 1)) [.asg (.nm 3) (.op .Mod (.bi .int [.op .Add (.op .Add (.op .Mult (.var 3) (.con (.int 69621))) (.var 6)) (.con (.int 1))]) (.con (.int 2147483647))), .ex (.app (.var 2) (.op .Mod (.op .FloorDiv (.bi .int [.var 3]) (.con (.int 7))) (.con (.int 65521))))] []]
theorem bodyP_ok (k : Nat) (S : Sto) (sc : D) (many : Nat) (i sd : Int) (x4 x5 : Option D) (ds : List Int) (hd : inR ds) (hl : ds.length ≤ 9000) : ∃ (ds' : List Int) (sd' : Int), inR ds' ∧ ds'.length ≤ ds.length + 1 ∧ (ds'.length = ds.length + 1 ∨ many ≤ ds'.length) ∧ evSs (Γr k) bodyP (envD sc (.int many) (some (.ref S.length)) (some (.int sd)) x4 x5 (some (.int i))) (atN S ds) = .ok (.nx (envD sc (.int many) (some (.ref S.length)) (some (.int sd')) x4 x5 (some (.int i)))) (atN S ds') := by
  have h1 : evE (Γr k) (.cmp .Lt (.bi .len [.var 2]) (.var 1)) (envD sc (.int many) (some (.ref S.length)) (some (.int sd)) x4 x5 (some (.int i))) (atN S ds) = .ok (.bl (decide ((ds.length : Int) < many))) (atN S ds) :=
    e_cmp (x := .int ds.length) (y := .int many) (e_bi1 (d := .ref S.length) rfl (by simp [bi1, lenD, get_at])) rfl rfl
  by_cases h : (ds.length : Int) < many
  · rw [decide_eq_true h] at h1
    refine ⟨ds ++ [(((sd * 69621 + i + 1).fmod 2147483647).fdiv 7).fmod 65521], (sd * 69621 + i + 1).fmod 2147483647, inR_app hd (Int.fmod_nonneg_of_pos _ (by omega)) (Int.fmod_lt_of_pos _ (by omega)), by simp, Or.inl (by simp), seq_nx ((s_if_t h1).trans (seq_nx (s_asg (d := .int ((sd * 69621 + i + 1).fmod 2147483647)) ?_ rfl) (seq_nx (s_ex (e_app (xs := ds.map .int) (n := S.length) (x := .int ((((sd * 69621 + i + 1).fmod 2147483647).fdiv 7).fmod 65521)) rfl rfl (get_at S _) (by simp [LIM]; omega))) ?_))) rfl⟩
    · exact e_op (x := .int (sd * 69621 + i + 1)) (e_bi1 (d := .int (sd * 69621 + i + 1)) (e_op (x := .int (sd * 69621 + i)) (e_op (x := .int (sd * 69621)) (e_op (x := .int sd) (y := .int 69621) rfl rfl (by simp only [opD]; rw [if_pos (Or.inr (by decide))])) rfl rfl) rfl rfl) rfl) rfl rfl
    · rw [set_at]
      simp [evSs, atN]
  · rw [decide_eq_false h] at h1
    exact ⟨ds, sd, hd, by omega, Or.inr (by omega), seq_nx ((s_if_f h1).trans rfl) rfl⟩
theorem loopP (k : Nat) (S : Sto) (sc : D) (many : Nat) (x4 x5 : Option D) : ∀ (is : List Int) (sd : Int) (x6 : Option D) (ds : List Int), inR ds → ds.length + is.length ≤ 9000 → ∃ (ds' : List Int) (sd' : Int) (y6 : Option D), inR ds' ∧ ds'.length ≤ ds.length + is.length ∧ (ds'.length = ds.length + is.length ∨ many ≤ ds'.length) ∧ forR none (forF (fun ρ S => evSs (Γr k) bodyP ρ S) (.nm 6)) (is.map .int) (envD sc (.int many) (some (.ref S.length)) (some (.int sd)) x4 x5 x6) (atN S ds) = .ok (.nx (envD sc (.int many) (some (.ref S.length)) (some (.int sd')) x4 x5 y6)) (atN S ds')
  | [], sd, x6, ds, hd, _ => ⟨ds, sd, _, hd, by simp, Or.inl (by simp), rfl⟩
  | i :: is, sd, x6, ds, hd, hl => by
    obtain ⟨ds1, s1, h1, hl1, ho, e⟩ := bodyP_ok k S sc many i sd x4 x5 ds hd (by simp at hl; omega)
    obtain ⟨ds2, s2, z6, h2, hl2, ho2, e2⟩ := loopP k S sc many x4 x5 is s1 (some (.int i)) ds1 h1 (by simp at hl; omega)
    refine ⟨ds2, s2, z6, h2, by simp; omega, ?_, (for_nx ((forF_eq rfl).trans e)).trans e2⟩
    simp only [List.length_cons]; omega
theorem r_draws (k : Nat) (S : Sto) (ns : List Int) : ∃ ds : List Int, inR ds ∧ ds.length = 300 ∧ run P0 (k + 1) 8 [.rol ns, .int 300] S = .ok (nums ds) S := by
  obtain ⟨ds1, s1, y4, y5, y6, h1, hl1, e1⟩ := loopD k S (.rol ns) (.int 300) (ns.take 63) 7 none none none [] (fun _ h => by cases h) (by simp; omega)
  obtain ⟨ds2, s2, z6, h2, hl2, ho, e2⟩ := loopP k S (.rol ns) 300 y4 y5 ((List.range 300).map fun (i : Nat) => (i : Int)) s1 y6 ds1 h1 (by simp at hl1 ⊢; omega)
  have hlen : 300 ≤ ds2.length := by simp at ho; omega
  refine ⟨ds2.take 300, fun x hx => h2 x (List.mem_of_mem_take hx), by simp; omega, ?_⟩
  have hit1 : evI (Γr k) (.itv (.slH (.var 0) (.con (.int 63)))) (envD (.rol ns) (.int 300) (some (.ref S.length)) (some (.int 7)) none none none) (atN S []) = .ok ((ns.take 63).map .int, none) (atN S []) :=
    i_itv (d := .lst ((ns.take 63).map .int)) (e_slH (x := .rol ns) (e_var rfl) rfl (by
      have := cut_hi ns 63
      simp only [slD]
      rw [show ((63 : Nat) : Int) = 63 from rfl] at this
      rw [this])) rfl
  have hit2 : evI (Γr k) (.rg1 (.var 1)) (envD (.rol ns) (.int 300) (some (.ref S.length)) (some (.int s1)) y4 y5 y6) (atN S ds1) = .ok (((List.range 300).map fun (i : Nat) => (i : Int)).map .int, none) (atN S ds1) := by
    refine (i_rg1 (j := 300) rfl (by decide)).trans ?_
    rw [rangeD_map, List.map_map]
    simp
  have hret : evE (Γr k) (.slH (.var 2) (.var 1)) (envD (.rol ns) (.int 300) (some (.ref S.length)) (some (.int s2)) y4 y5 z6) (atN S ds2) = .ok (nums (ds2.take 300)) (atN S ds2) :=
    e_slH (x := .ref S.length) (j := 300) rfl rfl (by
      have := cut_hi (ds2.map D.int) 300
      simp only [slD, get_at]
      rw [show ((300 : Nat) : Int) = 300 from rfl] at this
      rw [this, ← List.map_take]; rfl)
  exact call_dry f__law_draws rfl rfl (seq_nx (s_asg (d := .ref S.length) (S' := atN S []) rfl rfl) (seq_nx (s_asg (d := .int 7) rfl rfl) (seq_nx ((s_for hit1).trans e1) (seq_nx ((s_for hit2).trans e2) (seq_ret (s_ret hret)))))) (dry_nums _)
end K08
end

section
set_option Elab.async false
set_option linter.all false
set_option maxRecDepth 100000
/-! K08S: the solutions. -/
namespace K08
open PySem MP MP.Lb
/-! ### a dict of pairs whose values are told by their keys -/
theorem vput_key {κ α : Type} [DecidableEq κ] {kvs : List (κ × α)} {k : κ} {v : α} {g : κ → α} (h : ∀ p ∈ kvs, p.2 = g p.1) (hv : v = g k) : ∀ p ∈ vput kvs k v, p.2 = g p.1 := by
  intro p hp
  unfold vput at hp
  split at hp
  · obtain ⟨q, hq, e⟩ := List.mem_map.mp hp
    split at e
    · rename_i hk; subst e; simp [hv, hk]
    · subst e; exact h q hq
  · rcases List.mem_append.mp hp with h' | h'
    · exact h p h'
    · rw [List.mem_singleton.mp h']; exact hv
theorem vput_has {κ α : Type} [DecidableEq κ] {kvs : List (κ × α)} {k : κ} {v : α} : ∃ p ∈ vput kvs k v, p.1 = k := by
  unfold vput
  split
  · rename_i h
    obtain ⟨q, hq, e⟩ := List.any_eq_true.mp h
    have e := of_decide_eq_true e
    exact ⟨(q.1, v), List.mem_map.mpr ⟨q, hq, by rw [if_pos e]⟩, e⟩
  · exact ⟨(k, v), by simp, rfl⟩
theorem vput_keep {κ α : Type} [DecidableEq κ] {kvs : List (κ × α)} {k k' : κ} {v : α} (h : ∃ p ∈ kvs, p.1 = k') : ∃ p ∈ vput kvs k v, p.1 = k' := by
  obtain ⟨p, hp, e⟩ := h
  unfold vput
  split
  · by_cases hk : p.1 = k
    · exact ⟨(p.1, v), List.mem_map.mpr ⟨p, hp, by rw [if_pos hk]⟩, e⟩
    · exact ⟨p, List.mem_map.mpr ⟨p, hp, by rw [if_neg hk]⟩, e⟩
  · exact ⟨p, List.mem_append.mpr (Or.inl hp), e⟩
theorem merge_all {g : Ky → D} : ∀ (more kvs : List (Ky × D)), (∀ p ∈ kvs, p.2 = g p.1) → (∀ p ∈ more, p.2 = g p.1) → ∀ p ∈ merge kvs more, p.2 = g p.1
  | [], kvs, h, _ => h
  | m :: more, kvs, h, hm => merge_all more (vput kvs m.1 m.2) (vput_key h (hm m List.mem_cons_self)) fun p hp => hm p (List.mem_cons_of_mem _ hp)
theorem merge_keep {k : Ky} : ∀ (more kvs : List (Ky × D)), (∃ p ∈ kvs, p.1 = k) → ∃ p ∈ merge kvs more, p.1 = k
  | [], kvs, h => h
  | m :: more, kvs, h => merge_keep more (vput kvs m.1 m.2) (vput_keep h)
theorem merge_has {k : Ky} : ∀ (more kvs : List (Ky × D)), (∃ p ∈ more, p.1 = k) → ∃ p ∈ merge kvs more, p.1 = k
  | [], kvs, h => by obtain ⟨p, hp, _⟩ := h; cases hp
  | m :: more, kvs, h => by
    obtain ⟨p, hp, e⟩ := h
    rcases List.mem_cons.mp hp with h' | h'
    · subst h'
      refine merge_keep more (vput kvs p.1 p.2) ?_
      rw [← e]; exact vput_has
    · exact merge_has more (vput kvs m.1 m.2) ⟨p, h', e⟩
theorem vget_of {kvs : List (Ky × D)} {k : Ky} {g : Ky → D} (h : ∀ p ∈ kvs, p.2 = g p.1) (hk : ∃ p ∈ kvs, p.1 = k) : vget kvs k = some (g k) := by
  unfold vget
  cases hf : kvs.find? fun kv => decide (kv.1 = k) with
  | none =>
    obtain ⟨p, hp, e⟩ := hk
    have := List.find?_eq_none.mp hf p hp
    exact absurd (decide_eq_true e) this
  | some p =>
    have h1 := of_decide_eq_true (List.find?_some (p := fun kv : Ky × D => decide (kv.1 = k)) hf)
    have h2 := h p (List.mem_of_find?_eq_some hf)
    simp only [Option.map_some, h2, h1]
theorem pairsOf_map {α : Type} (f : α → Int) (g : α → D) : ∀ ps : List α, pairsOf (ps.map fun p => .tup [.int (f p), g p]) = some (ps.map fun p => (.inl (f p), g p))
  | [] => rfl
  | p :: ps => by simp [pairsOf, D.ky, pairsOf_map f g ps]
theorem inL_int (x : Int) : ∀ xs : List Int, inL (.int x) (xs.map .int) = decide (x ∈ xs)
  | [] => by simp [inL]
  | y :: ys => by
    simp only [List.map_cons, inL, eqv, inL_int x ys, List.mem_cons]
    by_cases h : x = y <;> by_cases h2 : x ∈ ys <;> simp [h, h2]
    exact fun h3 => h h3.symm
theorem in_nums (x : Nat) (fs : List Nat) (S : Sto) : inD (.int x) (nums (fs.map Int.ofNat)) S = some (decide (x ∈ fs)) := by
  have hfl : ((fs.map Int.ofNat).map D.int).all flat = true := by
    rw [List.all_map]; exact List.all_eq_true.mpr fun _ _ => rfl
  simp only [inD, nums, hfl, flat, Bool.and_true, if_true, inL_int]
  congr 1
  refine decide_eq_decide.mpr ⟨fun h' => ?_, fun h => List.mem_map.mpr ⟨x, h, rfl⟩⟩
  obtain ⟨y, hy, e⟩ := List.mem_map.mp h'
  have : y = x := Int.ofNat.inj e
  exact this ▸ hy
/-! ### the draws -/
def dd (ds : List Int) (i : Nat) : Int := ds.getD i 0
theorem dd_at {ds : List Int} {i : Int} {j : Nat} (S : Sto) (h : i = j) (hl : j < ds.length) : ixD (nums ds) (.int i) S = some (.int (dd ds j)) := by
  subst h
  simp only [ixD, nums, dd]
  exact L2.atI_nat (by rw [List.getElem?_map, List.getElem?_eq_getElem hl, List.getD_eq_getElem?_getD, List.getElem?_eq_getElem hl]; rfl)
theorem e_draw {Γ : MP.Ctx} {v : Nat} {ix : Ex} {ρ : MP.Env} {S : Sto} {ds : List Int} {i : Int} {j : Nat} (m : Int) (hm : m ≠ 0) (hv : ρ.get v = some (nums ds)) (hi : evE Γ ix ρ S = .ok (.int i) S) (h : i = j) (hl : j < ds.length) : evE Γ (.op .Mod (.bi .int [.ix (.var v) ix]) (.con (.int m))) ρ S = .ok (.int ((dd ds j).fmod m)) S :=
  e_op (x := .int (dd ds j)) (y := .int m) (e_bi1 (d := .int (dd ds j)) (e_ix (e_var hv) hi (dd_at S h hl)) rfl) rfl (by simp only [opD]; rw [if_pos hm])
def FF (ds : List Int) (n : Nat) : List Nat := (List.range n).filter fun j => (dd ds j).fmod 2 == 0
def sz (ds : List Int) (k : Nat) : Int := 1 + (dd ds (6 + k)).fmod 5
def rf (ds : List Int) (k j : Nat) : Int := if j < k then 0 else if j = k then sz ds k else (dd ds (12 + 5 * k + j)).fmod 9 - 4
def rg (ds : List Int) (n k j : Nat) : Int := if j ∉ FF ds n ∨ j ≤ k then rf ds k j else (rf ds k j + 20).fmod (sz ds j)
def bf (ds : List Int) (n j : Nat) : Int := if j ∈ FF ds n then (dd ds (50 + j)).fmod (sz ds j) else (dd ds (50 + j)).fmod 19 - 9
def mkR (nml : List Str) (g : Nat → Int) : Row := (List.range nml.length).map fun j => (nml.getD j "", g j)
theorem sz_pos (ds : List Int) (k : Nat) : 1 ≤ sz ds k ∧ sz ds k ≤ 5 := by
  unfold sz
  have h1 := Int.fmod_nonneg_of_pos (dd ds (6 + k)) (b := 5) (by omega)
  have h2 := Int.fmod_lt_of_pos (dd ds (6 + k)) (b := 5) (by omega)
  omega
theorem FF_lt {ds : List Int} {n k : Nat} (h : k ∈ FF ds n) : k < n := List.mem_range.mp (List.mem_filter.mp h).1
def sizesD (ds : List Int) (n : Nat) : List (Ky × D) := merge [] ((FF ds n).map fun (k : Nat) => (.inl (k : Int), .int (sz ds k)))
def szG (ds : List Int) : Ky → D
  | .inl i => .int (sz ds i.toNat)
  | .inr _ => .non
theorem sizes_at {ds : List Int} {n k : Nat} (S : Sto) (h : k ∈ FF ds n) : ixD (.dic (sizesD ds n)) (.int k) S = some (.int (sz ds k)) := by
  have h1 : ∀ p ∈ sizesD ds n, p.2 = szG ds p.1 := merge_all (g := szG ds) ((FF ds n).map fun (k : Nat) => (.inl (k : Int), .int (sz ds k))) [] (fun _ h => by cases h) fun p hp => by
    obtain ⟨q, hq, rfl⟩ := List.mem_map.mp hp; rfl
  have h2 : ∃ p ∈ sizesD ds n, p.1 = .inl (k : Int) := merge_has ((FF ds n).map fun (k : Nat) => (.inl (k : Int), .int (sz ds k))) [] ⟨(.inl (k : Int), .int (sz ds k)), List.mem_map.mpr ⟨k, h, rfl⟩, rfl⟩
  have e := vget_of (g := szG ds) h1 h2
  simp only [ixD, D.ky]
  exact e
theorem nums_map {α : Type} (f : α → Int) (l : List α) : nums (l.map f) = .lst (l.map fun j => .int (f j)) := by
  unfold nums
  rw [List.map_map]; rfl
/-! ### the names -/
structure Nm (z : Str) (nml : List Str) : Prop where
  at_ : ∀ j, j < nml.length → ∀ S : Sto, ixD (.str z) (.int j) S = some (.str (nml.getD j ""))
  len : ∀ S : Sto, lenD (.str z) S = some (.int nml.length)
  le : nml.length ≤ 4
abbrev envF (ds z : D) (x2 x3 x4 x5 x6 x7 : Option D) : MP.Env := [some ds, some z, x2, x3, x4, x5, x6, x7, none]
theorem Nm.rng {z : Str} {nml : List Str} (h : Nm z nml) {Γ : MP.Ctx} {ρ : MP.Env} {S : Sto} {v : Nat} (hv : ρ.get v = some (.str z)) : evI Γ (.rg1 (.bi .len [.var v])) ρ S = .ok ((List.range nml.length).map fun (i : Nat) => D.int i, none) S := by
  have hle := h.le
  refine (i_rg1 (j := nml.length) (e_bi1 (b := .len) (d := .str z) (e_var hv) (h.len S)) (by simp [SMALL]; omega)).trans ?_
  rw [rangeD_map]; simp
theorem ev_firsts (k : Nat) (S : Sto) (ds : List Int) {z : Str} {nml : List Str} (hz : Nm z nml) (hl : 100 ≤ ds.length) : evE (Γr k) (.lc (.var 5) (.nm 5) (.rg1 (.bi .len [.var 1])) [.cmp .Eq (.op .Mod (.bi .int [.ix (.var 0) (.var 5)]) (.con (.int 2))) (.con (.int 0))] [5]) (envF (nums ds) (.str z) none none none none none none) S = .ok (nums ((FF ds nml.length).map Int.ofNat)) S := by
  have hle := hz.le
  have := lc_fil (Γ := Γr k) (ρ := envF (nums ds) (.str z) none none none none none none) (S := S) (List.range nml.length) (fun (i : Nat) => D.int i) (fun (i : Nat) => D.int i) (fun j => (dd ds j).fmod 2 == 0) (elt := .var 5) (tg := .nm 5) (it := .rg1 (.bi .len [.var 1])) (cnd := [.cmp .Eq (.op .Mod (.bi .int [.ix (.var 0) (.var 5)]) (.con (.int 2))) (.con (.int 0))]) (own := [5]) (g := none) (hz.rng rfl) (fun j hj => ⟨_, rfl, by
      have hj' := List.mem_range.mp hj
      have e := e_cmp (Γ := Γr k) (o := .Eq) (ρ := envF (nums ds) (.str z) none none none (some (.int j)) none none) (S := S) (c := (dd ds j).fmod 2 == 0) (e_draw (v := 0) (ix := .var 5) (i := j) (j := j) 2 (by decide) rfl rfl rfl (by omega)) (b := .con (.int 0)) rfl rfl
      simp only [evAll]
      refine (congrArg (R.bind · _) e).trans ?_
      cases (dd ds j).fmod 2 == 0 <;> rfl, fun _ => rfl⟩) (by simp [LIM]; omega)
  unfold nums
  rw [List.map_map]
  exact this
theorem ev_sizes (k : Nat) (S : Sto) (ds : List Int) {z : Str} {nml : List Str} (hz : Nm z nml) (hl : 100 ≤ ds.length) (x3 : Option D) : evE (Γr k) (.bi .dict [.lc (.tup [.var 5, .op .Add (.con (.int 1)) (.op .Mod (.bi .int [.ix (.var 0) (.op .Add (.con (.int 6)) (.var 5))]) (.con (.int 5)))]) (.nm 5) (.itv (.var 2)) [] [5]]) (envF (nums ds) (.str z) (some (nums ((FF ds nml.length).map Int.ofNat))) x3 none none none none) S = .ok (.dic (sizesD ds nml.length)) S := by
  have hle := hz.le
  have hF : ∀ j ∈ FF ds nml.length, j < nml.length := fun j hj => FF_lt hj
  have e := lc_map (Γ := Γr k) (ρ := envF (nums ds) (.str z) (some (nums ((FF ds nml.length).map Int.ofNat))) x3 none none none none) (S := S) (FF ds nml.length) (fun (i : Nat) => D.int i) (fun j => .tup [.int j, .int (sz ds j)]) (elt := .tup [.var 5, .op .Add (.con (.int 1)) (.op .Mod (.bi .int [.ix (.var 0) (.op .Add (.con (.int 6)) (.var 5))]) (.con (.int 5)))]) (tg := .nm 5) (it := .itv (.var 2)) (own := [5]) (g := none) (i_itv (d := nums ((FF ds nml.length).map Int.ofNat)) (e_var rfl) (by simp only [itemsOf, nums, List.map_map]; rfl)) (fun j hj => ⟨_, rfl, by
      have hj' := hF j hj
      exact e_tup (l_cons (d := .int j) rfl (l_cons (d := .int (sz ds j)) (e_op (x := .int 1) (y := .int ((dd ds (6 + j)).fmod 5)) rfl (e_draw (v := 0) (i := 6 + j) (j := 6 + j) 5 (by decide) rfl rfl (by omega) (by omega)) rfl) l_nil)) (by simp [LIM])⟩) (by
        have : (FF ds nml.length).length ≤ nml.length := by
          have := List.length_filter_le (fun j => (dd ds j).fmod 2 == 0) (List.range nml.length)
          simpa [FF] using this
        simp [LIM]; omega)
  refine e_bi1 e ?_
  simp only [bi1, dictD, pairsOf_map (fun j : Nat => (j : Int)) fun j => .int (sz ds j), Option.map_some]
  rfl
/-! one step's row -/
theorem row_split (k m : Nat) (f : Nat → Int) : (List.range (k + 1 + m)).map f = (List.range k).map f ++ [f k] ++ (List.range m).map fun i => f (k + 1 + i) := by
  rw [List.range_add, List.map_append, List.range_succ, List.map_append, List.map_map]
  rfl
theorem flat_rep (k : Nat) : (List.replicate k [D.int 0]).flatten = (List.range k).map fun _ => D.int 0 := by
  induction k with
  | zero => rfl
  | succ k ih =>
    rw [List.replicate_succ', List.flatten_append, ih, List.range_succ, List.map_append]
    rfl
abbrev Xrow1 : Ex := .op .Add (.op .Add (.op .Mult (.lst [.con (.int 0)]) (.var 5)) (.lst [.ix (.var 4) (.var 5)])) (.lc (.op .Sub (.op .Mod (.bi .int [.ix (.var 0) (.op .Add (.op .Add (.con (.int 12)) (.op .Mult (.con (.int 5)) (.var 5))) (.var 8))]) (.con (.int 9))) (.con (.int 4))) (.nm 8) (.rg2 (.op .Add (.var 5) (.con (.int 1))) (.bi .len [.var 1])) [] [8])
theorem ev_row1 (k : Nat) (S : Sto) (ds : List Int) {z : Str} {nml : List Str} (hz : Nm z nml) (hl : 100 ≤ ds.length) (x2 x3 x6 x7 : Option D) (q : Nat) (hq : q ∈ FF ds nml.length) : evE (Γr k) Xrow1 (envF (nums ds) (.str z) x2 x3 (some (.dic (sizesD ds nml.length))) (some (.int q)) x6 x7) S = .ok (nums ((List.range nml.length).map (rf ds q))) S := by
  have hle := hz.le
  have hq' := FF_lt hq
  obtain ⟨m, hm⟩ : ∃ m, nml.length = q + 1 + m := ⟨nml.length - (q + 1), by omega⟩
  have hm4 : m ≤ 4 := by omega
  have hit : evI (Γr k) (.rg2 (.op .Add (.var 5) (.con (.int 1))) (.bi .len [.var 1])) (envF (nums ds) (.str z) x2 x3 (some (.dic (sizesD ds nml.length))) (some (.int q)) x6 x7) S = .ok ((List.range m).map fun (i : Nat) => D.int ((q + 1 + i : Nat) : Int), none) S := by
    refine (i_rg2 (i := q + 1) (j := nml.length) (e_op (x := .int q) (y := .int 1) rfl rfl rfl) (e_bi1 (b := .len) (d := .str z) (e_var rfl) (hz.len S)) (by simp [SMALL]; omega)).trans ?_
    have e1 : ((nml.length : Int) - (q + 1)).toNat = m := by omega
    rw [e1, rangeD_map]
    have e2 : (fun (i : Nat) => D.int ((q : Int) + 1 + i)) = fun (i : Nat) => D.int ((q + 1 + i : Nat) : Int) := by
      funext i; congr 1
    rw [e2]
  have hc := lc_map (Γ := Γr k) (ρ := envF (nums ds) (.str z) x2 x3 (some (.dic (sizesD ds nml.length))) (some (.int q)) x6 x7) (S := S) (List.range m) (fun (i : Nat) => D.int ((q + 1 + i : Nat) : Int)) (fun i => .int (rf ds q (q + 1 + i))) (elt := .op .Sub (.op .Mod (.bi .int [.ix (.var 0) (.op .Add (.op .Add (.con (.int 12)) (.op .Mult (.con (.int 5)) (.var 5))) (.var 8))]) (.con (.int 9))) (.con (.int 4))) (tg := .nm 8) (it := .rg2 (.op .Add (.var 5) (.con (.int 1))) (.bi .len [.var 1])) (own := [8]) (g := none) hit (fun i hi => ⟨_, rfl, by
      have hi' := List.mem_range.mp hi
      have e : rf ds q (q + 1 + i) = (dd ds (12 + 5 * q + (q + 1 + i))).fmod 9 - 4 := by
        unfold rf
        rw [if_neg (by omega), if_neg (by omega)]
      rw [e]
      refine e_op (x := .int ((dd ds (12 + 5 * q + (q + 1 + i))).fmod 9)) (y := .int 4) (e_draw (v := 0) (i := 12 + 5 * q + ((q + 1 + i : Nat) : Int)) 9 (by decide) rfl (e_op (x := .int (12 + 5 * q)) (e_op (x := .int 12) (y := .int (5 * q)) rfl (e_op (x := .int 5) (y := .int q) rfl rfl ?_) rfl) (e_var rfl) rfl) (by omega) (by omega)) rfl rfl
      simp only [opD]
      rw [if_pos (Or.inl (by decide))]⟩) (by simp [LIM]; omega)
  refine e_op (x := .lst ((List.range q).map (fun _ => D.int 0) ++ [.int (sz ds q)])) (y := .lst ((List.range m).map fun i => .int (rf ds q (q + 1 + i)))) (e_op (x := .lst ((List.range q).map fun _ => D.int 0)) (y := .lst [.int (sz ds q)]) (e_op (x := .lst [.int 0]) (y := .int q) rfl (e_var rfl) ?_) (e_lst (l_cons (e_ix (x := .dic (sizesD ds nml.length)) (y := .int q) rfl rfl (sizes_at S hq)) l_nil) (by simp [LIM])) ?_) hc ?_
  · simp only [opD]
    rw [if_pos (by simp; omega)]
    simp only [Int.toNat_natCast, flat_rep]
  · simp only [opD]
    rw [if_pos (by simp [LIM]; omega)]
  · simp only [opD]
    rw [if_pos (by simp [LIM]; omega), hm, row_split]
    have e0 : (List.range q).map (rf ds q) = (List.range q).map fun _ => (0 : Int) := by
      apply List.map_congr_left
      intro j hj
      have := List.mem_range.mp hj
      unfold rf
      rw [if_pos this]
    have e1 : rf ds q q = sz ds q := by
      unfold rf
      rw [if_neg (by omega), if_pos rfl]
    rw [e0, e1]
    simp only [nums, List.map_append, List.map_map]
    rfl
abbrev Xrow2 : Ex := .lc (.ite (.or [.cmp .NotIn (.var 8) (.var 2), .cmp .LtE (.var 8) (.var 5)]) (.ix (.var 6) (.var 8)) (.op .Mod (.bi .int [.op .Add (.ix (.var 6) (.var 8)) (.con (.int 20))]) (.ix (.var 4) (.var 8)))) (.nm 8) (.rg1 (.bi .len [.var 1])) [] [8]
theorem at_map (n : Nat) (f : Nat → Int) (S : Sto) {j : Nat} (h : j < n) : ixD (nums ((List.range n).map f)) (.int j) S = some (.int (f j)) := by
  simp only [ixD, nums]
  exact L2.atI_nat (by rw [List.getElem?_map, List.getElem?_map, List.getElem?_range h]; rfl)
theorem ev_row2 (k : Nat) (S : Sto) (ds : List Int) {z : Str} {nml : List Str} (hz : Nm z nml) (x3 x7 : Option D) (q : Nat) : evE (Γr k) Xrow2 (envF (nums ds) (.str z) (some (nums ((FF ds nml.length).map Int.ofNat))) x3 (some (.dic (sizesD ds nml.length))) (some (.int q)) (some (nums ((List.range nml.length).map (rf ds q)))) x7) S = .ok (nums ((List.range nml.length).map (rg ds nml.length q))) S := by
  have hle := hz.le
  have := lc_map (Γ := Γr k) (ρ := envF (nums ds) (.str z) (some (nums ((FF ds nml.length).map Int.ofNat))) x3 (some (.dic (sizesD ds nml.length))) (some (.int q)) (some (nums ((List.range nml.length).map (rf ds q)))) x7) (S := S) (List.range nml.length) (fun (i : Nat) => D.int i) (fun j => .int (rg ds nml.length q j)) (elt := .ite (.or [.cmp .NotIn (.var 8) (.var 2), .cmp .LtE (.var 8) (.var 5)]) (.ix (.var 6) (.var 8)) (.op .Mod (.bi .int [.op .Add (.ix (.var 6) (.var 8)) (.con (.int 20))]) (.ix (.var 4) (.var 8)))) (tg := .nm 8) (it := .rg1 (.bi .len [.var 1])) (own := [8]) (g := none) (hz.rng rfl) (fun j hj => ⟨_, rfl, by
      have hj' := List.mem_range.mp hj
      have hc := e_or2 (Γ := Γr k) (ρ := [some (nums ds), some (.str z), some (nums ((FF ds nml.length).map Int.ofNat)), x3, some (.dic (sizesD ds nml.length)), some (.int q), some (nums ((List.range nml.length).map (rf ds q))), x7, some (.int j)]) (S := S) (a := !decide (j ∈ FF ds nml.length)) (b := decide (j ≤ q)) (e_cmp (o := .NotIn) (a := .var 8) (b := .var 2) (x := .int j) (y := nums ((FF ds nml.length).map Int.ofNat)) rfl rfl (by simp only [cmpD, in_nums, Option.map_some])) (fun _ => e_cmp (o := .LtE) (a := .var 8) (b := .var 5) (x := .int j) (y := .int q) rfl rfl (by simp [cmpD, ordD]))
      have hx : evE (Γr k) (.ix (.var 6) (.var 8)) [some (nums ds), some (.str z), some (nums ((FF ds nml.length).map Int.ofNat)), x3, some (.dic (sizesD ds nml.length)), some (.int q), some (nums ((List.range nml.length).map (rf ds q))), x7, some (.int j)] S = .ok (.int (rf ds q j)) S := e_ix (x := nums ((List.range nml.length).map (rf ds q))) (y := .int j) rfl rfl (at_map _ _ S hj')
      by_cases h : j ∉ FF ds nml.length ∨ j ≤ q
      · have e : rg ds nml.length q j = rf ds q j := by unfold rg; rw [if_pos h]
        rw [e]
        refine e_ite_t (hc.trans ?_) hx
        congr 2
        rcases h with h | h <;> simp [h]
      · have e : rg ds nml.length q j = (rf ds q j + 20).fmod (sz ds j) := by unfold rg; rw [if_neg h]
        rw [e]
        have h1 : j ∈ FF ds nml.length := Decidable.byContradiction fun h' => h (Or.inl h')
        have h2 : ¬ j ≤ q := fun h' => h (Or.inr h')
        refine e_ite_f (hc.trans ?_) (e_op (x := .int (rf ds q j + 20)) (y := .int (sz ds j)) (e_bi1 (d := .int (rf ds q j + 20)) (e_op (x := .int (rf ds q j)) (y := .int 20) hx rfl rfl) rfl) (e_ix (x := .dic (sizesD ds nml.length)) (y := .int j) rfl rfl (sizes_at S h1)) ?_)
        · rw [decide_eq_true h1, decide_eq_false h2]; rfl
        · have := (sz_pos ds j).1
          simp only [opD]
          rw [if_pos (by omega)]⟩) (by simp [LIM]; omega)
  rw [nums_map (rg ds nml.length q)]
  exact this
theorem rowI_mk (nml : List Str) (g : Nat → Int) : rowI (mkR nml g) = .tup ((List.range nml.length).map fun j => .tup [.str (nml.getD j ""), .int (g j)]) := by
  unfold rowI mkR
  rw [List.map_map]; rfl
abbrev Xstep : Ex := .bi .tuple [.lc (.tup [.ix (.var 1) (.var 8), .ix (.var 6) (.var 8)]) (.nm 8) (.rg1 (.bi .len [.var 1])) [] [8]]
theorem ev_step (k : Nat) (S : Sto) (ds : D) {z : Str} {nml : List Str} (hz : Nm z nml) (x2 x3 x4 x5 x7 : Option D) (g : Nat → Int) : evE (Γr k) Xstep (envF ds (.str z) x2 x3 x4 x5 (some (nums ((List.range nml.length).map g))) x7) S = .ok (rowI (mkR nml g)) S := by
  have hle := hz.le
  rw [rowI_mk]
  exact tup_lc (lc_map (List.range nml.length) (fun (i : Nat) => D.int i) (fun j => .tup [.str (nml.getD j ""), .int (g j)]) (g := none) (hz.rng rfl) (fun j hj => ⟨_, rfl, by
    have hj' := List.mem_range.mp hj
    exact e_tup (l_cons (e_ix (x := .str z) (y := .int j) rfl rfl (hz.at_ j hj' S)) (l_cons (e_ix (x := nums ((List.range nml.length).map g)) (y := .int j) rfl rfl (at_map _ _ S hj')) l_nil)) (by simp [LIM])⟩) (by simp [LIM]; omega))
abbrev Xbase : Ex := .bi .tuple [.lc (.tup [.ix (.var 1) (.var 8), .op .Sub (.op .Mod (.bi .int [.ix (.var 0) (.op .Add (.con (.int 50)) (.var 8))]) (.ite (.cmp .In (.var 8) (.var 2)) (.ix (.var 4) (.var 8)) (.con (.int 19)))) (.ite (.cmp .In (.var 8) (.var 2)) (.con (.int 0)) (.con (.int 9)))]) (.nm 8) (.rg1 (.bi .len [.var 1])) [] [8]]
theorem ev_base (k : Nat) (S : Sto) (ds : List Int) {z : Str} {nml : List Str} (hz : Nm z nml) (hl : 100 ≤ ds.length) (x3 x5 x6 : Option D) : evE (Γr k) Xbase (envF (nums ds) (.str z) (some (nums ((FF ds nml.length).map Int.ofNat))) x3 (some (.dic (sizesD ds nml.length))) x5 x6 none) S = .ok (rowI (mkR nml (bf ds nml.length))) S := by
  have hle := hz.le
  rw [rowI_mk]
  exact tup_lc (lc_map (List.range nml.length) (fun (i : Nat) => D.int i) (fun j => .tup [.str (nml.getD j ""), .int (bf ds nml.length j)]) (g := none) (hz.rng rfl) (fun j hj => ⟨_, rfl, by
    have hj' := List.mem_range.mp hj
    have hdr := e_bi1 (Γ := Γr k) (b := .int) (ρ := [some (nums ds), some (.str z), some (nums ((FF ds nml.length).map Int.ofNat)), x3, some (.dic (sizesD ds nml.length)), x5, x6, none, some (.int j)]) (S := S) (d := .int (dd ds (50 + j))) (e_ix (a := .var 0) (b := .op .Add (.con (.int 50)) (.var 8)) (y := .int (50 + j)) (e_var rfl) rfl (dd_at S (i := 50 + j) (j := 50 + j) (by omega) (by omega))) (r := .int (dd ds (50 + j))) rfl
    have hc := e_cmp (Γ := Γr k) (ρ := [some (nums ds), some (.str z), some (nums ((FF ds nml.length).map Int.ofNat)), x3, some (.dic (sizesD ds nml.length)), x5, x6, none, some (.int j)]) (S := S) (o := .In) (a := .var 8) (b := .var 2) (x := .int j) (y := nums ((FF ds nml.length).map Int.ofNat)) (c := decide (j ∈ FF ds nml.length)) rfl rfl (in_nums j _ S)
    refine e_tup (l_cons (e_ix (x := .str z) (y := .int j) rfl rfl (hz.at_ j hj' S)) (l_cons ?_ l_nil)) (by simp [LIM])
    have hs := (sz_pos ds j).1
    by_cases h : j ∈ FF ds nml.length
    · rw [decide_eq_true h] at hc
      have e : bf ds nml.length j = (dd ds (50 + j)).fmod (sz ds j) - 0 := by unfold bf; rw [if_pos h]; simp
      rw [e]
      exact e_op (x := .int ((dd ds (50 + j)).fmod (sz ds j))) (y := .int 0) (e_op (y := .int (sz ds j)) hdr (e_ite_t hc (e_ix (x := .dic (sizesD ds nml.length)) (y := .int j) rfl rfl (sizes_at S h))) (by simp only [opD]; rw [if_pos (by omega)])) (e_ite_t hc rfl) rfl
    · rw [decide_eq_false h] at hc
      have e : bf ds nml.length j = (dd ds (50 + j)).fmod 19 - 9 := by unfold bf; rw [if_neg h]
      rw [e]
      exact e_op (x := .int ((dd ds (50 + j)).fmod 19)) (y := .int 9) (e_op (y := .int 19) hdr (e_ite_f hc rfl) (by simp only [opD]; rw [if_pos (by decide)])) (e_ite_f hc rfl) rfl⟩) (by simp [LIM]; omega))
/-! the loop -/
abbrev atL (S : Sto) (xs : List D) : Sto := S ++ [.lst xs]
abbrev bodyS : List Sm := [.asg (.nm 6) Xrow1, .asg (.nm 6) Xrow2, .ex (.app (.var 3) Xstep)]
theorem loopS (k : Nat) (S : Sto) (ds : List Int) {z : Str} {nml : List Str} (hz : Nm z nml) (hl : 100 ≤ ds.length) : ∀ (qs : List Nat) (xs : List D) (x5 x6 : Option D), (∀ q ∈ qs, q ∈ FF ds nml.length) → xs.length + qs.length ≤ 100 → ∃ y5 y6, forR none (forF (fun ρ S => evSs (Γr k) bodyS ρ S) (.nm 5)) (qs.map fun (q : Nat) => D.int q) (envF (nums ds) (.str z) (some (nums ((FF ds nml.length).map Int.ofNat))) (some (.ref S.length)) (some (.dic (sizesD ds nml.length))) x5 x6 none) (atL S xs) = .ok (.nx (envF (nums ds) (.str z) (some (nums ((FF ds nml.length).map Int.ofNat))) (some (.ref S.length)) (some (.dic (sizesD ds nml.length))) y5 y6 none)) (atL S (xs ++ qs.map fun q => rowI (mkR nml (rg ds nml.length q))))
  | [], xs, x5, x6, _, _ => ⟨x5, x6, by simp [forR]⟩
  | q :: qs, xs, x5, x6, hq, hx => by
    obtain ⟨y5, y6, e⟩ := loopS k S ds hz hl qs (xs ++ [rowI (mkR nml (rg ds nml.length q))]) (some (.int q)) (some (nums ((List.range nml.length).map (rg ds nml.length q)))) (fun p hp => hq p (List.mem_cons_of_mem _ hp)) (by simp at hx ⊢; omega)
    refine ⟨y5, y6, (for_nx ((forF_eq rfl).trans (seq_nx (s_asg (ev_row1 k _ ds hz hl _ _ _ _ q (hq q List.mem_cons_self)) rfl) (seq_nx (s_asg (ev_row2 k _ ds hz _ _ q) rfl) (seq_nx (s_ex (e_app (n := S.length) (xs := xs) (x := rowI (mkR nml (rg ds nml.length q))) rfl (ev_step k _ _ hz _ _ _ _ _ _) (get_at S _) (by simp [LIM] at hx ⊢; omega))) rfl))))).trans ?_⟩
    rw [set_at]
    refine e.trans ?_
    simp [atL]
end K08
end

section
set_option Elab.async false
set_option linter.all false
set_option maxRecDepth 100000
namespace K08
open PySem MP MP.Lb
/-! ### the solutions are in the one form -/
structure Sol (nml : List Str) (b : Row) (st : List Row) (fs : List Nat) : Prop where
  nb : nms b = nml
  ns : ∀ s ∈ st, nms s = nml
  len : fs.length = st.length
  sl : st.length ≤ 4
  form : Form nml.length (st.zip fs)
  fin : ∀ q ∈ st.zip fs, fine nml.length q ∧ (nz q.1)[0]? = some q.2 ∧ 0 < val q.1 q.2
  chk : chk nml b [] [] st = some fs
  small : ∀ s ∈ st, ∀ j, -BIG < val s j ∧ val s j < BIG
theorem nms_mk (nml : List Str) (g : Nat → Int) : nms (mkR nml g) = nml := by
  apply List.ext_getElem
  · simp [nms, mkR]
  · intro i h1 h2
    simp [nms, mkR, List.getElem?_eq_getElem h2]
theorem len_mk (nml : List Str) (g : Nat → Int) : (mkR nml g).length = nml.length := by simp [mkR]
theorem val_mk (nml : List Str) (g : Nat → Int) {j : Nat} (h : j < nml.length) : val (mkR nml g) j = g j := by
  simp [val, mkR, List.getElem?_range h]
theorem filter_first {p : Nat → Bool} {n q : Nat} (hq : q < n) (h0 : ∀ j, j < q → p j = false) (h1 : p q = true) : ∃ r, (List.range n).filter p = q :: r := by
  obtain ⟨m, rfl⟩ : ∃ m, n = q + (m + 1) := ⟨n - q - 1, by omega⟩
  rw [List.range_add, List.filter_append]
  have e : (List.range q).filter p = [] := by
    rw [List.filter_eq_nil_iff]
    intro j hj
    rw [h0 j (List.mem_range.mp hj)]; decide
  rw [e, List.nil_append, List.range_succ_eq_map, List.map_cons, List.filter_cons]
  simp only [Nat.add_zero, h1, if_true]
  exact ⟨_, rfl⟩
theorem nz_first {s : Row} {q : Nat} (hq : q < s.length) (h0 : ∀ j, j < q → val s j = 0) (h1 : val s q ≠ 0) : ∃ r, nz s = q :: r := by
  rw [← nz_range]
  exact filter_first hq (fun j hj => by simp [h0 j hj]) (by simp [h1])
theorem rf_bd (ds : List Int) (k j : Nat) : -4 ≤ rf ds k j ∧ rf ds k j ≤ 5 := by
  unfold rf
  have h1 := Int.fmod_nonneg_of_pos (dd ds (12 + 5 * k + j)) (b := 9) (by omega)
  have h2 := Int.fmod_lt_of_pos (dd ds (12 + 5 * k + j)) (b := 9) (by omega)
  have h3 := sz_pos ds k
  split
  · omega
  · split <;> omega
theorem rg_bd (ds : List Int) (n k j : Nat) : -4 ≤ rg ds n k j ∧ rg ds n k j ≤ 5 := by
  unfold rg
  have h1 := rf_bd ds k j
  have h3 := sz_pos ds j
  have h4 := Int.fmod_nonneg_of_pos (rf ds k j + 20) (b := sz ds j) (by omega)
  have h5 := Int.fmod_lt_of_pos (rf ds k j + 20) (b := sz ds j) (by omega)
  split <;> omega
theorem rg_low (ds : List Int) (n : Nat) {k j : Nat} (h : j < k) : rg ds n k j = 0 := by
  unfold rg rf
  rw [if_pos (Or.inr (by omega)), if_pos h]
theorem rg_own (ds : List Int) (n k : Nat) : rg ds n k k = sz ds k := by
  unfold rg rf
  rw [if_pos (Or.inr (by omega)), if_neg (by omega), if_pos rfl]
theorem rg_high (ds : List Int) {n k j : Nat} (h : k < j) (hj : j ∈ FF ds n) : 0 ≤ rg ds n k j ∧ rg ds n k j < sz ds j := by
  have h3 := sz_pos ds j
  unfold rg
  rw [if_neg (by intro h'; rcases h' with h' | h'; exact h' hj; omega)]
  exact ⟨Int.fmod_nonneg_of_pos _ (by omega), Int.fmod_lt_of_pos _ (by omega)⟩
theorem bf_fit (ds : List Int) {n j : Nat} (hj : j ∈ FF ds n) : 0 ≤ bf ds n j ∧ bf ds n j < sz ds j := by
  have h3 := sz_pos ds j
  unfold bf
  rw [if_pos hj]
  exact ⟨Int.fmod_nonneg_of_pos _ (by omega), Int.fmod_lt_of_pos _ (by omega)⟩
abbrev sR (ds : List Int) (nml : List Str) (q : Nat) : Row := mkR nml (rg ds nml.length q)
theorem sR_first (ds : List Int) (nml : List Str) {q : Nat} (hq : q ∈ FF ds nml.length) : ∃ r, nz (sR ds nml q) = q :: r := by
  have h := FF_lt hq
  have h3 := sz_pos ds q
  refine nz_first (by rw [len_mk]; exact h) (fun j hj => ?_) ?_
  · rw [val_mk nml _ (by omega), rg_low ds _ hj]
  · rw [val_mk nml _ h, rg_own]; omega
theorem form_of (ds : List Int) (nml : List Str) : ∀ L : List Nat, L.Pairwise (· < ·) → (∀ q ∈ L, q ∈ FF ds nml.length) → Form nml.length (L.map fun q => (sR ds nml q, q))
  | [], _, _ => trivial
  | q :: L, hp, hq => by
    obtain ⟨h1, h2⟩ := List.pairwise_cons.mp hp
    have hq' := hq q List.mem_cons_self
    have h := FF_lt hq'
    have h3 := sz_pos ds q
    refine ⟨len_mk _ _, h, ?_, fun j hj => ?_, fun p hpm => ?_, form_of ds nml L h2 fun p hp => hq p (List.mem_cons_of_mem _ hp)⟩
    · show val (sR ds nml q) q ≠ 0
      rw [val_mk nml _ h, rg_own]; omega
    · show val (sR ds nml q) j = 0
      have hj' : j < q := hj
      rw [val_mk nml _ (by omega), rg_low ds _ hj']
    · obtain ⟨r, hr, rfl⟩ := List.mem_map.mp hpm
      exact h1 r hr
theorem chk_of (ds : List Int) (nml : List Str) (bfn : Nat → Int) (hb : ∀ j ∈ FF ds nml.length, 0 ≤ bfn j ∧ bfn j < sz ds j) : ∀ (L pre : List Nat), (pre ++ L).Pairwise (· < ·) → (∀ q ∈ pre ++ L, q ∈ FF ds nml.length) → chk nml (mkR nml bfn) (pre.map (sR ds nml)) pre (L.map (sR ds nml)) = some (pre ++ L)
  | [], pre, _, _ => by simp [chk]
  | q :: L, pre, hp, hq => by
    have hq' := hq q (by simp)
    have h := FF_lt hq'
    have h3 := sz_pos ds q
    obtain ⟨r, hr⟩ := sR_first ds nml hq'
    have hv : val (sR ds nml q) q = sz ds q := by rw [val_mk nml _ h, rg_own]
    have hlt : ∀ p ∈ pre, p < q := fun p hpm => (List.pairwise_append.mp hp).2.2 p hpm q List.mem_cons_self
    have hst : stp nml (mkR nml bfn) (pre.map (sR ds nml)) pre (sR ds nml q) = some q := by
      unfold stp
      rw [if_pos (nms_mk _ _), hr]
      simp only
      rw [hv, if_neg (by omega)]
      have hlate : late pre q = false := by
        unfold late
        cases hg : pre.getLast? with
        | none => rfl
        | some g =>
          have := hlt g (List.mem_of_getLast? hg)
          simp; omega
      rw [hlate]
      have hfit : fits (sz ds q) q (pre.map (sR ds nml) ++ [mkR nml bfn]) = true := by
        unfold fits
        rw [List.all_eq_true]
        intro s hs
        rcases List.mem_append.mp hs with hs | hs
        · obtain ⟨p, hpm, rfl⟩ := List.mem_map.mp hs
          have := rg_high ds (n := nml.length) (hlt p hpm) hq'
          rw [val_mk nml _ h]
          simp; omega
        · rw [List.mem_singleton.mp hs, val_mk nml _ h]
          have := hb q hq'
          simp; omega
      rw [hfit]; rfl
    simp only [List.map_cons, chk, hst]
    have ih := chk_of ds nml bfn hb L (pre ++ [q]) (by simpa using hp) (by simpa using hq)
    simp only [List.map_append, List.map_cons, List.map_nil] at ih
    rw [ih]; simp
theorem sol_of (ds : List Int) (nml : List Str) (hle : nml.length ≤ 4) : Sol nml (mkR nml (bf ds nml.length)) ((FF ds nml.length).map (sR ds nml)) (FF ds nml.length) := by
  have hz : ((FF ds nml.length).map (sR ds nml)).zip (FF ds nml.length) = (FF ds nml.length).map fun q => (sR ds nml q, q) := by
    have := List.zip_map' (f := sR ds nml) (g := id) (l := FF ds nml.length)
    simpa using this
  have hlen : (FF ds nml.length).length ≤ nml.length := by
    have := List.length_filter_le (fun j => (dd ds j).fmod 2 == 0) (List.range nml.length)
    simpa [FF] using this
  have hpw : (FF ds nml.length).Pairwise (· < ·) := List.Pairwise.filter _ List.pairwise_lt_range
  refine ⟨nms_mk _ _, ?_, by simp, by simp; omega, ?_, ?_, ?_, ?_⟩
  · intro s hs
    obtain ⟨q, _, rfl⟩ := List.mem_map.mp hs
    exact nms_mk _ _
  · rw [hz]; exact form_of ds nml _ hpw fun q hq => hq
  · rw [hz]
    intro p hp
    obtain ⟨q, hq, rfl⟩ := List.mem_map.mp hp
    have h := FF_lt hq
    have h3 := sz_pos ds q
    obtain ⟨r, hr⟩ := sR_first ds nml hq
    have hv : val (sR ds nml q) q = sz ds q := by rw [val_mk nml _ h, rg_own]
    refine ⟨⟨len_mk _ _, h, ?_, ?_, ?_⟩, ?_, ?_⟩
    · show val (sR ds nml q) q ≠ 0
      omega
    · show (val (sR ds nml q) q).natAbs < 1073741824
      omega
    · intro v hv
      simp only [vals, sR, mkR, List.map_map] at hv
      obtain ⟨j, _, rfl⟩ := List.mem_map.mp hv
      have := rg_bd ds nml.length q j
      show -18446744073709551616 < rg ds nml.length q j ∧ rg ds nml.length q j < 18446744073709551616
      omega
    · show (nz (sR ds nml q))[0]? = some q
      rw [hr]; rfl
    · show 0 < val (sR ds nml q) q
      omega
  · have := chk_of ds nml (bf ds nml.length) (fun j hj => bf_fit ds hj) (FF ds nml.length) [] (by simpa using hpw) (by simp)
    simpa using this
  · intro s hs j
    obtain ⟨q, _, rfl⟩ := List.mem_map.mp hs
    have := rg_bd ds nml.length q j
    show -18446744073709551616 < val (sR ds nml q) j ∧ val (sR ds nml q) j < 18446744073709551616
    by_cases hj : j < nml.length
    · rw [val_mk nml _ hj]; omega
    · have : val (sR ds nml q) j = 0 := by
        unfold val
        rw [List.getElem?_eq_none (by rw [len_mk]; omega)]
      omega
theorem dry_row (s : Row) : dry (rowI s) = true := by
  unfold rowI
  simp only [dry]
  exact dry_mem fun d hd => by
    obtain ⟨p, _, rfl⟩ := List.mem_map.mp hd; rfl
theorem dry_rows (st : List Row) : dry (.tup (st.map rowI)) = true := by
  simp only [dry]
  exact dry_mem fun d hd => by
    obtain ⟨p, _, rfl⟩ := List.mem_map.mp hd; exact dry_row p
theorem r_sol (k : Nat) (S : Sto) (ds : List Int) {z : Str} {nml : List Str} (hz : Nm z nml) (hl : 100 ≤ ds.length) : ∃ (b : Row) (st : List Row) (fs : List Nat), Sol nml b st fs ∧ run P0 (k + 1) 9 [nums ds, .str z] S = .ok (.tup [rowI b, .tup (st.map rowI)]) S := by
  have hle := hz.le
  refine ⟨mkR nml (bf ds nml.length), (FF ds nml.length).map (sR ds nml), FF ds nml.length, sol_of ds nml hle, ?_⟩
  have hlen : (FF ds nml.length).length ≤ nml.length := by
    have := List.length_filter_le (fun j => (dd ds j).fmod 2 == 0) (List.range nml.length)
    simpa [FF] using this
  obtain ⟨y5, y6, e⟩ := loopS k S ds hz hl (FF ds nml.length) [] none none (fun q hq => hq) (by simp; omega)
  have hit : evI (Γr k) (.itv (.var 2)) (envF (nums ds) (.str z) (some (nums ((FF ds nml.length).map Int.ofNat))) (some (.ref S.length)) (some (.dic (sizesD ds nml.length))) none none none) (atL S []) = .ok ((FF ds nml.length).map fun (q : Nat) => D.int q, none) (atL S []) :=
    i_itv (d := nums ((FF ds nml.length).map Int.ofNat)) (e_var rfl) (by simp only [itemsOf, nums, List.map_map]; rfl)
  refine call_dry f__law_solutions rfl rfl (seq_nx (s_asg (d := .tup [nums ((FF ds nml.length).map Int.ofNat), .ref S.length]) (S' := atL S []) (e_tup (l_cons (ev_firsts k S ds hz hl) (l_cons (d := .ref S.length) rfl l_nil)) (by simp [LIM])) rfl) (seq_nx (s_asg (ev_sizes k _ ds hz hl _) rfl) (seq_nx ((s_for hit).trans e) (seq_nx (s_asg (ev_base k _ ds hz hl _ _ _) rfl) (seq_ret (s_ret (e_tup (l_cons (d := rowI (mkR nml (bf ds nml.length))) (e_var rfl) (l_cons (d := .tup (((FF ds nml.length).map (sR ds nml)).map rowI)) (e_bi1 (d := .ref S.length) (e_var rfl) ?_) l_nil)) (by simp [LIM]))))))) ) ?_
  · simp only [bi1, tupleD, get_at]
    rw [List.nil_append, List.map_map]; rfl
  · simp only [dry, dryL, dry_row, Bool.true_and, Bool.and_true]
    have := dry_rows ((FF ds nml.length).map (sR ds nml))
    simpa [dry] using this
end K08
end

section
set_option Elab.async false
set_option linter.all false
set_option maxRecDepth 100000
/-! K08N: what is not in the one form, and the rows that are reached. -/
namespace K08
open PySem MP MP.Lb
theorem chk_app {nm : List Str} {b : Row} : ∀ (t1 t2 done : List Row) (fs : List Nat), chk nm b done fs (t1 ++ t2) = (chk nm b done fs t1).bind fun g => chk nm b (done ++ t1) g t2
  | [], t2, done, fs => by simp [chk]
  | s :: t1, t2, done, fs => by
    simp only [List.cons_append, chk]
    cases stp nm b done fs s with
    | none => rfl
    | some f =>
      simp only
      rw [chk_app t1 t2 (done ++ [s]) (fs ++ [f])]
      simp
theorem chk_in {nm : List Str} {b s : Row} {t1 t2 done : List Row} {fs gs : List Nat} (h : chk nm b done fs (t1 ++ s :: t2) = some gs) : ∃ g f, chk nm b done fs t1 = some g ∧ stp nm b (done ++ t1) g s = some f := by
  rw [chk_app] at h
  cases hg : chk nm b done fs t1 with
  | none => rw [hg] at h; cases h
  | some g =>
    rw [hg] at h
    simp only [Option.bind_some, chk] at h
    cases hs : stp nm b (done ++ t1) g s with
    | none => rw [hs] at h; cases h
    | some f => exact ⟨g, f, rfl, hs⟩
theorem stp_inv {nm : List Str} {b s : Row} {done : List Row} {fs : List Nat} {f : Nat} (h : stp nm b done fs s = some f) : nms s = nm ∧ (∃ r, nz s = f :: r) ∧ 0 ≤ val s f ∧ late fs f = false ∧ (∀ r ∈ done ++ [b], 0 ≤ val r f ∧ val r f ≤ val s f - 1) := by
  have hn := stp_nms h
  unfold stp at h
  rw [if_pos hn] at h
  cases hz : nz s with
  | nil => rw [hz] at h; cases h
  | cons g r =>
    rw [hz] at h
    simp only at h
    by_cases h1 : val s g < 0
    · rw [if_pos h1] at h; cases h
    rw [if_neg h1] at h
    by_cases h2 : late fs g = true
    · rw [if_pos h2] at h; cases h
    rw [if_neg h2] at h
    by_cases h3 : fits (val s g) g (done ++ [b]) = true
    · rw [if_pos h3] at h
      cases h
      refine ⟨hn, ⟨r, rfl⟩, by omega, Bool.eq_false_iff.mpr h2, fun x hx => ?_⟩
      have := List.all_eq_true.mp h3 x hx
      simpa using this
    · rw [if_neg h3] at h; cases h
theorem none_of {α : Type} {o : Option α} (h : ∀ x, o = some x → False) : o = none := by
  cases o with
  | none => rfl
  | some x => exact (h x rfl).elim
theorem split_at {st : List Row} {i : Nat} (h : i < st.length) : st = st.take i ++ st[i] :: st.drop (i + 1) := by
  rw [← List.drop_eq_getElem_cons h, List.take_append_drop]
/-- one step of a solution -/
theorem Sol.own {nml : List Str} {b : Row} {st : List Row} {fs : List Nat} (h : Sol nml b st fs) {i : Nat} (hi : i < st.length) : ∃ f r, nz st[i] = f :: r ∧ f < nml.length ∧ 0 < val st[i] f := by
  have hf : i < fs.length := by rw [h.len]; exact hi
  have hm : (st[i], fs[i]) ∈ st.zip fs := by
    rw [List.mem_iff_getElem]
    exact ⟨i, by simp; omega, by simp⟩
  obtain ⟨h1, h2, h3⟩ := h.fin _ hm
  cases hz : nz st[i] with
  | nil => rw [hz] at h2; cases h2
  | cons f r =>
    rw [hz] at h2
    have : f = fs[i] := by simpa using h2
    subst this
    exact ⟨_, r, rfl, h1.2.1, h3⟩
theorem no_base {nm : List Str} {b' : Row} {st : List Row} {i f : Nat} {r : List Nat} (hi : i < st.length) (hz : nz st[i] = f :: r) (hv : val b' f < 0 ∨ val st[i] f ≤ val b' f) : chk nm b' [] [] st = none := by
  refine none_of fun gs h => ?_
  rw [split_at hi] at h
  obtain ⟨g, f', _, hs⟩ := chk_in h
  obtain ⟨_, ⟨r', hr⟩, _, _, hb⟩ := stp_inv hs
  rw [hz] at hr
  cases hr
  have := hb b' (by simp)
  omega
theorem no_step {nm : List Str} {b s : Row} {t1 t2 : List Row} (h : ∀ done fs, stp nm b done fs s = none) : chk nm b [] [] (t1 ++ s :: t2) = none := by
  refine none_of fun gs hc => ?_
  obtain ⟨g, f', _, hs⟩ := chk_in hc
  rw [h] at hs
  cases hs
theorem no_twice {nm : List Str} {b : Row} {st : List Row} {i f : Nat} {r : List Nat} (hi : i < st.length) (hz : nz st[i] = f :: r) : chk nm b [] [] (st ++ [st[i]]) = none := by
  refine none_of fun gs h => ?_
  obtain ⟨g, f', _, hs⟩ := chk_in (t2 := []) h
  obtain ⟨_, ⟨r', hr⟩, _, _, hb⟩ := stp_inv hs
  have := hb st[i] (by simp)
  omega
theorem no_back {nm : List Str} {b s0 s1 : Row} {t : List Row} {f0 f1 : Nat} {r0 r1 : List Nat} (h0 : nz s0 = f0 :: r0) (h1 : nz s1 = f1 :: r1) (hf : f0 ≤ f1) : chk nm b [] [] (s0 :: s1 :: t).reverse = none := by
  refine none_of fun gs h => ?_
  have e : (s0 :: s1 :: t).reverse = (t.reverse ++ [s1]) ++ [s0] := by simp
  rw [e] at h
  obtain ⟨g, f', hg, hs⟩ := chk_in (t2 := []) h
  obtain ⟨_, ⟨r', hr⟩, _, hl, _⟩ := stp_inv hs
  rw [h0] at hr
  cases hr
  rw [chk_app] at hg
  cases hg1 : chk nm b [] [] t.reverse with
  | none => rw [hg1] at hg; cases hg
  | some g1 =>
    rw [hg1] at hg
    simp only [Option.bind_some, chk] at hg
    cases hs1 : stp nm b ([] ++ t.reverse) g1 s1 with
    | none => rw [hs1] at hg; cases hg
    | some f1' =>
      rw [hs1] at hg
      obtain ⟨_, ⟨r1', hr1⟩, _⟩ := stp_inv hs1
      rw [h1] at hr1
      cases hr1
      simp only [Option.some.injEq] at hg
      subst hg
      unfold late at hl
      simp at hl
      omega
theorem Form.lt {n : Nat} {q p : Row × Nat} {qs : List (Row × Nat)} (h : Form n (q :: p :: qs)) : q.2 < p.2 := h.2.2.2.2.1 p List.mem_cons_self
theorem Sol.back {nml : List Str} {b : Row} {st : List Row} {fs : List Nat} (h : Sol nml b st fs) (hi : 1 < st.length) (nm : List Str) : K08.chk nm b [] [] st.reverse = none := by
  obtain ⟨h1, h2, h3, h4, hform, hfin, h7, h8⟩ := h
  match st, fs with
  | [], _ => simp at hi
  | [_], _ => simp at hi
  | s0 :: s1 :: t, [] => simp at h3
  | s0 :: s1 :: t, [_] => simp at h3
  | s0 :: s1 :: t, f0 :: f1 :: r =>
    have e0 := (hfin (s0, f0) (by simp)).2.1
    have e1 := (hfin (s1, f1) (by simp)).2.1
    have hlt : f0 < f1 := Form.lt hform
    cases z0 : nz s0 with
    | nil => rw [z0] at e0; cases e0
    | cons g0 r0 =>
      cases z1 : nz s1 with
      | nil => rw [z1] at e1; cases e1
      | cons g1 r1 =>
        rw [z0] at e0
        rw [z1] at e1
        have a0 : g0 = f0 := by simpa using e0
        have a1 : g1 = f1 := by simpa using e1
        exact no_back z0 z1 (by omega)
/-! bent steps -/
theorem nz_map (s : Row) (g : (Str × Int) → Int) (hg : ∀ p, g p = 0 ↔ p.2 = 0) : nz (s.map fun p => (p.1, g p)) = nz s := by
  rw [← nz_range, ← nz_range]
  rw [List.length_map]
  apply List.filter_congr
  intro j hj
  have hj' := List.mem_range.mp hj
  have e1 : val (s.map fun p => (p.1, g p)) j = g s[j] := by
    unfold val
    rw [List.getElem?_map, List.getElem?_eq_getElem hj']; rfl
  have e2 : val s j = s[j].2 := by
    unfold val
    rw [List.getElem?_eq_getElem hj']
  rw [e1, e2]
  have := hg s[j]
  by_cases h : s[j].2 = 0
  · rw [this.mpr h, h]
  · have h' : g s[j] ≠ 0 := fun h' => h (this.mp h')
    have e3 : (g s[j] == 0) = false := by simp [h']
    have e4 : (s[j].2 == 0) = false := by simp [h]
    rw [e3, e4]
theorem val_neg (s : Row) (f : Nat) : val (s.map fun p => (p.1, 0 - p.2)) f = 0 - val s f := by
  unfold val
  rw [List.getElem?_map]
  cases s[f]? <;> simp
theorem stp_minus {nm : List Str} {b s : Row} {f : Nat} {r : List Nat} (hz : nz s = f :: r) (hv : 0 < val s f) (done : List Row) (fs : List Nat) : stp nm b done fs (s.map fun p => (p.1, 0 - p.2)) = none := by
  refine none_of fun f' h => ?_
  obtain ⟨_, ⟨r', hr⟩, h0, _⟩ := stp_inv h
  rw [nz_map s (fun p => 0 - p.2) (fun p => by omega), hz] at hr
  cases hr
  rw [val_neg] at h0
  omega
theorem nz_zero (s : Row) : nz (s.map fun p => (p.1, (0 : Int))) = [] := by
  rw [← nz_range, List.filter_eq_nil_iff]
  intro j hj
  have e : val (s.map fun p => (p.1, (0 : Int))) j = 0 := by
    unfold val
    rw [List.getElem?_map]
    cases s[j]? <;> rfl
  simp [e]
theorem stp_zero {nm : List Str} {b s : Row} (done : List Row) (fs : List Nat) : stp nm b done fs (s.map fun p => (p.1, (0 : Int))) = none := by
  refine none_of fun f' h => ?_
  obtain ⟨_, ⟨r', hr⟩, _⟩ := stp_inv h
  rw [nz_zero] at hr
  cases hr
theorem stp_tail {nm : List Str} {b s : Row} (hn : nms s = nm) (hl : 0 < nm.length) (done : List Row) (fs : List Nat) : stp nm b done fs s.tail = none := by
  refine none_of fun f' h => ?_
  have h1 := stp_nms h
  have h2 : (nms s.tail).length = s.length - 1 := by rw [nms_len, List.length_tail]
  have h3 : (nms s).length = s.length := nms_len s
  rw [h1] at h2
  rw [hn] at h3
  omega
/-! a base with one number changed -/
def putR (nml : List Str) (b : Row) (f : Nat) (v : Int) : Row := b.take f ++ [(nml.getD f "", v)] ++ b.drop (f + 1)
theorem val_put (nml : List Str) (b : Row) {f : Nat} (v : Int) (h : f < b.length) : val (putR nml b f v) f = v := by
  unfold val putR
  rw [List.append_assoc, List.getElem?_append_right (by simp; omega)]
  have : f - (b.take f).length = 0 := by simp; omega
  rw [this]
  rfl
theorem nms_put {nml : List Str} {b : Row} (hn : nms b = nml) {f : Nat} (v : Int) (h : f < b.length) : nms (putR nml b f v) = nml := by
  have hl : f < nml.length := by rw [← hn, nms_len]; exact h
  unfold nms putR
  unfold nms at hn
  simp only [List.map_append, List.map_cons, List.map_nil, List.map_take, List.map_drop, hn]
  rw [List.getD_eq_getElem?_getD, List.getElem?_eq_getElem hl, Option.getD_some, List.append_assoc, List.singleton_append, ← List.drop_eq_getElem_cons hl, List.take_append_drop]
/-! rows that are reached -/
theorem comb_range (nml : List Str) {st : List Row} {fs : List Nat} {ts : List Int} (h1 : fs.length = st.length) (h2 : ts.length = st.length) (j : Nat) : comb (st.zip fs) ts j = ((List.range st.length).map fun m => ts.getD m 0 * val (st.getD m []) j).sum := by
  unfold comb
  congr 1
  apply List.ext_getElem
  · simp; omega
  · intro i h3 h4
    simp at h4
    simp [List.getElem?_eq_getElem h4, List.getElem?_eq_getElem (show i < ts.length by omega)]
theorem less_mk (nml : List Str) {b : Row} (hb : b.length = nml.length) (g : Nat → Int) : less (mkR nml fun j => val b j + g j) b = (List.range nml.length).map g := by
  apply List.ext_getElem
  · simp [less, mkR, hb]
  · intro i h1 h2
    simp at h2
    have h3 : i < b.length := by omega
    simp [less, mkR, val, List.getElem?_eq_getElem h3]
    omega
theorem reach_far {nml : List Str} {b : Row} {st : List Row} {fs : List Nat} (h : Sol nml b st fs) {ts : List Int} (hts : ts.length = st.length) : reach b (st.zip fs) (mkR nml fun j => val b j + comb (st.zip fs) ts j) = .tup (ts.map .int) := by
  have hb : b.length = nml.length := by rw [← nms_len b, h.nb]
  unfold reach
  rw [less_mk nml hb, turns_far nml.length (st.zip fs) ts [] h.form (by simp [h.len, hts])]
  unfold told
  rw [if_pos]
  · rfl
  · simp
end K08
end

section
set_option Elab.async false
set_option linter.all false
set_option maxRecDepth 100000
/-! K08L: the law itself. -/
namespace K08
open PySem MP MP.Lb
structure NmG (nml : List Str) : Prop where
  mem : ∀ x ∈ nml, x ∈ names8
  s : srt nml = true
  st : srt nml.tail = true
  far : 1 < nml.length → srt (nml ++ [("zz" : Str)]) = true ∧ srt nml.reverse = false
theorem goodR_of {l : List Str} {s : Row} (h : nms s = l) (hm : ∀ x ∈ l, x ∈ names8) (hs : srt l = true) (hl : l.length ≤ 100) : goodR s := by
  refine ⟨fun p hp => hm p.1 (h ▸ List.mem_map.mpr ⟨p, hp, rfl⟩), h ▸ hs, ?_⟩
  rw [← nms_len, h]; exact hl
theorem e_isi {Γ : MP.Ctx} {e : Ex} {t : Ty} {ρ : MP.Env} {S S' : Sto} {d : D} {b : Bool} (h : evE Γ e ρ S = .ok d S') (h2 : isTy d t = some b) : evE Γ (.isi e t) ρ S = .ok (.bl b) S' := by
  simp only [evE, h, R.bind, h2]
theorem e_rev {Γ : MP.Ctx} {e : Ex} {ρ : MP.Env} {S S' : Sto} {xs : List D} (h : evE Γ e ρ S = .ok (.tup xs) S') : evE Γ (.rev e) ρ S = .ok (.tup xs.reverse) S' := by
  simp only [evE, h, R.bind]
theorem ne_told (p : List Int × List Int) (S : Sto) : cmpD .NotEq (told p) (told p) S = some false := by
  unfold told
  split
  · simp only [cmpD, shp, shpL_int, Bool.and_true, if_true, eqv, eqvL_int]
    simp
  · rfl
theorem ne_tup (xs : List Int) (S : Sto) : cmpD .NotEq (.tup (xs.map .int)) (.tup (xs.map .int)) S = some false := by
  simp only [cmpD, shp, shpL_int, Bool.and_true, if_true, eqv, eqvL_int]
  simp
/-! what is told of a solution -/
section
variable {nml : List Str} {b : Row} {st : List Row} {fs : List Nat}
theorem Sol.gb (h : Sol nml b st fs) (g : NmG nml) (hl : nml.length ≤ 4) : goodR b := goodR_of h.nb g.mem g.s (by omega)
theorem Sol.gs (h : Sol nml b st fs) (g : NmG nml) (hl : nml.length ≤ 4) : ∀ r ∈ st, goodR r := fun r hr => goodR_of (h.ns r hr) g.mem g.s (by omega)
theorem Sol.check (h : Sol nml b st fs) (g : NmG nml) (hl : nml.length ≤ 4) (k : Nat) (S : Sto) : run P0 (k + 4) 6 [rowI b, .tup (st.map rowI)] S = .ok (nums (fs.map Int.ofNat)) S :=
  r_check k S b st fs (h.gb g hl) (h.gs g hl) (by have := h.sl; omega) (by have := h.sl; have := h.len; omega) (by rw [h.nb]; exact h.chk)
theorem Sol.reach (h : Sol nml b st fs) (g : NmG nml) (hl : nml.length ≤ 4) (k : Nat) (S : Sto) {r : Row} (hr : nms r = nml) : run P0 (k + 5) 7 [rowI b, .tup (st.map rowI), rowI r] S = .ok (reach b (st.zip fs) r) S :=
  r_reach k S b r st fs (h.gb g hl) (goodR_of hr g.mem g.s (by omega)) (h.gs g hl) (by have := h.sl; omega) h.len (by rw [h.nb]; exact h.chk) (by rw [hr, h.nb]) (fun q hq => by
    have e : b.length = nml.length := by rw [← nms_len b, h.nb]
    rw [e]; exact (h.fin q hq).1)
theorem zip_fst : ∀ (xs : List Row) (ys : List Nat), ys.length = xs.length → (xs.zip ys).map (fun q => rowI q.1) = xs.map rowI
  | [], [], _ => rfl
  | [], _ :: _, h => by simp at h
  | _ :: _, [], h => by simp at h
  | x :: xs, y :: ys, h => by simp [zip_fst xs ys (by simpa using h)]
theorem Sol.times (h : Sol nml b st fs) (hl : nml.length ≤ 4) (k : Nat) (S : Sto) {r : Row} (hr : nms r = nml) : run P0 (k + 1) 10 [rowI b, .tup (st.map rowI), rowI r] S = .ok (K08.reach b (st.zip fs) r) S := by
  have e : b.length = nml.length := by rw [← nms_len b, h.nb]
  have := r_times k S b r (st.zip fs) (by omega) (by rw [e, ← nms_len r, hr]) (by have := h.sl; simp; omega) (fun q hq => by
    rw [e]; exact ⟨(h.fin q hq).1, (h.fin q hq).2.1⟩)
  rw [zip_fst st fs h.len] at this
  exact this
theorem t_no (k : Nat) (S : Sto) {b' : Row} {st' : List Row} (r : D) (hb : goodR b') (hs : ∀ r ∈ st', goodR r) (hl : st'.length ≤ 100) (hc : ∀ nm, chk nm b' [] [] st' = none) : run P0 (k + 6) 11 [rowI b', .tup (st'.map rowI), r] S = .ok (.tup [.str "refused"]) S :=
  r_refused (k + 4) S (r_reach_exc (k + 3) S (r_check_no k S b' st' hb hs hl (hc _)))
theorem Sol.bad (h : Sol nml b st fs) (g : NmG nml) (hl : nml.length ≤ 4) (k : Nat) (S : Sto) {r : D} (hr : run P0 (k + 4) 5 [r] S = .ok (.bl false) S) : run P0 (k + 6) 11 [rowI b, .tup (st.map rowI), r] S = .ok .non S :=
  r_told (k + 4) S (r_reach_bad (k + 3) S (h.check g hl k S) hr) rfl
theorem Sol.unlike (h : Sol nml b st fs) (g : NmG nml) (hl : nml.length ≤ 4) (k : Nat) (S : Sto) {r : Row} (hr : goodR r) (hn : nms r ≠ nml) : run P0 (k + 6) 11 [rowI b, .tup (st.map rowI), rowI r] S = .ok .non S :=
  r_told (k + 4) S (r_reach_unlike (k + 1) S (h.gb g hl) hr (h.check g hl k S) (by rw [h.nb]; exact hn)) rfl
end
/-! ### the frame -/
abbrev envL (sc dr : D) (x2 x3 x4 x5 x6 x7 x8 x9 x10 x11 x12 x13 x14 x15 x16 x17 x18 x19 x20 x21 : Option D) : MP.Env := [some sc, some dr, x2, x3, x4, x5, x6, x7, x8, x9, x10, x11, x12, x13, x14, x15, x16, x17, x18, x19, x20, x21, none, none, none, none, none]
abbrev Xtimes : Ex := .lc (.op .Sub (.op .Mod (.bi .int [.ix (.var 1) (.op .Add (.op .Add (.op .Add (.con (.int 200)) (.op .Mult (.con (.int 7)) (.var 6))) (.var 22)) (.var 2))]) (.con (.int 11))) (.con (.int 5))) (.nm 22) (.rg1 (.bi .len [.var 5])) [] [22]
abbrev Xsum : Ex := .lc (.op .Add (.ix (.ix (.var 4) (.var 22)) (.con (.int 1))) (.bi .sum [.lc (.op .Mult (.ix (.var 7) (.var 26)) (.ix (.ix (.ix (.var 5) (.var 26)) (.var 22)) (.con (.int 1)))) (.nm 26) (.rg1 (.bi .len [.var 5])) [] [26]])) (.nm 22) (.rg1 (.bi .len [.var 3])) [] [22]
abbrev Xfar : Ex := .bi .tuple [.lc (.tup [.ix (.var 3) (.var 22), .ix (.var 8) (.var 22)]) (.nm 22) (.rg1 (.bi .len [.var 3])) [] [22]]
abbrev XtestF : Ex := .or [.not (.isi (.call 7 [.var 4, .var 5, .var 9]) .tuple), .cmp .NotEq (.call 7 [.var 4, .var 5, .var 9]) (.bi .tuple [.var 7])]
abbrev Xnear : Ex := .bi .tuple [.lc (.tup [.ix (.var 3) (.var 22), .op .Add (.ix (.var 8) (.var 22)) (.op .Sub (.op .Mod (.bi .int [.ix (.var 1) (.op .Add (.op .Add (.con (.int 250)) (.var 6)) (.var 22))]) (.con (.int 3))) (.con (.int 1)))]) (.nm 22) (.rg1 (.bi .len [.var 3])) [] [22]]
abbrev XtestN : Ex := .cmp .NotEq (.call 7 [.var 4, .var 5, .var 10]) (.call 10 [.var 4, .var 5, .var 10])
abbrev bodyI : List Sm := [.asg (.nm 7) Xtimes, .asg (.nm 8) Xsum, .asg (.nm 9) Xfar, .ifs XtestF [.ret (.con (.bl false))] [], .asg (.nm 10) Xnear, .ifs XtestN [.ret (.con (.bl false))] []]
theorem rng_st {Γ : MP.Ctx} {ρ : MP.Env} {S : Sto} {v : Nat} {st : List Row} (hl : st.length ≤ 4) (hv : ρ.get v = some (.tup (st.map rowI))) : evI Γ (.rg1 (.bi .len [.var v])) ρ S = .ok ((List.range st.length).map fun (i : Nat) => D.int i, none) S := by
  refine (i_rg1 (j := st.length) (e_bi1 (d := .tup (st.map rowI)) (e_var hv) (by simp [bi1, lenD])) (by simp [SMALL]; omega)).trans ?_
  rw [rangeD_map]; simp
def tsOf (ds : List Int) (t i : Nat) (m : Nat) : List Int := (List.range m).map fun j => (dd ds (200 + 7 * i + j + t)).fmod 11 - 5
theorem ev_times (k : Nat) (S : Sto) (sc : D) (ds : List Int) (t i : Nat) (ht : t < 6) (hi : i < 6) (hd : ds.length = 300) (st : List Row) (hl : st.length ≤ 4) (x3 x4 x7 x8 x9 x10 x11 x12 x13 x14 x15 x16 x17 x18 x19 x20 x21 : Option D) : evE (Γr k) Xtimes (envL sc (nums ds) (some (.int t)) x3 x4 (some (.tup (st.map rowI))) (some (.int i)) x7 x8 x9 x10 x11 x12 x13 x14 x15 x16 x17 x18 x19 x20 x21) S = .ok (nums (tsOf ds t i st.length)) S := by
  unfold nums tsOf
  rw [List.map_map]
  refine lc_map (List.range st.length) (fun (i : Nat) => D.int i) _ (g := none) (rng_st hl rfl) (fun j hj => ⟨_, rfl, ?_⟩) (by simp [LIM]; omega)
  have hj' := List.mem_range.mp hj
  refine e_op (x := .int ((dd ds (200 + 7 * i + j + t)).fmod 11)) (y := .int 5) (e_draw (v := 1) (i := 200 + 7 * i + j + t) 11 (by decide) rfl (e_op (x := .int (200 + 7 * i + j)) (y := .int t) (e_op (x := .int (200 + 7 * i)) (y := .int j) (e_op (x := .int 200) (y := .int (7 * i)) rfl (e_op (x := .int 7) (y := .int i) rfl rfl ?_) rfl) rfl rfl) rfl rfl) (by omega) (by omega)) rfl rfl
  simp only [opD]
  rw [if_pos (Or.inl (by decide))]
theorem atI_rows {st : List Row} {m : Nat} (hm : m < st.length) : L2.atI (st.map rowI) (m : Int) = some (rowI (st.getD m [])) :=
  L2.atI_nat (by rw [List.getElem?_map, List.getElem?_eq_getElem hm, List.getD_eq_getElem?_getD, List.getElem?_eq_getElem hm]; rfl)
theorem ev_sum (k : Nat) (S : Sto) (sc : D) (dr : D) {z : Str} {nml : List Str} (hz : Nm z nml) {b : Row} {st : List Row} {fs : List Nat} (h : Sol nml b st fs) (ts : List Int) (hts : ts.length = st.length) (x2 x6 x8 x9 x10 x11 x12 x13 x14 x15 x16 x17 x18 x19 x20 x21 : Option D) : evE (Γr k) Xsum (envL sc dr x2 (some (.str z)) (some (rowI b)) (some (.tup (st.map rowI))) x6 (some (nums ts)) x8 x9 x10 x11 x12 x13 x14 x15 x16 x17 x18 x19 x20 x21) S = .ok (nums ((List.range nml.length).map fun j => val b j + comb (st.zip fs) ts j)) S := by
  have hle := hz.le
  have hsl := h.sl
  have hbl : b.length = nml.length := by rw [← nms_len b, h.nb]
  unfold nums
  rw [List.map_map]
  refine lc_map (List.range nml.length) (fun (i : Nat) => D.int i) _ (g := none) (hz.rng rfl) (fun j hj => ⟨_, rfl, ?_⟩) (by simp [LIM]; omega)
  have hj' := List.mem_range.mp hj
  obtain ⟨p, hp, ha, hv⟩ := row_at (s := b) (f := j) (by omega)
  refine e_op (x := .int (val b j)) (y := .int (comb (st.zip fs) ts j)) (e_ix (x := prI p) (y := .int 1) (e_ix (x := rowI b) (y := .int j) rfl rfl ha) rfl (by rw [hv]; rfl)) ?_ rfl
  rw [comb_range nml h.len hts]
  refine sum_lc _ _ (lc_map (List.range st.length) (fun (i : Nat) => D.int i) _ (g := none) (rng_st hsl rfl) (fun m hm => ⟨_, rfl, ?_⟩) (by simp [LIM]; omega))
  have hm' := List.mem_range.mp hm
  have hsm : st.getD m [] ∈ st := by
    rw [List.getD_eq_getElem?_getD, List.getElem?_eq_getElem hm']
    exact List.getElem_mem hm'
  have hsn := h.ns _ hsm
  obtain ⟨q, hq, hqa, hqv⟩ := row_at (s := st.getD m []) (f := j) (by rw [← nms_len, hsn]; exact hj')
  refine e_op (x := .int (ts.getD m 0)) (y := .int (val (st.getD m []) j)) (e_ix (x := nums ts) (y := .int m) rfl rfl (L2.atI_nat (by rw [List.getElem?_map, List.getElem?_eq_getElem (show m < ts.length by omega), List.getD_eq_getElem?_getD, List.getElem?_eq_getElem (show m < ts.length by omega)]; rfl))) (e_ix (x := prI q) (y := .int 1) (e_ix (x := rowI (st.getD m [])) (y := .int j) (e_ix (x := .tup (st.map rowI)) (y := .int m) rfl rfl (atI_rows hm')) rfl hqa) rfl (by rw [hqv]; rfl)) ?_
  simp only [opD]
  rw [if_pos (Or.inr (h.small _ hsm j))]
theorem ev_far (k : Nat) (S : Sto) (sc : D) (dr : D) {z : Str} {nml : List Str} (hz : Nm z nml) (g : Nat → Int) (x2 x4 x5 x6 x7 x9 x10 x11 x12 x13 x14 x15 x16 x17 x18 x19 x20 x21 : Option D) : evE (Γr k) Xfar (envL sc dr x2 (some (.str z)) x4 x5 x6 x7 (some (nums ((List.range nml.length).map g))) x9 x10 x11 x12 x13 x14 x15 x16 x17 x18 x19 x20 x21) S = .ok (rowI (mkR nml g)) S := by
  have hle := hz.le
  rw [rowI_mk]
  exact tup_lc (lc_map (List.range nml.length) (fun (i : Nat) => D.int i) (fun j => .tup [.str (nml.getD j ""), .int (g j)]) (g := none) (hz.rng rfl) (fun j hj => ⟨_, rfl, by
    have hj' := List.mem_range.mp hj
    exact e_tup (l_cons (e_ix (x := .str z) (y := .int j) rfl rfl (hz.at_ j hj' S)) (l_cons (e_ix (x := nums ((List.range nml.length).map g)) (y := .int j) rfl rfl (at_map _ _ S hj')) l_nil)) (by simp [LIM])⟩) (by simp [LIM]; omega))
theorem ev_near (k : Nat) (S : Sto) (sc : D) (ds : List Int) (i : Nat) (hi : i < 6) (hd : ds.length = 300) {z : Str} {nml : List Str} (hz : Nm z nml) (g : Nat → Int) (x2 x4 x5 x7 x9 x10 x11 x12 x13 x14 x15 x16 x17 x18 x19 x20 x21 : Option D) : evE (Γr k) Xnear (envL sc (nums ds) x2 (some (.str z)) x4 x5 (some (.int i)) x7 (some (nums ((List.range nml.length).map g))) x9 x10 x11 x12 x13 x14 x15 x16 x17 x18 x19 x20 x21) S = .ok (rowI (mkR nml fun j => g j + ((dd ds (250 + i + j)).fmod 3 - 1))) S := by
  have hle := hz.le
  rw [rowI_mk]
  exact tup_lc (lc_map (List.range nml.length) (fun (i : Nat) => D.int i) (fun j => .tup [.str (nml.getD j ""), .int (g j + ((dd ds (250 + i + j)).fmod 3 - 1))]) (g := none) (hz.rng rfl) (fun j hj => ⟨_, rfl, by
    have hj' := List.mem_range.mp hj
    exact e_tup (l_cons (e_ix (x := .str z) (y := .int j) rfl rfl (hz.at_ j hj' S)) (l_cons (e_op (x := .int (g j)) (y := .int ((dd ds (250 + i + j)).fmod 3 - 1)) (e_ix (x := nums ((List.range nml.length).map g)) (y := .int j) rfl rfl (at_map _ _ S hj')) (e_op (x := .int ((dd ds (250 + i + j)).fmod 3)) (y := .int 1) (e_draw (v := 1) (i := 250 + i + j) 3 (by decide) rfl rfl (by omega) (by omega)) rfl rfl) rfl) l_nil)) (by simp [LIM])⟩) (by simp [LIM]; omega))
theorem inner_ok (k : Nat) (S : Sto) (sc : D) (ds : List Int) (t i : Nat) (ht : t < 6) (hi : i < 6) (hd : ds.length = 300) {z : Str} {nml : List Str} (hz : Nm z nml) (hg : NmG nml) {b : Row} {st : List Row} {fs : List Nat} (h : Sol nml b st fs) (x7 x8 x9 x10 x11 x12 x13 x14 x15 x16 x17 x18 x19 x20 x21 : Option D) : ∃ y7 y8 y9 y10, evSs (Γr (k + 5)) bodyI (envL sc (nums ds) (some (.int t)) (some (.str z)) (some (rowI b)) (some (.tup (st.map rowI))) (some (.int i)) x7 x8 x9 x10 x11 x12 x13 x14 x15 x16 x17 x18 x19 x20 x21) S = .ok (.nx (envL sc (nums ds) (some (.int t)) (some (.str z)) (some (rowI b)) (some (.tup (st.map rowI))) (some (.int i)) y7 y8 y9 y10 x11 x12 x13 x14 x15 x16 x17 x18 x19 x20 x21)) S := by
  have hle := hz.le
  have hts : (tsOf ds t i st.length).length = st.length := by simp [tsOf]
  refine ⟨_, _, _, _, seq_nx (s_asg (ev_times (k + 5) S sc ds t i ht hi hd st h.sl _ _ _ _ _ _ _ _ _ _ _ _ _ _ _ _ _) rfl) (seq_nx (s_asg (ev_sum (k + 5) S sc _ hz h _ hts _ _ _ _ _ _ _ _ _ _ _ _ _ _ _ _) rfl) (seq_nx (s_asg (ev_far (k + 5) S sc _ hz _ _ _ _ _ _ _ _ _ _ _ _ _ _ _ _ _ _ _) rfl) (if_skip (b := false) ?_ rfl (seq_nx (s_asg (ev_near (k + 5) S sc ds i hi hd hz _ _ _ _ _ _ _ _ _ _ _ _ _ _ _ _ _ _) rfl) (if_skip (b := false) ?_ rfl rfl)))))⟩
  · have hc := (h.reach hg hle k S (nms_mk nml fun j => val b j + comb (st.zip fs) (tsOf ds t i st.length) j)).trans (congrArg (fun d => R.ok d S) (reach_far h hts))
    exact e_or_f (e_not (b := true) (e_isi (e_call (l_cons (e_var rfl) (l_cons (e_var rfl) (l_cons (e_var rfl) l_nil))) hc) rfl)) (e_or_1 (e_cmp (e_call (l_cons (e_var rfl) (l_cons (e_var rfl) (l_cons (e_var rfl) l_nil))) hc) (e_bi1 (d := nums (tsOf ds t i st.length)) (e_var rfl) rfl) (ne_tup _ _)))
  · exact e_cmp (e_call (l_cons (e_var rfl) (l_cons (e_var rfl) (l_cons (e_var rfl) l_nil))) (h.reach hg hle k S (nms_mk nml _))) (e_call (l_cons (e_var rfl) (l_cons (e_var rfl) (l_cons (e_var rfl) l_nil))) (h.times hle (k + 4) S (nms_mk nml _))) (ne_told _ _)
theorem loopI (k : Nat) (S : Sto) (sc : D) (ds : List Int) (t : Nat) (ht : t < 6) (hd : ds.length = 300) {z : Str} {nml : List Str} (hz : Nm z nml) (hg : NmG nml) {b : Row} {st : List Row} {fs : List Nat} (h : Sol nml b st fs) (x11 x12 x13 x14 x15 x16 x17 x18 x19 x20 x21 : Option D) : ∀ (is : List Nat) (x6 x7 x8 x9 x10 : Option D), (∀ i ∈ is, i < 6) → ∃ y6 y7 y8 y9 y10, forR none (forF (fun ρ S => evSs (Γr (k + 5)) bodyI ρ S) (.nm 6)) (is.map fun (i : Nat) => D.int i) (envL sc (nums ds) (some (.int t)) (some (.str z)) (some (rowI b)) (some (.tup (st.map rowI))) x6 x7 x8 x9 x10 x11 x12 x13 x14 x15 x16 x17 x18 x19 x20 x21) S = .ok (.nx (envL sc (nums ds) (some (.int t)) (some (.str z)) (some (rowI b)) (some (.tup (st.map rowI))) y6 y7 y8 y9 y10 x11 x12 x13 x14 x15 x16 x17 x18 x19 x20 x21)) S
  | [], x6, x7, x8, x9, x10, _ => ⟨_, _, _, _, _, rfl⟩
  | i :: is, x6, x7, x8, x9, x10, hi => by
    obtain ⟨y7, y8, y9, y10, e⟩ := inner_ok k S sc ds t i ht (hi i List.mem_cons_self) hd hz hg h x7 x8 x9 x10 x11 x12 x13 x14 x15 x16 x17 x18 x19 x20 x21
    obtain ⟨w6, w7, w8, w9, w10, e2⟩ := loopI k S sc ds t ht hd hz hg h x11 x12 x13 x14 x15 x16 x17 x18 x19 x20 x21 is (some (.int i)) y7 y8 y9 y10 fun j hj => hi j (List.mem_cons_of_mem _ hj)
    exact ⟨w6, w7, w8, w9, w10, (for_nx ((forF_eq rfl).trans e)).trans e2⟩
end K08
end

section
set_option Elab.async false
set_option linter.all false
set_option maxRecDepth 100000
/-! K08G: rows that are none, what is refused, the turns. -/
namespace K08
open PySem MP MP.Lb
/-! ### rows that are none -/
abbrev Xgood : Ex := .lst [.con .non, .tup [], .bi .list [.var 4], .op .Add (.var 4) (.tup [.tup [.con (.str "zz"), .con (.int 1)]]), .rev (.var 4), .bi .tuple [.lc (.tup [.var 23, .con (.bl true)]) (.tp [.nm 23, .nm 24]) (.itv (.var 4)) [] [23, 24]], .con (.int 5)]
def boolR (b : Row) : List (Str × D) := b.map fun p => (p.1, .bl true)
def zzR : Row := [("zz", 1)]
def goods (b : Row) : List D := [.non, rowI [], .lst (b.map prI), rowI (b ++ zzR), rowI b.reverse, rowX (boolR b), .int 5]
theorem ev_good (k : Nat) (S : Sto) (sc dr : D) (b : Row) (hb : b.length ≤ 4) (x2 x3 x5 x6 x7 x8 x9 x10 x11 x12 x13 x14 x15 x16 x17 x18 x19 x20 x21 : Option D) : evE (Γr k) Xgood (envL sc dr x2 x3 (some (rowI b)) x5 x6 x7 x8 x9 x10 x11 x12 x13 x14 x15 x16 x17 x18 x19 x20 x21) S = .ok (.lst (goods b)) S := by
  have hrev : evE (Γr k) (.rev (.var 4)) (envL sc dr x2 x3 (some (rowI b)) x5 x6 x7 x8 x9 x10 x11 x12 x13 x14 x15 x16 x17 x18 x19 x20 x21) S = .ok (rowI b.reverse) S := by
    refine (e_rev (xs := b.map prI) (e_var rfl)).trans ?_
    unfold rowI; rw [List.map_reverse]
  have hbool : evE (Γr k) (.bi .tuple [.lc (.tup [.var 23, .con (.bl true)]) (.tp [.nm 23, .nm 24]) (.itv (.var 4)) [] [23, 24]]) (envL sc dr x2 x3 (some (rowI b)) x5 x6 x7 x8 x9 x10 x11 x12 x13 x14 x15 x16 x17 x18 x19 x20 x21) S = .ok (rowX (boolR b)) S := by
    have e : rowX (boolR b) = .tup (b.map fun p => pr (p.1, .bl true)) := by unfold rowX boolR; rw [List.map_map]; rfl
    rw [e]
    exact tup_lc (lc_map b prI (fun p => pr (p.1, .bl true)) (g := none) (i_itv (d := rowI b) (e_var rfl) rfl) (fun p hp => ⟨_, rfl, rfl⟩) (by simp [LIM]; omega))
  refine e_lst (l_cons (d := .non) rfl (l_cons (d := .tup []) (e_tup l_nil (by simp [LIM])) (l_cons (d := .lst (b.map prI)) (e_bi1 (d := rowI b) (e_var rfl) rfl) (l_cons (d := rowI (b ++ zzR)) (e_op (x := rowI b) (y := .tup [.tup [.str "zz", .int 1]]) (e_var rfl) (e_tup (l_cons (e_tup (l_cons (d := .str "zz") rfl (l_cons (d := .int 1) rfl l_nil)) (by simp [LIM])) l_nil) (by simp [LIM])) ?_) (l_cons (d := rowI b.reverse) hrev (l_cons (d := rowX (boolR b)) hbool (l_cons (d := .int 5) rfl l_nil))))))) (by simp [LIM, goods])
  · simp only [opD, rowI, List.length_map, List.length_cons, List.length_nil]
    rw [if_pos (by simp [LIM]; omega), List.map_append]
    rfl
abbrev XtestG : Ex := .and [.cmp .Gt (.bi .len [.var 3]) (.con (.int 1)), .cmp .NotEq (.lc (.call 11 [.var 4, .var 5, .var 25]) (.nm 25) (.itv (.var 11)) [] [25]) (.op .Mult (.lst [.con .non]) (.con (.int 7)))]
theorem okR_rev {b : Row} (h : srt (nms b).reverse = false) : okR (b.reverse.map fun p => (p.1, .int p.2)) = false := by
  unfold okR
  rw [List.map_map]
  have : b.reverse.map ((fun p : Str × D => p.1) ∘ fun p => (p.1, .int p.2)) = (nms b).reverse := by
    rw [nms, ← List.map_reverse]; rfl
  rw [this, h]; rfl
theorem okR_bool {b : Row} (h : 0 < b.length) : okR (boolR b) = false := by
  unfold okR boolR
  match b, h with
  | p :: b, _ => simp [isI]
theorem goods_non (k : Nat) (S : Sto) {nml : List Str} (hg : NmG nml) (hl : nml.length ≤ 4) (h1 : 1 < nml.length) {b : Row} {st : List Row} {fs : List Nat} (h : Sol nml b st fs) : ∀ d ∈ goods b, run P0 (k + 6) 11 [rowI b, .tup (st.map rowI), d] S = .ok .non S := by
  have hbl : b.length = nml.length := by rw [← nms_len b, h.nb]
  have hmem : ∀ p ∈ b, p.1 ∈ names8 := (h.gb hg hl).1
  intro d hd
  simp only [goods, List.mem_cons, List.not_mem_nil, or_false] at hd
  rcases hd with hd | hd | hd | hd | hd | hd | hd <;> subst hd
  · exact h.bad hg hl k S (r_ints_not (k + 2) S rfl)
  · exact h.unlike hg hl k S ⟨by simp, rfl, by simp⟩ (by
      intro e
      have e : [] = nml := e
      rw [← e] at h1; simp at h1)
  · exact h.bad hg hl k S (r_ints_not (k + 2) S rfl)
  · refine h.unlike hg hl k S (goodR_of (l := nml ++ [("zz" : Str)]) ?_ ?_ (hg.far h1).1 (by simp; omega)) ?_
    · unfold nms
      rw [List.map_append]
      have := h.nb
      unfold nms at this
      rw [this]; rfl
    · intro x hx
      rcases List.mem_append.mp hx with hx | hx
      · exact hg.mem x hx
      · rw [List.mem_singleton.mp hx]; simp [names8]
    · intro e
      have : (nms (b ++ zzR)).length = nml.length := by rw [e]
      rw [nms_len] at this
      simp [zzR] at this
      omega
  · refine h.bad hg hl k S ?_
    rw [rowI_eq]
    have := r_ints (k + 1) S (ps := b.reverse.map fun p => (p.1, .int p.2)) (by
      intro p hp
      obtain ⟨q, hq, rfl⟩ := List.mem_map.mp hp
      exact hmem q (List.mem_reverse.mp hq)) (by intro p hp; obtain ⟨q, hq, rfl⟩ := List.mem_map.mp hp; rfl) (by simp [LIM]; omega)
    rw [okR_rev (by rw [h.nb]; exact (hg.far h1).2)] at this
    exact this
  · refine h.bad hg hl k S ?_
    have := r_ints (k + 1) S (ps := boolR b) (by
      intro p hp
      obtain ⟨q, hq, rfl⟩ := List.mem_map.mp hp
      exact hmem q hq) (by intro p hp; obtain ⟨q, hq, rfl⟩ := List.mem_map.mp hp; rfl) (by simp [LIM, boolR]; omega)
    rw [okR_bool (by omega)] at this
    exact this
  · exact h.bad hg hl k S (r_ints_not (k + 2) S rfl)
theorem ev_testG (k : Nat) (S : Sto) (sc dr : D) {z : Str} {nml : List Str} (hz : Nm z nml) (hg : NmG nml) {b : Row} {st : List Row} {fs : List Nat} (h : Sol nml b st fs) (x2 x6 x7 x8 x9 x10 x12 x13 x14 x15 x16 x17 x18 x19 x20 x21 : Option D) : evE (Γr (k + 6)) XtestG (envL sc dr x2 (some (.str z)) (some (rowI b)) (some (.tup (st.map rowI))) x6 x7 x8 x9 x10 (some (.lst (goods b))) x12 x13 x14 x15 x16 x17 x18 x19 x20 x21) S = .ok (.bl false) S := by
  have hle := hz.le
  have hc : evE (Γr (k + 6)) (.cmp .Gt (.bi .len [.var 3]) (.con (.int 1))) (envL sc dr x2 (some (.str z)) (some (rowI b)) (some (.tup (st.map rowI))) x6 x7 x8 x9 x10 (some (.lst (goods b))) x12 x13 x14 x15 x16 x17 x18 x19 x20 x21) S = .ok (.bl (decide (1 < nml.length))) S :=
    e_cmp (x := .int nml.length) (y := .int 1) (e_bi1 (b := .len) (d := .str z) (e_var rfl) (hz.len S)) rfl (by simp only [cmpD, ordD]; congr 1; exact decide_eq_decide.mpr (by omega))
  by_cases h1 : 1 < nml.length
  · rw [decide_eq_true h1] at hc
    refine e_and_t hc (e_and_1 (e_cmp (x := .lst ((goods b).map fun _ => .non)) (y := .lst ((goods b).map fun _ => .non)) (lc_map (goods b) id (fun _ => .non) (g := none) (i_itv (d := .lst (goods b)) (e_var rfl) (by simp [itemsOf])) (fun d hd => ⟨_, rfl, e_call (l_cons (e_var rfl) (l_cons (e_var rfl) (l_cons (d := d) rfl l_nil))) (goods_non k S hg hle h1 h d hd)⟩) (by simp [goods, LIM])) ?_ ?_))
    · exact e_op (x := .lst [.non]) (y := .int 7) (e_lst (l_cons (d := .non) rfl l_nil) (by simp [LIM])) rfl rfl
    · rfl
  · rw [decide_eq_false h1] at hc
    exact e_and_f hc
/-! ### what is refused -/
abbrev LCneg : Ex := .bi .tuple [.lc (.tup [.var 23, .op .Sub (.con (.int 0)) (.var 24)]) (.tp [.nm 23, .nm 24]) (.itv (.var 13)) [] [23, 24]]
abbrev LCone : Ex := .ix (.lc (.var 22) (.nm 22) (.rg1 (.bi .len [.var 13])) [.cmp .NotEq (.ix (.ix (.var 13) (.var 22)) (.con (.int 1))) (.con (.int 0))] [22]) (.con (.int 0))
abbrev Xbent (e : Ex) : Ex := .op .Add (.op .Add (.slH (.var 4) (.var 15)) (.tup [.tup [.ix (.var 3) (.var 15), e]])) (.slL (.var 4) (.op .Add (.var 15) (.con (.int 1))))
abbrev Xswap (e : Ex) : Ex := .op .Add (.op .Add (.slH (.var 5) (.var 12)) (.tup [e])) (.slL (.var 5) (.op .Add (.var 12) (.con (.int 1))))
abbrev Xpairs : Ex := .lst [.tup [.var 16, .var 5], .tup [.var 17, .var 5], .tup [.var 4, Xswap (.var 14)], .tup [.var 4, .op .Add (.var 5) (.slB (.var 5) (.var 12) (.op .Add (.var 12) (.con (.int 1))))]]
abbrev Xmore : Ex := .lst [.tup [.var 4, Xswap (.slL (.var 13) (.con (.int 1)))], .tup [.var 4, .bi .list [.var 5]], .tup [.var 4, .tup [.con .non]], .tup [.con .non, .var 5]]
abbrev XtestP : Ex := .cmp .NotEq (.call 11 [.var 19, .var 20, .var 4]) (.tup [.con (.str "refused")])
abbrev LCzero : Ex := .bi .tuple [.lc (.tup [.var 23, .con (.int 0)]) (.tp [.nm 23, .nm 24]) (.itv (.var 13)) [] [23, 24]]
abbrev XtestZ : Ex := .or [.cmp .NotEq (.call 11 [.var 4, Xswap (.var 21), .var 4]) (.tup [.con (.str "refused")]), .and [.cmp .Gt (.var 12) (.con (.int 0)), .cmp .NotEq (.call 11 [.var 4, .rev (.var 5), .var 4]) (.tup [.con (.str "refused")])]]
abbrev RF : List Sm := [.ret (.con (.bl false))]
abbrev bodyB : List Sm := [.asg (.nm 12) (.op .Mod (.bi .int [.ix (.var 1) (.op .Add (.con (.int 280)) (.var 2))]) (.bi .len [.var 5])), .asg (.nm 13) (.ix (.var 5) (.var 12)), .asg (.nm 14) LCneg, .asg (.nm 15) LCone, .asg (.nm 16) (Xbent (.ix (.ix (.var 13) (.var 15)) (.con (.int 1)))), .asg (.nm 17) (Xbent (.neg (.con (.int 1)))), .asg (.nm 18) Xpairs, .fors (.tp [.nm 19, .nm 20]) (.itv (.op .Add (.var 18) Xmore)) [.ifs XtestP RF []], .asg (.nm 21) LCzero, .ifs XtestZ RF []]
/-- one step in place of another -/
def swapS (st : List Row) (i : Nat) (s : Row) : List Row := st.take i ++ s :: st.drop (i + 1)
theorem ev_swap (k : Nat) (S : Sto) {ρ : MP.Env} {st : List Row} {i : Nat} {e : Ex} {s : Row} (h5 : ρ.get 5 = some (.tup (st.map rowI))) (h12 : ρ.get 12 = some (.int i)) (he : evE (Γr k) e ρ S = .ok (rowI s) S) (hl : st.length ≤ 4) : evE (Γr k) (Xswap e) ρ S = .ok (.tup ((swapS st i s).map rowI)) S := by
  refine e_op (x := .tup ((st.take i ++ [s]).map rowI)) (y := .tup ((st.drop (i + 1)).map rowI)) (e_op (x := .tup ((st.take i).map rowI)) (y := .tup [rowI s]) (e_slH (x := .tup (st.map rowI)) (j := i) (e_var h5) (e_var h12) ?_) (e_tup (l_cons he l_nil) (by simp [LIM])) ?_) (e_slL (x := .tup (st.map rowI)) (i := ((i + 1 : Nat) : Int)) (e_var h5) (e_op (x := .int i) (y := .int 1) (e_var h12) rfl (by simp [opD])) ?_) ?_
  · simp only [slD, cut_hi, List.map_take]
  · simp only [opD, List.length_map]
    rw [if_pos (by simp [LIM]; omega), List.map_append]; rfl
  · simp only [slD, cut_lo, List.map_drop]
  · simp only [opD, List.length_map]
    rw [if_pos (by simp [LIM]; omega)]
    simp [swapS]
theorem ev_bent (k : Nat) (S : Sto) {ρ : MP.Env} {z : Str} {nml : List Str} (hz : Nm z nml) {b : Row} {f : Nat} {e : Ex} {v : Int} (h3 : ρ.get 3 = some (.str z)) (h4 : ρ.get 4 = some (rowI b)) (h15 : ρ.get 15 = some (.int f)) (hf : f < nml.length) (hb : b.length ≤ 4) (he : evE (Γr k) e ρ S = .ok (.int v) S) : evE (Γr k) (Xbent e) ρ S = .ok (rowI (putR nml b f v)) S := by
  refine e_op (x := .tup ((b.take f ++ [(nml.getD f "", v)]).map prI)) (y := .tup ((b.drop (f + 1)).map prI)) (e_op (x := .tup ((b.take f).map prI)) (y := .tup [prI (nml.getD f "", v)]) (e_slH (x := rowI b) (j := f) (e_var h4) (e_var h15) ?_) (e_tup (l_cons (e_tup (l_cons (e_ix (x := .str z) (y := .int f) (e_var h3) (e_var h15) (hz.at_ f hf S)) (l_cons he l_nil)) (by simp [LIM])) l_nil) (by simp [LIM])) ?_) (e_slL (x := rowI b) (i := ((f + 1 : Nat) : Int)) (e_var h4) (e_op (x := .int f) (y := .int 1) (e_var h15) rfl (by simp [opD])) ?_) ?_
  · simp only [slD, rowI, cut_hi, List.map_take]
  · simp only [opD, List.length_map]
    rw [if_pos (by simp [LIM]; omega), List.map_append]; rfl
  · simp only [slD, rowI, cut_lo, List.map_drop]
  · simp only [opD, List.length_map]
    rw [if_pos (by simp [LIM]; omega)]
    simp [putR, rowI]
end K08
end

section
set_option Elab.async false
set_option linter.all false
set_option maxRecDepth 100000
/-! K08H: what is refused, the turns, the law. -/
namespace K08
open PySem MP MP.Lb
section
variable {nml : List Str} {b : Row} {st : List Row} {fs : List Nat}
theorem t_swap (h : Sol nml b st fs) (g : NmG nml) (hl : nml.length ≤ 4) (k : Nat) (S : Sto) {s : Row} (r : D) (i : Nat) (hi : i < st.length) (hs : goodR s) (hn : ∀ nm done fs, nm = nml → stp nm b done fs s = none) : run P0 (k + 6) 11 [rowI b, .tup ((swapS st i s).map rowI), r] S = .ok (.tup [.str "refused"]) S := by
  have hsl := h.sl
  refine r_refused (k + 4) S (r_reach_exc (k + 3) S (r_check_no k S b (swapS st i s) (h.gb g hl) ?_ ?_ (no_step fun done fs => hn _ done fs h.nb)))
  · intro x hx
    rcases List.mem_append.mp hx with hx | hx
    · exact h.gs g hl x (List.mem_of_mem_take hx)
    · rcases List.mem_cons.mp hx with hx | hx
      · rw [hx]; exact hs
      · exact h.gs g hl x (List.mem_of_mem_drop hx)
  · unfold swapS; simp; omega
end
theorem nms_map (s : Row) (g : (Str × Int) → Int) : nms (s.map fun p => (p.1, g p)) = nms s := by
  unfold nms; rw [List.map_map]; rfl
theorem nms_tail (s : Row) : nms s.tail = (nms s).tail := by
  unfold nms; rw [List.map_tail]
/-- the pairs that are refused -/
def pairsR (nml : List Str) (b : Row) (st : List Row) (i f : Nat) (own : Row) : List (D × D) := [(rowI (putR nml b f (val own f)), .tup (st.map rowI)), (rowI (putR nml b f (-1)), .tup (st.map rowI)), (rowI b, .tup ((swapS st i (own.map fun p => (p.1, 0 - p.2))).map rowI)), (rowI b, .tup ((st ++ [own]).map rowI)), (rowI b, .tup ((swapS st i own.tail).map rowI)), (rowI b, .lst (st.map rowI)), (rowI b, .tup [.non]), (.non, .tup (st.map rowI))]
theorem pairs_no {nml : List Str} {b : Row} {st : List Row} {fs : List Nat} (h : Sol nml b st fs) (g : NmG nml) (hl : nml.length ≤ 4) (k : Nat) (S : Sto) {i f : Nat} {r : List Nat} (hi : i < st.length) (hz : nz st[i] = f :: r) (hf : f < nml.length) (hv : 0 < val st[i] f) : ∀ p ∈ pairsR nml b st i f st[i], run P0 (k + 6) 11 [p.1, p.2, rowI b] S = .ok (.tup [.str "refused"]) S := by
  have hbl : b.length = nml.length := by rw [← nms_len b, h.nb]
  have hsl := h.sl
  have hgb := h.gb g hl
  have hgs := h.gs g hl
  have hown := h.ns st[i] (List.getElem_mem hi)
  have hb5 : run P0 (k + 3) 5 [rowI b] S = .ok (.bl true) S := r_ints_good k S hgb
  intro p hp
  simp only [pairsR, List.mem_cons, List.not_mem_nil, or_false] at hp
  rcases hp with hp | hp | hp | hp | hp | hp | hp | hp <;> subst hp
  · exact t_no k S _ (goodR_of (nms_put h.nb _ (by omega)) g.mem g.s (by omega)) hgs (by omega) fun nm => no_base hi hz (Or.inr (by rw [val_put _ _ _ (by omega)]; omega))
  · exact t_no k S _ (goodR_of (nms_put h.nb _ (by omega)) g.mem g.s (by omega)) hgs (by omega) fun nm => no_base hi hz (Or.inl (by rw [val_put _ _ _ (by omega)]; omega))
  · exact t_swap h g hl k S _ i hi (goodR_of (nms_map st[i] (fun p => 0 - p.2)) (by rw [hown]; exact g.mem) (by rw [hown]; exact g.s) (by rw [hown]; omega)) fun nm done fs _ => stp_minus hz hv done fs
  · exact t_no k S _ hgb (by
      intro x hx
      rcases List.mem_append.mp hx with hx | hx
      · exact hgs x hx
      · rw [List.mem_singleton.mp hx]; exact hgs _ (List.getElem_mem hi)) (by simp; omega) fun nm => no_twice hi hz
  · exact t_swap h g hl k S _ i hi (goodR_of (nms_tail st[i]) (by rw [hown]; exact fun x hx => g.mem x (List.mem_of_mem_tail hx)) (by rw [hown]; exact g.st) (by rw [hown]; simp; omega)) fun nm done fs e => stp_tail (by rw [hown, e]) (by rw [e]; omega) done fs
  · exact r_refused (k + 4) S (r_reach_exc (k + 3) S (r_check_list (k + 2) S hb5))
  · exact r_refused (k + 4) S (r_reach_exc (k + 3) S (r_check_none (k + 1) S hb5))
  · exact r_refused (k + 4) S (r_reach_exc (k + 3) S (r_check_base (k + 2) S (r_ints_not (k + 1) S rfl)))
theorem ev_negs (k : Nat) (S : Sto) {ρ : MP.Env} {s : Row} (hs : s.length ≤ 100) (h : (wipe ρ [23, 24]).length = 27) (h13 : ρ.get 13 = some (rowI s)) (hb : ∀ p : Str × Int, ∃ ρ', bindT (.tp [.nm 23, .nm 24]) (prI p) (wipe ρ [23, 24]) = some ρ' ∧ ρ'.get 23 = some (.str p.1) ∧ ρ'.get 24 = some (.int p.2)) : evE (Γr k) LCneg ρ S = .ok (rowI (s.map fun p => (p.1, 0 - p.2))) S := by
  unfold rowI
  rw [List.map_map]
  refine tup_lc (lc_map s prI _ (g := none) (i_itv (d := rowI s) (e_var h13) rfl) (fun p hp => ?_) (by simp [LIM]; omega))
  obtain ⟨ρ', e, e1, e2⟩ := hb p
  exact ⟨ρ', e, e_tup (l_cons (e_var e1) (l_cons (e_op (x := .int 0) (y := .int p.2) rfl (e_var e2) rfl) l_nil)) (by simp [LIM])⟩
theorem ev_zero (k : Nat) (S : Sto) {ρ : MP.Env} {s : Row} (hs : s.length ≤ 100) (h13 : ρ.get 13 = some (rowI s)) (hb : ∀ p : Str × Int, ∃ ρ', bindT (.tp [.nm 23, .nm 24]) (prI p) (wipe ρ [23, 24]) = some ρ' ∧ ρ'.get 23 = some (.str p.1)) : evE (Γr k) LCzero ρ S = .ok (rowI (s.map fun p => (p.1, (0 : Int)))) S := by
  unfold rowI
  rw [List.map_map]
  refine tup_lc (lc_map s prI _ (g := none) (i_itv (d := rowI s) (e_var h13) rfl) (fun p hp => ?_) (by simp [LIM]; omega))
  obtain ⟨ρ', e, e1⟩ := hb p
  exact ⟨ρ', e, e_tup (l_cons (e_var e1) (l_cons (d := .int 0) rfl l_nil)) (by simp [LIM])⟩
theorem ev_one (k : Nat) (S : Sto) (sc dr : D) (s : Row) (hl : s.length ≤ 100) {f : Nat} {r : List Nat} (hz : nz s = f :: r) (x2 x3 x4 x5 x6 x7 x8 x9 x10 x11 x12 x14 x15 x16 x17 x18 x19 x20 x21 : Option D) : evE (Γr k) LCone (envL sc dr x2 x3 x4 x5 x6 x7 x8 x9 x10 x11 x12 (some (rowI s)) x14 x15 x16 x17 x18 x19 x20 x21) S = .ok (.int f) S := by
  have hit : evI (Γr k) (.rg1 (.bi .len [.var 13])) (envL sc dr x2 x3 x4 x5 x6 x7 x8 x9 x10 x11 x12 (some (rowI s)) x14 x15 x16 x17 x18 x19 x20 x21) S = .ok ((List.range s.length).map fun (i : Nat) => D.int i, none) S := by
    refine (i_rg1 (j := s.length) (e_bi1 (d := rowI s) (e_var rfl) (by simp [bi1, lenD, rowI])) (by simp [SMALL]; omega)).trans ?_
    rw [rangeD_map]; simp
  have := lc_fil (Γ := Γr k) (ρ := envL sc dr x2 x3 x4 x5 x6 x7 x8 x9 x10 x11 x12 (some (rowI s)) x14 x15 x16 x17 x18 x19 x20 x21) (S := S) (List.range s.length) (fun (i : Nat) => D.int i) (fun (i : Nat) => D.int i) (fun j => !(val s j == 0)) (elt := .var 22) (tg := .nm 22) (it := .rg1 (.bi .len [.var 13])) (cnd := [.cmp .NotEq (.ix (.ix (.var 13) (.var 22)) (.con (.int 1))) (.con (.int 0))]) (own := [22]) (g := none) hit (fun j hj => ⟨_, rfl, by
      obtain ⟨p, hp, ha, hv⟩ := row_at (List.mem_range.mp hj)
      have e := e_cmp (Γ := Γr k) (o := .NotEq) (ρ := [some sc, some dr, x2, x3, x4, x5, x6, x7, x8, x9, x10, x11, x12, some (rowI s), x14, x15, x16, x17, x18, x19, x20, x21, some (.int j), none, none, none, none]) (S := S) (c := !(val s j == 0)) (e_ix (x := prI p) (y := .int 1) (r := .int (val s j)) (e_ix (a := .var 13) (b := .var 22) (x := rowI s) (y := .int j) rfl rfl ha) (b := .con (.int 1)) rfl (by rw [hv]; rfl)) (b := .con (.int 0)) rfl rfl
      simp only [evAll]
      refine (congrArg (R.bind · _) e).trans ?_
      cases val s j == 0 <;> rfl, fun _ => rfl⟩) (by simp [LIM]; omega)
  rw [nz_range, hz] at this
  exact e_ix (x := .lst ((f :: r).map fun (i : Nat) => D.int i)) (y := .int 0) this rfl (L2.atI_nat (j := 0) rfl)
theorem loopP2 (k : Nat) (S : Sto) (sc dr : D) (b : Row) (x2 x3 x5 x6 x7 x8 x9 x10 x11 x12 x13 x14 x15 x16 x17 x18 x21 : Option D) : ∀ (ps : List (D × D)) (x19 x20 : Option D), (∀ p ∈ ps, run P0 (k + 6) 11 [p.1, p.2, rowI b] S = .ok (.tup [.str "refused"]) S) → ∃ y19 y20, forR none (forF (fun ρ S => evSs (Γr (k + 6)) [.ifs XtestP RF []] ρ S) (.tp [.nm 19, .nm 20])) (ps.map fun p => .tup [p.1, p.2]) (envL sc dr x2 x3 (some (rowI b)) x5 x6 x7 x8 x9 x10 x11 x12 x13 x14 x15 x16 x17 x18 x19 x20 x21) S = .ok (.nx (envL sc dr x2 x3 (some (rowI b)) x5 x6 x7 x8 x9 x10 x11 x12 x13 x14 x15 x16 x17 x18 y19 y20 x21)) S
  | [], x19, x20, _ => ⟨_, _, rfl⟩
  | p :: ps, x19, x20, hp => by
    obtain ⟨y19, y20, e⟩ := loopP2 k S sc dr b x2 x3 x5 x6 x7 x8 x9 x10 x11 x12 x13 x14 x15 x16 x17 x18 x21 ps (some p.1) (some p.2) fun q hq => hp q (List.mem_cons_of_mem _ hq)
    refine ⟨y19, y20, (for_nx ((forF_eq rfl).trans (if_skip (b := false) (e_cmp (e_call (l_cons (e_var rfl) (l_cons (e_var rfl) (l_cons (e_var rfl) l_nil))) (hp p List.mem_cons_self)) (e_tup (l_cons (d := .str "refused") rfl l_nil) (by simp [LIM])) rfl) rfl rfl))).trans e⟩
end K08
end

section
set_option Elab.async false
set_option linter.all false
set_option maxRecDepth 100000
/-! K08W: what is refused, in a turn. -/
namespace K08
open PySem MP MP.Lb
theorem ne_ref (S : Sto) : cmpD .NotEq (.tup [.str "refused"]) (.tup [.str "refused"]) S = some false := rfl
section
variable {sc : D} {ds : List Int} {t : Nat} {z : Str} {nml : List Str} {b : Row} {st : List Row} {x6 x7 x8 x9 x10 x11 : Option D}
/-- the frame of a turn -/
abbrev envB (sc : D) (ds : List Int) (t : Nat) (z : Str) (b : Row) (st : List Row) (x6 x7 x8 x9 x10 x11 x12 x13 x14 x15 x16 x17 x18 x19 x20 x21 : Option D) : MP.Env := envL sc (nums ds) (some (.int t)) (some (.str z)) (some (rowI b)) (some (.tup (st.map rowI))) x6 x7 x8 x9 x10 x11 x12 x13 x14 x15 x16 x17 x18 x19 x20 x21
theorem blk_pre (k : Nat) (S : Sto) (ht : t < 6) (hd : ds.length = 300) (hz : Nm z nml) (hbl : b.length = nml.length) (hsl : st.length ≤ 4) {i f : Nat} {r : List Nat} (hi : (dd ds (280 + t)).fmod (st.length : Int) = i) (hil : i < st.length) {own : Row} (hown : L2.atI (st.map rowI) (i : Int) = some (rowI own)) (hol : own.length = nml.length) (hzf : nz own = f :: r) (hf : f < nml.length) (x12 x13 x14 x15 x16 x17 x18 x19 x20 x21 : Option D) (mi hi2 lo : Row) (hmi : mi = own.map fun p => (p.1, 0 - p.2)) (hhi : hi2 = putR nml b f (val own f)) (hlo : lo = putR nml b f (-1)) {res : RS} (hr : evSs (Γr k) (bodyB.drop 6) (envB sc ds t z b st x6 x7 x8 x9 x10 x11 (some (.int i)) (some (rowI own)) (some (rowI mi)) (some (.int f)) (some (rowI hi2)) (some (rowI lo)) x18 x19 x20 x21) S = res) : evSs (Γr k) bodyB (envB sc ds t z b st x6 x7 x8 x9 x10 x11 x12 x13 x14 x15 x16 x17 x18 x19 x20 x21) S = res := by
  have hle := hz.le
  obtain ⟨p, hp, ha, hpv⟩ := row_at (s := own) (f := f) (by omega)
  have g1 : evE (Γr k) (.op .Mod (.bi .int [.ix (.var 1) (.op .Add (.con (.int 280)) (.var 2))]) (.bi .len [.var 5])) (envB sc ds t z b st x6 x7 x8 x9 x10 x11 x12 x13 x14 x15 x16 x17 x18 x19 x20 x21) S = .ok (.int i) S := by
    refine e_op (x := .int (dd ds (280 + t))) (y := .int st.length) (e_bi1 (d := .int (dd ds (280 + t))) (e_ix (x := nums ds) (y := .int (280 + t)) (e_var rfl) (e_op (x := .int 280) (y := .int t) rfl rfl rfl) (dd_at S (i := 280 + t) (j := 280 + t) (by omega) (by omega))) rfl) (e_bi1 (d := .tup (st.map rowI)) (e_var rfl) (by simp [bi1, lenD])) ?_
    simp only [opD]
    rw [if_pos (by omega), hi]
  refine seq_nx (s_asg g1 rfl) ?_
  refine seq_nx (s_asg (d := rowI own) (e_ix (x := .tup (st.map rowI)) (y := .int i) rfl rfl hown) rfl) ?_
  refine seq_nx (s_asg (d := rowI mi) (by rw [hmi]; exact ev_negs k S (by omega) rfl rfl fun p => ⟨_, rfl, rfl, rfl⟩) rfl) ?_
  refine seq_nx (s_asg (d := .int f) (ev_one k S sc _ own (by omega) hzf _ _ _ _ _ _ _ _ _ _ _ _ _ _ _ _ _ _ _) rfl) ?_
  refine seq_nx (s_asg (d := rowI hi2) (by rw [hhi]; exact ev_bent k S hz rfl rfl rfl hf (by omega) (e_ix (x := prI p) (y := .int 1) (e_ix (x := rowI own) (y := .int f) rfl rfl ha) rfl (by rw [hpv]; rfl))) rfl) ?_
  refine seq_nx (s_asg (d := rowI lo) (by rw [hlo]; exact ev_bent k S hz rfl rfl rfl hf (by omega) rfl) rfl) ?_
  exact hr
def prs1 (b : Row) (st : List Row) (i : Nat) (own mi hi2 lo : Row) : List (D × D) := [(rowI hi2, .tup (st.map rowI)), (rowI lo, .tup (st.map rowI)), (rowI b, .tup ((swapS st i mi).map rowI)), (rowI b, .tup ((st ++ [own]).map rowI))]
def prs2 (b : Row) (st : List Row) (i : Nat) (own : Row) : List (D × D) := [(rowI b, .tup ((swapS st i own.tail).map rowI)), (rowI b, .lst (st.map rowI)), (rowI b, .tup [.non]), (.non, .tup (st.map rowI))]
abbrev prD (p : D × D) : D := .tup [p.1, p.2]
theorem ev_pairs (k : Nat) (S : Sto) (hsl : st.length ≤ 4) {i : Nat} {own : Row} (hil : i < st.length) (hown : st[i]? = some own) (mi hi2 lo : Row) (x15 x18 x19 x20 x21 : Option D) : evE (Γr k) Xpairs (envB sc ds t z b st x6 x7 x8 x9 x10 x11 (some (.int i)) (some (rowI own)) (some (rowI mi)) x15 (some (rowI hi2)) (some (rowI lo)) x18 x19 x20 x21) S = .ok (.lst ((prs1 b st i own mi hi2 lo).map prD)) S := by
  have h4 : evE (Γr k) (.op .Add (.var 5) (.slB (.var 5) (.var 12) (.op .Add (.var 12) (.con (.int 1))))) (envB sc ds t z b st x6 x7 x8 x9 x10 x11 (some (.int i)) (some (rowI own)) (some (rowI mi)) x15 (some (rowI hi2)) (some (rowI lo)) x18 x19 x20 x21) S = .ok (.tup ((st ++ [own]).map rowI)) S := by
    refine e_op (x := .tup (st.map rowI)) (y := .tup [rowI own]) (e_var rfl) (e_slB (x := .tup (st.map rowI)) (i := i) (j := ((i + 1 : Nat) : Int)) (e_var rfl) (e_var rfl) (e_op (x := .int i) (y := .int 1) (e_var rfl) rfl (by simp [opD])) ?_) ?_
    · simp only [slD]
      rw [cut_both _ _ _ (by simp; omega)]
      have e1 : i + 1 - i = 1 := by omega
      have e2 : st[i] = own := by
        rw [List.getElem?_eq_getElem hil] at hown
        exact Option.some.inj hown
      rw [e1, ← List.map_drop, List.drop_eq_getElem_cons hil, e2]
      rfl
    · simp only [opD, List.length_map]
      rw [if_pos (by simp [LIM]; omega), List.map_append]; rfl
  have h3 := ev_swap (e := .var 14) (s := mi) (ρ := envB sc ds t z b st x6 x7 x8 x9 x10 x11 (some (.int i)) (some (rowI own)) (some (rowI mi)) x15 (some (rowI hi2)) (some (rowI lo)) x18 x19 x20 x21) (st := st) (i := i) k S rfl rfl (e_var rfl) hsl
  exact e_lst (l_cons (e_tup (l_cons (d := rowI hi2) (e_var rfl) (l_cons (d := .tup (st.map rowI)) (e_var rfl) l_nil)) (by simp [LIM])) (l_cons (e_tup (l_cons (d := rowI lo) (e_var rfl) (l_cons (d := .tup (st.map rowI)) (e_var rfl) l_nil)) (by simp [LIM])) (l_cons (e_tup (l_cons (d := rowI b) (e_var rfl) (l_cons h3 l_nil)) (by simp [LIM])) (l_cons (e_tup (l_cons (d := rowI b) (e_var rfl) (l_cons h4 l_nil)) (by simp [LIM])) l_nil)))) (by simp [LIM, prs1])
theorem ev_items (k : Nat) (S : Sto) (hsl : st.length ≤ 4) {i : Nat} {own : Row} (ps : List (D × D)) (hps : ps.length ≤ 100) (x14 x15 x16 x17 x19 x20 x21 : Option D) : evI (Γr k) (.itv (.op .Add (.var 18) Xmore)) (envB sc ds t z b st x6 x7 x8 x9 x10 x11 (some (.int i)) (some (rowI own)) x14 x15 x16 x17 (some (.lst (ps.map prD))) x19 x20 x21) S = .ok ((ps ++ prs2 b st i own).map prD, none) S := by
  have hsl1 : evE (Γr k) (.slL (.var 13) (.con (.int 1))) (envB sc ds t z b st x6 x7 x8 x9 x10 x11 (some (.int i)) (some (rowI own)) x14 x15 x16 x17 (some (.lst (ps.map prD))) x19 x20 x21) S = .ok (rowI own.tail) S :=
    e_slL (x := rowI own) (i := 1) (e_var rfl) rfl (by
      have := cut_lo (own.map prI) 1
      simp only [slD, rowI]
      rw [show ((1 : Nat) : Int) = 1 from rfl] at this
      rw [this, ← List.map_drop, List.drop_one])
  have h1 := ev_swap (e := .slL (.var 13) (.con (.int 1))) (s := own.tail) (ρ := envB sc ds t z b st x6 x7 x8 x9 x10 x11 (some (.int i)) (some (rowI own)) x14 x15 x16 x17 (some (.lst (ps.map prD))) x19 x20 x21) (st := st) (i := i) k S rfl rfl hsl1 hsl
  have hm : evE (Γr k) Xmore (envB sc ds t z b st x6 x7 x8 x9 x10 x11 (some (.int i)) (some (rowI own)) x14 x15 x16 x17 (some (.lst (ps.map prD))) x19 x20 x21) S = .ok (.lst ((prs2 b st i own).map prD)) S :=
    e_lst (l_cons (e_tup (l_cons (d := rowI b) (e_var rfl) (l_cons h1 l_nil)) (by simp [LIM])) (l_cons (e_tup (l_cons (d := rowI b) (e_var rfl) (l_cons (d := .lst (st.map rowI)) (e_bi1 (d := .tup (st.map rowI)) (e_var rfl) rfl) l_nil)) (by simp [LIM])) (l_cons (e_tup (l_cons (d := rowI b) (e_var rfl) (l_cons (d := .tup [.non]) (e_tup (l_cons (d := .non) rfl l_nil) (by simp [LIM])) l_nil)) (by simp [LIM])) (l_cons (e_tup (l_cons (d := .non) rfl (l_cons (d := .tup (st.map rowI)) (e_var rfl) l_nil)) (by simp [LIM])) l_nil)))) (by simp [LIM, prs2])
  refine i_itv (d := .lst ((ps ++ prs2 b st i own).map prD)) (e_op (x := .lst (ps.map prD)) (y := .lst ((prs2 b st i own).map prD)) (e_var rfl) hm ?_) rfl
  simp only [opD, List.length_map]
  rw [if_pos (by simp [prs2, LIM]; omega), List.map_append]
/-- the last two tests -/
theorem blk_post (k : Nat) (S : Sto) (hg : NmG nml) (hl : nml.length ≤ 4) {fs : List Nat} (h : Sol nml b st fs) {i : Nat} {own : Row} (hil : i < st.length) (hown : nms own = nml) (ps : List (D × D)) (hps : ps.length ≤ 100) (hno : ∀ p ∈ ps ++ prs2 b st i own, run P0 (k + 6) 11 [p.1, p.2, rowI b] S = .ok (.tup [.str "refused"]) S) (x14 x15 x16 x17 x19 x20 x21 : Option D) : ∃ y19 y20 y21, evSs (Γr (k + 6)) (bodyB.drop 7) (envB sc ds t z b st x6 x7 x8 x9 x10 x11 (some (.int i)) (some (rowI own)) x14 x15 x16 x17 (some (.lst (ps.map prD))) x19 x20 x21) S = .ok (.nx (envB sc ds t z b st x6 x7 x8 x9 x10 x11 (some (.int i)) (some (rowI own)) x14 x15 x16 x17 (some (.lst (ps.map prD))) y19 y20 y21)) S := by
  have hsl := h.sl
  have hol : own.length = nml.length := by rw [← nms_len, hown]
  obtain ⟨y19, y20, hlp⟩ := loopP2 k S sc (nums ds) b (some (.int t)) (some (.str z)) (some (.tup (st.map rowI))) x6 x7 x8 x9 x10 x11 (some (.int i)) (some (rowI own)) x14 x15 x16 x17 (some (.lst (ps.map prD))) x21 (ps ++ prs2 b st i own) x19 x20 hno
  have hit := ev_items (sc := sc) (ds := ds) (t := t) (z := z) (b := b) (x6 := x6) (x7 := x7) (x8 := x8) (x9 := x9) (x10 := x10) (x11 := x11) (k + 6) S hsl (i := i) (own := own) ps hps x14 x15 x16 x17 x19 x20 x21
  have hzero : ∀ w19 w20 w21, evE (Γr (k + 6)) LCzero (envB sc ds t z b st x6 x7 x8 x9 x10 x11 (some (.int i)) (some (rowI own)) x14 x15 x16 x17 (some (.lst (ps.map prD))) w19 w20 w21) S = .ok (rowI (own.map fun p => (p.1, (0 : Int)))) S := fun w19 w20 w21 => ev_zero (k + 6) S (by omega) rfl fun p => ⟨_, rfl, rfl⟩
  have hz0 : nms (own.map fun p => (p.1, (0 : Int))) = nml := by rw [nms_map own fun _ => 0, hown]
  generalize hze : (own.map fun p => (p.1, (0 : Int))) = ze at hzero hz0
  have hsw := ev_swap (e := .var 21) (s := ze) (ρ := envB sc ds t z b st x6 x7 x8 x9 x10 x11 (some (.int i)) (some (rowI own)) x14 x15 x16 x17 (some (.lst (ps.map prD))) y19 y20 (some (rowI ze))) (st := st) (i := i) (k + 6) S rfl rfl (e_var rfl) hsl
  have ht1 := t_swap h hg hl k S (s := ze) (rowI b) i hil (goodR_of hz0 hg.mem hg.s (by omega)) fun nm done fs _ => by rw [← hze]; exact stp_zero done fs
  have hrf : evE (Γr (k + 6)) (.tup [.con (.str "refused")]) (envB sc ds t z b st x6 x7 x8 x9 x10 x11 (some (.int i)) (some (rowI own)) x14 x15 x16 x17 (some (.lst (ps.map prD))) y19 y20 (some (rowI ze))) S = .ok (.tup [.str "refused"]) S := e_tup (l_cons (d := .str "refused") rfl l_nil) (by simp [LIM])
  have hc : evE (Γr (k + 6)) (.cmp .Gt (.var 12) (.con (.int 0))) (envB sc ds t z b st x6 x7 x8 x9 x10 x11 (some (.int i)) (some (rowI own)) x14 x15 x16 x17 (some (.lst (ps.map prD))) y19 y20 (some (rowI ze))) S = .ok (.bl (decide (0 < i))) S :=
    e_cmp (x := .int i) (y := .int 0) (e_var rfl) rfl (by simp [cmpD, ordD])
  have hlast : evE (Γr (k + 6)) XtestZ (envB sc ds t z b st x6 x7 x8 x9 x10 x11 (some (.int i)) (some (rowI own)) x14 x15 x16 x17 (some (.lst (ps.map prD))) y19 y20 (some (rowI ze))) S = .ok (.bl false) S := by
    refine e_or_f (e_cmp (e_call (l_cons (e_var rfl) (l_cons hsw (l_cons (e_var rfl) l_nil))) ht1) hrf (ne_ref S)) (e_or_1 ?_)
    by_cases hi2 : 0 < i
    · rw [decide_eq_true hi2] at hc
      have hrv : evE (Γr (k + 6)) (.rev (.var 5)) (envB sc ds t z b st x6 x7 x8 x9 x10 x11 (some (.int i)) (some (rowI own)) x14 x15 x16 x17 (some (.lst (ps.map prD))) y19 y20 (some (rowI ze))) S = .ok (.tup (st.reverse.map rowI)) S := by
        refine (e_rev (xs := st.map rowI) (e_var rfl)).trans ?_
        rw [List.map_reverse]
      exact e_and_t hc (e_and_1 (e_cmp (e_call (l_cons (e_var rfl) (l_cons hrv (l_cons (e_var rfl) l_nil))) (t_no k S _ (h.gb hg hl) (fun x hx => h.gs hg hl x (List.mem_reverse.mp hx)) (by simp; omega) fun nm => h.back (by omega) nm)) hrf (ne_ref S)))
    · rw [decide_eq_false hi2] at hc
      exact e_and_f hc
  refine ⟨y19, y20, some (rowI ze), ?_⟩
  refine seq_nx ((s_for hit).trans hlp) ?_
  refine seq_nx (s_asg (hzero y19 y20 x21) rfl) ?_
  exact if_skip hlast rfl rfl
theorem block_ok (k : Nat) (S : Sto) (ht : t < 6) (hd : ds.length = 300) (hz : Nm z nml) (hg : NmG nml) {fs : List Nat} (h : Sol nml b st fs) (h0 : 0 < st.length) (x12 x13 x14 x15 x16 x17 x18 x19 x20 x21 : Option D) : ∃ y12 y13 y14 y15 y16 y17 y18 y19 y20 y21, evSs (Γr (k + 6)) bodyB (envB sc ds t z b st x6 x7 x8 x9 x10 x11 x12 x13 x14 x15 x16 x17 x18 x19 x20 x21) S = .ok (.nx (envB sc ds t z b st x6 x7 x8 x9 x10 x11 y12 y13 y14 y15 y16 y17 y18 y19 y20 y21)) S := by
  have hle := hz.le
  have hsl := h.sl
  have hbl : b.length = nml.length := by rw [← nms_len b, h.nb]
  have hi0 := Int.fmod_nonneg_of_pos (dd ds (280 + t)) (b := (st.length : Int)) (by omega)
  have hi1 := Int.fmod_lt_of_pos (dd ds (280 + t)) (b := (st.length : Int)) (by omega)
  obtain ⟨i, hi⟩ : ∃ i : Nat, (dd ds (280 + t)).fmod (st.length : Int) = i := ⟨((dd ds (280 + t)).fmod (st.length : Int)).toNat, by omega⟩
  have hil : i < st.length := by omega
  obtain ⟨f, r, hzf, hf, hv⟩ := h.own hil
  have hgetD : st.getD i [] = st[i] := by rw [List.getD_eq_getElem?_getD, List.getElem?_eq_getElem hil]; rfl
  have hat : L2.atI (st.map rowI) (i : Int) = some (rowI st[i]) := by rw [atI_rows hil, hgetD]
  have hown := h.ns st[i] (List.getElem_mem hil)
  have hq := List.getElem?_eq_getElem hil
  have hno := pairs_no h hg hle k S hil hzf hf hv
  have hpr : pairsR nml b st i f st[i] = prs1 b st i st[i] (st[i].map fun p => (p.1, 0 - p.2)) (putR nml b f (val st[i] f)) (putR nml b f (-1)) ++ prs2 b st i st[i] := rfl
  rw [hpr] at hno
  generalize hmi : (st[i].map fun p => (p.1, 0 - p.2)) = mi at hno
  generalize hhi : putR nml b f (val st[i] f) = hi2 at hno
  generalize hlo : putR nml b f (-1) = lo at hno
  generalize st[i] = own at hzf hv hat hown hq hno hmi hhi
  obtain ⟨y19, y20, y21, hp⟩ := blk_post (sc := sc) (ds := ds) (t := t) (z := z) (x6 := x6) (x7 := x7) (x8 := x8) (x9 := x9) (x10 := x10) (x11 := x11) k S hg hle h hil hown (prs1 b st i own mi hi2 lo) (by simp [prs1]) hno (some (rowI mi)) (some (.int f)) (some (rowI hi2)) (some (rowI lo)) x19 x20 x21
  refine ⟨some (.int i), some (rowI own), some (rowI mi), some (.int f), some (rowI hi2), some (rowI lo), some (.lst ((prs1 b st i own mi hi2 lo).map prD)), y19, y20, y21, ?_⟩
  exact blk_pre (k + 6) S ht hd hz hbl hsl hi hil hat (by rw [← nms_len, hown]) hzf hf x12 x13 x14 x15 x16 x17 x18 x19 x20 x21 mi hi2 lo hmi.symm hhi.symm hlo.symm (seq_nx (s_asg (ev_pairs (k + 6) S hsl hil hq mi hi2 lo _ _ _ _ _) rfl) hp)
end
end K08
end

section
set_option Elab.async false
set_option linter.all false
set_option maxRecDepth 100000
/-! K08A: the law holds at every script. -/
namespace K08
open PySem MP MP.Lb
abbrev Xnames : Ex := .ix (.lst [.con (.str "abc"), .con (.str "x"), .con (.str "xy"), .con (.str "abcd"), .con (.str "bn"), .con (.str "")]) (.var 2)
abbrev Xsol : Ex := .call 9 [.op .Add (.slL (.var 1) (.op .Mult (.con (.int 31)) (.var 2))) (.var 1), .var 3]
abbrev XtestB : Ex := .and [.cmp .Gt (.bi .len [.var 5]) (.con (.int 0)), .cmp .Gt (.bi .len [.var 3]) (.con (.int 1))]
abbrev bodyTurn : List Sm := [.asg (.nm 3) Xnames, .asg (.tp [.nm 4, .nm 5]) Xsol, .fors (.nm 6) (.rg1 (.con (.int 6))) bodyI, .asg (.nm 11) Xgood, .ifs XtestG RF [], .ifs XtestB bodyB []]
theorem it6 {Γ : MP.Ctx} {ρ : MP.Env} {S : Sto} : evI Γ (.rg1 (.con (.int 6))) ρ S = .ok ((List.range 6).map fun (i : Nat) => D.int i, none) S := by
  refine (i_rg1 (j := 6) rfl (by decide)).trans ?_
  rw [rangeD_map]; simp
theorem turn_ok (k : Nat) (S : Sto) (sc : D) (ds : List Int) (t : Nat) (ht : t < 6) (hd : ds.length = 300) {z : Str} {nml : List Str} (hz : Nm z nml) (hg : NmG nml) (hn : ∀ (Γ : MP.Ctx) (ρ : MP.Env) (S : Sto), ρ.get 2 = some (.int t) → evE Γ Xnames ρ S = .ok (.str z) S) (x3 x4 x5 x6 x7 x8 x9 x10 x11 x12 x13 x14 x15 x16 x17 x18 x19 x20 x21 : Option D) : ∃ y3 y4 y5 y6 y7 y8 y9 y10 y11 y12 y13 y14 y15 y16 y17 y18 y19 y20 y21, evSs (Γr (k + 6)) bodyTurn (envL sc (nums ds) (some (.int t)) x3 x4 x5 x6 x7 x8 x9 x10 x11 x12 x13 x14 x15 x16 x17 x18 x19 x20 x21) S = .ok (.nx (envL sc (nums ds) (some (.int t)) y3 y4 y5 y6 y7 y8 y9 y10 y11 y12 y13 y14 y15 y16 y17 y18 y19 y20 y21)) S := by
  have hle := hz.le
  obtain ⟨b, st, fs, h, hr⟩ := r_sol (k + 5) S (ds.drop (31 * t) ++ ds) hz (by simp; omega)
  have hsl := h.sl
  have hbl : b.length = nml.length := by rw [← nms_len b, h.nb]
  have hdr : evE (Γr (k + 6)) (.op .Add (.slL (.var 1) (.op .Mult (.con (.int 31)) (.var 2))) (.var 1)) (envL sc (nums ds) (some (.int t)) (some (.str z)) x4 x5 x6 x7 x8 x9 x10 x11 x12 x13 x14 x15 x16 x17 x18 x19 x20 x21) S = .ok (nums (ds.drop (31 * t) ++ ds)) S := by
    refine e_op (x := nums (ds.drop (31 * t))) (y := nums ds) (e_slL (x := nums ds) (i := ((31 * t : Nat) : Int)) (e_var rfl) (e_op (x := .int 31) (y := .int t) rfl rfl ?_) ?_) (e_var rfl) ?_
    · simp only [opD]
      rw [if_pos (Or.inl (by decide))]
      congr 2
    · simp only [slD, nums, cut_lo, List.map_drop]
    · simp only [opD, nums, List.length_map]
      rw [if_pos (by simp [LIM]; omega), List.map_append]
  obtain ⟨y6, y7, y8, y9, y10, e1⟩ := loopI (k + 1) S sc ds t ht hd hz hg h x11 x12 x13 x14 x15 x16 x17 x18 x19 x20 x21 (List.range 6) x6 x7 x8 x9 x10 fun i hi => List.mem_range.mp hi
  have hpre : ∀ res : RS, evSs (Γr (k + 6)) [.ifs XtestB bodyB []] (envB sc ds t z b st y6 y7 y8 y9 y10 (some (.lst (goods b))) x12 x13 x14 x15 x16 x17 x18 x19 x20 x21) S = res → evSs (Γr (k + 6)) bodyTurn (envL sc (nums ds) (some (.int t)) x3 x4 x5 x6 x7 x8 x9 x10 x11 x12 x13 x14 x15 x16 x17 x18 x19 x20 x21) S = res := by
    intro res hres
    refine seq_nx (s_asg (hn _ _ _ rfl) rfl) ?_
    refine seq_nx (s_asg (e_call (l_cons hdr (l_cons (d := .str z) (e_var rfl) l_nil)) hr) rfl) ?_
    refine seq_nx ((s_for it6).trans e1) ?_
    refine seq_nx (s_asg (ev_good (k + 6) S sc _ b (by omega) _ _ _ _ _ _ _ _ _ _ _ _ _ _ _ _ _ _ _) rfl) ?_
    exact if_skip (ev_testG k S sc _ hz hg h _ _ _ _ _ _ _ _ _ _ _ _ _ _ _ _) rfl hres
  have hc : evE (Γr (k + 6)) XtestB (envB sc ds t z b st y6 y7 y8 y9 y10 (some (.lst (goods b))) x12 x13 x14 x15 x16 x17 x18 x19 x20 x21) S = .ok (.bl (decide (0 < st.length) && decide (1 < nml.length))) S :=
    e_and2 (e_cmp (x := .int st.length) (y := .int 0) (e_bi1 (d := .tup (st.map rowI)) (e_var rfl) (by simp [bi1, lenD])) rfl (by simp [cmpD, ordD])) fun _ => e_cmp (x := .int nml.length) (y := .int 1) (e_bi1 (b := .len) (d := .str z) (e_var rfl) (hz.len S)) rfl (by simp only [cmpD, ordD]; congr 1; exact decide_eq_decide.mpr (by omega))
  by_cases h0 : (decide (0 < st.length) && decide (1 < nml.length)) = true
  · rw [h0] at hc
    have h1 : 0 < st.length := by
      simp only [Bool.and_eq_true, decide_eq_true_eq] at h0; exact h0.1
    obtain ⟨y12, y13, y14, y15, y16, y17, y18, y19, y20, y21, e2⟩ := block_ok (sc := sc) (x6 := y6) (x7 := y7) (x8 := y8) (x9 := y9) (x10 := y10) (x11 := some (.lst (goods b))) k S ht hd hz hg h h1 x12 x13 x14 x15 x16 x17 x18 x19 x20 x21
    exact ⟨_, _, _, _, _, _, _, _, _, _, _, _, _, _, _, _, _, _, _, hpre _ (seq_nx ((s_if_t hc).trans e2) rfl)⟩
  · rw [Bool.eq_false_iff.mpr h0] at hc
    exact ⟨_, _, _, _, _, _, _, _, _, _, _, _, _, _, _, _, _, _, _, hpre _ (seq_nx ((s_if_f hc).trans rfl) rfl)⟩
/-! ### the six names -/
theorem nm0 : Nm "abc" ["a", "b", "c"] := ⟨fun j hj S => by
  match j, hj with
  | 0, _ => rfl
  | 1, _ => rfl
  | 2, _ => rfl, fun S => rfl, by decide⟩
theorem nm1 : Nm "x" ["x"] := ⟨fun j hj S => by
  match j, hj with
  | 0, _ => rfl, fun S => rfl, by decide⟩
theorem nm2 : Nm "xy" ["x", "y"] := ⟨fun j hj S => by
  match j, hj with
  | 0, _ => rfl
  | 1, _ => rfl, fun S => rfl, by decide⟩
theorem nm3 : Nm "abcd" ["a", "b", "c", "d"] := ⟨fun j hj S => by
  match j, hj with
  | 0, _ => rfl
  | 1, _ => rfl
  | 2, _ => rfl
  | 3, _ => rfl, fun S => rfl, by decide⟩
theorem nm4 : Nm "bn" ["b", "n"] := ⟨fun j hj S => by
  match j, hj with
  | 0, _ => rfl
  | 1, _ => rfl, fun S => rfl, by decide⟩
theorem nm5 : Nm "" [] := ⟨fun j hj S => by simp at hj, fun S => rfl, by decide⟩
theorem ng0 : NmG ["a", "b", "c"] := ⟨by decide, by decide, by decide, fun _ => by decide⟩
theorem ng1 : NmG ["x"] := ⟨by decide, by decide, by decide, fun h => by simp at h⟩
theorem ng2 : NmG ["x", "y"] := ⟨by decide, by decide, by decide, fun _ => by decide⟩
theorem ng3 : NmG ["a", "b", "c", "d"] := ⟨by decide, by decide, by decide, fun _ => by decide⟩
theorem ng4 : NmG ["b", "n"] := ⟨by decide, by decide, by decide, fun _ => by decide⟩
theorem ng5 : NmG [] := ⟨by simp, by decide, by decide, fun h => by simp at h⟩
theorem xname {Γ : MP.Ctx} {ρ : MP.Env} {S : Sto} {t : Nat} {d : D} (h : ρ.get 2 = some (.int t)) (hd : ([D.str "abc", .str "x", .str "xy", .str "abcd", .str "bn", .str ""])[t]? = some d) : evE Γ Xnames ρ S = .ok d S := by
  refine e_ix (x := .lst [.str "abc", .str "x", .str "xy", .str "abcd", .str "bn", .str ""]) (y := .int t) rfl (e_var h) ?_
  simp only [ixD]
  exact L2.atI_nat hd
theorem turn_all (k : Nat) (S : Sto) (sc : D) (ds : List Int) (t : Nat) (ht : t < 6) (hd : ds.length = 300) (x3 x4 x5 x6 x7 x8 x9 x10 x11 x12 x13 x14 x15 x16 x17 x18 x19 x20 x21 : Option D) : ∃ y3 y4 y5 y6 y7 y8 y9 y10 y11 y12 y13 y14 y15 y16 y17 y18 y19 y20 y21, evSs (Γr (k + 6)) bodyTurn (envL sc (nums ds) (some (.int t)) x3 x4 x5 x6 x7 x8 x9 x10 x11 x12 x13 x14 x15 x16 x17 x18 x19 x20 x21) S = .ok (.nx (envL sc (nums ds) (some (.int t)) y3 y4 y5 y6 y7 y8 y9 y10 y11 y12 y13 y14 y15 y16 y17 y18 y19 y20 y21)) S := by
  match t, ht with
  | 0, h => exact turn_ok k S sc ds 0 h hd nm0 ng0 (fun _ _ _ e => xname e rfl) _ _ _ _ _ _ _ _ _ _ _ _ _ _ _ _ _ _ _
  | 1, h => exact turn_ok k S sc ds 1 h hd nm1 ng1 (fun _ _ _ e => xname e rfl) _ _ _ _ _ _ _ _ _ _ _ _ _ _ _ _ _ _ _
  | 2, h => exact turn_ok k S sc ds 2 h hd nm2 ng2 (fun _ _ _ e => xname e rfl) _ _ _ _ _ _ _ _ _ _ _ _ _ _ _ _ _ _ _
  | 3, h => exact turn_ok k S sc ds 3 h hd nm3 ng3 (fun _ _ _ e => xname e rfl) _ _ _ _ _ _ _ _ _ _ _ _ _ _ _ _ _ _ _
  | 4, h => exact turn_ok k S sc ds 4 h hd nm4 ng4 (fun _ _ _ e => xname e rfl) _ _ _ _ _ _ _ _ _ _ _ _ _ _ _ _ _ _ _
  | 5, h => exact turn_ok k S sc ds 5 h hd nm5 ng5 (fun _ _ _ e => xname e rfl) _ _ _ _ _ _ _ _ _ _ _ _ _ _ _ _ _ _ _
theorem loopTurn (k : Nat) (S : Sto) (sc : D) (ds : List Int) (hd : ds.length = 300) : ∀ (is : List Nat) (x2 x3 x4 x5 x6 x7 x8 x9 x10 x11 x12 x13 x14 x15 x16 x17 x18 x19 x20 x21 : Option D), (∀ i ∈ is, i < 6) → ∃ y2 y3 y4 y5 y6 y7 y8 y9 y10 y11 y12 y13 y14 y15 y16 y17 y18 y19 y20 y21, forR none (forF (fun ρ S => evSs (Γr (k + 6)) bodyTurn ρ S) (.nm 2)) (is.map fun (i : Nat) => D.int i) (envL sc (nums ds) x2 x3 x4 x5 x6 x7 x8 x9 x10 x11 x12 x13 x14 x15 x16 x17 x18 x19 x20 x21) S = .ok (.nx (envL sc (nums ds) y2 y3 y4 y5 y6 y7 y8 y9 y10 y11 y12 y13 y14 y15 y16 y17 y18 y19 y20 y21)) S
  | [], x2, x3, x4, x5, x6, x7, x8, x9, x10, x11, x12, x13, x14, x15, x16, x17, x18, x19, x20, x21, _ => ⟨_, _, _, _, _, _, _, _, _, _, _, _, _, _, _, _, _, _, _, _, rfl⟩
  | i :: is, x2, x3, x4, x5, x6, x7, x8, x9, x10, x11, x12, x13, x14, x15, x16, x17, x18, x19, x20, x21, hi => by
    obtain ⟨y3, y4, y5, y6, y7, y8, y9, y10, y11, y12, y13, y14, y15, y16, y17, y18, y19, y20, y21, e⟩ := turn_all k S sc ds i (hi i List.mem_cons_self) hd x3 x4 x5 x6 x7 x8 x9 x10 x11 x12 x13 x14 x15 x16 x17 x18 x19 x20 x21
    obtain ⟨w2, w3, w4, w5, w6, w7, w8, w9, w10, w11, w12, w13, w14, w15, w16, w17, w18, w19, w20, w21, e2⟩ := loopTurn k S sc ds hd is (some (.int i)) y3 y4 y5 y6 y7 y8 y9 y10 y11 y12 y13 y14 y15 y16 y17 y18 y19 y20 y21 fun j hj => hi j (List.mem_cons_of_mem _ hj)
    exact ⟨w2, w3, w4, w5, w6, w7, w8, w9, w10, w11, w12, w13, w14, w15, w16, w17, w18, w19, w20, w21, (for_nx ((forF_eq rfl).trans e)).trans e2⟩
/-! ### the last word -/
abbrev Xlast : Ex := .and [.cmp .Eq (.call 7 [.tup [], .tup [], .tup []]) (.tup []), .cmp .Eq (.call 7 [.tup [.tup [.con (.str "x"), .con (.int 2)]], .tup [.tup [.tup [.con (.str "x"), .con (.int 3)]]], .tup [.tup [.con (.str "x"), .neg (.con (.int 4))]]]) (.tup [.neg (.con (.int 2))]), .cmp .Is (.call 7 [.tup [.tup [.con (.str "x"), .con (.int 2)]], .tup [.tup [.tup [.con (.str "x"), .con (.int 3)]]], .tup [.tup [.con (.str "x"), .con (.int 4)]]]) (.con .non)]
def xR (v : Int) : Row := [("x", v)]
theorem goodX (v : Int) : goodR (xR v) := ⟨by
  intro p hp
  rw [List.mem_singleton.mp hp]
  show ("x" : Str) ∈ names8
  decide, by show srt [("x" : Str)] = true; decide, by simp [xR]⟩
theorem last0 (k : Nat) (S : Sto) : run P0 (k + 5) 7 [.tup [], .tup [], .tup []] S = .ok (.tup []) S :=
  r_reach k S [] [] [] [] ⟨by simp, rfl, by simp⟩ ⟨by simp, rfl, by simp⟩ (by simp) (by simp) rfl rfl rfl (by simp)
theorem lastX (k : Nat) (S : Sto) (v : Int) : run P0 (k + 5) 7 [rowI (xR 2), .tup ([xR 3].map rowI), rowI (xR v)] S = .ok (reach (xR 2) ([xR 3].zip [0]) (xR v)) S :=
  r_reach k S (xR 2) (xR v) [xR 3] [0] (goodX 2) (goodX v) (fun r hr => by rw [List.mem_singleton.mp hr]; exact goodX 3) (by simp) rfl (by rfl) rfl (by
    intro q hq
    have : q = (xR 3, 0) := List.mem_singleton.mp hq
    subst this
    exact ⟨rfl, by decide, by decide, by decide, by decide⟩)
theorem ev_last (k : Nat) (S : Sto) (ρ : MP.Env) : evE (Γr (k + 5)) Xlast ρ S = .ok (.bl true) S := by
  refine e_and_t (e_cmp (x := .tup []) (y := .tup []) (e_call (l_cons (d := .tup []) (e_tup l_nil (by simp [LIM])) (l_cons (d := .tup []) (e_tup l_nil (by simp [LIM])) (l_cons (d := .tup []) (e_tup l_nil (by simp [LIM])) l_nil))) (last0 k S)) (e_tup l_nil (by simp [LIM])) rfl) (e_and_t (e_cmp (x := .tup [.int (-2)]) (y := .tup [.int (-2)]) (e_call (ds := [rowI (xR 2), .tup ([xR 3].map rowI), rowI (xR (-4))]) rfl (lastX k S (-4))) rfl rfl) (e_and_1 (e_cmp (x := .non) (y := .non) (e_call (ds := [rowI (xR 2), .tup ([xR 3].map rowI), rowI (xR 4)]) rfl (lastX k S 4)) rfl rfl)))
theorem law_true (ns : List Int) : run P0 12 12 [.rol ns] [] = .ok (.bl true) [] := by
  obtain ⟨ds, _, hd, hr⟩ := r_draws 10 [] ns
  obtain ⟨y2, y3, y4, y5, y6, y7, y8, y9, y10, y11, y12, y13, y14, y15, y16, y17, y18, y19, y20, y21, e⟩ := loopTurn 5 [] (.rol ns) ds hd (List.range 6) none none none none none none none none none none none none none none none none none none none none fun i hi => List.mem_range.mp hi
  exact call_dry0 f_law rfl rfl (seq_nx (s_asg (e_call (l_cons (d := .rol ns) (e_var rfl) (l_cons (d := .int 300) rfl l_nil)) hr) rfl) (seq_nx ((s_for it6).trans e) (seq_ret (s_ret (ev_last 6 [] _))))) rfl
theorem always (ns : List Int) (hn : ns.length ≤ 63) : ∃ S, run P0 12 12 [.rol ns] [] = .ok (.bl true) S := ⟨[], law_true ns⟩
end K08
end

section
set_option Elab.async false
set_option linter.all false
set_option maxRecDepth 100000
/-! MpB: what data and store are in the model's heap; growing heaps; ends of an evaluation. -/
namespace MP
open PySem PySem.Spec PyProof.Rows L2
def KyOk (k : Ky) : Prop := ∀ x, k = .inr x → PyData.strOk x = true
/-- a list of the written part -/
def KLst (K : PySem.W.Frag) (a : Addr) (xs : List V) : Prop :=
  ∃ (o : Obj) (its : Array Value) (n : Nat), K.lookup a = some o ∧ o.cls = .type "list" ∧ o.dict = none ∧ o.data = .seq its n ∧ its.size ≤ sizeLine ∧ Vals xs its.toList
section
variable (K : PySem.W.Frag) (H : Hp) (ι κ : List Addr)
mutual
def Rep : D → V → Prop
  | .non, v => v = .non
  | .bl b, v => v = .bl b
  | .int i, v => v = .int i
  | .str x, v => v = .str x ∧ PyData.strOk x = true
  | .tup ds, v => ∃ a vs, v = .ref a ∧ SqT K H a vs ∧ RepL ds vs
  | .lst ds, v => ∃ a vs, v = .ref a ∧ H a = some (.lst vs) ∧ ¬ a ∈ ι ∧ ¬ a ∈ κ ∧ RepL ds vs
  | .rol ns, v => ∃ a, v = .ref a ∧ ((Rd H a (.lst (ns.map V.int)) ∧ ¬ a ∈ ι ∧ ¬ a ∈ κ) ∨ KLst K a (ns.map V.int)) ∧ ns.length ≤ LIM
  | .dic kvs, v => ∃ a o vs, v = .ref a ∧ H a = some (.frz o (.dK vs)) ∧ RepK kvs vs
  | .dit kvs, v => ∃ a o vs, v = .ref a ∧ H a = some (.frz o (.dT vs)) ∧ RepT kvs vs
  | .ref n, v => ∃ a, v = .ref a ∧ ι[n]? = some a
def RepL : List D → List V → Prop
  | [], vs => vs = []
  | d :: ds, vs => ∃ v r, vs = v :: r ∧ Rep d v ∧ RepL ds r
def RepK : List (Ky × D) → List (Ky × V) → Prop
  | [], vs => vs = []
  | (k, d) :: ds, vs => ∃ v r, vs = (k, v) :: r ∧ Rep d v ∧ RepK ds r ∧ KyOk k
def RepT : List (List Ky × D) → List (List Ky × V) → Prop
  | [], vs => vs = []
  | (k, d) :: ds, vs => ∃ v r, vs = (k, v) :: r ∧ Rep d v ∧ RepT ds r
end
end
/-- fields -/
def RepF (K : PySem.W.Frag) (H : Hp) (ι κ : List Addr) : List (Str × D) → List (Str × V) → Prop
  | [], vs => vs = []
  | (k, d) :: ds, vs => ∃ v r, vs = (k, v) :: r ∧ Rep K H ι κ d v ∧ RepF K H ι κ ds r
/-- the program's data that a law gives -/
structure Tab where
  P : Prog
  gl : List (Str × Nat)                 -- global names of functions
  consts : List (Str × D)               -- constants of the module
  flds : List Str                       -- fields of instances
def Tab.cad (T : Tab) (K : PySem.W.Frag) (C : Nat) : Option Addr := T.P.cls[C]?.bind fun c => if c.exc.isNone then some (He.ga K c.name) else none
def ObR (T : Tab) (K : PySem.W.Frag) (H : Hp) (ι κ : List Addr) (a : Addr) : O → Prop
  | .lst ds => ∃ vs, H a = some (.lst vs) ∧ RepL K H ι κ ds vs
  | .dic kvs => ∃ vs, H a = some (.dK vs) ∧ RepK K H ι κ kvs vs
  | .dit kvs => ∃ vs, H a = some (.dT vs) ∧ RepT K H ι κ kvs vs
  | .ins C fs => ∃ c dx gs, T.cad K C = some c ∧ H a = some (.ins c dx gs) ∧ RepF K H ι κ fs gs
structure Wd (T : Tab) (K : PySem.W.Frag) (H : Hp) (ι κ : List Addr) (S : Sto) : Prop where
  len : ι.length = S.length
  nd : ι.Nodup
  dj : ∀ a ∈ κ, a ∉ ι
  kt : ∀ a ∈ κ, ∃ o, H a = some o
  ob : ∀ (n : Nat) (a : Addr) (o : O), ι[n]? = some a → S[n]? = some o → ObR T K H ι κ a o
structure Ext (H : Hp) (ι : List Addr) (H' : Hp) (ι' : List Addr) : Prop where
  keep : ∀ a o, a ∉ ι → H a = some o → H' a = some o
  new : ∀ a ∈ ι', a ∈ ι ∨ H a = none
  pre : ι <+: ι'
theorem Ext.refl {H : Hp} {ι : List Addr} : Ext H ι H ι := ⟨fun _ _ _ h => h, fun _ h => .inl h, List.prefix_refl _⟩
theorem Ext.trans {H H1 H2 : Hp} {ι ι1 ι2 : List Addr} (a : Ext H ι H1 ι1) (b : Ext H1 ι1 H2 ι2) : Ext H ι H2 ι2 where
  keep := fun x o h e => b.keep x o (fun z => (a.new x z).elim h fun q => by rw [q] at e; cases e) (a.keep x o h e)
  new := fun x h => by
    by_cases z : x ∈ ι
    · exact .inl z
    · refine .inr ?_
      cases q : H x with
      | none => rfl
      | some o =>
        have q1 := a.keep x o z q
        rcases b.new x h with w | w
        · rcases a.new x w with w | w
          · exact absurd w z
          · rw [w] at q; cases q
        · rw [q1] at w; cases w
  pre := List.IsPrefix.trans a.pre b.pre
theorem Wd.at_ {T : Tab} {K : PySem.W.Frag} {H : Hp} {ι κ : List Addr} {S : Sto} (w : Wd T K H ι κ S) {a : Addr} (h : a ∈ ι) : ∃ (n : Nat) (o : O), ι[n]? = some a ∧ S[n]? = some o ∧ ObR T K H ι κ a o := by
  obtain ⟨n, hn, e⟩ := List.mem_iff_getElem.mp h
  have hs : n < S.length := by rw [← w.len]; exact hn
  exact ⟨n, S[n], by rw [List.getElem?_eq_getElem hn, e], List.getElem?_eq_getElem hs, w.ob n a _ (by rw [List.getElem?_eq_getElem hn, e]) (List.getElem?_eq_getElem hs)⟩
theorem ObR.mut {T : Tab} {K : PySem.W.Frag} {H : Hp} {ι κ : List Addr} {a : Addr} {o : O} (h : ObR T K H ι κ a o) : Mut (H a) := by
  cases o with
  | lst ds => obtain ⟨vs, e, _⟩ := h; rw [e]; exact True.intro
  | dic ds => obtain ⟨vs, e, _⟩ := h; rw [e]; exact True.intro
  | dit ds => obtain ⟨vs, e, _⟩ := h; rw [e]; exact True.intro
  | ins C fs => obtain ⟨c, dx, gs, _, e, _⟩ := h; rw [e]; exact True.intro
theorem Wd.mut {T : Tab} {K : PySem.W.Frag} {H : Hp} {ι κ : List Addr} {S : Sto} (w : Wd T K H ι κ S) : ∀ a ∈ ι, Mut (H a) := fun a h => by
  obtain ⟨_, _, _, _, q⟩ := w.at_ h
  exact q.mut
/-! ### growing -/
section
variable {K : PySem.W.Frag} {H H' : Hp} {ι ι' κ κ' : List Addr}
theorem Ext.rdT (e : Ext H ι H' ι') (m : ∀ a ∈ ι, Mut (H a)) {a : Addr} {vs : List V} (h : SqT K H a vs) : SqT K H' a vs := by
  rcases h with h | h
  · have na : a ∉ ι := fun z => by
      have q := m a z
      rcases h with h | ⟨o, h⟩ <;> rw [h] at q <;> exact q
    rcases h with h | ⟨o, h⟩
    · exact .inl (.inl (e.keep _ _ na h))
    · exact .inl (.inr ⟨o, e.keep _ _ na h⟩)
  · exact .inr h
theorem Ext.out (e : Ext H ι H' ι') {a : Addr} {o : HO} (h : a ∉ ι) (q : H a = some o) : a ∉ ι' := fun z => (e.new a z).elim h fun w => by rw [w] at q; cases q
theorem Ext.frz (e : Ext H ι H' ι') (m : ∀ a ∈ ι, Mut (H a)) {a : Addr} {o : Obj} {u : HO} (h : H a = some (.frz o u)) : H' a = some (.frz o u) :=
  e.keep a _ (fun z => by have q := m a z; rw [h] at q; exact q) h
theorem Rd.keep (e : Ext H ι H' ι') {a : Addr} {o : HO} (h : a ∉ ι) (q : Rd H a o) : Rd H' a o ∧ a ∉ ι' := by
  rcases q with q | ⟨u, q⟩
  · exact ⟨.inl (e.keep _ _ h q), e.out h q⟩
  · exact ⟨.inr ⟨u, e.keep _ _ h q⟩, e.out h q⟩
theorem getE (e : Ext H ι H' ι') {n : Nat} {a : Addr} (h : ι[n]? = some a) : ι'[n]? = some a := by
  obtain ⟨t, rfl⟩ := e.pre
  have hn := (List.getElem?_eq_some_iff.mp h).1
  rw [List.getElem?_append_left hn]; exact h
theorem kout {a : Addr} {o : HO} (hκ : ∀ a ∈ κ', a ∈ κ ∨ H a = none) (n : ¬ a ∈ κ) (s : Rd H a o) : ¬ a ∈ κ' := fun z =>
  (hκ a z).elim n fun w => by
    rcases s with s | ⟨_, s⟩
    · rw [w] at s; cases s
    · rw [w] at s; cases s
mutual
theorem Rep.mono (e : Ext H ι H' ι') (m : ∀ a ∈ ι, Mut (H a)) (hκ : ∀ a ∈ κ', a ∈ κ ∨ H a = none) : ∀ {d : D} {v : V}, Rep K H ι κ d v → Rep K H' ι' κ' d v
  | .non, _, h | .bl _, _, h | .int _, _, h | .str _, _, h => by simpa only [Rep] using h
  | .tup ds, v, h => by
    simp only [Rep] at h ⊢
    obtain ⟨a, vs, r, s, q⟩ := h
    exact ⟨a, vs, r, e.rdT m s, RepL.mono e m hκ q⟩
  | .lst ds, v, h => by
    simp only [Rep] at h ⊢
    obtain ⟨a, vs, r, s, n, n', q⟩ := h
    exact ⟨a, vs, r, e.keep _ _ n s, e.out n s, kout hκ n' (.inl s), RepL.mono e m hκ q⟩
  | .rol ns, v, h => by
    simp only [Rep] at h ⊢
    obtain ⟨a, r, s, q⟩ := h
    rcases s with ⟨s, n, n'⟩ | s
    · obtain ⟨s', n2⟩ := Rd.keep e n s
      exact ⟨a, r, .inl ⟨s', n2, kout hκ n' s⟩, q⟩
    · exact ⟨a, r, .inr s, q⟩
  | .dic kvs, v, h => by
    simp only [Rep] at h ⊢
    obtain ⟨a, o, vs, r, s, q⟩ := h
    exact ⟨a, o, vs, r, e.frz m s, RepK.mono e m hκ q⟩
  | .dit kvs, v, h => by
    simp only [Rep] at h ⊢
    obtain ⟨a, o, vs, r, s, q⟩ := h
    exact ⟨a, o, vs, r, e.frz m s, RepT.mono e m hκ q⟩
  | .ref n, v, h => by
    simp only [Rep] at h ⊢
    obtain ⟨a, r, s⟩ := h
    exact ⟨a, r, getE e s⟩
theorem RepL.mono (e : Ext H ι H' ι') (m : ∀ a ∈ ι, Mut (H a)) (hκ : ∀ a ∈ κ', a ∈ κ ∨ H a = none) : ∀ {d : List D} {v : List V}, RepL K H ι κ d v → RepL K H' ι' κ' d v
  | [], _, h => by simpa only [RepL] using h
  | d :: ds, _, h => by
    simp only [RepL] at h ⊢
    obtain ⟨v, r, rfl, q, q'⟩ := h
    exact ⟨v, r, rfl, Rep.mono e m hκ q, RepL.mono e m hκ q'⟩
theorem RepK.mono (e : Ext H ι H' ι') (m : ∀ a ∈ ι, Mut (H a)) (hκ : ∀ a ∈ κ', a ∈ κ ∨ H a = none) : ∀ {d : List (Ky × D)} {v : List (Ky × V)}, RepK K H ι κ d v → RepK K H' ι' κ' d v
  | [], _, h => by simpa only [RepK] using h
  | (k, d) :: ds, _, h => by
    simp only [RepK] at h ⊢
    obtain ⟨v, r, rfl, q, q', ok⟩ := h
    exact ⟨v, r, rfl, Rep.mono e m hκ q, RepK.mono e m hκ q', ok⟩
theorem RepT.mono (e : Ext H ι H' ι') (m : ∀ a ∈ ι, Mut (H a)) (hκ : ∀ a ∈ κ', a ∈ κ ∨ H a = none) : ∀ {d : List (List Ky × D)} {v : List (List Ky × V)}, RepT K H ι κ d v → RepT K H' ι' κ' d v
  | [], _, h => by simpa only [RepT] using h
  | (k, d) :: ds, _, h => by
    simp only [RepT] at h ⊢
    obtain ⟨v, r, rfl, q, q'⟩ := h
    exact ⟨v, r, rfl, Rep.mono e m hκ q, RepT.mono e m hκ q'⟩
end
end
end MP
end

section
set_option Elab.async false
set_option linter.all false
set_option maxRecDepth 100000
/-! MpC: what an evaluation's end asks; new objects; the moves between values and store. -/
namespace MP
open PySem PySem.Spec PyProof.Rows L2
section
variable {T : Tab} {K : PySem.W.Frag} {H H' : Hp} {ι ι' κ κ' : List Addr} {S : Sto}
theorem RepF.mono (e : Ext H ι H' ι') (m : ∀ a ∈ ι, Mut (H a)) (hκ : ∀ a ∈ κ', a ∈ κ ∨ H a = none) : ∀ {d : List (Str × D)} {v : List (Str × V)}, RepF K H ι κ d v → RepF K H' ι' κ' d v
  | [], _, h => h
  | (k, d) :: ds, _, ⟨v, r, e1, q, q'⟩ => ⟨v, r, e1, Rep.mono e m hκ q, RepF.mono e m hκ q'⟩
theorem ObR.mono (e : Ext H ι H' ι') (m : ∀ a ∈ ι, Mut (H a)) (hκ : ∀ a ∈ κ', a ∈ κ ∨ H a = none) {a : Addr} {o : O} (ha : H' a = H a) (h : ObR T K H ι κ a o) : ObR T K H' ι' κ' a o := by
  cases o with
  | lst ds => obtain ⟨vs, q, r⟩ := h; exact ⟨vs, ha.trans q, RepL.mono e m hκ r⟩
  | dic ds => obtain ⟨vs, q, r⟩ := h; exact ⟨vs, ha.trans q, RepK.mono e m hκ r⟩
  | dit ds => obtain ⟨vs, q, r⟩ := h; exact ⟨vs, ha.trans q, RepT.mono e m hκ r⟩
  | ins C fs => obtain ⟨c, dx, gs, q, r, t⟩ := h; exact ⟨c, dx, gs, q, ha.trans r, RepF.mono e m hκ t⟩
/-- a new object -/
theorem Ext.fresh {p : Addr} {o : HO} (w : Wd T K H ι κ S) (h : H p = none) : Ext H ι (upd H p o) ι :=
  ⟨fun a u _ q => by rw [upd_ne (ne_of_none q h)]; exact q, fun _ z => .inl z, List.prefix_refl _⟩
theorem Wd.notin {p : Addr} (w : Wd T K H ι κ S) (h : H p = none) : ¬ p ∈ ι := fun z => by
  have := w.mut p z
  rw [h] at this; exact this
theorem Wd.notink {p : Addr} (w : Wd T K H ι κ S) (h : H p = none) : ¬ p ∈ κ := fun z => by
  obtain ⟨o, q⟩ := w.kt p z
  rw [h] at q; cases q
theorem Wd.fresh {p : Addr} {o : HO} (w : Wd T K H ι κ S) (h : H p = none) : Wd T K (upd H p o) ι κ S where
  len := w.len
  nd := w.nd
  dj := w.dj
  kt := fun a z => by
    obtain ⟨u, q⟩ := w.kt a z
    exact ⟨u, by rw [upd_ne (ne_of_none q h)]; exact q⟩
  ob := fun n a u e1 e2 => (w.ob n a u e1 e2).mono (Ext.fresh w h) w.mut (fun _ z => .inl z) (by
    rw [upd_ne (show a ≠ p from fun z => w.notin h (z ▸ List.mem_of_getElem? e1))])
/-- a new hidden object -/
theorem Wd.hide {p : Addr} {o : HO} (w : Wd T K H ι κ S) (h : H p = none) : Wd T K (upd H p o) ι (p :: κ) S where
  len := w.len
  nd := w.nd
  dj := fun a z => by
    rcases List.mem_cons.mp z with z | z
    · rw [z]; exact w.notin h
    · exact w.dj a z
  kt := fun a z => by
    rcases List.mem_cons.mp z with z | z
    · rw [z]; exact ⟨o, upd_same⟩
    · obtain ⟨u, q⟩ := w.kt a z
      exact ⟨u, by rw [upd_ne (ne_of_none q h)]; exact q⟩
  ob := fun n a u e1 e2 => (w.ob n a u e1 e2).mono (Ext.fresh w h) w.mut (fun b z => (List.mem_cons.mp z).elim (fun q => .inr (by rw [q]; exact h)) .inl) (by
    rw [upd_ne (show a ≠ p from fun z => w.notin h (z ▸ List.mem_of_getElem? e1))])
theorem Wd.unhide {p : Addr} (w : Wd T K H ι (p :: κ) S) : Wd T K H ι κ S where
  len := w.len
  nd := w.nd
  dj := fun a z => w.dj a (List.mem_cons_of_mem _ z)
  kt := fun a z => w.kt a (List.mem_cons_of_mem _ z)
  ob := fun n a u e1 e2 => (w.ob n a u e1 e2).mono Ext.refl w.mut (fun b z => .inl (List.mem_cons_of_mem _ z)) rfl
theorem Ext.none (e : Ext H ι H' ι') (m : ∀ a ∈ ι', Mut (H' a)) {p : Addr} (h : H' p = none) : H p = none := by
  cases q : H p with
  | none => rfl
  | some o =>
    by_cases z : p ∈ ι
    · have z' : p ∈ ι' := e.pre.subset z
      have := m p z'
      rw [h] at this; exact this.elim
    · have := e.keep p o z q
      rw [h] at this; cases this
end
/-! a hidden object is changed -/
section
variable {T : Tab} {K : PySem.W.Frag} {H : Hp} {ι κ : List Addr} {p : Addr} {o u : HO}
theorem noTup (hu : H p = some u) (mu : Mut (some u)) {a : Addr} {vs : List V} (h : SqT K H a vs) : SqT K (upd H p o) a vs := by
  rcases h with (h | ⟨od, h⟩) | h
  · exact .inl (.inl (by rw [upd_ne (fun z => by rw [z, hu] at h; cases h; exact mu)]; exact h))
  · exact .inl (.inr ⟨od, by rw [upd_ne (fun z => by rw [z, hu] at h; cases h; exact mu)]; exact h⟩)
  · exact .inr h
mutual
theorem Rep.over (hp : p ∈ κ) (hu : H p = some u) (mu : Mut (some u)) : ∀ {d : D} {v : V}, Rep K H ι κ d v → Rep K (upd H p o) ι κ d v
  | .non, _, h | .bl _, _, h | .int _, _, h | .str _, _, h => by simpa only [Rep] using h
  | .tup ds, v, h => by
    simp only [Rep] at h ⊢
    obtain ⟨a, vs, r, s, q⟩ := h
    exact ⟨a, vs, r, noTup hu mu s, RepL.over hp hu mu q⟩
  | .lst ds, v, h => by
    simp only [Rep] at h ⊢
    obtain ⟨a, vs, r, s, n, n', q⟩ := h
    exact ⟨a, vs, r, by rw [upd_ne (fun z => n' (by rw [z]; exact hp))]; exact s, n, n', RepL.over hp hu mu q⟩
  | .rol ns, v, h => by
    simp only [Rep] at h ⊢
    obtain ⟨a, r, s, q⟩ := h
    rcases s with ⟨s, n, n'⟩ | s
    · refine ⟨a, r, .inl ⟨?_, n, n'⟩, q⟩
      have ne : a ≠ p := fun z => n' (by rw [z]; exact hp)
      rcases s with s | ⟨od, s⟩
      · exact .inl (by rw [upd_ne ne]; exact s)
      · exact .inr ⟨od, by rw [upd_ne ne]; exact s⟩
    · exact ⟨a, r, .inr s, q⟩
  | .dic kvs, v, h => by
    simp only [Rep] at h ⊢
    obtain ⟨a, od, vs, r, s, q⟩ := h
    exact ⟨a, od, vs, r, by rw [upd_ne (fun z => by rw [z, hu] at s; cases s; exact mu)]; exact s, RepK.over hp hu mu q⟩
  | .dit kvs, v, h => by
    simp only [Rep] at h ⊢
    obtain ⟨a, od, vs, r, s, q⟩ := h
    exact ⟨a, od, vs, r, by rw [upd_ne (fun z => by rw [z, hu] at s; cases s; exact mu)]; exact s, RepT.over hp hu mu q⟩
  | .ref n, v, h => by simpa only [Rep] using h
theorem RepL.over (hp : p ∈ κ) (hu : H p = some u) (mu : Mut (some u)) : ∀ {d : List D} {v : List V}, RepL K H ι κ d v → RepL K (upd H p o) ι κ d v
  | [], _, h => by simpa only [RepL] using h
  | d :: ds, _, h => by
    simp only [RepL] at h ⊢
    obtain ⟨v, r, rfl, q, q'⟩ := h
    exact ⟨v, r, rfl, Rep.over hp hu mu q, RepL.over hp hu mu q'⟩
theorem RepK.over (hp : p ∈ κ) (hu : H p = some u) (mu : Mut (some u)) : ∀ {d : List (Ky × D)} {v : List (Ky × V)}, RepK K H ι κ d v → RepK K (upd H p o) ι κ d v
  | [], _, h => by simpa only [RepK] using h
  | (k, d) :: ds, _, h => by
    simp only [RepK] at h ⊢
    obtain ⟨v, r, rfl, q, q', ok⟩ := h
    exact ⟨v, r, rfl, Rep.over hp hu mu q, RepK.over hp hu mu q', ok⟩
theorem RepT.over (hp : p ∈ κ) (hu : H p = some u) (mu : Mut (some u)) : ∀ {d : List (List Ky × D)} {v : List (List Ky × V)}, RepT K H ι κ d v → RepT K (upd H p o) ι κ d v
  | [], _, h => by simpa only [RepT] using h
  | (k, d) :: ds, _, h => by
    simp only [RepT] at h ⊢
    obtain ⟨v, r, rfl, q, q'⟩ := h
    exact ⟨v, r, rfl, Rep.over hp hu mu q, RepT.over hp hu mu q'⟩
end
theorem RepF.over (hp : p ∈ κ) (hu : H p = some u) (mu : Mut (some u)) : ∀ {d : List (Str × D)} {v : List (Str × V)}, RepF K H ι κ d v → RepF K (upd H p o) ι κ d v
  | [], _, h => h
  | (k, d) :: ds, _, ⟨v, r, e1, q, q'⟩ => ⟨v, r, e1, Rep.over hp hu mu q, RepF.over hp hu mu q'⟩
theorem ObR.over (hp : p ∈ κ) (hu : H p = some u) (mu : Mut (some u)) {a : Addr} {ob : O} (ne : a ≠ p) (h : ObR T K H ι κ a ob) : ObR T K (upd H p o) ι κ a ob := by
  have e : upd H p o a = H a := upd_ne ne
  cases ob with
  | lst ds => obtain ⟨vs, q, r⟩ := h; exact ⟨vs, e.trans q, r.over hp hu mu⟩
  | dic ds => obtain ⟨vs, q, r⟩ := h; exact ⟨vs, e.trans q, r.over hp hu mu⟩
  | dit ds => obtain ⟨vs, q, r⟩ := h; exact ⟨vs, e.trans q, r.over hp hu mu⟩
  | ins C fs => obtain ⟨c, dx, gs, q, r, t⟩ := h; exact ⟨c, dx, gs, q, e.trans r, t.over hp hu mu⟩
theorem Wd.over {S : Sto} (w : Wd T K H ι κ S) (hp : p ∈ κ) (hu : H p = some u) (mu : Mut (some u)) : Wd T K (upd H p o) ι κ S where
  len := w.len
  nd := w.nd
  dj := w.dj
  kt := fun a z => by
    by_cases e : a = p
    · rw [e]; exact ⟨o, upd_same⟩
    · obtain ⟨x, q⟩ := w.kt a z
      exact ⟨x, by rw [upd_ne e]; exact q⟩
  ob := fun n a ob e1 e2 => (w.ob n a ob e1 e2).over hp hu mu fun z => w.dj p hp (z ▸ List.mem_of_getElem? e1)
end
/-! from hidden to the store -/
section
variable {T : Tab} {K : PySem.W.Frag} {H : Hp} {ι κ : List Addr} {p : Addr}
mutual
theorem Rep.move : ∀ {d : D} {v : V}, Rep K H ι (p :: κ) d v → Rep K H (ι ++ [p]) κ d v
  | .non, _, h | .bl _, _, h | .int _, _, h | .str _, _, h => by simpa only [Rep] using h
  | .tup ds, v, h => by
    simp only [Rep] at h ⊢
    obtain ⟨a, vs, r, s, q⟩ := h
    exact ⟨a, vs, r, s, RepL.move q⟩
  | .lst ds, v, h => by
    simp only [Rep] at h ⊢
    obtain ⟨a, vs, r, s, n, n', q⟩ := h
    exact ⟨a, vs, r, s, moveN n n', fun z => n' (List.mem_cons_of_mem _ z), RepL.move q⟩
  | .rol ns, v, h => by
    simp only [Rep] at h ⊢
    obtain ⟨a, r, s, q⟩ := h
    rcases s with ⟨s, n, n'⟩ | s
    · exact ⟨a, r, .inl ⟨s, moveN n n', fun z => n' (List.mem_cons_of_mem _ z)⟩, q⟩
    · exact ⟨a, r, .inr s, q⟩
  | .dic kvs, v, h => by
    simp only [Rep] at h ⊢
    obtain ⟨a, o, vs, r, s, q⟩ := h
    exact ⟨a, o, vs, r, s, RepK.move q⟩
  | .dit kvs, v, h => by
    simp only [Rep] at h ⊢
    obtain ⟨a, o, vs, r, s, q⟩ := h
    exact ⟨a, o, vs, r, s, RepT.move q⟩
  | .ref n, v, h => by
    simp only [Rep] at h ⊢
    obtain ⟨a, r, s⟩ := h
    exact ⟨a, r, by rw [List.getElem?_append_left (List.getElem?_eq_some_iff.mp s).1]; exact s⟩
theorem RepL.move : ∀ {d : List D} {v : List V}, RepL K H ι (p :: κ) d v → RepL K H (ι ++ [p]) κ d v
  | [], _, h => by simpa only [RepL] using h
  | d :: ds, _, h => by
    simp only [RepL] at h ⊢
    obtain ⟨v, r, rfl, q, q'⟩ := h
    exact ⟨v, r, rfl, Rep.move q, RepL.move q'⟩
theorem RepK.move : ∀ {d : List (Ky × D)} {v : List (Ky × V)}, RepK K H ι (p :: κ) d v → RepK K H (ι ++ [p]) κ d v
  | [], _, h => by simpa only [RepK] using h
  | (k, d) :: ds, _, h => by
    simp only [RepK] at h ⊢
    obtain ⟨v, r, rfl, q, q', ok⟩ := h
    exact ⟨v, r, rfl, Rep.move q, RepK.move q', ok⟩
theorem RepT.move : ∀ {d : List (List Ky × D)} {v : List (List Ky × V)}, RepT K H ι (p :: κ) d v → RepT K H (ι ++ [p]) κ d v
  | [], _, h => by simpa only [RepT] using h
  | (k, d) :: ds, _, h => by
    simp only [RepT] at h ⊢
    obtain ⟨v, r, rfl, q, q'⟩ := h
    exact ⟨v, r, rfl, Rep.move q, RepT.move q'⟩
theorem moveN {a : Addr} (n : ¬ a ∈ ι) (n' : ¬ a ∈ p :: κ) : ¬ a ∈ ι ++ [p] := fun z => by
  rcases List.mem_append.mp z with z | z
  · exact n z
  · exact n' (by rw [List.mem_singleton.mp z]; exact List.mem_cons_self)
end
theorem RepF.move : ∀ {d : List (Str × D)} {v : List (Str × V)}, RepF K H ι (p :: κ) d v → RepF K H (ι ++ [p]) κ d v
  | [], _, h => h
  | (k, d) :: ds, _, ⟨v, r, e1, q, q'⟩ => ⟨v, r, e1, Rep.move q, RepF.move q'⟩
theorem ObR.move {a : Addr} {o : O} (h : ObR T K H ι (p :: κ) a o) : ObR T K H (ι ++ [p]) κ a o := by
  cases o with
  | lst ds => obtain ⟨vs, q, r⟩ := h; exact ⟨vs, q, r.move⟩
  | dic ds => obtain ⟨vs, q, r⟩ := h; exact ⟨vs, q, r.move⟩
  | dit ds => obtain ⟨vs, q, r⟩ := h; exact ⟨vs, q, r.move⟩
  | ins C fs => obtain ⟨c, dx, gs, q, r, t⟩ := h; exact ⟨c, dx, gs, q, r, t.move⟩
/-- the hidden object comes into the store -/
theorem Wd.take {S : Sto} {o : O} (w : Wd T K H ι (p :: κ) S) (hk : ¬ p ∈ κ) (ho : ObR T K H ι (p :: κ) p o) : Wd T K H (ι ++ [p]) κ (S ++ [o]) where
  len := by simp [w.len]
  nd := by
    refine List.nodup_append.mpr ⟨w.nd, by simp, fun a h1 b h2 z => ?_⟩
    rw [List.mem_singleton.mp h2] at z
    exact w.dj p List.mem_cons_self (z ▸ h1)
  dj := fun a z q => by
    rcases List.mem_append.mp q with q | q
    · exact w.dj a (List.mem_cons_of_mem _ z) q
    · rw [List.mem_singleton.mp q] at z; exact hk z
  kt := fun a z => w.kt a (List.mem_cons_of_mem _ z)
  ob := fun n a u e1 e2 => by
    by_cases hn : n < ι.length
    · rw [List.getElem?_append_left hn] at e1
      rw [List.getElem?_append_left (by rw [← w.len]; exact hn)] at e2
      exact (w.ob n a u e1 e2).move
    · rw [List.getElem?_append_right (by omega)] at e1
      rw [List.getElem?_append_right (by rw [← w.len]; omega), ← w.len] at e2
      have h0 : n - ι.length = 0 := by
        have := (List.getElem?_eq_some_iff.mp e1).1
        simp at this; omega
      rw [h0] at e1 e2
      simp at e1 e2
      subst e1 e2
      exact ho.move
end
/-! ### slots, errors -/
def EnvR (K : PySem.W.Frag) (H : Hp) (ι κ : List Addr) (σ : L2.St) (ρ : Env) : Prop :=
  σ.length = ρ.length ∧ ∀ (i : Nat) (d : D), ρ[i]? = some (some d) → ∃ v, σ[i]? = some (some v) ∧ Rep K H ι κ d v
theorem EnvR.mono {K : PySem.W.Frag} {H H' : Hp} {ι ι' κ κ' : List Addr} {σ : L2.St} {ρ : Env} (h : EnvR K H ι κ σ ρ) (e : Ext H ι H' ι') (m : ∀ a ∈ ι, Mut (H a)) (hκ : ∀ a ∈ κ', a ∈ κ ∨ H a = none) : EnvR K H' ι' κ' σ ρ :=
  ⟨h.1, fun i d q => let ⟨v, a, b⟩ := h.2 i d q; ⟨v, a, Rep.mono e m hκ b⟩⟩
def ExR (T : Tab) (K : PySem.W.Frag) (H : Hp) (ι κ : List Addr) (C : Nat) (fs : List (Str × D)) (cls : Value) (dx : Option Addr) : Prop :=
  ∃ c, T.P.cls[C]? = some c ∧ cls = .ref (He.ga K c.name) ∧ ((c.exc = some none ∧ fs = [] ∧ dx = none) ∨
    ∃ f d a v, c.exc = some (some f) ∧ fs = [(f, d)] ∧ dx = some a ∧ H a = some (.xd [(f, v)]) ∧ Rep K H ι κ d v)
/-- the end of an evaluation -/
def Post (T : Tab) (K : PySem.W.Frag) (κ : List Addr) (W : WX) (σ : L2.St) {α γ : Type} (rel : Hp → List Addr → α → γ → Prop) (H : Hp) (ι : List Addr) (r : R α) (Q : γ → Hp → Prop) : Prop := match r with
  | .ok a S' => ∀ g H' ι', Ext H ι H' ι' → Wd T K H' ι' κ S' → rel H' ι' a g → Q g H'
  | .exc C fs S' => ∀ cls dx H' ι', Ext H ι H' ι' → Wd T K H' ι' κ S' → ExR T K H' ι' κ C fs cls dx → W cls dx σ H'
  | .no => False
section
variable {T : Tab} {K : PySem.W.Frag} {κ : List Addr} {W : WX} {σ : L2.St} {α β γ δ : Type} {rel : Hp → List Addr → α → γ → Prop} {rel' : Hp → List Addr → β → δ → Prop} {H H1 : Hp} {ι ι1 : List Addr}
theorem Post.trans {r : R α} {Q : γ → Hp → Prop} (h : Post T K κ W σ rel H ι r Q) (e : Ext H ι H1 ι1) : Post T K κ W σ rel H1 ι1 r Q := by
  cases r with
  | ok a S => exact fun g H' ι' e' w q => h g H' ι' (e.trans e') w q
  | exc C fs S => exact fun c d H' ι' e' w q => h c d H' ι' (e.trans e') w q
  | no => exact h
theorem Post.bind {r : R α} {k : α → Sto → R β} {Q : δ → Hp → Prop} {Q1 : γ → Hp → Prop} (h : Post T K κ W σ rel' H ι (r.bind k) Q)
    (f : ∀ a S1 g H1 ι1, Ext H ι H1 ι1 → Wd T K H1 ι1 κ S1 → rel H1 ι1 a g → Post T K κ W σ rel' H1 ι1 (k a S1) Q → Q1 g H1) : Post T K κ W σ rel H ι r Q1 := by
  cases r with
  | ok a S => exact fun g H' ι' e w q => f a S g H' ι' e w q (Post.trans h e)
  | exc C fs S => exact h
  | no => exact h
theorem Post.imp {r : R α} {Q Q' : γ → Hp → Prop} (h : Post T K κ W σ rel H ι r Q) (f : ∀ g H', Q g H' → Q' g H') : Post T K κ W σ rel H ι r Q' := by
  cases r with
  | ok a S => exact fun g H' ι' e w q => f g H' (h g H' ι' e w q)
  | exc C fs S => exact h
  | no => exact h
end
def relV (K : PySem.W.Frag) (κ : List Addr) : Hp → List Addr → D → V → Prop := fun H ι d v => Rep K H ι κ d v
def relL (K : PySem.W.Frag) (κ : List Addr) : Hp → List Addr → List D → List V → Prop := fun H ι d v => RepL K H ι κ d v
def relB : Hp → List Addr → Bool → Bool → Prop := fun _ _ d v => d = v
def asB (d : D) (S : Sto) : R Bool := match d with
  | .bl b => .ok b S
  | _ => .no
/-- the readings -/
def tE (T : Tab) (K : PySem.W.Frag) (W : WX) (Γ : Ctx) (x : Ex) : TE := fun σ H Q => ∃ ι κ S ρ, Wd T K H ι κ S ∧ EnvR K H ι κ σ ρ ∧ Post T K κ W σ (relV K κ) H ι (evE Γ x ρ S) Q
def tBB (T : Tab) (K : PySem.W.Frag) (W : WX) (Γ : Ctx) (x : Ex) : TT := fun σ H Q => ∃ ι κ S ρ, Wd T K H ι κ S ∧ EnvR K H ι κ σ ρ ∧ Post T K κ W σ relB H ι ((evE Γ x ρ S).bind asB) Q
def tA (T : Tab) (K : PySem.W.Frag) (W : WX) (Γ : Ctx) (xs : List Ex) : TA := fun σ H Q => ∃ ι κ S ρ, Wd T K H ι κ S ∧ EnvR K H ι κ σ ρ ∧ Post T K κ W σ (relL K κ) H ι (evL Γ xs ρ S) Q
/-- what a new object holds, it being hidden -/
def NewO (K : PySem.W.Frag) (H : Hp) (ι κ : List Addr) (p : Addr) : D → Prop
  | .lst ds => ∃ vs, H p = some (.lst vs) ∧ RepL K H ι κ ds vs
  | .dic ds => ∃ vs, H p = some (.dK vs) ∧ RepK K H ι κ ds vs
  | .dit ds => ∃ vs, H p = some (.dT vs) ∧ RepT K H ι κ ds vs
  | _ => False
def PostN (T : Tab) (K : PySem.W.Frag) (κ : List Addr) (W : WX) (σ : L2.St) (H : Hp) (ι : List Addr) (r : R D) (Q : V → Hp → Prop) : Prop := match r with
  | .ok d S' => ∀ p H' ι', H p = none → Ext H ι H' ι' → Wd T K H' ι' (p :: κ) S' → NewO K H' ι' (p :: κ) p d → Q (.ref p) H'
  | .exc C fs S' => ∀ cls dx H' ι', Ext H ι H' ι' → Wd T K H' ι' κ S' → ExR T K H' ι' κ C fs cls dx → W cls dx σ H'
  | .no => False
def tN (T : Tab) (K : PySem.W.Frag) (W : WX) (Γ : Ctx) (x : Ex) : TE := fun σ H Q => ∃ ι κ S ρ, Wd T K H ι κ S ∧ EnvR K H ι κ σ ρ ∧ PostN T K κ W σ H ι (evE Γ x ρ S) Q
theorem PE.wk {X : Cx} {e : Expr} {t t' : TE} (h : PE X e t) (i : ∀ σ H Q, t' σ H Q → t σ H Q) : PE X e t' := ⟨fun pins s σ H Q I q => h.run pins s σ H Q I (i σ H Q q)⟩
theorem PT.wk {X : Cx} {e : Expr} {t t' : TT} (h : PT X e t) (i : ∀ σ H Q, t' σ H Q → t σ H Q) : PT X e t' := ⟨fun pins s σ H Q I q => h.run pins s σ H Q I (i σ H Q q)⟩
theorem PA.wk {X : Cx} {e : List Expr} {t t' : TA} (h : PA X e t) (i : ∀ σ H Q, t' σ H Q → t σ H Q) : PA X e t' := ⟨fun pos pins s σ H Q I q => h.run pos pins s σ H Q I (i σ H Q q)⟩
section
variable {T : Tab} {K : PySem.W.Frag} {W : WX} {Γ : Ctx} {H : Hp} {ι κ : List Addr} {σ : L2.St}
theorem NewO.rep {p : Addr} {ds : List D} (h : NewO K H ι (p :: κ) p (.lst ds)) (hi : ¬ p ∈ ι) (hk : ¬ p ∈ κ) (m : ∀ a ∈ ι, Mut (H a)) : Rep K H ι κ (.lst ds) (.ref p) := by
  have hκ : ∀ a ∈ κ, a ∈ p :: κ ∨ H a = none := fun a z => .inl (List.mem_cons_of_mem _ z)
  obtain ⟨vs, q, r⟩ := h
  simp only [Rep]
  exact ⟨p, vs, rfl, q, hi, hk, RepL.mono Ext.refl m hκ r⟩
/-- what is asked of a value, asked of the value locked as well -/
def rlk (Q : VK) : VK := fun v H => Q v H ∨ ∃ a u, v = .ref a ∧ H a = some u ∧ Mut (some u) ∧ ∀ od, Q v (upd H a (.frz od u))
theorem PE.relock {X : Cx} {e : Expr} {t : TE} (h : PE X e t) : PE X e (fun σ H Q => t σ H (rlk Q)) := ⟨fun pins s σ H Q I q => thn (h.run pins s σ H _ I q) fun v s1 ⟨x, H1, I1, r1, q1⟩ => by
  rcases q1 with q1 | ⟨a, u, rfl, hu, mu, q1⟩
  · exact ⟨x, H1, I1, r1, q1⟩
  · obtain ⟨od, I2⟩ := I1.lock hu mu
    exact ⟨_, _, I2, r1, q1 od⟩⟩
theorem PostN.of {r : R D} {Q : V → Hp → Prop} {S : Sto} (w : Wd T K H ι κ S) (h : Post T K κ W σ (relV K κ) H ι r Q) : PostN T K κ W σ H ι r (rlk Q) := by
  cases r with
  | ok d S' =>
    intro p H' ι' hn e w' q
    have lock : ∀ {u : HO}, H' p = some u → Mut (some u) → (∀ od, Rep K (upd H' p (.frz od u)) ι' κ d (.ref p)) → rlk Q (.ref p) H' := fun {u} hu mu hr => by
      refine .inr ⟨p, u, rfl, hu, mu, fun od => h (.ref p) _ ι' ⟨fun a o ha q => ?_, e.new, e.pre⟩ ((w'.over List.mem_cons_self hu mu).unhide) (hr od)⟩
      rw [upd_ne (ne_of_none q hn)]
      exact e.keep a o ha q
    cases d with
    | lst ds => exact .inl (h (.ref p) H' ι' e w'.unhide (q.rep (w'.dj p List.mem_cons_self) (w.notink hn) w'.mut))
    | dic ds =>
      obtain ⟨vs, q, r⟩ := q
      refine lock q True.intro fun od => ?_
      simp only [Rep]
      exact ⟨p, od, vs, rfl, upd_same, RepK.mono Ext.refl (w'.over List.mem_cons_self q True.intro).mut (fun a z => .inl (List.mem_cons_of_mem _ z)) (RepK.over List.mem_cons_self q True.intro r)⟩
    | dit ds =>
      obtain ⟨vs, q, r⟩ := q
      refine lock q True.intro fun od => ?_
      simp only [Rep]
      exact ⟨p, od, vs, rfl, upd_same, RepT.mono Ext.refl (w'.over List.mem_cons_self q True.intro).mut (fun a z => .inl (List.mem_cons_of_mem _ z)) (RepT.over List.mem_cons_self q True.intro r)⟩
    | _ => exact q.elim
  | exc C fs S' => exact h
  | no => exact h
theorem tE_of_tN {x : Ex} {Q : VK} (h : tE T K W Γ x σ H Q) : tN T K W Γ x σ H (rlk Q) := by
  obtain ⟨ι, κ, S, ρ, w, e, p⟩ := h
  exact ⟨ι, κ, S, ρ, w, e, PostN.of w p⟩
theorem NewO.ob {p : Addr} {d : D} {S : Sto} (h : NewO K H ι (p :: κ) p d) : ∃ o, newO d S = .ok (.ref S.length) (S ++ [o]) ∧ ObR T K H ι (p :: κ) p o := by
  cases d with
  | lst ds => exact ⟨.lst ds, rfl, h⟩
  | dic ds => exact ⟨.dic ds, rfl, h⟩
  | dit ds => exact ⟨.dit ds, rfl, h⟩
  | _ => exact h.elim
theorem tN_mut {x : Ex} {Q : VK} (h : tE T K W Γ (.mut x) σ H Q) : tN T K W Γ x σ H Q := by
  obtain ⟨ι, κ, S, ρ, w, e, p⟩ := h
  refine ⟨ι, κ, S, ρ, w, e, ?_⟩
  have p : Post T K κ W σ (relV K κ) H ι ((evE Γ x ρ S).bind newO) Q := by simpa only [evE] using p
  cases hr : evE Γ x ρ S with
  | ok d S' =>
    rw [hr] at p
    intro q H' ι' hn ex w' hq
    obtain ⟨o, ho, hob⟩ := NewO.ob (T := T) (S := S') hq
    have p : Post T K κ W σ (relV K κ) H ι (newO d S') Q := p
    rw [ho] at p
    refine p (.ref q) H' (ι' ++ [q]) ⟨ex.keep, fun a z => ?_, List.IsPrefix.trans ex.pre (List.prefix_append _ _)⟩ (w'.take (w.notink hn) hob) ?_
    · rcases List.mem_append.mp z with z | z
      · exact ex.new a z
      · rw [List.mem_singleton.mp z]; exact .inr hn
    · show Rep K H' (ι' ++ [q]) κ (.ref S'.length) (.ref q)
      simp only [Rep]
      refine ⟨q, rfl, ?_⟩
      rw [← w'.len]
      simp
  | exc C fs S' => rw [hr] at p; exact p
  | no => rw [hr] at p; exact p
end
end MP
end

section
set_option Elab.async false
set_option linter.all false
set_option maxRecDepth 100000
/-! MpD: operators, comparisons, subscripts, slices, built-in functions by values. -/
namespace MP
open PySem PySem.Spec PyProof.Rows L2
def VPost (T : Tab) (K : PySem.W.Frag) (ι κ : List Addr) (H : Hp) (S : Sto) (d : D) (Q : VK) : Prop := ∀ v H' ι', Ext H ι H' ι' → Wd T K H' ι' κ S → Rep K H' ι' κ d v → Q v H'
def NPost (T : Tab) (K : PySem.W.Frag) (ι κ : List Addr) (H : Hp) (S : Sto) (d : D) (Q : VK) : Prop := ∀ p H' ι', H p = none → Ext H ι H' ι' → Wd T K H' ι' (p :: κ) S → NewO K H' ι' (p :: κ) p d → Q (.ref p) H'
theorem LIM_line {n : Nat} (h : n ≤ LIM) : n ≤ sizeLine := by
  rw [sizeLine_eq]; unfold LIM at h; omega
section
variable {T : Tab} {K : PySem.W.Frag} {H : Hp} {ι κ : List Addr} {S : Sto} {d : D} {Q : VK}
theorem NPost.of {ds : List D} (w : Wd T K H ι κ S) (h : VPost T K ι κ H S (.lst ds) Q) : NPost T K ι κ H S (.lst ds) Q := fun p H' ι' hn e w' q =>
  h (.ref p) H' ι' e w'.unhide (q.rep (w'.dj p List.mem_cons_self) (w.notink hn) w'.mut)
theorem VPost.same (h : VPost T K ι κ H S d Q) (w : Wd T K H ι κ S) {v : V} (r : Rep K H ι κ d v) : Q v H := h v H ι Ext.refl w r
theorem VPost.tup {ds : List D} (h : VPost T K ι κ H S (.tup ds) Q) (w : Wd T K H ι κ S) {vs : List V} (r : RepL K H ι κ ds vs) {p : Addr} (hp : H p = none) : Q (.ref p) (upd H p (.tup vs)) := by
  refine h _ _ ι (Ext.fresh w hp) (w.fresh hp) ?_
  simp only [Rep]
  exact ⟨p, vs, rfl, .inl (.inl upd_same), RepL.mono (Ext.fresh w hp) w.mut (fun _ z => .inl z) r⟩
theorem NPost.lst {ds : List D} (h : NPost T K ι κ H S (.lst ds) Q) (w : Wd T K H ι κ S) {vs : List V} (r : RepL K H ι κ ds vs) {p : Addr} (hp : H p = none) : Q (.ref p) (upd H p (.lst vs)) :=
  h p _ ι hp (Ext.fresh w hp) (w.hide hp) ⟨vs, upd_same, RepL.mono (Ext.fresh w hp) w.mut (fun a z => (List.mem_cons.mp z).elim (fun e => .inr (by rw [e]; exact hp)) .inl) r⟩
theorem NPost.dic {ds : List (Ky × D)} (h : NPost T K ι κ H S (.dic ds) Q) (w : Wd T K H ι κ S) {vs : List (Ky × V)} (r : RepK K H ι κ ds vs) {p : Addr} (hp : H p = none) : Q (.ref p) (upd H p (.dK vs)) :=
  h p _ ι hp (Ext.fresh w hp) (w.hide hp) ⟨vs, upd_same, RepK.mono (Ext.fresh w hp) w.mut (fun a z => (List.mem_cons.mp z).elim (fun e => .inr (by rw [e]; exact hp)) .inl) r⟩
theorem NPost.dit {ds : List (List Ky × D)} (h : NPost T K ι κ H S (.dit ds) Q) (w : Wd T K H ι κ S) {vs : List (List Ky × V)} (r : RepT K H ι κ ds vs) {p : Addr} (hp : H p = none) : Q (.ref p) (upd H p (.dT vs)) :=
  h p _ ι hp (Ext.fresh w hp) (w.hide hp) ⟨vs, upd_same, RepT.mono (Ext.fresh w hp) w.mut (fun a z => (List.mem_cons.mp z).elim (fun e => .inr (by rw [e]; exact hp)) .inl) r⟩
/-! ### rows of values -/
theorem RepL.length : ∀ {ds : List D} {vs : List V}, RepL K H ι κ ds vs → ds.length = vs.length
  | [], vs, h => by simp only [RepL] at h; rw [h]; rfl
  | d :: ds, vs, h => by
    simp only [RepL] at h
    obtain ⟨v, r, rfl, _, q⟩ := h
    simp [RepL.length q]
theorem RepL.append : ∀ {ds es : List D} {vs ws : List V}, RepL K H ι κ ds vs → RepL K H ι κ es ws → RepL K H ι κ (ds ++ es) (vs ++ ws)
  | [], _, vs, _, h, h' => by simp only [RepL] at h; rw [h]; exact h'
  | d :: ds, _, vs, _, h, h' => by
    simp only [RepL] at h
    obtain ⟨v, r, rfl, q, q'⟩ := h
    simp only [List.cons_append, RepL]
    exact ⟨v, _, rfl, q, RepL.append q' h'⟩
theorem RepL.get : ∀ {ds : List D} {vs : List V} {i : Nat} {d : D}, RepL K H ι κ ds vs → ds[i]? = some d → ∃ v, vs[i]? = some v ∧ Rep K H ι κ d v
  | [], _, _, _, _, e => by simp at e
  | _ :: ds, vs, 0, d, h, e => by
    simp only [RepL] at h
    obtain ⟨v, r, rfl, q, q'⟩ := h
    simp at e; subst e
    exact ⟨v, rfl, q⟩
  | _ :: ds, vs, i + 1, d, h, e => by
    simp only [RepL] at h
    obtain ⟨v, r, rfl, q, q'⟩ := h
    obtain ⟨w, h1, h2⟩ := RepL.get (ds := ds) (vs := r) (i := i) q' (by simpa using e)
    exact ⟨w, by simpa using h1, h2⟩
theorem RepL.set : ∀ {ds : List D} {vs : List V} {d : D} {v : V} (i : Nat), RepL K H ι κ ds vs → Rep K H ι κ d v → RepL K H ι κ (ds.set i d) (vs.set i v)
  | [], vs, _, _, _, h, _ => by simp only [RepL] at h; subst h; simp [RepL]
  | _ :: ds, vs, d, v, 0, h, e => by
    simp only [RepL] at h
    obtain ⟨u, r, rfl, q, q'⟩ := h
    simp only [List.set_cons_zero, RepL]
    exact ⟨v, r, rfl, e, q'⟩
  | _ :: ds, vs, d, v, i + 1, h, e => by
    simp only [RepL] at h
    obtain ⟨u, r, rfl, q, q'⟩ := h
    simp only [List.set_cons_succ, RepL]
    exact ⟨u, _, rfl, q, RepL.set i q' e⟩
theorem RepL.drop : ∀ {ds : List D} {vs : List V} (n : Nat), RepL K H ι κ ds vs → RepL K H ι κ (ds.drop n) (vs.drop n)
  | _, _, 0, h => h
  | [], vs, _ + 1, h => by simp only [RepL] at h; subst h; simp [RepL]
  | _ :: ds, vs, n + 1, h => by
    simp only [RepL] at h
    obtain ⟨u, r, rfl, q, q'⟩ := h
    exact RepL.drop n q'
theorem RepL.take : ∀ {ds : List D} {vs : List V} (n : Nat), RepL K H ι κ ds vs → RepL K H ι κ (ds.take n) (vs.take n)
  | _, _, 0, h => by simp [RepL]
  | [], vs, _ + 1, h => by simp only [RepL] at h; subst h; simp [RepL]
  | _ :: ds, vs, n + 1, h => by
    simp only [RepL] at h
    obtain ⟨u, r, rfl, q, q'⟩ := h
    simp only [List.take_succ_cons, RepL]
    exact ⟨u, _, rfl, q, RepL.take n q'⟩
theorem RepL.reverse {ds : List D} {vs : List V} (h : RepL K H ι κ ds vs) : RepL K H ι κ ds.reverse vs.reverse := by
  induction ds generalizing vs with
  | nil => simp only [RepL] at h; subst h; simp [RepL]
  | cons d ds ih =>
    simp only [RepL] at h
    obtain ⟨u, r, rfl, q, q'⟩ := h
    rw [List.reverse_cons, List.reverse_cons]
    refine RepL.append (ih q') ?_
    simp only [RepL]
    exact ⟨u, [], rfl, q, rfl⟩
theorem RepL.cut {ds : List D} {vs : List V} (lo hi : Option Int) (h : RepL K H ι κ ds vs) : RepL K H ι κ (cut ds lo hi) (cutV vs lo hi) := by
  unfold MP.cut cutV
  rw [h.length]
  exact (h.drop _).take _
theorem RepL.repl {ds : List D} {vs : List V} (h : RepL K H ι κ ds vs) : ∀ n : Nat, RepL K H ι κ (List.replicate n ds).flatten (List.replicate n vs).flatten
  | 0 => by simp [RepL]
  | n + 1 => by
    simp only [List.replicate_succ, List.flatten_cons]
    exact RepL.append h (RepL.repl h n)
theorem RepL.ints : ∀ ns : List Int, RepL K H ι κ (ns.map D.int) (ns.map V.int)
  | [] => by simp [RepL]
  | n :: ns => by
    simp only [List.map_cons, RepL]
    exact ⟨_, _, rfl, by simp [Rep], RepL.ints ns⟩
theorem intsOf_rep : ∀ {ds : List D} {vs : List V} {ns : List Int}, intsOf ds = some ns → RepL K H ι κ ds vs → vs = ns.map V.int ∧ ds = ns.map D.int
  | [], vs, ns, e, h => by
    simp only [intsOf, Option.some.injEq] at e
    simp only [RepL] at h
    subst e h; exact ⟨rfl, rfl⟩
  | d :: ds, vs, ns, e, h => by
    simp only [RepL] at h
    obtain ⟨u, r, rfl, q, q'⟩ := h
    cases d with
    | int i =>
      simp only [intsOf, Option.map_eq_some_iff] at e
      obtain ⟨ms, e, rfl⟩ := e
      simp only [Rep] at q
      obtain ⟨e1, e2⟩ := intsOf_rep e q'
      exact ⟨by rw [q, e1]; rfl, by rw [e2]; rfl⟩
    | _ => simp [intsOf] at e
theorem blsOf_rep : ∀ {ds : List D} {vs : List V} {ns : List Bool}, blsOf ds = some ns → RepL K H ι κ ds vs → vs = ns.map V.bl
  | [], vs, ns, e, h => by
    simp only [blsOf, Option.some.injEq] at e
    simp only [RepL] at h
    subst e h; rfl
  | d :: ds, vs, ns, e, h => by
    simp only [RepL] at h
    obtain ⟨u, r, rfl, q, q'⟩ := h
    cases d with
    | bl i =>
      simp only [blsOf, Option.map_eq_some_iff] at e
      obtain ⟨ms, e, rfl⟩ := e
      simp only [Rep] at q
      rw [q, blsOf_rep e q']; rfl
    | _ => simp [blsOf] at e
theorem strsOf_rep : ∀ {ds : List D} {vs : List V} {ns : List Str}, strsOf ds = some ns → RepL K H ι κ ds vs → vs = ns.map V.str ∧ ∀ x ∈ ns, PyData.strOk x = true
  | [], vs, ns, e, h => by
    simp only [strsOf, Option.some.injEq] at e
    simp only [RepL] at h
    subst e h; exact ⟨rfl, by simp⟩
  | d :: ds, vs, ns, e, h => by
    simp only [RepL] at h
    obtain ⟨u, r, rfl, q, q'⟩ := h
    cases d with
    | str i =>
      simp only [strsOf, Option.map_eq_some_iff] at e
      obtain ⟨ms, e, rfl⟩ := e
      simp only [Rep] at q
      obtain ⟨e1, e2⟩ := strsOf_rep e q'
      refine ⟨by rw [q.1, e1]; rfl, fun x hx => ?_⟩
      rcases List.mem_cons.mp hx with rfl | hx
      · exact q.2
      · exact e2 x hx
    | _ => simp [strsOf] at e
theorem RepL.strs : ∀ {ns : List Str}, (∀ x ∈ ns, PyData.strOk x = true) → RepL K H ι κ (ns.map D.str) (ns.map V.str)
  | [], _ => by simp [RepL]
  | n :: ns, h => by
    simp only [List.map_cons, RepL]
    exact ⟨_, _, rfl, by simp [Rep, h n List.mem_cons_self], RepL.strs fun x hx => h x (List.mem_cons_of_mem _ hx)⟩
end
/-! ### texts -/
theorem strOk_append {x y : Str} (hx : PyData.strOk x = true) (hy : PyData.strOk y = true) : PyData.strOk (x ++ y) = true := by
  unfold PyData.strOk at *
  show (x.cps ++ y.cps).all _ = true
  rw [Array.all_append, hx, hy]; rfl
theorem strOk_mem {x : Str} (hx : PyData.strOk x = true) {c : Nat} (hc : c ∈ x.cps.toList) : c < 0x110000 := by
  unfold PyData.strOk at hx
  have := Array.all_eq_true'.mp hx c (by simpa using hc)
  simpa using this
theorem strOk_of {l : List Nat} (h : ∀ c ∈ l, c < 0x110000) : PyData.strOk ⟨l.toArray⟩ = true := by
  unfold PyData.strOk
  simp only [List.all_toArray, List.all_eq_true, decide_eq_true_eq]
  exact h
/-! ### binary operators -/
section
variable {X : Cx} {T : Tab}
def rOp (T : Tab) (K : PySem.W.Frag) (o : Operator) : R2 := fun v u H Q => ∃ ι κ S x y z, Wd T K H ι κ S ∧ Rep K H ι κ x v ∧ Rep K H ι κ y u ∧ opD o x y = some z ∧ VPost T K ι κ H S z Q
/-- lists: a new one -/
def rOpN (T : Tab) (K : PySem.W.Frag) (o : Operator) : R2 := fun v u H Q => ∃ ι κ S x y z xs, Wd T K H ι κ S ∧ Rep K H ι κ x v ∧ Rep K H ι κ y u ∧ x = .lst xs ∧ opD o x y = some z ∧ NPost T K ι κ H S z Q
theorem op_soundN (o : Operator) : OpR X (binaryOp o) (rOpN T X.K o) := by
  intro pins s σ H v u vv uu Q I rv ru h
  obtain ⟨ι, κ, S, x, y, z, xs, w, rx, ry, ex, ez, q⟩ := h
  subst ex
  simp only [Rep] at rx
  obtain ⟨a, vs, rfl, ha, hi, hk, rl⟩ := rx
  cases o with
  | Add =>
    cases y with
    | lst ys =>
      simp only [opD, Option.ite_none_right_eq_some, Option.some.injEq] at ez
      obtain ⟨hl, rfl⟩ := ez
      simp only [Rep] at ry
      obtain ⟨b, ws, rfl, hb, hi', hk', rl'⟩ := ry
      refine op_cat pins s σ H _ _ _ _ Q I rv ru ⟨a, b, vs, ws, rfl, rfl, ha, hb, ?_, fun p hp => q.lst w (rl.append rl') hp⟩
      rw [← rl.length, ← rl'.length]
      exact LIM_line hl
    | _ => simp [opD] at ez
  | Mult =>
    cases y with
    | int j =>
      simp only [opD, Option.ite_none_right_eq_some, Option.some.injEq] at ez
      obtain ⟨⟨h0, h1, h2⟩, rfl⟩ := ez
      simp only [Rep] at ry
      subst ry
      refine op_rep pins s σ H _ _ _ _ Q I rv ru ⟨a, j, vs, rfl, rfl, ha, by omega, by omega, ?_, fun p hp => q.lst w (rl.repl _) hp⟩
      rw [← rl.length]
      refine LIM_line ?_
      unfold LIM
      have h3 : j.toNat ≤ 1000 := by omega
      calc xs.length * j.toNat ≤ 1000 * 1000 := Nat.mul_le_mul h2 h3
        _ = 1000000 := by decide
    | _ => simp [opD] at ez
  | _ => simp [opD] at ez
theorem opD_lst {o : Operator} {xs : List D} {y z : D} (h : opD o (.lst xs) y = some z) : ∃ zs, z = .lst zs := by
  cases o <;> cases y <;> simp [opD] at h
  · exact ⟨_, h.2.symm⟩
  · exact ⟨_, h.2.symm⟩
theorem op_sound (o : Operator) : OpR X (binaryOp o) (rOp T X.K o) := by
  intro pins s σ H v u vv uu Q I rv ru h
  obtain ⟨ι, κ, S, x, y, z, w, rx, ry, ez, q⟩ := h
  have ri : ∀ i : Int, Rep X.K H ι κ (.int i) (.int i) := fun i => by simp [Rep]
  cases x with
  | lst xs => exact op_soundN (T := T) o pins s σ H v u vv uu Q I rv ru ⟨ι, κ, S, _, y, z, xs, w, rx, ry, rfl, ez, by obtain ⟨zs, rfl⟩ := opD_lst ez; exact NPost.of w q⟩
  | int i =>
    cases y with
    | int j =>
      simp only [Rep] at rx ry
      subst rx ry
      cases o with
      | Add =>
        simp only [opD, Option.some.injEq] at ez; subst ez
        exact op_add pins s σ H _ _ _ _ Q I rv ru ⟨i, j, rfl, rfl, q.same w (ri _)⟩
      | Sub =>
        simp only [opD, Option.some.injEq] at ez; subst ez
        exact op_sub pins s σ H _ _ _ _ Q I rv ru ⟨i, j, rfl, rfl, q.same w (ri _)⟩
      | Mult =>
        simp only [opD, Option.ite_none_right_eq_some, Option.some.injEq] at ez
        obtain ⟨hb, rfl⟩ := ez
        refine op_mul pins s σ H _ _ _ _ Q I rv ru ⟨i, j, rfl, rfl, ?_, q.same w (ri _)⟩
        unfold CMul
        unfold BIG at hb
        have e : (2 : Int) ^ 64 = 18446744073709551616 := by decide
        rw [e]; exact hb
      | FloorDiv =>
        simp only [opD, Option.ite_none_right_eq_some, Option.some.injEq] at ez
        obtain ⟨hb, rfl⟩ := ez
        exact op_fdivN pins s σ H _ _ _ _ Q I rv ru ⟨i, j, rfl, rfl, hb, q.same w (ri _)⟩
      | Mod =>
        simp only [opD, Option.ite_none_right_eq_some, Option.some.injEq] at ez
        obtain ⟨hb, rfl⟩ := ez
        exact op_modN pins s σ H _ _ _ _ Q I rv ru ⟨i, j, rfl, rfl, hb, q.same w (ri _)⟩
      | Pow =>
        simp only [opD, Option.ite_none_right_eq_some, Option.some.injEq] at ez
        obtain ⟨⟨h1, h2, h3⟩, rfl⟩ := ez
        refine op_pow pins s σ H _ _ _ _ Q I rv ru ⟨i, j, rfl, rfl, ⟨h1, h2, ?_⟩, q.same w (ri _)⟩
        have e : (2 : Nat) ^ 64 = 18446744073709551616 := by decide
        rw [e]; exact h3
      | _ => simp [opD] at ez
    | _ => cases o <;> simp [opD] at ez
  | str x =>
    cases y with
    | str y =>
      simp only [Rep] at rx ry
      obtain ⟨rfl, hx⟩ := rx
      obtain ⟨rfl, hy⟩ := ry
      cases o with
      | Add =>
        simp only [opD, Option.ite_none_right_eq_some, Option.some.injEq] at ez
        obtain ⟨hb, rfl⟩ := ez
        exact op_add_str pins s σ H _ _ _ _ Q I rv ru ⟨x, y, rfl, rfl, LIM_line hb, q.same w (by simp [Rep, strOk_append hx hy])⟩
      | _ => simp [opD] at ez
    | _ => cases o <;> simp [opD] at ez
  | tup xs =>
    cases y with
    | tup ys =>
      cases o with
      | Add =>
        simp only [opD, Option.ite_none_right_eq_some, Option.some.injEq] at ez
        obtain ⟨hb, rfl⟩ := ez
        have rx' := rx
        have ry' := ry
        simp only [Rep] at rx ry
        obtain ⟨a, vs, rfl, ha, rl⟩ := rx
        obtain ⟨b, ws, rfl, hb', rl'⟩ := ry
        refine op_catA pins s σ H _ _ _ _ Q I rv ru ⟨a, b, vs, ws, rfl, rfl, ha, hb', by rw [← rl.length, ← rl'.length]; exact LIM_line hb, fun e => ?_, fun _ e => ?_, fun _ _ p hp => q.tup w (rl.append rl') hp⟩
        · have : xs = [] := List.eq_nil_of_length_eq_zero (by rw [rl.length, e]; rfl)
          subst this
          exact q.same w ry'
        · have : ys = [] := List.eq_nil_of_length_eq_zero (by rw [rl'.length, e]; rfl)
          subst this
          rw [List.append_nil] at q
          exact q.same w rx'
      | _ => simp [opD] at ez
    | _ => cases o <;> simp [opD] at ez
  | _ => cases o <;> simp [opD] at ez
end
end MP
end

section
set_option Elab.async false
set_option linter.all false
set_option maxRecDepth 100000
/-! MpE: comparisons by values. -/
namespace MP
open PySem PySem.Spec PyProof.Rows L2
mutual
def py : D → PyData
  | .non => .none
  | .bl b => .bool b
  | .int i => .int i
  | .str x => .str x
  | .tup xs => .tuple (pyL xs)
  | .lst xs => .list (pyL xs)
  | _ => .none
def pyL : List D → List PyData
  | [] => []
  | x :: xs => py x :: pyL xs
end
section
variable {K : PySem.W.Frag} {H : Hp} {ι κ : List Addr}
mutual
theorem dp_of : ∀ {d : D} {v : V} {n : Nat}, Rep K H ι κ d v → shp d n = true → Dp K H v (py d) ∧ (py d).canLay0 = true ∧ (py d).depth ≤ n
  | .non, v, n, h, _ => by simp only [Rep] at h; subst h; exact ⟨.non, by simp [py, PyData.canLay0], by simp [py, PyData.depth]⟩
  | .bl b, v, n, h, _ => by simp only [Rep] at h; subst h; exact ⟨.bl b, by simp [py, PyData.canLay0], by simp [py, PyData.depth]⟩
  | .int b, v, n, h, _ => by simp only [Rep] at h; subst h; exact ⟨.int b, by simp [py, PyData.canLay0], by simp [py, PyData.depth]⟩
  | .str b, v, n, h, _ => by simp only [Rep] at h; obtain ⟨rfl, h⟩ := h; exact ⟨.str b, by simp [py, PyData.canLay0, h], by simp [py, PyData.depth]⟩
  | .tup xs, v, 0, h, q => by simp [shp] at q
  | .tup xs, v, n + 1, h, q => by
    simp only [Rep] at h
    obtain ⟨a, vs, rfl, s, r⟩ := h
    obtain ⟨h1, h2, h3⟩ := dp_ofL r (by simpa [shp] using q)
    exact ⟨.tup s h1, by simpa [py, PyData.canLay0] using h2, by simpa [py, PyData.depth] using h3⟩
  | .lst xs, v, 0, h, q => by simp [shp] at q
  | .lst xs, v, n + 1, h, q => by
    simp only [Rep] at h
    obtain ⟨a, vs, rfl, s, _, _, r⟩ := h
    obtain ⟨h1, h2, h3⟩ := dp_ofL r (by simpa [shp] using q)
    exact ⟨.lst (.inl (.inl s)) h1, by simpa [py, PyData.canLay0] using h2, by simpa [py, PyData.depth] using h3⟩
  | .rol _, _, _, _, q | .dic _, _, _, _, q | .dit _, _, _, _, q | .ref _, _, _, _, q => by simp [shp] at q
theorem dp_ofL : ∀ {d : List D} {v : List V} {n : Nat}, RepL K H ι κ d v → shpL d n = true → DpAll K H v (pyL d) ∧ PyData.canLayAll0 (pyL d) = true ∧ PyData.depthAll (pyL d) ≤ n
  | [], v, n, h, _ => by simp only [RepL] at h; subst h; exact ⟨.nil, by simp [pyL, PyData.canLayAll0], by simp [pyL, PyData.depthAll]⟩
  | d :: ds, v, n, h, q => by
    simp only [RepL] at h
    obtain ⟨u, r, rfl, h, h'⟩ := h
    simp only [shpL, Bool.and_eq_true] at q
    obtain ⟨a1, a2, a3⟩ := dp_of h q.1
    obtain ⟨b1, b2, b3⟩ := dp_ofL h' q.2
    exact ⟨.cons a1 b1, by simp [pyL, PyData.canLayAll0, a2, b2], by simp only [pyL, PyData.depthAll]; omega⟩
end
end
mutual
theorem eqv_py : ∀ {d e : D} {n m : Nat}, shp d n = true → shp e m = true → eqv d e = PyData.eqv (py d) (py e)
  | .non, e, n, m, _, h => by cases e <;> simp_all [eqv, py, PyData.eqv, shp]
  | .bl _, e, n, m, _, h => by cases e <;> simp_all [eqv, py, PyData.eqv, shp]
  | .int _, e, n, m, _, h => by cases e <;> simp_all [eqv, py, PyData.eqv, shp]
  | .str _, e, n, m, _, h => by cases e <;> simp_all [eqv, py, PyData.eqv, shp]
  | .tup xs, e, 0, m, q, h => by simp [shp] at q
  | .lst xs, e, 0, m, q, h => by simp [shp] at q
  | .tup xs, e, n + 1, m, q, h => by
    cases e with
    | tup ys =>
      cases m with
      | zero => simp [shp] at h
      | succ m => simp only [eqv, py, PyData.eqv]; exact eqv_pyL (by simpa [shp] using q) (by simpa [shp] using h)
    | _ => simp_all [eqv, py, PyData.eqv, shp]
  | .lst xs, e, n + 1, m, q, h => by
    cases e with
    | lst ys =>
      cases m with
      | zero => simp [shp] at h
      | succ m => simp only [eqv, py, PyData.eqv]; exact eqv_pyL (by simpa [shp] using q) (by simpa [shp] using h)
    | _ => simp_all [eqv, py, PyData.eqv, shp]
  | .rol _, _, _, _, q, _ | .dic _, _, _, _, q, _ | .dit _, _, _, _, q, _ | .ref _, _, _, _, q, _ => by simp [shp] at q
theorem eqv_pyL : ∀ {d e : List D} {n m : Nat}, shpL d n = true → shpL e m = true → eqvL d e = PyData.eqvAll (pyL d) (pyL e)
  | [], e, n, m, _, h => by cases e <;> simp [eqvL, pyL, PyData.eqvAll]
  | d :: ds, e, n, m, q, h => by
    cases e with
    | nil => simp [eqvL, pyL, PyData.eqvAll]
    | cons y ys =>
      simp only [shpL, Bool.and_eq_true] at q h
      simp only [eqvL, pyL, PyData.eqvAll]
      rw [eqv_py q.1 h.1, eqv_pyL q.2 h.2]
end
theorem flat_rep {K : PySem.W.Frag} {H : Hp} {ι κ : List Addr} {d : D} {v : V} (h : Rep K H ι κ d v) (f : flat d = true) : flatV v = true := by
  cases d <;> simp [flat] at f <;> simp only [Rep] at h <;> first | (subst h; rfl) | (obtain ⟨rfl, _⟩ := h; rfl)
theorem eqv_flat {K : PySem.W.Frag} {H : Hp} {ι κ : List Addr} {d e : D} {v u : V} (h : Rep K H ι κ d v) (h' : Rep K H ι κ e u) (f : flat d = true) (f' : flat e = true) : eqv d e = eqV v u := by
  cases d <;> simp [flat] at f <;> cases e <;> simp [flat] at f' <;> simp only [Rep] at h h' <;> (first | subst h | (obtain ⟨rfl, _⟩ := h)) <;> (first | subst h' | (obtain ⟨rfl, _⟩ := h')) <;> simp [eqv, eqV]
theorem inL_flat {K : PySem.W.Frag} {H : Hp} {ι κ : List Addr} {x : D} {v : V} (h : Rep K H ι κ x v) (f : flat x = true) : ∀ {ds : List D} {vs : List V}, RepL K H ι κ ds vs → ds.all flat = true → vs.all flatV = true ∧ inL x ds = inV v vs
  | [], vs, r, _ => by simp only [RepL] at r; subst r; exact ⟨rfl, rfl⟩
  | d :: ds, vs, r, q => by
    simp only [RepL] at r
    obtain ⟨u, t, rfl, r, r'⟩ := r
    rw [List.all_cons, Bool.and_eq_true] at q
    obtain ⟨h1, h2⟩ := inL_flat h f r' q.2
    refine ⟨by rw [List.all_cons, flat_rep r q.1, h1]; rfl, ?_⟩
    show (eqv d x || inL x ds) = (eqV u v || inV v t)
    rw [eqv_flat r h q.1 f, h2]
theorem inL_py {x : D} {n m : Nat} (h : shp x n = true) : ∀ {ds : List D}, shpL ds m = true → inL x ds = (pyL ds).any fun z => PyData.eqv z (py x)
  | [], _ => rfl
  | d :: ds, q => by
    simp only [shpL, Bool.and_eq_true] at q
    show (eqv d x || inL x ds) = _
    rw [eqv_py q.1 h, inL_py h q.2]; rfl
theorem ky_rep {K : PySem.W.Frag} {H : Hp} {ι κ : List Addr} {d : D} {v : V} {k : Ky} (h : Rep K H ι κ d v) (e : d.ky = some k) : v = kV k ∧ (∀ x, k = .inr x → PyData.strOk x = true) := by
  cases d <;> simp [D.ky] at e <;> subst e <;> simp only [Rep] at h
  · exact ⟨h, fun x q => nomatch q⟩
  · exact ⟨h.1, fun x q => by cases q; exact h.2⟩
theorem kys_rep {K : PySem.W.Frag} {H : Hp} {ι κ : List Addr} : ∀ {ds : List D} {vs : List V} {ks : List Ky}, RepL K H ι κ ds vs → kys ds = some ks → vs = ks.map kV
  | [], vs, ks, h, e => by simp only [RepL] at h; simp [kys] at e; subst h e; rfl
  | d :: ds, vs, ks, h, e => by
    simp only [RepL] at h
    obtain ⟨u, r, rfl, q, q'⟩ := h
    unfold kys at e
    cases e1 : d.ky with
    | none => rw [e1] at e; simp at e
    | some k =>
      cases e2 : kys ds with
      | none => rw [e1, e2] at e; simp at e
      | some ks' =>
        rw [e1, e2] at e
        simp at e; subst e
        rw [(ky_rep q e1).1, kys_rep q' e2]; rfl
theorem vget_rep {K : PySem.W.Frag} {H : Hp} {ι κ : List Addr} {k : Ky} : ∀ {ds : List (Ky × D)} {vs : List (Ky × V)}, RepK K H ι κ ds vs → (∀ d, vget ds k = some d → ∃ v, valV vs k = some v ∧ Rep K H ι κ d v) ∧ (vget ds k = none → valV vs k = none)
  | [], vs, h => by simp only [RepK] at h; subst h; exact ⟨fun d e => by simp [vget] at e, fun _ => rfl⟩
  | (j, d) :: ds, vs, h => by
    simp only [RepK] at h
    obtain ⟨u, r, rfl, q, q', ok⟩ := h
    obtain ⟨h1, h2⟩ := vget_rep (k := k) q'
    by_cases e : j = k
    · subst e
      refine ⟨fun d' e => ?_, fun e => ?_⟩
      · simp [vget] at e; subst e
        exact ⟨u, valV_pos rfl, q⟩
      · simp [vget] at e
    · refine ⟨fun d' e' => ?_, fun e' => ?_⟩
      · have : vget ds k = some d' := by simpa [vget, List.find?_cons, e] using e'
        obtain ⟨v, a, b⟩ := h1 d' this
        exact ⟨v, by rw [valV_neg (by exact e)]; exact a, b⟩
      · rw [valV_neg (by exact e)]
        exact h2 (by simpa [vget, List.find?_cons, e] using e')
theorem vgetT_rep {K : PySem.W.Frag} {H : Hp} {ι κ : List Addr} {k : List Ky} : ∀ {ds : List (List Ky × D)} {vs : List (List Ky × V)}, RepT K H ι κ ds vs → (∀ d, vget ds k = some d → ∃ v, valV vs k = some v ∧ Rep K H ι κ d v) ∧ (vget ds k = none → valV vs k = none)
  | [], vs, h => by simp only [RepT] at h; subst h; exact ⟨fun d e => by simp [vget] at e, fun _ => rfl⟩
  | (j, d) :: ds, vs, h => by
    simp only [RepT] at h
    obtain ⟨u, r, rfl, q, q'⟩ := h
    obtain ⟨h1, h2⟩ := vgetT_rep (k := k) q'
    by_cases e : j = k
    · subst e
      refine ⟨fun d' e => ?_, fun e => ?_⟩
      · simp [vget] at e; subst e
        exact ⟨u, valV_pos rfl, q⟩
      · simp [vget] at e
    · refine ⟨fun d' e' => ?_, fun e' => ?_⟩
      · have : vget ds k = some d' := by simpa [vget, List.find?_cons, e] using e'
        obtain ⟨v, a, b⟩ := h1 d' this
        exact ⟨v, by rw [valV_neg (by exact e)]; exact a, b⟩
      · rw [valV_neg (by exact e)]
        exact h2 (by simpa [vget, List.find?_cons, e] using e')
/-- a dict asked by a key: a value or an object of the store -/
theorem get1_rep {T : Tab} {K : PySem.W.Frag} {H : Hp} {ι κ : List Addr} {S : Sto} {d k : D} {v u : V} {r : Option D} (w : Wd T K H ι κ S) (rd : Rep K H ι κ d v) (rk : Rep K H ι κ k u) (e : get1D d k S = some r) :
    ∃ a o, v = .ref a ∧ DGet H a u o ∧ (∀ x, r = some x → ∃ y, o = some y ∧ Rep K H ι κ x y) ∧ (r = none → o = none) := by
  have flatK : ∀ {a : Addr} {kvs : List (Ky × D)} {vs : List (Ky × V)} (_ : Rd H a (.dK vs)) (_ : RepK K H ι κ kvs vs) (_ : (k.ky.map fun k => vget kvs k) = some r), ∃ o, DGet H a u o ∧ (∀ x, r = some x → ∃ y, o = some y ∧ Rep K H ι κ x y) ∧ (r = none → o = none) := by
    intro a kvs vs h1 h2 h3
    obtain ⟨kk, e1, e2⟩ := Option.map_eq_some_iff.mp h3
    obtain ⟨h4, h5⟩ := vget_rep (k := kk) h2
    refine ⟨valV vs kk, .inl ⟨vs, kk, h1, (ky_rep rk e1).1, rfl⟩, fun x hx => h4 x (by rw [e2, hx]), fun hx => h5 (by rw [e2, hx])⟩
  cases d with
  | dic kvs =>
    simp only [Rep] at rd
    obtain ⟨a, od, vs, rfl, h1, h2⟩ := rd
    obtain ⟨o, h⟩ := flatK (.inr ⟨od, h1⟩) h2 (by simpa [get1D] using e)
    exact ⟨a, o, rfl, h⟩
  | ref n =>
    simp only [Rep] at rd
    obtain ⟨a, rfl, ha⟩ := rd
    simp only [get1D] at e
    cases hs : S.get n with
    | none => rw [hs] at e; simp at e
    | some ob =>
      rw [hs] at e
      cases ob with
      | dic kvs =>
        obtain ⟨vs, h1, h2⟩ := w.ob n a _ ha hs
        obtain ⟨o, h⟩ := flatK (.inl h1) h2 (by simpa using e)
        exact ⟨a, o, rfl, h⟩
      | dit kvs => simp [D.tky] at e
      | _ => simp at e
  | dit kvs => simp [get1D, D.tky] at e
  | _ => simp [get1D] at e
theorem tky_none (d : D) : d.tky = none := rfl
theorem in_get1 {x y : D} {S : Sto} {b : Bool} (h : inD x y S = some b) (hd : isD y S = true) : ∃ r, get1D y x S = some r ∧ b = r.isSome := by
  cases y with
  | dic kvs =>
    simp only [inD, Option.map_eq_some_iff] at h
    obtain ⟨k, e, rfl⟩ := h
    exact ⟨_, by simp [get1D, e], rfl⟩
  | ref n =>
    simp only [inD, isD] at h hd
    cases hs : S.get n with
    | none => rw [hs] at h; simp at h
    | some ob =>
      rw [hs] at h hd
      cases ob with
      | dic kvs =>
        simp only [Option.map_eq_some_iff] at h
        obtain ⟨k, e, rfl⟩ := h
        exact ⟨_, by simp [get1D, hs, e], rfl⟩
      | dit kvs => simp [D.tky] at h
      | _ => simp at hd
  | dit kvs => simp [inD, D.tky] at h
  | _ => simp [isD] at hd
/-! ### the rules -/
section
variable {X : Cx} {T : Tab}
/-- in: dicts -/
def rInDict (neg : Bool) : R2 := fun x y H Q => ∃ a o, y = .ref a ∧ DGet H a x o ∧ Q (.bl (if neg then !o.isSome else o.isSome)) H
theorem op_inDict (hu : X.A.units + 1 < cLine) : OpR X (compareOp .In) (rInDict false) := by
  intro pins s σ H x y v u Q I rx ry h
  obtain ⟨a, o, rfl, g, q⟩ := h
  cases (show u = Value.ref a from ry)
  exact d_in hu I g rx fun s3 I3 => ⟨.bl o.isSome, H, I3, rfl, q⟩
theorem op_notInDict (hu : X.A.units + 1 < cLine) : OpR X (compareOp .NotIn) (rInDict true) := by
  intro pins s σ H x y v u Q I rx ry h
  obtain ⟨a, o, rfl, g, q⟩ := h
  cases (show u = Value.ref a from ry)
  exact d_notIn hu I g rx fun s3 I3 => ⟨.bl (!o.isSome), H, I3, rfl, q⟩
def rCmp (T : Tab) (K : PySem.W.Frag) (o : CmpOp) : R2 := fun v u H Q => ∃ ι κ S x y b, Wd T K H ι κ S ∧ Rep K H ι κ x v ∧ Rep K H ι κ y u ∧ cmpD o x y S = some b ∧ Q (.bl b) H
theorem cps1 {w : Str} {c : Nat} (h : w.cps.toList = [c]) : w = ⟨#[c]⟩ := by
  obtain ⟨a⟩ := w
  have : a = #[c] := by
    have := congrArg List.toArray h
    simpa using this
  rw [this]
/-- what in asks, both ways -/
theorem in_sound (hu : X.A.units + 65 < cLine) (neg : Bool) {H : Hp} {ι κ : List Addr} {S : Sto} {x y : D} {v u : V} {b : Bool} {pins : List (Addr × Obj)} {s : Shared} {σ : L2.St} {vv uu : Value} {Q : VK}
    (w : Wd T X.K H ι κ S) (rx : Rep X.K H ι κ x v) (ry : Rep X.K H ι κ y u) (e : inD x y S = some b) (I : L2.Inv X pins σ H s) (rv : RelV v vv) (ru : RelV u uu) (q : Q (.bl (if neg then !b else b)) H) :
    wpAny (model X.prog X.w) X.A (compareOp (if neg then .NotIn else .In) vv uu) (EP X pins σ Q) X.xe s := by
  have dict : isD y S = true → wpAny (model X.prog X.w) X.A (compareOp (if neg then .NotIn else .In) vv uu) (EP X pins σ Q) X.xe s := fun hd => by
    obtain ⟨r, h1, h2⟩ := in_get1 e hd
    obtain ⟨a, o, rfl, g, h3, h4⟩ := get1_rep w ry rx h1
    have e2 : o.isSome = b := by
      rw [h2]
      cases r with
      | none => rw [h4 rfl]; rfl
      | some z => obtain ⟨y', hy, _⟩ := h3 z rfl; rw [hy]; rfl
    cases neg with
    | false => exact op_inDict (by omega) pins s σ H _ _ _ _ Q I rv ru ⟨a, o, rfl, g, by rw [e2]; exact q⟩
    | true => exact op_notInDict (by omega) pins s σ H _ _ _ _ Q I rv ru ⟨a, o, rfl, g, by rw [e2]; exact q⟩
  have seq : ∀ {a : Addr} {ds : List D} {vs : List V} (_ : SqL X.K H a vs ∨ SqT X.K H a vs) (_ : RepL X.K H ι κ ds vs) (_ : flat x = true) (_ : ds.all flat = true) (_ : inL x ds = b) (_ : u = .ref a),
      wpAny (model X.prog X.w) X.A (compareOp (if neg then .NotIn else .In) vv uu) (EP X pins σ Q) X.xe s := fun {a ds vs} h1 h2 h3 h4 h5 h6 => by
    subst h6
    obtain ⟨h7, h8⟩ := inL_flat rx h3 h2 h4
    rw [h5] at h8
    cases neg with
    | false => exact op_in_seq pins s σ H _ _ _ _ Q I rv ru ⟨a, vs, rfl, h1, flat_rep rx h3, h7, by rw [← h8]; exact q⟩
    | true => exact op_notIn_seq pins s σ H _ _ _ _ Q I rv ru ⟨a, vs, rfl, h1, flat_rep rx h3, h7, by rw [← h8]; exact q⟩
  cases y with
  | str z =>
    cases x with
    | str t =>
      simp only [inD] at e
      simp only [Rep] at rx ry
      obtain ⟨rfl, _⟩ := rx
      obtain ⟨rfl, _⟩ := ry
      split at e
      · rename_i c hc
        simp only [Option.some.injEq] at e
        have := cps1 hc
        subst this
        cases neg with
        | false => exact op_in_sign pins s σ H _ _ _ _ Q I rv ru ⟨c, z, rfl, rfl, by rw [e]; exact q⟩
        | true => exact op_notIn_sign pins s σ H _ _ _ _ Q I rv ru ⟨c, z, rfl, rfl, by rw [e]; exact q⟩
      · cases e
    | _ => simp [inD] at e
  | tup ds =>
    simp only [inD, Option.ite_none_right_eq_some, Bool.and_eq_true, Option.some.injEq] at e
    obtain ⟨⟨f1, f2⟩, e⟩ := e
    simp only [Rep] at ry
    obtain ⟨a, vs, rfl, h1, h2⟩ := ry
    exact seq (.inr h1) h2 f1 f2 e rfl
  | lst ds =>
    have ry' := ry
    simp only [Rep] at ry
    obtain ⟨a, vs, rfl, h1, _, _, h2⟩ := ry
    simp only [inD] at e
    by_cases hf : (flat x && ds.all flat) = true
    · rw [if_pos hf] at e
      rw [Bool.and_eq_true] at hf
      exact seq (.inl (.inl (.inl h1))) h2 hf.1 hf.2 (by simpa using e) rfl
    · rw [if_neg hf] at e
      simp only [Option.ite_none_right_eq_some, Bool.and_eq_true, Option.some.injEq] at e
      obtain ⟨⟨f1, f2⟩, e⟩ := e
      obtain ⟨a1, a2, a3⟩ := dp_of rx f1
      have f3 : shp (.lst ds) 61 = true := by simpa [shp] using f2
      obtain ⟨b1, b2, b3⟩ := dp_of ry' f3
      have s1 : SeqAt.shaped (py x) = true := by simp only [SeqAt.shaped, a2, Bool.true_and, decide_eq_true_eq]; omega
      have s2 : SeqAt.shaped (.list (pyL ds)) = true := by
        have : py (.lst ds) = .list (pyL ds) := by simp [py]
        rw [this] at b2 b3
        simp only [SeqAt.shaped, b2, Bool.true_and, decide_eq_true_eq]; omega
      have b1' : Dp X.K H (.ref a) (.list (pyL ds)) := by simpa [py] using b1
      rw [inL_py f1 f2] at e
      cases neg with
      | false => exact op_inD hu pins s σ H _ _ _ _ Q I rv ru ⟨_, _, a1, b1', s1, s2, by rw [e]; exact q⟩
      | true => exact op_notInD hu pins s σ H _ _ _ _ Q I rv ru ⟨_, _, a1, b1', s1, s2, by rw [e]; exact q⟩
  | dic kvs => exact dict rfl
  | dit kvs => exact dict rfl
  | ref n =>
    have ry' := ry
    simp only [Rep] at ry
    obtain ⟨a, rfl, ha⟩ := ry
    cases hs : S.get n with
    | none => simp [inD, hs] at e
    | some ob =>
      cases ob with
      | lst ds =>
        simp only [inD, hs, Option.ite_none_right_eq_some, Bool.and_eq_true, Option.some.injEq] at e
        obtain ⟨⟨f1, f2⟩, e⟩ := e
        obtain ⟨vs, h1, h2⟩ := w.ob n a _ ha hs
        exact seq (.inl (.inl (.inl h1))) h2 f1 f2 e rfl
      | dic kvs => exact dict (by simp [isD, hs])
      | dit kvs => exact dict (by simp [isD, hs])
      | ins C fs => simp [inD, hs] at e
  | _ => simp [inD] at e
theorem eq_shaped {H : Hp} {ι κ : List Addr} {x : D} {v : V} (r : Rep X.K H ι κ x v) (h : shp x 60 = true) : Dp X.K H v (py x) ∧ SeqAt.shaped (py x) = true := by
  obtain ⟨a1, a2, a3⟩ := dp_of r h
  refine ⟨a1, ?_⟩
  simp only [SeqAt.shaped, a2, Bool.true_and, decide_eq_true_eq]; omega
theorem cmp_sound (hu : X.A.units + 65 < cLine) (o : CmpOp) : OpR X (compareOp o) (rCmp T X.K o) := by
  intro pins s σ H v u vv uu Q I rv ru h
  obtain ⟨ι, κ, S, x, y, b, w, rx, ry, e, q⟩ := h
  have ord : ∀ {o' : CmpOp} (_ : o = o') (f : Int → Int → Bool) (g : Str → Str → Bool) (_ : cmpD o' x y S = some b → (∃ i j, x = .int i ∧ y = .int j ∧ b = f i j) ∨ ∃ i j, x = .str i ∧ y = .str j ∧ b = g i j)
      (_ : OpR X (compareOp o') (rI0 fun i j => .bl (f i j))) (_ : OpR X (compareOp o') (fun x y H Q => ∃ i j, x = .str i ∧ y = .str j ∧ Q (.bl (g i j)) H)),
      wpAny (model X.prog X.w) X.A (compareOp o vv uu) (EP X pins σ Q) X.xe s := fun {o'} eo f g h h1 h2 => by
    subst eo
    rcases h e with ⟨i, j, rfl, rfl, eb⟩ | ⟨i, j, rfl, rfl, eb⟩
    · simp only [Rep] at rx ry
      subst rx ry
      exact h1 pins s σ H _ _ _ _ Q I rv ru ⟨i, j, rfl, rfl, by show Q (.bl (f i j)) H; rw [← eb]; exact q⟩
    · simp only [Rep] at rx ry
      obtain ⟨rfl, _⟩ := rx
      obtain ⟨rfl, _⟩ := ry
      exact h2 pins s σ H _ _ _ _ Q I rv ru ⟨i, j, rfl, rfl, by rw [← eb]; exact q⟩
  have cas : ∀ {f : Int → Int → Bool} {g : Str → Str → Bool}, ordD f g x y = some b → (∃ i j, x = .int i ∧ y = .int j ∧ b = f i j) ∨ ∃ i j, x = .str i ∧ y = .str j ∧ b = g i j := fun {f g} h => by
    clear rx ry e ord q
    cases x <;> cases y <;> simp [ordD] at h
    · exact .inl ⟨_, _, rfl, rfl, h.symm⟩
    · exact .inr ⟨_, _, rfl, rfl, h.symm⟩
  have sam : ∀ {c : Bool}, sameD x y = some c → (y = .non ∧ c = decide (v = .non) ∧ u = .non) ∨ ∃ i j, x = .bl i ∧ y = .bl j ∧ c = decide (i = j) := fun {c} h => by
    cases y with
    | non =>
      simp only [sameD, Option.some.injEq] at h
      simp only [Rep] at ry
      refine .inl ⟨rfl, ?_, ry⟩
      rw [← h]
      cases x <;> simp only [Rep] at rx <;> first | (subst rx; simp) | (obtain ⟨rfl, _⟩ := rx; simp) | (obtain ⟨a, _, rfl, _⟩ := rx; simp) | (obtain ⟨a, rfl, _⟩ := rx; simp) | (obtain ⟨a, _, _, rfl, _⟩ := rx; simp)
    | bl j =>
      cases x with
      | bl i => simp only [sameD, Option.some.injEq] at h; exact .inr ⟨i, j, rfl, rfl, h.symm⟩
      | _ => simp [sameD] at h
    | _ => simp [sameD] at h
  cases o with
  | Eq =>
    simp only [cmpD, Option.ite_none_right_eq_some, Bool.and_eq_true, Option.some.injEq] at e
    obtain ⟨⟨f1, f2⟩, e⟩ := e
    obtain ⟨a1, a2⟩ := eq_shaped rx f1
    obtain ⟨b1, b2⟩ := eq_shaped ry f2
    rw [eqv_py f1 f2] at e
    exact op_eqD (by omega) pins s σ H _ _ _ _ Q I rv ru ⟨_, _, a1, b1, a2, b2, by rw [e]; exact q⟩
  | NotEq =>
    simp only [cmpD, Option.ite_none_right_eq_some, Bool.and_eq_true, Option.some.injEq] at e
    obtain ⟨⟨f1, f2⟩, e⟩ := e
    obtain ⟨a1, a2⟩ := eq_shaped rx f1
    obtain ⟨b1, b2⟩ := eq_shaped ry f2
    rw [eqv_py f1 f2] at e
    exact op_neD (by omega) pins s σ H _ _ _ _ Q I rv ru ⟨_, _, a1, b1, a2, b2, by rw [e]; exact q⟩
  | Lt => exact ord rfl (fun i j => decide (i < j)) (fun x y => ltS x y) (fun h => cas (by simpa only [cmpD] using h)) op_lt op_lt_str
  | LtE => exact ord rfl (fun i j => decide (i ≤ j)) (fun x y => !ltS y x) (fun h => cas (by simpa only [cmpD] using h)) op_le op_le_str
  | Gt => exact ord rfl (fun i j => decide (j < i)) (fun x y => ltS y x) (fun h => cas (by simpa only [cmpD] using h)) op_gt op_gt_str
  | GtE => exact ord rfl (fun i j => decide (j ≤ i)) (fun x y => !ltS x y) (fun h => cas (by simpa only [cmpD] using h)) op_ge op_ge_str
  | In => exact in_sound hu false w rx ry (by simpa only [cmpD] using e) I rv ru (by simpa using q)
  | NotIn =>
    simp only [cmpD, Option.map_eq_some_iff] at e
    obtain ⟨c, e', rfl⟩ := e
    exact in_sound hu true w rx ry e' I rv ru (by simpa using q)
  | Is =>
    rcases sam (by simpa only [cmpD] using e) with ⟨rfl, eb, eu⟩ | ⟨i, j, rfl, rfl, eb⟩
    · exact op_isN pins s σ H _ _ _ _ Q I rv ru ⟨eu, by rw [← eb]; exact q⟩
    · simp only [Rep] at rx ry
      subst rx ry
      exact op_is_bl pins s σ H _ _ _ _ Q I rv ru ⟨i, j, rfl, rfl, by rw [← eb]; exact q⟩
  | IsNot =>
    simp only [cmpD, Option.map_eq_some_iff] at e
    obtain ⟨c, e', rfl⟩ := e
    rcases sam e' with ⟨rfl, eb, eu⟩ | ⟨i, j, rfl, rfl, eb⟩
    · exact op_notN pins s σ H _ _ _ _ Q I rv ru ⟨eu, by rw [← eb]; exact q⟩
    · simp only [Rep] at rx ry
      subst rx ry
      exact op_isnot_bl pins s σ H _ _ _ _ Q I rv ru ⟨i, j, rfl, rfl, by rw [← eb]; exact q⟩
end
end MP
end

section
set_option Elab.async false
set_option linter.all false
set_option maxRecDepth 100000
/-! MpF: subscripts, slices, built-in functions by values. -/
namespace MP
open PySem PySem.Spec PyProof.Rows L2
section
variable {X : Cx} {T : Tab}
/-! ### subscripts -/
def rIxDict : R2 := fun x y H Q => ∃ a v, x = .ref a ∧ DGet H a y (some v) ∧ Q v H
theorem ix_dict (hu : X.A.units + 1 < cLine) : IxR X rIxDict := by
  intro value slice pins s σ H x y v u Q I rx ry h hs
  obtain ⟨a, z, rfl, g, q⟩ := h
  cases (show v = Value.ref a from rx)
  exact tail_any (dict_typeIs I g) PySem.F.slot_dict_getitem.lookup (d_getItem hu I g ry fun w' s3 I3 rw' => ⟨z, H, I3, rw', q⟩) hs
def rIxV (T : Tab) (K : PySem.W.Frag) : R2 := fun v u H Q => ∃ ι κ S x y d, Wd T K H ι κ S ∧ Rep K H ι κ x v ∧ Rep K H ι κ y u ∧ ixD x y S = some d ∧ VPost T K ι κ H S d Q
theorem RepL.atI {K : PySem.W.Frag} {H : Hp} {ι κ : List Addr} {ds : List D} {vs : List V} {i : Int} {d : D} (h : RepL K H ι κ ds vs) (e : L2.atI ds i = some d) : ∃ v, L2.atI vs i = some v ∧ Rep K H ι κ d v := by
  unfold L2.atI at e ⊢
  rw [← h.length]
  cases q : L2.ixN ds.length i with
  | none => rw [q] at e; cases e
  | some j =>
    rw [q] at e
    exact h.get e
theorem ix_get1 {x y : D} {S : Sto} {d : D} (h : ixD x y S = some d) (hd : isD x S = true) : get1D x y S = some (some d) := by
  cases x with
  | dic kvs =>
    simp only [ixD] at h
    cases e : y.ky with
    | none => rw [e] at h; cases h
    | some k => rw [e] at h; simp [get1D, e, h]
  | ref n =>
    simp only [ixD, isD] at h hd
    cases hs : S.get n with
    | none => rw [hs] at h; simp at h
    | some ob =>
      rw [hs] at h hd
      cases ob with
      | dic kvs =>
        cases e : y.ky with
        | none => simp [e] at h
        | some k => simp [e] at h; simp [get1D, hs, e, h]
      | dit kvs => simp [D.tky] at h
      | _ => simp at hd
  | dit kvs => simp [ixD, D.tky] at h
  | _ => simp [isD] at hd
theorem ix_sound (hu : X.A.units + 1 < cLine) : IxR X (rIxV T X.K) := by
  intro value slice pins s σ H v u vv uu Q I rv ru h hs
  obtain ⟨ι, κ, S, x, y, d, w, rx, ry, e, q⟩ := h
  have dict : isD x S = true → wpAny (model X.prog X.w) X.A (subscriptTail value slice vv uu) (EP X pins σ Q) X.xe s := fun hd => by
    obtain ⟨a, o, rfl, g, h3, _⟩ := get1_rep w rx ry (ix_get1 e hd)
    obtain ⟨z, rfl, rz⟩ := h3 d rfl
    exact ix_dict hu value slice pins s σ H _ _ _ _ Q I rv ru ⟨a, z, rfl, g, q.same w rz⟩ hs
  have lst : ∀ {a : Addr} {ds : List D} {vs : List V} {k : Int} (_ : SqL X.K H a vs) (_ : RepL X.K H ι κ ds vs) (_ : y = .int k) (_ : L2.atI ds k = some d) (_ : v = .ref a),
      wpAny (model X.prog X.w) X.A (subscriptTail value slice vv uu) (EP X pins σ Q) X.xe s := fun {a ds vs k} h1 h2 h3 h4 h5 => by
    subst h3 h5
    simp only [Rep] at ry
    subst ry
    obtain ⟨z, hz, rz⟩ := h2.atI h4
    exact ix_list value slice pins s σ H _ _ _ _ Q I rv ru ⟨a, vs, k, z, rfl, rfl, h1, hz, q.same w rz⟩ hs
  cases x with
  | tup ds =>
    cases y with
    | int k =>
      simp only [Rep] at rx ry
      subst ry
      obtain ⟨a, vs, rfl, h1, h2⟩ := rx
      obtain ⟨z, hz, rz⟩ := h2.atI (by simpa only [ixD] using e)
      exact ix_tup value slice pins s σ H _ _ _ _ Q I rv ru ⟨a, vs, k, z, rfl, rfl, h1, hz, q.same w rz⟩ hs
    | _ => simp [ixD] at e
  | lst ds =>
    cases y with
    | int k =>
      simp only [Rep] at rx
      obtain ⟨a, vs, rfl, h1, _, _, h2⟩ := rx
      exact lst (.inl (.inl h1)) h2 rfl (by simpa only [ixD] using e) rfl
    | _ => simp [ixD] at e
  | rol ns =>
    cases y with
    | int k =>
      simp only [Rep] at rx
      obtain ⟨a, rfl, h1, _⟩ := rx
      have hq : SqL X.K H a (ns.map V.int) := h1.elim (fun z => .inl z.1) .inr
      refine lst (ds := ns.map D.int) hq (RepL.ints ns) rfl ?_ rfl
      simp only [ixD, Option.map_eq_some_iff] at e
      obtain ⟨i, e, rfl⟩ := e
      unfold L2.atI at e ⊢
      rw [List.length_map]
      cases q : L2.ixN ns.length k with
      | none => rw [q] at e; cases e
      | some j =>
        rw [q] at e
        simp only [Option.bind_some] at e ⊢
        rw [List.getElem?_map, e]; rfl
    | _ => simp [ixD] at e
  | str z =>
    cases y with
    | int k =>
      simp only [Rep] at rx ry
      subst ry
      obtain ⟨rfl, hz⟩ := rx
      simp only [ixD, Option.ite_none_right_eq_some, Option.map_eq_some_iff] at e
      obtain ⟨hl, c, e, rfl⟩ := e
      refine ix_str value slice pins s σ H _ _ _ _ Q I rv ru ⟨z, k, c, rfl, rfl, LIM_line hl, e, q.same w ?_⟩ hs
      simp only [sgn, Rep]
      refine ⟨trivial, ?_⟩
      obtain ⟨j, _, h2, _⟩ := atI_get e
      have := strOk_mem hz (List.mem_of_getElem? h2)
      simp [PyData.strOk, this]
    | _ => simp [ixD] at e
  | dic kvs => exact dict rfl
  | dit kvs => exact dict rfl
  | ref n =>
    have rx' := rx
    simp only [Rep] at rx
    obtain ⟨a, rfl, ha⟩ := rx
    cases hs' : S.get n with
    | none => simp [ixD, hs'] at e
    | some ob =>
      cases ob with
      | lst ds =>
        cases y with
        | int k =>
          obtain ⟨vs, h1, h2⟩ := w.ob n a _ ha hs'
          exact lst (.inl (.inl h1)) h2 rfl (by simpa only [ixD, hs'] using e) rfl
        | _ => simp [ixD, hs'] at e
      | dic kvs => exact dict (by simp [isD, hs'])
      | dit kvs => exact dict (by simp [isD, hs'])
      | ins C fs => simp [ixD, hs'] at e
  | _ => simp [ixD] at e
/-! ### slices -/
def rSlV (T : Tab) (K : PySem.W.Frag) : V → Option Int → Option Int → Hp → VK → Prop := fun v lo hi H Q => ∃ ι κ S x d, Wd T K H ι κ S ∧ Rep K H ι κ x v ∧ slD x lo hi S = some d ∧ VPost T K ι κ H S d Q
theorem cut_map {α β : Type} (f : α → β) (xs : List α) (lo hi : Option Int) : cut (xs.map f) lo hi = (cut xs lo hi).map f := by
  unfold cut
  rw [List.length_map, List.map_take, List.map_drop]
theorem cutV_cut (xs : List V) (lo hi : Option Int) : cutV xs lo hi = cut xs lo hi := rfl
theorem cut_mem {α : Type} {xs : List α} {lo hi : Option Int} {x : α} (h : x ∈ cut xs lo hi) : x ∈ xs := List.mem_of_mem_drop (List.mem_of_mem_take h)
theorem sl_sound : SlR X (rSlV T X.K) := by
  intro pins s σ H v vv vl vu lo hi sl Q I rv hs pl pu h
  obtain ⟨ι, κ, S, x, d, w, rx, e, q⟩ := h
  have lst : ∀ {a : Addr} {ds : List D} {vs : List V} (_ : SqL X.K H a vs) (_ : RepL X.K H ι κ ds vs) (_ : d = .lst (cut ds lo hi)) (_ : v = .ref a), _ := fun {a ds vs} h1 h2 h3 h4 => by
    subst h3 h4
    exact sl_list pins s σ H _ _ vl vu lo hi sl Q I rv hs pl pu ⟨a, vs, rfl, h1, fun p hp => (NPost.of w q).lst w (h2.cut lo hi) hp⟩
  cases x with
  | tup ds =>
    have rx' := rx
    simp only [Rep] at rx
    obtain ⟨a, vs, rfl, h1, h2⟩ := rx
    simp only [slD, Option.some.injEq] at e
    subst e
    refine sl_tupA pins s σ H _ _ vl vu lo hi sl Q I rv hs pl pu ⟨a, vs, rfl, h1, fun hw => ?_, fun _ p hp => q.tup w (h2.cut lo hi) hp⟩
    have : cut ds lo hi = ds := by
      unfold cut
      rw [h2.length, hw.1, hw.2]
      simp [← h2.length]
    rw [this] at q
    exact q.same w rx'
  | lst ds =>
    simp only [Rep] at rx
    obtain ⟨a, vs, rfl, h1, _, _, h2⟩ := rx
    exact lst (.inl (.inl h1)) h2 (by simpa only [slD, Option.some.injEq, eq_comm] using e) rfl
  | rol ns =>
    simp only [Rep] at rx
    obtain ⟨a, rfl, h1, _⟩ := rx
    have hq : SqL X.K H a (ns.map V.int) := h1.elim (fun z => .inl z.1) .inr
    refine lst (ds := ns.map D.int) hq (RepL.ints ns) ?_ rfl
    simp only [slD, Option.some.injEq] at e
    rw [← e, cut_map]
  | str z =>
    simp only [Rep] at rx
    obtain ⟨rfl, hz⟩ := rx
    simp only [slD, Option.ite_none_right_eq_some, Option.some.injEq] at e
    obtain ⟨hl, rfl⟩ := e
    refine sl_str pins s σ H _ _ vl vu lo hi sl Q I rv hs pl pu ⟨z, rfl, LIM_line hl, ?_⟩
    have : cutS z lo hi = ⟨(cut z.cps.toList lo hi).toArray⟩ := by
      unfold cutS cut
      have : z.cps.toList.length = z.length := by simp [Str.length]
      rw [this]
    rw [this]
    refine q.same w ?_
    simp only [Rep]
    exact ⟨trivial, strOk_of fun c hc => strOk_mem hz (cut_mem hc)⟩
  | ref n =>
    simp only [Rep] at rx
    obtain ⟨a, rfl, ha⟩ := rx
    cases hs' : S.get n with
    | none => simp [slD, hs'] at e
    | some ob =>
      cases ob with
      | lst ds =>
        obtain ⟨vs, h1, h2⟩ := w.ob n a _ ha hs'
        exact lst (.inl (.inl h1)) h2 (by simpa only [slD, hs', Option.some.injEq, eq_comm] using e) rfl
      | _ => simp [slD, hs'] at e
  | _ => simp [slD] at e
/-! ### isinstance -/
def Ty.name : Ty → String
  | .int => "int" | .bool => "bool" | .str => "str" | .tuple => "tuple" | .list => "list" | .dict => "dict"
def rIsiV (T : Tab) (K : PySem.W.Frag) (t : Ty) : List V → Hp → VK → Prop := fun vs H Q => ∃ ι κ S x v b, vs = [v, .ty t.name] ∧ Wd T K H ι κ S ∧ Rep K H ι κ x v ∧ isTy x t = some b ∧ Q (.bl b) H
theorem isi_sound (t : Ty) : CallR X (.builtin "isinstance") (rIsiV T X.K t) := by
  intro pins s σ H xs us Q I r h
  obtain ⟨ι, κ, S, x, v, b, rfl, w, rx, e, q⟩ := h
  have go : ∀ {T : String} (_ : TyX X.K H v (.type T)) (_ : kitB T t.name = some b), wpAny (model X.prog X.w) X.A (call (.builtin "isinstance") us) (EP X pins σ Q) X.xe s := fun {T} h1 h2 =>
    call_isi pins s σ H _ us Q I r ⟨v, .ty t.name, .type T, .type t.name, b, rfl, .ty _, h1, kit_ty h2, q⟩
  cases x with
  | non => simp only [Rep] at rx; subst rx; exact go (.base .non) (by simp only [isTy, Option.some.injEq] at e; subst e; cases t <;> decide +kernel)
  | bl c => simp only [Rep] at rx; subst rx; exact go (.base (.bl c)) (by simp only [isTy, Option.some.injEq] at e; subst e; cases t <;> decide +kernel)
  | int c => simp only [Rep] at rx; subst rx; exact go (.base (.int c)) (by simp only [isTy, Option.some.injEq] at e; subst e; cases t <;> decide +kernel)
  | str c => simp only [Rep] at rx; obtain ⟨rfl, _⟩ := rx; exact go (.base (.str c)) (by simp only [isTy, Option.some.injEq] at e; subst e; cases t <;> decide +kernel)
  | tup ds =>
    simp only [Rep] at rx
    obtain ⟨a, vs, rfl, h1, _⟩ := rx
    have k : kitB "tuple" t.name = some b := by simp only [isTy, Option.some.injEq] at e; subst e; cases t <;> decide +kernel
    rcases h1 with (h1 | ⟨o, h1⟩) | ⟨o, its, n, h1, h2, _⟩
    · exact go (.base (.tup h1)) k
    · exact go (.fTuple h1) k
    · exact go (.kTuple h1 h2) k
  | lst ds =>
    simp only [Rep] at rx
    obtain ⟨a, vs, rfl, h1, _⟩ := rx
    exact go (.base (.lst h1)) (by simp only [isTy, Option.some.injEq] at e; subst e; cases t <;> decide +kernel)
  | rol ds =>
    simp only [Rep] at rx
    obtain ⟨a, rfl, h1, _⟩ := rx
    have k : kitB "list" t.name = some b := by simp only [isTy, Option.some.injEq] at e; subst e; cases t <;> decide +kernel
    rcases h1 with ⟨h1 | ⟨o, h1⟩, _⟩ | ⟨o, its, n, h1, h2, _⟩
    · exact go (.base (.lst h1)) k
    · exact go (.base (.frz h1)) k
    · exact go (.kList h1 h2) k
  | dic ds =>
    simp only [Rep] at rx
    obtain ⟨a, o, vs, rfl, h1, _⟩ := rx
    have k : kitB "dict" t.name = some b := by simp only [isTy, Option.some.injEq] at e; subst e; cases t <;> decide +kernel
    exact go (.fDict h1) k
  | dit ds => simp [isTy] at e
  | ref n => simp [isTy] at e
/-! ### order -/
theorem ltS_irrefl (x : Str) : ltS x x = false := by unfold ltS; simp
theorem ltS_tri {x y : Str} (h1 : ltS x y = false) (h2 : ltS y x = false) : x = y := by
  unfold ltS at h1 h2
  have a := of_decide_eq_false h1
  have b := of_decide_eq_false h2
  have e : x.cps.toList = y.cps.toList := List.le_antisymm (by simpa [List.not_lt] using b) (by simpa [List.not_lt] using a)
  obtain ⟨x⟩ := x
  obtain ⟨y⟩ := y
  rw [show x = y from Array.toList_inj.mp e]
theorem ltS_trans {x y z : Str} (h1 : ltS y x = false) (h2 : ltS z y = false) : ltS z x = false := by
  unfold ltS at *
  have a := of_decide_eq_false h1
  have b := of_decide_eq_false h2
  refine decide_eq_false ?_
  rw [List.not_lt] at a b ⊢
  exact List.le_trans a b
theorem insS_perm (x : Str) : ∀ l : List Str, (insS x l).Perm (x :: l)
  | [] => .refl _
  | y :: r => by
    unfold insS
    by_cases h : ltS y x = true
    · rw [if_pos h]
      exact ((insS_perm x r).cons y).trans (.swap x y r)
    · rw [if_neg h]
theorem sortS_perm : ∀ l : List Str, (sortS l).Perm l
  | [] => .refl _
  | x :: r => (insS_perm x _).trans ((sortS_perm r).cons x)
def RisS (l : List Str) : Prop := l.Pairwise fun a b => ltS b a = false
theorem insS_ris {x : Str} : ∀ {l : List Str}, RisS l → RisS (insS x l)
  | [], _ => by simp [insS, RisS]
  | y :: r, h => by
    unfold insS
    have h' := List.pairwise_cons.mp h
    by_cases q : ltS y x = true
    · rw [if_pos q]
      refine List.pairwise_cons.mpr ⟨fun b hb => ?_, insS_ris h'.2⟩
      rcases List.mem_cons.mp ((insS_perm x r).mem_iff.mp hb) with rfl | hb
      · cases e : ltS b y with
        | false => rfl
        | true =>
          have := ltS_irrefl y
          unfold ltS at e q this
          have := List.lt_trans (of_decide_eq_true q) (of_decide_eq_true e)
          exact absurd this (by simp)
      · exact h'.1 b hb
    · rw [if_neg q]
      have q : ltS y x = false := by simpa using q
      refine List.pairwise_cons.mpr ⟨fun b hb => ?_, h⟩
      rcases List.mem_cons.mp hb with rfl | hb
      · exact q
      · exact ltS_trans q (h'.1 b hb)
theorem sortS_ris : ∀ l : List Str, RisS (sortS l)
  | [] => .nil
  | _ :: r => insS_ris (sortS_ris r)
theorem risS_of : ∀ {l : List Str}, sortedS l = true → RisS l
  | [], _ => .nil
  | [x], _ => by simp [RisS]
  | x :: y :: r, h => by
    have h : (!ltCps y.cps.toList x.cps.toList && risingS y r) = true := h
    rw [Bool.and_eq_true] at h
    have ih : RisS (y :: r) := risS_of (l := y :: r) h.2
    have hxy : ltS y x = false := by
      unfold ltS
      rw [← ltCps_eq]
      simpa using h.1
    refine List.pairwise_cons.mpr ⟨fun b hb => ?_, ih⟩
    rcases List.mem_cons.mp hb with rfl | hb
    · exact hxy
    · exact ltS_trans hxy ((List.pairwise_cons.mp ih).1 b hb)
theorem sortS_eq {l ys : List Str} (p : ys.Perm l) (h : sortedS ys = true) : ys = sortS l :=
  List.Perm.eq_of_pairwise (le := fun a b => ltS b a = false) (fun a b _ _ h1 h2 => ltS_tri h2 h1) (risS_of h) (sortS_ris l) (p.trans (sortS_perm l).symm)
theorem insI_perm (x : Int) : ∀ l : List Int, (insI x l).Perm (x :: l)
  | [] => .refl _
  | y :: r => by
    unfold insI
    by_cases h : y < x
    · rw [if_pos h]
      exact ((insI_perm x r).cons y).trans (.swap x y r)
    · rw [if_neg h]
theorem sortI_perm : ∀ l : List Int, (sortI l).Perm l
  | [] => .refl _
  | x :: r => (insI_perm x _).trans ((sortI_perm r).cons x)
theorem insI_ris {x : Int} : ∀ {l : List Int}, l.Pairwise (· ≤ ·) → (insI x l).Pairwise (· ≤ ·)
  | [], _ => by simp [insI]
  | y :: r, h => by
    unfold insI
    have h' := List.pairwise_cons.mp h
    by_cases q : y < x
    · rw [if_pos q]
      refine List.pairwise_cons.mpr ⟨fun b hb => ?_, insI_ris h'.2⟩
      rcases List.mem_cons.mp ((insI_perm x r).mem_iff.mp hb) with rfl | hb
      · omega
      · exact h'.1 b hb
    · rw [if_neg q]
      refine List.pairwise_cons.mpr ⟨fun b hb => ?_, h⟩
      rcases List.mem_cons.mp hb with rfl | hb
      · omega
      · have := h'.1 b hb; omega
theorem sortI_ris : ∀ l : List Int, (sortI l).Pairwise (· ≤ ·)
  | [] => .nil
  | _ :: r => insI_ris (sortI_ris r)
theorem sortI_eq {l ys : List Int} (p : ys.Perm l) (h : ys.Pairwise (· ≤ ·)) : ys = sortI l :=
  List.Perm.eq_of_pairwise (fun _ _ _ _ h1 h2 => Int.le_antisymm h1 h2) h (sortI_ris l) (p.trans (sortI_perm l).symm)
theorem maxL_is : ∀ (r : List Int) (x : Int), maxL x r ∈ x :: r ∧ ∀ y ∈ x :: r, y ≤ maxL x r
  | [], x => by simp [maxL]
  | z :: r, x => by
    unfold maxL
    by_cases h : z > x
    · rw [if_pos h]
      obtain ⟨a, b⟩ := maxL_is r z
      refine ⟨List.mem_cons_of_mem _ a, fun y hy => ?_⟩
      rcases List.mem_cons.mp hy with rfl | hy
      · have := b z List.mem_cons_self; omega
      · exact b y hy
    · rw [if_neg h]
      obtain ⟨a, b⟩ := maxL_is r x
      refine ⟨?_, fun y hy => ?_⟩
      · rcases List.mem_cons.mp a with e | a
        · rw [e]; exact List.mem_cons_self
        · exact List.mem_cons_of_mem _ (List.mem_cons_of_mem _ a)
      · rcases List.mem_cons.mp hy with rfl | hy
        · exact b _ List.mem_cons_self
        · rcases List.mem_cons.mp hy with rfl | hy
          · have := b x List.mem_cons_self; omega
          · exact b y (List.mem_cons_of_mem _ hy)
theorem minL_is : ∀ (r : List Int) (x : Int), minL x r ∈ x :: r ∧ ∀ y ∈ x :: r, minL x r ≤ y
  | [], x => by simp [minL]
  | z :: r, x => by
    unfold minL
    by_cases h : z < x
    · rw [if_pos h]
      obtain ⟨a, b⟩ := minL_is r z
      refine ⟨List.mem_cons_of_mem _ a, fun y hy => ?_⟩
      rcases List.mem_cons.mp hy with rfl | hy
      · have := b z List.mem_cons_self; omega
      · exact b y hy
    · rw [if_neg h]
      obtain ⟨a, b⟩ := minL_is r x
      refine ⟨?_, fun y hy => ?_⟩
      · rcases List.mem_cons.mp a with e | a
        · rw [e]; exact List.mem_cons_self
        · exact List.mem_cons_of_mem _ (List.mem_cons_of_mem _ a)
      · rcases List.mem_cons.mp hy with rfl | hy
        · exact b _ List.mem_cons_self
        · rcases List.mem_cons.mp hy with rfl | hy
          · have := b x List.mem_cons_self; omega
          · exact b y (List.mem_cons_of_mem _ hy)
end
end MP
end

section
set_option Elab.async false
set_option linter.all false
set_option maxRecDepth 100000
/-! MpG: built-in functions by values. -/
namespace MP
open PySem PySem.Spec PyProof.Rows L2
theorem strOk_ofString (s : String) : PyData.strOk (Str.ofString s) = true := by
  rw [Str.ofString_eq_toList]
  refine strOk_of fun c hc => ?_
  obtain ⟨ch, _, rfl⟩ := List.mem_map.mp hc
  have := ch.valid
  rcases this with h | h
  · show ch.val.toNat < _; have := h; unfold UInt32.isValidChar at *; omega
  · show ch.val.toNat < _; omega
section
variable {X : Cx} {T : Tab}
def Bi.val : Bi → Value
  | .len => .builtin "len" | .int => .type "int" | .abs => .builtin "abs" | .max => .builtin "max" | .min => .builtin "min" | .sum => .builtin "sum"
  | .all => .builtin "all" | .any => .builtin "any" | .sorted => .builtin "sorted" | .list => .type "list" | .tuple => .type "tuple" | .dict => .type "dict" | .str => .type "str"
def rBi (T : Tab) (K : PySem.W.Frag) (b : Bi) : List V → Hp → VK → Prop := fun vs H Q => ∃ ι κ S ds d, Wd T K H ι κ S ∧ RepL K H ι κ ds vs ∧ biD b ds S = some d ∧ VPost T K ι κ H S d Q
def rBiN (T : Tab) (K : PySem.W.Frag) (b : Bi) : List V → Hp → VK → Prop := fun vs H Q => ∃ ι κ S ds d, Wd T K H ι κ S ∧ RepL K H ι κ ds vs ∧ biD b ds S = some d ∧ NPost T K ι κ H S d Q
theorem RepL.one {K : PySem.W.Frag} {H : Hp} {ι κ : List Addr} {d : D} {vs : List V} (h : RepL K H ι κ [d] vs) : ∃ v, vs = [v] ∧ Rep K H ι κ d v := by
  simp only [RepL] at h
  obtain ⟨v, r, rfl, q, rfl⟩ := h
  exact ⟨v, rfl, q⟩
theorem RepL.two {K : PySem.W.Frag} {H : Hp} {ι κ : List Addr} {d e : D} {vs : List V} (h : RepL K H ι κ [d, e] vs) : ∃ v u, vs = [v, u] ∧ Rep K H ι κ d v ∧ Rep K H ι κ e u := by
  simp only [RepL] at h
  obtain ⟨v, r, rfl, q, u, r', rfl, q', rfl⟩ := h
  exact ⟨v, u, rfl, q, q'⟩
/-- a row of the store, a value list, a tuple: how it is read -/
def lstOf (d : D) (S : Sto) : Option (List D) := match d with
  | .lst xs => some xs
  | .ref n => (match S.get n with
    | some (.lst xs) => some xs
    | _ => none)
  | _ => none
theorem lst_of {K : PySem.W.Frag} {H : Hp} {ι κ : List Addr} {S : Sto} {d : D} {v : V} {xs : List D} (w : Wd T K H ι κ S) (r : Rep K H ι κ d v) (e : lstOf d S = some xs) : ∃ a vs, v = .ref a ∧ H a = some (.lst vs) ∧ RepL K H ι κ xs vs := by
  cases d with
  | lst ys =>
    simp only [lstOf, Option.some.injEq] at e
    subst e
    simp only [Rep] at r
    obtain ⟨a, vs, h1, h2, _, _, h3⟩ := r
    exact ⟨a, vs, h1, h2, h3⟩
  | ref n =>
    simp only [Rep] at r
    obtain ⟨a, rfl, ha⟩ := r
    cases hs : S.get n with
    | none => simp [lstOf, hs] at e
    | some ob =>
      cases ob with
      | lst ys =>
        simp only [lstOf, hs, Option.some.injEq] at e
        subst e
        obtain ⟨vs, h1, h2⟩ := w.ob n a _ ha hs
        exact ⟨a, vs, rfl, h1, h2⟩
      | _ => simp [lstOf, hs] at e
  | _ => simp [lstOf] at e
def dicOf (d : D) (S : Sto) : Option (List (Ky × D)) := match d with
  | .dic xs => some xs
  | .ref n => (match S.get n with
    | some (.dic xs) => some xs
    | _ => none)
  | _ => none
theorem dic_of {K : PySem.W.Frag} {H : Hp} {ι κ : List Addr} {S : Sto} {d : D} {v : V} {xs : List (Ky × D)} (w : Wd T K H ι κ S) (r : Rep K H ι κ d v) (e : dicOf d S = some xs) : ∃ a vs, v = .ref a ∧ Rd H a (.dK vs) ∧ RepK K H ι κ xs vs := by
  cases d with
  | dic ys =>
    simp only [dicOf, Option.some.injEq] at e
    subst e
    simp only [Rep] at r
    obtain ⟨a, od, vs, h1, h2, h3⟩ := r
    exact ⟨a, vs, h1, .inr ⟨od, h2⟩, h3⟩
  | ref n =>
    simp only [Rep] at r
    obtain ⟨a, rfl, ha⟩ := r
    cases hs : S.get n with
    | none => simp [dicOf, hs] at e
    | some ob =>
      cases ob with
      | dic ys =>
        simp only [dicOf, hs, Option.some.injEq] at e
        subst e
        obtain ⟨vs, h1, h2⟩ := w.ob n a _ ha hs
        exact ⟨a, vs, rfl, .inl h1, h2⟩
      | _ => simp [dicOf, hs] at e
  | _ => simp [dicOf] at e
theorem RepK.keys {K : PySem.W.Frag} {H : Hp} {ι κ : List Addr} : ∀ {ds : List (Ky × D)} {vs : List (Ky × V)}, RepK K H ι κ ds vs → ds.map (·.1) = vs.map (·.1) ∧ ds.length = vs.length
  | [], vs, h => by simp only [RepK] at h; subst h; exact ⟨rfl, rfl⟩
  | (k, d) :: ds, vs, h => by
    simp only [RepK] at h
    obtain ⟨v, r, rfl, q, q', ok⟩ := h
    obtain ⟨h1, h2⟩ := RepK.keys q'
    exact ⟨by simp [h1], by simp [h2]⟩
theorem len_rd {H : Hp} {a : Addr} {kvs : List (Ky × V)} {pins : List (Addr × Obj)} {s : Shared} {σ : L2.St} {us : List Value} {Q : VK} (I : L2.Inv X pins σ H s) (r : Vals [V.ref a] us) (e : Rd H a (.dK kvs)) (q : Q (.int kvs.length) H) :
    wpAny (model X.prog X.w) X.A (call (.builtin "len") us) (EP X pins σ Q) X.xe s := by
  obtain ⟨u, rfl, rx⟩ := vals1 r
  cases (show u = Value.ref a from rx)
  exact d_len I e fun t s' I' => ⟨.int kvs.length, H, I', ⟨t, rfl⟩, q⟩
/-- keys of texts are texts that are ok: keys come from texts -/
theorem kstrs_eq : ∀ {ks : List Ky} {ss : List Str}, kstrs ks = some ss → ks = ss.map Sum.inr
  | [], ss, h => by simp [kstrs] at h; subst h; rfl
  | .inr x :: r, ss, h => by
    simp only [kstrs, Option.map_eq_some_iff] at h
    obtain ⟨t, h, rfl⟩ := h
    rw [kstrs_eq h]; rfl
  | .inl x :: r, ss, h => by simp [kstrs] at h
theorem kints_eq : ∀ {ks : List Ky} {ss : List Int}, kints ks = some ss → ks = ss.map Sum.inl
  | [], ss, h => by simp [kints] at h; subst h; rfl
  | .inl x :: r, ss, h => by
    simp only [kints, Option.map_eq_some_iff] at h
    obtain ⟨t, h, rfl⟩ := h
    rw [kints_eq h]; rfl
  | .inr x :: r, ss, h => by simp [kints] at h
theorem RepK.ok {K : PySem.W.Frag} {H : Hp} {ι κ : List Addr} : ∀ {ds : List (Ky × D)} {vs : List (Ky × V)}, RepK K H ι κ ds vs → ∀ p ∈ ds, KyOk p.1
  | [], vs, h, p, hp => by cases hp
  | (k, d) :: ds, vs, h, p, hp => by
    simp only [RepK] at h
    obtain ⟨v, r, rfl, q, q', ok⟩ := h
    rcases List.mem_cons.mp hp with rfl | hp
    · exact ok
    · exact RepK.ok q' p hp
theorem Ky.rep {K : PySem.W.Frag} {H : Hp} {ι κ : List Addr} {k : Ky} (h : KyOk k) : Rep K H ι κ k.d (kV k) := by
  cases k with
  | inl i => simp [Ky.d, kV, Rep]
  | inr x => simp [Ky.d, kV, Rep, h x rfl]
theorem RepK.keyL {K : PySem.W.Frag} {H : Hp} {ι κ : List Addr} : ∀ {ds : List (Ky × D)} {vs : List (Ky × V)}, RepK K H ι κ ds vs → RepL K H ι κ (ds.map fun kv => kv.1.d) (vs.map fun kv => kV kv.1)
  | [], vs, h => by simp only [RepK] at h; subst h; simp [RepL]
  | (k, d) :: ds, vs, h => by
    simp only [RepK] at h
    obtain ⟨v, r, rfl, q, q', ok⟩ := h
    simp only [List.map_cons, RepL]
    exact ⟨_, _, rfl, Ky.rep ok, RepK.keyL q'⟩
theorem RepK.strs {K : PySem.W.Frag} {H : Hp} {ι κ : List Addr} {ds : List (Ky × D)} {vs : List (Ky × V)} (h : RepK K H ι κ ds vs) {ss : List Str} (e : ds.map (·.1) = ss.map Sum.inr) : ∀ x ∈ ss, PyData.strOk x = true := fun x hx => by
  have : Sum.inr x ∈ ds.map (·.1) := by rw [e]; exact List.mem_map_of_mem hx
  obtain ⟨p, hp, ep⟩ := List.mem_map.mp this
  exact h.ok p hp x ep
theorem pairs_rep {K : PySem.W.Frag} {H : Hp} {ι κ : List Addr} : ∀ {ds : List D} {vs : List V} {kvs : List (Ky × D)}, RepL K H ι κ ds vs → pairsOf ds = some kvs →
    ∃ (ps : List Addr) (us : List (Ky × V)), vs = ps.map V.ref ∧ Paired (fun p kv => SqT K H p [kV kv.1, kv.2]) ps us ∧ RepK K H ι κ kvs us
  | [], vs, kvs, h, e => by
    simp only [RepL] at h
    simp only [pairsOf, Option.some.injEq] at e
    subst h e
    exact ⟨[], [], rfl, .nil, by simp [RepK]⟩
  | d :: ds, vs, kvs, h, e => by
    simp only [RepL] at h
    obtain ⟨v, r, rfl, q, q'⟩ := h
    unfold pairsOf at e
    split at e
    · rename_i he; exact absurd he (by simp)
    · rename_i k x r' he
      injection he with h1 h2
      subst h1 h2
      cases e1 : k.ky with
      | none => rw [e1] at e; simp at e
      | some kk =>
        cases e2 : pairsOf ds with
        | none => rw [e1, e2] at e; simp at e
        | some kvs' =>
          rw [e1, e2] at e
          simp only [Option.some.injEq] at e
          subst e
          obtain ⟨ps, us, rfl, hp, hr⟩ := pairs_rep q' e2
          simp only [Rep] at q
          obtain ⟨a, ws, rfl, hs, rl⟩ := q
          obtain ⟨w1, w2, rfl, r1, r2⟩ := rl.two
          obtain ⟨ek, ok⟩ := ky_rep r1 e1
          subst ek
          refine ⟨a :: ps, (kk, w2) :: us, rfl, .cons hs hp, ?_⟩
          simp only [RepK]
          exact ⟨w2, us, rfl, r2, hr, ok⟩
    · simp at e
theorem RepK.chg {K : PySem.W.Frag} {H : Hp} {ι κ : List Addr} {k : Ky} {d : D} {v : V} (hd : Rep K H ι κ d v) : ∀ {ds : List (Ky × D)} {vs : List (Ky × V)}, RepK K H ι κ ds vs →
    RepK K H ι κ (ds.map fun kv => if kv.1 = k then (kv.1, d) else kv) (vs.map fun kv => if kv.1 = k then (kv.1, v) else kv)
  | [], vs, h => by simp only [RepK] at h; subst h; simp [RepK]
  | (j, e) :: ds, vs, h => by
    simp only [RepK] at h
    obtain ⟨u, r, rfl, q, q', ok'⟩ := h
    simp only [List.map_cons]
    have ih := RepK.chg (k := k) hd q'
    by_cases hj : j = k
    · rw [if_pos (by exact hj), if_pos (by exact hj)]
      simp only [RepK]
      exact ⟨v, _, rfl, hd, ih, ok'⟩
    · rw [if_neg (by exact hj), if_neg (by exact hj)]
      simp only [RepK]
      exact ⟨u, _, rfl, q, ih, ok'⟩
theorem RepK.snoc {K : PySem.W.Frag} {H : Hp} {ι κ : List Addr} {k : Ky} {d : D} {v : V} (hd : Rep K H ι κ d v) (ok : KyOk k) : ∀ {ds : List (Ky × D)} {vs : List (Ky × V)}, RepK K H ι κ ds vs → RepK K H ι κ (ds ++ [(k, d)]) (vs ++ [(k, v)])
  | [], vs, h => by simp only [RepK] at h; subst h; simp only [List.nil_append, RepK]; exact ⟨v, [], rfl, hd, rfl, ok⟩
  | (j, e) :: ds, vs, h => by
    simp only [RepK] at h
    obtain ⟨u, r, rfl, q, q', ok'⟩ := h
    simp only [List.cons_append, RepK]
    exact ⟨u, _, rfl, q, RepK.snoc hd ok q', ok'⟩
theorem RepK.put {K : PySem.W.Frag} {H : Hp} {ι κ : List Addr} {ds : List (Ky × D)} {vs : List (Ky × V)} {k : Ky} {d : D} {v : V} (h : RepK K H ι κ ds vs) (hd : Rep K H ι κ d v) (ok : KyOk k) : RepK K H ι κ (vput ds k d) (putK vs k v) := by
  have any : (ds.any fun kv => decide (kv.1 = k)) = (vs.any fun kv => decide (kv.1 = k)) := by
    have := congrArg (fun l => l.any fun z => decide (z = k)) h.keys.1
    simpa [List.any_map, Function.comp_def] using this
  unfold vput putK
  rw [any]
  split
  · exact h.chg hd
  · exact h.snoc hd ok
theorem RepK.merge {K : PySem.W.Frag} {H : Hp} {ι κ : List Addr} : ∀ {more : List (Ky × D)} {mv : List (Ky × V)} {ds : List (Ky × D)} {vs : List (Ky × V)}, RepK K H ι κ more mv → RepK K H ι κ ds vs → RepK K H ι κ (merge ds more) (mergeK vs mv)
  | [], mv, ds, vs, h, h' => by simp only [RepK] at h; subst h; exact h'
  | (k, d) :: rest, mv, ds, vs, h, h' => by
    simp only [RepK] at h
    obtain ⟨u, r, rfl, q, q', ok⟩ := h
    exact RepK.merge (more := rest) (mv := r) q' (h'.put q ok)
/-- the new objects of built-in functions -/
theorem bi_soundN (hc : X.calm = true) (b : Bi) (hb : b = .list ∨ b = .sorted ∨ b = .dict) : CallR X b.val (rBiN T X.K b) := by
  intro pins s σ H vs us Q I r h
  obtain ⟨ι, κ, S, ds, d, w, rl, e, q⟩ := h
  match ds, e with
  | [x], e =>
    obtain ⟨v, rfl, rx⟩ := rl.one
    simp only [biD] at e
    rcases hb with rfl | rfl | rfl
    · simp only [bi1] at e
      have lst : ∀ {a : Addr} {xs : List D} {ws : List V} (_ : SqL X.K H a ws ∨ SqT X.K H a ws) (_ : RepL X.K H ι κ xs ws) (_ : d = .lst xs) (_ : v = .ref a), wpAny (model X.prog X.w) X.A (call (.type "list") us) (EP X pins σ Q) X.xe s := fun {a xs ws} h1 h2 h3 h4 => by
        subst h3 h4
        exact call_list_of pins s σ H _ us Q I r ⟨a, ws, rfl, h1, fun p hp => q.lst w h2 hp⟩
      have dic : ∀ {xs : List (Ky × D)} (_ : dicOf x S = some xs) (_ : d = .lst (xs.map fun kv => kv.1.d)), wpAny (model X.prog X.w) X.A (call (.type "list") us) (EP X pins σ Q) X.xe s := fun {xs} h1 h2 => by
        subst h2
        obtain ⟨a, ws, rfl, h3, h4⟩ := dic_of w rx h1
        exact call_listD hc pins s σ H _ us Q I r ⟨a, ws, rfl, h3, fun p hp => q.lst w h4.keyL hp⟩
      cases x with
      | dic kvs => exact dic (xs := kvs) rfl (by simpa only [listD, Option.some.injEq, eq_comm] using e)
      | tup xs =>
        simp only [Rep] at rx
        obtain ⟨a, ws, rfl, h1, h2⟩ := rx
        exact lst (.inr h1) h2 (by simpa only [listD, Option.some.injEq, eq_comm] using e) rfl
      | lst xs =>
        simp only [Rep] at rx
        obtain ⟨a, ws, rfl, h1, _, _, h2⟩ := rx
        exact lst (.inl (.inl (.inl h1))) h2 (by simpa only [listD, Option.some.injEq, eq_comm] using e) rfl
      | ref n =>
        simp only [listD] at e
        cases hs : S.get n with
        | none => simp [hs] at e
        | some ob =>
          cases ob with
          | lst xs =>
            obtain ⟨a, ws, rfl, h1, h2⟩ := lst_of (xs := xs) w rx (by simp [lstOf, hs])
            exact lst (.inl (.inl (.inl h1))) h2 (by simpa [hs, eq_comm] using e) rfl
          | dic kvs => exact dic (xs := kvs) (by simp [dicOf, hs]) (by simpa [hs, eq_comm] using e)
          | _ => simp [hs] at e
      | _ => simp [listD] at e
    · simp only [bi1] at e
      have lst : ∀ {xs : List D} (_ : lstOf x S = some xs) (_ : sortLD xs = some d), wpAny (model X.prog X.w) X.A (call (.builtin "sorted") us) (EP X pins σ Q) X.xe s := fun {xs} h1 h2 => by
        obtain ⟨a, ws, rfl, h3, h4⟩ := lst_of w rx h1
        simp only [sortLD, Option.ite_none_right_eq_some] at h2
        obtain ⟨h64, h2⟩ := h2
        cases e1 : strsOf xs with
        | some ss =>
          rw [e1] at h2
          simp only [Option.some.injEq] at h2
          subst h2
          obtain ⟨e2, ok⟩ := strsOf_rep e1 h4
          subst e2
          refine cr_sortedS pins s σ H _ us Q I r ⟨a, ss, rfl, .inl (.inl h3), by rw [h4.length, List.length_map] at h64; exact h64, fun ys p hp hs hn => ?_⟩
          have := sortS_eq hp hs
          subst this
          exact q.lst w (RepL.strs fun z hz => ok z (hp.mem_iff.mp hz)) hn
        | none =>
          rw [e1] at h2
          simp only at h2
          cases e2 : intsOf xs with
          | none => rw [e2] at h2; simp at h2
          | some ns =>
            rw [e2] at h2
            simp only [Option.some.injEq] at h2
            subst h2
            obtain ⟨e3, _⟩ := intsOf_rep e2 h4
            subst e3
            refine cr_sortedI pins s σ H _ us Q I r ⟨a, ns, rfl, .inl (.inl h3), fun ys p hp hs hn => ?_⟩
            have := sortI_eq hp hs
            subst this
            exact q.lst w (RepL.ints _) hn
      have dic : ∀ {xs : List (Ky × D)} (_ : dicOf x S = some xs) (_ : sortKD (xs.map (·.1)) = some d), wpAny (model X.prog X.w) X.A (call (.builtin "sorted") us) (EP X pins σ Q) X.xe s := fun {xs} h1 h2 => by
        obtain ⟨a, ws, rfl, h3, h4⟩ := dic_of w rx h1
        simp only [sortKD, Option.ite_none_right_eq_some] at h2
        obtain ⟨h64, h2⟩ := h2
        cases e1 : kstrs (xs.map (·.1)) with
        | some ss =>
          rw [e1] at h2
          simp only [Option.some.injEq] at h2
          subst h2
          have ek := kstrs_eq e1
          refine call_sortedD hc pins s σ H _ us Q I r ⟨a, ws, ss, rfl, h3, by rw [← h4.keys.1]; exact ek, ?_, fun ys p hp hs hn => ?_⟩
          · have := congrArg List.length ek
            simp only [List.length_map] at this h64
            omega
          · have := sortS_eq hp hs
            subst this
            exact q.lst w (RepL.strs fun z hz => h4.strs ek z (hp.mem_iff.mp hz)) hn
        | none =>
          rw [e1] at h2
          simp only at h2
          cases e2 : kints (xs.map (·.1)) with
          | none => rw [e2] at h2; simp at h2
          | some ns =>
            rw [e2] at h2
            simp only [Option.some.injEq] at h2
            subst h2
            have ek := kints_eq e2
            refine call_sortedDI hc pins s σ H _ us Q I r ⟨a, ws, ns, rfl, h3, by rw [← h4.keys.1]; exact ek, ?_, fun ys p hp hs hn => ?_⟩
            · have := congrArg List.length ek
              simp only [List.length_map] at this h64
              omega
            · have := sortI_eq hp hs
              subst this
              exact q.lst w (RepL.ints _) hn
      cases x with
      | lst xs => exact lst (xs := xs) rfl (by simpa only [sortD] using e)
      | dic kvs => exact dic (xs := kvs) rfl (by simpa only [sortD] using e)
      | ref n =>
        simp only [sortD] at e
        cases hs : S.get n with
        | none => simp [hs] at e
        | some ob =>
          cases ob with
          | lst xs => exact lst (xs := xs) (by simp [lstOf, hs]) (by simpa [hs] using e)
          | dic kvs => exact dic (xs := kvs) (by simp [dicOf, hs]) (by simpa [hs] using e)
          | _ => simp [hs] at e
      | _ => simp [sortD] at e
    · simp only [bi1] at e
      have dic : ∀ {xs : List (Ky × D)} (_ : dicOf x S = some xs) (_ : d = .dic xs), wpAny (model X.prog X.w) X.A (call (.type "dict") us) (EP X pins σ Q) X.xe s := fun {xs} h1 h2 => by
        subst h2
        obtain ⟨a, ws, rfl, h3, h4⟩ := dic_of w rx h1
        exact call_dictD pins s σ H _ us Q I r ⟨a, ws, rfl, h3, fun p hp => q.dic w h4 hp⟩
      cases x with
      | dic kvs => exact dic (xs := kvs) rfl (by simpa only [dictD, Option.some.injEq, eq_comm] using e)
      | lst xs =>
        simp only [dictD, Option.map_eq_some_iff] at e
        obtain ⟨kvs, e', rfl⟩ := e
        simp only [Rep] at rx
        obtain ⟨a, ws, rfl, h1, _, _, h2⟩ := rx
        obtain ⟨ps, us', rfl, h3, h4⟩ := pairs_rep h2 e'
        refine call_dictP hc pins s σ H _ us Q I r ⟨a, ps, us', rfl, .inl (.inl h1), h3, fun p hp => q.dic w (RepK.merge h4 (by simp [RepK])) hp⟩
      | ref n =>
        simp only [dictD] at e
        cases hs : S.get n with
        | none => simp [hs] at e
        | some ob =>
          cases ob with
          | dic kvs => exact dic (xs := kvs) (by simp [dicOf, hs]) (by simpa [hs, eq_comm] using e)
          | _ => simp [hs] at e
      | _ => simp [dictD] at e
  | [x, y], e => rcases hb with rfl | rfl | rfl <;> simp [biD, bi2] at e
  | [], e => simp [biD] at e
  | _ :: _ :: _ :: _, e => simp [biD] at e
theorem bi_sound (hc : X.calm = true) (b : Bi) (hb : ¬ (b = .list ∨ b = .sorted ∨ b = .dict)) : CallR X b.val (rBi T X.K b) := by
  intro pins s σ H vs us Q I r h
  obtain ⟨ι, κ, S, ds, d, w, rl, e, q⟩ := h
  have ri : ∀ i : Int, Rep X.K H ι κ (.int i) (.int i) := fun i => by simp [Rep]
  have rb : ∀ i : Bool, Rep X.K H ι κ (.bl i) (.bl i) := fun i => by simp [Rep]
  match ds, e with
  | [], e => simp [biD] at e
  | _ :: _ :: _ :: _, e => simp [biD] at e
  | [x, y], e =>
    obtain ⟨v, u, rfl, rx, ry⟩ := rl.two
    simp only [biD] at e
    cases b <;> cases x <;> cases y <;> simp only [bi2] at e <;> first | (cases e; done) | skip
    · simp only [Rep] at rx ry
      subst rx ry
      simp only [Option.some.injEq] at e; subst e
      exact call_max2 hc pins s σ H _ us Q I r ⟨_, _, rfl, q.same w (ri _)⟩
    · simp only [Rep] at rx ry
      subst rx ry
      simp only [Option.some.injEq] at e; subst e
      exact call_min2 hc pins s σ H _ us Q I r ⟨_, _, rfl, q.same w (ri _)⟩
  | [x], e =>
    obtain ⟨v, rfl, rx⟩ := rl.one
    simp only [biD] at e
    cases b with
    | list => exact absurd (.inl rfl) hb
    | sorted => exact absurd (.inr (.inl rfl)) hb
    | dict => exact absurd (.inr (.inr rfl)) hb
    | len =>
      simp only [bi1] at e
      have lst : ∀ {a : Addr} {xs : List D} {ws : List V} (_ : SqL X.K H a ws ∨ SqT X.K H a ws) (_ : RepL X.K H ι κ xs ws) (_ : d = .int xs.length) (_ : v = .ref a), wpAny (model X.prog X.w) X.A (call (.builtin "len") us) (EP X pins σ Q) X.xe s := fun {a xs ws} h1 h2 h3 h4 => by
        subst h3 h4
        exact call_len_seq pins s σ H _ us Q I r ⟨a, ws, rfl, h1, by rw [← h2.length]; exact q.same w (ri _)⟩
      have dic : ∀ {xs : List (Ky × D)} (_ : dicOf x S = some xs) (_ : d = .int xs.length), wpAny (model X.prog X.w) X.A (call (.builtin "len") us) (EP X pins σ Q) X.xe s := fun {xs} h1 h2 => by
        subst h2
        obtain ⟨a, ws, rfl, h3, h4⟩ := dic_of w rx h1
        exact len_rd I r h3 (by rw [← h4.keys.2]; exact q.same w (ri _))
      cases x with
      | str z =>
        simp only [lenD, Option.ite_none_right_eq_some, Option.some.injEq] at e
        obtain ⟨hl, rfl⟩ := e
        simp only [Rep] at rx
        obtain ⟨rfl, _⟩ := rx
        exact call_len_str pins s σ H _ us Q I r ⟨z, rfl, LIM_line hl, q.same w (ri _)⟩
      | tup xs =>
        simp only [Rep] at rx
        obtain ⟨a, ws, rfl, h1, h2⟩ := rx
        exact lst (.inr h1) h2 (by simpa only [lenD, Option.some.injEq, eq_comm] using e) rfl
      | lst xs =>
        simp only [Rep] at rx
        obtain ⟨a, ws, rfl, h1, _, _, h2⟩ := rx
        exact lst (.inl (.inl (.inl h1))) h2 (by simpa only [lenD, Option.some.injEq, eq_comm] using e) rfl
      | rol ns =>
        simp only [Rep] at rx
        obtain ⟨a, rfl, h1, _⟩ := rx
        have hq : SqL X.K H a (ns.map V.int) := h1.elim (fun z => .inl z.1) .inr
        exact lst (xs := ns.map D.int) (.inl hq) (RepL.ints ns) (by simpa only [lenD, Option.some.injEq, List.length_map, eq_comm] using e) rfl
      | dic kvs => exact dic (xs := kvs) rfl (by simpa only [lenD, Option.some.injEq, eq_comm] using e)
      | ref n =>
        simp only [lenD] at e
        cases hs : S.get n with
        | none => simp [hs] at e
        | some ob =>
          cases ob with
          | lst xs =>
            obtain ⟨a, ws, rfl, h1, h2⟩ := lst_of (xs := xs) w rx (by simp [lstOf, hs])
            exact lst (.inl (.inl (.inl h1))) h2 (by simpa [hs, eq_comm] using e) rfl
          | dic kvs => exact dic (xs := kvs) (by simp [dicOf, hs]) (by simpa [hs, eq_comm] using e)
          | _ => simp [hs] at e
      | _ => simp [lenD] at e
    | int =>
      simp only [bi1] at e
      cases x with
      | int i =>
        simp only [intD, Option.some.injEq] at e; subst e
        simp only [Rep] at rx; subst rx
        exact call_int1 pins s σ H _ us Q I r (.inl ⟨i, rfl, q.same w (ri _)⟩)
      | bl i =>
        simp only [intD, Option.some.injEq] at e; subst e
        simp only [Rep] at rx; subst rx
        exact call_int1 pins s σ H _ us Q I r (.inr ⟨i, rfl, q.same w (ri _)⟩)
      | _ => simp [intD] at e
    | abs =>
      simp only [bi1] at e
      cases x with
      | int i =>
        simp only [absD, Option.some.injEq] at e; subst e
        simp only [Rep] at rx; subst rx
        exact call_abs pins s σ H _ us Q I r ⟨i, rfl, q.same w (ri _)⟩
      | _ => simp [absD] at e
    | max =>
      simp only [bi1] at e
      cases x with
      | lst xs =>
        simp only [max1D] at e
        simp only [Rep] at rx
        obtain ⟨a, ws, rfl, h1, _, _, h2⟩ := rx
        split at e
        · rename_i y ys he
          simp only [Option.some.injEq] at e; subst e
          obtain ⟨e2, _⟩ := intsOf_rep he h2
          subst e2
          refine cr_max hc pins s σ H _ us Q I r ⟨a, y :: ys, rfl, .inl (.inl h1), by simp, fun m hm hy => ?_⟩
          obtain ⟨k1, k2⟩ := maxL_is ys y
          have : m = maxL y ys := Int.le_antisymm (k2 m hm) (hy _ k1)
          subst this
          exact q.same w (ri _)
        · cases e
      | _ => simp [max1D] at e
    | min =>
      simp only [bi1] at e
      cases x with
      | lst xs =>
        simp only [min1D] at e
        simp only [Rep] at rx
        obtain ⟨a, ws, rfl, h1, _, _, h2⟩ := rx
        split at e
        · rename_i y ys he
          simp only [Option.some.injEq] at e; subst e
          obtain ⟨e2, _⟩ := intsOf_rep he h2
          subst e2
          refine cr_min hc pins s σ H _ us Q I r ⟨a, y :: ys, rfl, .inl (.inl h1), by simp, fun m hm hy => ?_⟩
          obtain ⟨k1, k2⟩ := minL_is ys y
          have : m = minL y ys := Int.le_antisymm (hy _ k1) (k2 m hm)
          subst this
          exact q.same w (ri _)
        · cases e
      | _ => simp [min1D] at e
    | sum =>
      simp only [bi1] at e
      cases x with
      | lst xs =>
        simp only [sumD, Option.map_eq_some_iff] at e
        obtain ⟨ns, he, rfl⟩ := e
        simp only [Rep] at rx
        obtain ⟨a, ws, rfl, h1, _, _, h2⟩ := rx
        obtain ⟨e2, _⟩ := intsOf_rep he h2
        subst e2
        exact cr_sum hc pins s σ H _ us Q I r ⟨a, ns, rfl, .inl (.inl h1), q.same w (ri _)⟩
      | _ => simp [sumD] at e
    | all =>
      simp only [bi1] at e
      cases x with
      | lst xs =>
        simp only [allD, Option.map_eq_some_iff] at e
        obtain ⟨ns, he, rfl⟩ := e
        simp only [Rep] at rx
        obtain ⟨a, ws, rfl, h1, _, _, h2⟩ := rx
        have e2 := blsOf_rep he h2
        subst e2
        exact cr_all hc pins s σ H _ us Q I r ⟨a, ns, rfl, .inl (.inl h1), q.same w (rb _)⟩
      | _ => simp [allD] at e
    | any =>
      simp only [bi1] at e
      cases x with
      | lst xs =>
        simp only [anyD, Option.map_eq_some_iff] at e
        obtain ⟨ns, he, rfl⟩ := e
        simp only [Rep] at rx
        obtain ⟨a, ws, rfl, h1, _, _, h2⟩ := rx
        have e2 := blsOf_rep he h2
        subst e2
        exact cr_any hc pins s σ H _ us Q I r ⟨a, ns, rfl, .inl (.inl h1), q.same w (rb _)⟩
      | _ => simp [anyD] at e
    | tuple =>
      simp only [bi1] at e
      cases x with
      | tup xs =>
        simp only [tupleD, Option.some.injEq] at e; subst e
        have rx' := rx
        simp only [Rep] at rx
        obtain ⟨a, ws, rfl, h1, h2⟩ := rx
        exact call_tuple_of pins s σ H _ us Q I r ⟨a, ws, rfl, .inr ⟨h1, q.same w rx'⟩⟩
      | lst xs =>
        simp only [tupleD, Option.some.injEq] at e; subst e
        simp only [Rep] at rx
        obtain ⟨a, ws, rfl, h1, _, _, h2⟩ := rx
        exact call_tuple_of pins s σ H _ us Q I r ⟨a, ws, rfl, .inl ⟨.inl (.inl h1), fun p hp => q.tup w h2 hp⟩⟩
      | ref n =>
        simp only [tupleD] at e
        cases hs : S.get n with
        | none => simp [hs] at e
        | some ob =>
          cases ob with
          | lst xs =>
            simp only [hs, Option.some.injEq] at e; subst e
            obtain ⟨a, ws, rfl, h1, h2⟩ := lst_of (xs := xs) w rx (by simp [lstOf, hs])
            exact call_tuple_of pins s σ H _ us Q I r ⟨a, ws, rfl, .inl ⟨.inl (.inl h1), fun p hp => q.tup w h2 hp⟩⟩
          | _ => simp [hs] at e
      | _ => simp [tupleD] at e
    | str =>
      simp only [bi1] at e
      cases x with
      | int i =>
        simp only [strD, Option.ite_none_right_eq_some, Option.some.injEq] at e
        obtain ⟨hl, rfl⟩ := e
        simp only [Rep] at rx; subst rx
        refine call_str_int pins s σ H _ us Q I r ⟨i, rfl, ?_, q.same w (by simp only [Rep]; exact ⟨trivial, strOk_ofString _⟩)⟩
        have h1 : i.natAbs < 2 ^ 60 := Nat.lt_of_lt_of_le hl (by decide)
        by_cases h0 : i.natAbs = 0
        · rw [h0]; decide
        · have := (Nat.log2_lt h0).mpr h1
          omega
      | str z =>
        simp only [strD, Option.some.injEq] at e; subst e
        have rx' := rx
        simp only [Rep] at rx
        obtain ⟨rfl, _⟩ := rx
        exact SkE.call_str_str pins s σ H _ us Q I r ⟨z, rfl, q.same w rx'⟩
      | _ => simp [strD] at e
end
end MP
end

section
set_option Elab.async false
set_option linter.all false
set_option maxRecDepth 100000
/-! MpH: which texts of the model are which expressions; how readings are put together. -/
namespace MP
open PySem PySem.Spec PyProof.Rows L2
/-! ### the match -/
def visB (sc : Scope) (x : Str) : Bool := match sc.names.lookup x with
  | some .local => true
  | some .cell => true
  | some .free => true
  | _ => false
def locB (sc : Scope) (x : Str) : Bool := match sc.names.lookup x with
  | some .local => true
  | some .cell => true
  | _ => false
def glB (sc : Scope) (x : Str) : Bool := decide (sc.names.lookup x = some .globalImplicit)
def nmB (x : Str) : Bool := !(x == ("__debug__" : Str)) && !(x == ("__classdict__" : Str)) && !(x == ("__name__" : Str))
def conM : D → Expr → Bool
  | .non, .Constant .none _ _ => true
  | .bl b, .Constant (.bool c) _ _ => b == c
  | .int i, .Constant (.int j) _ _ => decide (i = j)
  | .str x, .Constant (.str y) _ _ => decide (x = y) && PyData.strOk x
  | _, _ => false
def Bi.nm : Bi → Str
  | .len => "len" | .int => "int" | .abs => "abs" | .max => "max" | .min => "min" | .sum => "sum" | .all => "all" | .any => "any" | .sorted => "sorted" | .list => "list" | .tuple => "tuple" | .dict => "dict" | .str => "str"
def Ty.nm : Ty → Str
  | .int => "int" | .bool => "bool" | .str => "str" | .tuple => "tuple" | .list => "list" | .dict => "dict"
def tupE : Expr → Bool
  | .Tuple _ _ _ => true
  | _ => false
def call0E : Expr → Bool
  | .Call _ [] _ _ => true
  | _ => false
mutual
def mtT (N : List Str) (sc : Scope) : Tg → Expr → Bool
  | .nm i, e => match e with
    | .Name x _ => decide (N[i]? = some x) && locB sc x
    | _ => false
  | .tp ts, e => match e with
    | .Tuple es _ _ => mtTs N sc ts es
    | _ => false
def mtTs (N : List Str) (sc : Scope) : List Tg → List Expr → Bool
  | [], [] => true
  | t :: ts, e :: es => mtT N sc t e && mtTs N sc ts es
  | _, _ => false
end
def tst : Expr → Bool
  | .IfExp _ _ _ _ => false
  | _ => true
mutual
def slotsT : Tg → List Nat
  | .nm i => [i]
  | .tp ts => slotsTs ts
def slotsTs : List Tg → List Nat
  | [] => []
  | t :: ts => slotsT t ++ slotsTs ts
end
def ownOf (N : List Str) (own : List Nat) : List (Str × Nat) := own.filterMap fun i => (N[i]?).map fun x => (x, i)
def fresh : Ex → Bool
  | .lst _ | .dk | .dt | .lc _ _ _ _ _ | .lc2 _ _ _ _ _ _ _ | .dc _ _ _ _ _ _ => true
  | .bi .list _ | .bi .sorted _ | .bi .dict _ => true
  | .op .Mult (.lst _) _ | .op .Add (.lst _) _ => true
  | _ => false
mutual
def mtE (T : Tab) (N : List Str) : Ex → Scope → Expr → Bool
  | .var i, sc, e => match e with
    | .Name x _ => decide (N[i]? = some x) && visB sc x && nmB x
    | _ => false
  | .con d, _, e => conM d e
  | .glo x d, sc, e => match e with
    | .Name y _ => decide (x = y) && decide ((x, d) ∈ T.consts) && glB sc x && nmB x
    | _ => false
  | .tup es, sc, e => match e with
    | .Tuple els _ _ => mtL T N es sc els
    | _ => false
  | .lst es, sc, e => match e with
    | .List els _ => mtL T N es sc els
    | _ => false
  | .dk, _, e => match e with
    | .Dict [] [] _ => true
    | _ => false
  | .dt, _, e => match e with
    | .Dict [] [] _ => true
    | _ => false
  | .mut a, sc, e => fresh a && mtE T N a sc e
  | .op o a b, sc, e => match e with
    | .BinOp a' o' b' _ => decide (o = o') && mtE T N a sc a' && mtE T N b sc b'
    | _ => false
  | .neg a, sc, e => match e with
    | .UnaryOp .USub a' _ => mtE T N a sc a'
    | _ => false
  | .cmp o a b, sc, e => match e with
    | .Compare a' [o'] [b'] _ => decide (o = o') && mtE T N a sc a' && mtE T N b sc b'
    | _ => false
  | .chn o p a b c, sc, e => match e with
    | .Compare a' [o', p'] [b', c'] _ => decide (o = o') && decide (p = p') && mtE T N a sc a' && mtE T N b sc b' && mtE T N c sc c'
    | _ => false
  | .and es, sc, e => match e with
    | .BoolOp .And els _ => mtL T N es sc els && els.all tst && decide (2 ≤ es.length)
    | _ => false
  | .or es, sc, e => match e with
    | .BoolOp .Or els _ => mtL T N es sc els && els.all tst && decide (2 ≤ es.length)
    | _ => false
  | .not a, sc, e => match e with
    | .UnaryOp .Not a' _ => mtE T N a sc a' && tst a'
    | _ => false
  | .ite c a b, sc, e => match e with
    | .IfExp c' a' b' _ => mtE T N c sc c' && tst c' && mtE T N a sc a' && mtE T N b sc b'
    | _ => false
  | .ix a i, sc, e => match e with
    | .Subscript a' i' _ => mtE T N a sc a' && mtE T N i sc i'
    | _ => false
  | .sl a, sc, e => match e with
    | .Subscript a' (.Slice none none none _) _ => mtE T N a sc a'
    | _ => false
  | .slL a lo, sc, e => match e with
    | .Subscript a' (.Slice (some l') none none _) _ => mtE T N a sc a' && mtE T N lo sc l'
    | _ => false
  | .slH a hi, sc, e => match e with
    | .Subscript a' (.Slice none (some h') none _) _ => mtE T N a sc a' && mtE T N hi sc h'
    | _ => false
  | .slB a lo hi, sc, e => match e with
    | .Subscript a' (.Slice (some l') (some h') none _) _ => mtE T N a sc a' && mtE T N lo sc l' && mtE T N hi sc h'
    | _ => false
  | .rev a, sc, e => match e with
    | .Subscript a' (.Slice none none (some (.UnaryOp .USub (.Constant (.int 1) _ _) _)) _) _ => mtE T N a sc a'
    | _ => false
  | .call f es, sc, e => match e with
    | .Call (.Name x _) els [] _ => decide ((x, f) ∈ T.gl) && glB sc x && nmB x && mtL T N es sc els
    | _ => false
  | .make C es, sc, e => match e with
    | .Call (.Name x _) els [] _ => (match T.P.cls[C]? with
      | some c => decide (c.name = x) && c.exc.isNone
      | none => false) && glB sc x && nmB x && mtL T N es sc els
    | _ => false
  | .meth o m es, sc, e => match e with
    | .Call (.Attribute o' m' ap) els [] cp => decide (m = m') && (ap.endLine == cp.line) && decide (els.length < 30) && !call0E o' && mtE T N o sc o' && mtL T N es sc els
    | _ => false
  | .bi b es, sc, e => match e with
    | .Call (.Name x _) els [] _ => decide (b.nm = x) && glB sc x && mtL T N es sc els && !es.isEmpty
    | _ => false
  | .isi a t, sc, e => match e with
    | .Call (.Name x _) [a', .Name y _] [] _ => decide (x = ("isinstance" : Str)) && decide (y = t.nm) && glB sc x && glB sc y && mtE T N a sc a'
    | _ => false
  | .get1 o k, sc, e => match e with
    | .Call (.Attribute o' m ap) [k'] [] cp => decide (m = ("get" : Str)) && (ap.endLine == cp.line) && !call0E o' && mtE T N o sc o' && mtE T N k sc k'
    | _ => false
  | .get2 o k d, sc, e => match e with
    | .Call (.Attribute o' m ap) [k', d'] [] cp => decide (m = ("get" : Str)) && (ap.endLine == cp.line) && !call0E o' && mtE T N o sc o' && mtE T N k sc k' && mtE T N d sc d'
    | _ => false
  | .app o a, sc, e => match e with
    | .Call (.Attribute o' m ap) [a'] [] cp => decide (m = ("append" : Str)) && (ap.endLine == cp.line) && !call0E o' && mtE T N o sc o' && mtE T N a sc a'
    | _ => false
  | .ext o a, sc, e => match e with
    | .Call (.Attribute o' m ap) [a'] [] cp => decide (m = ("extend" : Str)) && (ap.endLine == cp.line) && !call0E o' && mtE T N o sc o' && mtE T N a sc a'
    | _ => false
  | .pop o, sc, e => match e with
    | .Call (.Attribute o' m ap) [] [] cp => decide (m = ("pop" : Str)) && (ap.endLine == cp.line) && !call0E o' && mtE T N o sc o'
    | _ => false
  | .fld a f, sc, e => match e with
    | .Attribute a' f' _ => decide (f = f') && decide (f ∈ T.flds) && !call0E a' && mtE T N a sc a'
    | _ => false
  | .lc elt tg it cnd own, sc, e => match e with
    | .ListComp elt' [⟨tg', it', ifs', 0⟩] scope _ => mtI T N it sc it' (tupE tg') && mtT N scope tg tg' && mtL T N cnd (relS scope sc) ifs' && ifs'.all tst && decide (cnd.length ≤ 1) && mtE T N elt (relS scope sc) elt' && blkC N sc scope (ownOf N own) && (slotsT tg).all (own.contains ·) && own.all fun i => decide (i < N.length)
    | _ => false
  | .dc k v tg it cnd own, sc, e => match e with
    | .DictComp k' v' [⟨tg', it', ifs', 0⟩] scope _ => mtI T N it sc it' (tupE tg') && mtT N scope tg tg' && mtL T N cnd (relS scope sc) ifs' && ifs'.all tst && decide (cnd.length ≤ 1) && mtE T N k (relS scope sc) k' && mtE T N v (relS scope sc) v' && blkC N sc scope (ownOf N own) && (slotsT tg).all (own.contains ·) && own.all fun i => decide (i < N.length)
    | _ => false
  | _, _, _ => false
termination_by structural x => x
def mtL (T : Tab) (N : List Str) : List Ex → Scope → List Expr → Bool
  | [], _, [] => true
  | x :: xs, sc, e :: es => mtE T N x sc e && mtL T N xs sc es
  | _, _, _ => false
termination_by structural x => x
def mtI (T : Tab) (N : List Str) : Ex → Scope → Expr → Bool → Bool
  | .itv a, sc, e, _ => mtE T N a sc e
  | .rg1 a, sc, e, _ => match e with
    | .Call (.Name x _) [a'] [] _ => decide (x = ("range" : Str)) && glB sc x && mtE T N a sc a'
    | _ => false
  | .rg2 a b, sc, e, _ => match e with
    | .Call (.Name x _) [a', b'] [] _ => decide (x = ("range" : Str)) && glB sc x && mtE T N a sc a' && mtE T N b sc b'
    | _ => false
  | .rg3 a b c, sc, e, _ => match e with
    | .Call (.Name x _) [a', b', c'] [] _ => decide (x = ("range" : Str)) && glB sc x && mtE T N a sc a' && mtE T N b sc b' && mtE T N c sc c'
    | _ => false
  | .enm a, sc, e, t => match e with
    | .Call (.Name x _) [a'] [] _ => decide (x = ("enumerate" : Str)) && glB sc x && mtE T N a sc a' && t
    | _ => false
  | .zp a b, sc, e, t => match e with
    | .Call (.Name x _) [a', b'] [] _ => decide (x = ("zip" : Str)) && glB sc x && mtE T N a sc a' && mtE T N b sc b' && t
    | _ => false
  | .itm a, sc, e, t => match e with
    | .Call (.Attribute a' m ap) [] [] cp => decide (m = ("items" : Str)) && (ap.endLine == cp.line) && !call0E a' && mtE T N a sc a' && t
    | _ => false
  | .vls a, sc, e, _ => match e with
    | .Call (.Attribute a' m ap) [] [] cp => decide (m = ("values" : Str)) && (ap.endLine == cp.line) && !call0E a' && mtE T N a sc a'
    | _ => false
  | .rvd a, sc, e, _ => match e with
    | .Call (.Name x _) [a'] [] _ => decide (x = ("reversed" : Str)) && glB sc x && mtE T N a sc a'
    | _ => false
  | _, _, _, _ => false
termination_by structural x => x
end
end MP
end

section
set_option Elab.async false
set_option linter.all false
set_option maxRecDepth 100000
/-! MpI: what a def's code may lean on; the rules of the single expressions. -/
namespace MP
open PySem PySem.Spec PyProof.Rows L2
/-! ### plain texts -/
def plainE : Expr → Bool
  | .Starred _ _ => false
  | .Slice _ _ _ _ => false
  | .Set _ _ _ => false
  | _ => true
theorem star_plain {e : Expr} {es : List Expr} {env : PySem.Env} (h : plainE e = true) : starEach (e :: es) env = (false, eval e env) :: starEach es env := by
  cases e <;> first | rfl | (simp [plainE] at h)
theorem back_plain {pos : Pos} {env : PySem.Env} : ∀ {es : List Expr}, es.all plainE = true → (backTo pos (starEach es env)).any (·.1) = false
  | [], _ => rfl
  | e :: es, h => by
    simp only [List.all_cons, Bool.and_eq_true] at h
    rw [star_plain h.1]
    show (false || (backTo pos (starEach es env)).any (·.1)) = false
    rw [back_plain h.2]; rfl
theorem behind_plain {op : CmpOp} {e : Expr} (h : plainE e = true) : behindInMarks op e = false := by
  cases e <;> first | rfl | (simp [plainE] at h)
theorem ix_plain {e : Expr} (h : plainE e = true) : PlainIx e := by
  intro o i
  cases e <;> first | rfl | (simp [plainE] at h)
theorem folded_plain {e : Expr} {env : PySem.Env} (h : plainE e = true) : ∀ x, foldedSetIterable e env x = pure x := by
  intro x
  cases e <;> first | rfl | (simp [plainE] at h)
theorem base_plain {o : Expr} {m : Str} {env : PySem.Env} (h : call0E o = false) : attributeBase o m env (eval o env) = eval o env := by
  cases o with
  | Call f as ks p =>
    cases as with
    | nil => simp [call0E] at h
    | cons a as => cases f <;> rfl
  | _ => rfl
theorem trees1 {pos : Pos} {e : Expr} {env : PySem.Env} (h : plainE e = true) : backTo pos (starEach [e] env) = [(false, eval e env)] := by rw [star_plain h]; rfl
theorem trees2 {pos : Pos} {e f : Expr} {env : PySem.Env} (h : plainE e = true) (h' : plainE f = true) : backTo pos (starEach [e, f] env) = [(false, eval e env), (false, eval f env)] := by
  rw [star_plain h, star_plain h']; rfl
/-- an expression whose test is its value's truth -/
def flatE : Expr → Bool
  | .UnaryOp .Not _ _ | .BoolOp _ _ _ | .IfExp _ _ _ _ | .Compare _ _ _ _ => false
  | _ => true
theorem test_flat {e : Expr} {env : PySem.Env} (h : flatE e = true) : ∀ whole, isTrue e env whole = (do let v ← whole; standAt e.pos; holding [v] (truthy v)) := by
  intro w
  cases e with
  | UnaryOp o a p => cases o <;> first | rfl | (simp [flatE] at h)
  | _ => first | rfl | (simp [flatE] at h)
/-! ### the globals -/
def spF (T : Tab) (K : PySem.W.Frag) (Γ : Ctx) (n f : Nat) : Sp := fun vs H Q E => ∃ ι κ S ds, Wd T K H ι κ S ∧ RepL K H ι κ ds vs ∧ vs.length = n ∧ Post T K κ (fun c d _ H => E c d H) [] (relV K κ) H ι (Γ.F f ds S) Q
def FDef (T : Tab) (P : Program) (w : World) (K : PySem.W.Frag) (mg : Str → Option Value) (base : Heap) (Γ : Ctx) (k : Nat) (a : Addr) (f : Nat) : Prop :=
  ∃ fd ps, Binds K fd ps [] ∧ FnOk P w K mg base (L2.CX P w) k a fd ps (spF T K Γ ps.length f) ∧ ∀ ds S, Γ.F f ds S = .no ∨ ds.length = ps.length
def bltNames : List Str := ["len", "int", "abs", "max", "min", "sum", "all", "any", "sorted", "list", "tuple", "dict", "str", "range", "enumerate", "zip", "reversed", "isinstance", "bool"]
structure Globals (T : Tab) (P : Program) (w : World) (K : PySem.W.Frag) (mg : Str → Option Value) (base : Heap) (Γ : Ctx) (k : Nat) : Prop where
  fn : ∀ x f, (x, f) ∈ T.gl → ∃ a, mg x = some (.ref a) ∧ PySem.W.keepIn K (.ref a) = true ∧ FDef T P w K mg base Γ k a f
  blt : ∀ x ∈ bltNames, mg x = none
  con : ∀ x d, (x, d) ∈ T.consts → ∃ u v, mg x = some u ∧ RelV v u ∧ ∀ H ι κ, Rep K H ι κ d v
  cls : ∀ C c, T.cad K C = some c → Cls K c
  noat : ∀ C c f, T.cad K C = some c → f ∈ T.flds → NoAttr K c f
  meth : ∀ C c m f, T.cad K C = some c → Γ.M C m = some f → ∃ a, Meth K c m a ∧ FDef T P w K mg base Γ k a f
  make : ∀ C c f cl, T.cad K C = some c → T.P.cls[C]? = some cl → Γ.I C = some f → mg cl.name = some (.ref c) ∧ ∃ a, Mk K c a ∧ FDef T P w K mg base Γ k a f
structure Gd (T : Tab) (N : List Str) (Γ : Ctx) (k : Nat) (X : Cx) (W : WX) (sc : Scope) : Prop where
  sc : X.env.scope = sc
  hN : X.N = N
  nd : N.Nodup
  calm : X.calm = true
  room : Room (k + 1) X.A
  tk : Takes X W
  glo : Globals T X.prog X.w X.K X.mg X.base Γ k
section
variable {T : Tab} {N : List Str} {Γ : Ctx} {k : Nat} {X : Cx} {W : WX} {sc : Scope}
theorem Gd.hu (g : Gd T N Γ k X W sc) : X.A.units + 65 < cLine := by have := g.room.un; omega
theorem Gd.gl (g : Gd T N Γ k X W sc) {x : Str} (h : glB sc x = true) : Gl X x := by
  unfold glB at h
  show X.env.scope.names.lookup x = _
  rw [g.sc]
  exact of_decide_eq_true h
theorem Gd.vis (g : Gd T N Γ k X W sc) {x : Str} (h : visB sc x = true) : Vis X.env.scope x := by
  unfold visB at h
  unfold Vis
  rw [g.sc]
  split at h <;> first | exact .inl (by assumption) | exact .inr (.inl (by assumption)) | exact .inr (.inr (by assumption)) | cases h
theorem Gd.loc (g : Gd T N Γ k X W sc) {x : Str} (h : locB sc x = true) : L2.Loc X.env.scope x := by
  unfold locB at h
  unfold L2.Loc
  rw [g.sc]
  split at h <;> first | exact .inl (by assumption) | exact .inr (by assumption) | cases h
end
theorem nmB_dbg {x : Str} (h : nmB x = true) : (x == ("__debug__" : Str)) = false := by
  simp only [nmB, Bool.and_eq_true, Bool.not_eq_true'] at h; exact h.1.1
theorem nmB_cd {x : Str} (h : nmB x = true) : (x == ("__classdict__" : Str)) = false := by
  simp only [nmB, Bool.and_eq_true, Bool.not_eq_true'] at h; exact h.1.2
/-! ### going on -/
section
variable {T : Tab} {K : PySem.W.Frag} {W : WX} {Γ : Ctx} {H H' : Hp} {ι ι' κ : List Addr} {σ : L2.St} {ρ : Env} {S S' : Sto} {Q : VK}
theorem EnvR.up (h : EnvR K H ι κ σ ρ) (e : Ext H ι H' ι') (w : Wd T K H ι κ S) : EnvR K H' ι' κ σ ρ := h.mono e w.mut fun _ z => .inl z
theorem Rep.up {d : D} {v : V} (h : Rep K H ι κ d v) (e : Ext H ι H' ι') (w : Wd T K H ι κ S) : Rep K H' ι' κ d v := Rep.mono e w.mut (fun _ z => .inl z) h
theorem RepL.up {d : List D} {v : List V} (h : RepL K H ι κ d v) (e : Ext H ι H' ι') (w : Wd T K H ι κ S) : RepL K H' ι' κ d v := RepL.mono e w.mut (fun _ z => .inl z) h
theorem Post.of {o : Option D} (h : Post T K κ W σ (relV K κ) H ι (R.of o S) Q) : ∃ d, o = some d ∧ VPost T K ι κ H S d Q := by
  cases o with
  | none => exact h.elim
  | some d => exact ⟨d, rfl, fun v H' ι' e w r => h v H' ι' e w r⟩
theorem Post.val {d : D} (h : Post T K κ W σ (relV K κ) H ι (.ok d S) Q) : VPost T K ι κ H S d Q := fun v H' ι' e w r => h v H' ι' e w r
theorem PostN.val {d : D} (h : PostN T K κ W σ H ι (.ok d S) Q) : NPost T K ι κ H S d Q := fun p H' ι' hn e w r => h p H' ι' hn e w r
theorem PostN.of' {o : Option D} (h : PostN T K κ W σ H ι (R.of o S) Q) : ∃ d, o = some d ∧ NPost T K ι κ H S d Q := by
  cases o with
  | none => exact h.elim
  | some d => exact ⟨d, rfl, PostN.val h⟩
theorem PostN.trans {r : R D} {H1 : Hp} {ι1 : List Addr} (h : PostN T K κ W σ H ι r Q) (e : Ext H ι H1 ι1) (m : ∀ a ∈ ι1, Mut (H1 a)) : PostN T K κ W σ H1 ι1 r Q := by
  cases r with
  | ok a S => exact fun g H' ι' hn e' w q => h g H' ι' (Ext.none e m hn) (e.trans e') w q
  | exc C fs S => exact fun c d H' ι' e' w q => h c d H' ι' (e.trans e') w q
  | no => exact h
theorem PostN.bind {α γ : Type} {rel : Hp → List Addr → α → γ → Prop} {r : R α} {f : α → Sto → R D} {Q1 : γ → Hp → Prop} (h : PostN T K κ W σ H ι (r.bind f) Q)
    (g : ∀ a S1 c H1 ι1, Ext H ι H1 ι1 → Wd T K H1 ι1 κ S1 → rel H1 ι1 a c → PostN T K κ W σ H1 ι1 (f a S1) Q → Q1 c H1) : Post T K κ W σ rel H ι r Q1 := by
  cases r with
  | ok a S => exact fun c H' ι' e w q => g a S c H' ι' e w q (PostN.trans h e w.mut)
  | exc C fs S => exact h
  | no => exact h
theorem PostN.bindE {α γ : Type} {rel : Hp → List Addr → α → γ → Prop} {r : R α} {f : α → Sto → R D} {Q1 : γ → Hp → Prop} (h : PostN T K κ W σ H ι (r.bind f) Q)
    (g : ∀ a S1 c H1 ι1, r = .ok a S1 → Ext H ι H1 ι1 → Wd T K H1 ι1 κ S1 → rel H1 ι1 a c → PostN T K κ W σ H1 ι1 (f a S1) Q → Q1 c H1) : Post T K κ W σ rel H ι r Q1 := by
  cases r with
  | ok a S => exact fun c H' ι' e w q => g a S c H' ι' rfl e w q (PostN.trans h e w.mut)
  | exc C fs S => exact h
  | no => exact h
theorem evE_lst {zs : List Ex} {d : D} (h : evE Γ (.lst zs) ρ S = .ok d S') : ∃ ds, d = .lst ds := by
  simp only [evE] at h
  cases hr : evL Γ zs ρ S with
  | ok a S1 =>
    rw [hr] at h
    simp only [R.bind] at h
    split at h
    · cases h; exact ⟨_, rfl⟩
    · cases h
  | exc C fs S1 => rw [hr] at h; cases h
  | no => rw [hr] at h; cases h
/-! a change in the store -/
theorem Ext.set {a : Addr} {o : HO} (h : a ∈ ι) : Ext H ι (upd H a o) ι := ⟨fun b u n q => by rw [upd_ne (fun z => n (by rw [z]; exact h))]; exact q, fun _ z => .inl z, List.prefix_refl _⟩
theorem Wd.put {n : Nat} {a : Addr} {o : HO} {ob : O} (w : Wd T K H ι κ S) (ha : ι[n]? = some a) (hob : ObR T K (upd H a o) ι κ a ob) : Wd T K (upd H a o) ι κ (S.set n ob) where
  len := by rw [List.length_set]; exact w.len
  nd := w.nd
  dj := w.dj
  kt := fun b z => by
    by_cases e : b = a
    · rw [e]; exact ⟨o, upd_same⟩
    · obtain ⟨u, q⟩ := w.kt b z
      exact ⟨u, by rw [upd_ne e]; exact q⟩
  ob := fun m b u e1 e2 => by
    by_cases e : b = a
    · subst e
      have : m = n := by
        have h1 := (List.getElem?_eq_some_iff.mp e1)
        have h2 := (List.getElem?_eq_some_iff.mp ha)
        exact (List.getElem_inj w.nd).mp (h1.2.trans h2.2.symm)
      subst this
      rw [List.getElem?_set_self (by rw [← w.len]; exact (List.getElem?_eq_some_iff.mp ha).1)] at e2
      cases e2
      exact hob
    · have hm : n ≠ m := fun z => e (by rw [← z, ha] at e1; exact (Option.some.inj e1).symm)
      rw [List.getElem?_set_ne hm] at e2
      exact (w.ob m b u e1 e2).mono (Ext.set (List.mem_of_getElem? ha)) w.mut (fun _ z => .inl z) (upd_ne e)
end
/-! ### sound -/
structure Snd (T : Tab) (X : Cx) (W : WX) (Γ : Ctx) (x : Ex) (e : Expr) : Prop where
  pl : plainE e = true
  pe : PE X e (tE T X.K W Γ x)
  pt : tst e = true → PT X e (tBB T X.K W Γ x)
  pn : fresh x = true → PE X e (tN T X.K W Γ x)
inductive SndL (T : Tab) (X : Cx) (W : WX) (Γ : Ctx) : List Ex → List Expr → Prop where
  | nil : SndL T X W Γ [] []
  | cons {x : Ex} {e : Expr} {xs : List Ex} {es : List Expr} : Snd T X W Γ x e → SndL T X W Γ xs es → SndL T X W Γ (x :: xs) (e :: es)
section
variable {T : Tab} {N : List Str} {Γ : Ctx} {k : Nat} {X : Cx} {W : WX} {sc : Scope} {x y z : Ex} {a b c e : Expr} {xs : List Ex} {es : List Expr} {pos : Pos}
theorem SndL.plain (h : SndL T X W Γ xs es) : es.all plainE = true := by
  induction h with
  | nil => rfl
  | cons h _ ih => simp only [List.all_cons, h.pl, ih, Bool.and_true]
theorem SndL.length (h : SndL T X W Γ xs es) : xs.length = es.length := by
  induction h with
  | nil => rfl
  | cons _ _ ih => simp [ih]
theorem SndL.pa (h : SndL T X W Γ xs es) : PA X es (tA T X.K W Γ xs) := by
  induction h with
  | nil =>
    refine PA.wk pa_nil fun σ H Q ⟨ι, κ, S, ρ, w, en, p⟩ => ?_
    simp only [evL] at p
    exact p [] H ι Ext.refl w rfl
  | cons h t ih =>
    refine PA.wk (pa_cons h.pe ih (star_plain h.pl)) fun σ H Q ⟨ι, κ, S, ρ, w, en, p⟩ => ?_
    simp only [evL] at p
    refine ⟨ι, κ, S, ρ, w, en, p.bind fun d S1 v H1 ι1 e1 w1 r1 p1 => ⟨ι1, κ, S1, ρ, w1, en.up e1 w, p1.bind fun ds S2 vs H2 ι2 e2 w2 r2 p2 => ?_⟩⟩
    refine p2 (v :: vs) H2 ι2 Ext.refl w2 ?_
    show RepL X.K H2 ι2 κ (d :: ds) (v :: vs)
    simp only [RepL]
    exact ⟨v, vs, rfl, Rep.up r1 e2 w1, r2⟩
theorem tB_of {σ : L2.St} {H : Hp} {Q : Bool → Hp → Prop} (h : tBB T X.K W Γ x σ H Q) : L2.tB (tE T X.K W Γ x) σ H Q := by
  obtain ⟨ι, κ, S, ρ, w, en, p⟩ := h
  refine ⟨ι, κ, S, ρ, w, en, p.bind fun d S1 v H1 ι1 e1 w1 r1 p1 => ?_⟩
  cases d with
  | bl c =>
    have r1 : Rep X.K H1 ι1 κ (.bl c) v := r1
    simp only [Rep] at r1
    exact ⟨c, r1, p1 c H1 ι1 Ext.refl w1 rfl⟩
  | _ => exact p1.elim
/-- from its value alone -/
theorem Snd.of (hf : flatE e = true) (hp : plainE e = true) (h : PE X e (tE T X.K W Γ x)) (n : fresh x = false) : Snd T X W Γ x e :=
  ⟨hp, h, fun _ => PT.wk (pt_val h (test_flat hf)) fun _ _ _ => tB_of, fun z => by rw [n] at z; cases z⟩
theorem Snd.ofN (hf : flatE e = true) (hp : plainE e = true) (h : PE X e (tN T X.K W Γ x)) : Snd T X W Γ x e :=
  ⟨hp, PE.wk (PE.relock h) fun _ _ _ => tE_of_tN, fun _ => PT.wk (pt_val (PE.wk (PE.relock h) fun _ _ _ => tE_of_tN) (test_flat hf)) fun _ _ _ => tB_of, fun _ => h⟩
theorem s_mut (hf : flatE e = true) (h : Snd T X W Γ x e) (n : fresh x = true) : Snd T X W Γ (.mut x) e :=
  .of hf h.pl (PE.wk (h.pn n) fun _ _ _ => tN_mut) rfl
/-! names, constants -/
theorem s_var (g : Gd T N Γ k X W sc) {i : Nat} {n : Str} (hN : N[i]? = some n) (hv : visB sc n = true) (hn : nmB n = true) : Snd T X W Γ (.var i) (.Name n pos) := by
  refine .of rfl rfl (PE.wk (pe_var (by rw [g.hN]; exact hN) (g.vis hv) (nmB_dbg hn) (nmB_cd hn)) fun σ H Q ⟨ι, κ, S, ρ, w, en, p⟩ => ?_) rfl
  simp only [evE] at p
  obtain ⟨d, ed, q⟩ := p.of
  have : ρ[i]? = some (some d) := by
    unfold Env.get at ed
    split at ed <;> first | (rename_i h; rw [h, ed]) | cases ed
  obtain ⟨v, h1, h2⟩ := en.2 i d this
  exact ⟨v, h1, q.same w h2⟩
theorem s_con {d : D} (h : conM d e = true) : Snd T X W Γ (.con d) e := by
  unfold conM at h
  split at h
  · exact .of rfl rfl (PE.wk pe_non fun σ H Q ⟨ι, κ, S, ρ, w, en, p⟩ => by simp only [evE] at p; exact p.val.same w (by simp only [Rep])) rfl
  · rename_i b c _ _
    obtain rfl : b = c := by simpa using h
    exact .of rfl rfl (PE.wk pe_bl fun σ H Q ⟨ι, κ, S, ρ, w, en, p⟩ => by simp only [evE] at p; exact p.val.same w (by simp only [Rep])) rfl
  · obtain rfl := of_decide_eq_true h
    exact .of rfl rfl (PE.wk pe_int fun σ H Q ⟨ι, κ, S, ρ, w, en, p⟩ => by simp only [evE] at p; exact p.val.same w (by simp only [Rep])) rfl
  · simp only [Bool.and_eq_true, decide_eq_true_eq] at h
    obtain ⟨rfl, hs⟩ := h
    exact .of rfl rfl (PE.wk pe_str fun σ H Q ⟨ι, κ, S, ρ, w, en, p⟩ => by simp only [evE] at p; exact p.val.same w (by simp only [Rep]; exact ⟨trivial, hs⟩)) rfl
  · cases h
theorem s_glo (g : Gd T N Γ k X W sc) {n : Str} {d : D} (hm : (n, d) ∈ T.consts) (hg : glB sc n = true) (hn : nmB n = true) : Snd T X W Γ (.glo n d) (.Name n pos) := by
  obtain ⟨u, v, h1, h2, h3⟩ := g.glo.con n d hm
  exact .of rfl rfl (PE.wk (pe_glob (g.gl hg) h1 h2 (nmB_dbg hn)) fun σ H Q ⟨ι, κ, S, ρ, w, en, p⟩ => by simp only [evE] at p; exact p.val.same w (h3 H ι κ)) rfl
theorem s_tup {m : Nat} (h : SndL T X W Γ xs es) : Snd T X W Γ (.tup xs) (.Tuple es m pos) := by
  refine .of rfl rfl (PE.wk (pe_tup h.pa) fun σ H Q ⟨ι, κ, S, ρ, w, en, p⟩ => ?_) rfl
  simp only [evE] at p
  refine ⟨ι, κ, S, ρ, w, en, p.bind fun ds S1 vs H1 ι1 e1 w1 r1 p1 => ?_⟩
  split at p1
  · rename_i hl
    exact ⟨LIM_line (by rw [← RepL.length r1]; exact hl), fun q hq => p1.val.tup w1 r1 hq⟩
  · exact p1.elim
theorem s_lst (h : SndL T X W Γ xs es) : Snd T X W Γ (.lst xs) (.List es pos) := by
  refine .ofN rfl rfl (PE.wk (pe_lst h.pa) fun σ H Q ⟨ι, κ, S, ρ, w, en, p⟩ => ?_)
  simp only [evE] at p
  refine ⟨ι, κ, S, ρ, w, en, p.bind fun ds S1 vs H1 ι1 e1 w1 r1 p1 => ?_⟩
  split at p1
  · rename_i hl
    exact ⟨LIM_line (by rw [← RepL.length r1]; exact hl), fun q hq => p1.val.lst w1 r1 hq⟩
  · exact p1.elim
theorem s_dk : Snd T X W Γ .dk (.Dict [] [] pos) := by
  refine .ofN rfl rfl (PE.wk pe_dnewK fun σ H Q ⟨ι, κ, S, ρ, w, en, p⟩ q hq => ?_)
  simp only [evE] at p
  exact p.val.dic w (vs := []) (by simp only [RepK]) hq
theorem s_dt : Snd T X W Γ .dt (.Dict [] [] pos) := by
  refine .ofN rfl rfl (PE.wk pe_dnewT fun σ H Q ⟨ι, κ, S, ρ, w, en, p⟩ q hq => ?_)
  simp only [evE] at p
  exact p.val.dit w (vs := []) (by simp only [RepT]) hq
/-! operators -/
theorem s_op {o : Operator} (ha : Snd T X W Γ x a) (hb : Snd T X W Γ y b) : Snd T X W Γ (.op o x y) (.BinOp a o b pos) := by
  have h : PE X (.BinOp a o b pos) (tE T X.K W Γ (.op o x y)) := by
    refine PE.wk (pe_op (op_sound (T := T) o) ha.pe hb.pe) fun σ H Q ⟨ι, κ, S, ρ, w, en, p⟩ => ?_
    simp only [evE] at p
    refine ⟨ι, κ, S, ρ, w, en, p.bind fun d S1 v H1 ι1 e1 w1 r1 p1 => ⟨ι1, κ, S1, ρ, w1, en.up e1 w, p1.bind fun d2 S2 u H2 ι2 e2 w2 r2 p2 => ?_⟩⟩
    obtain ⟨z, hz, q⟩ := p2.of
    exact ⟨ι2, κ, S2, d, d2, z, w2, Rep.up r1 e2 w1, r2, hz, q⟩
  refine ⟨rfl, h, fun _ => PT.wk (pt_val h (test_flat rfl)) fun _ _ _ => tB_of, fun hf => ?_⟩
  have hx : ∃ zs, x = .lst zs := by
    unfold fresh at hf
    split at hf
    all_goals first | (cases hf; done) | skip
    all_goals first | exact ⟨_, rfl⟩ | (rename_i e _; cases e; exact ⟨_, rfl⟩) | (rename_i e; cases e; exact ⟨_, rfl⟩) | (rename_i e; cases e)
  obtain ⟨zs, rfl⟩ := hx
  refine PE.wk (pe_op (op_soundN (T := T) o) ha.pe hb.pe) fun σ H Q ⟨ι, κ, S, ρ, w, en, p⟩ => ?_
  rw [show evE Γ (.op o (.lst zs) y) ρ S = (evE Γ (.lst zs) ρ S).bind fun x S => (evE Γ y ρ S).bind fun y S => R.of (opD o x y) S by conv => lhs; rw [evE]] at p
  refine ⟨ι, κ, S, ρ, w, en, ?_⟩
  refine PostN.bindE p fun d S1 v H1 ι1 he e1 w1 r1 p1 => ⟨ι1, κ, S1, ρ, w1, en.up e1 w, PostN.bind p1 fun d2 S2 u H2 ι2 e2 w2 r2 p2 => ?_⟩
  obtain ⟨ds, hd⟩ := evE_lst he
  obtain ⟨z, hz, q⟩ := PostN.of' p2
  exact ⟨ι2, κ, S2, d, d2, z, ds, w2, Rep.up r1 e2 w1, r2, hd, hz, q⟩
theorem s_neg (ha : Snd T X W Γ x a) : Snd T X W Γ (.neg x) (.UnaryOp .USub a pos) := by
  refine .of rfl rfl (PE.wk (pe_un un_neg ha.pe) fun σ H Q ⟨ι, κ, S, ρ, w, en, p⟩ => ?_) rfl
  simp only [evE] at p
  refine ⟨ι, κ, S, ρ, w, en, p.bind fun d S1 v H1 ι1 e1 w1 r1 p1 => ?_⟩
  cases d with
  | int i =>
    have r1 : Rep X.K H1 ι1 κ (.int i) v := r1
    simp only [Rep] at r1
    exact ⟨i, r1, p1.val.same w1 (by simp only [Rep])⟩
  | _ => exact p1.elim
theorem i_cmp {o : CmpOp} {σ : L2.St} {H : Hp} {Q : VK} (h : tE T X.K W Γ (.cmp o x y) σ H Q) : tOp (rCmp T X.K o) (tE T X.K W Γ x) (tE T X.K W Γ y) σ H Q := by
  obtain ⟨ι, κ, S, ρ, w, en, p⟩ := h
  simp only [evE] at p
  refine ⟨ι, κ, S, ρ, w, en, p.bind fun d S1 v H1 ι1 e1 w1 r1 p1 => ⟨ι1, κ, S1, ρ, w1, en.up e1 w, p1.bind fun d2 S2 u H2 ι2 e2 w2 r2 p2 => ?_⟩⟩
  split at p2
  · rename_i c hc
    exact ⟨ι2, κ, S2, d, d2, c, w2, Rep.up r1 e2 w1, r2, hc, p2.val.same w2 (by simp only [Rep])⟩
  · exact p2.elim
theorem s_cmp (g : Gd T N Γ k X W sc) {o : CmpOp} (ha : Snd T X W Γ x a) (hb : Snd T X W Γ y b) : Snd T X W Γ (.cmp o x y) (.Compare a [o] [b] pos) :=
  ⟨rfl, PE.wk (pe_cmpR (cmp_sound (T := T) g.hu o) ha.pe hb.pe (behind_plain hb.pl)) fun _ _ _ => i_cmp,
   fun _ => PT.wk (pt_cmpR (cmp_sound (T := T) g.hu o) ha.pe hb.pe (behind_plain hb.pl)) fun _ _ _ h => i_cmp (tB_of h), fun z => by cases z⟩
theorem i_chn {o o' : CmpOp} {σ : L2.St} {H : Hp} {Q : VK} (h : tE T X.K W Γ (.chn o o' x y z) σ H Q) : tChain (rCmp T X.K o) (rCmp T X.K o') (tE T X.K W Γ x) (tE T X.K W Γ y) (tE T X.K W Γ z) σ H Q := by
  obtain ⟨ι, κ, S, ρ, w, en, p⟩ := h
  simp only [evE] at p
  refine ⟨ι, κ, S, ρ, w, en, p.bind fun d S1 v H1 ι1 e1 w1 r1 p1 => ⟨ι1, κ, S1, ρ, w1, en.up e1 w, p1.bind fun d2 S2 u H2 ι2 e2 w2 r2 p2 => ?_⟩⟩
  split at p2
  · rename_i hc
    refine ⟨ι2, κ, S2, d, d2, true, w2, Rep.up r1 e2 w1, r2, hc, true, rfl, ?_⟩
    rw [if_pos rfl]
    refine ⟨ι2, κ, S2, ρ, w2, (en.up e1 w).up e2 w1, p2.bind fun d3 S3 u3 H3 ι3 e3 w3 r3 p3 => ?_⟩
    split at p3
    · rename_i c hc3
      exact ⟨ι3, κ, S3, d2, d3, c, w3, Rep.up r2 e3 w2, r3, hc3, p3.val.same w3 (by simp only [Rep])⟩
    · exact p3.elim
  · rename_i hc
    refine ⟨ι2, κ, S2, d, d2, false, w2, Rep.up r1 e2 w1, r2, hc, false, rfl, ?_⟩
    rw [if_neg Bool.false_ne_true]
    exact p2.val.same w2 (by simp only [Rep])
  · exact p2.elim
theorem s_chn (g : Gd T N Γ k X W sc) {o o' : CmpOp} (ha : Snd T X W Γ x a) (hb : Snd T X W Γ y b) (hc : Snd T X W Γ z c) : Snd T X W Γ (.chn o o' x y z) (.Compare a [o, o'] [b, c] pos) :=
  ⟨rfl, PE.wk (pe_chain (cmp_sound (T := T) g.hu o) (cmp_sound (T := T) g.hu o') ha.pe hb.pe hc.pe (behind_plain hc.pl)) fun _ _ _ => i_chn,
   fun _ => PT.wk (pt_chain (cmp_sound (T := T) g.hu o) (cmp_sound (T := T) g.hu o') ha.pe hb.pe hc.pe (behind_plain hc.pl)) fun _ _ _ h => i_chn (tB_of h), fun z => by cases z⟩
/-! truth -/
theorem s_not (ha : Snd T X W Γ x a) (ht : tst a = true) : Snd T X W Γ (.not x) (.UnaryOp .Not a pos) := by
  refine ⟨rfl, PE.wk (pe_not ha.pe) fun σ H Q ⟨ι, κ, S, ρ, w, en, p⟩ => ?_, fun _ => PT.wk (pt_not (ha.pt ht)) fun σ H Q ⟨ι, κ, S, ρ, w, en, p⟩ => ?_, fun z => by cases z⟩
  · simp only [evE] at p
    refine ⟨ι, κ, S, ρ, w, en, p.bind fun d S1 v H1 ι1 e1 w1 r1 p1 => ?_⟩
    cases d with
    | bl c =>
      have r1 : Rep X.K H1 ι1 κ (.bl c) v := r1
      simp only [Rep] at r1
      exact ⟨c, r1, p1.val.same w1 (by simp only [Rep])⟩
    | _ => exact p1.elim
  · simp only [evE] at p
    refine ⟨ι, κ, S, ρ, w, en, ?_⟩
    cases hx : evE Γ x ρ S with
    | ok d S1 =>
      rw [hx] at p
      cases d with
      | bl c => exact fun g H' ι' e w' q => p (!g) H' ι' e w' (by show (!c) = (!g); rw [show c = g from q])
      | _ => exact p.elim
    | exc C fs S1 => rw [hx] at p; exact p
    | no => rw [hx] at p; exact p
theorem s_ite (hc : Snd T X W Γ x c) (ht : tst c = true) (ha : Snd T X W Γ y a) (hb : Snd T X W Γ z b) : Snd T X W Γ (.ite x y z) (.IfExp c a b pos) := by
  refine ⟨rfl, PE.wk (pe_ifExp (hc.pt ht) ha.pe hb.pe) fun σ H Q ⟨ι, κ, S, ρ, w, en, p⟩ => ?_, fun z => by simp [tst] at z, fun z => by cases z⟩
  simp only [evE] at p
  refine ⟨ι, κ, S, ρ, w, en, ?_⟩
  cases hx : evE Γ x ρ S with
  | ok d S1 =>
    rw [hx] at p
    cases d with
    | bl v =>
      intro g H' ι' e w' q
      obtain rfl : v = g := q
      have p : Post T X.K κ W σ (relV X.K κ) H ι (match D.bl v with | .bl true => evE Γ y ρ S1 | .bl false => evE Γ z ρ S1 | _ => .no) Q := p
      cases v with
      | true => rw [if_pos rfl]; exact ⟨ι', κ, S1, ρ, w', en.up e w, Post.trans p e⟩
      | false => rw [if_neg Bool.false_ne_true]; exact ⟨ι', κ, S1, ρ, w', en.up e w, Post.trans p e⟩
    | _ => exact p.elim
  | exc C fs S1 => rw [hx] at p; exact p
  | no => rw [hx] at p; exact p
end
end MP
end

section
set_option Elab.async false
set_option linter.all false
set_option maxRecDepth 100000
/-! MpJ: and, or; subscripts, slices; calls; methods; fields. -/
namespace MP
open PySem PySem.Spec PyProof.Rows L2
section
variable {T : Tab} {N : List Str} {Γ : Ctx} {k : Nat} {X : Cx} {W : WX} {sc : Scope} {x y z : Ex} {a b c e : Expr} {xs : List Ex} {es : List Expr} {pos : Pos}
/-! and, or -/
theorem bl_of {K : PySem.W.Frag} {H : Hp} {ι κ : List Addr} {b : Bool} {v : V} (h : relV K κ H ι (.bl b) v) : v = .bl b := by
  have h : Rep K H ι κ (.bl b) v := h
  simpa only [Rep] using h
theorem and_pe (h : SndL T X W Γ xs es) (hne : xs ≠ []) : PE X (.BoolOp .And es pos) fun σ H Q => ∃ ι κ S ρ, Wd T X.K H ι κ S ∧ EnvR X.K H ι κ σ ρ ∧ Post T X.K κ W σ (relV X.K κ) H ι (evAnd Γ xs ρ S) Q := by
  induction h with
  | nil => exact absurd rfl hne
  | @cons x e xs es hx ht ih =>
    cases ht with
    | nil =>
      refine PE.wk (pe_one hx.pe) fun σ H Q ⟨ι, κ, S, ρ, w, en, p⟩ => ?_
      simp only [evAnd] at p
      exact ⟨ι, κ, S, ρ, w, en, p⟩
    | @cons x' e' xs' es' hx' ht' =>
      refine PE.wk (pe_and hx.pe (ih (by simp))) fun σ H Q ⟨ι, κ, S, ρ, w, en, p⟩ => ?_
      rw [show evAnd Γ (x :: x' :: xs') ρ S = (evE Γ x ρ S).bind fun d S => match d with
        | .bl true => evAnd Γ (x' :: xs') ρ S
        | .bl false => .ok (.bl false) S
        | _ => .no from rfl] at p
      refine ⟨ι, κ, S, ρ, w, en, p.bind fun d S1 v H1 ι1 e1 w1 r1 p1 => ?_⟩
      cases d with
      | bl c =>
        refine ⟨c, bl_of r1, ?_⟩
        cases c with
        | true => rw [if_pos rfl]; exact ⟨ι1, κ, S1, ρ, w1, en.up e1 w, p1⟩
        | false => rw [if_neg Bool.false_ne_true]; exact p1.val.same w1 (by simp only [Rep])
      | _ => exact p1.elim
theorem or_pe (h : SndL T X W Γ xs es) (hne : xs ≠ []) : PE X (.BoolOp .Or es pos) fun σ H Q => ∃ ι κ S ρ, Wd T X.K H ι κ S ∧ EnvR X.K H ι κ σ ρ ∧ Post T X.K κ W σ (relV X.K κ) H ι (evOr Γ xs ρ S) Q := by
  induction h with
  | nil => exact absurd rfl hne
  | @cons x e xs es hx ht ih =>
    cases ht with
    | nil =>
      refine PE.wk (pe_one hx.pe) fun σ H Q ⟨ι, κ, S, ρ, w, en, p⟩ => ?_
      simp only [evOr] at p
      exact ⟨ι, κ, S, ρ, w, en, p⟩
    | @cons x' e' xs' es' hx' ht' =>
      refine PE.wk (pe_or hx.pe (ih (by simp))) fun σ H Q ⟨ι, κ, S, ρ, w, en, p⟩ => ?_
      rw [show evOr Γ (x :: x' :: xs') ρ S = (evE Γ x ρ S).bind fun d S => match d with
        | .bl false => evOr Γ (x' :: xs') ρ S
        | .bl true => .ok (.bl true) S
        | _ => .no from rfl] at p
      refine ⟨ι, κ, S, ρ, w, en, p.bind fun d S1 v H1 ι1 e1 w1 r1 p1 => ?_⟩
      cases d with
      | bl c =>
        refine ⟨c, bl_of r1, ?_⟩
        cases c with
        | false => rw [if_neg Bool.false_ne_true]; exact ⟨ι1, κ, S1, ρ, w1, en.up e1 w, p1⟩
        | true => rw [if_pos rfl]; exact p1.val.same w1 (by simp only [Rep])
      | _ => exact p1.elim
/-- the end of a test -/
theorem Post.test {σ : L2.St} {H : Hp} {ι κ : List Addr} {S : Sto} {r : R D} {k : D → Sto → R D} {Q : Bool → Hp → Prop} {Q1 : Bool → Hp → Prop} (p : Post T X.K κ W σ relB H ι ((r.bind k).bind asB) Q)
    (no : ∀ d S, (∀ b, d ≠ .bl b) → k d S = .no) (f : ∀ b S1 H1 ι1, Ext H ι H1 ι1 → Wd T X.K H1 ι1 κ S1 → Post T X.K κ W σ relB H1 ι1 ((k (.bl b) S1).bind asB) Q → Q1 b H1) : Post T X.K κ W σ relB H ι (r.bind asB) Q1 := by
  cases r with
  | ok d S1 =>
    have p : Post T X.K κ W σ relB H ι ((k d S1).bind asB) Q := p
    cases d with
    | bl b =>
      intro g H' ι' e w q
      obtain rfl : b = g := q
      exact f b S1 H' ι' e w (Post.trans p e)
    | _ => rw [no _ _ (by intro b h; cases h)] at p; exact p
  | exc C fs S1 => exact p
  | no => exact p
theorem and_pt (h : SndL T X W Γ xs es) (hne : xs ≠ []) (hts : es.all tst = true) : PW X (.BoolOp .And es pos) fun σ H Q => ∃ ι κ S ρ, Wd T X.K H ι κ S ∧ EnvR X.K H ι κ σ ρ ∧ Post T X.K κ W σ relB H ι ((evAnd Γ xs ρ S).bind asB) Q := by
  induction h with
  | nil => exact absurd rfl hne
  | @cons x e xs es hx ht ih =>
    simp only [List.all_cons, Bool.and_eq_true] at hts
    cases ht with
    | nil =>
      refine ⟨fun wh pins s σ H Q I ⟨ι, κ, S, ρ, w, en, p⟩ => (pw_and1 (hx.pt hts.1)).run wh pins s σ H Q I ?_⟩
      simp only [evAnd] at p
      exact ⟨ι, κ, S, ρ, w, en, p⟩
    | @cons x' e' xs' es' hx' ht' =>
      refine ⟨fun wh pins s σ H Q I ⟨ι, κ, S, ρ, w, en, p⟩ => (pw_and (hx.pt hts.1) (ih (by simp) hts.2)).run wh pins s σ H Q I ?_⟩
      rw [show evAnd Γ (x :: x' :: xs') ρ S = (evE Γ x ρ S).bind fun d S => match d with
        | .bl true => evAnd Γ (x' :: xs') ρ S
        | .bl false => .ok (.bl false) S
        | _ => .no from rfl] at p
      refine ⟨ι, κ, S, ρ, w, en, Post.test (S := S) p (fun d S h => ?_) fun b S1 H1 ι1 e1 w1 p1 => ?_⟩
      · cases d <;> first | rfl | exact absurd rfl (h _)
      · cases b with
        | true => rw [if_pos rfl]; exact ⟨ι1, κ, S1, ρ, w1, en.up e1 w, p1⟩
        | false => rw [if_neg Bool.false_ne_true]; exact p1 false H1 ι1 Ext.refl w1 rfl
theorem or_pt (h : SndL T X W Γ xs es) (hne : xs ≠ []) (hts : es.all tst = true) : PW X (.BoolOp .Or es pos) fun σ H Q => ∃ ι κ S ρ, Wd T X.K H ι κ S ∧ EnvR X.K H ι κ σ ρ ∧ Post T X.K κ W σ relB H ι ((evOr Γ xs ρ S).bind asB) Q := by
  induction h with
  | nil => exact absurd rfl hne
  | @cons x e xs es hx ht ih =>
    simp only [List.all_cons, Bool.and_eq_true] at hts
    cases ht with
    | nil =>
      refine ⟨fun wh pins s σ H Q I ⟨ι, κ, S, ρ, w, en, p⟩ => (pw_or1 (hx.pt hts.1)).run wh pins s σ H Q I ?_⟩
      simp only [evOr] at p
      exact ⟨ι, κ, S, ρ, w, en, p⟩
    | @cons x' e' xs' es' hx' ht' =>
      refine ⟨fun wh pins s σ H Q I ⟨ι, κ, S, ρ, w, en, p⟩ => (pw_or (hx.pt hts.1) (ih (by simp) hts.2)).run wh pins s σ H Q I ?_⟩
      rw [show evOr Γ (x :: x' :: xs') ρ S = (evE Γ x ρ S).bind fun d S => match d with
        | .bl false => evOr Γ (x' :: xs') ρ S
        | .bl true => .ok (.bl true) S
        | _ => .no from rfl] at p
      refine ⟨ι, κ, S, ρ, w, en, Post.test (S := S) p (fun d S h => ?_) fun b S1 H1 ι1 e1 w1 p1 => ?_⟩
      · cases d <;> first | rfl | exact absurd rfl (h _)
      · cases b with
        | false => rw [if_neg Bool.false_ne_true]; exact ⟨ι1, κ, S1, ρ, w1, en.up e1 w, p1⟩
        | true => rw [if_pos rfl]; exact p1 true H1 ι1 Ext.refl w1 rfl
theorem s_and (h : SndL T X W Γ xs es) (hne : xs ≠ []) (hts : es.all tst = true) : Snd T X W Γ (.and xs) (.BoolOp .And es pos) :=
  ⟨rfl, PE.wk (and_pe h hne) fun σ H Q ⟨ι, κ, S, ρ, w, en, p⟩ => ⟨ι, κ, S, ρ, w, en, by simpa only [evE] using p⟩,
   fun _ => PT.wk (and_pt h hne hts).pt fun σ H Q ⟨ι, κ, S, ρ, w, en, p⟩ => ⟨ι, κ, S, ρ, w, en, by simpa only [evE] using p⟩, fun z => by cases z⟩
theorem s_or (h : SndL T X W Γ xs es) (hne : xs ≠ []) (hts : es.all tst = true) : Snd T X W Γ (.or xs) (.BoolOp .Or es pos) :=
  ⟨rfl, PE.wk (or_pe h hne) fun σ H Q ⟨ι, κ, S, ρ, w, en, p⟩ => ⟨ι, κ, S, ρ, w, en, by simpa only [evE] using p⟩,
   fun _ => PT.wk (or_pt h hne hts).pt fun σ H Q ⟨ι, κ, S, ρ, w, en, p⟩ => ⟨ι, κ, S, ρ, w, en, by simpa only [evE] using p⟩, fun z => by cases z⟩
/-! subscripts -/
theorem s_ix (g : Gd T N Γ k X W sc) (ha : Snd T X W Γ x a) (hb : Snd T X W Γ y b) : Snd T X W Γ (.ix x y) (.Subscript a b pos) := by
  refine .of rfl rfl (PE.wk (pe_ix (ix_sound (T := T) (by have := g.hu; omega)) ha.pe hb.pe (ix_plain hb.pl)) fun σ H Q ⟨ι, κ, S, ρ, w, en, p⟩ => ?_) rfl
  simp only [evE] at p
  refine ⟨ι, κ, S, ρ, w, en, p.bind fun d S1 v H1 ι1 e1 w1 r1 p1 => ⟨ι1, κ, S1, ρ, w1, en.up e1 w, p1.bind fun d2 S2 u H2 ι2 e2 w2 r2 p2 => ?_⟩⟩
  obtain ⟨z, hz, q⟩ := p2.of
  exact ⟨ι2, κ, S2, d, d2, z, w2, Rep.up r1 e2 w1, r2, hz, q⟩
theorem s_sl {p2 : Pos} (ha : Snd T X W Γ x a) : Snd T X W Γ (.sl x) (.Subscript a (.Slice none none none p2) pos) := by
  refine .of rfl rfl (PE.wk (pe_slice (sl_sound (T := T)) ha.pe po_none po_none) fun σ H Q ⟨ι, κ, S, ρ, w, en, p⟩ => ?_) rfl
  simp only [evE] at p
  refine ⟨ι, κ, S, ρ, w, en, p.bind fun d S1 v H1 ι1 e1 w1 r1 p1 => ?_⟩
  obtain ⟨z, hz, q⟩ := p1.of
  exact ⟨ι1, κ, S1, d, z, w1, r1, hz, q⟩
theorem s_slL {p2 : Pos} (ha : Snd T X W Γ x a) (hb : Snd T X W Γ y b) : Snd T X W Γ (.slL x y) (.Subscript a (.Slice (some b) none none p2) pos) := by
  refine .of rfl rfl (PE.wk (pe_slice (sl_sound (T := T)) ha.pe (po_some hb.pe) po_none) fun σ H Q ⟨ι, κ, S, ρ, w, en, p⟩ => ?_) rfl
  simp only [evE] at p
  refine ⟨ι, κ, S, ρ, w, en, p.bind fun d S1 v H1 ι1 e1 w1 r1 p1 => ⟨ι1, κ, S1, ρ, w1, en.up e1 w, p1.bind fun d2 S2 u H2 ι2 e2 w2 r2 p2 => ?_⟩⟩
  cases d2 with
  | int i =>
    have r2 : Rep X.K H2 ι2 κ (.int i) u := r2
    simp only [Rep] at r2
    obtain ⟨z, hz, q⟩ := p2.of
    exact ⟨i, r2, ι2, κ, S2, d, z, w2, Rep.up r1 e2 w1, hz, q⟩
  | _ => exact p2.elim
theorem s_slH {p2 : Pos} (ha : Snd T X W Γ x a) (hb : Snd T X W Γ y b) : Snd T X W Γ (.slH x y) (.Subscript a (.Slice none (some b) none p2) pos) := by
  refine .of rfl rfl (PE.wk (pe_slice (sl_sound (T := T)) ha.pe po_none (po_some hb.pe)) fun σ H Q ⟨ι, κ, S, ρ, w, en, p⟩ => ?_) rfl
  simp only [evE] at p
  refine ⟨ι, κ, S, ρ, w, en, p.bind fun d S1 v H1 ι1 e1 w1 r1 p1 => ⟨ι1, κ, S1, ρ, w1, en.up e1 w, p1.bind fun d2 S2 u H2 ι2 e2 w2 r2 p2 => ?_⟩⟩
  cases d2 with
  | int i =>
    have r2 : Rep X.K H2 ι2 κ (.int i) u := r2
    simp only [Rep] at r2
    obtain ⟨z, hz, q⟩ := p2.of
    exact ⟨i, r2, ι2, κ, S2, d, z, w2, Rep.up r1 e2 w1, hz, q⟩
  | _ => exact p2.elim
theorem s_slB {p2 : Pos} (ha : Snd T X W Γ x a) (hb : Snd T X W Γ y b) (hc : Snd T X W Γ z c) : Snd T X W Γ (.slB x y z) (.Subscript a (.Slice (some b) (some c) none p2) pos) := by
  refine .of rfl rfl (PE.wk (pe_slice (sl_sound (T := T)) ha.pe (po_some hb.pe) (po_some hc.pe)) fun σ H Q ⟨ι, κ, S, ρ, w, en, p⟩ => ?_) rfl
  simp only [evE] at p
  refine ⟨ι, κ, S, ρ, w, en, p.bind fun d S1 v H1 ι1 e1 w1 r1 p1 => ⟨ι1, κ, S1, ρ, w1, en.up e1 w, p1.bind fun d2 S2 u H2 ι2 e2 w2 r2 p2 => ?_⟩⟩
  cases d2 with
  | int i =>
    have r2 : Rep X.K H2 ι2 κ (.int i) u := r2
    simp only [Rep] at r2
    refine ⟨i, r2, ι2, κ, S2, ρ, w2, (en.up e1 w).up e2 w1, p2.bind fun d3 S3 u3 H3 ι3 e3 w3 r3 p3 => ?_⟩
    cases d3 with
    | int j =>
      have r3 : Rep X.K H3 ι3 κ (.int j) u3 := r3
      simp only [Rep] at r3
      obtain ⟨z, hz, q⟩ := p3.of
      exact ⟨j, r3, ι3, κ, S3, d, z, w3, Rep.up (Rep.up r1 e2 w1) e3 w2, hz, q⟩
    | _ => exact p3.elim
  | _ => exact p2.elim
/-! calls -/
theorem spF_of {σ : L2.St} {H : Hp} {ι κ : List Addr} {S : Sto} {f n : Nat} {ds : List D} {vs : List V} {Q : VK} (w : Wd T X.K H ι κ S) (r : RepL X.K H ι κ ds vs) (hl : ∀ ds S, Γ.F f ds S = .no ∨ ds.length = n) (p : Post T X.K κ W σ (relV X.K κ) H ι (Γ.F f ds S) Q) :
    spF T X.K Γ n f vs H Q (WE W σ) := by
  refine ⟨ι, κ, S, ds, w, r, ?_, ?_⟩
  · rcases hl ds S with h | h
    · rw [h] at p; exact p.elim
    · rw [← RepL.length r]; exact h
  cases hr : Γ.F f ds S with
  | ok d S1 => rw [hr] at p; exact p
  | exc C fs S1 => rw [hr] at p; exact p
  | no => rw [hr] at p; exact p
end
end MP
end

section
set_option Elab.async false
set_option linter.all false
set_option maxRecDepth 100000
/-! MpK: calls, methods, fields. -/
namespace MP
open PySem PySem.Spec PyProof.Rows L2
theorem putF_rep {K : PySem.W.Frag} {H : Hp} {ι κ : List Addr} {f : Str} {d : D} {v : V} (hv : Rep K H ι κ d v) : ∀ {fs : List (Str × D)} {gs : List (Str × V)}, RepF K H ι κ fs gs → RepF K H ι κ (putFld f d fs) (putF f v gs)
  | [], gs, h => by
    have h : gs = [] := h
    subst h
    exact ⟨v, [], rfl, hv, rfl⟩
  | (j, e) :: fs, gs, ⟨u, r, hg, hu, hr⟩ => by
    subst hg
    unfold putFld putF
    by_cases hj : j = f
    · rw [if_pos hj, if_pos hj, hj]; exact ⟨v, r, rfl, hv, hr⟩
    · rw [if_neg hj, if_neg hj]; exact ⟨u, _, rfl, hu, putF_rep hv hr⟩
theorem lookup_rep {K : PySem.W.Frag} {H : Hp} {ι κ : List Addr} {f : Str} : ∀ {fs : List (Str × D)} {gs : List (Str × V)}, RepF K H ι κ fs gs → (∀ d, fs.lookup f = some d → ∃ v, gs.lookup f = some v ∧ Rep K H ι κ d v) ∧ (fs.lookup f = none → gs.lookup f = none)
  | [], gs, h => by
    have h : gs = [] := h
    subst h
    exact ⟨fun d h => (by cases h), fun _ => rfl⟩
  | (j, e) :: fs, gs, ⟨u, r, hg, hu, hr⟩ => by
    subst hg
    obtain ⟨h1, h2⟩ := lookup_rep (f := f) hr
    by_cases hj : (f == j) = true
    · simp only [List.lookup_cons, hj]
      exact ⟨fun d h => ⟨u, rfl, by cases h; exact hu⟩, fun h => by cases h⟩
    · simp only [List.lookup_cons, hj]
      exact ⟨h1, h2⟩
theorem RepF.length {K : PySem.W.Frag} {H : Hp} {ι κ : List Addr} : ∀ {fs : List (Str × D)} {gs : List (Str × V)}, RepF K H ι κ fs gs → fs.length = gs.length
  | [], gs, h => by have h : gs = [] := h; rw [h]; rfl
  | _ :: fs, gs, ⟨u, r, hg, hu, hr⟩ => by rw [hg]; simp [RepF.length hr]
section
variable {T : Tab} {N : List Str} {Γ : Ctx} {k : Nat} {X : Cx} {W : WX} {sc : Scope} {x y z : Ex} {a b c e : Expr} {xs : List Ex} {es : List Expr} {pos p apos : Pos}
theorem s_call (g : Gd T N Γ k X W sc) {n : Str} {f : Nat} (hm : (n, f) ∈ T.gl) (hg : glB sc n = true) (hn : nmB n = true) (h : SndL T X W Γ xs es) : Snd T X W Γ (.call f xs) (.Call (.Name n p) es [] pos) := by
  obtain ⟨ad, h1, h2, fd, ps, h3, h4, h5⟩ := g.glo.fn n f hm
  have hs : PE X (.Call (.Name n p) es [] pos) (tCallS (spF T X.K Γ ps.length f) (WE W) (tA T X.K W Γ xs)) := by
    cases h with
    | nil =>
      refine ⟨fun pins s σ H Q I h => ?_⟩
      refine wpAny_Call_Name_kw (ld_glob I (g.gl hg) h1 ?_ (nmB_dbg hn))
      obtain ⟨ι, κ, S, ρ, w, en, p⟩ := h
      simp only [evL] at p
      exact PySem.W.callWith_K0 I.kIn h2 (run_fnS (us := []) (E := WE W) h4 (g.room.mono (Nat.le_succ k)) h3 (passAt g.tk σ) I .nil (p [] H ι Ext.refl w rfl))
    | cons h t =>
      exact pe_callS h4 (g.room.mono (Nat.le_succ k)) (g.gl hg) h1 h2 h3 (fun σ => passAt g.tk σ) (SndL.cons h t).pa (nmB_dbg hn) (star_plain h.pl) (back_plain t.plain)
  refine .of rfl rfl (PE.wk hs fun σ H Q ⟨ι, κ, S, ρ, w, en, p⟩ => ?_) rfl
  simp only [evE] at p
  exact ⟨ι, κ, S, ρ, w, en, p.bind fun ds S1 vs H1 ι1 e1 w1 r1 p1 => spF_of w1 r1 h5 p1⟩
/-- a built-in function or type, with values -/
theorem pe_bi (g : Gd T N Γ k X W sc) {q : Bi} {r : List V → Hp → VK → Prop} (hc : CallR X q.val r) (hg : glB sc q.nm = true) (h : SndL T X W Γ (x :: xs) (e :: es)) : PE X (.Call (.Name q.nm p) (e :: es) [] pos) (tCB r (tA T X.K W Γ (x :: xs))) := by
  have hp := h.pa
  cases h with
  | cons h t =>
    cases q with
    | len => exact pe_callB hc (g.gl hg) (g.glo.blt _ (by decide)) rfl hp (by decide) (by decide) (star_plain h.pl) (back_plain t.plain)
    | abs => exact pe_callB hc (g.gl hg) (g.glo.blt _ (by decide)) rfl hp (by decide) (by decide) (star_plain h.pl) (back_plain t.plain)
    | max => exact pe_callB hc (g.gl hg) (g.glo.blt _ (by decide)) rfl hp (by decide) (by decide) (star_plain h.pl) (back_plain t.plain)
    | min => exact pe_callB hc (g.gl hg) (g.glo.blt _ (by decide)) rfl hp (by decide) (by decide) (star_plain h.pl) (back_plain t.plain)
    | sum => exact pe_callB hc (g.gl hg) (g.glo.blt _ (by decide)) rfl hp (by decide) (by decide) (star_plain h.pl) (back_plain t.plain)
    | all => exact pe_callB hc (g.gl hg) (g.glo.blt _ (by decide)) rfl hp (by decide) (by decide) (star_plain h.pl) (back_plain t.plain)
    | any => exact pe_callB hc (g.gl hg) (g.glo.blt _ (by decide)) rfl hp (by decide) (by decide) (star_plain h.pl) (back_plain t.plain)
    | sorted => exact pe_callB hc (g.gl hg) (g.glo.blt _ (by decide)) rfl hp (by decide) (by decide) (star_plain h.pl) (back_plain t.plain)
    | int => exact pe_callTy hc (g.gl hg) (g.glo.blt _ (by decide)) rfl hp (by decide) (by decide) (star_plain h.pl) (back_plain t.plain)
    | list => exact pe_callTy hc (g.gl hg) (g.glo.blt _ (by decide)) rfl hp (by decide) (by decide) (star_plain h.pl) (back_plain t.plain)
    | tuple => exact pe_callTy hc (g.gl hg) (g.glo.blt _ (by decide)) rfl hp (by decide) (by decide) (star_plain h.pl) (back_plain t.plain)
    | dict => exact pe_callTy hc (g.gl hg) (g.glo.blt _ (by decide)) rfl hp (by decide) (by decide) (star_plain h.pl) (back_plain t.plain)
    | str => exact pe_callTy hc (g.gl hg) (g.glo.blt _ (by decide)) rfl hp (by decide) (by decide) (star_plain h.pl) (back_plain t.plain)
theorem s_bi (g : Gd T N Γ k X W sc) {q : Bi} (hg : glB sc q.nm = true) (h : SndL T X W Γ (x :: xs) (e :: es)) : Snd T X W Γ (.bi q (x :: xs)) (.Call (.Name q.nm p) (e :: es) [] pos) := by
  by_cases hb : q = .list ∨ q = .sorted ∨ q = .dict
  · refine .ofN rfl rfl (PE.wk (pe_bi g (bi_soundN (T := T) g.calm q hb) hg h) fun σ H Q ⟨ι, κ, S, ρ, w, en, p⟩ => ?_)
    simp only [evE] at p
    refine ⟨ι, κ, S, ρ, w, en, PostN.bind p fun ds S1 vs H1 ι1 e1 w1 r1 p1 => ?_⟩
    obtain ⟨d, hd, q⟩ := PostN.of' p1
    exact ⟨ι1, κ, S1, ds, d, w1, r1, hd, q⟩
  · refine .of rfl rfl (PE.wk (pe_bi g (bi_sound (T := T) g.calm q hb) hg h) fun σ H Q ⟨ι, κ, S, ρ, w, en, p⟩ => ?_) ?_
    · simp only [evE] at p
      refine ⟨ι, κ, S, ρ, w, en, p.bind fun ds S1 vs H1 ι1 e1 w1 r1 p1 => ?_⟩
      obtain ⟨d, hd, q⟩ := p1.of
      exact ⟨ι1, κ, S1, ds, d, w1, r1, hd, q⟩
    · cases q <;> first | rfl | exact absurd (by simp) hb
theorem s_isi (g : Gd T N Γ k X W sc) {t : Ty} {np : Pos} (hg : glB sc "isinstance" = true) (hg2 : glB sc t.nm = true) (h : Snd T X W Γ x e) : Snd T X W Γ (.isi x t) (.Call (.Name "isinstance" p) [e, .Name t.nm np] [] pos) := by
  have hty : PE X (.Name t.nm np) (tC (.ty t.name)) := by
    cases t <;> exact pe_bltn (g.gl hg2) (g.glo.blt _ (by decide)) rfl rfl (by decide) (by decide)
  have hp : PA X [e, .Name t.nm np] (tCons (tE T X.K W Γ x) (tCons (tC (.ty t.name)) tNil)) := pa_cons h.pe (pa_cons hty pa_nil rfl) (star_plain h.pl)
  refine .of rfl rfl (PE.wk (pe_callB (isi_sound (T := T) t) (g.gl hg) (g.glo.blt _ (by decide)) rfl hp (by decide) (by decide) (star_plain h.pl) rfl) fun σ H Q ⟨ι, κ, S, ρ, w, en, p⟩ => ?_) rfl
  simp only [evE] at p
  refine ⟨ι, κ, S, ρ, w, en, p.bind fun d S1 v H1 ι1 e1 w1 r1 p1 => ?_⟩
  split at p1
  · rename_i c hc
    exact ⟨ι1, κ, S1, d, v, c, rfl, w1, r1, hc, p1.val.same w1 (by simp only [Rep])⟩
  · exact p1.elim
/-! a dict asked -/
theorem isD_rep {H : Hp} {ι κ : List Addr} {S : Sto} {d : D} {v : V} (w : Wd T X.K H ι κ S) (r : Rep X.K H ι κ d v) (h : isD d S = true) : ∃ a, v = .ref a ∧ IsD H a := by
  cases d with
  | dic kvs => simp only [Rep] at r; obtain ⟨a, o, vs, e, h1, _⟩ := r; exact ⟨a, e, .inl ⟨vs, .inr ⟨o, h1⟩⟩⟩
  | dit kvs => simp only [Rep] at r; obtain ⟨a, o, vs, e, h1, _⟩ := r; exact ⟨a, e, .inr ⟨vs, .inr ⟨o, h1⟩⟩⟩
  | ref n =>
    simp only [Rep] at r
    obtain ⟨a, e, ha⟩ := r
    simp only [isD] at h
    cases hs : S.get n with
    | none => rw [hs] at h; cases h
    | some ob =>
      rw [hs] at h
      cases ob with
      | dic kvs => obtain ⟨vs, h1, _⟩ := w.ob n a _ ha hs; exact ⟨a, e, .inl ⟨vs, .inl h1⟩⟩
      | dit kvs => obtain ⟨vs, h1, _⟩ := w.ob n a _ ha hs; exact ⟨a, e, .inr ⟨vs, .inl h1⟩⟩
      | _ => cases h
  | _ => cases h
theorem m1_of {m : Str} (hb : call0E a = false) (hl : (apos.endLine == pos.line) = true) (he : plainE e = true) : M1 X a m apos e pos := by
  refine ⟨base_plain hb, ?_, hl, trees1 he⟩
  rw [trees1 he]; rfl
theorem m2_of {m : Str} (hb : call0E a = false) (hl : (apos.endLine == pos.line) = true) (he : plainE e = true) (hc : plainE c = true) : M2 X a m apos e c pos := by
  refine ⟨base_plain hb, ?_, hl, trees2 he hc⟩
  rw [trees2 he hc]; rfl
theorem s_get1 (g : Gd T N Γ k X W sc) (ha : Snd T X W Γ x a) (he : Snd T X W Γ y e) (hb : call0E a = false) (hl : (apos.endLine == pos.line) = true) : Snd T X W Γ (.get1 x y) (.Call (.Attribute a "get" apos) [e] [] pos) := by
  refine .of rfl rfl (PE.wk (pe_dget1 (by have := g.hu; omega) ha.pe he.pe (m1_of hb hl he.pl)) fun σ H Q ⟨ι, κ, S, ρ, w, en, p⟩ => ?_) rfl
  simp only [evE] at p
  refine ⟨ι, κ, S, ρ, w, en, p.bind fun d S1 v H1 ι1 e1 w1 r1 p1 => ?_⟩
  split at p1
  · rename_i hd
    obtain ⟨ad, ev, hI⟩ := isD_rep w1 r1 hd
    refine ⟨ad, ev, hI, ι1, κ, S1, ρ, w1, en.up e1 w, p1.bind fun d2 S2 u H2 ι2 e2 w2 r2 p2 => ?_⟩
    split at p2
    · rename_i r hr
      obtain ⟨ad', o, ev', h1, h2, h3⟩ := get1_rep w2 (Rep.up r1 e2 w1) r2 hr
      rw [ev] at ev'
      cases ev'
      refine ⟨o, h1, ?_⟩
      cases r with
      | none => rw [h3 rfl]; exact p2.val.same w2 (by simp only [Option.getD, Rep])
      | some x => obtain ⟨y, ey, ry⟩ := h2 x rfl; rw [ey]; exact p2.val.same w2 ry
    · exact p2.elim
  · exact p1.elim
theorem s_get2 (g : Gd T N Γ k X W sc) (ha : Snd T X W Γ x a) (he : Snd T X W Γ y e) (hc : Snd T X W Γ z c) (hb : call0E a = false) (hl : (apos.endLine == pos.line) = true) : Snd T X W Γ (.get2 x y z) (.Call (.Attribute a "get" apos) [e, c] [] pos) := by
  refine .of rfl rfl (PE.wk (pe_dget2 (by have := g.hu; omega) ha.pe he.pe hc.pe (m2_of hb hl he.pl hc.pl)) fun σ H Q ⟨ι, κ, S, ρ, w, en, p⟩ => ?_) rfl
  simp only [evE] at p
  refine ⟨ι, κ, S, ρ, w, en, p.bind fun d S1 v H1 ι1 e1 w1 r1 p1 => ?_⟩
  split at p1
  · rename_i hd
    obtain ⟨ad, ev, hI⟩ := isD_rep w1 r1 hd
    refine ⟨ad, ev, hI, ι1, κ, S1, ρ, w1, en.up e1 w, p1.bind fun d2 S2 u H2 ι2 e2 w2 r2 p2 => ⟨ι2, κ, S2, ρ, w2, (en.up e1 w).up e2 w1, p2.bind fun d3 S3 u3 H3 ι3 e3 w3 r3 p3 => ?_⟩⟩
    split at p3
    · rename_i r hr
      obtain ⟨ad', o, ev', h1, h2, h3⟩ := get1_rep w3 (Rep.up (Rep.up r1 e2 w1) e3 w2) (Rep.up r2 e3 w2) hr
      rw [ev] at ev'
      cases ev'
      refine ⟨o, h1, ?_⟩
      cases r with
      | none => rw [h3 rfl]; exact p3.val.same w3 r3
      | some x => obtain ⟨y, ey, ry⟩ := h2 x rfl; rw [ey]; exact p3.val.same w3 ry
    · exact p3.elim
  · exact p1.elim
/-! a list of the store -/
theorem mut_lst {H : Hp} {ι κ : List Addr} {S : Sto} {n : Nat} {v : V} {xs : List D} (w : Wd T X.K H ι κ S) (r : Rep X.K H ι κ (.ref n) v) (e : S.get n = some (.lst xs)) : ∃ a vs, v = .ref a ∧ ι[n]? = some a ∧ H a = some (.lst vs) ∧ RepL X.K H ι κ xs vs := by
  simp only [Rep] at r
  obtain ⟨a, rfl, ha⟩ := r
  obtain ⟨vs, h1, h2⟩ := w.ob n a _ ha e
  exact ⟨a, vs, rfl, ha, h1, h2⟩
theorem put_lst {H : Hp} {ι κ : List Addr} {S : Sto} {n : Nat} {a : Addr} {ds : List D} {vs : List V} (w : Wd T X.K H ι κ S) (ha : ι[n]? = some a) (r : RepL X.K H ι κ ds vs) : Wd T X.K (upd H a (.lst vs)) ι κ (S.set n (.lst ds)) :=
  w.put ha ⟨vs, upd_same, RepL.up r (Ext.set (List.mem_of_getElem? ha)) w⟩
theorem isL_rep {H : Hp} {ι κ : List Addr} {S : Sto} {d : D} {v : V} (w : Wd T X.K H ι κ S) (r : Rep X.K H ι κ d v) (h : isL d S = true) : tyV X.K "list" v H := by
  unfold isL at h
  split at h
  · split at h
    · rename_i xs hs
      obtain ⟨a, vs, rfl, ha, h1, h2⟩ := mut_lst w r hs
      exact .inl ⟨rfl, vs, .of h1⟩
    · cases h
  · cases h
theorem s_app (ha : Snd T X W Γ x a) (he : Snd T X W Γ y e) (hb : call0E a = false) (hl : (apos.endLine == pos.line) = true) : Snd T X W Γ (.app x y) (.Call (.Attribute a "append" apos) [e] [] pos) := by
  have m : M1 X a "append" apos e pos := m1_of hb hl he.pl
  refine .of rfl rfl (PE.wk (pe_bm PySem.F.plainAttrs_list PySem.F.slot_list_append PySem.F.type_list_append mt_append ha.pe (SndL.cons he .nil).pa m.base m.few m.line (star_plain he.pl) rfl) fun σ H Q ⟨ι, κ, S, ρ, w, en, p⟩ => ?_) rfl
  simp only [evE] at p
  refine ⟨ι, κ, S, ρ, w, en, p.bind fun d S1 v H1 ι1 e1 w1 r1 p1 => ?_⟩
  split at p1
  · rename_i hd
    refine ⟨isL_rep w1 r1 hd, ι1, κ, S1, ρ, w1, en.up e1 w, ?_⟩
    simp only [evL, R.bind]
    have key : Post T X.K κ W σ (relV X.K κ) H1 ι1 (evE Γ y ρ S1) fun u H2 => rAppend v [u] H2 Q := p1.bind fun d2 S2 u H2 ι2 e2 w2 r2 p2 => by
      unfold appD at p2
      split at p2
      · split at p2
        · rename_i n _ xs hs
          obtain ⟨ad, vs, rfl, hn, h1, h2⟩ := mut_lst w2 (Rep.up r1 e2 w1) hs
          split at p2
          · rename_i hlen
            refine ⟨ad, vs, u, rfl, rfl, h1, ?_, ?_⟩
            · rw [← RepL.length h2]
              have := LIM_line (n := xs.length) (by omega)
              have h16 : sizeLine = 16777216 := sizeLine_eq
              unfold LIM at hlen; omega
            · have r2 : Rep X.K H2 ι2 κ d2 u := r2
              exact p2 .non _ ι2 (Ext.set (List.mem_of_getElem? hn)) (put_lst w2 hn (RepL.append h2 (by simp only [RepL]; exact ⟨u, [], rfl, r2, rfl⟩))) (by show Rep _ _ _ _ _ _; simp only [Rep])
          · exact p2.elim
        · exact p2.elim
      · exact p2.elim
    cases hy : evE Γ y ρ S1 with
    | no => rw [hy] at key; exact key
    | exc C fs S2 => rw [hy] at key; exact key
    | ok d2 S2 =>
      rw [hy] at key
      intro vs H' ι' e' w' q
      have q : RepL X.K H' ι' κ [d2] vs := q
      obtain ⟨u, rfl, hu⟩ := RepL.one q
      exact key u H' ι' e' w' hu
  · exact p1.elim
theorem s_ext (ha : Snd T X W Γ x a) (he : Snd T X W Γ y e) (hb : call0E a = false) (hl : (apos.endLine == pos.line) = true) : Snd T X W Γ (.ext x y) (.Call (.Attribute a "extend" apos) [e] [] pos) := by
  have m : M1 X a "extend" apos e pos := m1_of hb hl he.pl
  refine .of rfl rfl (PE.wk (pe_bm PySem.F.plainAttrs_list PySem.F.slot_list_extend PySem.F.type_list_extend mt_extend ha.pe (SndL.cons he .nil).pa m.base m.few m.line (star_plain he.pl) rfl) fun σ H Q ⟨ι, κ, S, ρ, w, en, p⟩ => ?_) rfl
  simp only [evE] at p
  refine ⟨ι, κ, S, ρ, w, en, p.bind fun d S1 v H1 ι1 e1 w1 r1 p1 => ?_⟩
  split at p1
  · rename_i hd
    refine ⟨isL_rep w1 r1 hd, ι1, κ, S1, ρ, w1, en.up e1 w, ?_⟩
    simp only [evL, R.bind]
    have key : Post T X.K κ W σ (relV X.K κ) H1 ι1 (evE Γ y ρ S1) fun u H2 => rExtend v [u] H2 Q := p1.bind fun d2 S2 u H2 ι2 e2 w2 r2 p2 => by
      unfold extD at p2
      split at p2
      · split at p2
        · rename_i n _ xs hs
          obtain ⟨ad, vs, rfl, hn, h1, h2⟩ := mut_lst w2 (Rep.up r1 e2 w1) hs
          split at p2
          · rename_i ys
            split at p2
            · rename_i hlen
              have r2 : Rep X.K H2 ι2 κ (.lst ys) u := r2
              simp only [Rep] at r2
              obtain ⟨bd, zs, rfl, hb2, _, _, hr2⟩ := r2
              refine ⟨ad, bd, vs, zs, rfl, rfl, h1, hb2, ?_, ?_⟩
              · rw [← RepL.length h2, ← RepL.length hr2]; exact LIM_line hlen
              · exact p2 .non _ ι2 (Ext.set (List.mem_of_getElem? hn)) (put_lst w2 hn (RepL.append h2 hr2)) (by show Rep _ _ _ _ _ _; simp only [Rep])
            · exact p2.elim
          · exact p2.elim
        · exact p2.elim
      · exact p2.elim
    cases hy : evE Γ y ρ S1 with
    | no => rw [hy] at key; exact key
    | exc C fs S2 => rw [hy] at key; exact key
    | ok d2 S2 =>
      rw [hy] at key
      intro vs H' ι' e' w' q
      have q : RepL X.K H' ι' κ [d2] vs := q
      obtain ⟨u, rfl, hu⟩ := RepL.one q
      exact key u H' ι' e' w' hu
  · exact p1.elim
theorem dropLast_rep {H : Hp} {ι κ : List Addr} : ∀ {ds : List D} {vs : List V}, RepL X.K H ι κ ds vs → RepL X.K H ι κ ds.dropLast vs.dropLast := fun {ds vs} h => by
  rw [List.dropLast_eq_take, List.dropLast_eq_take, RepL.length h]
  exact RepL.take _ h
theorem s_pop (ha : Snd T X W Γ x a) (hb : call0E a = false) (hl : (apos.endLine == pos.line) = true) : Snd T X W Γ (.pop x) (.Call (.Attribute a "pop" apos) [] [] pos) := by
  refine .of rfl rfl (PE.wk (pe_bm0 PySem.F.plainAttrs_list PySem.F.slot_list_pop PySem.F.type_list_pop mt_pop ha.pe (base_plain hb) hl) fun σ H Q ⟨ι, κ, S, ρ, w, en, p⟩ => ?_) rfl
  simp only [evE] at p
  refine ⟨ι, κ, S, ρ, w, en, p.bind fun d S1 v H1 ι1 e1 w1 r1 p1 => ?_⟩
  unfold popD at p1
  split at p1
  · split at p1
    · rename_i n _ xs hs
      obtain ⟨ad, vs, rfl, hn, h1, h2⟩ := mut_lst w1 r1 hs
      split at p1
      · rename_i z hz
        obtain ⟨u, hu, ru⟩ := RepL.get h2 hz
        refine ⟨.inl ⟨rfl, vs, .of h1⟩, ad, vs, u, rfl, rfl, h1, by rw [← RepL.length h2]; exact hu, ?_⟩
        exact p1 u _ ι1 (Ext.set (List.mem_of_getElem? hn)) (put_lst w1 hn (dropLast_rep h2)) (Rep.up ru (Ext.set (List.mem_of_getElem? hn)) w1)
      · exact p1.elim
    · exact p1.elim
  · exact p1.elim
/-! instances -/
theorem s_fld (g : Gd T N Γ k X W sc) {f : Str} (hf : f ∈ T.flds) (ha : Snd T X W Γ x a) (hb : call0E a = false) : Snd T X W Γ (.fld x f) (.Attribute a f pos) := by
  refine .of rfl rfl (PE.wk (pe_fld ha.pe (base_plain hb)) fun σ H Q ⟨ι, κ, S, ρ, w, en, p⟩ => ?_) rfl
  simp only [evE] at p
  refine ⟨ι, κ, S, ρ, w, en, p.bind fun d S1 v H1 ι1 e1 w1 r1 p1 => ?_⟩
  obtain ⟨d2, hd, q⟩ := p1.of
  unfold fldD at hd
  split at hd
  · split at hd
    · rename_i n _ C fs hs
      have r1 : Rep X.K H1 ι1 κ (.ref n) v := r1
      simp only [Rep] at r1
      obtain ⟨ad, rfl, hn⟩ := r1
      obtain ⟨c, dx, gs, h1, h2, h3⟩ := w1.ob n ad _ hn hs
      obtain ⟨u, h4, h5⟩ := (lookup_rep h3).1 d2 hd
      exact ⟨ad, c, dx, gs, u, rfl, h2, g.glo.cls C c h1, g.glo.noat C c f h1 hf, h4, q.same w1 h5⟩
    · cases hd
  · cases hd
end
end MP
end

section
set_option Elab.async false
set_option linter.all false
set_option maxRecDepth 100000
/-! MpL: methods of instances, new instances. -/
namespace MP
open PySem PySem.Spec PyProof.Rows L2
section
variable {T : Tab} {N : List Str} {Γ : Ctx} {k : Nat} {X : Cx} {W : WX} {sc : Scope} {x y z : Ex} {a b c e o : Expr} {xs : List Ex} {es : List Expr} {pos p apos : Pos}
theorem few_plain {pos : Pos} {env : PySem.Env} : ∀ {es : List Expr}, es.all plainE = true → (backTo pos (starEach es env)).all (fun x => !x.1) = true
  | [], _ => rfl
  | e :: es, h => by
    simp only [List.all_cons, Bool.and_eq_true] at h
    rw [star_plain h.1]
    show (true && (backTo pos (starEach es env)).all fun x => !x.1) = true
    rw [few_plain h.2]; rfl
theorem meth_eq {m : Str} {env : PySem.Env} (hb : call0E o = false) (hl : (apos.endLine == pos.line) = true) (hp : es.all plainE = true) (hn : es.length < 30) :
    eval (.Call (.Attribute o m apos) es [] pos) env = (do
      let ov ← eval o env
      standAt apos.atName
      let (f, first) ← holding [ov] (getMethod ov m (do return (← importBound o env).getD true))
      callWith pos f first (backTo pos (starEach es env)) (backToKw pos (keywordEach [] env))) := by
  have hf : methodCallForm (es.length + 0) (backTo pos (starEach es env)) (backToKw pos (keywordEach [] env)) = true := by
    unfold methodCallForm
    rw [few_plain hp]
    show (true && decide (es.length + 0 + 0 < 30)) = true
    rw [decide_eq_true (by omega)]; rfl
  show (do
    let ov ← attributeBase o m env (eval o env)
    standAt apos.atName
    methodCall o m apos pos env ov (es.length + 0) (backTo pos (starEach es env)) (backToKw pos (keywordEach [] env))) = _
  rw [base_plain hb]
  unfold methodCall
  rw [hf]
  unfold calleeOf methodCallPos
  rw [hl]
  rfl
/-- a method, by the class that the value has -/
def tMethD (T : Tab) (X : Cx) (Γ : Ctx) (W : WX) (k : Nat) (m : Str) (ta : TE) (t : TA) : TE := fun σ H Q => ta σ H fun x H1 => ∃ a C dx fs g f, x = .ref a ∧ H1 a = some (.ins C dx fs) ∧ fs.lookup m = none ∧ Cls X.K C ∧ Meth X.K C m g ∧ FDef T X.prog X.w X.K X.mg X.base Γ k g f ∧
  t σ H1 fun vs H2 => ∀ n, (∀ ds S, Γ.F f ds S = .no ∨ ds.length = n) → spF T X.K Γ n f (x :: vs) H2 Q (WE W σ)
theorem pe_methD (g : Gd T N Γ k X W sc) {m : Str} {ta : TE} (ho : PE X o ta) (ha : SndL T X W Γ xs es) (hb : call0E o = false) (hl : (apos.endLine == pos.line) = true) (hn : es.length < 30) :
    PE X (.Call (.Attribute o m apos) es [] pos) (tMethD T X Γ W k m ta (tA T X.K W Γ xs)) := by
  refine ⟨fun pins s σ H Q I h => ?_⟩
  refine PySem.W.methodCall_KW (thn (ho.run pins s σ H _ I h) fun u s1 ⟨x, H1, I1, rx, a, C, dx, fs, fa, f, ex, ea, l, hc, hm, ⟨fd, ps, h3, h4, h5⟩, q⟩ => ?_) (meth_eq hb hl ha.plain hn)
  subst ex
  obtain rfl : u = Value.ref a := rx
  refine getmeth_ok I1 ea hc hm l ?_
  have hpa := ha.pa
  cases ha with
  | nil =>
    obtain ⟨ι, κ, S, ρ, w, en, p⟩ := q
    simp only [evL] at p
    exact PySem.W.callWith_K0 (first := [.ref a]) I1.kIn hm.kp (run_fnS (us := [.ref a]) (vs := [.ref a]) (E := WE W) h4 (g.room.mono (Nat.le_succ k)) h3 (passAt g.tk σ) I1 (.cons rfl .nil) (p [] H1 ι Ext.refl w rfl _ h5))
  | cons hh t =>
    refine PySem.W.callWith_K (first := [.ref a]) (h₀ := X.base) I.ok.mod.kin hm.kp (thn (hpa.run pos pins s1 σ H1 _ I1 q) fun us s2 ⟨vs, H2, I2, r, q2⟩ => ⟨I2.kIn, ?_⟩) (star_plain hh.pl) (back_plain t.plain)
    exact run_fnS (us := .ref a :: us) (vs := .ref a :: vs) (E := WE W) h4 (g.room.mono (Nat.le_succ k)) h3 (passAt g.tk σ) I2 (.cons rfl r) (q2 _ h5)
theorem s_meth (g : Gd T N Γ k X W sc) {m : Str} (ho : Snd T X W Γ x o) (ha : SndL T X W Γ xs es) (hb : call0E o = false) (hl : (apos.endLine == pos.line) = true) (hn : es.length < 30) : Snd T X W Γ (.meth x m xs) (.Call (.Attribute o m apos) es [] pos) := by
  refine .of rfl rfl (PE.wk (pe_methD g (m := m) ho.pe ha hb hl hn) fun σ H Q ⟨ι, κ, S, ρ, w, en, p⟩ => ?_) rfl
  simp only [evE] at p
  refine ⟨ι, κ, S, ρ, w, en, p.bind fun d S1 v H1 ι1 e1 w1 r1 p1 => ?_⟩
  have r1 : Rep X.K H1 ι1 κ d v := r1
  split at p1
  · rename_i C hC
    split at p1
    · rename_i f hf
      unfold clsD at hC
      split at hC
      · split at hC
        · rename_i n _ C' fs hs
          split at hC
          · rename_i hl
            cases hC
            simp only [Rep] at r1
            obtain ⟨ad, rfl, hn⟩ := r1
            obtain ⟨c, dx, gs, h1, h2, h3⟩ := w1.ob _ ad _ hn hs
            obtain ⟨a, hm, hF⟩ := g.glo.meth C c m f h1 hf
            refine ⟨ad, c, dx, gs, a, f, rfl, h2, (lookup_rep h3).2 hl, g.glo.cls C c h1, hm, hF, ι1, κ, S1, ρ, w1, en.up e1 w, p1.bind fun ds S2 vs H2 ι2 e2 w2 r2 p2 n' h5 => ?_⟩
            refine spF_of w2 ?_ h5 p2
            have r2 : RepL X.K H2 ι2 κ ds vs := r2
            simp only [RepL]
            exact ⟨_, vs, rfl, Rep.up (d := .ref _) (by simp only [Rep]; exact ⟨ad, rfl, hn⟩) e2 w1, r2⟩
          · cases hC
        · cases hC
      · cases hC
    · exact p1.elim
  · exact p1.elim
/-! a new instance -/
theorem run_makeS {pins : List (Addr × Obj)} {σ : L2.St} {H : Hp} {s : Shared} {Q : VK} {us : List Value} {vs : List V} {C f : Addr} {fd : FuncData} {ps : List Str} {sp : Sp} {E : L2.St → XK} (M : Mk X.K C f) (F : FnOk X.prog X.w X.K X.mg X.base (L2.CX X.prog X.w) k f fd ps sp) (hr : Room (k + 1) X.A) (hb : Binds X.K fd ps [])
    (hx : PassesAt (L2.CX X.prog X.w) X σ (E σ)) (I : L2.Inv X pins σ H s) (r : Vals vs us)
    (h : ∀ x dx, H x = none → H dx = none → dx ≠ x → sp (.ref x :: vs) (upd (upd H dx (.own x)) x (.ins C dx [])) (fun v H2 => v = .non ∧ Q (.ref x) H2) (E σ)) :
    wpAny (model X.prog X.w) X.A (call (.ref C) us) (EP X pins σ Q) X.xe s := by
  have hq := h (s.heap.objs.size + 1) s.heap.objs.size (I.hok.fresh (Nat.le_succ _)) (I.hok.fresh (Nat.le_refl _)) (Nat.ne_of_lt (Nat.lt_succ_self _))
  have I2 := L2.Inv.made (C := C) I
  have r2 : Vals (V.ref (s.heap.objs.size + 1) :: vs) (Value.ref (s.heap.objs.size + 1) :: us) := .cons rfl r
  have hl : (Value.ref (s.heap.objs.size + 1) :: us ++ []).length = ps.length := by
    rw [List.append_nil, ← F.len _ _ _ _ hq]
    exact r2.length.symm
  have hb' := hb _ (Value.ref (s.heap.objs.size + 1) :: us) I2.kIn hl
  rw [List.append_nil] at hb'
  refine wpAny_call (make_map (f := f) I.kIn M.makes M.init (beq_iff_eq.mp M.fn) (codeAny_mono (F.run _ X.stack _ _ ⟨Value.ref (s.heap.objs.size + 1) :: us, []⟩ (Value.ref (s.heap.objs.size + 1) :: us) _ _ (E σ) (hr.make C us [])
    (I2.env0.make C us []) hb' r2 hq) fun r s' hq' => ?_))
  cases r with
  | error e => exact hx pins _ _ e s' I2 hq'
  | ok fl =>
    cases fl with
    | ret u =>
      obtain ⟨v, H', I3, rv, ev, q3⟩ := I2.after hq'
      subst ev
      exact ⟨rv, ⟨V.ref (s.heap.objs.size + 1), H', I3, rfl, q3⟩⟩
    | next => exact False.elim hq'
    | brk => exact False.elim hq'
    | cont => exact False.elim hq'
def tMakeS (C : Addr) (sp : Sp) (E : L2.St → XK) (t : TA) : TE := fun σ H Q => t σ H fun vs H1 => ∀ x dx, H1 x = none → H1 dx = none → dx ≠ x →
  sp (.ref x :: vs) (upd (upd H1 dx (.own x)) x (.ins C dx [])) (fun v H2 => v = .non ∧ Q (.ref x) H2) (E σ)
theorem s_make (g : Gd T N Γ k X W sc) {n : Str} {C : Nat} {cl : Cl} (hcl : T.P.cls[C]? = some cl) (hname : cl.name = n) (hexc : cl.exc.isNone = true) (hg : glB sc n = true) (hn : nmB n = true) (ha : SndL T X W Γ xs es) :
    Snd T X W Γ (.make C xs) (.Call (.Name n p) es [] pos) := by
  have hcad : T.cad X.K C = some (He.ga X.K n) := by
    unfold Tab.cad
    rw [hcl]
    show (if cl.exc.isNone then some (He.ga X.K cl.name) else none) = _
    rw [if_pos hexc, hname]
  cases hI : Γ.I C with
  | none =>
    refine .of rfl rfl ⟨fun pins s σ H Q I ⟨ι, κ, S, ρ, w, en, p⟩ => ?_⟩ rfl
    simp only [evE, hI] at p
    exact p.elim
  | some f =>
    obtain ⟨hmg, a, hM, fd, ps, h3, h4, h5⟩ := g.glo.make C _ f cl hcad hcl hI
    rw [hname] at hmg
    have hs : PE X (.Call (.Name n p) es [] pos) (tMakeS (He.ga X.K n) (spF T X.K Γ ps.length f) (WE W) (tA T X.K W Γ xs)) := by
      have hpa := ha.pa
      cases ha with
      | nil =>
        refine ⟨fun pins s σ H Q I h => ?_⟩
        refine wpAny_Call_Name_kw (ld_glob I (g.gl hg) hmg ?_ (nmB_dbg hn))
        obtain ⟨ι, κ, S, ρ, w, en, p⟩ := h
        simp only [evL] at p
        exact PySem.W.callWith_K0 I.kIn hM.kp (run_makeS (us := []) (E := WE W) hM h4 g.room h3 (passAt g.tk σ) I .nil (p [] H ι Ext.refl w rfl))
      | cons hh t =>
        refine ⟨fun pins s σ H Q I h => ?_⟩
        refine wpAny_Call_Name_kw (ld_glob I (g.gl hg) hmg ?_ (nmB_dbg hn))
        refine PySem.W.callWith_K (h₀ := X.base) I.ok.mod.kin hM.kp (thn (hpa.run pos pins s σ H _ I h) fun us s1 ⟨vs, H1, I1, r, q⟩ => ⟨I1.kIn, ?_⟩) (star_plain hh.pl) (back_plain t.plain)
        exact run_makeS (E := WE W) hM h4 g.room h3 (passAt g.tk σ) I1 r q
    refine .of rfl rfl (PE.wk hs fun σ H Q ⟨ι, κ, S, ρ, w, en, p⟩ => ?_) rfl
    simp only [evE, hI] at p
    refine ⟨ι, κ, S, ρ, w, en, p.bind fun ds S1 vs H1 ι1 e1 w1 r1 p1 ad dx hx hdx hne => ?_⟩
    have hxd : upd H1 dx (.own ad) ad = none := by rw [upd_ne (fun z => hne z.symm)]; exact hx
    have w2 : Wd T X.K (upd (upd H1 dx (.own ad)) ad (.ins (He.ga X.K n) dx [])) (ι1 ++ [ad]) κ (S1 ++ [.ins C []]) :=
      ((w1.fresh hdx).hide hxd).take (w1.notink hx) ⟨_, dx, [], hcad, upd_same, rfl⟩
    have e2 : Ext H1 ι1 (upd (upd H1 dx (.own ad)) ad (.ins (He.ga X.K n) dx [])) (ι1 ++ [ad]) := by
      refine ⟨fun b o _ q => ?_, fun b z => ?_, List.prefix_append _ _⟩
      · rw [upd_ne (ne_of_none q hx), upd_ne (ne_of_none q hdx)]; exact q
      · rcases List.mem_append.mp z with z | z
        · exact .inl z
        · rw [List.mem_singleton.mp z]; exact .inr hx
    have hget : (ι1 ++ [ad])[S1.length]? = some ad := by rw [← w1.len]; simp
    refine spF_of w2 (ds := .ref S1.length :: ds) ?_ h5 (S := S1 ++ [.ins C []]) (Post.bind (Post.trans p1 e2) fun d S2 v H2 ι2 e3 w3 r3 p3 => ?_)
    · have r1 : RepL X.K H1 ι1 κ ds vs := r1
      simp only [RepL, Rep]
      exact ⟨_, vs, rfl, ⟨ad, rfl, hget⟩, RepL.up r1 e2 w1⟩
    · cases d with
      | non =>
        have r3 : Rep X.K H2 ι2 κ .non v := r3
        simp only [Rep] at r3
        refine ⟨r3, p3 (.ref ad) H2 ι2 Ext.refl w3 ?_⟩
        show Rep X.K H2 ι2 κ (.ref S1.length) (.ref ad)
        simp only [Rep]
        exact ⟨ad, rfl, getE e3 hget⟩
      | _ => exact p3.elim
end
end MP
end

section
set_option Elab.async false
set_option linter.all false
set_option maxRecDepth 100000
/-! MpM: what is walked. -/
namespace MP
open PySem PySem.Spec PyProof.Rows L2
def IW (T : Tab) (K : PySem.W.Frag) (κ : List Addr) (S0 : Sto) (H0 : Hp) (ι0 : List Addr) (p : List D × Option Nat) (J : It) : Prop :=
  ∀ κ' H ι S, (∀ a ∈ κ', a ∈ κ ∨ H0 a = none) → Ext H0 ι0 H ι → Wd T K H ι κ' S → held p.2 S0 S = true → ∀ i,
    (i < p.1.length → J.go i H ∧ ∀ x H', J.yld i H x H' → Ext H ι H' ι ∧ Wd T K H' ι κ' S ∧ ∃ d, p.1[i]? = some d ∧ Rep K H' ι κ' d x) ∧ (i = p.1.length → J.stop i H)
def PostI (T : Tab) (K : PySem.W.Frag) (κ : List Addr) (W : WX) (σ : L2.St) (H : Hp) (ι : List Addr) (r : R (List D × Option Nat)) (Q : It → Hp → Prop) : Prop := match r with
  | .ok p S' => ∀ J H' ι', Ext H ι H' ι' → Wd T K H' ι' κ S' → IW T K κ S' H' ι' p J → Q J H'
  | .exc C fs S' => ∀ cls dx H' ι', Ext H ι H' ι' → Wd T K H' ι' κ S' → ExR T K H' ι' κ C fs cls dx → W cls dx σ H'
  | .no => False
theorem PostI.trans {T : Tab} {K : PySem.W.Frag} {κ : List Addr} {W : WX} {σ : L2.St} {H H1 : Hp} {ι ι1 : List Addr} {r : R (List D × Option Nat)} {Q : It → Hp → Prop} (h : PostI T K κ W σ H ι r Q) (e : Ext H ι H1 ι1) : PostI T K κ W σ H1 ι1 r Q := by
  cases r with
  | ok a S => exact fun g H' ι' e' w q => h g H' ι' (e.trans e') w q
  | exc C fs S => exact fun c d H' ι' e' w q => h c d H' ι' (e.trans e') w q
  | no => exact h
theorem PostI.bind {T : Tab} {K : PySem.W.Frag} {κ : List Addr} {W : WX} {σ : L2.St} {H : Hp} {ι : List Addr} {α γ : Type} {rel : Hp → List Addr → α → γ → Prop} {r : R α} {k : α → Sto → R (List D × Option Nat)} {Q : It → Hp → Prop} {Q1 : γ → Hp → Prop} (h : PostI T K κ W σ H ι (r.bind k) Q)
    (f : ∀ a S1 g H1 ι1, r = .ok a S1 → Ext H ι H1 ι1 → Wd T K H1 ι1 κ S1 → rel H1 ι1 a g → PostI T K κ W σ H1 ι1 (k a S1) Q → Q1 g H1) : Post T K κ W σ rel H ι r Q1 := by
  cases r with
  | ok a S => exact fun g H' ι' e w q => f a S g H' ι' rfl e w q (PostI.trans h e)
  | exc C fs S => exact h
  | no => exact h
theorem PostI.val {T : Tab} {K : PySem.W.Frag} {κ : List Addr} {W : WX} {σ : L2.St} {H : Hp} {ι : List Addr} {p : List D × Option Nat} {S : Sto} {Q : It → Hp → Prop} (h : PostI T K κ W σ H ι (.ok p S) Q) (w : Wd T K H ι κ S) {J : It} (i : IW T K κ S H ι p J) : Q J H := h J H ι Ext.refl w i
def tI (T : Tab) (K : PySem.W.Frag) (W : WX) (Γ : Ctx) (x : Ex) : TI := fun σ H R => ∃ ι κ S ρ, Wd T K H ι κ S ∧ EnvR K H ι κ σ ρ ∧ PostI T K κ W σ H ι (evI Γ x ρ S) R
theorem PI.wk {X : Cx} {tg e : Expr} {t t' : TI} (h : PI X tg e t) (i : ∀ σ H Q, t' σ H Q → t σ H Q) : PI X tg e t' := ⟨fun pins s σ H Q I q => h.run pins s σ H Q I (i σ H Q q)⟩
theorem PI.some {X : Cx} {tg e : Expr} {t' : TI} (h : ∀ σ H Q, t' σ H Q → ∃ t, PI X tg e t ∧ t σ H Q) : PI X tg e t' := ⟨fun pins s σ H Q I q => by
  obtain ⟨t, h1, h2⟩ := h σ H Q q
  exact h1.run pins s σ H Q I h2⟩
section
variable {T : Tab} {K : PySem.W.Frag} {H H0 : Hp} {ι ι0 κ : List Addr} {S S0 : Sto} {xs ys : List D} {g : Option Nat} {a b : Addr}
def RowL (T : Tab) (K : PySem.W.Frag) (κ : List Addr) (S0 : Sto) (H0 : Hp) (ι0 : List Addr) (xs : List D) (g : Option Nat) (a : Addr) : Prop :=
  ∀ κ' H ι S, (∀ a ∈ κ', a ∈ κ ∨ H0 a = none) → Ext H0 ι0 H ι → Wd T K H ι κ' S → held g S0 S = true → ∃ vs, SqL K H a vs ∧ RepL K H ι κ' xs vs
def RowT (T : Tab) (K : PySem.W.Frag) (κ : List Addr) (H0 : Hp) (ι0 : List Addr) (xs : List D) (a : Addr) : Prop :=
  ∀ κ' H ι S, (∀ a ∈ κ', a ∈ κ ∨ H0 a = none) → Ext H0 ι0 H ι → Wd T K H ι κ' S → ∃ vs, SqT K H a vs ∧ RepL K H ι κ' xs vs
theorem rol_row {ns : List Int} {v : V} (m : ∀ a ∈ ι0, Mut (H0 a)) (r : Rep K H0 ι0 κ (.rol ns) v) : ∃ a, v = .ref a ∧ ∀ H ι, Ext H0 ι0 H ι → SqL K H a (ns.map V.int) := by
  simp only [Rep] at r
  obtain ⟨a, rfl, h, _⟩ := r
  refine ⟨a, rfl, fun H ι e => ?_⟩
  rcases h with ⟨h, n, _⟩ | h
  · rcases h with h | ⟨o, h⟩
    · exact .inl (.inl (e.keep _ _ n h))
    · exact .inl (.inr ⟨o, e.frz m h⟩)
  · exact .inr h
theorem row_of {d : D} {v : V} (w : Wd T K H0 ι0 κ S0) (r : Rep K H0 ι0 κ d v) (e : itemsOf d S0 = some (xs, g)) : (∃ z, d = .str z) ∨ (∃ kvs, d = .dic kvs) ∨ ∃ a, v = .ref a ∧ (RowL T K κ S0 H0 ι0 xs g a ∨ (RowT T K κ H0 ι0 xs a ∧ ∃ ys, d = .tup ys)) := by
  cases d with
  | str z => exact .inl ⟨z, rfl⟩
  | dic kvs => exact .inr (.inl ⟨kvs, rfl⟩)
  | tup ds =>
    simp only [itemsOf, Option.some.injEq, Prod.mk.injEq] at e
    obtain ⟨rfl, rfl⟩ := e
    simp only [Rep] at r
    obtain ⟨a, vs, rfl, h1, h2⟩ := r
    exact .inr (.inr ⟨a, rfl, .inr ⟨fun κ' H ι S hκ e w' => ⟨vs, e.rdT w.mut h1, RepL.mono e w.mut hκ h2⟩, _, rfl⟩⟩)
  | lst ds =>
    simp only [itemsOf, Option.some.injEq, Prod.mk.injEq] at e
    obtain ⟨rfl, rfl⟩ := e
    simp only [Rep] at r
    obtain ⟨a, vs, rfl, h1, hn, hk, h2⟩ := r
    exact .inr (.inr ⟨a, rfl, .inl fun κ' H ι S hκ e w' _ => ⟨vs, .of (e.keep _ _ hn h1), RepL.mono e w.mut hκ h2⟩⟩)
  | rol ns =>
    simp only [itemsOf, Option.some.injEq, Prod.mk.injEq] at e
    obtain ⟨rfl, rfl⟩ := e
    obtain ⟨a, rfl, h⟩ := rol_row w.mut r
    exact .inr (.inr ⟨a, rfl, .inl fun κ' H ι S hκ e w' _ => ⟨_, h H ι e, RepL.ints ns⟩⟩)
  | ref n =>
    simp only [itemsOf] at e
    split at e
    · rename_i ds hs
      simp only [Option.some.injEq, Prod.mk.injEq] at e
      obtain ⟨rfl, rfl⟩ := e
      simp only [Rep] at r
      obtain ⟨a, rfl, ha⟩ := r
      refine .inr (.inr ⟨a, rfl, .inl fun κ' H ι S hκ e w' hg => ?_⟩)
      obtain ⟨vs, h1, h2⟩ := w'.ob n a _ (getE e ha) (((of_decide_eq_true (show decide (S0.get n = S.get n) = true from hg)).symm.trans hs))
      exact ⟨vs, .of h1, h2⟩
    · cases e
  | _ => simp [itemsOf] at e
theorem RowL.iw (h : RowL T K κ S0 H0 ι0 xs g a) : IW T K κ S0 H0 ι0 (xs, g) (Itl K a) := by
  intro κ' H ι S hκ e w hg i
  obtain ⟨vs, h1, h2⟩ := h κ' H ι S hκ e w hg
  have hl := RepL.length h2
  refine ⟨fun hi => ⟨⟨vs, vs[i]'(by rw [← hl]; exact hi), h1, by simp⟩, fun x H' ⟨e1, y⟩ => ?_⟩, fun hi => ⟨vs, h1, by rw [← hl]; exact Nat.le_of_eq hi.symm⟩⟩
  subst e1
  obtain ⟨u, hu, ru⟩ := RepL.get h2 (List.getElem?_eq_getElem hi)
  have : x = u := Option.some.inj ((y vs h1).symm.trans hu)
  subst this
  exact ⟨Ext.refl, w, _, List.getElem?_eq_getElem hi, ru⟩
theorem RowT.iw (h : RowT T K κ H0 ι0 xs a) : IW T K κ S0 H0 ι0 (xs, g) (Itt K a) := by
  intro κ' H ι S hκ e w hg i
  obtain ⟨vs, h1, h2⟩ := h κ' H ι S hκ e w
  have hl := RepL.length h2
  refine ⟨fun hi => ⟨⟨vs, vs[i]'(by rw [← hl]; exact hi), h1, by simp⟩, fun x H' ⟨e1, y⟩ => ?_⟩, fun hi => ⟨vs, h1, by rw [← hl]; exact Nat.le_of_eq hi.symm⟩⟩
  subst e1
  obtain ⟨u, hu, ru⟩ := RepL.get h2 (List.getElem?_eq_getElem hi)
  have : x = u := Option.some.inj ((y vs h1).symm.trans hu)
  subst this
  exact ⟨Ext.refl, w, _, List.getElem?_eq_getElem hi, ru⟩
/-- a new pair -/
theorem pair_new {q : Addr} {x y : V} {d e : D} (w : Wd T K H ι κ S) (hq : H q = none) (r1 : Rep K H ι κ d x) (r2 : Rep K H ι κ e y) : Ext H ι (upd H q (.tup [x, y])) ι ∧ Wd T K (upd H q (.tup [x, y])) ι κ S ∧ Rep K (upd H q (.tup [x, y])) ι κ (.tup [d, e]) (.ref q) := by
  have ex := Ext.fresh (o := .tup [x, y]) w hq
  refine ⟨ex, w.fresh hq, ?_⟩
  simp only [Rep]
  exact ⟨q, [x, y], rfl, .inl (.inl upd_same), by simp only [RepL]; exact ⟨x, [y], rfl, Rep.up r1 ex w, y, [], rfl, Rep.up r2 ex w, rfl⟩⟩
theorem enumD_get : ∀ (xs : List D) (n i : Nat), (enumD n xs)[i]? = xs[i]?.map fun x => .tup [.int (n + i : Nat), x]
  | [], _, _ => by simp [enumD]
  | x :: xs, n, 0 => by simp [enumD]
  | x :: xs, n, i + 1 => by
    simp only [enumD, List.getElem?_cons_succ]
    rw [enumD_get xs (n + 1) i]
    congr 1; funext x; congr 3; congr 1; push_cast; omega
theorem enumD_length : ∀ (xs : List D) (n : Nat), (enumD n xs).length = xs.length
  | [], _ => rfl
  | x :: xs, n => by simp [enumD, enumD_length xs (n + 1)]
theorem RowL.iwe (h : RowL T K κ S0 H0 ι0 xs g a) : IW T K κ S0 H0 ι0 (enumD 0 xs, g) (Ite K a) := by
  intro κ' H ι S hκ e w hg i
  obtain ⟨vs, h1, h2⟩ := h κ' H ι S hκ e w hg
  have hl := RepL.length h2
  have hl2 : (enumD 0 xs).length = xs.length := enumD_length xs 0
  refine ⟨fun hi => ?_, fun hi => ?_⟩
  · have hi : i < xs.length := by rw [← hl2]; exact hi
    refine ⟨⟨vs, vs[i]'(by omega), h1, by simp⟩, fun x H' ⟨q, y, hv, hq, hH, hy⟩ => ?_⟩
    obtain ⟨u, hu, ru⟩ := RepL.get h2 (List.getElem?_eq_getElem hi)
    have : y = u := Option.some.inj ((hy vs h1).symm.trans hu)
    subst this hv hH
    obtain ⟨e1, w1, r1⟩ := pair_new (d := .int (i : Nat)) (x := .int (i : Nat)) w hq (by simp only [Rep]) ru
    refine ⟨e1, w1, _, ?_, r1⟩
    show (enumD 0 xs)[i]? = _
    rw [enumD_get, List.getElem?_eq_getElem hi]
    first | rfl | simp
  · have hi : i = (enumD 0 xs).length := hi
    exact ⟨vs, h1, by omega⟩
theorem zipD_get : ∀ (xs ys : List D) (i : Nat), (zipD xs ys)[i]? = match xs[i]?, ys[i]? with
    | some x, some y => some (.tup [x, y])
    | _, _ => none
  | [], _, i => by simp [zipD]
  | x :: xs, [], i => by
    simp only [zipD, List.getElem?_nil]
    split <;> first | rfl | simp_all
  | x :: xs, y :: ys, 0 => by simp [zipD]
  | x :: xs, y :: ys, i + 1 => by
    simp only [zipD, List.getElem?_cons_succ]
    exact zipD_get xs ys i
theorem zipD_length : ∀ (xs ys : List D), (zipD xs ys).length = min xs.length ys.length
  | [], _ => by simp [zipD]
  | x :: xs, [] => by simp [zipD]
  | x :: xs, y :: ys => by simp [zipD, zipD_length xs ys]
theorem RowL.iwz {g' : Option Nat} (h : RowL T K κ S0 H0 ι0 xs g a) (h' : RowL T K κ S0 H0 ι0 ys g' b) (hg1 : g = none) (hg2 : g' = none) : IW T K κ S0 H0 ι0 (zipD xs ys, none) (Itz K a b) := by
  subst hg1 hg2
  intro κ' H ι S hκ e w hg i
  obtain ⟨vs, h1, h2⟩ := h κ' H ι S hκ e w rfl
  obtain ⟨us, h3, h4⟩ := h' κ' H ι S hκ e w rfl
  have hl := RepL.length h2
  have hl' := RepL.length h4
  have hz := zipD_length xs ys
  refine ⟨fun hi => ?_, fun hi => ?_⟩
  · have hi : i < (zipD xs ys).length := hi
    have hi1 : i < xs.length := by omega
    have hi2 : i < ys.length := by omega
    refine ⟨⟨vs, us, vs[i]'(by omega), us[i]'(by omega), h1, h3, by simp, by simp⟩, fun x H' ⟨q, y, z, hv, hq, hH, hy, hy'⟩ => ?_⟩
    obtain ⟨u, hu, ru⟩ := RepL.get h2 (List.getElem?_eq_getElem hi1)
    obtain ⟨u', hu', ru'⟩ := RepL.get h4 (List.getElem?_eq_getElem hi2)
    have e1 : y = u := Option.some.inj ((hy vs h1).symm.trans hu)
    have e2 : z = u' := Option.some.inj ((hy' us h3).symm.trans hu')
    subst e1 e2 hv hH
    obtain ⟨e1, w1, r1⟩ := pair_new w hq ru ru'
    refine ⟨e1, w1, _, ?_, r1⟩
    show (zipD xs ys)[i]? = _
    rw [zipD_get, List.getElem?_eq_getElem hi1, List.getElem?_eq_getElem hi2]
  · have hi : i = (zipD xs ys).length := hi
    exact ⟨vs, us, h1, h3, by omega⟩
theorem RowT.iwz (h : RowT T K κ H0 ι0 xs a) (h' : RowT T K κ H0 ι0 ys b) : IW T K κ S0 H0 ι0 (zipD xs ys, none) (RZ.ItzT K a b) := by
  intro κ' H ι S hκ e w hg i
  obtain ⟨vs, h1, h2⟩ := h κ' H ι S hκ e w
  obtain ⟨us, h3, h4⟩ := h' κ' H ι S hκ e w
  have hl := RepL.length h2
  have hl' := RepL.length h4
  have hz := zipD_length xs ys
  refine ⟨fun hi => ?_, fun hi => ?_⟩
  · have hi : i < (zipD xs ys).length := hi
    have hi1 : i < xs.length := by omega
    have hi2 : i < ys.length := by omega
    refine ⟨⟨vs, us, vs[i]'(by omega), us[i]'(by omega), h1, h3, by simp, by simp⟩, fun x H' ⟨q, y, z, hv, hq, hH, hy, hy'⟩ => ?_⟩
    obtain ⟨u, hu, ru⟩ := RepL.get h2 (List.getElem?_eq_getElem hi1)
    obtain ⟨u', hu', ru'⟩ := RepL.get h4 (List.getElem?_eq_getElem hi2)
    have e1 : y = u := Option.some.inj ((hy vs h1).symm.trans hu)
    have e2 : z = u' := Option.some.inj ((hy' us h3).symm.trans hu')
    subst e1 e2 hv hH
    obtain ⟨e1, w1, r1⟩ := pair_new w hq ru ru'
    refine ⟨e1, w1, _, ?_, r1⟩
    show (zipD xs ys)[i]? = _
    rw [zipD_get, List.getElem?_eq_getElem hi1, List.getElem?_eq_getElem hi2]
  · have hi : i = (zipD xs ys).length := hi
    exact ⟨vs, us, h1, h3, by omega⟩
/-! numbers, texts, dicts -/
theorem rangeD_get : ∀ (n : Nat) (lo : Int) (i : Nat), i < n → (rangeD lo n)[i]? = some (.int (lo + i))
  | 0, _, _, h => by omega
  | n + 1, lo, 0, _ => by simp [rangeD]
  | n + 1, lo, i + 1, h => by
    simp only [rangeD, List.getElem?_cons_succ]
    rw [rangeD_get n (lo + 1) i (by omega)]
    congr 2; push_cast; omega
theorem rangeD_length : ∀ (n : Nat) (lo : Int), (rangeD lo n).length = n
  | 0, _ => rfl
  | n + 1, lo => by simp [rangeD, rangeD_length n]
theorem iw_range {lo : Int} {n : Nat} : IW T K κ S0 H0 ι0 (rangeD lo n, none) (Itr lo n) := by
  intro κ' H ι S hκ e w hg i
  refine ⟨fun hi => ?_, fun hi => ?_⟩
  · have hi : i < n := by rw [← rangeD_length n lo]; exact hi
    refine ⟨hi, fun x H' ⟨e1, e2⟩ => ?_⟩
    subst e1 e2
    exact ⟨Ext.refl, w, _, rangeD_get n lo i hi, by simp only [Rep]⟩
  · have hi : i = (rangeD lo n).length := hi
    rw [rangeD_length] at hi
    exact Nat.le_of_eq hi.symm
theorem rangeC_get : ∀ (n : Nat) (lo c : Int) (i : Nat), i < n → (rangeC lo c n)[i]? = some (.int (lo + i * c))
  | 0, _, _, _, h => by omega
  | n + 1, lo, c, 0, _ => by simp [rangeC]
  | n + 1, lo, c, i + 1, h => by
    simp only [rangeC, List.getElem?_cons_succ]
    rw [rangeC_get n (lo + c) c i (by omega)]
    congr 2; push_cast; rw [Int.add_mul]; omega
theorem rangeC_length : ∀ (n : Nat) (lo c : Int), (rangeC lo c n).length = n
  | 0, _, _ => rfl
  | n + 1, lo, c => by simp [rangeC, rangeC_length n]
theorem iw_rangeC {lo c : Int} {n : Nat} : IW T K κ S0 H0 ι0 (rangeC lo c n, none) (Itc lo c n) := by
  intro κ' H ι S hκ e w hg i
  refine ⟨fun hi => ?_, fun hi => ?_⟩
  · have hi : i < n := by rw [← rangeC_length n lo c]; exact hi
    refine ⟨hi, fun x H' ⟨e1, e2⟩ => ?_⟩
    subst e1 e2
    exact ⟨Ext.refl, w, _, rangeC_get n lo c i hi, by simp only [Rep]⟩
  · have hi : i = (rangeC lo c n).length := hi
    rw [rangeC_length] at hi
    exact Nat.le_of_eq hi.symm
theorem iw_str {z : Str} (hz : PyData.strOk z = true) : IW T K κ S0 H0 ι0 (z.cps.toList.map sgn, none) (Its z) := by
  intro κ' H ι S hκ e w hg i
  refine ⟨fun hi => ?_, fun hi => ?_⟩
  · have hi : i < z.cps.size := by have : i < (z.cps.toList.map sgn).length := hi; simpa using this
    refine ⟨hi, fun x H' ⟨e1, c, hc, e2⟩ => ?_⟩
    subst e1 e2
    refine ⟨Ext.refl, w, sgn c, by simp [hc], ?_⟩
    unfold sgn
    simp only [Rep]
    refine ⟨trivial, strOk_of (l := [c]) fun c' hc' => ?_⟩
    rw [List.mem_singleton.mp hc']
    exact strOk_mem hz (by rw [← Array.getElem?_toList] at hc; exact List.mem_of_getElem? hc)
  · have : i = (z.cps.toList.map sgn).length := hi
    exact Nat.le_of_eq (by simpa using this.symm)
theorem RepK.get {H : Hp} {ι κ : List Addr} : ∀ {ds : List (Ky × D)} {vs : List (Ky × V)} {i : Nat} {kd : Ky × D}, RepK K H ι κ ds vs → ds[i]? = some kd → ∃ v, vs[i]? = some (kd.1, v) ∧ Rep K H ι κ kd.2 v ∧ KyOk kd.1
  | [], _, _, _, _, e => by simp at e
  | (j, d) :: ds, vs, 0, kd, h, e => by
    simp only [RepK] at h
    obtain ⟨v, r, rfl, q, q', ok⟩ := h
    simp at e; subst e
    exact ⟨v, rfl, q, ok⟩
  | (j, d) :: ds, vs, i + 1, kd, h, e => by
    simp only [RepK] at h
    obtain ⟨v, r, rfl, q, q', ok⟩ := h
    obtain ⟨w, h1, h2⟩ := RepK.get (i := i) q' (by simpa using e)
    exact ⟨w, by simpa using h1, h2⟩
theorem dic_row {kvs : List (Ky × D)} {v : V} (w : Wd T K H0 ι0 κ S0) (r : Rep K H0 ι0 κ (.dic kvs) v) : ∃ a o vs, v = .ref a ∧ H0 a = some (.frz o (.dK vs)) ∧ ∀ κ' H ι, (∀ a ∈ κ', a ∈ κ ∨ H0 a = none) → Ext H0 ι0 H ι → H a = some (.frz o (.dK vs)) ∧ RepK K H ι κ' kvs vs := by
  simp only [Rep] at r
  obtain ⟨a, o, vs, rfl, h1, h2⟩ := r
  exact ⟨a, o, vs, rfl, h1, fun κ' H ι hκ e => ⟨e.frz w.mut h1, RepK.mono e w.mut hκ h2⟩⟩
theorem iw_keys {kvs : List (Ky × D)} {vs : List (Ky × V)} {o : Obj} (h : ∀ κ' H ι, (∀ a ∈ κ', a ∈ κ ∨ H0 a = none) → Ext H0 ι0 H ι → H a = some (.frz o (.dK vs)) ∧ RepK K H ι κ' kvs vs) : IW T K κ S0 H0 ι0 (kvs.map fun kv => kv.1.d, none) (Itk a o vs) := by
  intro κ' H ι S hκ e w hg i
  obtain ⟨h1, h2⟩ := h κ' H ι hκ e
  have hl := (RepK.keys h2).2
  refine ⟨fun hi => ?_, fun hi => ?_⟩
  · have hi : i < kvs.length := by have : i < (kvs.map fun kv => kv.1.d).length := hi; simpa using this
    refine ⟨⟨h1, by omega⟩, fun x H' ⟨e1, k, v, hv, e2⟩ => ?_⟩
    subst e1 e2
    obtain ⟨u, hu, ru, ok⟩ := RepK.get h2 (List.getElem?_eq_getElem hi)
    rw [hv] at hu
    cases hu
    exact ⟨Ext.refl, w, _, by simp [hi], Ky.rep ok⟩
  · have : i = (kvs.map fun kv => kv.1.d).length := hi
    simp at this
    exact ⟨h1, by omega⟩
theorem iw_vals {kvs : List (Ky × D)} {vs : List (Ky × V)} {o : Obj} (h : ∀ κ' H ι, (∀ a ∈ κ', a ∈ κ ∨ H0 a = none) → Ext H0 ι0 H ι → H a = some (.frz o (.dK vs)) ∧ RepK K H ι κ' kvs vs) : IW T K κ S0 H0 ι0 (kvs.map fun kv => kv.2, none) (Itd a o vs) := by
  intro κ' H ι S hκ e w hg i
  obtain ⟨h1, h2⟩ := h κ' H ι hκ e
  have hl := (RepK.keys h2).2
  refine ⟨fun hi => ?_, fun hi => ?_⟩
  · have hi : i < kvs.length := by have : i < (kvs.map fun kv => kv.2).length := hi; simpa using this
    refine ⟨⟨h1, by omega⟩, fun x H' ⟨e1, k, hv⟩ => ?_⟩
    subst e1
    obtain ⟨u, hu, ru, ok⟩ := RepK.get h2 (List.getElem?_eq_getElem hi)
    rw [hv] at hu
    cases hu
    exact ⟨Ext.refl, w, _, by simp [hi], ru⟩
  · have : i = (kvs.map fun kv => kv.2).length := hi
    simp at this
    exact ⟨h1, by omega⟩
theorem iw_items {kvs : List (Ky × D)} {vs : List (Ky × V)} {o : Obj} (h : ∀ κ' H ι, (∀ a ∈ κ', a ∈ κ ∨ H0 a = none) → Ext H0 ι0 H ι → H a = some (.frz o (.dK vs)) ∧ RepK K H ι κ' kvs vs) : IW T K κ S0 H0 ι0 (kvs.map fun kv => .tup [kv.1.d, kv.2], none) (Iti a o vs) := by
  intro κ' H ι S hκ e w hg i
  obtain ⟨h1, h2⟩ := h κ' H ι hκ e
  have hl := (RepK.keys h2).2
  refine ⟨fun hi => ?_, fun hi => ?_⟩
  · have hi : i < kvs.length := by have : i < (kvs.map fun kv => D.tup [kv.1.d, kv.2]).length := hi; simpa using this
    refine ⟨⟨h1, by omega⟩, fun x H' ⟨q, k, v, hv, e2, hq, hH⟩ => ?_⟩
    obtain ⟨u, hu, ru, ok⟩ := RepK.get h2 (List.getElem?_eq_getElem hi)
    rw [hv] at hu
    cases hu
    subst e2 hH
    obtain ⟨e1, w1, r1⟩ := pair_new w hq (Ky.rep ok) ru
    exact ⟨e1, w1, _, by simp [hi], r1⟩
  · have : i = (kvs.map fun kv => D.tup [kv.1.d, kv.2]).length := hi
    simp at this
    exact ⟨h1, by omega⟩
theorem rev_get {α : Type} {xs : List α} {i : Nat} (h : i < xs.length) : xs.reverse[i]? = xs[xs.length - 1 - i]? := by
  rw [List.getElem?_reverse h]
theorem RowL.iwr (h : RowL T K κ S0 H0 ι0 xs none a) : IW T K κ S0 H0 ι0 (xs.reverse, none) (Itv K a xs.length) := by
  intro κ' H ι S hκ e w hg i
  obtain ⟨vs, h1, h2⟩ := h κ' H ι S hκ e w rfl
  have hl := RepL.length h2
  refine ⟨fun hi => ?_, fun hi => ?_⟩
  · have hi : i < xs.length := by have : i < xs.reverse.length := hi; simpa using this
    refine ⟨⟨hi, vs, vs[xs.length - 1 - i]'(by omega), h1, by simp⟩, fun x H' ⟨e1, y⟩ => ?_⟩
    subst e1
    obtain ⟨u, hu, ru⟩ := RepL.get h2 (List.getElem?_eq_getElem (show xs.length - 1 - i < xs.length by omega))
    have : x = u := Option.some.inj ((y vs h1).symm.trans hu)
    subst this
    refine ⟨Ext.refl, w, _, ?_, ru⟩
    show xs.reverse[i]? = _
    rw [rev_get hi, List.getElem?_eq_getElem]
  · have : i = xs.reverse.length := hi
    simp at this
    exact Nat.le_of_eq this.symm
theorem RowT.iwr (h : RowT T K κ H0 ι0 xs a) : IW T K κ S0 H0 ι0 (xs.reverse, none) (RT.ItvT K a xs.length) := by
  intro κ' H ι S hκ e w hg i
  obtain ⟨vs, h1, h2⟩ := h κ' H ι S hκ e w
  have hl := RepL.length h2
  refine ⟨fun hi => ?_, fun hi => ?_⟩
  · have hi : i < xs.length := by have : i < xs.reverse.length := hi; simpa using this
    refine ⟨⟨hi, vs, vs[xs.length - 1 - i]'(by omega), h1, by simp⟩, fun x H' ⟨e1, y⟩ => ?_⟩
    subst e1
    obtain ⟨u, hu, ru⟩ := RepL.get h2 (List.getElem?_eq_getElem (show xs.length - 1 - i < xs.length by omega))
    have : x = u := Option.some.inj ((y vs h1).symm.trans hu)
    subst this
    refine ⟨Ext.refl, w, _, ?_, ru⟩
    show xs.reverse[i]? = _
    rw [rev_get hi, List.getElem?_eq_getElem]
  · have : i = xs.reverse.length := hi
    simp at this
    exact Nat.le_of_eq this.symm
end
end MP
end

section
set_option Elab.async false
set_option linter.all false
set_option maxRecDepth 100000
set_option maxHeartbeats 2000000
/-! MpM2: enumerate of a tuple, zip of lists and tuples in any mix. -/
namespace MP
open PySem PySem.Spec PyProof.Rows
open AutoSeq1 (wpAny_loadPart')
/-- the new iterator over the tuple -/
abbrev tIter (q : Addr) : Obj := { cls := .type "tuple_iterator", data := .fields #[.ref q, .int 0 0] }
abbrev eNew (i : Addr) : Obj := { cls := .type "enumerate", data := .fields #[.none, .bool false, .ref i, rawInt 0, .none, .none] }
theorem meets_enumT (q : Addr) (ws : Array Value) (j : Nat) (dd : Option Addr) (sl : Array (Option Value)) : Meets (Builtin.«enumerate.__new__» ⟨[.type "enumerate", .ref q], []⟩) (fun _ R s =>
    s.heap.get? q = some { cls := .type "tuple", dict := dd, data := .seq ws j, slots := sl } ∧ R (.ok (.ret (.ref (s.heap.push (tIter q)).objs.size))) { s with heap := (s.heap.push (tIter q)).push (eNew s.heap.objs.size) }) :=
  .of_wp fun prog w A R st hh => by
    obtain ⟨hp, g0, d0, t0, o0⟩ := st
    obtain ⟨hq, hr⟩ := hh
    have isSub := sub_enumerate
    have hT : Heap.IsTuple (Shared.heap ⟨hp, g0, d0, t0, o0⟩) q ws := ⟨_, hq, rfl, j, rfl⟩
    wp_walk using wpAny_loadPart' hq
    refine wpAny_stack_any fun fr => wpAny_pure ?_
    split
    · rename_i cc _ _ _ _ _
      cases (cc == Value.type "enumerate") <;> (wp_walk using wpAny_loadPart' hq, wpAny_pyIter_tuple hT; exact ⟨_, rfl, hr⟩)
    · wp_walk using wpAny_loadPart' hq, wpAny_pyIter_tuple hT
      exact ⟨_, rfl, hr⟩
section
variable {prog : Program} {w : World} {A : Around} {E : Value → Shared → Prop} {s : Shared}
theorem call_enumT {q : Addr} {ws : Array Value} {Q : Value → Shared → Prop} (hT : s.heap.IsTuple q ws)
    (hk : ∀ h', IsEnum h' (s.heap.objs.size + 1) s.heap.objs.size 0 .none → h'.IsTupleIter s.heap.objs.size q 0 → (∀ b o, s.heap.get? b = some o → h'.get? b = some o) → Q (.ref (s.heap.objs.size + 1)) { s with heap := h' }) :
    wpAny (model prog w) A (call (.type "enumerate") [.ref q]) Q E s := by
  obtain ⟨⟨cc, dd, dt, sl⟩, hq, ec, j, ed⟩ := hT
  obtain rfl : cc = .type "tuple" := ec
  obtain rfl : dt = .seq ws j := ed
  refine callType_new F.called_enumerate (by decide) (F.typeCall_enumerate_1 _) (F.newCall_enumerate_1 _) (fun ob => F.args_object_init_2 ob _) F.entry_enumerate_new (meets_enumT q ws j dd sl) ⟨hq, ?_⟩
  have hz : (s.heap.push (tIter q)).objs.size = s.heap.objs.size + 1 := Heap.size_push ..
  have he : IsEnum ((s.heap.push (tIter q)).push (eNew s.heap.objs.size)) (s.heap.objs.size + 1) s.heap.objs.size 0 .none := by
    have e1 := Heap.get?_push_size (s.heap.push (tIter q)) (o := eNew s.heap.objs.size) rfl
    rw [hz] at e1
    exact e1
  show _ ∧ _
  rw [hz]
  exact ⟨⟨_, he, rfl⟩, hk _ he ⟨_, Heap.get?_push_of_some _ (Heap.get?_push_size _ rfl), rfl, rfl⟩ fun b o e => Heap.get?_push_of_some _ (Heap.get?_push_of_some _ e)⟩
end
/-- an iterator at its end, as a source that gives nothing more -/
theorem stuck_tuple {prog : Program} {w : World} {A : Around} (hh : A.handled = none) {it a : Addr} {ws : Array Value} {i : Nat} (hx : ws[i]? = none) (hat : a ≠ it) :
    Draws prog w A it [it, a] i (fun _ _ => True) (fun j h => j = i ∧ h.IsTupleIter it a i ∧ h.IsTuple a ws) where
  live := fun _ _ ⟨_, st, _⟩ => let ⟨o, ho, _⟩ := st; ⟨o, ho⟩
  frame := fun _ _ _ ⟨e, st, pt⟩ hk => ⟨e, st.at fun o e => hk it (by simp) o e, pt.at fun o e => hk a (by simp) o e⟩
  item := fun j s Q E hj ⟨e, _⟩ _ => absurd hj (by omega)
  done := fun s Q E ⟨_, st, pt⟩ hE => wpAny_nextOf_tuple_end hh st pt hx hE
theorem stuck_list {prog : Program} {w : World} {A : Around} (hh : A.handled = none) {it a : Addr} {ws : Array Value} {i : Nat} (hx : ws[i]? = none) (hat : a ≠ it) :
    Draws prog w A it [it, a] i (fun _ _ => True) (fun j h => j = i ∧ h.IsListIter it a i ∧ h.IsList a ws) where
  live := fun _ _ ⟨_, st, _⟩ => let ⟨o, ho, _⟩ := st; ⟨o, ho⟩
  frame := fun _ _ _ ⟨e, st, pt⟩ hk => ⟨e, st.at fun o e => hk it (by simp) o e, pt.at fun o e => hk a (by simp) o e⟩
  item := fun j s Q E hj ⟨e, _⟩ _ => absurd hj (by omega)
  done := fun s Q E ⟨_, st, pt⟩ hE => wpAny_nextOf_list_end hh st pt hx hE
open L2
/-- the tuple at a as it stands at each turn, in new pairs with the turn's number -/
def IteT (K : PySem.W.Frag) (a : Addr) : It :=
  ⟨fun i H => ∃ (xs : List V) (x : V), SqT K H a xs ∧ xs[i]? = some x, fun i H v H' => ∃ T x, v = .ref T ∧ H T = none ∧ H' = upd H T (.tup [.int (i : Nat), x]) ∧ ∀ xs, SqT K H a xs → xs[i]? = some x, fun i H => ∃ xs : List V, SqT K H a xs ∧ xs.length ≤ i⟩
theorem turn_enumT {P : Program} {w : World} {K : PySem.W.Frag} {tes : List Expr} {m : Nat} {tp : Pos} (a e it : Addr) (hat : a ≠ it) (hae : a ≠ e) :
    Turn P w K (.Tuple tes m tp) (IteT K a) [e, it] e (fun i h => (∃ old, IsEnum h e it ((i : Nat) : Int) old) ∧ h.IsTupleIter it a i ∧ e ≠ it) where
  mem := List.mem_cons_self
  obj := fun i h st b hb => by
    obtain ⟨⟨old, he⟩, ⟨o, ho, _, hd⟩, _⟩ := st
    rcases List.mem_cons.mp hb with z | z
    · rw [z]; exact ⟨_, he, fun v q => nomatch q⟩
    · rw [List.mem_singleton.mp z]; exact ⟨o, ho, fun v q => by rw [hd] at q; cases q⟩
  keep := fun i h h' ⟨⟨old, he⟩, hi, hne⟩ k => ⟨⟨old, k e (by simp) _ he⟩, hi.at fun o q => k it (by simp) o q, hne⟩
  item := by
    intro X hP hw hK hc i pins s σ H E I hf ⟨⟨old, he⟩, hit, hne⟩ ⟨xs, x, hq, hx⟩
    subst hP hw hK
    obtain ⟨ws, rv, pt, hz⟩ := I.tuple hq
    obtain ⟨u, hu, ru⟩ := rv.get hx
    have hel : e < s.heap.objs.size := Heap.lt_size he
    have hil : it < s.heap.objs.size := by obtain ⟨_, q, _⟩ := hit; exact Heap.lt_size q
    have hl : i < ws.toArray.size := by
      have := (List.getElem?_eq_some_iff.mp hu).1
      simpa using this
    refine wpAny_pyNext_enum_itemD (Draws.tuple (A := X.A.in1) (I.ok.hd hc) it a hat ws.toArray) he ⟨hit, pt⟩ hl hne (by simp [hne, Ne.symm hae]) fun x1 h' tk hP1 ho hst hT hsz hk => ?_
    have hx1 : x1 = u := by
      have := hP1
      simp only [List.getElem?_toArray] at this
      rw [hu] at this
      exact (Option.some.inj this).symm
    subst hx1
    refine ⟨_, rfl, wpAny_letOwnedTupleGo_enum (s := { s with heap := h', toks := tk + 1 }) ho fun h2 he2 sb => ?_⟩
    have hT2 : h2.get? s.heap.objs.size = some { cls := .type "tuple", data := .seq #[.int i tk, x1] } := (sb.2 _ (Nat.ne_of_gt hel)).trans hT
    have new : ObjOk X.prog X.w (upd H s.heap.objs.size (.tup [.int (i : Nat), x])) h2 s.heap.objs.size (.tup [.int (i : Nat), x]) :=
      ⟨by show 2 ≤ sizeLine; decide, [.int i tk, x1], .cons ⟨_, rfl⟩ (.cons ru .nil), ⟨_, hT2, rfl, _, rfl⟩⟩
    have I1 : L2.Inv X pins σ (upd H s.heap.objs.size (.tup [.int (i : Nat), x])) { s with heap := h2, toks := tk + 1 } :=
      I.turnedNew (ch := [e, it]) (fun b ob hb q => (sb.2 b (fun z => hb (by simp [z]))).trans (hk b ob (fun z => hb (by simp [z])) (fun z => hb (by simp [z])) q)) hf (Nat.le_refl _) new
    refine ⟨.ref s.heap.objs.size, _, I1, rfl, ⟨_, x, rfl, I.hok.fresh (Nat.le_refl _), rfl, fun ys hy => by rw [I.tuple_inj hy hq]; exact hx⟩, ⟨⟨x1, ?_⟩, hst.1.at fun o q => (sb.2 it (Ne.symm hne)).trans q, hne⟩, fun b hb => ?_⟩
    · rw [show ((i + 1 : Nat) : Int) = (i : Int) + 1 by omega]; exact he2
    · have hb' : b < s.heap.objs.size := by
        rcases List.mem_cons.mp hb with z | z
        · rw [z]; exact hel
        · rw [List.mem_singleton.mp z]; exact hil
      rw [upd_ne (Nat.ne_of_lt hb')]
      exact (hf b hb).1
  done := by
    intro X hP hw hK hc i pins s σ H E I hf ⟨⟨old, he⟩, hit, hne⟩ ⟨xs, hq, hx⟩
    subst hP hw hK
    obtain ⟨ws, rv, pt, hz⟩ := I.tuple hq
    obtain ⟨f0, f1, f2, f3, f4, f5⟩ := hf it (by simp)
    have hl := rv.length
    exact wpAny_pyNext_enum_endD (stuck_tuple (A := X.A.in1) (I.ok.hd hc) (ws := ws.toArray) (by simp; omega) hat) he ⟨rfl, hit, pt⟩ fun h' eb => ⟨rfl, I.turned (t' := s.toks) (fun b o hb q => eb b o hb q) f0 f1 f3 f4 f5⟩
  self := fun A i s Q E ⟨⟨_, he⟩, _⟩ h => wpAny_pyIter_enum he h
def iEnumT (K : PySem.W.Frag) (ta : TA) : TI := fun σ H R => ta σ H fun vs H1 => ∃ a xs, vs = [.ref a] ∧ SqT K H1 a xs ∧ R (IteT K a) H1
theorem pi_enumT {X : Cx} {e : Expr} {ta : TA} {p pos tpos : Pos} {elts : List Expr} {kk : Nat} (hg : Gl X "enumerate") (hm : X.mg "enumerate" = none) (ha : PA X [e] ta) (hs : starEach [e] X.env = [(false, eval e X.env)] := by rfl) :
    PI X (.Tuple elts kk tpos) (.Call (.Name "enumerate" p) [e] [] pos) (iEnumT X.K ta) := by
  refine ⟨fun pins s σ H R I h => Call_ (ld_blt I hg hm boot_enumerate (PyProof.Rows.callWith_type1 (thn (ha.run pos pins s σ H _ I h) fun us s1 hh => ?_) hs rfl))⟩
  obtain ⟨vs, H1, I1, r1, a, xs, rfl, hq, q⟩ := hh
  cases r1 with
  | cons r rr =>
    cases rr
    cases r
    obtain ⟨ws, rv, pt, hz⟩ := I1.tuple hq
    obtain ⟨o, ho, _⟩ := id pt
    have hal : a < s1.heap.objs.size := Heap.lt_size ho
    refine call_enumT pt fun h' he hit hk => wpAny_pyIter_enum he ?_
    refine ⟨s1.heap.objs.size + 1, [s1.heap.objs.size + 1, s1.heap.objs.size], _, _, H1, rfl, I1.kept (t' := s1.toks) hk, turn_enumT a (s1.heap.objs.size + 1) s1.heap.objs.size (Nat.ne_of_lt hal) (Nat.ne_of_lt (Nat.lt_succ_of_lt hal)), ⟨⟨.none, he⟩, hit, Nat.succ_ne_self _⟩, fun b hb => ?_, q⟩
    have hle : s1.heap.objs.size ≤ b := by
      rcases List.mem_cons.mp hb with z | z
      · rw [z]; exact Nat.le_succ _
      · rw [List.mem_singleton.mp z]; exact Nat.le_refl _
    exact I1.fpOk hle (I1.hok.fresh hle)
/-! zip -/
/-- a list or a tuple -/
def SqX (K : PySem.W.Frag) (t : Bool) (H : Hp) (a : Addr) (xs : List V) : Prop := if t = true then SqT K H a xs else SqL K H a xs
def ItzM (K : PySem.W.Frag) (ta tb : Bool) (a b : Addr) : It :=
  ⟨fun i H => ∃ (xs ys : List V) (x y : V), SqX K ta H a xs ∧ SqX K tb H b ys ∧ xs[i]? = some x ∧ ys[i]? = some y,
    fun i H v H' => ∃ T x y, v = .ref T ∧ H T = none ∧ H' = upd H T (.tup [x, y]) ∧ (∀ xs, SqX K ta H a xs → xs[i]? = some x) ∧ ∀ ys, SqX K tb H b ys → ys[i]? = some y,
    fun i H => ∃ xs ys : List V, SqX K ta H a xs ∧ SqX K tb H b ys ∧ (xs.length ≤ i ∨ ys.length ≤ i)⟩
def iZipM (K : PySem.W.Frag) (ta : TA) : TI := fun σ H R => ta σ H fun vs H1 => ∃ t u a b xs ys, vs = [.ref a, .ref b] ∧ SqX K t H1 a xs ∧ SqX K u H1 b ys ∧ R (ItzM K t u a b) H1
def ItX (t : Bool) (h : Heap) (it a : Addr) (i : Nat) : Prop := if t = true then h.IsTupleIter it a i else h.IsListIter it a i
def SeX (t : Bool) (h : Heap) (a : Addr) (ws : Array Value) : Prop := if t = true then h.IsTuple a ws else h.IsList a ws
theorem ItX.at {t : Bool} {h h' : Heap} {it a : Addr} {i : Nat} (x : ItX t h it a i) (k : ∀ o, h.get? it = some o → h'.get? it = some o) : ItX t h' it a i := by
  cases t with
  | true => exact Heap.IsTupleIter.at x k
  | false => exact Heap.IsListIter.at x k
theorem ItX.obj {t : Bool} {h : Heap} {it a : Addr} {i : Nat} (x : ItX t h it a i) : ∃ o, h.get? it = some o ∧ ∀ v, o.data ≠ .cell v := by
  cases t with
  | true => obtain ⟨o, e, _, d⟩ := (show h.IsTupleIter it a i from x); exact ⟨o, e, fun v q => by rw [d] at q; cases q⟩
  | false => obtain ⟨o, e, _, d⟩ := (show h.IsListIter it a i from x); exact ⟨o, e, fun v q => by rw [d] at q; cases q⟩
theorem seX {X : Cx} {pins : List (Addr × Obj)} {σ : L2.St} {H : Hp} {s : Shared} {t : Bool} {a : Addr} {xs : List V} (I : L2.Inv X pins σ H s) (h : SqX X.K t H a xs) : ∃ ws : List Value, Vals xs ws ∧ SeX t s.heap a ws.toArray ∧ a < s.heap.objs.size := by
  cases t with
  | true => obtain ⟨ws, rv, pt, _⟩ := I.tuple h; obtain ⟨o, ho, _⟩ := id pt; exact ⟨ws, rv, pt, Heap.lt_size ho⟩
  | false => obtain ⟨ws, rv, pt, _⟩ := I.list h; exact ⟨ws, rv, pt.isList, pt.lt⟩
theorem sqX_inj {X : Cx} {pins : List (Addr × Obj)} {σ : L2.St} {H : Hp} {s : Shared} {t : Bool} {a : Addr} {xs ys : List V} (I : L2.Inv X pins σ H s) (h : SqX X.K t H a xs) (h' : SqX X.K t H a ys) : xs = ys := by
  cases t with
  | true => exact I.tuple_inj h h'
  | false => exact I.list_inj h h'
theorem drawX {prog : Program} {w : World} {A : Around} (hh : A.handled = none) (t : Bool) {it a : Addr} (hne : a ≠ it) (ws : Array Value) : Draws prog w A it [it, a] ws.size (fun i v => ws[i]? = some v) (fun i h => ItX t h it a i ∧ SeX t h a ws) := by
  cases t with
  | true => exact Draws.tuple hh it a hne ws
  | false => exact Draws.list hh it a hne ws
theorem begX (t : Bool) (a : Addr) (ws : Array Value) : ∃ o, Begins (.ref a) o (fun h => SeX t h a ws) ∧ ∀ (h : Heap) (it : Addr), h.get? it = some o → ItX t h it a 0 := by
  cases t with
  | true => exact ⟨_, begins_tuple a ws, fun h it e => ⟨_, e, rfl, rfl⟩⟩
  | false => exact ⟨_, begins_list a ws, fun h it e => ⟨_, e, rfl, rfl⟩⟩
theorem stuckX {prog : Program} {w : World} {A : Around} (hh : A.handled = none) (t : Bool) {it a : Addr} {ws : Array Value} {i : Nat} (hx : ws[i]? = none) (hat : a ≠ it) : Draws prog w A it [it, a] i (fun _ _ => True) (fun j h => j = i ∧ ItX t h it a i ∧ SeX t h a ws) := by
  cases t with
  | true => exact stuck_tuple hh hx hat
  | false => exact stuck_list hh hx hat
theorem sepOf {z TI TO i1 i2 a b : Addr} (D : ZipApart z TI TO i1 i2 a b) : ZipSep2 z TI TO i1 i2 [i1, a] [i2, b] := by
  obtain ⟨d1, d2, d3, d4, d5, d6, d7, d8, d9, d10, d11, d12, d13, d14, d15, d16, d17, d18⟩ := D
  refine ⟨d1, d2, d5, d6, by simp, ?_, ?_, d7, by simp, ?_, ?_, ?_, ?_⟩ <;> simp only [List.mem_cons, List.not_mem_nil, or_false, not_or] <;> constructor <;> first | assumption | (apply Ne.symm; assumption)
theorem turn_zipM {P : Program} {w : World} {K : PySem.W.Frag} {tes : List Expr} {m : Nat} {tp : Pos} {t u : Bool} {a b z TI TO i1 i2 : Addr} (D : ZipApart z TI TO i1 i2 a b) :
    Turn P w K (.Tuple tes m tp) (ItzM K t u a b) [z, TI, TO, i1, i2] z (fun i h => IsZip h z TI TO .none ∧ IsTupOf2 h TI (.ref i1) (.ref i2) ∧ (∃ x y, IsTupOf2 h TO x y) ∧ ItX t h i1 a i ∧ ItX u h i2 b i) where
  mem := List.mem_cons_self
  obj := fun i h ⟨hz, hTI, ⟨x, y, hTO⟩, h1, h2⟩ c hc => by
    have e' : c = z ∨ c = TI ∨ c = TO ∨ c = i1 ∨ c = i2 := by simpa using hc
    rcases e' with q | q | q | q | q <;> rw [q]
    · exact ⟨_, hz, fun v q => nomatch q⟩
    · exact ⟨_, hTI, fun v q => nomatch q⟩
    · exact ⟨_, hTO, fun v q => nomatch q⟩
    · exact h1.obj
    · exact h2.obj
  keep := fun i h h' ⟨hz, hTI, ⟨x, y, hTO⟩, h1, h2⟩ k => ⟨k z (by simp) _ hz, k TI (by simp) _ hTI, ⟨x, y, k TO (by simp) _ hTO⟩, h1.at fun o q => k i1 (by simp) o q, h2.at fun o q => k i2 (by simp) o q⟩
  item := by
    intro X hP hw hK hc i pins s σ H E I hf ⟨hz, hTI, ⟨x0, y0, hTO⟩, h1, h2⟩ ⟨xs, ys, x, y, hqx, hqy, hx, hy⟩
    subst hP hw hK
    obtain ⟨ws, rv, p1, _⟩ := seX I hqx
    obtain ⟨ws2, rv2, p2, _⟩ := seX I hqy
    obtain ⟨v1, hv1, ru⟩ := rv.get hx
    obtain ⟨v2, hv2, ru2⟩ := rv2.get hy
    have hzl : z < s.heap.objs.size := Heap.lt_size hz
    have l1 : i < ws.toArray.size := by simpa using (List.getElem?_eq_some_iff.mp hv1).1
    have l2 : i < ws2.toArray.size := by simpa using (List.getElem?_eq_some_iff.mp hv2).1
    refine wpAny_pyNext_zipD2_item (sepOf D) (drawX (A := X.A.in1) (I.ok.hd hc) t D.l1i1 ws.toArray) (drawX (A := X.A.in1) (I.ok.hd hc) u D.l2i2 ws2.toArray) hz hTI hTO ⟨h1, p1⟩ ⟨h2, p2⟩ l1 l2 fun x1 x2 h' tk e1 e2 z' TO' st1 st2 hT hsz hk => ?_
    have ex1 : x1 = v1 := by
      have e1 := e1
      simp only [List.getElem?_toArray] at e1
      rw [hv1] at e1
      exact (Option.some.inj e1).symm
    have ex2 : x2 = v2 := by
      have e2 := e2
      simp only [List.getElem?_toArray] at e2
      rw [hv2] at e2
      exact (Option.some.inj e2).symm
    subst ex1 ex2
    refine ⟨_, rfl, wpAny_letOwnedTupleGo_zip (s := { s with heap := h', toks := tk }) z' fun h3 z3 sb => ?_⟩
    have hT3 : h3.get? s.heap.objs.size = some { cls := .type "tuple", data := .seq #[x1, x2] } := (sb.2 _ (Nat.ne_of_gt hzl)).trans hT
    have new : ObjOk X.prog X.w (upd H s.heap.objs.size (.tup [x, y])) h3 s.heap.objs.size (.tup [x, y]) := ⟨by show 2 ≤ sizeLine; decide, [x1, x2], .cons ru (.cons ru2 .nil), ⟨_, hT3, rfl, _, rfl⟩⟩
    have I1 : L2.Inv X pins σ (upd H s.heap.objs.size (.tup [x, y])) { s with heap := h3, toks := tk } := I.turnedNew (ch := [z, TI, TO, i1, i2]) (fun c o hb q => (sb.2 c (fun w => hb (by simp [w]))).trans (hk c o (fun w => hb (by simp [w])) (fun w => hb (by simp [w])) (fun w => hb (by simp [w])) (fun w => hb (by simp [w])) q)) hf (Nat.le_refl _) new
    refine ⟨.ref s.heap.objs.size, _, I1, rfl, ⟨_, x, y, rfl, I.hok.fresh (Nat.le_refl _), rfl, fun l hl => by rw [sqX_inj I hl hqx]; exact hx, fun l hl => by rw [sqX_inj I hl hqy]; exact hy⟩, ⟨z3, (sb.2 _ D.TIz).trans (hk _ _ D.TIz D.TITO D.TIi1 D.TIi2 hTI), ⟨x1, x2, (sb.2 _ D.TOz).trans TO'⟩, st1.1.at fun o q => (sb.2 _ D.i1z).trans q, st2.1.at fun o q => (sb.2 _ D.i2z).trans q⟩, fun c hcm => ?_⟩
    have hlt : c < s.heap.objs.size := by
      have e' : c = z ∨ c = TI ∨ c = TO ∨ c = i1 ∨ c = i2 := by simpa using hcm
      rcases e' with q | q | q | q | q <;> rw [q]
      · exact hzl
      · exact Heap.lt_size hTI
      · exact Heap.lt_size hTO
      · obtain ⟨_, e, _⟩ := h1.obj; exact Heap.lt_size e
      · obtain ⟨_, e, _⟩ := h2.obj; exact Heap.lt_size e
    rw [upd_ne (Nat.ne_of_lt hlt)]
    exact (hf c hcm).1
  done := by
    intro X hP hw hK hc i pins s σ H E I hf ⟨hz, hTI, ⟨x0, y0, hTO⟩, h1, h2⟩ ⟨xs, ys, hqx, hqy, hend⟩
    subst hP hw hK
    obtain ⟨ws, rv, p1, _⟩ := seX I hqx
    obtain ⟨ws2, rv2, p2, _⟩ := seX I hqy
    have n1 := rv.length
    have n2 := rv2.length
    have fin : ∀ h' tk, (∀ c o, c ≠ z → c ≠ TO → c ≠ i1 → c ≠ i2 → s.heap.get? c = some o → h'.get? c = some o) → (none : Option Value) = none ∧ L2.Inv X pins σ H { s with heap := h', toks := tk } := fun h' tk hk =>
      ⟨rfl, I.turnedL (t' := tk) (ch := [z, TI, TO, i1, i2]) (fun c o hb q => hk c o (fun w => hb (by simp [w])) (fun w => hb (by simp [w])) (fun w => hb (by simp [w])) (fun w => hb (by simp [w])) q) hf⟩
    have go : ∀ {nn mm : Nat} {P1 P2 : Nat → Value → Prop} {S1 S2 : Nat → Heap → Prop} (_ : Draws X.prog X.w X.A.in1 i1 [i1, a] nn P1 S1) (_ : Draws X.prog X.w X.A.in1 i2 [i2, b] mm P2 S2) (_ : S1 i s.heap) (_ : S2 i s.heap) (_ : i ≤ nn) (_ : i ≤ mm) (_ : i = nn ∨ i = mm),
        wpAny (model X.prog X.w) X.A (pyNext (.ref z)) (fun r s1 => r = none ∧ L2.Inv X pins σ H s1) E s := fun D1 D2 s1 s2 a1 a2 a3 => wpAny_pyNext_zipD2_end (sepOf D) D1 D2 hz hTI hTO s1 s2 a1 a2 a3 fin
    have dA := drawX (prog := X.prog) (w := X.w) (A := X.A.in1) (I.ok.hd hc) t D.l1i1 ws.toArray
    have dB := drawX (prog := X.prog) (w := X.w) (A := X.A.in1) (I.ok.hd hc) u D.l2i2 ws2.toArray
    by_cases c1 : i < ws.length
    · have kB := stuckX (prog := X.prog) (w := X.w) (A := X.A.in1) (I.ok.hd hc) u (i := i) (ws := ws2.toArray) (by simp; omega) D.l2i2
      exact go dA kB ⟨h1, p1⟩ ⟨rfl, h2, p2⟩ (by simp; omega) (Nat.le_refl _) (.inr rfl)
    · have kA := stuckX (prog := X.prog) (w := X.w) (A := X.A.in1) (I.ok.hd hc) t (i := i) (ws := ws.toArray) (by simp; omega) D.l1i1
      by_cases c2 : i < ws2.length
      · exact go kA dB ⟨rfl, h1, p1⟩ ⟨h2, p2⟩ (Nat.le_refl _) (by simp; omega) (.inl rfl)
      · have kB := stuckX (prog := X.prog) (w := X.w) (A := X.A.in1) (I.ok.hd hc) u (i := i) (ws := ws2.toArray) (by simp; omega) D.l2i2
        exact go kA kB ⟨rfl, h1, p1⟩ ⟨rfl, h2, p2⟩ (Nat.le_refl _) (Nat.le_refl _) (.inl rfl)
  self := fun A i s Q E ⟨hz, _⟩ h => wpAny_pyIter_zip hz h
theorem pi_zipM {X : Cx} {e e2 : Expr} {ta : TA} {p pos tpos : Pos} {elts : List Expr} {kk : Nat} (hg : Gl X "zip") (hm : X.mg "zip" = none) (ha : PA X [e, e2] ta)
    (hs : starEach [e, e2] X.env = (false, eval e X.env) :: starEach [e2] X.env := by rfl) (hpl : (backTo pos (starEach [e2] X.env)).any (·.1) = false := by rfl) :
    PI X (.Tuple elts kk tpos) (.Call (.Name "zip" p) [e, e2] [] pos) (iZipM X.K ta) := by
  refine ⟨fun pins s σ H R I h => Call_ (ld_blt I hg hm PyProof.Rows.boot_zip (PyProof.Rows.callWith_type1 (thn (ha.run pos pins s σ H _ I h) fun us s1 hh => ?_) hs hpl))⟩
  obtain ⟨vs, H1, I1, r1, t, u, a, b, xs, ys, rfl, hqx, hqy, q⟩ := hh
  cases r1 with
  | cons r rr =>
    cases rr with
    | cons r' rr =>
      cases rr
      cases r
      cases r'
      obtain ⟨ws, rv, p1, la⟩ := seX I1 hqx
      obtain ⟨ws2, rv2, p2, lb⟩ := seX I1 hqy
      obtain ⟨o1, B1, k1⟩ := begX t a ws.toArray
      obtain ⟨o2, B2, k2⟩ := begX u b ws2.toArray
      refine zip_begins2 B1 B2 p1 p2 fun h' hz hTI hTO e1 e2 hsz hk => wpAny_pyIter_zip hz ?_
      refine ⟨s1.heap.objs.size + 4, [s1.heap.objs.size + 4, s1.heap.objs.size + 2, s1.heap.objs.size + 3, s1.heap.objs.size, s1.heap.objs.size + 1], _, _, H1, rfl, I1.kept (t' := s1.toks) hk, turn_zipM (PySem.W.ktu_apart s1.heap.objs.size a b la lb), ⟨hz, hTI, ⟨_, _, hTO⟩, k1 _ _ e1, k2 _ _ e2⟩, fun c hc => ?_, q⟩
      have hle : s1.heap.objs.size ≤ c := by
        have e' : c = s1.heap.objs.size + 4 ∨ c = s1.heap.objs.size + 2 ∨ c = s1.heap.objs.size + 3 ∨ c = s1.heap.objs.size ∨ c = s1.heap.objs.size + 1 := by simpa using hc
        rcases e' with q | q | q | q | q <;> rw [q] <;> first | exact Nat.le_refl _ | exact Nat.le_add_right _ _
      exact I1.fpOk hle (I1.hok.fresh hle)
end MP
end

section
set_option Elab.async false
set_option linter.all false
set_option maxRecDepth 100000
/-! MpN: the texts that are walked. -/
namespace MP
open PySem PySem.Spec PyProof.Rows L2
section
variable {T : Tab} {N : List Str} {Γ : Ctx} {k : Nat} {X : Cx} {W : WX} {sc : Scope} {x y z : Ex} {a b c e tg : Expr} {xs : List Ex} {es : List Expr} {pos p apos tpos : Pos}
theorem RowT.iwe {K : PySem.W.Frag} {κ : List Addr} {S0 : Sto} {H0 : Hp} {ι0 : List Addr} {xs : List D} {a : Addr} {g : Option Nat} (h : RowT T K κ H0 ι0 xs a) : IW T K κ S0 H0 ι0 (enumD 0 xs, g) (IteT K a) := by
  intro κ' H ι S hκ e w hg i
  obtain ⟨vs, h1, h2⟩ := h κ' H ι S hκ e w
  have hl := RepL.length h2
  have hl2 : (enumD 0 xs).length = xs.length := enumD_length xs 0
  refine ⟨fun hi => ?_, fun hi => ?_⟩
  · have hi : i < xs.length := by rw [← hl2]; exact hi
    refine ⟨⟨vs, vs[i]'(by omega), h1, by simp⟩, fun x H' ⟨q, y, hv, hq, hH, hy⟩ => ?_⟩
    obtain ⟨u, hu, ru⟩ := RepL.get h2 (List.getElem?_eq_getElem hi)
    have : y = u := Option.some.inj ((hy vs h1).symm.trans hu)
    subst this hv hH
    obtain ⟨e1, w1, r1⟩ := pair_new (d := .int (i : Nat)) (x := .int (i : Nat)) w hq (by simp only [Rep]) ru
    refine ⟨e1, w1, _, ?_, r1⟩
    show (enumD 0 xs)[i]? = _
    rw [enumD_get, List.getElem?_eq_getElem hi]
    simp
  · have hi : i = (enumD 0 xs).length := hi
    exact ⟨vs, h1, by omega⟩
theorem PostI.of {K : PySem.W.Frag} {κ : List Addr} {σ : L2.St} {H : Hp} {ι : List Addr} {S : Sto} {o : Option (List D × Option Nat)} {Q : It → Hp → Prop} (h : PostI T K κ W σ H ι (R.of o S) Q) : ∃ p, o = some p ∧ PostI T K κ W σ H ι (.ok p S) Q := by
  cases o with
  | none => exact h.elim
  | some d => exact ⟨d, rfl, h⟩
/-- an argument list of one -/
theorem tA1 {x : Ex} {σ : L2.St} {H : Hp} {Q : List V → Hp → Prop} (h : tE T X.K W Γ x σ H fun v H1 => Q [v] H1) : tA T X.K W Γ [x] σ H Q := by
  obtain ⟨ι, κ, S, ρ, w, en, p⟩ := h
  refine ⟨ι, κ, S, ρ, w, en, ?_⟩
  simp only [evL, R.bind]
  cases hy : evE Γ x ρ S with
  | no => rw [hy] at p; exact p
  | exc C fs S2 => rw [hy] at p; exact p
  | ok d2 S2 =>
    rw [hy] at p
    intro vs H' ι' e' w' q
    have q : RepL X.K H' ι' κ [d2] vs := q
    obtain ⟨u, rfl, hu⟩ := RepL.one q
    exact p u H' ι' e' w' hu
theorem star1 {env : PySem.Env} (h : plainE a = true) : starEach [a] env = [(false, eval a env)] := star_plain h
/-- any exception or none -/
theorem i_itv (ha : Snd T X W Γ x a) : PI X tg a (tI T X.K W Γ (.itv x)) := by
  refine PI.some fun σ H Rk ⟨ι, κ, S, ρ, w, en, p⟩ => ?_
  simp only [evI] at p
  cases hx : evE Γ x ρ S with
  | no => rw [hx] at p; exact p.elim
  | exc C fs S1 => rw [hx] at p; exact ⟨_, pi_list ha.pe, ι, κ, S, ρ, w, en, by rw [hx]; exact p⟩
  | ok d S1 =>
    have key : ∀ {Q1 : V → Hp → Prop}, (∀ v H1 ι1, Ext H ι H1 ι1 → Wd T X.K H1 ι1 κ S1 → Rep X.K H1 ι1 κ d v → PostI T X.K κ W σ H1 ι1 (R.of (itemsOf d S1) S1) Rk → Q1 v H1) → tE T X.K W Γ x σ H Q1 := fun {Q1} f =>
      ⟨ι, κ, S, ρ, w, en, PostI.bind p fun d' S1' v H1 ι1 he e1 w1 r1 p1 => by rw [hx] at he; cases he; exact f v H1 ι1 e1 w1 r1 p1⟩
    cases d with
    | str z => exact ⟨_, pi_str ha.pe, key fun v H1 ι1 e1 w1 r1 p1 => by
        simp only [Rep] at r1
        exact ⟨z, r1.1, PostI.val p1 w1 (iw_str r1.2)⟩⟩
    | dic kvs => exact ⟨_, pi_keys ha.pe, key fun v H1 ι1 e1 w1 r1 p1 => by
        obtain ⟨ad, o, vs, rfl, h1, h2⟩ := dic_row w1 r1
        exact ⟨ad, o, rfl, .inl ⟨vs, h1, PostI.val p1 w1 (iw_keys h2)⟩⟩⟩
    | tup ds => exact ⟨_, pi_tup ha.pe, key fun v H1 ι1 e1 w1 r1 p1 => by
        simp only [Rep] at r1
        obtain ⟨ad, vs, rfl, h1, h2⟩ := r1
        exact ⟨ad, rfl, ⟨vs, h1⟩, PostI.val p1 w1 (RowT.iw fun κ' H ι S hκ e w' => ⟨vs, e.rdT w1.mut h1, RepL.mono e w1.mut hκ h2⟩)⟩⟩
    | _ => exact ⟨_, pi_list ha.pe, key fun v H1 ι1 e1 w1 r1 p1 => by
        obtain ⟨q, hq, p2⟩ := PostI.of p1
        obtain ⟨xs, g⟩ := q
        rcases row_of w1 r1 hq with ⟨_, h⟩ | ⟨_, h⟩ | ⟨ad, rfl, h | ⟨_, _, h⟩⟩
        · cases h
        · cases h
        · obtain ⟨vs, h1, _⟩ := h κ H1 ι1 S1 (fun _ z => .inl z) Ext.refl w1 (by cases g <;> simp [held])
          exact ⟨ad, rfl, ⟨vs, h1⟩, PostI.val p2 w1 h.iw⟩
        · cases h⟩
theorem i_rg1 (g : Gd T N Γ k X W sc) (hg : glB sc "range" = true) (ha : Snd T X W Γ x a) : PI X tg (.Call (.Name "range" p) [a] [] pos) (tI T X.K W Γ (.rg1 x)) := by
  refine PI.wk (pi_range1 (g.gl hg) (g.glo.blt _ (by decide)) (SndL.cons ha .nil).pa (star1 ha.pl)) fun σ H R ⟨ι, κ, S, ρ, w, en, p⟩ => ?_
  simp only [evI] at p
  refine tA1 ⟨ι, κ, S, ρ, w, en, PostI.bind p fun d S1 v H1 ι1 hq1 e1 w1 r1 p1 => ?_⟩
  split at p1
  · rename_i j
    have r1 : Rep X.K H1 ι1 κ (.int j) v := r1
    simp only [Rep] at r1
    split at p1
    · rename_i hj
      unfold SMALL at hj
      exact ⟨j, by rw [r1], by omega, by omega, PostI.val p1 w1 iw_range⟩
    · exact p1.elim
  · exact p1.elim
theorem tA2 {x y : Ex} {σ : L2.St} {H : Hp} {Q : List V → Hp → Prop} (h : tE T X.K W Γ x σ H fun v H1 => tE T X.K W Γ y σ H1 fun u H2 => Q [v, u] H2) : tCons (tE T X.K W Γ x) (tCons (tE T X.K W Γ y) tNil) σ H Q := h
theorem i_rg2 (g : Gd T N Γ k X W sc) (hg : glB sc "range" = true) (ha : Snd T X W Γ x a) (hb : Snd T X W Γ y b) : PI X tg (.Call (.Name "range" p) [a, b] [] pos) (tI T X.K W Γ (.rg2 x y)) := by
  refine PI.wk (pi_range2 (g.gl hg) (g.glo.blt _ (by decide)) (pa_cons ha.pe (pa_cons hb.pe pa_nil (star_plain hb.pl)) (star_plain ha.pl)) (by rw [star_plain ha.pl, star1 hb.pl]) (star1 hb.pl)) fun σ H R ⟨ι, κ, S, ρ, w, en, p⟩ => ?_
  simp only [evI] at p
  refine ⟨ι, κ, S, ρ, w, en, PostI.bind p fun d S1 v H1 ι1 hq1 e1 w1 r1 p1 => ⟨ι1, κ, S1, ρ, w1, en.up e1 w, PostI.bind p1 fun d2 S2 u H2 ι2 hq2 e2 w2 r2 p2 => ?_⟩⟩
  split at p2
  · rename_i i j
    have r1 : Rep X.K H1 ι1 κ (.int i) v := r1
    have r2 : Rep X.K H2 ι2 κ (.int j) u := r2
    simp only [Rep] at r1 r2
    split at p2
    · rename_i hj
      unfold SMALL at hj
      exact ⟨i, j, by rw [r1, r2], ⟨by omega, by omega, by omega, by omega⟩, PostI.val p2 w2 iw_range⟩
    · exact p2.elim
  · exact p2.elim
theorem i_rg3 (g : Gd T N Γ k X W sc) (hg : glB sc "range" = true) (ha : Snd T X W Γ x a) (hb : Snd T X W Γ y b) (hc : Snd T X W Γ z c) : PI X tg (.Call (.Name "range" p) [a, b, c] [] pos) (tI T X.K W Γ (.rg3 x y z)) := by
  have hp : PA X [a, b, c] (tCons (tE T X.K W Γ x) (tCons (tE T X.K W Γ y) (tCons (tE T X.K W Γ z) tNil))) := pa_cons ha.pe (pa_cons hb.pe (pa_cons hc.pe pa_nil (star_plain hc.pl)) (star_plain hb.pl)) (star_plain ha.pl)
  refine PI.wk (pi_range3 (g.gl hg) (g.glo.blt _ (by decide)) hp (star_plain ha.pl) (back_plain (by simp [hb.pl, hc.pl]))) fun σ H R ⟨ι, κ, S, ρ, w, en, p⟩ => ?_
  simp only [evI] at p
  refine ⟨ι, κ, S, ρ, w, en, PostI.bind p fun d S1 v H1 ι1 hq1 e1 w1 r1 p1 => ⟨ι1, κ, S1, ρ, w1, en.up e1 w, PostI.bind p1 fun d2 S2 u H2 ι2 hq2 e2 w2 r2 p2 => ⟨ι2, κ, S2, ρ, w2, (en.up e1 w).up e2 w1, PostI.bind p2 fun d3 S3 u3 H3 ι3 hq3 e3 w3 r3 p3 => ?_⟩⟩⟩
  split at p3
  · rename_i i j l
    have r1 : Rep X.K H1 ι1 κ (.int i) v := r1
    have r2 : Rep X.K H2 ι2 κ (.int j) u := r2
    have r3 : Rep X.K H3 ι3 κ (.int l) u3 := r3
    simp only [Rep] at r1 r2 r3
    split at p3
    · rename_i hj
      unfold SMALL at hj
      obtain ⟨_, _, _, _, rfl⟩ := hj
      exact ⟨i, j, -1, (i - j).toNat, by rw [r1, r2, r3], RgC.neg (by omega) (by omega) (by omega) (by omega), PostI.val p3 w3 iw_rangeC⟩
    · exact p3.elim
  · exact p3.elim
/-- by the value that comes -/
theorem one_case {x : Ex} {F : D → Sto → Option (List D × Option Nat)} {σ : L2.St} {H : Hp} {ι κ : List Addr} {S : Sto} {ρ : Env} {Rk : It → Hp → Prop} {P : Prop} (w : Wd T X.K H ι κ S) (en : EnvR X.K H ι κ σ ρ)
    (pp : PostI T X.K κ W σ H ι ((evE Γ x ρ S).bind fun x S => R.of (F x S) S) Rk) (he : (∀ Q1 : V → Hp → Prop, tE T X.K W Γ x σ H Q1) → P)
    (hk : ∀ d S1 q, F d S1 = some q → (∀ Q1 : V → Hp → Prop, (∀ v H1 ι1, Wd T X.K H1 ι1 κ S1 → Rep X.K H1 ι1 κ d v → (∀ J, IW T X.K κ S1 H1 ι1 q J → Rk J H1) → Q1 v H1) → tE T X.K W Γ x σ H Q1) → P) : P := by
  cases hx : evE Γ x ρ S with
  | no => rw [hx] at pp; exact pp.elim
  | exc C fs S1 =>
    rw [hx] at pp
    exact he fun Q1 => ⟨ι, κ, S, ρ, w, en, by rw [hx]; exact pp⟩
  | ok d S1 =>
    have pp' := pp
    rw [hx] at pp'
    obtain ⟨q, hq, _⟩ := PostI.of (show PostI T X.K κ W σ H ι (R.of (F d S1) S1) Rk from pp')
    refine hk d S1 q hq fun Q1 f => ⟨ι, κ, S, ρ, w, en, PostI.bind pp fun d' S1' v H1 ι1 he e1 w1 r1 p1 => ?_⟩
    rw [hx] at he
    cases he
    refine f v H1 ι1 w1 r1 fun J hJ => ?_
    have p1 : PostI T X.K κ W σ H1 ι1 (R.of (F d S1) S1) Rk := p1
    rw [hq] at p1
    exact PostI.val p1 w1 hJ
theorem i_enm (g : Gd T N Γ k X W sc) {tes : List Expr} {kk : Nat} (hg : glB sc "enumerate" = true) (ha : Snd T X W Γ x a) : PI X (.Tuple tes kk tpos) (.Call (.Name "enumerate" p) [a] [] pos) (tI T X.K W Γ (.enm x)) := by
  refine PI.some fun σ H Rk ⟨ι, κ, S, ρ, w, en, pp⟩ => ?_
  simp only [evI] at pp
  have hL := pi_enum (tpos := tpos) (elts := tes) (kk := kk) (p := p) (pos := pos) (g.gl hg) (g.glo.blt _ (by decide)) (SndL.cons ha .nil).pa (star1 ha.pl)
  have hT := pi_enumT (tpos := tpos) (elts := tes) (kk := kk) (p := p) (pos := pos) (g.gl hg) (g.glo.blt _ (by decide)) (SndL.cons ha .nil).pa (star1 ha.pl)
  refine one_case w en pp (fun h => ⟨_, hL, tA1 (h _)⟩) fun d S1 q hq key => ?_
  have gen : (∀ z, d ≠ .str z) → (∀ z, d ≠ .dic z) → (∀ z, d ≠ .tup z) → enmD d S1 = (itemsOf d S1).map (fun p => (enumD 0 p.1, p.2)) → ∃ t, PI X (.Tuple tes kk tpos) (.Call (.Name "enumerate" p) [a] [] pos) t ∧ t σ H Rk := fun n1 n2 n3 he => by
    rw [he] at hq
    obtain ⟨⟨xs, g'⟩, h1, h2⟩ := Option.map_eq_some_iff.mp hq
    refine ⟨_, hL, tA1 (key _ fun v H1 ι1 w1 r1 f => ?_)⟩
    rcases row_of w1 r1 h1 with ⟨_, h⟩ | ⟨_, h⟩ | ⟨ad, rfl, h | ⟨_, _, h⟩⟩
    · exact absurd h (n1 _)
    · exact absurd h (n2 _)
    · obtain ⟨vs, h3, _⟩ := h κ H1 ι1 S1 (fun _ z => .inl z) Ext.refl w1 (by cases g' <;> simp [held])
      exact ⟨ad, vs, rfl, h3, f _ (by rw [← h2]; exact h.iwe)⟩
    · exact absurd h (n3 _)
  cases d with
  | tup ds =>
    refine ⟨_, hT, tA1 (key _ fun v H1 ι1 w1 r1 f => ?_)⟩
    simp only [Rep] at r1
    obtain ⟨ad, vs, rfl, h1, h2⟩ := r1
    have : q = (enumD 0 ds, none) := (Option.some.inj hq).symm
    exact ⟨ad, vs, rfl, h1, f _ (by rw [this]; exact RowT.iwe fun κ' H ι S hκ e w' => ⟨vs, e.rdT w1.mut h1, RepL.mono e w1.mut hκ h2⟩)⟩
  | str z => cases hq
  | dic z => cases hq
  | _ => exact gen (by intro z h; cases h) (by intro z h; cases h) (by intro z h; cases h) rfl
theorem i_itm {tes : List Expr} {kk : Nat} (ha : Snd T X W Γ x a) (hb : call0E a = false) (hl : (apos.endLine == pos.line) = true) : PI X (.Tuple tes kk tpos) (.Call (.Attribute a "items" apos) [] [] pos) (tI T X.K W Γ (.itm x)) := by
  refine PI.some fun σ H Rk ⟨ι, κ, S, ρ, w, en, pp⟩ => ?_
  simp only [evI] at pp
  have hL := pi_items (tpos := tpos) (elts := tes) (kk := kk) ha.pe (base_plain hb) hl
  refine one_case (F := fun x _ => itmD x) w en pp (fun h => ⟨_, hL, h _⟩) fun d S1 q hq key => ?_
  cases d with
  | dic kvs =>
    refine ⟨_, hL, key _ fun v H1 ι1 w1 r1 f => ?_⟩
    obtain ⟨ad, o, vs, rfl, h1, h2⟩ := dic_row w1 r1
    have : q = (kvs.map fun kv => .tup [kv.1.d, kv.2], none) := (Option.some.inj hq).symm
    exact ⟨ad, o, vs, rfl, h1, f _ (by rw [this]; exact iw_items h2)⟩
  | _ => cases hq
theorem i_vls (ha : Snd T X W Γ x a) (hb : call0E a = false) (hl : (apos.endLine == pos.line) = true) : PI X tg (.Call (.Attribute a "values" apos) [] [] pos) (tI T X.K W Γ (.vls x)) := by
  refine PI.some fun σ H Rk ⟨ι, κ, S, ρ, w, en, pp⟩ => ?_
  simp only [evI] at pp
  have hL := pi_values (tg := tg) ha.pe (base_plain hb) hl
  refine one_case (F := fun x _ => vlsD x) w en pp (fun h => ⟨_, hL, h _⟩) fun d S1 q hq key => ?_
  cases d with
  | dic kvs =>
    refine ⟨_, hL, key _ fun v H1 ι1 w1 r1 f => ?_⟩
    obtain ⟨ad, o, vs, rfl, h1, h2⟩ := dic_row w1 r1
    have : q = (kvs.map fun kv => kv.2, none) := (Option.some.inj hq).symm
    exact ⟨ad, o, vs, rfl, h1, f _ (by rw [this]; exact iw_vals h2)⟩
  | _ => cases hq
theorem i_rvd (g : Gd T N Γ k X W sc) (hg : glB sc "reversed" = true) (ha : Snd T X W Γ x a) : PI X tg (.Call (.Name "reversed" p) [a] [] pos) (tI T X.K W Γ (.rvd x)) := by
  refine PI.some fun σ H Rk ⟨ι, κ, S, ρ, w, en, pp⟩ => ?_
  simp only [evI] at pp
  have hL := RT.pi_revA (tg := tg) (p := p) (pos := pos) (g.gl hg) (g.glo.blt _ (by decide)) ha.pe (star_plain ha.pl)
  refine one_case (F := fun x _ => rvdD x) w en pp (fun h => ⟨_, hL, h _⟩) fun d S1 q hq key => ?_
  cases d with
  | tup ds =>
    refine ⟨_, hL, key _ fun v H1 ι1 w1 r1 f => ?_⟩
    simp only [Rep] at r1
    obtain ⟨ad, vs, rfl, h1, h2⟩ := r1
    have : q = (ds.reverse, none) := (Option.some.inj hq).symm
    exact ⟨ad, vs, rfl, .inr ⟨h1, f _ (by rw [this, ← RepL.length h2]; exact RowT.iwr fun κ' H ι S hκ e w' => ⟨vs, e.rdT w1.mut h1, RepL.mono e w1.mut hκ h2⟩)⟩⟩
  | lst ds =>
    refine ⟨_, hL, key _ fun v H1 ι1 w1 r1 f => ?_⟩
    simp only [Rep] at r1
    obtain ⟨ad, vs, rfl, h1, hn, hk, h2⟩ := r1
    have : q = (ds.reverse, none) := (Option.some.inj hq).symm
    exact ⟨ad, vs, rfl, .inl ⟨.of h1, f _ (by rw [this, ← RepL.length h2]; exact RowL.iwr fun κ' H ι S hκ e w' _ => ⟨vs, .of (e.keep _ _ hn h1), RepL.mono e w1.mut hκ h2⟩)⟩⟩
  | rol ns =>
    refine ⟨_, hL, key _ fun v H1 ι1 w1 r1 f => ?_⟩
    obtain ⟨ad, rfl, h⟩ := rol_row w1.mut r1
    have : q = ((ns.map D.int).reverse, none) := (Option.some.inj hq).symm
    exact ⟨ad, _, rfl, .inl ⟨h _ _ Ext.refl, f _ (by rw [this, List.length_map, ← List.length_map (f := D.int)]; exact RowL.iwr fun κ' H ι S hκ e w' _ => ⟨_, h H ι e, RepL.ints ns⟩)⟩⟩
  | _ => cases hq
/-! zip -/
def RowX (T : Tab) (K : PySem.W.Frag) (t : Bool) (κ : List Addr) (H0 : Hp) (ι0 : List Addr) (xs : List D) (a : Addr) : Prop :=
  ∀ κ' H ι S, (∀ a ∈ κ', a ∈ κ ∨ H0 a = none) → Ext H0 ι0 H ι → Wd T K H ι κ' S → ∃ vs, SqX K t H a vs ∧ RepL K H ι κ' xs vs
theorem RowX.iwz {K : PySem.W.Frag} {κ : List Addr} {S0 : Sto} {H0 : Hp} {ι0 : List Addr} {xs ys : List D} {a b : Addr} {t u : Bool} (h : RowX T K t κ H0 ι0 xs a) (h' : RowX T K u κ H0 ι0 ys b) : IW T K κ S0 H0 ι0 (zipD xs ys, none) (ItzM K t u a b) := by
  intro κ' H ι S hκ e w hg i
  obtain ⟨vs, h1, h2⟩ := h κ' H ι S hκ e w
  obtain ⟨us, h3, h4⟩ := h' κ' H ι S hκ e w
  have hl := RepL.length h2
  have hl' := RepL.length h4
  have hz := zipD_length xs ys
  refine ⟨fun hi => ?_, fun hi => ?_⟩
  · have hi : i < (zipD xs ys).length := hi
    have hi1 : i < xs.length := by omega
    have hi2 : i < ys.length := by omega
    refine ⟨⟨vs, us, vs[i]'(by omega), us[i]'(by omega), h1, h3, by simp, by simp⟩, fun x H' ⟨q, y, z, hv, hq, hH, hy, hy'⟩ => ?_⟩
    obtain ⟨u, hu, ru⟩ := RepL.get h2 (List.getElem?_eq_getElem hi1)
    obtain ⟨u', hu', ru'⟩ := RepL.get h4 (List.getElem?_eq_getElem hi2)
    have e1 : y = u := Option.some.inj ((hy vs h1).symm.trans hu)
    have e2 : z = u' := Option.some.inj ((hy' us h3).symm.trans hu')
    subst e1 e2 hv hH
    obtain ⟨e1, w1, r1⟩ := pair_new w hq ru ru'
    refine ⟨e1, w1, _, ?_, r1⟩
    show (zipD xs ys)[i]? = _
    rw [zipD_get, List.getElem?_eq_getElem hi1, List.getElem?_eq_getElem hi2]
  · have hi : i = (zipD xs ys).length := hi
    exact ⟨vs, us, h1, h3, by omega⟩
def stT : D → Bool
  | .tup _ => true
  | _ => false
theorem still_row {K : PySem.W.Frag} {κ : List Addr} {H0 : Hp} {ι0 : List Addr} {S0 : Sto} {d : D} {v : V} {xs : List D} (w : Wd T K H0 ι0 κ S0) (r : Rep K H0 ι0 κ d v) (e : stillOf d = some xs) : ∃ a, v = .ref a ∧ RowX T K (stT d) κ H0 ι0 xs a := by
  cases d with
  | tup ds => cases e; simp only [Rep] at r; obtain ⟨a, vs, rfl, h1, h2⟩ := r; exact ⟨a, rfl, fun κ' H ι S hκ e w' => ⟨vs, (show SqX K true H a vs from e.rdT w.mut h1), RepL.mono e w.mut hκ h2⟩⟩
  | lst ds => cases e; simp only [Rep] at r; obtain ⟨a, vs, rfl, h1, hn, hk, h2⟩ := r; exact ⟨a, rfl, fun κ' H ι S hκ e w' => ⟨vs, by exact .of (e.keep _ _ hn h1), RepL.mono e w.mut hκ h2⟩⟩
  | rol ns => cases e; obtain ⟨a, rfl, h⟩ := rol_row w.mut r; exact ⟨a, rfl, fun κ' H ι S hκ e w' => ⟨_, by exact h H ι e, RepL.ints ns⟩⟩
  | _ => cases e
theorem RowX.up {K : PySem.W.Frag} {t : Bool} {κ : List Addr} {H0 H1 : Hp} {ι0 ι1 : List Addr} {S1 : Sto} {xs : List D} {a : Addr} (h : RowX T K t κ H0 ι0 xs a) (e : Ext H0 ι0 H1 ι1) (w : Wd T K H1 ι1 κ S1) : RowX T K t κ H1 ι1 xs a := fun κ' H ι S hκ e' w' =>
  h κ' H ι S (fun a z => (hκ a z).elim .inl fun q => .inr (Ext.none e w.mut q)) (e.trans e') w'
theorem i_zp (g : Gd T N Γ k X W sc) {tes : List Expr} {kk : Nat} (hg : glB sc "zip" = true) (ha : Snd T X W Γ x a) (hb : Snd T X W Γ y b) : PI X (.Tuple tes kk tpos) (.Call (.Name "zip" p) [a, b] [] pos) (tI T X.K W Γ (.zp x y)) := by
  refine PI.wk (pi_zipM (tpos := tpos) (elts := tes) (kk := kk) (p := p) (pos := pos) (g.gl hg) (g.glo.blt _ (by decide)) (pa_cons ha.pe (pa_cons hb.pe pa_nil (star_plain hb.pl)) (star_plain ha.pl)) (star_plain ha.pl) (back_plain (by simp [hb.pl]))) fun σ H Rk ⟨ι, κ, S, ρ, w, en, pp⟩ => ?_
  simp only [evI] at pp
  refine ⟨ι, κ, S, ρ, w, en, PostI.bind pp fun d S1 v H1 ι1 hq1 e1 w1 r1 p1 => ⟨ι1, κ, S1, ρ, w1, en.up e1 w, PostI.bind p1 fun d2 S2 u H2 ι2 hq2 e2 w2 r2 p2 => ?_⟩⟩
  obtain ⟨q, hq, p3⟩ := PostI.of p2
  unfold zpD at hq
  split at hq
  · rename_i xs ys h1 h2
    cases hq
    obtain ⟨a1, rfl, k1⟩ := still_row w1 r1 h1
    obtain ⟨a2, rfl, k2⟩ := still_row w2 r2 h2
    have k1 := k1.up e2 w2
    obtain ⟨vs, h3, _⟩ := k1 κ H2 ι2 S2 (fun _ z => .inl z) Ext.refl w2
    obtain ⟨us, h4, _⟩ := k2 κ H2 ι2 S2 (fun _ z => .inl z) Ext.refl w2
    exact ⟨_, _, a1, a2, vs, us, rfl, h3, h4, PostI.val p3 w2 (k1.iwz k2)⟩
  · cases hq
end
end MP
end

section
set_option Elab.async false
set_option linter.all false
set_option maxRecDepth 100000
/-! MpN2: x[::-1], a list or a tuple. -/
namespace MP
open PySem PySem.Spec PyProof.Rows L2
theorem adj_rev (n : Nat) : Builtin.Slice.sliceAdjust none none (-1) (n : Int) = ((n : Int) - 1, -1) := by
  unfold Builtin.Slice.sliceAdjust
  simp
theorem places_rev (n : Nat) : Builtin.Slice.slicePlaces ((n : Int) - 1) (-1) (-1) = n := by
  unfold Builtin.Slice.slicePlaces
  rw [if_neg (by decide)]
  split
  · simp
  · simp; omega
theorem fm_map {α β : Type} {f : α → Option β} {g : α → β} : ∀ {l : List α}, (∀ m ∈ l, f m = some (g m)) → l.filterMap f = l.map g
  | [], _ => rfl
  | x :: l, h => by
    rw [List.filterMap_cons, h x List.mem_cons_self, List.map_cons, fm_map fun m hm => h m (List.mem_cons_of_mem _ hm)]
theorem pick_rev (ws : List Value) : ((List.range ws.length).filterMap fun (m : Nat) => ws.toArray[(((ws.length : Nat) : Int) - 1 + (m : Int) * (-1)).toNat]?) = ws.reverse := by
  rw [fm_map (g := fun m => ws[ws.length - 1 - m]?.getD .none)]
  · refine List.ext_getElem (by simp) fun i h1 h2 => ?_
    have hi : i < ws.length := by simpa using h1
    simp only [List.getElem_map, List.getElem_range, List.getElem_reverse]
    rw [List.getElem?_eq_getElem (show ws.length - 1 - i < ws.length by omega)]
    rfl
  · intro m hm
    have hm := List.mem_range.mp hm
    have e : (((ws.length : Nat) : Int) - 1 + (m : Int) * (-1)).toNat = ws.length - 1 - m := by omega
    rw [e]
    simp only [List.getElem?_toArray]
    rw [List.getElem?_eq_getElem (by omega)]
    rfl
section
variable {prog : Program} {w : World} {A : Around} {E : Value → Shared → Prop} {s : Shared}
theorem applied_rev {sl : Addr} {t : Tok} {n : Nat} {Q : Int × Int × Nat → Shared → Prop} (hs : s.heap.IsSliceOf sl .none .none (.int (-1) t)) (h : Q ((n : Int) - 1, -1, n) s) : wpAny (model prog w) A (Builtin.Slice.sliceApplied (.ref sl) (pure (n : Int))) Q E s := by
  obtain ⟨o, ho, _, hd⟩ := id hs
  unfold Builtin.Slice.sliceApplied Builtin.Slice.sliceFields
  refine wpAny_bind (wpAny_bind (wpAny_field ho hd (x := .none) rfl (wpAny_bind (wpAny_field ho hd (x := .none) rfl (wpAny_bind (wpAny_field ho hd (x := .int (-1) t) rfl (wpAny_pure ?_)))))))
  refine wpAny_bind (slicePart_int ?_)
  show wpAny _ _ (if ((-1 : Int) == 0) = true then _ else _) _ _ s
  rw [if_neg (by decide)]
  refine wpAny_bind (slicePart_none (wpAny_bind (slicePart_none (wpAny_bind (wpAny_pure ?_)))))
  show wpAny _ _ (match Builtin.Slice.sliceAdjust none none (-1) (n : Int) with | (lo, hi) => pure (lo, (-1 : Int), Builtin.Slice.slicePlaces lo hi (-1))) _ _ s
  rw [adj_rev]
  show wpAny _ _ (pure ((n : Int) - 1, (-1 : Int), Builtin.Slice.slicePlaces ((n : Int) - 1) (-1) (-1))) _ _ s
  rw [places_rev]
  exact wpAny_pure h
theorem item_rev {q sl : Addr} {ws : List Value} {t : Tok} {Q : Value → Shared → Prop} (ht : IsTup s.heap q ws.toArray) (hs : s.heap.IsSliceOf sl .none .none (.int (-1) t)) (hz : ws.length ≤ sizeLine)
    (h : Q (.ref s.heap.objs.size) { s with heap := s.heap.push { cls := .type "tuple", data := .seq ws.reverse.toArray } }) : wpAny (model prog w) A (getItem (.ref q) (.ref sl)) Q E s := by
  have hok : sizeOk (.seq ws.reverse.toArray) := by
    show ws.reverse.toArray.size ≤ sizeLine
    simpa using hz
  obtain ⟨o, ho, hc, _⟩ := id hs
  have hTs : s.TypeIs (.ref sl) "slice" := ⟨o, ho, hc⟩
  unfold getItem
  try with_reducible refine wpAny_holding ?_
  first | refine wpAny_bind (wpAny_pure ?_) | skip
  refine wpAny_bind (wpAny_sequenceKey ht.typeIs (by decide) ?_)
  refine wpAny_bind (wpAny_callSpecial?_slot (name := Str.ofString "__getitem__") ht.typeIs PyProof.Rows.slot_tuple_getitem (wpAny_call_entry PyProof.Rows.slot_tuple_getitem ht.typeIs entry_tuple_getitem ?_ (args_tuple_getitem _ _)))
  show wpAny _ _ (Builtin.Tuple.tupleItemsOf (.ref q) >>= _) _ _ s
  refine wpAny_bind (tupleItemsOf_ ht (wpAny_bind (wpAny_typeOf hTs ?_)))
  rw [if_pos (by decide)]
  refine wpAny_bind (applied_rev (n := ws.toArray.size) hs ?_)
  have hno : ¬ (((((ws.toArray.size : Nat) : Int) - 1 == 0 && (-1 : Int) == 1) && ws.toArray.size == ws.toArray.size) = true) := by
    intro z
    rw [Bool.and_eq_true, Bool.and_eq_true] at z
    exact absurd z.1.2 (by decide)
  show wpAny _ _ (if ((((ws.toArray.size : Nat) : Int) - 1 == 0 && (-1 : Int) == 1) && ws.toArray.size == ws.toArray.size) = true then _ else _) _ _ s
  rw [if_neg hno]
  have e : ((List.range ws.toArray.size).filterMap fun (k : Nat) => ws.toArray[(((ws.toArray.size : Nat) : Int) - 1 + (k : Int) * (-1)).toNat]?).toArray = ws.reverse.toArray := by
    have := pick_rev ws
    simp only [List.size_toArray]
    rw [this]
  rw [e]
  first
    | exact wpAny_bind (m := Builtin.Tuple.tupleExact _) (wpAny_newObj_type (wpAny_pure ⟨_, rfl, wpAny_pure h⟩) hok)
    | exact wpAny_bind (m := Builtin.Tuple.tupleExact _) (wpAny_newObj_type (wpAny_bind (wpAny_pure (wpAny_pure ⟨_, rfl, wpAny_pure h⟩))) hok)
    | exact wpAny_bind (wpAny_bind (m := Builtin.Tuple.tupleExact _) (wpAny_newObj_type (wpAny_pure ⟨_, rfl, wpAny_pure h⟩) hok))
end
/-- x[::-1] -/
def tRevA (K : PySem.W.Frag) (te : TE) : TE := fun σ H Q => te σ H fun x H1 => ∃ a xs, x = .ref a ∧ ((SqL K H1 a xs ∧ ∀ p, H1 p = none → Q (.ref p) (upd H1 p (.lst xs.reverse))) ∨ (SqT K H1 a xs ∧ ∀ p, H1 p = none → Q (.ref p) (upd H1 p (.tup xs.reverse))))
theorem pe_revA {X : Cx} {e : Expr} {te : TE} {j : Nat} {p1 p2 p3 pos : Pos} (he : PE X e te) : PE X (.Subscript e (.Slice none none (some (.UnaryOp .USub (.Constant (.int 1) j p1) p2)) p3) pos) (tRevA X.K te) := by
  refine ⟨fun pins s σ H Q I h => Subscript_ (thn (he.run pins s σ H _ I h) fun v s1 hh => ?_)⟩
  obtain ⟨x, H1, I1, r1, a, xs, rfl, q⟩ := hh
  cases r1
  have st1 : PO X (some (.UnaryOp .USub (.Constant (.int 1) j p1) p2)) (tPart (tUn (rU fun i => .int (-i)) (tC (.int 1)))) := po_some (pe_un un_neg pe_int)
  refine wpAny_Slice (thn (po_none.run pins s1 σ H1 (fun o H2 => o = none ∧ H2 = H1) I1 ⟨rfl, rfl⟩) fun vl s2 g2 => ?_)
  obtain ⟨_, _, I2, pl, rfl, rfl⟩ := g2
  refine thn (po_none.run pins s2 σ _ (fun o H3 => o = none ∧ H3 = _) I2 ⟨rfl, rfl⟩) fun vu s3 g3 => ?_
  obtain ⟨_, _, I3, pu, rfl, rfl⟩ := g3
  refine thn (st1.run pins s3 σ _ (fun o H4 => o = some (-1) ∧ H4 = _) I3 ⟨1, rfl, -1, rfl, rfl, rfl⟩) fun vs s4 g4 => ?_
  obtain ⟨_, H4, I4, ps, rfl, rfl⟩ := g4
  cases pl
  cases pu
  cases ps with
  | int _ tk =>
    have I5 : L2.Inv X pins σ H4 { s4 with heap := s4.heap.push { cls := .type "slice", data := .fields #[.none, .none, .int (-1) tk] } } := I4.kept (t' := s4.toks) fun b ob z => Heap.get?_push_of_some _ z
    show wpAny (model X.prog X.w) X.A (subscriptTail e (.Slice none none (some (.UnaryOp .USub (.Constant (.int 1) j p1) p2)) p3) (.ref a) (.ref s4.heap.objs.size)) (EP X pins σ Q) X.xe { s4 with heap := s4.heap.push { cls := .type "slice", data := .fields #[.none, .none, .int (-1) tk] } }
    rcases q with ⟨hq, q⟩ | ⟨hq, q⟩
    · obtain ⟨ws, rv, pt, hz⟩ := I5.list hq
      have hl := rv.length
      refine tail_any (ops := [.ref a, .ref s4.heap.objs.size]) pt.isList.typeIs PySem.slot_list_getitem.lookup ?_ (by with_unfolding_all rfl)
      refine wpAny_getItem_list_slice pt.isList (Heap.IsSliceOf.new _ .none .none (.int (-1) tk)) .none .none (.int (-1) tk) (by decide) ?_ (by rw [List.size_toArray]; omega)
      rw [PySem.W.krv_pick]
      exact ⟨.ref _, _, I5.laid (t' := s4.toks) (o := .lst xs.reverse) (fun b ob z => Heap.get?_push_of_some _ z) (Nat.le_refl _) ⟨by rw [List.length_reverse]; exact hz, _, 0, rv.reverse, Heap.get?_push_size _ rfl⟩, rfl, q _ (I5.hok.fresh (Nat.le_refl _))⟩
    · obtain ⟨ws, rv, pt, hz⟩ := I5.tuple hq
      have hl := rv.length
      refine tail_any (ops := [.ref a, .ref s4.heap.objs.size]) pt.typeIs PyProof.Rows.slot_tuple_getitem.lookup ?_ (by with_unfolding_all rfl)
      refine item_rev pt (Heap.IsSliceOf.new _ .none .none (.int (-1) tk)) (by omega) ?_
      exact ⟨.ref _, _, I5.laid (t' := s4.toks) (o := .tup xs.reverse) (fun b ob z => Heap.get?_push_of_some _ z) (Nat.le_refl _) ⟨by rw [List.length_reverse]; exact hz, _, rv.reverse, ⟨_, Heap.get?_push_size _ rfl, rfl, _, rfl⟩⟩, rfl, q _ (I5.hok.fresh (Nat.le_refl _))⟩
section
variable {T : Tab} {Γ : Ctx} {X : Cx} {W : WX} {x : Ex} {a : Expr}
theorem s_rev {j : Nat} {p1 p2 p3 pos : Pos} (ha : Snd T X W Γ x a) : Snd T X W Γ (.rev x) (.Subscript a (.Slice none none (some (.UnaryOp .USub (.Constant (.int 1) j p1) p2)) p3) pos) := by
  refine .of rfl rfl (PE.wk (pe_revA ha.pe) fun σ H Q ⟨ι, κ, S, ρ, w, en, p⟩ => ?_) rfl
  simp only [evE] at p
  refine ⟨ι, κ, S, ρ, w, en, p.bind fun d S1 v H1 ι1 e1 w1 r1 p1 => ?_⟩
  have r1 : Rep X.K H1 ι1 κ d v := r1
  cases d with
  | tup ds =>
    simp only [Rep] at r1
    obtain ⟨ad, vs, rfl, h1, h2⟩ := r1
    exact ⟨ad, vs, rfl, .inr ⟨h1, fun q hq => p1.val.tup w1 (RepL.reverse h2) hq⟩⟩
  | lst ds =>
    simp only [Rep] at r1
    obtain ⟨ad, vs, rfl, h1, hn, hk, h2⟩ := r1
    exact ⟨ad, vs, rfl, .inl ⟨.of h1, fun q hq => (NPost.of w1 p1.val).lst w1 (RepL.reverse h2) hq⟩⟩
  | _ => exact p1.elim
end
end MP
end

section
set_option Elab.async false
set_option linter.all false
set_option maxRecDepth 100000
/-! MpO: targets; the blocks of comprehensions. -/
namespace MP
open PySem PySem.Spec PyProof.Rows L2
/-- alike outside vs -/
def Same (vs : List Nat) (σ σ' : L2.St) : Prop := σ'.length = σ.length ∧ ∀ i, i ∉ vs → σ'[i]? = σ[i]?
theorem Same.refl (vs : List Nat) (σ : L2.St) : Same vs σ σ := ⟨rfl, fun _ _ => rfl⟩
theorem Same.trans {vs us : List Nat} {σ σ' σ'' : L2.St} (a : Same vs σ σ') (b : Same us σ' σ'') : Same (vs ++ us) σ σ'' :=
  ⟨b.1.trans a.1, fun i h => (b.2 i fun z => h (List.mem_append_right _ z)).trans (a.2 i fun z => h (List.mem_append_left _ z))⟩
theorem Same.mono {vs us : List Nat} {σ σ' : L2.St} (a : Same vs σ σ') (h : ∀ i ∈ vs, i ∈ us) : Same us σ σ' := ⟨a.1, fun i z => a.2 i fun q => z (h i q)⟩
theorem wipe_get {σ : L2.St} : ∀ {vs : List Nat} {i : Nat}, (L2.wipe σ vs)[i]? = if i ∈ vs ∧ i < σ.length then some none else σ[i]?
  | [], i => by simp [L2.wipe]
  | v :: vs, i => by
    unfold L2.wipe
    by_cases hi : v = i
    · subst hi
      by_cases hv : v < σ.length
      · rw [List.getElem?_set_self (by rw [wipe_length]; exact hv), if_pos ⟨List.mem_cons_self, hv⟩]
      · rw [List.getElem?_eq_none (by rw [List.length_set, wipe_length]; omega), if_neg (fun z => hv z.2), List.getElem?_eq_none (by omega)]
    · rw [List.getElem?_set_ne hi, wipe_get]
      by_cases h : i ∈ vs ∧ i < σ.length
      · rw [if_pos h, if_pos ⟨List.mem_cons_of_mem _ h.1, h.2⟩]
      · rw [if_neg h, if_neg (fun z => h ⟨(List.mem_cons.mp z.1).resolve_left (fun e => hi e.symm), z.2⟩)]
theorem wipeM_length (ρ : Env) : ∀ vs : List Nat, (wipe ρ vs).length = ρ.length
  | [] => rfl
  | v :: vs => by unfold wipe; rw [List.length_set, wipeM_length ρ vs]
theorem wipeM_some {ρ : Env} {i : Nat} {d : D} : ∀ {vs : List Nat}, (wipe ρ vs)[i]? = some (some d) → ρ[i]? = some (some d) ∧ i ∉ vs
  | [], h => ⟨h, by simp⟩
  | v :: vs, h => by
    unfold wipe at h
    by_cases hi : v = i
    · subst hi
      by_cases hv : v < (wipe ρ vs).length
      · rw [List.getElem?_set_self hv] at h; cases h
      · rw [List.getElem?_eq_none (by simpa using hv)] at h; cases h
    · rw [List.getElem?_set_ne hi] at h
      obtain ⟨h1, h2⟩ := wipeM_some h
      exact ⟨h1, by simp only [List.mem_cons, not_or]; exact ⟨fun e => hi e.symm, h2⟩⟩
theorem Same.wipe {vs : List Nat} {σ σ' : L2.St} (a : Same vs σ σ') : L2.wipe σ' vs = L2.wipe σ vs := by
  refine List.ext_getElem? fun i => ?_
  rw [wipe_get, wipe_get, a.1]
  by_cases h : i ∈ vs ∧ i < σ.length
  · rw [if_pos h, if_pos h]
  · rw [if_neg h, if_neg h]
    by_cases hi : i ∈ vs
    · have : ¬ i < σ.length := fun z => h ⟨hi, z⟩
      rw [List.getElem?_eq_none (by rw [a.1]; omega), List.getElem?_eq_none (by omega)]
    · exact a.2 i hi
section
variable {K : PySem.W.Frag} {H : Hp} {ι κ : List Addr} {σ : L2.St} {ρ : Env}
theorem EnvR.wipe (h : EnvR K H ι κ σ ρ) (vs : List Nat) : EnvR K H ι κ (L2.wipe σ vs) (MP.wipe ρ vs) := by
  refine ⟨by rw [wipe_length, wipeM_length]; exact h.1, fun i d e => ?_⟩
  obtain ⟨h1, h2⟩ := wipeM_some e
  obtain ⟨v, h3, h4⟩ := h.2 i d h1
  exact ⟨v, by rw [wipe_get, if_neg (fun z => h2 z.1)]; exact h3, h4⟩
theorem EnvR.set {i : Nat} {d : D} {v : V} (h : EnvR K H ι κ σ ρ) (r : Rep K H ι κ d v) : EnvR K H ι κ (σ.set i (some v)) (ρ.set i (some d)) := by
  refine ⟨by simp [h.1], fun j e he => ?_⟩
  by_cases hj : i = j
  · subst hj
    by_cases hi : i < ρ.length
    · rw [List.getElem?_set_self hi] at he
      cases he
      exact ⟨v, by rw [List.getElem?_set_self (by rw [h.1]; exact hi)], r⟩
    · rw [List.getElem?_eq_none (by simp; omega)] at he; cases he
  · rw [List.getElem?_set_ne hj] at he
    rw [List.getElem?_set_ne hj]
    exact h.2 j e he
theorem same_set {i : Nat} {v : V} : Same [i] σ (σ.set i (some v)) := ⟨by simp, fun j h => by rw [List.getElem?_set_ne (fun z => h (by simp [z]))]⟩
end
/-! ### targets -/
def tG (T : Tab) (K : PySem.W.Frag) (t : Tg) : TG := fun v σ H k => ∃ ι κ S ρ d ρ', Wd T K H ι κ S ∧ EnvR K H ι κ σ ρ ∧ Rep K H ι κ d v ∧ bindT t d ρ = some ρ' ∧ ∀ σ', EnvR K H ι κ σ' ρ' → Same (slotsT t) σ σ' → k σ' H
def tGs (T : Tab) (K : PySem.W.Frag) (ts : List Tg) : TGs := fun vs σ H k => ∃ ι κ S ρ ds ρ', Wd T K H ι κ S ∧ EnvR K H ι κ σ ρ ∧ RepL K H ι κ ds vs ∧ bindTs ts ds ρ = some ρ' ∧ ∀ σ', EnvR K H ι κ σ' ρ' → Same (slotsTs ts) σ σ' → k σ' H
theorem PG.wk {X : Cx} {e : Expr} {t t' : TG} (h : PG X e t) (i : ∀ v σ H Q, t' v σ H Q → t v σ H Q) : PG X e t' := ⟨fun pins s σ H v u Q I r q => h.run pins s σ H v u Q I r (i v σ H Q q)⟩
theorem PG.some {X : Cx} {e : Expr} {t' : TG} (h : ∀ v σ H Q, t' v σ H Q → ∃ t, PG X e t ∧ t v σ H Q) : PG X e t' := ⟨fun pins s σ H v u Q I r q => by
  obtain ⟨t, h1, h2⟩ := h v σ H Q q
  exact h1.run pins s σ H v u Q I r h2⟩
theorem PGs.wk {X : Cx} {e : List Expr} {t t' : TGs} (h : PGs X e t) (i : ∀ v σ H Q, t' v σ H Q → t v σ H Q) : PGs X e t' := ⟨fun pins s σ H v u Q I r q => h.run pins s σ H v u Q I r (i v σ H Q q)⟩
theorem each_tgs {N : List Str} {sc : Scope} {env : PySem.Env} : ∀ {ts : List Tg} {es : List Expr}, mtTs N sc ts es = true → assignEach es env = es.map fun e => (false, assign e env)
  | [], [], _ => rfl
  | [], _ :: _, h => by simp [mtTs] at h
  | t :: ts, [], h => by simp [mtTs] at h
  | t :: ts, e :: es, h => by
    simp only [mtTs, Bool.and_eq_true] at h
    have ih := each_tgs (env := env) h.2
    have : assignEach (e :: es) env = (false, assign e env) :: assignEach es env := by
      cases e <;> first | rfl | (cases t <;> simp [mtT] at h)
    rw [this, ih]; rfl
theorem bindTs_len : ∀ {ts : List Tg} {ds : List D} {ρ ρ' : Env}, bindTs ts ds ρ = some ρ' → ds.length = ts.length
  | [], [], _, _, _ => rfl
  | [], _ :: _, _, _, h => by simp [bindTs] at h
  | _ :: _, [], _, _, h => by simp [bindTs] at h
  | t :: ts, d :: ds, ρ, ρ', h => by
    simp only [bindTs] at h
    split at h
    · simp [bindTs_len h]
    · cases h
theorem mtTs_len {N : List Str} {sc : Scope} : ∀ {ts : List Tg} {es : List Expr}, mtTs N sc ts es = true → ts.length = es.length
  | [], [], _ => rfl
  | [], _ :: _, h => by simp [mtTs] at h
  | _ :: _, [], h => by simp [mtTs] at h
  | t :: ts, e :: es, h => by
    simp only [mtTs, Bool.and_eq_true] at h
    simp [mtTs_len h.2]
section
variable {T : Tab} {N : List Str} {X : Cx} {sc : Scope}
mutual
theorem g_tg (hN : X.N = N) (nd : N.Nodup) (hc : X.calm = true) (hloc : ∀ x, locB sc x = true → L2.Loc X.env.scope x ∧ (X.fn x = true ∨ X.env.scope.names.lookup x = some .local)) : ∀ (t : Tg) (e : Expr), mtT N sc t e = true → PG X e (tG T X.K t)
  | .nm i, e, h => by
    cases e with
    | Name x p =>
      simp only [mtT, Bool.and_eq_true, decide_eq_true_eq] at h
      obtain ⟨h1, h2⟩ := hloc x h.2
      refine PG.wk (pg_name (by rw [hN]; exact nd) (by rw [hN]; exact h.1) h1 h2) fun v σ H Q ⟨ι, κ, S, ρ, d, ρ', w, en, r, hb, k⟩ => ?_
      simp only [bindT] at hb
      split at hb
      · cases hb
        refine k _ (en.set r) ?_
        simp only [slotsT]
        exact same_set
      · cases hb
    | _ => simp [mtT] at h
  | .tp ts, e, h => by
    cases e with
    | Tuple es m p =>
      simp only [mtT] at h
      have hp := g_tgs hN nd hc hloc ts es h
      have hl : (assignEach es X.env).length = es.length := by rw [each_tgs h]; simp
      have hf : (assignEach es X.env).findIdx? (·.1) = none := by
        rw [each_tgs h]
        simp
      refine PG.some fun v σ H Q ⟨ι, κ, S, ρ, d, ρ', w, en, r, hb, k⟩ => ?_
      have hlen : ∀ ds, bindTs ts ds ρ = some ρ' → ds.length = es.length := fun ds hb => (bindTs_len hb).trans (mtTs_len h)
      cases d with
      | tup ds =>
        simp only [bindT] at hb
        simp only [Rep] at r
        obtain ⟨a, vs, rfl, h1, h2⟩ := r
        exact ⟨_, pg_tup hc hp hl hf, a, vs, rfl, h1, by rw [← RepL.length h2]; exact hlen ds hb, ι, κ, S, ρ, ds, ρ', w, en, h2, hb, k⟩
      | lst ds =>
        simp only [bindT] at hb
        simp only [Rep] at r
        obtain ⟨a, vs, rfl, h1, hn, hk, h2⟩ := r
        exact ⟨_, pg_lst hc hp hl hf, a, vs, rfl, .of h1, by rw [← RepL.length h2]; exact hlen ds hb, ι, κ, S, ρ, ds, ρ', w, en, h2, hb, k⟩
      | _ => simp [bindT] at hb
    | _ => simp [mtT] at h
theorem g_tgs (hN : X.N = N) (nd : N.Nodup) (hc : X.calm = true) (hloc : ∀ x, locB sc x = true → L2.Loc X.env.scope x ∧ (X.fn x = true ∨ X.env.scope.names.lookup x = some .local)) : ∀ (ts : List Tg) (es : List Expr), mtTs N sc ts es = true → PGs X es (tGs T X.K ts)
  | [], [], _ => by
    refine PGs.wk pgs_nil fun vs σ H Q ⟨ι, κ, S, ρ, ds, ρ', w, en, r, hb, k⟩ => ?_
    cases ds with
    | nil =>
      simp only [bindTs] at hb
      cases hb
      simp only [RepL] at r
      exact ⟨r, k σ en (Same.refl _ _)⟩
    | cons d ds => simp [bindTs] at hb
  | [], _ :: _, h => by simp [mtTs] at h
  | t :: ts, [], h => by simp [mtTs] at h
  | t :: ts, e :: es, h => by
    have he := each_tgs (env := X.env) h
    simp only [mtTs, Bool.and_eq_true] at h
    have h1 := g_tg hN nd hc hloc t e h.1
    have h2 := g_tgs hN nd hc hloc ts es h.2
    refine PGs.wk (pgs_cons h1 h2 (by rw [he, each_tgs h.2]; rfl)) fun vs σ H Q ⟨ι, κ, S, ρ, ds, ρ', w, en, r, hb, k⟩ => ?_
    cases ds with
    | nil => simp [bindTs] at hb
    | cons d ds =>
      simp only [bindTs] at hb
      split at hb
      · rename_i ρ1 hb1
        simp only [RepL] at r
        obtain ⟨v, r0, rfl, q1, q2⟩ := r
        refine ⟨v, r0, rfl, ι, κ, S, ρ, d, ρ1, w, en, q1, hb1, fun σ1 en1 s1 => ⟨ι, κ, S, ρ1, ds, ρ', w, en1, q2, hb, fun σ2 en2 s2 => k σ2 en2 ?_⟩⟩
        simp only [slotsTs]
        exact s1.trans s2
      · cases hb
end
end
end MP
end

section
set_option Elab.async false
set_option linter.all false
set_option maxRecDepth 100000
/-! MpP: comprehensions. -/
namespace MP
open PySem PySem.Spec PyProof.Rows L2
abbrev NoW : WX := fun _ _ _ _ => False
section
variable {T : Tab} {N : List Str} {Γ : Ctx} {k : Nat} {X : Cx} {W : WX} {sc : Scope}
theorem Gd.blk (g : Gd T N Γ k X W sc) {s : Shared} {H : Hp} {scope : Scope} {cl : List (Str × Addr)} {C : Addr} {fp : List Addr} : Gd T N Γ k (X.blk s H scope (compEnvC scope cl C X.env) fp) NoW (relS scope sc) where
  sc := by rw [← g.sc]; rfl
  hN := g.hN
  nd := g.nd
  calm := g.calm
  room := g.room
  tk := fun u s' ⟨_, _, _, _, _, _, _, _, _, _, _, _, _, _, _, _, w⟩ => w.elim
  glo := g.glo
theorem blk_loc {s : Shared} {H : Hp} {scope : Scope} {cl : List (Str × Addr)} {C : Addr} {fp : List Addr} (x : Str) (h : locB scope x = true) :
    L2.Loc (X.blk s H scope (compEnvC scope cl C X.env) fp).env.scope x ∧ ((X.blk s H scope (compEnvC scope cl C X.env) fp).fn x = true ∨ (X.blk s H scope (compEnvC scope cl C X.env) fp).env.scope.names.lookup x = some .local) := by
  unfold locB at h
  split at h
  · rename_i hl
    have := lookup_relS_keep (sc := X.env.scope) (by decide) hl
    exact ⟨.inl this, .inr this⟩
  · rename_i hl
    have := lookup_relS_keep (sc := X.env.scope) (by decide) hl
    refine ⟨.inr this, .inl ?_⟩
    show (scope.names.lookup x == some .cell) = true
    rw [hl]; rfl
  · cases h
end
/-! turns -/
theorem held_refl (g : Option Nat) (S : Sto) : held g S S = true := by cases g <;> simp [held]
theorem held_trans {g : Option Nat} {S S' S'' : Sto} (a : held g S S' = true) (b : held g S' S'' = true) : held g S S'' = true := by
  cases g with
  | none => rfl
  | some n => exact decide_eq_true ((of_decide_eq_true a).trans (of_decide_eq_true b))
theorem compR_noExc {α : Type} {f : D → Sto → R (Option α)} (h : ∀ x S C fs S', f x S ≠ .exc C fs S') : ∀ {xs : List D} {S : Sto} {C fs S'}, compR f xs S ≠ .exc C fs S'
  | [], S, C, fs, S', e => by cases e
  | x :: xs, S, C, fs, S', e => by
    simp only [compR] at e
    cases hf : f x S with
    | ok o S1 =>
      rw [hf] at e
      simp only [R.bind] at e
      cases hr : compR f xs S1 with
      | ok ys S2 => rw [hr] at e; cases e
      | exc C' fs' S2 => exact compR_noExc h hr
      | no => rw [hr] at e; cases e
    | exc C' fs' S1 => exact h _ _ _ _ _ hf
    | no => rw [hf] at e; cases e
theorem compR_cons {α : Type} {f : D → Sto → R (Option α)} {x : D} {xs : List D} {S S2 : Sto} {ys : List α} (h : compR f (x :: xs) S = .ok ys S2) : ∃ o S1 rest, f x S = .ok o S1 ∧ compR f xs S1 = .ok rest S2 ∧ ys = match o with | some y => y :: rest | none => rest := by
  simp only [compR] at h
  cases hf : f x S with
  | ok o S1 =>
    rw [hf] at h
    simp only [R.bind] at h
    cases hr : compR f xs S1 with
    | ok rest S3 =>
      rw [hr] at h
      simp only [R.ok.injEq] at h
      exact ⟨o, S1, rest, rfl, by rw [← h.2]; exact hr, h.1.symm⟩
    | exc C' fs' S2 => rw [hr] at h; cases h
    | no => rw [hr] at h; cases h
  | exc C' fs' S1 => rw [hf] at h; cases h
  | no => rw [hf] at h; cases h
theorem bind_ok {α β : Type} {r : R α} {f : α → Sto → R β} {b : β} {S : Sto} (h : r.bind f = .ok b S) : ∃ a S1, r = .ok a S1 ∧ f a S1 = .ok b S := by
  cases r with
  | ok a S1 => exact ⟨a, S1, rfl, h⟩
  | exc C fs S1 => cases h
  | no => cases h
theorem noExc_ok {α : Type} {r : R α} {a : α} {S : Sto} (h : noExc r = .ok a S) : r = .ok a S := by
  cases r with
  | ok a S1 => exact h
  | exc C fs S1 => cases h
  | no => cases h
theorem noExc_exc {α : Type} {r : R α} {C fs S} : noExc r ≠ .exc C fs S := by
  cases r <;> simp [noExc]
theorem wipe_wipe (σ : L2.St) (vs : List Nat) : L2.wipe (L2.wipe σ vs) vs = L2.wipe σ vs := by
  refine List.ext_getElem? fun i => ?_
  rw [wipe_get, wipe_get, wipe_length]
  split <;> rfl
theorem Ext.over {H H' : Hp} {ι ι' : List Addr} {p : Addr} {o : HO} (e : Ext H ι H' ι') (hp : H p = Option.none) : Ext H ι (upd H' p o) ι' :=
  ⟨fun a u n q => by rw [upd_ne (ne_of_none q hp)]; exact e.keep a u n q, e.new, e.pre⟩
section
variable {T : Tab} {N : List Str} {Γ : Ctx} {k : Nat} {X : Cx} {W : WX} {sc : Scope} {x y z elt : Ex} {a b c e elt' it' tg' : Expr} {xs cnd : List Ex} {es ifs' : List Expr} {pos p apos tpos : Pos}
def tTs (T : Tab) (K : PySem.W.Frag) (W : WX) (Γ : Ctx) (xs : List Ex) : TT := fun σ H Q => ∃ ι κ S ρ, Wd T K H ι κ S ∧ EnvR K H ι κ σ ρ ∧ Post T K κ W σ relB H ι (evAll Γ xs ρ S) Q
theorem pts_of (h : SndL T X W Γ cnd ifs') (hl : cnd.length ≤ 1) (ht : ifs'.all tst = true) : PTs X ifs' (tTs T X.K W Γ cnd) := by
  cases h with
  | nil =>
    refine ⟨fun pins s σ H Q I ⟨ι, κ, S, ρ, w, en, p⟩ => pts_nil.run pins s σ H Q I ?_⟩
    simp only [evAll] at p
    exact p true H ι Ext.refl w rfl
  | cons h t =>
    cases t with
    | nil =>
      simp only [List.all_cons, Bool.and_eq_true] at ht
      rename_i x0 e0
      refine ⟨fun pins s σ H Q I ⟨ι, κ, S, ρ, w, en, p⟩ => (pts_one (h.pt ht.1)).run pins s σ H Q I ⟨ι, κ, S, ρ, w, en, ?_⟩⟩
      rw [show evAll Γ [x0] ρ S = (evE Γ x0 ρ S).bind fun d S => match d with
        | .bl true => evAll Γ [] ρ S
        | .bl false => .ok false S
        | _ => .no from rfl] at p
      cases hx : evE Γ x0 ρ S with
      | ok d S1 =>
        rw [hx] at p
        cases d with
        | bl b => cases b <;> exact p
        | _ => exact p.elim
      | exc C fs S1 => rw [hx] at p; exact p
      | no => rw [hx] at p; exact p
    | cons h2 t2 => simp at hl
/-- what a block's turn finds -/
theorem lc_turn {ev : Env → Sto → R D} {al : Env → Sto → R Bool} {tg : Tg} {own : List Nat} {ρ : Env} {g : Option Nat} {d : D} {S S' : Sto} {o : Option D} (h : lcF ev al tg own ρ g d S = .ok o S') :
    ∃ ρ' c S1, bindT tg d (wipe ρ own) = some ρ' ∧ al ρ' S = .ok c S1 ∧ held g S S' = true ∧ ((c = true ∧ ∃ y, ev ρ' S1 = .ok y S' ∧ o = some y) ∨ (c = false ∧ S1 = S' ∧ o = none)) := by
  unfold lcF at h
  split at h
  · rename_i ρ' hb
    obtain ⟨c, S1, h1, h2⟩ := bind_ok (noExc_ok h)
    refine ⟨ρ', c, S1, hb, h1, ?_⟩
    cases c with
    | true =>
      rw [if_pos rfl] at h2
      obtain ⟨y, S2, h3, h4⟩ := bind_ok h2
      split at h4
      · rename_i hh
        cases h4
        exact ⟨hh, .inl ⟨rfl, y, h3, rfl⟩⟩
      · cases h4
    | false =>
      rw [if_neg Bool.false_ne_true] at h2
      split at h2
      · rename_i hh
        cases h2
        exact ⟨hh, .inr ⟨rfl, rfl, rfl⟩⟩
      · cases h2
  · cases h
theorem lc_noExc {ev : Env → Sto → R D} {al : Env → Sto → R Bool} {tg : Tg} {own : List Nat} {ρ : Env} {g : Option Nat} : ∀ x S C fs S', lcF ev al tg own ρ g x S ≠ .exc C fs S' := fun x S C fs S' h => by
  unfold lcF at h
  split at h
  · exact noExc_exc h
  · cases h
theorem i_lc {it : Ex} {tg : Tg} {own : List Nat} (hsl : ∀ i ∈ slotsT tg, i ∈ own) {σ : L2.St} {H : Hp} {Q : VK} (h : tN T X.K W Γ (.lc elt tg it cnd own) σ H Q) :
    tLc (tI T X.K W Γ it) (tG T X.K tg) (tTs T X.K NoW Γ cnd) (tE T X.K NoW Γ elt) own σ H Q := by
  obtain ⟨ι, κ, S, ρ, w, en, p⟩ := h
  simp only [evE] at p
  refine ⟨ι, κ, S, ρ, w, en, ?_⟩
  cases hi : evI Γ it ρ S with
  | no => rw [hi] at p; exact p.elim
  | exc C fs S1 => rw [hi] at p; exact p
  | ok pr S1 =>
    rw [hi] at p
    simp only [R.bind] at p
    intro J H1 ι1 e1 w1 iw D hD
    generalize hn : pr.1.length = n
    have hDk : ∀ a ∈ D :: κ, a ∈ κ ∨ H1 a = none := fun a z => (List.mem_cons.mp z).elim (fun e => .inr (by rw [e]; exact hD)) .inl
    have en1 : EnvR X.K H1 ι1 κ σ ρ := en.up e1 w
    cases hc : compR (lcF (fun ρ S => evE Γ elt ρ S) (fun ρ S => evAll Γ cnd ρ S) tg own ρ pr.2) pr.1 S1 with
    | no => rw [hc] at p; exact p.elim
    | exc C fs S2 => exact absurd hc (compR_noExc lc_noExc)
    | ok ys S2 =>
      rw [hc] at p
      simp only at p
      split at p
      rotate_left
      · exact p.elim
      rename_i hlen
      refine ⟨fun i m H2 => m = n - i ∧ i ≤ n ∧ ∃ ι2 S3 done rest acc, compR (lcF (fun ρ S => evE Γ elt ρ S) (fun ρ S => evAll Γ cnd ρ S) tg own ρ pr.2) (pr.1.drop i) S3 = .ok rest S2 ∧ done ++ rest = ys ∧ Ext H1 ι1 H2 ι2 ∧ Wd T X.K H2 ι2 (D :: κ) S3 ∧ H2 D = some (.lst acc) ∧
        RepL X.K H2 ι2 (D :: κ) done acc ∧ held pr.2 S1 S3 = true, ⟨n, by simp, Nat.zero_le _, ι1, S1, [], ys, [], by simpa using hc, rfl, Ext.fresh w1 hD, w1.hide hD, upd_same, by simp only [RepL], held_refl _ _⟩, ?_⟩
      rintro i m H2 ⟨rfl, hin, ι2, S3, done, rest, acc, hr, hd, e2, w2, hacc, racc, hh⟩
      obtain ⟨igo, istop⟩ := iw (D :: κ) H2 ι2 S3 hDk e2 w2 hh i
      by_cases hlt : i < n
      · obtain ⟨go, yl⟩ := igo (by rw [hn]; exact hlt)
        refine .inr ⟨go, fun H' => ∃ m', m' = n - (i + 1) ∧ _, fun H' ⟨m', h1, h2⟩ => ⟨m', by omega, h1, by omega, h2⟩, fun x H3 hy => ?_⟩
        obtain ⟨e3, w3, d, hdx, rd⟩ := yl x H3 hy
        have hdrop : pr.1.drop i = d :: pr.1.drop (i + 1) := by
          obtain ⟨hlt', he⟩ := List.getElem?_eq_some_iff.mp hdx
          rw [List.drop_eq_getElem_cons hlt', he]
        rw [hdrop] at hr
        obtain ⟨o, S4, rest', hf, hr', hrest⟩ := compR_cons hr
        obtain ⟨ρ', c, S5, hb, hall, hheld, hcase⟩ := lc_turn hf
        have hDn : D ∉ ι2 := w2.dj D List.mem_cons_self
        have enw : EnvR X.K H3 ι2 (D :: κ) (L2.wipe σ own) (wipe ρ own) := ((en1.mono e2 w1.mut hDk).up e3 w2).wipe own
        refine ⟨ι2, D :: κ, S3, wipe ρ own, d, ρ', w3, enw, rd, hb, fun σ' en' sm => ⟨((sm.mono hsl).wipe).trans (wipe_wipe _ _), ι2, D :: κ, S3, ρ', w3, en', ?_⟩⟩
        rw [hall]
        intro g H4 ι4 e4 w4 hg
        obtain rfl : c = g := hg
        have hD3 : H3 D = some (.lst acc) := e3.keep D _ hDn hacc
        have hD4 : H4 D = some (.lst acc) := e4.keep D _ hDn hD3
        rcases hcase with ⟨rfl, y, hy, rfl⟩ | ⟨rfl, rfl, rfl⟩
        · rw [if_pos rfl]
          refine ⟨ι4, D :: κ, S5, ρ', w4, en'.up e4 w3, ?_⟩
          rw [hy]
          intro u H5 ι5 e5 w5 ru
          have ru : Rep X.K H5 ι5 (D :: κ) y u := ru
          have hD5 : H5 D = some (.lst acc) := e5.keep D _ (w4.dj D List.mem_cons_self) hD4
          have r5 := RepL.append (RepL.up (RepL.up (RepL.up racc e3 w2) e4 w3) e5 w4) (show RepL X.K H5 ι5 (D :: κ) [y] [u] by simp only [RepL]; exact ⟨u, [], rfl, ru, rfl⟩)
          have hys : done ++ [y] ++ rest' = ys := by rw [← hd, hrest]; simp
          refine ⟨acc, hD5, ?_, n - (i + 1), rfl, ι5, S4, done ++ [y], rest', acc ++ [u], hr', hys, Ext.over (((e2.trans e3).trans e4).trans e5) hD, w5.over List.mem_cons_self hD5 True.intro, upd_same, RepL.over List.mem_cons_self hD5 True.intro r5, held_trans hh hheld⟩
          have h1 := RepL.length racc
          have h2 : (done ++ [y] ++ rest').length = ys.length := by rw [hys]
          simp at h2
          have h3 := LIM_line (n := ys.length) hlen
          omega
        · rw [if_neg Bool.false_ne_true]
          exact ⟨n - (i + 1), rfl, ι4, S5, done, rest', acc, hr', by rw [← hd, hrest], (e2.trans e3).trans e4, w4, hD4, RepL.up (RepL.up racc e3 w2) e4 w3, held_trans hh hheld⟩
      · have hi' : i = n := by omega
        subst hi'
        rw [List.drop_of_length_le (by omega)] at hr
        simp only [compR, R.ok.injEq] at hr
        obtain ⟨rfl, rfl⟩ := hr
        rw [List.append_nil] at hd
        subst hd
        exact .inl ⟨istop hn.symm, p D H2 ι2 (Ext.none e1 w1.mut hD) (e1.trans e2) w2 ⟨acc, hacc, racc⟩⟩
theorem own_of {own : List Nat} (h : (own.all fun i => decide (i < N.length)) = true) : (ownOf N own).map (·.2) = own := by
  unfold ownOf
  induction own with
  | nil => rfl
  | cons i is ih =>
    simp only [List.all_cons, Bool.and_eq_true, decide_eq_true_eq] at h
    rw [List.filterMap_cons, List.getElem?_eq_getElem h.1]
    simp only [Option.map_some, List.map_cons]
    rw [ih h.2]
theorem s_lc (g : Gd T N Γ k X W sc) {it : Ex} {tg : Tg} {own : List Nat} {scope : Scope} (hi : PI X tg' it' (tI T X.K W Γ it)) (hf : plainE it' = true) (htg : mtT N scope tg tg' = true) (hsl : ∀ i ∈ slotsT tg, i ∈ own) (hown : (own.all fun i => decide (i < N.length)) = true)
    (hb : blkC N sc scope (ownOf N own) = true) (hcl : cnd.length ≤ 1) (hts : ifs'.all tst = true) (hc : ∀ X' W', Gd T N Γ k X' W' (relS scope sc) → X'.K = X.K → SndL T X' W' Γ cnd ifs') (he : ∀ X' W', Gd T N Γ k X' W' (relS scope sc) → X'.K = X.K → Snd T X' W' Γ elt elt') :
    Snd T X W Γ (.lc elt tg it cnd own) (.ListComp elt' [⟨tg', it', ifs', 0⟩] scope pos) := by
  refine .ofN rfl rfl (PE.wk (pe_lc (own := ownOf N own) (g := tG T X.K tg) (tt := tTs T X.K NoW Γ cnd) (te := tE T X.K NoW Γ elt) g.calm (by rw [g.hN]; exact g.nd) hi (by rw [g.hN, g.sc]; exact blkOk_by hb) (fun s H C cl fp => g_tg (X := X.blk s H scope (compEnvC scope cl C X.env) fp) (sc := scope) g.hN g.nd g.calm (fun x h => blk_loc x h) tg tg' htg) (fun s H C cl fp => ?_) (fun s H C cl fp => ?_) (folded_plain hf)) fun σ H Q h => ?_)
  · exact pts_of (hc _ _ g.blk rfl) hcl hts
  · exact (he _ _ g.blk rfl).pe
  · rw [own_of hown]; exact i_lc hsl h
/-! dicts -/
theorem dc_turn {ek ev : Env → Sto → R D} {al : Env → Sto → R Bool} {tg : Tg} {own : List Nat} {ρ : Env} {g : Option Nat} {d : D} {S S' : Sto} {o : Option (Ky × D)} (h : dcF ek ev al tg own ρ g d S = .ok o S') :
    ∃ ρ' c S1, bindT tg d (wipe ρ own) = some ρ' ∧ al ρ' S = .ok c S1 ∧ held g S S' = true ∧ ((c = true ∧ ∃ y z kk S2, ek ρ' S1 = .ok y S2 ∧ ev ρ' S2 = .ok z S' ∧ y.ky = some kk ∧ o = some (kk, z)) ∨ (c = false ∧ S1 = S' ∧ o = none)) := by
  unfold dcF at h
  split at h
  · rename_i ρ' hb
    obtain ⟨c, S1, h1, h2⟩ := bind_ok (noExc_ok h)
    refine ⟨ρ', c, S1, hb, h1, ?_⟩
    cases c with
    | true =>
      rw [if_pos rfl] at h2
      obtain ⟨y, S2, h3, h4⟩ := bind_ok h2
      obtain ⟨z, S3, h5, h6⟩ := bind_ok h4
      split at h6
      · rename_i kk hk
        split at h6
        · rename_i hh
          cases h6
          exact ⟨hh, .inl ⟨rfl, y, z, kk, S2, h3, h5, hk, rfl⟩⟩
        · cases h6
      · cases h6
    | false =>
      rw [if_neg Bool.false_ne_true] at h2
      split at h2
      · rename_i hh
        cases h2
        exact ⟨hh, .inr ⟨rfl, rfl, rfl⟩⟩
      · cases h2
  · cases h
theorem dc_noExc {ek ev : Env → Sto → R D} {al : Env → Sto → R Bool} {tg : Tg} {own : List Nat} {ρ : Env} {g : Option Nat} : ∀ x S C fs S', dcF ek ev al tg own ρ g x S ≠ .exc C fs S' := fun x S C fs S' h => by
  unfold dcF at h
  split at h
  · exact noExc_exc h
  · cases h
theorem vput_len {kvs : List (Ky × D)} {k : Ky} {d : D} : (vput kvs k d).length ≤ kvs.length + 1 := by
  unfold vput
  split <;> simp
theorem merge_len : ∀ (more kvs : List (Ky × D)), (merge kvs more).length ≤ kvs.length + more.length
  | [], kvs => by simp [merge]
  | m :: more, kvs => by
    have h1 := merge_len more (vput kvs m.1 m.2)
    have h2 := vput_len (kvs := kvs) (k := m.1) (d := m.2)
    show (merge (vput kvs m.1 m.2) more).length ≤ _
    simp; omega
theorem merge_snoc (kvs more : List (Ky × D)) (k : Ky) (d : D) : merge kvs (more ++ [(k, d)]) = vput (merge kvs more) k d := by
  unfold merge; rw [List.foldl_append]; rfl
theorem i_dc {kx vx it : Ex} {tg : Tg} {own : List Nat} (hsl : ∀ i ∈ slotsT tg, i ∈ own) {σ : L2.St} {H : Hp} {Q : VK} (h : tN T X.K W Γ (.dc kx vx tg it cnd own) σ H Q) :
    tDc (tI T X.K W Γ it) (tG T X.K tg) (tTs T X.K NoW Γ cnd) (tE T X.K NoW Γ kx) (tE T X.K NoW Γ vx) own σ H Q := by
  obtain ⟨ι, κ, S, ρ, w, en, p⟩ := h
  simp only [evE] at p
  refine ⟨ι, κ, S, ρ, w, en, ?_⟩
  cases hi : evI Γ it ρ S with
  | no => rw [hi] at p; exact p.elim
  | exc C fs S1 => rw [hi] at p; exact p
  | ok pr S1 =>
    rw [hi] at p
    simp only [R.bind] at p
    intro J H1 ι1 e1 w1 iw D hD
    generalize hn : pr.1.length = n
    have hDk : ∀ a ∈ D :: κ, a ∈ κ ∨ H1 a = none := fun a z => (List.mem_cons.mp z).elim (fun e => .inr (by rw [e]; exact hD)) .inl
    have en1 : EnvR X.K H1 ι1 κ σ ρ := en.up e1 w
    cases hc : compR (dcF (fun ρ S => evE Γ kx ρ S) (fun ρ S => evE Γ vx ρ S) (fun ρ S => evAll Γ cnd ρ S) tg own ρ pr.2) pr.1 S1 with
    | no => rw [hc] at p; exact p.elim
    | exc C fs S2 => exact absurd hc (compR_noExc dc_noExc)
    | ok ys S2 =>
      rw [hc] at p
      simp only at p
      split at p
      rotate_left
      · exact p.elim
      rename_i hlen
      refine ⟨fun i m H2 => m = n - i ∧ i ≤ n ∧ ∃ ι2 S3 done rest acc, compR (dcF (fun ρ S => evE Γ kx ρ S) (fun ρ S => evE Γ vx ρ S) (fun ρ S => evAll Γ cnd ρ S) tg own ρ pr.2) (pr.1.drop i) S3 = .ok rest S2 ∧ done ++ rest = ys ∧ Ext H1 ι1 H2 ι2 ∧ Wd T X.K H2 ι2 (D :: κ) S3 ∧ H2 D = some (.dK acc) ∧
        RepK X.K H2 ι2 (D :: κ) (merge [] done) acc ∧ held pr.2 S1 S3 = true, ⟨n, by simp, Nat.zero_le _, ι1, S1, [], ys, [], by simpa using hc, rfl, Ext.fresh w1 hD, w1.hide hD, upd_same, by simp only [merge, List.foldl_nil, RepK], held_refl _ _⟩, ?_⟩
      rintro i m H2 ⟨rfl, hin, ι2, S3, done, rest, acc, hr, hd, e2, w2, hacc, racc, hh⟩
      obtain ⟨igo, istop⟩ := iw (D :: κ) H2 ι2 S3 hDk e2 w2 hh i
      by_cases hlt : i < n
      · obtain ⟨go, yl⟩ := igo (by rw [hn]; exact hlt)
        refine .inr ⟨go, fun H' => ∃ m', m' = n - (i + 1) ∧ _, fun H' ⟨m', h1, h2⟩ => ⟨m', by omega, h1, by omega, h2⟩, fun x H3 hy => ?_⟩
        obtain ⟨e3, w3, d, hdx, rd⟩ := yl x H3 hy
        have hdrop : pr.1.drop i = d :: pr.1.drop (i + 1) := by
          obtain ⟨hlt', he⟩ := List.getElem?_eq_some_iff.mp hdx
          rw [List.drop_eq_getElem_cons hlt', he]
        rw [hdrop] at hr
        obtain ⟨o, S4, rest', hf, hr', hrest⟩ := compR_cons hr
        obtain ⟨ρ', c, S5, hb, hall, hheld, hcase⟩ := dc_turn hf
        have hDn : D ∉ ι2 := w2.dj D List.mem_cons_self
        have enw : EnvR X.K H3 ι2 (D :: κ) (L2.wipe σ own) (wipe ρ own) := ((en1.mono e2 w1.mut hDk).up e3 w2).wipe own
        refine ⟨ι2, D :: κ, S3, wipe ρ own, d, ρ', w3, enw, rd, hb, fun σ' en' sm => ⟨((sm.mono hsl).wipe).trans (wipe_wipe _ _), ι2, D :: κ, S3, ρ', w3, en', ?_⟩⟩
        rw [hall]
        intro g H4 ι4 e4 w4 hg
        obtain rfl : c = g := hg
        have hD3 : H3 D = some (.dK acc) := e3.keep D _ hDn hacc
        have hD4 : H4 D = some (.dK acc) := e4.keep D _ hDn hD3
        have racc4 : RepK X.K H4 ι4 (D :: κ) (merge [] done) acc := RepK.mono (e3.trans e4) w2.mut (fun _ z => .inl z) racc
        rcases hcase with ⟨rfl, y, z, kk, S6, hy, hz, hk, rfl⟩ | ⟨rfl, rfl, rfl⟩
        · rw [if_pos rfl]
          refine ⟨ι4, D :: κ, S5, ρ', w4, en'.up e4 w3, ?_⟩
          rw [hy]
          intro u H5 ι5 e5 w5 ru
          have ru : Rep X.K H5 ι5 (D :: κ) y u := ru
          refine ⟨ι5, D :: κ, S6, ρ', w5, (en'.up e4 w3).up e5 w4, ?_⟩
          rw [hz]
          intro v H6 ι6 e6 w6 rv
          have rv : Rep X.K H6 ι6 (D :: κ) z v := rv
          have hD5 : H5 D = some (.dK acc) := e5.keep D _ (w4.dj D List.mem_cons_self) hD4
          have hD6 : H6 D = some (.dK acc) := e6.keep D _ (w5.dj D List.mem_cons_self) hD5
          obtain ⟨hkv, hko⟩ := ky_rep ru hk
          have r6 : RepK X.K H6 ι6 (D :: κ) (merge [] done) acc := RepK.mono (e5.trans e6) w4.mut (fun _ z => .inl z) racc4
          have r7 := RepK.put r6 rv hko
          have hys : done ++ [(kk, z)] ++ rest' = ys := by rw [← hd, hrest]; simp
          refine ⟨acc, kk, hkv, hD6, ?_, n - (i + 1), rfl, ι6, S4, done ++ [(kk, z)], rest', putK acc kk v, hr', hys, Ext.over ((((e2.trans e3).trans e4).trans e5).trans e6) hD, w6.over List.mem_cons_self hD6 True.intro, upd_same, ?_, held_trans hh hheld⟩
          · have h1 := (RepK.keys racc).2
            have h2 : (done ++ [(kk, z)] ++ rest').length = ys.length := by rw [hys]
            have h4 := merge_len done []
            simp at h2 h4
            have h3 := LIM_line (n := ys.length) hlen
            omega
          · rw [merge_snoc]
            exact RepK.over List.mem_cons_self hD6 True.intro r7
        · rw [if_neg Bool.false_ne_true]
          exact ⟨n - (i + 1), rfl, ι4, S5, done, rest', acc, hr', by rw [← hd, hrest], (e2.trans e3).trans e4, w4, hD4, racc4, held_trans hh hheld⟩
      · have hi' : i = n := by omega
        subst hi'
        rw [List.drop_of_length_le (by omega)] at hr
        simp only [compR, R.ok.injEq] at hr
        obtain ⟨rfl, rfl⟩ := hr
        rw [List.append_nil] at hd
        subst hd
        exact .inl ⟨istop hn.symm, p D H2 ι2 (Ext.none e1 w1.mut hD) (e1.trans e2) w2 ⟨acc, hacc, racc⟩⟩
theorem s_dc (g : Gd T N Γ k X W sc) {kx vx it : Ex} {kx' vx' : Expr} {tg : Tg} {own : List Nat} {scope : Scope} (hi : PI X tg' it' (tI T X.K W Γ it)) (hf : plainE it' = true) (htg : mtT N scope tg tg' = true) (hsl : ∀ i ∈ slotsT tg, i ∈ own) (hown : (own.all fun i => decide (i < N.length)) = true)
    (hb : blkC N sc scope (ownOf N own) = true) (hcl : cnd.length ≤ 1) (hts : ifs'.all tst = true) (hc : ∀ X' W', Gd T N Γ k X' W' (relS scope sc) → X'.K = X.K → SndL T X' W' Γ cnd ifs')
    (hk : ∀ X' W', Gd T N Γ k X' W' (relS scope sc) → X'.K = X.K → Snd T X' W' Γ kx kx') (he : ∀ X' W', Gd T N Γ k X' W' (relS scope sc) → X'.K = X.K → Snd T X' W' Γ vx vx') :
    Snd T X W Γ (.dc kx vx tg it cnd own) (.DictComp kx' vx' [⟨tg', it', ifs', 0⟩] scope pos) := by
  refine .ofN rfl rfl (PE.wk (pe_dc (own := ownOf N own) (g := tG T X.K tg) (tt := tTs T X.K NoW Γ cnd) (tk := tE T X.K NoW Γ kx) (tv := tE T X.K NoW Γ vx) g.calm (by rw [g.hN]; exact g.nd) hi (by rw [g.hN, g.sc]; exact blkOk_by hb) (fun s H C cl fp => g_tg (X := X.blk s H scope (compEnvC scope cl C X.env) fp) (sc := scope) g.hN g.nd g.calm (fun x h => blk_loc x h) tg tg' htg) (fun s H C cl fp => ?_) (fun s H C cl fp => ?_) (fun s H C cl fp => ?_) (folded_plain hf)) fun σ H Q h => ?_)
  · exact pts_of (hc _ _ g.blk rfl) hcl hts
  · exact (hk _ _ g.blk rfl).pe
  · exact (he _ _ g.blk rfl).pe
  · rw [own_of hown]; exact i_dc hsl h
end
end MP
end

section
set_option Elab.async false
set_option linter.all false
set_option maxRecDepth 100000
/-! MpQ: every matched expression is sound. -/
namespace MP
open PySem PySem.Spec PyProof.Rows L2
section
variable {T : Tab} {N : List Str} {Γ : Ctx} {k : Nat}
theorem tupE_of {e : Expr} (h : tupE e = true) : ∃ es m p, e = .Tuple es m p := by
  cases e <;> first | exact ⟨_, _, _, rfl⟩ | (simp [tupE] at h)
theorem Ty.nm_inj {t : Ty} {y : Str} (h : y = t.nm) : y = t.nm := h
theorem fresh_flat {x : Ex} {sc : Scope} {e : Expr} (hf : fresh x = true) (h : mtE T N x sc e = true) : flatE e = true := by
  cases x <;> first
    | (simp [fresh] at hf; done)
    | (simp only [mtE] at h; first | (cases h; done) | (split at h <;> first | rfl | cases h))
mutual
theorem sE : ∀ (x : Ex) (X : Cx) (W : WX) (sc : Scope) (e : Expr), Gd T N Γ k X W sc → mtE T N x sc e = true → Snd T X W Γ x e
  | .var i, X, W, sc, e, g, h => by
    cases e with
    | Name n p =>
      simp only [mtE, Bool.and_eq_true, decide_eq_true_eq] at h
      exact s_var g h.1.1 h.1.2 h.2
    | _ => simp [mtE] at h
  | .con d, X, W, sc, e, g, h => s_con (by simpa only [mtE] using h)
  | .glo n d, X, W, sc, e, g, h => by
    cases e with
    | Name y p =>
      simp only [mtE, Bool.and_eq_true, decide_eq_true_eq] at h
      obtain ⟨⟨⟨rfl, h2⟩, h3⟩, h4⟩ := h
      exact s_glo g h2 h3 h4
    | _ => simp [mtE] at h
  | .tup xs, X, W, sc, e, g, h => by
    cases e with
    | Tuple es m p => simp only [mtE] at h; exact s_tup (sL xs X W sc es g h)
    | _ => simp [mtE] at h
  | .lst xs, X, W, sc, e, g, h => by
    cases e with
    | List es p => simp only [mtE] at h; exact s_lst (sL xs X W sc es g h)
    | _ => simp [mtE] at h
  | .dk, X, W, sc, e, g, h => by
    simp only [mtE] at h
    split at h
    · exact s_dk
    · cases h
  | .dt, X, W, sc, e, g, h => by
    simp only [mtE] at h
    split at h
    · exact s_dt
    · cases h
  | .mut x, X, W, sc, e, g, h => by
    simp only [mtE, Bool.and_eq_true] at h
    exact s_mut (fresh_flat h.1 h.2) (sE x X W sc e g h.2) h.1
  | .op o x y, X, W, sc, e, g, h => by
    cases e with
    | BinOp a o' b p =>
      simp only [mtE, Bool.and_eq_true, decide_eq_true_eq] at h
      obtain ⟨⟨rfl, h2⟩, h3⟩ := h
      exact s_op (sE x X W sc a g h2) (sE y X W sc b g h3)
    | _ => simp [mtE] at h
  | .neg x, X, W, sc, e, g, h => by
    simp only [mtE] at h
    split at h
    · exact s_neg (sE x X W sc _ g h)
    · cases h
  | .cmp o x y, X, W, sc, e, g, h => by
    simp only [mtE] at h
    split at h
    · simp only [Bool.and_eq_true, decide_eq_true_eq] at h
      obtain ⟨⟨rfl, h2⟩, h3⟩ := h
      exact s_cmp g (sE x X W sc _ g h2) (sE y X W sc _ g h3)
    · cases h
  | .chn o o' x y z, X, W, sc, e, g, h => by
    simp only [mtE] at h
    split at h
    · simp only [Bool.and_eq_true, decide_eq_true_eq] at h
      obtain ⟨⟨⟨⟨rfl, rfl⟩, h2⟩, h3⟩, h4⟩ := h
      exact s_chn g (sE x X W sc _ g h2) (sE y X W sc _ g h3) (sE z X W sc _ g h4)
    · cases h
  | .and xs, X, W, sc, e, g, h => by
    simp only [mtE] at h
    split at h
    · simp only [Bool.and_eq_true, decide_eq_true_eq] at h
      exact s_and (sL xs X W sc _ g h.1.1) (by intro z; rw [z] at h; simp at h) h.1.2
    · cases h
  | .or xs, X, W, sc, e, g, h => by
    simp only [mtE] at h
    split at h
    · simp only [Bool.and_eq_true, decide_eq_true_eq] at h
      exact s_or (sL xs X W sc _ g h.1.1) (by intro z; rw [z] at h; simp at h) h.1.2
    · cases h
  | .not x, X, W, sc, e, g, h => by
    simp only [mtE] at h
    split at h
    · simp only [Bool.and_eq_true] at h
      exact s_not (sE x X W sc _ g h.1) h.2
    · cases h
  | .ite x y z, X, W, sc, e, g, h => by
    cases e with
    | IfExp c a b p =>
      simp only [mtE, Bool.and_eq_true] at h
      exact s_ite (sE x X W sc _ g h.1.1.1) h.1.1.2 (sE y X W sc _ g h.1.2) (sE z X W sc _ g h.2)
    | _ => simp [mtE] at h
  | .ix x y, X, W, sc, e, g, h => by
    cases e with
    | Subscript a b p =>
      simp only [mtE, Bool.and_eq_true] at h
      exact s_ix g (sE x X W sc _ g h.1) (sE y X W sc _ g h.2)
    | _ => simp [mtE] at h
  | .sl x, X, W, sc, e, g, h => by
    simp only [mtE] at h
    split at h
    · exact s_sl (sE x X W sc _ g h)
    · cases h
  | .slL x y, X, W, sc, e, g, h => by
    simp only [mtE] at h
    split at h
    · simp only [Bool.and_eq_true] at h
      exact s_slL (sE x X W sc _ g h.1) (sE y X W sc _ g h.2)
    · cases h
  | .slH x y, X, W, sc, e, g, h => by
    simp only [mtE] at h
    split at h
    · simp only [Bool.and_eq_true] at h
      exact s_slH (sE x X W sc _ g h.1) (sE y X W sc _ g h.2)
    · cases h
  | .slB x y z, X, W, sc, e, g, h => by
    simp only [mtE] at h
    split at h
    · simp only [Bool.and_eq_true] at h
      exact s_slB (sE x X W sc _ g h.1.1) (sE y X W sc _ g h.1.2) (sE z X W sc _ g h.2)
    · cases h
  | .rev x, X, W, sc, e, g, h => by
    simp only [mtE] at h
    split at h
    · exact s_rev (sE x X W sc _ g h)
    · cases h
  | .call f xs, X, W, sc, e, g, h => by
    simp only [mtE] at h
    split at h
    · simp only [Bool.and_eq_true, decide_eq_true_eq] at h
      exact s_call g h.1.1.1 h.1.1.2 h.1.2 (sL xs X W sc _ g h.2)
    · cases h
  | .make C xs, X, W, sc, e, g, h => by
    simp only [mtE] at h
    split at h
    · simp only [Bool.and_eq_true] at h
      obtain ⟨⟨⟨h1, h2⟩, h3⟩, h4⟩ := h
      split at h1
      · rename_i cl hcl
        simp only [Bool.and_eq_true, decide_eq_true_eq] at h1
        exact s_make g hcl h1.1 h1.2 h2 h3 (sL xs X W sc _ g h4)
      · cases h1
    · cases h
  | .meth o m xs, X, W, sc, e, g, h => by
    simp only [mtE] at h
    split at h
    · simp only [Bool.and_eq_true, decide_eq_true_eq, Bool.not_eq_true'] at h
      obtain ⟨⟨⟨⟨⟨rfl, h1⟩, h2⟩, h3⟩, h4⟩, h5⟩ := h
      exact s_meth g (sE o X W sc _ g h4) (sL xs X W sc _ g h5) h3 h1 h2
    · cases h
  | .bi q xs, X, W, sc, e, g, h => by
    simp only [mtE] at h
    split at h
    · simp only [Bool.and_eq_true, decide_eq_true_eq] at h
      obtain ⟨⟨⟨rfl, h2⟩, h3⟩, h4⟩ := h
      have hl := sL xs X W sc _ g h3
      cases hl with
      | nil => simp at h4
      | cons a t => exact s_bi g h2 (.cons a t)
    · cases h
  | .isi x t, X, W, sc, e, g, h => by
    simp only [mtE] at h
    split at h
    · simp only [Bool.and_eq_true, decide_eq_true_eq] at h
      obtain ⟨⟨⟨⟨rfl, rfl⟩, h3⟩, h4⟩, h5⟩ := h
      exact s_isi g h3 h4 (sE x X W sc _ g h5)
    · cases h
  | .get1 o y, X, W, sc, e, g, h => by
    simp only [mtE] at h
    split at h
    · simp only [Bool.and_eq_true, decide_eq_true_eq, Bool.not_eq_true'] at h
      obtain ⟨⟨⟨⟨rfl, h1⟩, h2⟩, h3⟩, h4⟩ := h
      exact s_get1 g (sE o X W sc _ g h3) (sE y X W sc _ g h4) h2 h1
    · cases h
  | .get2 o y z, X, W, sc, e, g, h => by
    simp only [mtE] at h
    split at h
    · simp only [Bool.and_eq_true, decide_eq_true_eq, Bool.not_eq_true'] at h
      obtain ⟨⟨⟨⟨⟨rfl, h1⟩, h2⟩, h3⟩, h4⟩, h5⟩ := h
      exact s_get2 g (sE o X W sc _ g h3) (sE y X W sc _ g h4) (sE z X W sc _ g h5) h2 h1
    · cases h
  | .app o y, X, W, sc, e, g, h => by
    simp only [mtE] at h
    split at h
    · simp only [Bool.and_eq_true, decide_eq_true_eq, Bool.not_eq_true'] at h
      obtain ⟨⟨⟨⟨rfl, h1⟩, h2⟩, h3⟩, h4⟩ := h
      exact s_app (sE o X W sc _ g h3) (sE y X W sc _ g h4) h2 h1
    · cases h
  | .ext o y, X, W, sc, e, g, h => by
    simp only [mtE] at h
    split at h
    · simp only [Bool.and_eq_true, decide_eq_true_eq, Bool.not_eq_true'] at h
      obtain ⟨⟨⟨⟨rfl, h1⟩, h2⟩, h3⟩, h4⟩ := h
      exact s_ext (sE o X W sc _ g h3) (sE y X W sc _ g h4) h2 h1
    · cases h
  | .pop o, X, W, sc, e, g, h => by
    simp only [mtE] at h
    split at h
    · simp only [Bool.and_eq_true, decide_eq_true_eq, Bool.not_eq_true'] at h
      obtain ⟨⟨⟨rfl, h1⟩, h2⟩, h3⟩ := h
      exact s_pop (sE o X W sc _ g h3) h2 h1
    · cases h
  | .fld x f, X, W, sc, e, g, h => by
    simp only [mtE] at h
    split at h
    · simp only [Bool.and_eq_true, decide_eq_true_eq, Bool.not_eq_true'] at h
      obtain ⟨⟨⟨rfl, h1⟩, h2⟩, h3⟩ := h
      exact s_fld g h1 (sE x X W sc _ g h3) h2
    · cases h
  | .lc elt tg it cnd own, X, W, sc, e, g, h => by
    simp only [mtE] at h
    split at h
    · simp only [Bool.and_eq_true, decide_eq_true_eq] at h
      obtain ⟨⟨⟨⟨⟨⟨⟨⟨h1, h2⟩, h3⟩, h4⟩, h5⟩, h6⟩, h7⟩, h8⟩, h9⟩ := h
      obtain ⟨hi, hp⟩ := sI it X W sc _ _ g h1
      exact s_lc g hi hp h2 (by simpa using h8) h9 h7 h5 h4 (fun X' W' g' _ => sL cnd X' W' _ _ g' h3) (fun X' W' g' _ => sE elt X' W' _ _ g' h6)
    · cases h
  | .lc2 _ _ _ _ _ _ _, X, W, sc, e, g, h => by simp [mtE] at h
  | .dc kx vx tg it cnd own, X, W, sc, e, g, h => by
    simp only [mtE] at h
    split at h
    · simp only [Bool.and_eq_true, decide_eq_true_eq] at h
      obtain ⟨⟨⟨⟨⟨⟨⟨⟨⟨h1, h2⟩, h3⟩, h4⟩, h5⟩, h6⟩, h6'⟩, h7⟩, h8⟩, h9⟩ := h
      obtain ⟨hi, hp⟩ := sI it X W sc _ _ g h1
      exact s_dc g hi hp h2 (by simpa using h8) h9 h7 h5 h4 (fun X' W' g' _ => sL cnd X' W' _ _ g' h3) (fun X' W' g' _ => sE kx X' W' _ _ g' h6) (fun X' W' g' _ => sE vx X' W' _ _ g' h6')
    · cases h
  | .itv _, X, W, sc, e, g, h | .rg1 _, X, W, sc, e, g, h | .rg2 _ _, X, W, sc, e, g, h | .rg3 _ _ _, X, W, sc, e, g, h | .enm _, X, W, sc, e, g, h | .zp _ _, X, W, sc, e, g, h | .itm _, X, W, sc, e, g, h | .vls _, X, W, sc, e, g, h | .rvd _, X, W, sc, e, g, h => by
    simp [mtE] at h
theorem sL : ∀ (xs : List Ex) (X : Cx) (W : WX) (sc : Scope) (es : List Expr), Gd T N Γ k X W sc → mtL T N xs sc es = true → SndL T X W Γ xs es
  | [], X, W, sc, [], g, h => .nil
  | [], X, W, sc, _ :: _, g, h => by simp [mtL] at h
  | x :: xs, X, W, sc, [], g, h => by simp [mtL] at h
  | x :: xs, X, W, sc, e :: es, g, h => by
    simp only [mtL, Bool.and_eq_true] at h
    exact .cons (sE x X W sc e g h.1) (sL xs X W sc es g h.2)
theorem sI : ∀ (x : Ex) (X : Cx) (W : WX) (sc : Scope) (e tg : Expr), Gd T N Γ k X W sc → mtI T N x sc e (tupE tg) = true → PI X tg e (tI T X.K W Γ x) ∧ plainE e = true
  | .itv x, X, W, sc, e, tg, g, h => by
    simp only [mtI] at h
    have := sE x X W sc e g h
    exact ⟨i_itv this, this.pl⟩
  | .rg1 x, X, W, sc, e, tg, g, h => by
    simp only [mtI] at h
    split at h
    · simp only [Bool.and_eq_true, decide_eq_true_eq] at h
      obtain ⟨⟨rfl, h1⟩, h2⟩ := h
      exact ⟨i_rg1 g h1 (sE x X W sc _ g h2), rfl⟩
    · cases h
  | .rg2 x y, X, W, sc, e, tg, g, h => by
    simp only [mtI] at h
    split at h
    · simp only [Bool.and_eq_true, decide_eq_true_eq] at h
      obtain ⟨⟨⟨rfl, h1⟩, h2⟩, h3⟩ := h
      exact ⟨i_rg2 g h1 (sE x X W sc _ g h2) (sE y X W sc _ g h3), rfl⟩
    · cases h
  | .rg3 x y z, X, W, sc, e, tg, g, h => by
    simp only [mtI] at h
    split at h
    · simp only [Bool.and_eq_true, decide_eq_true_eq] at h
      obtain ⟨⟨⟨⟨rfl, h1⟩, h2⟩, h3⟩, h4⟩ := h
      exact ⟨i_rg3 g h1 (sE x X W sc _ g h2) (sE y X W sc _ g h3) (sE z X W sc _ g h4), rfl⟩
    · cases h
  | .enm x, X, W, sc, e, tg, g, h => by
    simp only [mtI] at h
    split at h
    · simp only [Bool.and_eq_true, decide_eq_true_eq] at h
      obtain ⟨⟨⟨rfl, h1⟩, h2⟩, h3⟩ := h
      obtain ⟨tes, m, tp, rfl⟩ := tupE_of h3
      exact ⟨i_enm g h1 (sE x X W sc _ g h2), rfl⟩
    · cases h
  | .zp x y, X, W, sc, e, tg, g, h => by
    simp only [mtI] at h
    split at h
    · simp only [Bool.and_eq_true, decide_eq_true_eq] at h
      obtain ⟨⟨⟨⟨rfl, h1⟩, h2⟩, h4⟩, h3⟩ := h
      obtain ⟨tes, m, tp, rfl⟩ := tupE_of h3
      exact ⟨i_zp g h1 (sE x X W sc _ g h2) (sE y X W sc _ g h4), rfl⟩
    · cases h
  | .itm x, X, W, sc, e, tg, g, h => by
    simp only [mtI] at h
    split at h
    · simp only [Bool.and_eq_true, decide_eq_true_eq, Bool.not_eq_true'] at h
      obtain ⟨⟨⟨⟨rfl, h1⟩, h2⟩, h4⟩, h3⟩ := h
      obtain ⟨tes, m, tp, rfl⟩ := tupE_of h3
      exact ⟨i_itm (sE x X W sc _ g h4) h2 h1, rfl⟩
    · cases h
  | .vls x, X, W, sc, e, tg, g, h => by
    simp only [mtI] at h
    split at h
    · simp only [Bool.and_eq_true, decide_eq_true_eq, Bool.not_eq_true'] at h
      obtain ⟨⟨⟨rfl, h1⟩, h2⟩, h4⟩ := h
      exact ⟨i_vls (sE x X W sc _ g h4) h2 h1, rfl⟩
    · cases h
  | .rvd x, X, W, sc, e, tg, g, h => by
    simp only [mtI] at h
    split at h
    · simp only [Bool.and_eq_true, decide_eq_true_eq] at h
      obtain ⟨⟨rfl, h1⟩, h2⟩ := h
      exact ⟨i_rvd g h1 (sE x X W sc _ g h2), rfl⟩
    · cases h
  | .var _, X, W, sc, e, tg, g, h | .con _, X, W, sc, e, tg, g, h | .glo _ _, X, W, sc, e, tg, g, h | .tup _, X, W, sc, e, tg, g, h | .lst _, X, W, sc, e, tg, g, h | .dk, X, W, sc, e, tg, g, h | .dt, X, W, sc, e, tg, g, h | .mut _, X, W, sc, e, tg, g, h
  | .op _ _ _, X, W, sc, e, tg, g, h | .neg _, X, W, sc, e, tg, g, h | .cmp _ _ _, X, W, sc, e, tg, g, h | .chn _ _ _ _ _, X, W, sc, e, tg, g, h | .and _, X, W, sc, e, tg, g, h | .or _, X, W, sc, e, tg, g, h | .not _, X, W, sc, e, tg, g, h | .ite _ _ _, X, W, sc, e, tg, g, h
  | .ix _ _, X, W, sc, e, tg, g, h | .sl _, X, W, sc, e, tg, g, h | .slL _ _, X, W, sc, e, tg, g, h | .slH _ _, X, W, sc, e, tg, g, h | .slB _ _ _, X, W, sc, e, tg, g, h | .rev _, X, W, sc, e, tg, g, h | .call _ _, X, W, sc, e, tg, g, h | .make _ _, X, W, sc, e, tg, g, h
  | .meth _ _ _, X, W, sc, e, tg, g, h | .bi _ _, X, W, sc, e, tg, g, h | .isi _ _, X, W, sc, e, tg, g, h | .get1 _ _, X, W, sc, e, tg, g, h | .get2 _ _ _, X, W, sc, e, tg, g, h | .app _ _, X, W, sc, e, tg, g, h | .ext _ _, X, W, sc, e, tg, g, h | .pop _, X, W, sc, e, tg, g, h | .fld _ _, X, W, sc, e, tg, g, h
  | .lc _ _ _ _ _, X, W, sc, e, tg, g, h | .lc2 _ _ _ _ _ _ _, X, W, sc, e, tg, g, h | .dc _ _ _ _ _ _, X, W, sc, e, tg, g, h => by simp [mtI] at h
end
end
end MP
end

section
set_option Elab.async false
set_option linter.all false
set_option maxRecDepth 100000
/-! MpR: statements, the simple ones. -/
namespace MP
open PySem PySem.Spec PyProof.Rows L2
structure GdS (T : Tab) (N : List Str) (Γ : Ctx) (k : Nat) (X : Cx) (W : WX) (sc : Scope) : Prop extends Gd T N Γ k X W sc where
  stk : X.stack = X.env :: X.outer
  frm : X.env.frame = some X.env.locals
  own : PassesOwn (model X.prog X.w) X.A X.env X.xe
  fn : ∀ x, X.env.scope.names.lookup x = some .cell → X.fn x = true
  kind : X.env.scope.kind = .function
theorem GdS.tr {T : Tab} {N : List Str} {Γ : Ctx} {k : Nat} {X : Cx} {W W' : WX} {sc : Scope} (g : GdS T N Γ k X W sc) {pn : List (Addr × Obj)} {xe : Value → Shared → Prop} (tk : Takes (X.tr pn xe) W') (ow : PassesOwn (model X.prog X.w) X.A X.env xe) : GdS T N Γ k (X.tr pn xe) W' sc where
  sc := g.sc
  hN := g.hN
  nd := g.nd
  calm := g.calm
  room := g.room
  tk := tk
  glo := g.glo
  stk := g.stk
  frm := g.frm
  own := ow
  fn := g.fn
  kind := g.kind
def PostS (T : Tab) (K : PySem.W.Frag) (κ : List Addr) (W : WX) (D : Ends) (H : Hp) (ι : List Addr) (r : RS) : Prop := match r with
  | .ok (.nx ρ) S => ∀ σ H' ι', Ext H ι H' ι' → Wd T K H' ι' κ S → EnvR K H' ι' κ σ ρ → D.nx σ H'
  | .ok (.brk ρ) S => ∀ σ H' ι', Ext H ι H' ι' → Wd T K H' ι' κ S → EnvR K H' ι' κ σ ρ → D.bk σ H'
  | .ok (.cnt ρ) S => ∀ σ H' ι', Ext H ι H' ι' → Wd T K H' ι' κ S → EnvR K H' ι' κ σ ρ → D.ct σ H'
  | .ok (.ret d) S => ∀ v H' ι', Ext H ι H' ι' → Wd T K H' ι' κ S → Rep K H' ι' κ d v → D.rt v H'
  | .exc C fs ρ S => ∀ cls dx σ H' ι', Ext H ι H' ι' → Wd T K H' ι' κ S → EnvR K H' ι' κ σ ρ → ExR T K H' ι' κ C fs cls dx → W cls dx σ H'
  | .no => False
def tS (T : Tab) (K : PySem.W.Frag) (W : WX) (Γ : Ctx) (s : Sm) : TS := fun D σ H => ∃ ι κ S ρ, Wd T K H ι κ S ∧ EnvR K H ι κ σ ρ ∧ PostS T K κ W D H ι (evS Γ s ρ S)
def tSs (T : Tab) (K : PySem.W.Frag) (W : WX) (Γ : Ctx) (s : List Sm) : TS := fun D σ H => ∃ ι κ S ρ, Wd T K H ι κ S ∧ EnvR K H ι κ σ ρ ∧ PostS T K κ W D H ι (evSs Γ s ρ S)
theorem PS.wk {X : Cx} {e : Stmt} {t t' : TS} (h : PS X e t) (i : ∀ D σ H, t' D σ H → t D σ H) : PS X e t' := ⟨fun pins s σ H D I q => h.run pins s σ H D I (i D σ H q)⟩
theorem PSs.wk {X : Cx} {e : List Stmt} {t t' : TS} (h : PSs X e t) (i : ∀ D σ H, t' D σ H → t D σ H) : PSs X e t' := ⟨fun pins s σ H D I q => h.run pins s σ H D I (i D σ H q)⟩
section
variable {T : Tab} {K : PySem.W.Frag} {W : WX} {Γ : Ctx} {D : Ends} {H H1 : Hp} {ι ι1 κ : List Addr} {σ : L2.St} {ρ : Env} {S : Sto}
theorem PostS.trans {r : RS} (h : PostS T K κ W D H ι r) (e : Ext H ι H1 ι1) : PostS T K κ W D H1 ι1 r := by
  cases r with
  | ok f S => cases f <;> exact fun a H' ι' e' w q => h a H' ι' (e.trans e') w q
  | exc C fs ρ S => exact fun c d σ H' ι' e' w q => h c d σ H' ι' (e.trans e') w q
  | no => exact h
theorem PostS.go {α γ : Type} {rel : Hp → List Addr → α → γ → Prop} {r : R α} {k : α → Sto → RS} {Q1 : γ → Hp → Prop} (h : PostS T K κ W D H ι (r.go ρ k)) (en : EnvR K H ι κ σ ρ) (m : ∀ a ∈ ι, Mut (H a))
    (f : ∀ a S1 g H1 ι1, r = .ok a S1 → Ext H ι H1 ι1 → Wd T K H1 ι1 κ S1 → rel H1 ι1 a g → PostS T K κ W D H1 ι1 (k a S1) → Q1 g H1) : Post T K κ W σ rel H ι r Q1 := by
  cases r with
  | ok a S => exact fun g H' ι' e w q => f a S g H' ι' rfl e w q (PostS.trans h e)
  | exc C fs S => exact fun c d H' ι' e w q => h c d σ H' ι' e w (en.mono e m fun _ z => .inl z) q
  | no => exact h
theorem PostS.goI {r : R (List MP.D × Option Nat)} {k : (List MP.D × Option Nat) → Sto → RS} {Q1 : It → Hp → Prop} (h : PostS T K κ W D H ι (r.go ρ k)) (en : EnvR K H ι κ σ ρ) (m : ∀ a ∈ ι, Mut (H a))
    (f : ∀ a S1 g H1 ι1, r = .ok a S1 → Ext H ι H1 ι1 → Wd T K H1 ι1 κ S1 → IW T K κ S1 H1 ι1 a g → PostS T K κ W D H1 ι1 (k a S1) → Q1 g H1) : PostI T K κ W σ H ι r Q1 := by
  cases r with
  | ok a S => exact fun g H' ι' e w q => f a S g H' ι' rfl e w q (PostS.trans h e)
  | exc C fs S => exact fun c d H' ι' e w q => h c d σ H' ι' e w (en.mono e m fun _ z => .inl z) q
  | no => exact h
end
section
variable {T : Tab} {N : List Str} {Γ : Ctx} {k : Nat} {X : Cx} {W : WX} {sc : Scope} {x y z : Ex} {a b c e o : Expr} {xs : List Ex} {es : List Expr} {pos p : Pos}
theorem GdS.tgt (g : GdS T N Γ k X W sc) : ∀ x, locB sc x = true → L2.Loc X.env.scope x ∧ (X.fn x = true ∨ X.env.scope.names.lookup x = some .local) := fun x h => by
  refine ⟨g.loc h, ?_⟩
  unfold locB at h
  split at h
  · rename_i hl; right; rw [g.sc]; exact hl
  · rename_i hl; exact .inl (g.fn x (by rw [g.sc]; exact hl))
  · cases h
theorem GdS.tg (g : GdS T N Γ k X W sc) {t : Tg} {e : Expr} (h : mtT N sc t e = true) : PG X e (tG T X.K t) := g_tg g.hN g.nd g.calm g.tgt t e h
/-- behind the value, the target -/
theorem i_asg {t : Tg} {D : Ends} {σ : L2.St} {H : Hp} (h : tS T X.K W Γ (.asg t x) D σ H) : tAsg (tE T X.K W Γ x) (tG T X.K t) D σ H := by
  obtain ⟨ι, κ, S, ρ, w, en, p⟩ := h
  simp only [evS] at p
  refine ⟨ι, κ, S, ρ, w, en, PostS.go p en w.mut fun d S1 v H1 ι1 _ e1 w1 r1 p1 => ?_⟩
  split at p1
  · rename_i ρ' hb
    exact ⟨ι1, κ, S1, ρ, d, ρ', w1, en.up e1 w, r1, hb, fun σ' en' _ => p1 σ' H1 ι1 Ext.refl w1 en'⟩
  · exact p1.elim
def isLC : Expr → Bool
  | .ListComp _ _ _ _ | .SetComp _ _ _ _ | .DictComp _ _ _ _ _ => true
  | _ => false
theorem sw_plain {e : Expr} {t : Option Expr} {l : Nat} {env : PySem.Env} (h : isLC e = false) : swapsWith e t l env = pure false := by
  cases e <;> first | rfl | (simp [isLC] at h)
/-- name = value -/
theorem st_set (g : GdS T N Γ k X W sc) {t : Tg} {n : Str} {np : Pos} (ht : mtT N sc t (.Name n np) = true) (hx : Snd T X W Γ x e) (hl : isLC e = false) : PS X (.Assign [.Name n np] e pos) (tS T X.K W Γ (.asg t x)) := by
  cases t with
  | nm i =>
    simp only [mtT, Bool.and_eq_true, decide_eq_true_eq] at ht
    obtain ⟨h1, h2⟩ := g.tgt n ht.2
    refine PS.wk (ps_set (by rw [g.hN]; exact g.nd) (by rw [g.hN]; exact ht.1) h1 hx.pe (sw_plain hl) h2) fun D σ H h => ?_
    obtain ⟨ι, κ, S, ρ, w, en, p⟩ := h
    simp only [evS] at p
    refine ⟨ι, κ, S, ρ, w, en, PostS.go p en w.mut fun d S1 v H1 ι1 _ e1 w1 r1 p1 => ?_⟩
    simp only [bindT] at p1
    split at p1
    · rename_i ρ' hb
      split at hb
      · cases hb
        exact p1 _ H1 ι1 Ext.refl w1 ((en.up e1 w).set r1)
      · cases hb
    · exact p1.elim
  | tp ts => simp [mtT] at ht
/-- other targets -/
theorem st_asg (g : GdS T N Γ k X W sc) {t : Tg} {tg : Expr} (ht : mtT N sc t tg = true) (hx : Snd T X W Γ x e) (hs : swapsWithSole [tg] e pos.line X.env = pure false) (hw : swappedStores [tg] e X.env = pure none) (h1 : (assignEach [tg] X.env).map (·.2) = [assign tg X.env]) :
    PS X (.Assign [tg] e pos) (tS T X.K W Γ (.asg t x)) := PS.wk (ps_asg hx.pe (g.tg ht) hs hw h1) fun _ _ _ h => i_asg h
/-! name = [..], name = {..}, on one line -/
def rlkN (k : L2.St → Hp → Prop) : L2.St → Hp → Prop := fun σ H => k σ H ∨ ∃ a u, H a = some u ∧ Mut (some u) ∧ ∀ od, k σ (upd H a (.frz od u))
theorem PS.relock {X : Cx} {st : Stmt} {t : TS} (h : PS X st t) : PS X st (fun D σ H => t { D with nx := rlkN D.nx } σ H) := ⟨fun pins s σ H D I q => thn (h.run pins s σ H _ I q) fun f s1 z => by
  cases f with
  | next =>
    obtain ⟨σ', H', I', q'⟩ := z
    rcases q' with q' | ⟨a, u, hu, mu, q'⟩
    · exact ⟨σ', H', I', q'⟩
    · obtain ⟨od, I2⟩ := I'.lock hu mu
      exact ⟨_, _, I2, q' od⟩
  | brk => exact z
  | cont => exact z
  | ret u => exact z⟩
theorem tN.imp {K : PySem.W.Frag} {σ : L2.St} {H : Hp} {Q Q' : VK} (h : tN T K W Γ x σ H Q) (f : ∀ v H, Q v H → Q' v H) : tN T K W Γ x σ H Q' := by
  obtain ⟨ι, κ, S, ρ, w, en, p⟩ := h
  refine ⟨ι, κ, S, ρ, w, en, ?_⟩
  cases hr : evE Γ x ρ S with
  | ok d S' => rw [hr] at p; exact fun q H' ι' hn e w' z => f _ _ (p q H' ι' hn e w' z)
  | exc C fs S' => rw [hr] at p; exact p
  | no => rw [hr] at p; exact p
/-- what name = (y, a fresh one) asks, asked of the fresh one itself -/
theorem i_setN {K : PySem.W.Frag} {i : Nat} {D : Ends} {σ : L2.St} {H : Hp} (hy : y = x ∨ y = .mut x) (h : tS T K W Γ (.asg (.nm i) y) D σ H) : tN T K W Γ x σ H fun v H1 => rlkN D.nx (σ.set i (some v)) H1 := by
  obtain ⟨ι, κ, S, ρ, w, en, p⟩ := h
  simp only [evS] at p
  have h1 : tE T K W Γ y σ H fun v H1 => D.nx (σ.set i (some v)) H1 := ⟨ι, κ, S, ρ, w, en, PostS.go p en w.mut fun d S1 v H1 ι1 _ e1 w1 r1 p1 => by
    simp only [bindT] at p1
    split at p1
    · rename_i ρ' hb
      split at hb
      · cases hb
        exact p1 _ H1 ι1 Ext.refl w1 ((en.up e1 w).set r1)
      · cases hb
    · exact p1.elim⟩
  rcases hy with rfl | rfl
  · refine (tE_of_tN h1).imp fun v H q => ?_
    rcases q with q | ⟨a, u, _, hu, mu, q⟩
    · exact .inl q
    · exact .inr ⟨a, u, hu, mu, q⟩
  · exact (tN_mut h1).imp fun v H q => .inl q
theorem st_lc (g : GdS T N Γ k X W sc) {it elt : Ex} {cnd : List Ex} {tg : Tg} {own : List Nat} {scope : Scope} {elt' it' tg' : Expr} {ifs' : List Expr} {i : Nat} {n : Str} {np lp : Pos} (hy : y = .lc elt tg it cnd own ∨ y = .mut (.lc elt tg it cnd own)) (hN : N[i]? = some n) (hloc : sc.names.lookup n = some .local)
    (hln : (np.line == lp.line) = true) (hno : (scope.names.any fun (m, k) => m == n && (k == .local || k == .cell)) = false)
    (hi : PI X tg' it' (tI T X.K W Γ it)) (hf : plainE it' = true) (htg : mtT N scope tg tg' = true) (hsl : ∀ i ∈ slotsT tg, i ∈ own) (hown : (own.all fun i => decide (i < N.length)) = true)
    (hb : blkC N sc scope (ownOf N own) = true) (hcl : cnd.length ≤ 1) (hts : ifs'.all tst = true) (hc : ∀ X' W', Gd T N Γ k X' W' (relS scope sc) → SndL T X' W' Γ cnd ifs') (he : ∀ X' W', Gd T N Γ k X' W' (relS scope sc) → Snd T X' W' Γ elt elt') :
    PS X (.Assign [.Name n np] (.ListComp elt' [⟨tg', it', ifs', 0⟩] scope lp) pos) (tS T X.K W Γ (.asg (.nm i) y)) := by
  have hsw : swapsWith (.ListComp elt' [⟨tg', it', ifs', 0⟩] scope lp) (some (.Name n np)) pos.line X.env = pure true := sw_true g.kind (by rw [g.sc]; exact hloc) hln hno
  refine PS.wk (PS.relock (ps_setLc (i := i) (own := ownOf N own) (g := tG T X.K tg) (tt := tTs T X.K NoW Γ cnd) (te := tE T X.K NoW Γ elt) g.calm (by rw [g.hN]; exact g.nd) (by rw [g.hN]; exact hN) (by rw [g.sc]; exact hloc) hsw hi (by rw [g.hN, g.sc]; exact blkOk_by hb) (fun s H C cl fp => g_tg (X := X.blk s H scope (compEnvC scope cl C X.env) fp) (sc := scope) g.hN g.nd g.calm (fun x h => blk_loc x h) tg tg' htg) (fun s H C cl fp => ?_) (fun s H C cl fp => ?_) (folded_plain hf))) fun D σ H h => ?_
  · have gb := g.toGd.blk (s := s) (H := H) (scope := scope) (cl := cl) (C := C) (fp := fp)
    exact pts_of (hc _ _ gb) hcl hts
  · have gb := g.toGd.blk (s := s) (H := H) (scope := scope) (cl := cl) (C := C) (fp := fp)
    exact (he _ _ gb).pe
  · show tLc _ _ _ _ ((ownOf N own).map (·.2)) σ H _
    rw [own_of hown]
    exact i_lc (W := W) (X := X) hsl (i_setN hy h)
/-! small statements -/
theorem st_ex (hx : Snd T X W Γ x e) (hl : isLC e = false) : PS X (.Expr e pos) (tS T X.K W Γ (.ex x)) := by
  refine PS.wk (ps_expr hx.pe (sw_plain hl)) fun D σ H ⟨ι, κ, S, ρ, w, en, p⟩ => ?_
  simp only [evS] at p
  exact ⟨ι, κ, S, ρ, w, en, PostS.go p en w.mut fun d S1 v H1 ι1 _ e1 w1 r1 p1 => p1 σ H1 ι1 Ext.refl w1 (en.up e1 w)⟩
theorem st_ret (hx : Snd T X W Γ x e) : PS X (.Return (some e) pos) (tS T X.K W Γ (.ret x)) := by
  refine PS.wk (ps_ret hx.pe) fun D σ H ⟨ι, κ, S, ρ, w, en, p⟩ => ?_
  simp only [evS] at p
  exact ⟨ι, κ, S, ρ, w, en, PostS.go p en w.mut fun d S1 v H1 ι1 _ e1 w1 r1 p1 => p1 v H1 ι1 Ext.refl w1 r1⟩
theorem st_retN : PS X (.Return none pos) (tS T X.K W Γ .retN) := by
  refine PS.wk ps_retN fun D σ H ⟨ι, κ, S, ρ, w, en, p⟩ => ?_
  simp only [evS] at p
  exact p .non H ι Ext.refl w (by simp only [Rep])
theorem st_brk : PS X (.Break pos) (tS T X.K W Γ .brk) := by
  refine PS.wk ps_break fun D σ H ⟨ι, κ, S, ρ, w, en, p⟩ => ?_
  simp only [evS] at p
  exact p σ H ι Ext.refl w en
theorem st_cnt : PS X (.Continue pos) (tS T X.K W Γ .cnt) := by
  refine PS.wk ps_continue fun D σ H ⟨ι, κ, S, ρ, w, en, p⟩ => ?_
  simp only [evS] at p
  exact p σ H ι Ext.refl w en
theorem st_pas : PS X (.Pass pos) (tS T X.K W Γ .pas) := by
  refine PS.wk ps_pass fun D σ H ⟨ι, κ, S, ρ, w, en, p⟩ => ?_
  simp only [evS] at p
  exact p σ H ι Ext.refl w en
theorem st_if {sa sb : List Sm} {as bs : List Stmt} (hc : Snd T X W Γ x c) (ht : tst c = true) (ha : PSs X as (tSs T X.K W Γ sa)) (hb : PSs X bs (tSs T X.K W Γ sb)) : PS X (.If c as bs pos) (tS T X.K W Γ (.ifs x sa sb)) := by
  refine PS.wk (ps_if (hc.pt ht) ha hb) fun D σ H ⟨ι, κ, S, ρ, w, en, p⟩ => ?_
  simp only [evS] at p
  refine ⟨ι, κ, S, ρ, w, en, ?_⟩
  cases hx : evE Γ x ρ S with
  | ok d S1 =>
    rw [hx] at p
    cases d with
    | bl v =>
      intro g H' ι' e w' q
      obtain rfl : v = g := q
      have p : PostS T X.K κ W D H ι (match MP.D.bl v with | .bl true => evSs Γ sa ρ S1 | .bl false => evSs Γ sb ρ S1 | _ => .no) := p
      cases v with
      | true => rw [if_pos rfl]; exact ⟨ι', κ, S1, ρ, w', en.up e w, PostS.trans p e⟩
      | false => rw [if_neg Bool.false_ne_true]; exact ⟨ι', κ, S1, ρ, w', en.up e w, PostS.trans p e⟩
    | _ => exact p.elim
  | exc C fs S1 => rw [hx] at p; exact fun c d H' ι' e w' q => p c d σ H' ι' e w' (en.up e w) q
  | no => rw [hx] at p; exact p
theorem sts_nil : PSs X [] (tSs T X.K W Γ []) := by
  refine PSs.wk pss_nil fun D σ H ⟨ι, κ, S, ρ, w, en, p⟩ => ?_
  simp only [evSs] at p
  exact p σ H ι Ext.refl w en
theorem sts_cons {st : Stmt} {sts : List Stmt} {s : Sm} {ss : List Sm} (h1 : PS X st (tS T X.K W Γ s)) (h2 : PSs X sts (tSs T X.K W Γ ss)) : PSs X (st :: sts) (tSs T X.K W Γ (s :: ss)) := by
  refine PSs.wk (pss_cons h1 h2) fun D σ H ⟨ι, κ, S, ρ, w, en, p⟩ => ?_
  simp only [evSs] at p
  refine ⟨ι, κ, S, ρ, w, en, ?_⟩
  cases hs : evS Γ s ρ S with
  | ok f S1 =>
    rw [hs] at p
    cases f with
    | nx ρ1 => exact fun σ' H' ι' e w' en' => ⟨ι', κ, S1, ρ1, w', en', PostS.trans p e⟩
    | ret d => exact p
    | brk ρ1 => exact p
    | cnt ρ1 => exact p
  | exc C fs ρ1 S1 => rw [hs] at p; exact p
  | no => rw [hs] at p; exact p
end
end MP
end

section
set_option Elab.async false
set_option linter.all false
set_option maxRecDepth 100000
/-! MpS: loops; stores into lists, dicts, instances. -/
namespace MP
open PySem PySem.Spec PyProof.Rows L2
section
variable {T : Tab} {N : List Str} {Γ : Ctx} {k : Nat} {X : Cx} {W : WX} {sc : Scope} {x y z : Ex} {a b c e o : Expr} {xs : List Ex} {es : List Expr} {pos p p1 : Pos}
/-- name = {..} on one line -/
theorem ps_setDc {i : Nat} {y : Str} {py : Pos} {kx vx tg iter : Expr} {ifs : List Expr} {scope : Scope} {own : List (Str × Nat)} {pos spos : Pos} {wi : TI} {g : TG} {tt : TT} {tk tv : TE} (hc : X.calm = true) (hN : X.N.Nodup) (hy : X.N[i]? = some y) (hyl : X.env.scope.names.lookup y = some .local)
    (hsw : swapsWith (.DictComp kx vx [⟨tg, iter, ifs, 0⟩] scope pos) (some (.Name y py)) spos.line X.env = pure true) (hi : PI X tg iter wi) (ok : BlkOk X.N X.env.scope scope own)
    (hg : ∀ (s : Shared) (H : Hp) (C : Addr) (cl : List (Str × Addr)) (fp : List Addr), PG (X.blk s H scope (compEnvC scope cl C X.env) fp) tg g) (ht : ∀ (s : Shared) (H : Hp) (C : Addr) (cl : List (Str × Addr)) (fp : List Addr), PTs (X.blk s H scope (compEnvC scope cl C X.env) fp) ifs tt)
    (hk : ∀ (s : Shared) (H : Hp) (C : Addr) (cl : List (Str × Addr)) (fp : List Addr), PE (X.blk s H scope (compEnvC scope cl C X.env) fp) kx tk)
    (he : ∀ (s : Shared) (H : Hp) (C : Addr) (cl : List (Str × Addr)) (fp : List Addr), PE (X.blk s H scope (compEnvC scope cl C X.env) fp) vx tv) (hs : ∀ x, foldedSetIterable iter X.env x = pure x) :
    PS X (.Assign [.Name y py] (.DictComp kx vx [⟨tg, iter, ifs, 0⟩] scope pos) spos) (tAsg (tDc wi g tt tk tv (own.map (·.2))) (gName i)) := by
  refine ⟨fun pins s σ H D I h => ?_⟩
  rw [exec_Assign_Name_used _ _ _ _ hsw]
  refine wpAny_bind (wpAny_standAt (wpAny_bind ?_))
  show wpAny _ X.A (do let _ ← comprehension (.DictComp kx vx [⟨tg, iter, ifs, 0⟩] scope pos) scope X.env (firstIterPos [⟨tg, iter, ifs, 0⟩] pos) newDict false (eval iter X.env) (some (assign (.Name y py) X.env))) _ _ s
  have h : tDc wi g tt tk tv (own.map (·.2)) σ H (fun x H1 => gName i x σ H1 D.nx) := h
  refine wpAny_bind (thn (dc_core (Qf := fun _ s' => SP X pins D .next s') hc hN I hi ok hg ht hk he hs h fun L C s' m H' I' q hn f => ?_) fun _ s' hq => wpAny_pure (wpAny_pure hq))
  show wpAny _ _ (assign (.Name y py) X.env (.ref L)) _ _ _
  refine wpAny_assign_Name (store_ok2 (v := V.ref L) I' hN hy (.inl hyl) rfl (fun s2 I2 ⟨a, sb, ha⟩ => ?_) (.inr hyl))
  obtain ⟨f0, f1, f2, f3, f4, f5⟩ := f
  have haC : C ≠ a := by
    rcases ha with z | z
    · rw [z]; exact f1
    · exact fun e => f4 y a z e.symm
  refine ⟨m, hn.sameBut sb haC, fun h3 sb3 => ?_⟩
  exact ⟨_, H', I2.turned (t' := s2.toks) (fun b o hb e => (sb3.2 b hb).trans e) f0 f1 f3 f4 f5, q⟩
theorem sw_trueD {kx vx : Expr} {gs : List Comprehension} {scope : Scope} {pos py : Pos} {y : Str} {l : Nat} {env : PySem.Env} (hk : env.scope.kind = .function) (hy : env.scope.names.lookup y = some .local) (hl : (py.line == pos.line) = true)
    (ha : (scope.names.any fun (n, k) => n == y && (k == .local || k == .cell)) = false) : swapsWith (.DictComp kx vx gs scope pos) (some (.Name y py)) l env = pure true := by
  have ky : env.kindOf y = some .local := hy
  have hb : env.blockKind = .function := by unfold Env.blockKind; rw [hk]; rfl
  unfold swapsWith
  simp only [hb, ky, ha, Expr.pos, hl]
  rfl
theorem st_dc (g : GdS T N Γ k X W sc) {it kx vx : Ex} {cnd : List Ex} {tg : Tg} {own : List Nat} {scope : Scope} {kx' vx' it' tg' : Expr} {ifs' : List Expr} {i : Nat} {n : Str} {np lp : Pos} (hy : y = .dc kx vx tg it cnd own ∨ y = .mut (.dc kx vx tg it cnd own)) (hN : N[i]? = some n) (hloc : sc.names.lookup n = some .local)
    (hln : (np.line == lp.line) = true) (hno : (scope.names.any fun (m, k) => m == n && (k == .local || k == .cell)) = false)
    (hi : PI X tg' it' (tI T X.K W Γ it)) (hf : plainE it' = true) (htg : mtT N scope tg tg' = true) (hsl : ∀ i ∈ slotsT tg, i ∈ own) (hown : (own.all fun i => decide (i < N.length)) = true)
    (hb : blkC N sc scope (ownOf N own) = true) (hcl : cnd.length ≤ 1) (hts : ifs'.all tst = true) (hc : ∀ X' W', Gd T N Γ k X' W' (relS scope sc) → SndL T X' W' Γ cnd ifs')
    (hk : ∀ X' W', Gd T N Γ k X' W' (relS scope sc) → Snd T X' W' Γ kx kx') (he : ∀ X' W', Gd T N Γ k X' W' (relS scope sc) → Snd T X' W' Γ vx vx') :
    PS X (.Assign [.Name n np] (.DictComp kx' vx' [⟨tg', it', ifs', 0⟩] scope lp) pos) (tS T X.K W Γ (.asg (.nm i) y)) := by
  have hsw : swapsWith (.DictComp kx' vx' [⟨tg', it', ifs', 0⟩] scope lp) (some (.Name n np)) pos.line X.env = pure true := sw_trueD g.kind (by rw [g.sc]; exact hloc) hln hno
  refine PS.wk (PS.relock (ps_setDc (i := i) (own := ownOf N own) (g := tG T X.K tg) (tt := tTs T X.K NoW Γ cnd) (tk := tE T X.K NoW Γ kx) (tv := tE T X.K NoW Γ vx) g.calm (by rw [g.hN]; exact g.nd) (by rw [g.hN]; exact hN) (by rw [g.sc]; exact hloc) hsw hi (by rw [g.hN, g.sc]; exact blkOk_by hb) (fun s H C cl fp => g_tg (X := X.blk s H scope (compEnvC scope cl C X.env) fp) (sc := scope) g.hN g.nd g.calm (fun x h => blk_loc x h) tg tg' htg) (fun s H C cl fp => ?_) (fun s H C cl fp => ?_) (fun s H C cl fp => ?_) (folded_plain hf))) fun D σ H h => ?_
  · have gb := g.toGd.blk (s := s) (H := H) (scope := scope) (cl := cl) (C := C) (fp := fp)
    exact pts_of (hc _ _ gb) hcl hts
  · have gb := g.toGd.blk (s := s) (H := H) (scope := scope) (cl := cl) (C := C) (fp := fp)
    exact (hk _ _ gb).pe
  · have gb := g.toGd.blk (s := s) (H := H) (scope := scope) (cl := cl) (C := C) (fp := fp)
    exact (he _ _ gb).pe
  · show tDc _ _ _ _ _ ((ownOf N own).map (·.2)) σ H _
    rw [own_of hown]
    exact i_dc (W := W) (X := X) hsl (i_setN hy h)
/-! loops -/
theorem st_for (g : GdS T N Γ k X W sc) {t : Tg} {it : Ex} {tg it' : Expr} {body : List Sm} {sts : List Stmt} (ht : mtT N sc t tg = true) (hi : PI X tg it' (tI T X.K W Γ it)) (hf : plainE it' = true) (hb : PSs X sts (tSs T X.K W Γ body)) :
    PS X (.For tg it' sts [] pos) (tS T X.K W Γ (.fors t it body)) := by
  refine PS.wk (ps_for g.own g.calm hi (g.tg ht) hb (folded_plain hf)) fun D σ H ⟨ι, κ, S, ρ, w, en, p⟩ => ?_
  simp only [evS] at p
  refine ⟨ι, κ, S, ρ, w, en, PostS.goI p en w.mut fun pr S1 J H1 ι1 _ e1 w1 iw pp => ?_⟩
  generalize hn : pr.1.length = n
  refine ⟨fun i m σ2 H2 => m = n - i ∧ i ≤ n ∧ ∃ ι2 S2 ρ2, Ext H1 ι1 H2 ι2 ∧ Wd T X.K H2 ι2 κ S2 ∧ EnvR X.K H2 ι2 κ σ2 ρ2 ∧ held pr.2 S1 S2 = true ∧ PostS T X.K κ W D H2 ι2 (forR pr.2 (forF (fun ρ S => evSs Γ body ρ S) t) (pr.1.drop i) ρ2 S2), ⟨n, by simp, Nat.zero_le _, ι1, S1, ρ, Ext.refl, w1, en.up e1 w, held_refl _ _, by simpa using pp⟩, ?_⟩
  rintro i m σ2 H2 ⟨rfl, hin, ι2, S2, ρ2, e2, w2, en2, hh, p2⟩
  obtain ⟨igo, istop⟩ := iw κ H2 ι2 S2 (fun _ z => .inl z) e2 w2 hh i
  by_cases hlt : i < n
  · obtain ⟨go, yl⟩ := igo (by rw [hn]; exact hlt)
    refine .inr ⟨go, fun σ' H' => ∃ m', m' = n - (i + 1) ∧ _, fun σ' H' ⟨m', h1, h2⟩ => ⟨m', by omega, h1, by omega, h2⟩, fun v H3 hy => ?_⟩
    obtain ⟨e3, w3, d, hdx, rd⟩ := yl v H3 hy
    have hdrop : pr.1.drop i = d :: pr.1.drop (i + 1) := by
      obtain ⟨hlt', he⟩ := List.getElem?_eq_some_iff.mp hdx
      rw [List.drop_eq_getElem_cons hlt', he]
    rw [hdrop] at p2
    simp only [forR, forF] at p2
    have p2 := PostS.trans p2 e3
    cases hbt : bindT t d ρ2 with
    | none => rw [hbt] at p2; exact p2.elim
    | some ρ' =>
      rw [hbt] at p2
      refine ⟨ι2, κ, S2, ρ2, d, ρ', w3, en2.up e3 w2, rd, hbt, fun σ' en' _ => ⟨ι2, κ, S2, ρ', w3, en', ?_⟩⟩
      simp only at p2
      cases hev : evSs Γ body ρ' S2 with
      | ok f S3 =>
        rw [hev] at p2
        cases f with
        | nx ρ3 =>
          simp only at p2
          split at p2
          · rename_i hh3
            exact fun σ4 H4 ι4 e4 w4 en4 => ⟨n - (i + 1), rfl, ι4, S3, ρ3, (e2.trans e3).trans e4, w4, en4, held_trans hh hh3, PostS.trans p2 e4⟩
          · exact p2.elim
        | cnt ρ3 =>
          simp only at p2
          split at p2
          · rename_i hh3
            exact fun σ4 H4 ι4 e4 w4 en4 => ⟨n - (i + 1), rfl, ι4, S3, ρ3, (e2.trans e3).trans e4, w4, en4, held_trans hh hh3, PostS.trans p2 e4⟩
          · exact p2.elim
        | brk ρ3 => exact p2
        | ret d => exact p2
      | exc C fs ρ3 S3 => rw [hev] at p2; exact p2
      | no => rw [hev] at p2; exact p2
  · have hi' : i = n := by omega
    subst hi'
    rw [List.drop_of_length_le (by omega)] at p2
    simp only [forR] at p2
    exact .inl ⟨istop hn.symm, p2 σ2 H2 ι2 Ext.refl w2 en2⟩
theorem st_whl (g : GdS T N Γ k X W sc) {body : List Sm} {sts : List Stmt} (hc : Snd T X W Γ x c) (ht : tst c = true) (hb : PSs X sts (tSs T X.K W Γ body)) : PS X (.While c sts [] pos) (tS T X.K W Γ (.whl x body)) := by
  refine PS.wk (ps_while g.own (hc.pt ht) hb) fun D σ H ⟨ι, κ, S, ρ, w, en, p⟩ => ?_
  simp only [evS] at p
  refine ⟨fun m σ2 H2 => ∃ ι2 S2 ρ2, Wd T X.K H2 ι2 κ S2 ∧ EnvR X.K H2 ι2 κ σ2 ρ2 ∧ PostS T X.K κ W D H2 ι2 (whileR (fun ρ S => evE Γ x ρ S) (fun ρ S => evSs Γ body ρ S) m ρ2 S2), ⟨Γ.fuel, ι, S, ρ, w, en, p⟩, ?_⟩
  rintro m σ2 H2 ⟨ι2, S2, ρ2, w2, en2, p2⟩
  cases m with
  | zero => simp only [whileR] at p2; exact p2.elim
  | succ m =>
    simp only [whileR] at p2
    refine ⟨ι2, κ, S2, ρ2, w2, en2, ?_⟩
    cases hx : evE Γ x ρ2 S2 with
    | ok d S3 =>
      rw [hx] at p2
      cases d with
      | bl v =>
        intro g' H3 ι3 e3 w3 q
        obtain rfl : v = g' := q
        cases v with
        | true =>
          rw [if_pos rfl]
          have p2 : PostS T X.K κ W D H2 ι2 (match evSs Γ body ρ2 S3 with
            | .ok (.nx ρ') S' => whileR (fun ρ S => evE Γ x ρ S) (fun ρ S => evSs Γ body ρ S) m ρ' S'
            | .ok (.cnt ρ') S' => whileR (fun ρ S => evE Γ x ρ S) (fun ρ S => evSs Γ body ρ S) m ρ' S'
            | .ok (.brk ρ') S' => .ok (.nx ρ') S'
            | r => r) := p2
          have p2 := PostS.trans p2 e3
          refine ⟨fun σ4 H4 => ∃ ι4 S4 ρ4, Wd T X.K H4 ι4 κ S4 ∧ EnvR X.K H4 ι4 κ σ4 ρ4 ∧ PostS T X.K κ W D H4 ι4 (whileR (fun ρ S => evE Γ x ρ S) (fun ρ S => evSs Γ body ρ S) m ρ4 S4), fun σ4 H4 h => ⟨m, Nat.lt_succ_self m, h⟩, ι3, κ, S3, ρ2, w3, en2.up e3 w2, ?_⟩
          cases hev : evSs Γ body ρ2 S3 with
          | ok f S4 =>
            rw [hev] at p2
            cases f with
            | nx ρ4 => exact fun σ4 H4 ι4 e4 w4 en4 => ⟨ι4, S4, ρ4, w4, en4, PostS.trans p2 e4⟩
            | cnt ρ4 => exact fun σ4 H4 ι4 e4 w4 en4 => ⟨ι4, S4, ρ4, w4, en4, PostS.trans p2 e4⟩
            | brk ρ4 => exact p2
            | ret d => exact p2
          | exc C fs ρ4 S4 => rw [hev] at p2; exact p2
          | no => rw [hev] at p2; exact p2
        | false =>
          rw [if_neg Bool.false_ne_true]
          have p2 : PostS T X.K κ W D H2 ι2 (.ok (.nx ρ2) S3) := p2
          exact p2 σ2 H3 ι3 e3 w3 (en2.up e3 w2)
      | _ => exact p2.elim
    | exc C fs S3 => rw [hx] at p2; exact fun c d H' ι' e w' q => p2 c d σ2 H' ι' e w' (en2.up e w2) q
    | no => rw [hx] at p2; exact p2
end
end MP
end

section
set_option Elab.async false
set_option linter.all false
set_option maxRecDepth 100000
/-! MpT: stores. -/
namespace MP
open PySem PySem.Spec PyProof.Rows L2
def parB (sc : Scope) (ts vs : List Expr) : Bool := (vs.length == ts.length) && (ts.length == 2) && (match ts with
  | [.Name x p, .Name y q] => decide (sc.names.lookup x = some .local) && decide (sc.names.lookup y = some .local) && (q.line == p.line) && !(x == y)
  | _ => false) && !(vs.all (foldedForSure 8)) && !(vs.all (constantsAlone 8))
def noSwap (sc : Scope) (ts vs : List Expr) : Bool := !(ts.length == 2 || ts.length == 3) || (vs.length != ts.length) || vs.all (foldedForSure 8) || (ts.any fun
  | .Name x _ => !decide (sc.names.lookup x = some .local)
  | _ => true)
theorem filterMap_lt {α β : Type} {f : α → Option β} : ∀ {l : List α} {x : α}, x ∈ l → f x = none → (l.filterMap f).length < l.length
  | y :: l, x, h, e => by
    rcases List.mem_cons.mp h with rfl | h
    · rw [List.filterMap_cons, e]
      exact Nat.lt_succ_of_le (List.length_filterMap_le _ _)
    · have ih := filterMap_lt h e
      rw [List.filterMap_cons]
      cases f y with
      | none => exact Nat.lt_succ_of_lt ih
      | some z => exact Nat.succ_lt_succ ih
theorem no_star {vs : List Expr} (hp : vs.all plainE = true) : (vs.any fun | .Starred .. => true | _ => false) = false := by
  rw [List.any_eq_false]
  intro e he
  have := List.all_eq_true.mp hp e he
  cases e <;> first | (simp [plainE] at this; done) | simp
theorem par_eq {env : PySem.Env} {a b : Expr} {n m : Str} {np mp tp vp : Pos} {kt kv : Nat} (hk : env.scope.kind = .function) (hp : [a, b].all plainE = true) (hB : parB env.scope [.Name n np, .Name m mp] [a, b] = true) : swappedStores [.Tuple [.Name n np, .Name m mp] kt tp] (.Tuple [a, b] kv vp) env = pure (some [n, m]) := by
  simp only [parB, Bool.and_eq_true, Bool.not_eq_true', decide_eq_true_eq] at hB
  obtain ⟨⟨⟨_, ⟨⟨h1, h2⟩, h3⟩, h4⟩, h5⟩, h6⟩ := hB
  have hb : env.blockKind = .function := by unfold Env.blockKind; rw [hk]; rfl
  have k1 : env.kindOf n = some .local := h1
  have k2 : env.kindOf m = some .local := h2
  have h4' : (m == n) = false := by
    rw [Bool.eq_false_iff]; intro z; rw [beq_iff_eq.mp z] at h4; simp at h4
  unfold swappedStores
  simp only [hb, no_star hp, h5, h6, k1, k2]
  have hst : ¬ (([a, b].any fun x => match x with
      | Expr.Starred _ _ => true
      | _ => false) = true) := by rw [no_star hp]; exact Bool.false_ne_true
  split
  · rename_i z; exact absurd z (show ¬ (false = true) from Bool.false_ne_true)
  split
  · rename_i z; exact absurd z hst
  generalize hn : (List.filterMap _ [Expr.Name n np, Expr.Name m mp]) = names
  have hnm : names = [n, m] := by
    rw [← hn, List.filterMap_cons, List.filterMap_cons, List.filterMap_nil]
    have e1 : (Expr.Name n np).pos.line = np.line := rfl
    simp [k1, k2, beq_iff_eq.mp h3, e1]
  subst hnm
  have e2 : [n, m].eraseDups = [n, m] := by
    have : n ≠ m := fun z => by rw [z] at h4; simp at h4
    simp [List.eraseDups_cons, h4', this.symm]
  simp [e2]
theorem noSwap_eq {env : PySem.Env} {ts vs : List Expr} {kt kv : Nat} {tp vp : Pos} (hp : vs.all plainE = true) (h : noSwap env.scope ts vs = true) : swappedStores [.Tuple ts kt tp] (.Tuple vs kv vp) env = pure none := by
  unfold swappedStores
  simp only [no_star hp]
  by_cases c1 : (!(ts.length == 2 || ts.length == 3) || vs.length != ts.length || env.blockKind != .function) = true
  · rw [if_pos c1]
  · rw [if_neg c1]
    generalize hn : (List.filterMap _ ts) = names
    by_cases c2 : (names.length != ts.length || names.eraseDups.length != names.length) = true
    · rw [if_pos c2]; split <;> rfl
    · rw [if_neg c2]
      simp only [noSwap, Bool.or_eq_true] at h
      rcases h with ((h | h) | h) | h
      · exact absurd (by simp only [Bool.or_eq_true]; exact .inl (.inl h)) c1
      · exact absurd (by simp only [Bool.or_eq_true]; exact .inl (.inr h)) c1
      · rw [if_pos h]; split <;> rfl
      · exfalso
        apply c2
        simp only [Bool.or_eq_true]
        left
        have : names.length ≠ ts.length := by
          rw [← hn]
          have hx := List.any_eq_true.mp h
          obtain ⟨x, hx1, hx2⟩ := hx
          refine Nat.ne_of_lt (filterMap_lt hx1 ?_)
          cases x <;> first | rfl | skip
          rename_i id p
          have : ¬ env.kindOf id = some .local := by
            show ¬ env.scope.names.lookup id = some .local
            simpa using hx2
          simp [this]
        simpa using this
section
variable {T : Tab} {N : List Str} {Γ : Ctx} {k : Nat} {X : Cx} {W : WX} {sc : Scope} {x y z : Ex} {a b c e o : Expr} {xs : List Ex} {es : List Expr} {pos p p1 : Pos}
def rSet : TSet := fun o i v H Q => rSetL o i v H Q ∨ rSetD o i v H Q
theorem set_any (hu : X.A.units + 1 < cLine) : PSet X rSet := by
  intro pins s σ H o i v ov iv u Q I ro ri rv h
  rcases h with h | h
  · exact set_list pins s σ H o i v ov iv u Q I ro ri rv h
  · exact set_dict hu pins s σ H o i v ov iv u Q I ro ri rv h
theorem set_sound {κ : List Addr} {H : Hp} {ι : List Addr} {S S' : Sto} {d i v : MP.D} {dv iv vv : V} {Q : Hp → Prop} (w : Wd T X.K H ι κ S) (rd : Rep X.K H ι κ d dv) (ri : Rep X.K H ι κ i iv) (rv : Rep X.K H ι κ v vv) (e : setD d i v S = some S')
    (q : ∀ H', Ext H ι H' ι → Wd T X.K H' ι κ S' → Q H') : rSet dv iv vv H Q := by
  cases d with
  | ref n =>
    simp only [setD] at e
    have rd' := rd
    simp only [Rep] at rd'
    obtain ⟨a, rfl, ha⟩ := rd'
    split at e
    · rename_i xs hs
      obtain ⟨vs, h1, h2⟩ := w.ob n a _ ha hs
      split at e
      · rename_i j
        simp only [Rep] at ri
        obtain ⟨l, hl, rfl⟩ := Option.map_eq_some_iff.mp e
        exact .inl ⟨a, vs, j, l, rfl, ri, h1, by rw [← RepL.length h2]; exact hl, q _ (Ext.set (List.mem_of_getElem? ha)) (put_lst w ha (RepL.set l h2 rv))⟩
      · cases e
    · rename_i kvs hs
      obtain ⟨vs, h1, h2⟩ := w.ob n a _ ha hs
      split at e
      · rename_i kk hk
        split at e
        · rename_i hlen
          cases e
          obtain ⟨hv, hok⟩ := ky_rep ri hk
          refine .inr ⟨a, _, rfl, .inl ⟨vs, kk, h1, hv, ?_, rfl⟩, q _ (Ext.set (List.mem_of_getElem? ha)) (w.put ha ⟨_, upd_same, ?_⟩)⟩
          · rw [← (RepK.keys h2).2]
            have := LIM_line (n := kvs.length) (by omega)
            have h16 : sizeLine = 16777216 := sizeLine_eq
            unfold LIM at hlen; omega
          · exact RepK.mono (Ext.set (List.mem_of_getElem? ha)) w.mut (fun _ z => .inl z) (RepK.put h2 rv hok)
        · cases e
      · cases e
    · split at e
      · rename_i k hk
        simp [MP.D.tky] at hk
      · cases e
    · cases e
  | _ => simp [setD] at e
theorem sub_assign {i : Expr} {env : PySem.Env} (h : plainE i = true) : ∀ v, assign (.Subscript o i pos) env v = (do
      let ov ← holding [v] (eval o env)
      let iv ← holding [v, ov] (eval i env)
      standAt pos
      holding [v, ov, iv] (setItem ov iv v)
      release [v, ov, iv] []) := by
  intro v
  cases i <;> first | rfl | (simp [plainE] at h)
theorem st_sub (g : GdS T N Γ k X W sc) (ho : Snd T X W Γ x o) (hi : Snd T X W Γ y b) (hv : Snd T X W Γ z e) : PS X (.Assign [.Subscript o b p] e pos) (tS T X.K W Γ (.asgS x y z)) := by
  refine PS.wk (ps_asg hv.pe (pg_sub ho.pe hi.pe (set_any (by have := g.hu; omega)) (sub_assign hi.pl)) (by cases e <;> rfl) (by cases e <;> rfl) rfl) fun D σ H ⟨ι, κ, S, ρ, w, en, p⟩ => ?_
  simp only [evS] at p
  refine ⟨ι, κ, S, ρ, w, en, PostS.go p en w.mut fun d S1 v H1 ι1 _ e1 w1 r1 p1 => ⟨ι1, κ, S1, ρ, w1, en.up e1 w, PostS.go p1 (en.up e1 w) w1.mut fun d2 S2 v2 H2 ι2 _ e2 w2 r2 p2 => ⟨ι2, κ, S2, ρ, w2, (en.up e1 w).up e2 w1, PostS.go p2 ((en.up e1 w).up e2 w1) w2.mut fun d3 S3 v3 H3 ι3 _ e3 w3 r3 p3 => ?_⟩⟩⟩
  split at p3
  · rename_i S4 hs
    exact set_sound w3 (Rep.up r2 e3 w2) r3 (Rep.up (Rep.up r1 e2 w1) e3 w2) hs fun H' e' w' => p3 σ H' ι3 e' w' (((en.up e1 w).up e2 w1).up e3 w2 |>.up e' w3)
  · exact p3.elim
/-! fields -/
theorem setF_sound {κ : List Addr} {H : Hp} {ι : List Addr} {S S' : Sto} {d v : MP.D} {f : Str} {dv vv : V} {Q : Hp → Prop} (g : Gd T N Γ k X W sc) (hf : f ∈ T.flds) (w : Wd T X.K H ι κ S) (rd : Rep X.K H ι κ d dv) (rv : Rep X.K H ι κ v vv) (e : setF d f v S = some S')
    (q : ∀ H', Ext H ι H' ι → Wd T X.K H' ι κ S' → Q H') : ∃ a C dx fs, dv = .ref a ∧ H a = some (.ins C dx fs) ∧ Cls X.K C ∧ NoAttr X.K C f ∧ fs.length < 1000 ∧ Q (upd H a (.ins C dx (putF f vv fs))) := by
  unfold setF at e
  split at e
  · rename_i n
    simp only [Rep] at rd
    obtain ⟨a, rfl, ha⟩ := rd
    split at e
    · rename_i C fs hs
      obtain ⟨c, dx, gs, h1, h2, h3⟩ := w.ob n a _ ha hs
      split at e
      · rename_i hl
        cases e
        refine ⟨a, c, dx, gs, rfl, h2, g.glo.cls C c h1, g.glo.noat C c f h1 hf, by rw [← RepF.length h3]; omega, q _ (Ext.set (List.mem_of_getElem? ha)) (w.put ha ⟨c, dx, _, h1, upd_same, ?_⟩)⟩
        exact RepF.mono (Ext.set (List.mem_of_getElem? ha)) w.mut (fun _ z => .inl z) (putF_rep rv h3)
      · cases e
    · cases e
  · cases e
theorem st_fld (g : GdS T N Γ k X W sc) {f : Str} (hf : f ∈ T.flds) (ho : Snd T X W Γ x o) (hv : Snd T X W Γ z e) : PS X (.Assign [.Attribute o f p] e pos) (tS T X.K W Γ (.asgA x f z)) := by
  refine PS.wk (ps_fld ho.pe hv.pe (by cases e <;> rfl)) fun D σ H ⟨ι, κ, S, ρ, w, en, p⟩ => ?_
  simp only [evS] at p
  refine ⟨ι, κ, S, ρ, w, en, PostS.go p en w.mut fun d S1 v H1 ι1 _ e1 w1 r1 p1 => ⟨ι1, κ, S1, ρ, w1, en.up e1 w, PostS.go p1 (en.up e1 w) w1.mut fun d2 S2 v2 H2 ι2 _ e2 w2 r2 p2 => ?_⟩⟩
  split at p2
  · rename_i S4 hs
    exact setF_sound g.toGd hf w2 r2 (Rep.up r1 e2 w1) hs fun H' e' w' => p2 σ H' ι2 e' w' (((en.up e1 w).up e2 w1).up e' w2)
  · exact p2.elim
/-! augmented -/
def rInc (o : Operator) : TIp := fun x y H Q => ∃ i j m, x = .int i ∧ y = .int j ∧ incOp o (.int i) (.int j) = some (.int m) ∧ Q (.int m) H
theorem inc_sound (o : Operator) : PIp X o (rInc o) := by
  intro pins s σ H x y v u Q I rx ry ⟨i, j, m, ex, ey, h, q⟩
  cases o with
  | Add => simp only [incOp, Option.some.injEq, MP.D.int.injEq] at h; subst h; exact ip_add pins s σ H x y v u Q I rx ry ⟨i, j, ex, ey, q⟩
  | Sub => simp only [incOp, Option.some.injEq, MP.D.int.injEq] at h; subst h; exact ip_sub pins s σ H x y v u Q I rx ry ⟨i, j, ex, ey, q⟩
  | Mult =>
    simp only [incOp] at h
    split at h
    · rename_i hc
      simp only [Option.some.injEq, MP.D.int.injEq] at h
      subst h
      exact iop_mul pins s σ H x y v u Q I rx ry ⟨i, j, ex, ey, hc, q⟩
    · cases h
  | FloorDiv =>
    simp only [incOp] at h
    split at h
    · rename_i hc
      simp only [Option.some.injEq, MP.D.int.injEq] at h
      subst h
      exact iop_fdiv pins s σ H x y v u Q I rx ry ⟨i, j, ex, ey, hc, q⟩
    · cases h
  | _ => simp [incOp] at h
theorem inc_int {o : Operator} {d e z : MP.D} (h : incOp o d e = some z) : ∃ i j m, d = .int i ∧ e = .int j ∧ z = .int m := by
  unfold incOp at h
  split at h
  · cases h; exact ⟨_, _, _, rfl, rfl, rfl⟩
  · cases h; exact ⟨_, _, _, rfl, rfl, rfl⟩
  · split at h
    · cases h; exact ⟨_, _, _, rfl, rfl, rfl⟩
    · cases h
  · split at h
    · cases h; exact ⟨_, _, _, rfl, rfl, rfl⟩
    · cases h
  · cases h
theorem st_aug (g : GdS T N Γ k X W sc) {i : Nat} {n : Str} {op : Operator} (hN : N[i]? = some n) (hl : locB sc n = true) (hv : Snd T X W Γ z e) : PS X (.AugAssign (.Name n p) op e pos) (tS T X.K W Γ (.aug i op z)) := by
  obtain ⟨h1, h2⟩ := g.tgt n hl
  refine PS.wk (ps_aug (i := i) (by rw [g.hN]; exact g.nd) (by rw [g.hN]; exact hN) h1 hv.pe (inc_sound op) h2) fun D σ H ⟨ι, κ, S, ρ, w, en, p⟩ => ?_
  simp only [evS] at p
  split at p
  · rename_i d hd
    have : ρ[i]? = some (some d) := by
      unfold Env.get at hd
      split at hd <;> first | (rename_i h; rw [h, hd]) | cases hd
    obtain ⟨v, hv1, hv2⟩ := en.2 i d this
    refine ⟨v, hv1, ι, κ, S, ρ, w, en, PostS.go p en w.mut fun d2 S1 u H1 ι1 _ e1 w1 r1 p1 => ?_⟩
    split at p1
    · rename_i zz hz
      obtain ⟨i', j', m, rfl, rfl, rfl⟩ := inc_int hz
      have r1 : Rep X.K H1 ι1 κ (.int j') u := r1
      simp only [Rep] at hv2 r1
      exact ⟨i', j', m, hv2, r1, hz, p1 _ H1 ι1 Ext.refl w1 ((en.up e1 w).set (by simp only [Rep]))⟩
    · exact p1.elim
  · exact p.elim
theorem st_augA (g : GdS T N Γ k X W sc) {f : Str} {op : Operator} (hf : f ∈ T.flds) (ho : Snd T X W Γ x o) (hv : Snd T X W Γ z e) : PS X (.AugAssign (.Attribute o f p) op e pos) (tS T X.K W Γ (.augA x f op z)) := by
  refine PS.wk (ps_fldaug ho.pe hv.pe (inc_sound op)) fun D σ H ⟨ι, κ, S, ρ, w, en, p⟩ => ?_
  simp only [evS] at p
  refine ⟨ι, κ, S, ρ, w, en, PostS.go p en w.mut fun d S1 v H1 ι1 _ e1 w1 r1 p1 => ?_⟩
  split at p1
  · rename_i dv hd
    have r1 : Rep X.K H1 ι1 κ d v := r1
    have hd' := hd
    unfold fldD at hd
    split at hd
    · split at hd
      · rename_i n _ _ _ C fs hs
        have r1' := r1
        simp only [Rep] at r1'
        obtain ⟨ad, rfl, hn⟩ := r1'
        obtain ⟨c, dx, gs, h1, h2, h3⟩ := w1.ob _ ad _ hn hs
        obtain ⟨u, h4, h5⟩ := (lookup_rep h3).1 dv hd
        refine ⟨ad, c, dx, gs, u, rfl, h2, g.glo.cls C c h1, g.glo.noat C c f h1 hf, h4, ι1, κ, S1, ρ, w1, en.up e1 w, PostS.go p1 (en.up e1 w) w1.mut fun d2 S2 v2 H2 ι2 _ e2 w2 r2 p2 => ?_⟩
        split at p2
        rotate_left
        · exact p2.elim
        rename_i hsame
        split at p2
        · rename_i zz hz
          obtain ⟨i', j', m, rfl, rfl, rfl⟩ := inc_int hz
          have r2 : Rep X.K H2 ι2 κ (.int j') v2 := r2
          simp only [Rep] at h5 r2
          split at p2
          · rename_i S4 hs4
            simp only [sameC, hs] at hsame
            simp only [setF] at hs4
            cases hs2 : S2.get n with
            | none => rw [hs2] at hsame; cases hsame
            | some ob =>
              rw [hs2] at hsame hs4
              cases ob with
              | ins C2 fs2 =>
                obtain rfl := of_decide_eq_true hsame
                have hn2 := getE e2 hn
                obtain ⟨c2, dx2, gs2, k1, k2, k3⟩ := w2.ob _ ad _ hn2 hs2
                rw [h1] at k1
                cases k1
                simp only at hs4
                split at hs4
                · rename_i hl
                  cases hs4
                  refine ⟨i', j', m, h5, r2, hz, dx2, gs2, k2, by rw [← RepF.length k3]; omega, ?_⟩
                  have hm := List.mem_of_getElem? hn2
                  refine p2 σ _ ι2 (Ext.set hm) (w2.put hn2 ⟨c, dx2, _, h1, upd_same, ?_⟩) (((en.up e1 w).up e2 w1).up (Ext.set hm) w2)
                  exact RepF.mono (Ext.set hm) w2.mut (fun _ z => .inl z) (putF_rep (by simp only [Rep]) k3)
                · cases hs4
              | _ => cases hsame
          · exact p2.elim
        · exact p2.elim
      · cases hd
    · cases hd
  · exact p1.elim
theorem st_par (g : GdS T N Γ k X W sc) {i j : Nat} {n m : Str} {np mp tp vp : Pos} {kt kv : Nat} (hi : N[i]? = some n) (hj : N[j]? = some m) (hij : i ≠ j) (hB : parB sc [.Name n np, .Name m mp] [a, b] = true) (ha : SndL T X W Γ xs [a, b]) :
    PS X (.Assign [.Tuple [.Name n np, .Name m mp] kt tp] (.Tuple [a, b] kv vp) pos) (tS T X.K W Γ (.par [i, j] xs)) := by
  simp only [parB, Bool.and_eq_true, Bool.not_eq_true', decide_eq_true_eq] at hB
  have hB0 := hB
  obtain ⟨⟨⟨_, ⟨⟨h1, h2⟩, h3⟩, h4⟩, h5⟩, h6⟩ := hB
  have hw : swappedStores [.Tuple [.Name n np, .Name m mp] kt tp] (.Tuple [a, b] kv vp) X.env = pure (some [n, m]) := by
    exact par_eq g.kind ha.plain (by rw [g.sc]; simp only [parB, Bool.and_eq_true, Bool.not_eq_true', decide_eq_true_eq]; exact hB0)
  refine PS.wk (ps_par (i := i) (j := j) g.calm (by rw [g.hN]; exact g.nd) (by rw [g.hN]; exact hi) (by rw [g.hN]; exact hj) hij (by rw [g.sc]; exact h1) (by rw [g.sc]; exact h2) ha.pa hw rfl) fun D σ H ⟨ι, κ, S, ρ, w, en, p⟩ => ?_
  simp only [evS] at p
  refine ⟨ι, κ, S, ρ, w, en, PostS.go p en w.mut fun ds S1 vs H1 ι1 _ e1 w1 r1 p1 => ?_⟩
  have r1 : RepL X.K H1 ι1 κ ds vs := r1
  split at p1
  · rename_i ρ' hs
    cases ds with
    | nil => simp [setAll] at hs
    | cons d1 ds =>
      cases ds with
      | nil => simp [setAll] at hs
      | cons d2 ds =>
        cases ds with
        | nil =>
          obtain ⟨v, u, rfl, hv, hu⟩ := RepL.two r1
          simp only [setAll] at hs
          split at hs
          · split at hs
            · cases hs
              exact ⟨v, u, rfl, p1 _ H1 ι1 Ext.refl w1 (((en.up e1 w).set hv).set hu)⟩
            · cases hs
          · cases hs
        | cons _ _ => simp [setAll] at hs
  · exact p1.elim
end
end MP
end

section
set_option Elab.async false
set_option linter.all false
set_option maxRecDepth 100000
/-! MpU: raise, try. -/
namespace MP
open PySem PySem.Spec PyProof.Rows L2
structure ExcF (T : Tab) (K : PySem.W.Frag) (mg : Str → Option Value) (Γ : Ctx) : Prop where
  cls : ∀ (C : Nat) (c : Cl), T.P.cls[C]? = some c → c.exc = some none → ∃ B newId initId bmB, ExcBaseFacts B newId initId bmB ∧ PySem.W.excIn K (He.ga K c.name) bmB newId = true ∧ PySem.W.keepIn K (.ref (He.ga K c.name)) = true ∧
    PySem.W.subIn K (.ref (He.ga K c.name)) (.type "BaseException") = some true ∧ PySem.W.typeIn K (.ref (He.ga K c.name)) = some (.type "type")
  mg : ∀ (C : Nat) (c : Cl), T.P.cls[C]? = some c → c.exc.isSome = true → mg c.name = some (.ref (He.ga K c.name))
  exm : ∀ (C C' : Nat) (c c' : Cl), T.P.cls[C]? = some c → T.P.cls[C']? = some c' → c.exc.isSome = true → c'.exc.isSome = true → PySem.W.exmOne K (.ref (He.ga K c.name)) (.ref (He.ga K c'.name)) = some (T.P.sub C C')
  xf : ∀ (C : Nat) (c : Cl), T.P.cls[C]? = some c → Γ.xf C = c.exc
  sub : ∀ C C', Γ.sub C C' = T.P.sub C C'
/-! ### the match -/
mutual
def mtX (T : Tab) (N : List Str) (sc : Scope) : Sx → Expr → Bool
  | .con d, e => conM d e
  | .glo x d, e => match e with
    | .Name y _ => decide (x = y) && decide ((x, d) ∈ T.consts) && glB sc x && nmB x
    | _ => false
  | .var i, e => match e with
    | .Name x _ => decide (N[i]? = some x) && visB sc x && nmB x
    | _ => false
  | .xf _, _ => false
  | .tup es, e => match e with
    | .Tuple els _ _ => mtXs T N sc es els
    | _ => false
def mtXs (T : Tab) (N : List Str) (sc : Scope) : List Sx → List Expr → Bool
  | [], [] => true
  | x :: xs, e :: es => mtX T N sc x e && mtXs T N sc xs es
  | _, _ => false
end
def mtSh (T : Tab) (N : List Str) (sc : Scope) (h : Sh) (sts : List Stmt) : Bool := match h with
  | .ret e => (match sts with
    | [.Return (some e') _] => mtX T N sc e e'
    | _ => false)
  | .set i e => (match sts with
    | [.Assign [.Name n _] e' _] => decide (N[i]? = some n) && locB sc n && mtX T N sc e e' && !isLC e'
    | _ => false)
  | .cnt => (match sts with
    | [.Continue _] => true
    | _ => false)
  | .pas => (match sts with
    | [.Pass _] => true
    | _ => false)
def mtHd (T : Tab) (N : List Str) (sc : Scope) (h : Hd) : ExceptHandler → Bool
  | .ExceptHandler (some (.Name x _)) none suite _ => h.x.isNone && (match T.P.cls[h.C]? with
    | some c => decide (c.name = x) && c.exc.isSome
    | none => false) && glB sc x && nmB x && mtSh T N sc h.body suite
  | _ => false
def mtHds (T : Tab) (N : List Str) (sc : Scope) : List Hd → List ExceptHandler → Bool
  | [], [] => true
  | h :: hs, e :: es => mtHd T N sc h e && mtHds T N sc hs es
  | _, _ => false
section
variable {T : Tab} {N : List Str} {Γ : Ctx} {k : Nat} {X : Cx} {W : WX} {sc : Scope} {x y z : Ex} {a b c e o : Expr} {xs : List Ex} {es : List Expr} {pos p p1 : Pos}
/-! ### raise -/
theorem st_rai (g : GdS T N Γ k X W sc) (F : ExcF T X.K X.mg Γ) {C : Nat} {cl : Cl} {n : Str} {np cp : Pos} (hcl : T.P.cls[C]? = some cl) (hn : cl.name = n) (hx : cl.exc = some none) (hg : glB sc n = true) (hnm : nmB n = true) (ha : SndL T X W Γ (x :: xs) (e :: es)) :
    PS X (.Raise (some (.Call (.Name n np) (e :: es) [] cp)) none pos) (tS T X.K W Γ (.rai C (x :: xs))) := by
  obtain ⟨B, newId, initId, bmB, h1, h2, h3, h4, h5⟩ := F.cls C cl hcl hx
  have h6 := F.mg C cl hcl (by rw [hx]; rfl)
  rw [hn] at h2 h3 h4 h5 h6
  have hp := ha.pa
  cases ha with
  | cons h t =>
    refine PS.wk (ps_raise g.calm g.tk (pmk_ownA h1 h2 h6 h3 (raises_own h4 h5) (g.gl hg) hp (nmB_dbg hnm) (star_plain h.pl) (back_plain t.plain))) fun D σ H ⟨ι, κ, S, ρ, w, en, p⟩ => ?_
    simp only [evS] at p
    refine ⟨ι, κ, S, ρ, w, en, PostS.go p en w.mut fun ds S1 vs H1 ι1 _ e1 w1 r1 p1 => ?_⟩
    have r1 : RepL X.K H1 ι1 κ ds vs := r1
    rw [F.xf C cl hcl, hx] at p1
    simp only at p1
    split at p1
    · refine ⟨?_, p1 _ _ σ H1 ι1 Ext.refl w1 (en.up e1 w) ⟨cl, hcl, by rw [hn], .inl ⟨hx, rfl, rfl⟩⟩⟩
      rw [← RepL.length r1]
      show 1 ≤ sizeLine
      rw [sizeLine_eq]; decide
    · exact p1.elim
/-! ### what stands in a clause -/
def tX (T : Tab) (K : PySem.W.Frag) (x : Sx) : TE := fun σ H Q => ∃ ι κ S ρ d, Wd T K H ι κ S ∧ EnvR K H ι κ σ ρ ∧ evX [] x ρ = some d ∧ VPost T K ι κ H S d Q
def tXs (T : Tab) (K : PySem.W.Frag) (xs : List Sx) : TA := fun σ H Q => ∃ ι κ S ρ ds, Wd T K H ι κ S ∧ EnvR K H ι κ σ ρ ∧ evXs [] xs ρ = some ds ∧ ∀ vs H' ι', Ext H ι H' ι' → Wd T K H' ι' κ S → RepL K H' ι' κ ds vs → Q vs H'
theorem mtX_plain {x : Sx} {e : Expr} (h : mtX T N sc x e = true) : plainE e = true := by
  cases x with
  | con d => cases e <;> first | rfl | (cases d <;> simp [mtX, conM] at h)
  | glo n d => cases e <;> first | rfl | (simp [mtX] at h)
  | var i => cases e <;> first | rfl | (simp [mtX] at h)
  | xf f => simp [mtX] at h
  | tup es => cases e <;> first | rfl | (simp [mtX] at h)
mutual
theorem x_pe (Y : Cx) (hsc : Y.env.scope = sc) (hN : Y.N = N) (glo : Globals T Y.prog Y.w Y.K Y.mg Y.base Γ k) : ∀ (x : Sx) (e : Expr), mtX T N sc x e = true → PE Y e (tX T Y.K x)
  | .con d, e, h => by
    simp only [mtX] at h
    unfold conM at h
    split at h
    · exact PE.wk pe_non fun σ H Q ⟨ι, κ, S, ρ, d, w, en, he, q⟩ => by simp only [evX, Option.some.injEq] at he; subst he; exact q.same w (by simp only [Rep])
    · rename_i b c _ _
      obtain rfl : b = c := by simpa using h
      exact PE.wk pe_bl fun σ H Q ⟨ι, κ, S, ρ, d, w, en, he, q⟩ => by simp only [evX, Option.some.injEq] at he; subst he; exact q.same w (by simp only [Rep])
    · obtain rfl := of_decide_eq_true h
      exact PE.wk pe_int fun σ H Q ⟨ι, κ, S, ρ, d, w, en, he, q⟩ => by simp only [evX, Option.some.injEq] at he; subst he; exact q.same w (by simp only [Rep])
    · simp only [Bool.and_eq_true, decide_eq_true_eq] at h
      obtain ⟨rfl, hs⟩ := h
      exact PE.wk pe_str fun σ H Q ⟨ι, κ, S, ρ, d, w, en, he, q⟩ => by simp only [evX, Option.some.injEq] at he; subst he; exact q.same w (by simp only [Rep]; exact ⟨trivial, hs⟩)
    · cases h
  | .glo n d, e, h => by
    cases e with
    | Name y p =>
      simp only [mtX, Bool.and_eq_true, decide_eq_true_eq] at h
      obtain ⟨⟨⟨rfl, h2⟩, h3⟩, h4⟩ := h
      obtain ⟨u, v, k1, k2, k3⟩ := glo.con n d h2
      have hg : Gl Y n := by unfold glB at h3; show Y.env.scope.names.lookup n = _; rw [hsc]; exact of_decide_eq_true h3
      exact PE.wk (pe_glob hg k1 k2 (nmB_dbg h4)) fun σ H Q ⟨ι, κ, S, ρ, d, w, en, he, q⟩ => by simp only [evX, Option.some.injEq] at he; subst he; exact q.same w (k3 H ι κ)
    | _ => simp [mtX] at h
  | .var i, e, h => by
    cases e with
    | Name n p =>
      simp only [mtX, Bool.and_eq_true, decide_eq_true_eq] at h
      have hv : Vis Y.env.scope n := by
        have h2 := h.1.2
        unfold visB at h2
        unfold Vis
        rw [hsc]
        split at h2 <;> first | exact .inl (by assumption) | exact .inr (.inl (by assumption)) | exact .inr (.inr (by assumption)) | cases h2
      refine PE.wk (pe_var (by rw [hN]; exact h.1.1) hv (nmB_dbg h.2) (nmB_cd h.2)) fun σ H Q ⟨ι, κ, S, ρ, d, w, en, he, q⟩ => ?_
      simp only [evX] at he
      have : ρ[i]? = some (some d) := by
        unfold Env.get at he
        split at he <;> first | (rename_i h; rw [h, he]) | cases he
      obtain ⟨v, h1, h2⟩ := en.2 i d this
      exact ⟨v, h1, q.same w h2⟩
    | _ => simp [mtX] at h
  | .xf f, e, h => by simp [mtX] at h
  | .tup xs, e, h => by
    cases e with
    | Tuple es m p =>
      simp only [mtX] at h
      refine PE.wk (pe_tup (xs_pa Y hsc hN glo xs es h)) fun σ H Q ⟨ι, κ, S, ρ, d, w, en, he, q⟩ => ?_
      simp only [evX] at he
      split at he
      · rename_i ds hds
        split at he
        · rename_i hl
          cases he
          exact ⟨ι, κ, S, ρ, ds, w, en, hds, fun vs H' ι' e' w' r' => ⟨LIM_line (by rw [← RepL.length r']; exact hl), fun p hp => VPost.tup (fun v H2 ι2 e2 w2 r2 => q v H2 ι2 (e'.trans e2) w2 r2) w' r' hp⟩⟩
        · cases he
      · cases he
    | _ => simp [mtX] at h
theorem xs_pa (Y : Cx) (hsc : Y.env.scope = sc) (hN : Y.N = N) (glo : Globals T Y.prog Y.w Y.K Y.mg Y.base Γ k) : ∀ (xs : List Sx) (es : List Expr), mtXs T N sc xs es = true → PA Y es (tXs T Y.K xs)
  | [], [], h => by
    refine PA.wk pa_nil fun σ H Q ⟨ι, κ, S, ρ, ds, w, en, he, q⟩ => ?_
    simp only [evXs, Option.some.injEq] at he
    subst he
    exact q [] H ι Ext.refl w rfl
  | [], _ :: _, h => by simp [mtXs] at h
  | _ :: _, [], h => by simp [mtXs] at h
  | x :: xs, e :: es, h => by
    simp only [mtXs, Bool.and_eq_true] at h
    refine PA.wk (pa_cons (x_pe Y hsc hN glo x e h.1) (xs_pa Y hsc hN glo xs es h.2) (star_plain (mtX_plain h.1))) fun σ H Q ⟨ι, κ, S, ρ, ds, w, en, he, q⟩ => ?_
    simp only [evXs] at he
    split at he
    · rename_i d dr h1 h2
      cases he
      refine ⟨ι, κ, S, ρ, d, w, en, h1, fun v H1 ι1 e1 w1 r1 => ⟨ι1, κ, S, ρ, dr, w1, en.up e1 w, h2, fun vs H2 ι2 e2 w2 r2 => q (v :: vs) H2 ι2 (e1.trans e2) w2 ?_⟩⟩
      simp only [RepL]
      exact ⟨v, vs, rfl, Rep.up r1 e2 w1, r2⟩
    · cases he
end
def tH (T : Tab) (K : PySem.W.Frag) (h : Sh) : TS := fun D σ H => ∃ ι κ S ρ, Wd T K H ι κ S ∧ EnvR K H ι κ σ ρ ∧ PostS T K κ NoW D H ι (evH [] h ρ S)
theorem h_pss (Y : Cx) (hsc : Y.env.scope = sc) (hN : Y.N = N) (nd : N.Nodup) (hfn : ∀ x, Y.env.scope.names.lookup x = some .cell → Y.fn x = true) (glo : Globals T Y.prog Y.w Y.K Y.mg Y.base Γ k) (h : Sh) (sts : List Stmt) (hm : mtSh T N sc h sts = true) : PSs Y sts (tH T Y.K h) := by
  cases h with
  | ret x =>
    simp only [mtSh] at hm
    split at hm
    · refine PSs.wk (pss_one (ps_ret (x_pe Y hsc hN glo _ _ hm))) fun D σ H ⟨ι, κ, S, ρ, w, en, p⟩ => ?_
      simp only [evH] at p
      split at p
      · rename_i d hd
        exact ⟨ι, κ, S, ρ, d, w, en, hd, fun v H' ι' e' w' r' => p v H' ι' e' w' r'⟩
      · exact p.elim
    · cases hm
  | set i x =>
    simp only [mtSh] at hm
    split at hm
    · rename_i n np e' sp
      simp only [Bool.and_eq_true, decide_eq_true_eq, Bool.not_eq_true'] at hm
      obtain ⟨⟨⟨h1, h2⟩, h3⟩, h4⟩ := hm
      have hloc : L2.Loc Y.env.scope n ∧ (Y.fn n = true ∨ Y.env.scope.names.lookup n = some .local) := by
        rw [hsc]
        rw [hsc] at hfn
        unfold locB at h2
        split at h2
        · rename_i hl; exact ⟨.inl hl, .inr hl⟩
        · rename_i hl; exact ⟨.inr hl, .inl (hfn n hl)⟩
        · cases h2
      refine PSs.wk (pss_one (ps_set (by rw [hN]; exact nd) (by rw [hN]; exact h1) hloc.1 (x_pe Y hsc hN glo _ _ h3) (sw_plain h4) hloc.2)) fun D σ H ⟨ι, κ, S, ρ, w, en, p⟩ => ?_
      simp only [evH] at p
      split at p
      · rename_i d hd
        split at p
        · exact ⟨ι, κ, S, ρ, d, w, en, hd, fun v H' ι' e' w' r' => p _ H' ι' e' w' ((en.up e' w).set r')⟩
        · exact p.elim
      · exact p.elim
    · cases hm
  | cnt =>
    simp only [mtSh] at hm
    split at hm
    · refine PSs.wk (pss_one ps_continue) fun D σ H ⟨ι, κ, S, ρ, w, en, p⟩ => ?_
      simp only [evH] at p
      exact p σ H ι Ext.refl w en
    · cases hm
  | pas =>
    simp only [mtSh] at hm
    split at hm
    · refine PSs.wk (pss_one ps_pass) fun D σ H ⟨ι, κ, S, ρ, w, en, p⟩ => ?_
      simp only [evH] at p
      exact p σ H ι Ext.refl w en
    · cases hm
theorem postS_noW {K : PySem.W.Frag} {κ : List Addr} {D : Ends} {H : Hp} {ι : List Addr} {h : Sh} {ρ : Env} {S : Sto} (p : PostS T K κ W D H ι (evH [] h ρ S)) : PostS T K κ NoW D H ι (evH [] h ρ S) := by
  cases h with
  | ret x => simp only [evH] at p ⊢; split at p <;> exact p
  | set i x =>
    simp only [evH] at p ⊢
    split at p
    · split at p
      · rename_i h; rw [if_pos h]; exact p
      · exact p.elim
    · exact p.elim
  | cnt => exact p
  | pas => exact p
mutual
theorem evX_fs {fs : List (Str × MP.D)} {ρ : Env} : ∀ {x : Sx} {e : Expr}, mtX T N sc x e = true → evX fs x ρ = evX [] x ρ
  | .con d, _, _ => rfl
  | .glo _ _, _, _ => rfl
  | .var _, _, _ => rfl
  | .xf f, e, h => by simp [mtX] at h
  | .tup xs, e, h => by
    cases e with
    | Tuple es m p => simp only [mtX] at h; simp only [evX, evXs_fs h]
    | _ => simp [mtX] at h
theorem evXs_fs {fs : List (Str × MP.D)} {ρ : Env} : ∀ {xs : List Sx} {es : List Expr}, mtXs T N sc xs es = true → evXs fs xs ρ = evXs [] xs ρ
  | [], _, _ => rfl
  | x :: xs, [], h => by simp [mtXs] at h
  | x :: xs, e :: es, h => by
    simp only [mtXs, Bool.and_eq_true] at h
    simp only [evXs, evX_fs h.1, evXs_fs h.2]
end
theorem evH_fs {fs : List (Str × MP.D)} {h : Sh} {ρ : Env} {S : Sto} {sts : List Stmt} (hm : mtSh T N sc h sts = true) : evH fs h ρ S = evH [] h ρ S := by
  cases h with
  | ret x =>
    simp only [mtSh] at hm
    split at hm
    · simp only [evH, evX_fs hm]
    · cases hm
  | set i x =>
    simp only [mtSh] at hm
    split at hm
    · simp only [Bool.and_eq_true] at hm
      simp only [evH, evX_fs hm.1.2]
    · cases hm
  | cnt => rfl
  | pas => rfl
/-! ### try -/
theorem hds_ok (g : GdS T N Γ k X W sc) (F : ExcF T X.K X.mg Γ) : ∀ (hs : List Hd) (es : List ExceptHandler), mtHds T N sc hs es = true → ∃ l : List (Value × (Addr → Value → Option Addr → TS)), HdsOk X es l ∧
    ∀ (Wo : WX) (D : Ends) (C : Nat) (fs : List (Str × MP.D)) (ρ : Env) (S : Sto) (κ : List Addr) (H : Hp) (ι : List Addr), PostS T X.K κ Wo D H ι (handle Γ C fs ρ S hs) →
      ∀ cls dx σ' H' ι', Ext H ι H' ι' → Wd T X.K H' ι' κ S → EnvR X.K H' ι' κ σ' ρ → ExR T X.K H' ι' κ C fs cls dx → wMany X.K Wo D l cls dx σ' H'
  | [], [], _ => ⟨[], .nil, fun Wo D C fs ρ S κ H ι p cls dx σ' H' ι' e w en x => by simp only [handle] at p; exact p cls dx σ' H' ι' e w en x⟩
  | [], _ :: _, h => by simp [mtHds] at h
  | _ :: _, [], h => by simp [mtHds] at h
  | hd :: hs, eh :: es, h => by
    simp only [mtHds, Bool.and_eq_true] at h
    obtain ⟨l, h1, h2⟩ := hds_ok g F hs es h.2
    have hm := h.1
    unfold mtHd at hm
    split at hm
    · rename_i n np suite hp
      simp only [Bool.and_eq_true] at hm
      obtain ⟨⟨⟨⟨k1, k2⟩, k3⟩, k4⟩, k5⟩ := hm
      split at k2
      · rename_i cl hcl
        simp only [Bool.and_eq_true, decide_eq_true_eq] at k2
        obtain ⟨k2, k6⟩ := k2
        have hmg := F.mg hd.C cl hcl k6
        cases suite with
        | nil => exfalso; cases hh : hd.body <;> rw [hh] at k5 <;> simp [mtSh] at k5
        | cons b₀ suite =>
          refine ⟨(.ref (He.ga X.K cl.name), fun _ _ _ => tH T X.K hd.body) :: l, .cons ⟨g.gl k3, nmB_dbg k4, .inl (by rw [← k2]; exact hmg)⟩ (fun a oe cls d pn _ _ => ?_) h1, ?_⟩
          · exact h_pss (X.suite a ((a, oe) :: pn)) g.sc g.hN g.nd g.fn g.glo hd.body _ k5
          · intro Wo D C fs ρ S κ H ι p cls dx σ' H' ι' e w en x
            obtain ⟨c, hc, rfl, hx⟩ := id x
            have hexc : c.exc.isSome = true := by
              rcases hx with ⟨hx, _⟩ | ⟨f, d, a, v, hx, _⟩ <;> rw [hx] <;> rfl
            refine ⟨T.P.sub C hd.C, F.exm C hd.C c cl hc hcl hexc k6, fun hb a _ => ?_, fun hb => ?_⟩
            · simp only [handle] at p
              rw [F.sub, hb, if_pos rfl, evH_fs k5] at p
              have hx0 : hd.x = none := Option.isNone_iff_eq_none.mp k1
              rw [hx0] at p
              exact ⟨ι', κ, S, ρ, w, en, PostS.trans (postS_noW p) e⟩
            · simp only [handle] at p
              rw [F.sub, hb, if_neg Bool.false_ne_true] at p
              exact h2 Wo D C fs ρ S κ H ι p _ dx σ' H' ι' e w en x
      · cases k2
    · cases hm
theorem st_try (g : GdS T N Γ k X W sc) (F : ExcF T X.K X.mg Γ) {body : List Sm} {sts : List Stmt} {hd : Hd} {hs : List Hd} {eh : ExceptHandler} {ehs : List ExceptHandler} (hb : ∀ X' W', GdS T N Γ k X' W' sc → X'.K = X.K → X'.mg = X.mg → PSs X' sts (tSs T X'.K W' Γ body)) (hm : mtHds T N sc (hd :: hs) (eh :: ehs) = true) :
    PS X (.Try sts (eh :: ehs) [] [] pos) (tS T X.K W Γ (.try_ body (hd :: hs))) := by
  obtain ⟨l, h1, h2⟩ := hds_ok g F (hd :: hs) (eh :: ehs) hm
  refine PS.wk (ps_try_many (tb := fun W' => tSs T X.K W' Γ body) (Wout := W) (l := l) g.stk g.frm g.tk (fun W' pn xe tk' ow => hb (X.tr pn xe) W' (g.tr tk' ow) rfl rfl) h1) fun D σ H ⟨ι, κ, S, ρ, w, en, p⟩ => ?_
  simp only [evS] at p
  refine ⟨ι, κ, S, ρ, w, en, ?_⟩
  cases hev : evSs Γ body ρ S with
  | ok f S1 => rw [hev] at p; cases f <;> exact p
  | exc C fs ρ1 S1 => rw [hev] at p; exact h2 W D C fs ρ1 S1 κ H ι p
  | no => rw [hev] at p; exact p
end
end MP
end

section
set_option Elab.async false
set_option linter.all false
set_option maxRecDepth 100000
/-! MpV: every matched statement is sound. -/
namespace MP
open PySem PySem.Spec PyProof.Rows L2
def lcK (sc : Scope) (x : Str) (p : Pos) (s : Scope) (q : Pos) : Bool := (decide (sc.names.lookup x = some .local) && (p.line == q.line) && !(s.names.any fun (m, k) => m == x && (k == .local || k == .cell)))
def asgK (sc : Scope) (tg' e' : Expr) : Bool := match tg' with
  | .Name x p => (match e' with
    | .ListComp _ _ s q => lcK sc x p s q || decide (sc.names.lookup x = some .cell)
    | .DictComp _ _ _ s q => lcK sc x p s q || decide (sc.names.lookup x = some .cell)
    | .SetComp _ _ _ _ => false
    | _ => true)
  | .Tuple ts _ _ => (match e' with
    | .Tuple vs _ _ => noSwap sc ts vs && vs.all plainE
    | e' => !isLC e')
  | _ => false
mutual
def mtS (T : Tab) (N : List Str) (sc : Scope) : Sm → Stmt → Bool
  | .asg t e, st => match st with
    | .Assign [tg'] e' _ => mtT N sc t tg' && mtE T N e sc e' && asgK sc tg' e'
    | _ => false
  | .asgS o i e, st => match st with
    | .Assign [.Subscript o' i' _] e' _ => mtE T N o sc o' && mtE T N i sc i' && mtE T N e sc e'
    | _ => false
  | .asgA o f e, st => match st with
    | .Assign [.Attribute o' f' _] e' _ => decide (f = f') && decide (f ∈ T.flds) && mtE T N o sc o' && mtE T N e sc e'
    | _ => false
  | .par ns es, st => match st with
    | .Assign [.Tuple [.Name x xp, .Name y yp] _ _] (.Tuple [a, b] _ _) _ => (match ns with
      | [i, j] => decide (N[i]? = some x) && decide (N[j]? = some y) && decide (i ≠ j)
      | _ => false) && parB sc [.Name x xp, .Name y yp] [a, b] && mtL T N es sc [a, b]
    | _ => false
  | .swp _ _ _ _ _, _ => false
  | .aug i o e, st => match st with
    | .AugAssign (.Name x _) o' e' _ => decide (o = o') && decide (N[i]? = some x) && locB sc x && mtE T N e sc e'
    | _ => false
  | .augA o f op e, st => match st with
    | .AugAssign (.Attribute o' f' _) op' e' _ => decide (op = op') && decide (f = f') && decide (f ∈ T.flds) && mtE T N o sc o' && mtE T N e sc e'
    | _ => false
  | .ex e, st => match st with
    | .Expr e' _ => mtE T N e sc e' && !isLC e'
    | _ => false
  | .ret e, st => match st with
    | .Return (some e') _ => mtE T N e sc e'
    | _ => false
  | .retN, st => match st with
    | .Return none _ => true
    | _ => false
  | .ifs c a b, st => match st with
    | .If c' a' b' _ => mtE T N c sc c' && tst c' && mtSs T N sc a a' && mtSs T N sc b b'
    | _ => false
  | .fors t it body, st => match st with
    | .For tg' it' body' [] _ => mtT N sc t tg' && mtI T N it sc it' (tupE tg') && mtSs T N sc body body'
    | _ => false
  | .whl c body, st => match st with
    | .While c' body' [] _ => mtE T N c sc c' && tst c' && mtSs T N sc body body'
    | _ => false
  | .rai C es, st => match st with
    | .Raise (some (.Call (.Name x _) els [] _)) none _ => (match T.P.cls[C]? with
      | some c => decide (c.name = x) && decide (c.exc = some none)
      | none => false) && glB sc x && nmB x && mtL T N es sc els && !es.isEmpty
    | _ => false
  | .try_ body hs, st => match st with
    | .Try body' ehs [] [] _ => mtSs T N sc body body' && mtHds T N sc hs ehs && !hs.isEmpty
    | _ => false
  | .brk, st => match st with
    | .Break _ => true
    | _ => false
  | .cnt, st => match st with
    | .Continue _ => true
    | _ => false
  | .pas, st => match st with
    | .Pass _ => true
    | _ => false
termination_by structural s => s
def mtSs (T : Tab) (N : List Str) (sc : Scope) : List Sm → List Stmt → Bool
  | [], [] => true
  | s :: ss, t :: ts => mtS T N sc s t && mtSs T N sc ss ts
  | _, _ => false
termination_by structural s => s
end
section
variable {T : Tab} {N : List Str} {Γ : Ctx} {k : Nat}
theorem lcK_ok {sc : Scope} {x : Str} {p : Pos} {s : Scope} {q : Pos} (h : lcK sc x p s q = true) : sc.names.lookup x = some .local ∧ (p.line == q.line) = true ∧ (s.names.any fun (m, k) => m == x && (k == .local || k == .cell)) = false := by
  simp only [lcK, Bool.and_eq_true, decide_eq_true_eq, Bool.not_eq_true'] at h
  exact ⟨h.1.1, h.1.2, h.2⟩
theorem sw_cell {e : Expr} {x : Str} {p : Pos} {l : Nat} {env : PySem.Env} (h : env.scope.names.lookup x = some .cell) : swapsWith e (some (.Name x p)) l env = pure false := by
  have k1 : env.kindOf x = some .cell := h
  cases e <;> first
    | rfl
    | (unfold swapsWith; simp only [k1]; rw [show ((some NameKind.cell : Option NameKind) == some NameKind.local) = false from rfl]; simp)
theorem mut_lc {x : Ex} {sc : Scope} {elt : Expr} {gs : List Comprehension} {s : Scope} {p : Pos} (h : mtE T N x sc (.ListComp elt gs s p) = true) : ∃ e0 tg it cnd own, (x = .lc e0 tg it cnd own ∨ x = .mut (.lc e0 tg it cnd own)) ∧ mtE T N (.lc e0 tg it cnd own) sc (.ListComp elt gs s p) = true := by
  have gen : ∀ y, mtE T N y sc (.ListComp elt gs s p) = true → (∃ e0 tg it cnd own, y = .lc e0 tg it cnd own) ∨ ∃ y', y = .mut y' := fun y hy => by
    cases y <;> first
      | exact .inl ⟨_, _, _, _, _, rfl⟩
      | exact .inr ⟨_, rfl⟩
      | (simp only [mtE] at hy; cases hy)
      | (rename_i d; cases d <;> simp [mtE, conM] at hy)
  rcases gen x h with ⟨e0, tg, it, cnd, own, rfl⟩ | ⟨y, rfl⟩
  · exact ⟨e0, tg, it, cnd, own, .inl rfl, h⟩
  · simp only [mtE, Bool.and_eq_true] at h
    rcases gen y h.2 with ⟨e0, tg, it, cnd, own, rfl⟩ | ⟨y', rfl⟩
    · exact ⟨e0, tg, it, cnd, own, .inr rfl, h.2⟩
    · simp [fresh] at h
theorem mut_dc {x : Ex} {sc : Scope} {kx vx : Expr} {gs : List Comprehension} {s : Scope} {p : Pos} (h : mtE T N x sc (.DictComp kx vx gs s p) = true) : ∃ e0 e1 tg it cnd own, (x = .dc e0 e1 tg it cnd own ∨ x = .mut (.dc e0 e1 tg it cnd own)) ∧ mtE T N (.dc e0 e1 tg it cnd own) sc (.DictComp kx vx gs s p) = true := by
  have gen : ∀ y, mtE T N y sc (.DictComp kx vx gs s p) = true → (∃ e0 e1 tg it cnd own, y = .dc e0 e1 tg it cnd own) ∨ ∃ y', y = .mut y' := fun y hy => by
    cases y <;> first
      | exact .inl ⟨_, _, _, _, _, _, rfl⟩
      | exact .inr ⟨_, rfl⟩
      | (simp only [mtE] at hy; cases hy)
      | (rename_i d; cases d <;> simp [mtE, conM] at hy)
  rcases gen x h with ⟨e0, e1, tg, it, cnd, own, rfl⟩ | ⟨y, rfl⟩
  · exact ⟨e0, e1, tg, it, cnd, own, .inl rfl, h⟩
  · simp only [mtE, Bool.and_eq_true] at h
    rcases gen y h.2 with ⟨e0, e1, tg, it, cnd, own, rfl⟩ | ⟨y', rfl⟩
    · exact ⟨e0, e1, tg, it, cnd, own, .inr rfl, h.2⟩
    · simp [fresh] at h
theorem s_asg {t : Tg} {x : Ex} {X : Cx} {W : WX} {sc : Scope} {tg' e' : Expr} {pos : Pos} (g : GdS T N Γ k X W sc) (h1 : mtT N sc t tg' = true) (h2 : mtE T N x sc e' = true) (h3 : asgK sc tg' e' = true) : PS X (.Assign [tg'] e' pos) (tS T X.K W Γ (.asg t x)) := by
  have hx := sE x X W sc e' g.toGd h2
  unfold asgK at h3
  split at h3
  · rename_i n np
    have cellCase : sc.names.lookup n = some .cell → PS X (.Assign [.Name n np] e' pos) (tS T X.K W Γ (.asg t x)) := fun hc => by
      refine st_asg g h1 hx ?_ ?_ rfl
      · show swapsWith e' (some (.Name n np)) pos.line X.env = pure false
        exact sw_cell (by rw [g.sc]; exact hc)
      · cases e' <;> rfl
    split at h3
    · rename_i elt gs s q
      rcases Bool.or_eq_true_iff.mp h3 with h3 | h3
      · obtain ⟨k1, k2, k3⟩ := lcK_ok h3
        obtain ⟨e0, tg, it, cnd, own, hy, hm⟩ := mut_lc h2
        simp only [mtE] at hm
        split at hm
        · rename_i heq
          cases heq
          simp only [Bool.and_eq_true, decide_eq_true_eq] at hm
          obtain ⟨⟨⟨⟨⟨⟨⟨⟨m1, m2⟩, m3⟩, m4⟩, m5⟩, m6⟩, m7⟩, m8⟩, m9⟩ := hm
          obtain ⟨hi, hp⟩ := sI it X W sc _ _ g.toGd m1
          cases t with
          | nm i =>
            simp only [mtT, Bool.and_eq_true, decide_eq_true_eq] at h1
            exact st_lc g hy h1.1 k1 k2 k3 hi hp m2 (by simpa using m8) m9 m7 m5 m4 (fun X' W' g' => sL cnd X' W' _ _ g' m3) (fun X' W' g' => sE e0 X' W' _ _ g' m6)
          | tp ts => simp [mtT] at h1
        · cases hm
      · exact cellCase (of_decide_eq_true h3)
    · rename_i kx vx gs s q
      rcases Bool.or_eq_true_iff.mp h3 with h3 | h3
      · obtain ⟨k1, k2, k3⟩ := lcK_ok h3
        obtain ⟨e0, e1, tg, it, cnd, own, hy, hm⟩ := mut_dc h2
        simp only [mtE] at hm
        split at hm
        · rename_i heq
          cases heq
          simp only [Bool.and_eq_true, decide_eq_true_eq] at hm
          obtain ⟨⟨⟨⟨⟨⟨⟨⟨⟨m1, m2⟩, m3⟩, m4⟩, m5⟩, m6⟩, m6'⟩, m7⟩, m8⟩, m9⟩ := hm
          obtain ⟨hi, hp⟩ := sI it X W sc _ _ g.toGd m1
          cases t with
          | nm i =>
            simp only [mtT, Bool.and_eq_true, decide_eq_true_eq] at h1
            exact st_dc g hy h1.1 k1 k2 k3 hi hp m2 (by simpa using m8) m9 m7 m5 m4 (fun X' W' g' => sL cnd X' W' _ _ g' m3) (fun X' W' g' => sE e0 X' W' _ _ g' m6) (fun X' W' g' => sE e1 X' W' _ _ g' m6')
          | tp ts => simp [mtT] at h1
        · cases hm
      · exact cellCase (of_decide_eq_true h3)
    · cases h3
    · rename_i k1 k2 k3
      have hl : isLC e' = false := by
        cases e' <;> first | rfl | exact absurd rfl (k1 _ _ _ _) | exact absurd rfl (k2 _ _ _ _ _) | exact absurd rfl (k3 _ _ _ _)
      exact st_set g h1 hx hl
  · rename_i ts m tp
    split at h3
    · rename_i vs m2 vp
      rw [Bool.and_eq_true] at h3
      exact st_asg g h1 hx rfl (noSwap_eq h3.2 (by rw [g.sc]; exact h3.1)) rfl
    · rename_i k1
      simp only [Bool.not_eq_true'] at h3
      refine st_asg g h1 hx (by show swapsWith e' (some (.Tuple ts m tp)) pos.line X.env = pure false; exact sw_plain h3) ?_ rfl
      cases e' <;> first | rfl | exact absurd rfl (k1 _ _ _)
  · cases h3
mutual
theorem sS : ∀ (s : Sm) (X : Cx) (W : WX) (sc : Scope) (st : Stmt), GdS T N Γ k X W sc → ExcF T X.K X.mg Γ → mtS T N sc s st = true → PS X st (tS T X.K W Γ s)
  | .asg t e, X, W, sc, st, g, F, h => by
    simp only [mtS] at h
    split at h
    · simp only [Bool.and_eq_true] at h
      exact s_asg g h.1.1 h.1.2 h.2
    · cases h
  | .asgS o i e, X, W, sc, st, g, F, h => by
    simp only [mtS] at h
    split at h
    · simp only [Bool.and_eq_true] at h
      exact st_sub g (sE o X W sc _ g.toGd h.1.1) (sE i X W sc _ g.toGd h.1.2) (sE e X W sc _ g.toGd h.2)
    · cases h
  | .asgA o f e, X, W, sc, st, g, F, h => by
    simp only [mtS] at h
    split at h
    · simp only [Bool.and_eq_true, decide_eq_true_eq] at h
      obtain ⟨⟨⟨rfl, h1⟩, h2⟩, h3⟩ := h
      exact st_fld g h1 (sE o X W sc _ g.toGd h2) (sE e X W sc _ g.toGd h3)
    · cases h
  | .par ns es, X, W, sc, st, g, F, h => by
    simp only [mtS] at h
    split at h
    · simp only [Bool.and_eq_true] at h
      obtain ⟨⟨h1, h2⟩, h3⟩ := h
      split at h1
      · simp only [Bool.and_eq_true, decide_eq_true_eq] at h1
        exact st_par g h1.1.1 h1.1.2 h1.2 h2 (sL es X W sc _ g.toGd h3)
      · cases h1
    · cases h
  | .swp _ _ _ _ _, X, W, sc, st, g, F, h => by simp [mtS] at h
  | .aug i o e, X, W, sc, st, g, F, h => by
    simp only [mtS] at h
    split at h
    · simp only [Bool.and_eq_true, decide_eq_true_eq] at h
      obtain ⟨⟨⟨rfl, h1⟩, h2⟩, h3⟩ := h
      exact st_aug g h1 h2 (sE e X W sc _ g.toGd h3)
    · cases h
  | .augA o f op e, X, W, sc, st, g, F, h => by
    simp only [mtS] at h
    split at h
    · simp only [Bool.and_eq_true, decide_eq_true_eq] at h
      obtain ⟨⟨⟨⟨rfl, rfl⟩, h1⟩, h2⟩, h3⟩ := h
      exact st_augA g h1 (sE o X W sc _ g.toGd h2) (sE e X W sc _ g.toGd h3)
    · cases h
  | .ex e, X, W, sc, st, g, F, h => by
    simp only [mtS] at h
    split at h
    · simp only [Bool.and_eq_true, Bool.not_eq_true'] at h
      exact st_ex (sE e X W sc _ g.toGd h.1) h.2
    · cases h
  | .ret e, X, W, sc, st, g, F, h => by
    simp only [mtS] at h
    split at h
    · exact st_ret (sE e X W sc _ g.toGd h)
    · cases h
  | .retN, X, W, sc, st, g, F, h => by
    simp only [mtS] at h
    split at h
    · exact st_retN
    · cases h
  | .ifs c a b, X, W, sc, st, g, F, h => by
    simp only [mtS] at h
    split at h
    · simp only [Bool.and_eq_true] at h
      exact st_if (sE c X W sc _ g.toGd h.1.1.1) h.1.1.2 (sSs a X W sc _ g F h.1.2) (sSs b X W sc _ g F h.2)
    · cases h
  | .fors t it body, X, W, sc, st, g, F, h => by
    simp only [mtS] at h
    split at h
    · simp only [Bool.and_eq_true] at h
      obtain ⟨hi, hp⟩ := sI it X W sc _ _ g.toGd h.1.2
      exact st_for g h.1.1 hi hp (sSs body X W sc _ g F h.2)
    · cases h
  | .whl c body, X, W, sc, st, g, F, h => by
    simp only [mtS] at h
    split at h
    · simp only [Bool.and_eq_true] at h
      exact st_whl g (sE c X W sc _ g.toGd h.1.1) h.1.2 (sSs body X W sc _ g F h.2)
    · cases h
  | .rai C es, X, W, sc, st, g, F, h => by
    simp only [mtS] at h
    split at h
    · simp only [Bool.and_eq_true] at h
      obtain ⟨⟨⟨⟨h1, h2⟩, h3⟩, h4⟩, h5⟩ := h
      split at h1
      · rename_i cl hcl
        simp only [Bool.and_eq_true, decide_eq_true_eq] at h1
        have hl := sL es X W sc _ g.toGd h4
        cases hl with
        | nil => simp at h5
        | cons a t => exact st_rai g F hcl h1.1 h1.2 h2 h3 (.cons a t)
      · cases h1
    · cases h
  | .try_ body hs, X, W, sc, st, g, F, h => by
    simp only [mtS] at h
    split at h
    · rename_i body' ehs _
      simp only [Bool.and_eq_true] at h
      obtain ⟨⟨h1, h2⟩, h3⟩ := h
      cases hs with
      | nil => simp at h3
      | cons hd hs =>
        cases ehs with
        | nil => simp [mtHds] at h2
        | cons eh ehs => exact st_try g F (fun X' W' g' hK hmg => sSs body X' W' sc _ g' (by rw [hK, hmg]; exact F) h1) h2
    · cases h
  | .brk, X, W, sc, st, g, F, h => by
    simp only [mtS] at h
    split at h
    · exact st_brk
    · cases h
  | .cnt, X, W, sc, st, g, F, h => by
    simp only [mtS] at h
    split at h
    · exact st_cnt
    · cases h
  | .pas, X, W, sc, st, g, F, h => by
    simp only [mtS] at h
    split at h
    · exact st_pas
    · cases h
theorem sSs : ∀ (ss : List Sm) (X : Cx) (W : WX) (sc : Scope) (sts : List Stmt), GdS T N Γ k X W sc → ExcF T X.K X.mg Γ → mtSs T N sc ss sts = true → PSs X sts (tSs T X.K W Γ ss)
  | [], X, W, sc, [], g, F, h => sts_nil
  | [], X, W, sc, _ :: _, g, F, h => by simp [mtSs] at h
  | _ :: _, X, W, sc, [], g, F, h => by simp [mtSs] at h
  | s :: ss, X, W, sc, t :: ts, g, F, h => by
    simp only [mtSs, Bool.and_eq_true] at h
    exact sts_cons (sS s X W sc t g F h.1) (sSs ss X W sc ts g F h.2)
end
end
end MP
end

section
set_option Elab.async false
set_option linter.all false
set_option maxRecDepth 100000
/-! MpW: the end of a call; functions by levels. -/
namespace MP
open PySem PySem.Spec PyProof.Rows L2
section
variable {T : Tab} {K : PySem.W.Frag} {H H' : Hp} {ι ι' κ : List Addr} {S S' : Sto}
/-! what is told of a heap refers to its store -/
mutual
theorem Rep.below : ∀ {d : D} {v : V}, Rep K H ι κ d v → below ι.length d = true
  | .non, _, _ | .bl _, _, _ | .int _, _, _ | .str _, _, _ | .rol _, _, _ => by simp [MP.below]
  | .tup ds, v, h => by simp only [Rep] at h; obtain ⟨a, vs, _, _, q⟩ := h; simp only [MP.below]; exact RepL.below q
  | .lst ds, v, h => by simp only [Rep] at h; obtain ⟨a, vs, _, _, _, _, q⟩ := h; simp only [MP.below]; exact RepL.below q
  | .dic ds, v, h => by simp only [Rep] at h; obtain ⟨a, o, vs, _, _, q⟩ := h; simp only [MP.below]; exact RepK.below q
  | .dit ds, v, h => by simp only [Rep] at h; obtain ⟨a, o, vs, _, _, q⟩ := h; simp only [MP.below]; exact RepT.below q
  | .ref n, v, h => by
    simp only [Rep] at h
    obtain ⟨a, _, q⟩ := h
    simp only [MP.below]
    exact decide_eq_true (List.getElem?_eq_some_iff.mp q).1
theorem RepL.below : ∀ {d : List D} {v : List V}, RepL K H ι κ d v → belowL ι.length d = true
  | [], _, _ => by simp [belowL]
  | d :: ds, _, h => by simp only [RepL] at h; obtain ⟨v, r, _, q, q'⟩ := h; simp only [belowL, Rep.below q, RepL.below q']; rfl
theorem RepK.below : ∀ {d : List (Ky × D)} {v : List (Ky × V)}, RepK K H ι κ d v → belowK ι.length d = true
  | [], _, _ => by simp [belowK]
  | (k, d) :: ds, _, h => by simp only [RepK] at h; obtain ⟨v, r, _, q, q', _⟩ := h; simp only [belowK, Rep.below q, RepK.below q']; rfl
theorem RepT.below : ∀ {d : List (List Ky × D)} {v : List (List Ky × V)}, RepT K H ι κ d v → belowT ι.length d = true
  | [], _, _ => by simp [belowT]
  | (k, d) :: ds, _, h => by simp only [RepT] at h; obtain ⟨v, r, _, q, q'⟩ := h; simp only [belowT, Rep.below q, RepT.below q']; rfl
end
theorem RepF.below : ∀ {d : List (Str × D)} {v : List (Str × V)}, RepF K H ι κ d v → (d.all fun p => below ι.length p.2) = true
  | [], _, _ => rfl
  | (k, d) :: ds, _, ⟨v, r, _, q, q'⟩ => by simp only [List.all_cons, Rep.below q, RepF.below q']; rfl
theorem ref_back (hp : ι <+: ι') {n : Nat} {a : Addr} (hn : n < ι.length) (h : ι'[n]? = some a) : ι[n]? = some a := by
  obtain ⟨t, rfl⟩ := hp
  rw [List.getElem?_append_left hn] at h; exact h
/-! back to the store ahead of the call -/
mutual
theorem Rep.back (hp : ι <+: ι') : ∀ {d : D} {v : V}, below ι.length d = true → Rep K H ι' κ d v → Rep K H ι κ d v
  | .non, _, _, h | .bl _, _, _, h | .int _, _, _, h | .str _, _, _, h => by simpa only [Rep] using h
  | .tup ds, v, b, h => by
    simp only [Rep] at h ⊢
    simp only [MP.below] at b
    obtain ⟨a, vs, r, s, q⟩ := h
    exact ⟨a, vs, r, s, RepL.back hp b q⟩
  | .lst ds, v, b, h => by
    simp only [Rep] at h ⊢
    simp only [MP.below] at b
    obtain ⟨a, vs, r, s, n, n', q⟩ := h
    exact ⟨a, vs, r, s, fun z => n (hp.subset z), n', RepL.back hp b q⟩
  | .rol ns, v, b, h => by
    simp only [Rep] at h ⊢
    obtain ⟨a, r, s, q⟩ := h
    rcases s with ⟨s, n, n'⟩ | s
    · exact ⟨a, r, .inl ⟨s, fun z => n (hp.subset z), n'⟩, q⟩
    · exact ⟨a, r, .inr s, q⟩
  | .dic kvs, v, b, h => by
    simp only [Rep] at h ⊢
    simp only [MP.below] at b
    obtain ⟨a, o, vs, r, s, q⟩ := h
    exact ⟨a, o, vs, r, s, RepK.back hp b q⟩
  | .dit kvs, v, b, h => by
    simp only [Rep] at h ⊢
    simp only [MP.below] at b
    obtain ⟨a, o, vs, r, s, q⟩ := h
    exact ⟨a, o, vs, r, s, RepT.back hp b q⟩
  | .ref n, v, b, h => by
    simp only [Rep] at h ⊢
    simp only [MP.below] at b
    obtain ⟨a, r, s⟩ := h
    exact ⟨a, r, ref_back hp (of_decide_eq_true b) s⟩
theorem RepL.back (hp : ι <+: ι') : ∀ {d : List D} {v : List V}, belowL ι.length d = true → RepL K H ι' κ d v → RepL K H ι κ d v
  | [], _, _, h => by simpa only [RepL] using h
  | d :: ds, _, b, h => by
    simp only [RepL] at h ⊢
    simp only [belowL, Bool.and_eq_true] at b
    obtain ⟨v, r, rfl, q, q'⟩ := h
    exact ⟨v, r, rfl, Rep.back hp b.1 q, RepL.back hp b.2 q'⟩
theorem RepK.back (hp : ι <+: ι') : ∀ {d : List (Ky × D)} {v : List (Ky × V)}, belowK ι.length d = true → RepK K H ι' κ d v → RepK K H ι κ d v
  | [], _, _, h => by simpa only [RepK] using h
  | (k, d) :: ds, _, b, h => by
    simp only [RepK] at h ⊢
    simp only [belowK, Bool.and_eq_true] at b
    obtain ⟨v, r, rfl, q, q', ok⟩ := h
    exact ⟨v, r, rfl, Rep.back hp b.1 q, RepK.back hp b.2 q', ok⟩
theorem RepT.back (hp : ι <+: ι') : ∀ {d : List (List Ky × D)} {v : List (List Ky × V)}, belowT ι.length d = true → RepT K H ι' κ d v → RepT K H ι κ d v
  | [], _, _, h => by simpa only [RepT] using h
  | (k, d) :: ds, _, b, h => by
    simp only [RepT] at h ⊢
    simp only [belowT, Bool.and_eq_true] at b
    obtain ⟨v, r, rfl, q, q'⟩ := h
    exact ⟨v, r, rfl, Rep.back hp b.1 q, RepT.back hp b.2 q'⟩
end
theorem RepF.back (hp : ι <+: ι') : ∀ {d : List (Str × D)} {v : List (Str × V)}, (d.all fun p => MP.below ι.length p.2) = true → RepF K H ι' κ d v → RepF K H ι κ d v
  | [], _, _, h => h
  | (k, d) :: ds, _, b, ⟨v, r, e1, q, q'⟩ => by
    simp only [List.all_cons, Bool.and_eq_true] at b
    exact ⟨v, r, e1, Rep.back hp b.1 q, RepF.back hp b.2 q'⟩
def belowO (n : Nat) : O → Bool
  | .lst xs => belowL n xs
  | .dic kvs => belowK n kvs
  | .dit kvs => belowT n kvs
  | .ins _ fs => fs.all fun p => below n p.2
theorem ObR.below {a : Addr} {o : O} (h : ObR T K H ι κ a o) : belowO ι.length o = true := by
  cases o with
  | lst ds => obtain ⟨vs, _, r⟩ := h; exact RepL.below r
  | dic ds => obtain ⟨vs, _, r⟩ := h; exact RepK.below r
  | dit ds => obtain ⟨vs, _, r⟩ := h; exact RepT.below r
  | ins C fs => obtain ⟨c, dx, gs, _, _, r⟩ := h; exact RepF.below r
theorem ObR.back (hp : ι <+: ι') {a : Addr} {o : O} (b : belowO ι.length o = true) (h : ObR T K H ι' κ a o) : ObR T K H ι κ a o := by
  cases o with
  | lst ds => obtain ⟨vs, q, r⟩ := h; exact ⟨vs, q, RepL.back hp b r⟩
  | dic ds => obtain ⟨vs, q, r⟩ := h; exact ⟨vs, q, RepK.back hp b r⟩
  | dit ds => obtain ⟨vs, q, r⟩ := h; exact ⟨vs, q, RepT.back hp b r⟩
  | ins C fs => obtain ⟨c, dx, gs, q, r, t⟩ := h; exact ⟨c, dx, gs, q, r, RepF.back hp b t⟩
theorem Wd.back (w : Wd T K H ι κ S) (e : Ext H ι H' ι') (w' : Wd T K H' ι' κ S') (ho : oldOk S.length S S' = true) : Ext H ι H' ι ∧ Wd T K H' ι κ (S'.take S.length) := by
  have hl : S.length ≤ S'.length := by
    rw [← w.len, ← w'.len]; exact e.pre.length_le
  refine ⟨⟨e.keep, fun _ z => .inl z, List.prefix_refl _⟩, ⟨by rw [List.length_take, w.len]; omega, w.nd, w.dj, w'.kt, fun n a o h1 h2 => ?_⟩⟩
  have hn : n < S.length := by rw [← w.len]; exact (List.getElem?_eq_some_iff.mp h1).1
  rw [List.getElem?_take_of_lt hn] at h2
  have h3 := w'.ob n a o (getE e h1) h2
  refine h3.back e.pre ?_
  unfold oldOk at ho
  rw [List.all_eq_true] at ho
  have h4 := ho n (List.mem_range.mpr hn)
  rcases Bool.or_eq_true_iff.mp h4 with h4 | h4
  · have h5 : S'[n]? = S[n]? := of_decide_eq_true h4
    rw [h2] at h5
    exact (w.ob n a o h1 h5.symm).below
  · rw [h2] at h4
    rw [w.len]
    cases o with
    | lst xs => exact h4
    | dic xs => exact h4
    | dit xs => exact h4
    | ins C fs => exact h4
/-! laid open -/
theorem frz_sound (w' : Wd T K H' ι' κ S') (hp : ι <+: ι') : ∀ (m : Nat), (∀ {d d' : D} {v : V}, frz S' ι.length m d = some d' → Rep K H' ι' κ d v → Rep K H' ι κ d' v) ∧ (∀ {d d' : List D} {v : List V}, frzL S' ι.length m d = some d' → RepL K H' ι' κ d v → RepL K H' ι κ d' v) ∧
    (∀ {d d' : List (Ky × D)} {v : List (Ky × V)}, frzK S' ι.length m d = some d' → RepK K H' ι' κ d v → RepK K H' ι κ d' v) ∧ (∀ {d d' : List (List Ky × D)} {v : List (List Ky × V)}, frzT S' ι.length m d = some d' → RepT K H' ι' κ d v → RepT K H' ι κ d' v)
  | 0 => ⟨fun h => by simp [frz] at h, fun h => by simp [frzL] at h, fun h => by simp [frzK] at h, fun h => by simp [frzT] at h⟩
  | m + 1 => by
    obtain ⟨i1, i2, i3, i4⟩ := frz_sound w' hp m
    refine ⟨fun {d d' v} h r => ?_, fun {d d' v} h r => ?_, fun {d d' v} h r => ?_, fun {d d' v} h r => ?_⟩
    · simp only [frz] at h
      cases d with
      | ref i =>
        simp only at h
        simp only [Rep] at r
        obtain ⟨a, rfl, ha⟩ := r
        split at h
        · rename_i hi
          cases h
          simp only [Rep]
          exact ⟨a, rfl, ref_back hp hi ha⟩
        · rename_i hi
          split at h
          · rename_i xs hs
            obtain ⟨ys, hy, rfl⟩ := Option.map_eq_some_iff.mp h
            obtain ⟨vs, h1, h2⟩ := w'.ob i a _ ha hs
            simp only [Rep]
            refine ⟨a, vs, rfl, h1, fun z => ?_, fun z => w'.dj a z (List.mem_of_getElem? ha), i2 hy h2⟩
            obtain ⟨j, hj, e⟩ := List.mem_iff_getElem.mp z
            have h5 : ι'[j]? = some a := by
              obtain ⟨t, rfl⟩ := hp
              rw [List.getElem?_append_left hj, List.getElem?_eq_getElem hj, e]
            have h6 := (List.getElem?_eq_some_iff.mp ha)
            have h7 := (List.getElem?_eq_some_iff.mp h5)
            have : i = j := (List.getElem_inj w'.nd).mp (h6.2.trans h7.2.symm)
            omega
          · cases h
      | tup xs =>
        obtain ⟨ys, hy, rfl⟩ := Option.map_eq_some_iff.mp h
        simp only [Rep] at r ⊢
        obtain ⟨a, vs, e, s, q⟩ := r
        exact ⟨a, vs, e, s, i2 hy q⟩
      | lst xs =>
        obtain ⟨ys, hy, rfl⟩ := Option.map_eq_some_iff.mp h
        simp only [Rep] at r ⊢
        obtain ⟨a, vs, e, s, n, n', q⟩ := r
        exact ⟨a, vs, e, s, fun z => n (hp.subset z), n', i2 hy q⟩
      | dic xs =>
        obtain ⟨ys, hy, rfl⟩ := Option.map_eq_some_iff.mp h
        simp only [Rep] at r ⊢
        obtain ⟨a, o, vs, e, s, q⟩ := r
        exact ⟨a, o, vs, e, s, i3 hy q⟩
      | dit xs =>
        obtain ⟨ys, hy, rfl⟩ := Option.map_eq_some_iff.mp h
        simp only [Rep] at r ⊢
        obtain ⟨a, o, vs, e, s, q⟩ := r
        exact ⟨a, o, vs, e, s, i4 hy q⟩
      | non => cases h; exact Rep.back hp rfl r
      | bl b => cases h; exact Rep.back hp rfl r
      | int i => cases h; exact Rep.back hp rfl r
      | str x => cases h; exact Rep.back hp rfl r
      | rol ns => cases h; exact Rep.back hp rfl r
    · simp only [frzL] at h
      cases d with
      | nil => cases h; simpa only [RepL] using r
      | cons x xs =>
        simp only at h
        split at h
        · rename_i y ys h1 h2
          cases h
          simp only [RepL] at r ⊢
          obtain ⟨v, r', rfl, q, q'⟩ := r
          exact ⟨v, r', rfl, i1 h1 q, i2 h2 q'⟩
        · cases h
    · simp only [frzK] at h
      cases d with
      | nil => cases h; simpa only [RepK] using r
      | cons x xs =>
        obtain ⟨kx, x⟩ := x
        simp only at h
        split at h
        · rename_i y ys h1 h2
          cases h
          simp only [RepK] at r ⊢
          obtain ⟨v, r', rfl, q, q', ok⟩ := r
          exact ⟨v, r', rfl, i1 h1 q, i3 h2 q', ok⟩
        · cases h
    · simp only [frzT] at h
      cases d with
      | nil => cases h; simpa only [RepT] using r
      | cons x xs =>
        obtain ⟨kx, x⟩ := x
        simp only at h
        split at h
        · rename_i y ys h1 h2
          cases h
          simp only [RepT] at r ⊢
          obtain ⟨v, r', rfl, q, q'⟩ := r
          exact ⟨v, r', rfl, i1 h1 q, i4 h2 q'⟩
        · cases h
theorem gc_sound {W : WX} {σ : L2.St} {d : D} {Q : VK} (w : Wd T K H ι κ S) (h : Post T K κ W σ (relV K κ) H ι (gc S d S') Q) {v : V} (e : Ext H ι H' ι') (w' : Wd T K H' ι' κ S') (r : Rep K H' ι' κ d v) : Q v H' := by
  unfold gc at h
  split at h
  · rename_i ho
    obtain ⟨e2, w2⟩ := w.back e w' ho
    split at h
    · rename_i hb
      rw [← w.len] at hb
      exact h v H' ι e2 w2 (Rep.back e.pre hb r)
    · split at h
      · rename_i d' hf
        rw [← w.len] at hf h w2
        exact h v H' ι e2 w2 ((frz_sound w' e.pre 10000).1 hf r)
      · exact h v H' ι' e w' r
  · exact h v H' ι' e w' r
theorem gcX_sound {W : WX} {σ : L2.St} {C : Nat} {fs : List (Str × D)} {Q : VK} (w : Wd T K H ι κ S) (h : Post T K κ W σ (relV K κ) H ι (gcX S C fs S') Q) {cls : Value} {dx : Option Addr} (e : Ext H ι H' ι') (w' : Wd T K H' ι' κ S') (x : ExR T K H' ι' κ C fs cls dx) : W cls dx σ H' := by
  unfold gcX at h
  split at h
  · rename_i ho
    obtain ⟨e2, w2⟩ := w.back e w' ho.1
    refine h cls dx H' ι e2 w2 ?_
    obtain ⟨c, h1, h2, h3⟩ := x
    refine ⟨c, h1, h2, ?_⟩
    rcases h3 with h3 | ⟨f, d, a, v, k1, rfl, k3, k4, k5⟩
    · exact .inl h3
    · refine .inr ⟨f, d, a, v, k1, rfl, k3, k4, Rep.back e.pre ?_ k5⟩
      have := ho.2
      simp only [List.all_cons, List.all_nil, Bool.and_true] at this
      rw [w.len]; exact this
  · exact h cls dx H' ι' e w' x
end
end MP
end

section
set_option Elab.async false
set_option linter.all false
set_option maxRecDepth 100000
/-! MpX: functions by levels. -/
namespace MP
open PySem PySem.Spec PyProof.Rows L2
def DefAt (T : Tab) (K : PySem.W.Frag) (a : Addr) (fn : Fn) (fd : FuncData) : Prop :=
  ∃ x qual params body scope, FunD K x qual params body scope [] [] a fd ∧ FnScope fn.N fn.ps scope ∧ Binds K fd fn.ps [] ∧ mtSs T fn.N scope fn.body body = true
structure Stat (T : Tab) (K : PySem.W.Frag) (mg : Str → Option Value) (ad : Nat → Addr) : Prop where
  df : ∀ (f : Nat) (fn : Fn), T.P.fns[f]? = some fn → ∃ fd, DefAt T K (ad f) fn fd
  gl : ∀ (x : Str) (f : Nat), (x, f) ∈ T.gl → (∃ fn, T.P.fns[f]? = some fn) ∧ mg x = some (.ref (ad f)) ∧ PySem.W.keepIn K (.ref (ad f)) = true
  blt : ∀ x ∈ bltNames, mg x = none
  con : ∀ (x : Str) (d : D), (x, d) ∈ T.consts → ∃ u v, mg x = some u ∧ RelV v u ∧ ∀ H ι κ, Rep K H ι κ d v
  cls : ∀ (C : Nat) (c : Addr), T.cad K C = some c → Cls K c
  noat : ∀ (C : Nat) (c : Addr) (f : Str), T.cad K C = some c → f ∈ T.flds → NoAttr K c f
  meth : ∀ (C : Nat) (c : Addr) (cl : Cl) (m : Str) (f : Nat), T.cad K C = some c → T.P.cls[C]? = some cl → cl.meths.lookup m = some f → (∃ fn, T.P.fns[f]? = some fn) ∧ Meth K c m (ad f)
  make : ∀ (C : Nat) (c : Addr) (cl : Cl) (f : Nat), T.cad K C = some c → T.P.cls[C]? = some cl → cl.init = some f → (∃ fn, T.P.fns[f]? = some fn) ∧ mg cl.name = some (.ref c) ∧ Mk K c (ad f)
  ecls : ∀ (C : Nat) (c : Cl), T.P.cls[C]? = some c → c.exc = some none → ∃ B newId initId bmB, ExcBaseFacts B newId initId bmB ∧ PySem.W.excIn K (He.ga K c.name) bmB newId = true ∧ PySem.W.keepIn K (.ref (He.ga K c.name)) = true ∧
    PySem.W.subIn K (.ref (He.ga K c.name)) (.type "BaseException") = some true ∧ PySem.W.typeIn K (.ref (He.ga K c.name)) = some (.type "type")
  emg : ∀ (C : Nat) (c : Cl), T.P.cls[C]? = some c → c.exc.isSome = true → mg c.name = some (.ref (He.ga K c.name))
  exm : ∀ (C C' : Nat) (c c' : Cl), T.P.cls[C]? = some c → T.P.cls[C']? = some c' → c.exc.isSome = true → c'.exc.isSome = true → PySem.W.exmOne K (.ref (He.ga K c.name)) (.ref (He.ga K c'.name)) = some (T.P.sub C C')
section
variable {T : Tab} {P : Program} {w : World} {K : PySem.W.Frag} {mg : Str → Option Value} {base : Heap} {ad : Nat → Addr}
def lev (T : Tab) (j : Nat) : Ctx := T.P.ctx (run T.P j)
theorem Stat.excF (st : Stat T K mg ad) (j : Nat) : ExcF T K mg (lev T j) where
  cls := st.ecls
  mg := st.emg
  exm := st.exm
  xf := fun C c h => by
    show (match T.P.cls[C]? with
      | some c => c.exc
      | none => none) = c.exc
    rw [h]
  sub := fun _ _ => rfl
def Lv (T : Tab) (P : Program) (w : World) (K : PySem.W.Frag) (mg : Str → Option Value) (base : Heap) (ad : Nat → Addr) (j : Nat) : Prop :=
  ∀ (f : Nat) (fn : Fn) (fd : FuncData), T.P.fns[f]? = some fn → DefAt T K (ad f) fn fd → Binds K fd fn.ps [] ∧ FnOk P w K mg base (L2.CX P w) (2 * j) (ad f) fd fn.ps (spF T K (lev T j) fn.ps.length f)
theorem Lv.fdef (st : Stat T K mg ad) {j : Nat} (h : Lv T P w K mg base ad j) {f : Nat} {fn : Fn} (hf : T.P.fns[f]? = some fn) : FDef T P w K mg base (lev T j) (2 * j) (ad f) f := by
  obtain ⟨fd, hd⟩ := st.df f fn hf
  obtain ⟨h1, h2⟩ := h f fn fd hf hd
  refine ⟨fd, fn.ps, h1, h2, fun ds S => ?_⟩
  show run T.P j f ds S = .no ∨ _
  cases j with
  | zero => exact .inl rfl
  | succ j =>
    simp only [run, hf]
    by_cases hl : ds.length = fn.ps.length
    · exact .inr hl
    · rw [if_neg hl]; exact .inl rfl
theorem Stat.globals (st : Stat T K mg ad) {j : Nat} (h : Lv T P w K mg base ad j) : Globals T P w K mg base (lev T j) (2 * j) where
  fn := fun x f hx => by
    obtain ⟨⟨fn, h1⟩, h2, h3⟩ := st.gl x f hx
    exact ⟨ad f, h2, h3, h.fdef st h1⟩
  blt := st.blt
  con := st.con
  cls := st.cls
  noat := st.noat
  meth := fun C c m f hc hm => by
    have hm : (match T.P.cls[C]? with
      | some c => c.meths.lookup m
      | none => none) = some f := hm
    split at hm
    · rename_i cl hcl
      obtain ⟨⟨fn, h1⟩, h2⟩ := st.meth C c cl m f hc hcl hm
      exact ⟨ad f, h2, h.fdef st h1⟩
    · cases hm
  make := fun C c f cl hc hcl hI => by
    have hI : (match T.P.cls[C]? with
      | some c => c.init
      | none => none) = some f := hI
    rw [hcl] at hI
    obtain ⟨⟨fn, h1⟩, h2, h3⟩ := st.make C c cl f hc hcl hI
    exact ⟨h2, ad f, h3, h.fdef st h1⟩
theorem env_start {H : Hp} {ι κ : List Addr} {N : List Str} {ds : List D} {vs : List V} (r : RepL K H ι κ ds vs) (hn : vs.length ≤ N.length) : EnvR K H ι κ (L2.start N vs) (ds.map some ++ List.replicate (N.length - ds.length) none) := by
  have hl := RepL.length r
  refine ⟨by unfold L2.start; simp; omega, fun i d e => ?_⟩
  by_cases hi : i < ds.length
  · rw [List.getElem?_append_left (by simpa using hi), List.getElem?_map] at e
    cases hd : ds[i]? with
    | none => rw [hd] at e; cases e
    | some d' =>
      rw [hd] at e
      cases e
      obtain ⟨v, h1, h2⟩ := RepL.get r hd
      refine ⟨v, ?_, h2⟩
      unfold L2.start
      rw [List.getElem?_append_left (by simp; omega), List.getElem?_map, h1]
      rfl
  · rw [List.getElem?_append_right (by simp; omega), List.getElem?_replicate] at e
    split at e <;> cases e
theorem Stat.levels (st : Stat T K mg ad) : ∀ j, Lv T P w K mg base ad j
  | 0 => fun f fn fd hf hd => by
    obtain ⟨x, qual, params, body, scope, h1, h2, h3, h4⟩ := hd
    refine ⟨h3, ⟨fun vs H Q E ⟨ι, κ, S, ds, _, _, hl, _⟩ => hl, fun A outer s H args us vs Q E _ _ _ _ ⟨ι, κ, S, ds, _, _, _, p⟩ => ?_⟩⟩
    exact p.elim
  | j + 1 => fun f fn fd hf hd => by
    have ih := st.levels j
    obtain ⟨x, qual, params, body, scope, h1, h2, h3, h4⟩ := hd
    refine ⟨h3, ?_⟩
    show FnOk P w K mg base (L2.CX P w) (2 * j + 1 + 1) (ad f) fd fn.ps _
    refine h1.ok h2 (fun vs H Q E ⟨ι, κ, S, ds, _, _, hl, _⟩ => hl) fun cdv A outer s H vs Q E hroom ⟨ι, κ, S, ds, w0, r0, hl, p⟩ => ?_
    refine ⟨tSs T K (fun cls d _ H => E cls d H) (lev T j) fn.body, ?_, ?_⟩
    · have g : GdS T fn.N (lev T j) (2 * j) (cxOf (L2.CX P w) P w K mg base fn.N qual scope (ad f) cdv A outer s H E) (fun cls d _ H => E cls d H) scope := {
        sc := rfl
        hN := rfl
        nd := h2.nd
        calm := rfl
        room := hroom
        tk := takes_of rfl rfl rfl rfl
        glo := st.globals ih
        stk := rfl
        frm := rfl
        own := passes_of rfl
        fn := fun _ _ => rfl
        kind := h2.kind }
      exact sSs fn.body _ _ scope body g (st.excF j) h4
    · have p : Post T K κ (fun c d _ H => E c d H) [] (relV K κ) H ι (run T.P (j + 1) f ds S) Q := p
      simp only [run, hf] at p
      have hds : ds.length = fn.ps.length := (RepL.length r0).trans hl
      rw [if_pos hds] at p
      have hN : fn.ps.length ≤ fn.N.length := by
        have := congrArg List.length h2.pre
        rw [List.length_take] at this; omega
      refine ⟨ι, κ, S, ds.map some ++ List.replicate (fn.N.length - ds.length) none, w0, env_start r0 (by omega), ?_⟩
      show PostS T K κ _ _ H ι (evSs (lev T j) fn.body _ S)
      have p : Post T K κ (fun c d _ H => E c d H) [] (relV K κ) H ι (fin S (evSs (lev T j) fn.body (ds.map some ++ List.replicate (fn.N.length - ds.length) none) S)) Q := p
      cases hev : evSs (lev T j) fn.body (ds.map some ++ List.replicate (fn.N.length - ds.length) none) S with
      | ok fl S1 =>
        rw [hev] at p
        cases fl with
        | nx ρ => exact fun σ' H' ι' e' w' _ => gc_sound w0 p e' w' (by simp only [Rep])
        | ret d => exact fun v H' ι' e' w' r' => gc_sound w0 p e' w' r'
        | brk ρ => exact p.elim
        | cnt ρ => exact p.elim
      | exc C fs ρ S1 => rw [hev] at p; exact fun cls dx σ' H' ι' e' w' _ x' => gcX_sound w0 p e' w' x'
      | no => rw [hev] at p; exact p
end
end MP
end

section
set_option Elab.async false
set_option linter.all false
set_option maxRecDepth 100000
/-! MpY: the facts of a law's head give what the functions lean on; the law's end. -/
namespace MP
open PySem PySem.Spec PyProof.Rows L2
structure Facts (T : Tab) (fa : List He.Fa) (ds : List He.DefD) : Prop where
  df : ∀ (f : Nat) (fn : Fn), T.P.fns[f]? = some fn → ∃ d ∈ ds, d.at_ = fn.at_ ∧ d.dfl = [] ∧ d.kwd = [] ∧ FnScope fn.N fn.ps d.scope ∧ mtSs T fn.N d.scope fn.body d.body = true ∧
    ∀ (kV doc pm : Value) (an : Option Addr) (cdv ct : Value) (us : List Value), us.length = fn.ps.length → bindArgs (PySem.W.fnOf d.name d.qual d.params d.body d.scope .none kV doc pm an cdv ct) ⟨us, []⟩ = pure (fn.ps.zip us)
  gl : ∀ (x : Str) (f : Nat), (x, f) ∈ T.gl → ∃ fn, T.P.fns[f]? = some fn ∧ fn.at_ = (x, none) ∧ He.Fa.glo x ∈ fa
  free : ∀ x ∈ bltNames, He.Fa.free x ∈ fa
  con : ∀ (x : Str) (d : D), (x, d) ∈ T.consts → (∃ i, d = .int i ∧ He.Fa.int x i ∈ fa) ∨ ∃ z, d = .str z ∧ He.Fa.str x z ∈ fa ∧ PyData.strOk z = true
  cls : ∀ (C : Nat) (cl : Cl), T.P.cls[C]? = some cl → cl.exc = some none ∧ He.Fa.exc cl.name ∈ fa ∧ He.Fa.glo cl.name ∈ fa
  exm : ∀ (C C' : Nat) (c c' : Cl), T.P.cls[C]? = some c → T.P.cls[C']? = some c' → He.Fa.exm c.name c'.name (T.P.sub C C') ∈ fa
def adOf (T : Tab) (K : PySem.W.Frag) (f : Nat) : Addr := match T.P.fns[f]? with
  | some fn => He.fAd K fn.at_
  | none => 0
theorem Facts.stat {T : Tab} {fa : List He.Fa} {ds : List He.DefD} (F : Facts T fa ds) {K : PySem.W.Frag} {h : Heap} {mg : Str → Option Value} (X : K.In h) (G : h.Ns mainGlobals mg) (c : He.SaysD fa ds K) : Stat T K mg (adOf T K) := by
  have noCad : ∀ C, T.cad K C = none := fun C => by
    unfold Tab.cad
    cases hC : T.P.cls[C]? with
    | none => rfl
    | some cl =>
      show (if cl.exc.isNone then some (He.ga K cl.name) else none) = none
      rw [(F.cls C cl hC).1]; rfl
  have fun_ : ∀ f fn, T.P.fns[f]? = some fn → ∃ d fd, d ∈ ds ∧ FunD K d.name d.qual d.params d.body d.scope [] [] (adOf T K f) fd ∧ FnScope fn.N fn.ps d.scope ∧ Binds K fd fn.ps [] ∧ mtSs T fn.N d.scope fn.body d.body = true := fun f fn hf => by
    obtain ⟨d, h1, h2, h3, h4, h5, h6, h7⟩ := F.df f fn hf
    obtain ⟨fd, k⟩ := c.defs h1
    have e1 : d.dvs K = [] := by unfold He.DefD.dvs; rw [h3]; rfl
    have e2 : d.kws K = [] := by unfold He.DefD.kws; rw [h4]; rfl
    rw [e1, e2, h2] at k
    have ea : adOf T K f = He.fAd K fn.at_ := by unfold adOf; rw [hf]
    rw [← ea] at k
    exact ⟨d, fd, h1, k, h5, k.bindsN h7, h6⟩
  refine ⟨fun f fn hf => ?_, fun x f hx => ?_, fun x hx => He.free_ok X G (c.facts (F.free x hx)), fun x d hx => ?_, fun C c' hc => ?_, fun C c' f hc => ?_, fun C c' cl m f hc => ?_, fun C c' cl f hc => ?_, fun C cl hC _ => ?_, fun C cl hC _ => ?_, fun C C' a b hC hC' _ _ => He.exm_ok (c.facts (F.exm C C' a b hC hC'))⟩
  · obtain ⟨d, fd, _, k, h5, h6, h7⟩ := fun_ f fn hf
    exact ⟨fd, _, _, _, _, _, k, h5, h6, h7⟩
  · obtain ⟨fn, h1, h2, h3⟩ := F.gl x f hx
    obtain ⟨d, fd, _, k, _⟩ := fun_ f fn h1
    have ea : adOf T K f = He.ga K x := by unfold adOf; rw [h1]; show He.fAd K fn.at_ = _; rw [h2]; rfl
    exact ⟨⟨fn, h1⟩, by rw [ea]; exact He.glo_ok X G (c.facts h3), k.kp⟩
  · rcases F.con x d hx with ⟨i, rfl, hi⟩ | ⟨z, rfl, hz, hs⟩
    · obtain ⟨t, ht⟩ := He.int_ok X G (c.facts hi)
      exact ⟨_, .int i, ht, ⟨t, rfl⟩, fun H ι κ => by simp only [Rep]⟩
    · obtain ⟨t, ht⟩ := He.str_ok X G (c.facts hz)
      exact ⟨_, .str z, ht, ⟨t, rfl⟩, fun H ι κ => by simp only [Rep]; exact ⟨trivial, hs⟩⟩
  · rw [noCad C] at hc; cases hc
  · rw [noCad C] at hc; cases hc
  · rw [noCad C] at hc; cases hc
  · rw [noCad C] at hc; cases hc
  · obtain ⟨h1, h2, h3⟩ := F.cls C cl hC
    obtain ⟨k1, k2, k3, k4⟩ := He.exc_ok (c.facts h2)
    exact ⟨_, _, _, He.veBase, PySem.F.excBase_ValueError, k1, k2, k3, k4⟩
  · obtain ⟨h1, h2, h3⟩ := F.cls C cl hC
    exact He.glo_ok X G (c.facts h3)
/-- an exception's way out, in whatever world -/
def CXw (P : Program) : CXT := fun outer H s E u s' => ∃ w, L2.CX P w outer H s E u s'
theorem weak_cx {P : Program} {w : World} {K : PySem.W.Frag} {mg : Str → Option Value} {base : Heap} {k : Nat} {f : Addr} {fd : FuncData} {ps : List Str} {sp : Sp} (F : FnOk P w K mg base (L2.CX P w) k f fd ps sp) : FnOk P w K mg base (CXw P) k f fd ps sp :=
  ⟨F.len, fun A outer s H args us vs Q E hr he hb hv hs => codeAny_mono (F.run A outer s H args us vs Q E hr he hb hv hs) fun r s' h => by
    cases r with
    | error e => exact ⟨w, h⟩
    | ok fl => cases fl <;> exact h⟩
theorem no_cx {P : Program} (H : Hp) (s : Shared) (e : Value) (s' : Shared) : CXw P [] H s (fun _ _ _ => False) e s' → False := fun ⟨_, _, _, _, _, _, _, _, _, _, _, _, _, z⟩ => z
/-- what a law's walk asks of the head -/
theorem law_at {T : Tab} {fa : List He.Fa} {ds : List He.DefD} (F : Facts T fa ds) {P : Program} {w : World} {K : PySem.W.Frag} {h : Heap} {mg : Str → Option Value} {fa0 : Addr} {f : Nat} {fn : Fn} {x : Str} {j : Nat} (hf : T.P.fns[f]? = some fn) (hps : fn.ps = [x]) (hat : ∃ n, fn.at_ = (n, none) ∧ mg n = some (.ref fa0) ∧ He.Fa.glo n ∈ fa)
    (X : K.In h) (G : h.Ns mainGlobals mg) (c : He.SaysD fa ds K) (hrun : ∀ ns : List Int, ns.length ≤ 63 → ∃ S, run T.P j f [.rol ns] [] = .ok (.bl true) S) :
    ∃ (K : PySem.W.Frag) (fd : FuncData) (sp : Sp), K.In h ∧ (∀ (s : Shared) (u : Value), BindsTo s fd ⟨[u], []⟩ [(x, u)]) ∧ (∀ (H : Hp) (a : Addr) (ns : List Int), ns.length ≤ 63 → Only H → SqL K H a (ns.map V.int) → sp [.ref a] H (fun v _ => v = .bl true) fun _ _ _ => False) ∧
      ∀ base : Heap, K.In base → base.Ns mainGlobals mg → FnOk P w K mg base (CXw P) (2 * j) fa0 fd [x] sp := by
  have st := F.stat X G c
  obtain ⟨d, h1, h2, h3, h4, h5, h6, h7⟩ := F.df f fn hf
  obtain ⟨fd, k⟩ := c.defs h1
  have e1 : d.dvs K = [] := by unfold He.DefD.dvs; rw [h3]; rfl
  have e2 : d.kws K = [] := by unfold He.DefD.kws; rw [h4]; rfl
  rw [e1, e2, h2] at k
  have ea : adOf T K f = He.fAd K fn.at_ := by unfold adOf; rw [hf]
  rw [← ea] at k
  have hd : DefAt T K (adOf T K f) fn fd := ⟨_, _, _, _, _, k, h5, k.bindsN h7, h6⟩
  have efa : adOf T K f = fa0 := by
    obtain ⟨n, hn, hm, hg⟩ := hat
    have := He.glo_ok X G (c.facts hg)
    rw [hm] at this
    rw [ea, hn]
    cases this
    rfl
  refine ⟨K, fd, spF T K (lev T j) fn.ps.length f, X, fun s u => ?_, fun H a ns hn hO hS => ?_, fun base kb gb => ?_⟩
  · have := k.bindsA h7 s [u] (by rw [hps]; rfl)
    rw [hps] at this
    exact this
  · obtain ⟨S, hS'⟩ := hrun ns hn
    refine ⟨[], [], [], [.rol ns], ⟨rfl, List.nodup_nil, fun a z => (by cases z), fun a z => (by cases z), fun n a o z => (by simp at z)⟩, ?_, by rw [hps]; rfl, ?_⟩
    · simp only [RepL, Rep]
      refine ⟨_, [], rfl, ⟨a, rfl, ?_, by unfold LIM; omega⟩, rfl⟩
      rcases hS with hS | hS
      · exact .inl ⟨hS, by simp, by simp⟩
      · exact .inr hS
    · show Post T K [] _ [] (relV K []) H [] (run T.P j f [.rol ns] []) _
      rw [hS']
      intro v H' ι' _ _ r
      have r : Rep K H' ι' [] (.bl true) v := r
      simpa only [Rep] using r
  · have := (st.levels (P := P) (w := w) (base := base) j f fn fd hf hd).2
    rw [efa] at this
    rw [hps] at this ⊢
    exact weak_cx this
end MP
end

section
set_option Elab.async false
set_option linter.all false
set_option maxRecDepth 100000
namespace K08
open PySem PySem.Spec PyProof.Rows L2 MP
abbrev R0 : PySem.Program := PySem.Challenge.pw_sizestold_k08_reached_told
def top (i : Nat) : Stmt := R0.main.body.getD i (.Pass ⟨0, 0, 0, 0⟩)
def T0 : Tab := ⟨P0, [("is_integer", 0), ("is_whole", 1), ("is_name", 2), ("are_rows", 3), ("_vector", 4), ("_are_integers", 5), ("_check_solutions", 6), ("reached_by", 7), ("_law_draws", 8), ("_law_solutions", 9), ("_law_times", 10), ("_law_told", 11), ("law", 12)], [("LETTERS", .str "abcdefghijklmnopqrstuvwxyz"), ("FIGURES", .str "0123456789"), ("MOST_NAME", .int 8)], []⟩
def places : List Nat := [7, 8, 9, 10, 12, 13, 14, 15, 17, 18, 19, 20, 21]

theorem mf_is_integer : mtSs T0 f_is_integer.N (defScope (top 7)) f_is_integer.body (defBody (top 7)) = true := by decide +kernel
theorem sf_is_integer : FnScope f_is_integer.N f_is_integer.ps (defScope (top 7)) := ⟨rfl, rfl, rfl, by decide +kernel, rfl, by decide +kernel, by decide +kernel⟩
theorem mf_is_whole : mtSs T0 f_is_whole.N (defScope (top 8)) f_is_whole.body (defBody (top 8)) = true := by decide +kernel
theorem sf_is_whole : FnScope f_is_whole.N f_is_whole.ps (defScope (top 8)) := ⟨rfl, rfl, rfl, by decide +kernel, rfl, by decide +kernel, by decide +kernel⟩
theorem mf_is_name : mtSs T0 f_is_name.N (defScope (top 9)) f_is_name.body (defBody (top 9)) = true := by decide +kernel
theorem sf_is_name : FnScope f_is_name.N f_is_name.ps (defScope (top 9)) := ⟨rfl, rfl, rfl, by decide +kernel, rfl, by decide +kernel, by decide +kernel⟩
theorem mf_are_rows : mtSs T0 f_are_rows.N (defScope (top 10)) f_are_rows.body (defBody (top 10)) = true := by decide +kernel
theorem sf_are_rows : FnScope f_are_rows.N f_are_rows.ps (defScope (top 10)) := ⟨rfl, rfl, rfl, by decide +kernel, rfl, by decide +kernel, by decide +kernel⟩
theorem mf__vector : mtSs T0 f__vector.N (defScope (top 12)) f__vector.body (defBody (top 12)) = true := by decide +kernel
theorem sf__vector : FnScope f__vector.N f__vector.ps (defScope (top 12)) := ⟨rfl, rfl, rfl, by decide +kernel, rfl, by decide +kernel, by decide +kernel⟩
theorem mf__are_integers : mtSs T0 f__are_integers.N (defScope (top 13)) f__are_integers.body (defBody (top 13)) = true := by decide +kernel
theorem sf__are_integers : FnScope f__are_integers.N f__are_integers.ps (defScope (top 13)) := ⟨rfl, rfl, rfl, by decide +kernel, rfl, by decide +kernel, by decide +kernel⟩
theorem mf__check_solutions : mtSs T0 f__check_solutions.N (defScope (top 14)) f__check_solutions.body (defBody (top 14)) = true := by decide +kernel
theorem sf__check_solutions : FnScope f__check_solutions.N f__check_solutions.ps (defScope (top 14)) := ⟨rfl, rfl, rfl, by decide +kernel, rfl, by decide +kernel, by decide +kernel⟩
theorem mf_reached_by : mtSs T0 f_reached_by.N (defScope (top 15)) f_reached_by.body (defBody (top 15)) = true := by decide +kernel
theorem sf_reached_by : FnScope f_reached_by.N f_reached_by.ps (defScope (top 15)) := ⟨rfl, rfl, rfl, by decide +kernel, rfl, by decide +kernel, by decide +kernel⟩
theorem mf__law_draws : mtSs T0 f__law_draws.N (defScope (top 17)) f__law_draws.body (defBody (top 17)) = true := by decide +kernel
theorem sf__law_draws : FnScope f__law_draws.N f__law_draws.ps (defScope (top 17)) := ⟨rfl, rfl, rfl, by decide +kernel, rfl, by decide +kernel, by decide +kernel⟩
theorem mf__law_solutions : mtSs T0 f__law_solutions.N (defScope (top 18)) f__law_solutions.body (defBody (top 18)) = true := by decide +kernel
theorem sf__law_solutions : FnScope f__law_solutions.N f__law_solutions.ps (defScope (top 18)) := ⟨rfl, rfl, rfl, by decide +kernel, rfl, by decide +kernel, by decide +kernel⟩
theorem mf__law_times : mtSs T0 f__law_times.N (defScope (top 19)) f__law_times.body (defBody (top 19)) = true := by decide +kernel
theorem sf__law_times : FnScope f__law_times.N f__law_times.ps (defScope (top 19)) := ⟨rfl, rfl, rfl, by decide +kernel, rfl, by decide +kernel, by decide +kernel⟩
theorem mf__law_told : mtSs T0 f__law_told.N (defScope (top 20)) f__law_told.body (defBody (top 20)) = true := by decide +kernel
theorem sf__law_told : FnScope f__law_told.N f__law_told.ps (defScope (top 20)) := ⟨rfl, rfl, rfl, by decide +kernel, rfl, by decide +kernel, by decide +kernel⟩
theorem mf_law : mtSs T0 f_law.N (defScope (top 21)) f_law.body (defBody (top 21)) = true := by decide +kernel
theorem sf_law : FnScope f_law.N f_law.ps (defScope (top 21)) := ⟨rfl, rfl, rfl, by decide +kernel, rfl, by decide +kernel, by decide +kernel⟩
def d_is_integer : He.DefD := ⟨("is_integer", none), "is_integer", "is_integer", defArgs (top 7), defBody (top 7), defScope (top 7), [], []⟩
def d_is_whole : He.DefD := ⟨("is_whole", none), "is_whole", "is_whole", defArgs (top 8), defBody (top 8), defScope (top 8), [], []⟩
def d_is_name : He.DefD := ⟨("is_name", none), "is_name", "is_name", defArgs (top 9), defBody (top 9), defScope (top 9), [], []⟩
def d_are_rows : He.DefD := ⟨("are_rows", none), "are_rows", "are_rows", defArgs (top 10), defBody (top 10), defScope (top 10), [], []⟩
def d__vector : He.DefD := ⟨("_vector", none), "_vector", "_vector", defArgs (top 12), defBody (top 12), defScope (top 12), [], []⟩
def d__are_integers : He.DefD := ⟨("_are_integers", none), "_are_integers", "_are_integers", defArgs (top 13), defBody (top 13), defScope (top 13), [], []⟩
def d__check_solutions : He.DefD := ⟨("_check_solutions", none), "_check_solutions", "_check_solutions", defArgs (top 14), defBody (top 14), defScope (top 14), [], []⟩
def d_reached_by : He.DefD := ⟨("reached_by", none), "reached_by", "reached_by", defArgs (top 15), defBody (top 15), defScope (top 15), [], []⟩
def d__law_draws : He.DefD := ⟨("_law_draws", none), "_law_draws", "_law_draws", defArgs (top 17), defBody (top 17), defScope (top 17), [], []⟩
def d__law_solutions : He.DefD := ⟨("_law_solutions", none), "_law_solutions", "_law_solutions", defArgs (top 18), defBody (top 18), defScope (top 18), [], []⟩
def d__law_times : He.DefD := ⟨("_law_times", none), "_law_times", "_law_times", defArgs (top 19), defBody (top 19), defScope (top 19), [], []⟩
def d__law_told : He.DefD := ⟨("_law_told", none), "_law_told", "_law_told", defArgs (top 20), defBody (top 20), defScope (top 20), [], []⟩
def d_law : He.DefD := ⟨("law", none), "law", "law", defArgs (top 21), defBody (top 21), defScope (top 21), [], []⟩
def ds : List He.DefD := [d_is_integer, d_is_whole, d_is_name, d_are_rows, d__vector, d__are_integers, d__check_solutions, d_reached_by, d__law_draws, d__law_solutions, d__law_times, d__law_told, d_law]
def fa : List He.Fa := [.glo "is_integer", .glo "is_whole", .glo "is_name", .glo "are_rows", .glo "_vector", .glo "_are_integers", .glo "_check_solutions", .glo "reached_by", .glo "_law_draws", .glo "_law_solutions", .glo "_law_times", .glo "_law_told", .glo "law", .glo "SizeError", .glo "BadSolutions", .free "len", .free "int", .free "abs", .free "max", .free "min", .free "sum", .free "all", .free "any", .free "sorted", .free "list", .free "tuple", .free "dict", .free "str", .free "range", .free "enumerate", .free "zip", .free "reversed", .free "isinstance", .free "bool", .str "LETTERS" "abcdefghijklmnopqrstuvwxyz", .str "FIGURES" "0123456789", .int "MOST_NAME" 8, .exc "SizeError", .exc "BadSolutions", .exm "SizeError" "SizeError" true, .exm "SizeError" "BadSolutions" false, .exm "BadSolutions" "SizeError" true, .exm "BadSolutions" "BadSolutions" true]
theorem df_ : ∀ (f : Nat) (fn : Fn), T0.P.fns[f]? = some fn → ∃ d ∈ ds, d.at_ = fn.at_ ∧ d.dfl = [] ∧ d.kwd = [] ∧ FnScope fn.N fn.ps d.scope ∧ mtSs T0 fn.N d.scope fn.body d.body = true ∧
    ∀ (kV doc pm : Value) (an : Option Addr) (cdv ct : Value) (us : List Value), us.length = fn.ps.length → bindArgs (PySem.W.fnOf d.name d.qual d.params d.body d.scope .none kV doc pm an cdv ct) ⟨us, []⟩ = pure (fn.ps.zip us)
  | 0, _, h => by cases h; exact ⟨d_is_integer, List.mem_of_getElem? (i := 0) rfl, rfl, rfl, rfl, sf_is_integer, mf_is_integer, fun _ _ _ _ _ _ us hl => match us, hl with | [_], _ => rfl⟩
  | 1, _, h => by cases h; exact ⟨d_is_whole, List.mem_of_getElem? (i := 1) rfl, rfl, rfl, rfl, sf_is_whole, mf_is_whole, fun _ _ _ _ _ _ us hl => match us, hl with | [_, _, _], _ => rfl⟩
  | 2, _, h => by cases h; exact ⟨d_is_name, List.mem_of_getElem? (i := 2) rfl, rfl, rfl, rfl, sf_is_name, mf_is_name, fun _ _ _ _ _ _ us hl => match us, hl with | [_], _ => rfl⟩
  | 3, _, h => by cases h; exact ⟨d_are_rows, List.mem_of_getElem? (i := 3) rfl, rfl, rfl, rfl, sf_are_rows, mf_are_rows, fun _ _ _ _ _ _ us hl => match us, hl with | [_], _ => rfl⟩
  | 4, _, h => by cases h; exact ⟨d__vector, List.mem_of_getElem? (i := 4) rfl, rfl, rfl, rfl, sf__vector, mf__vector, fun _ _ _ _ _ _ us hl => match us, hl with | [_, _, _], _ => rfl⟩
  | 5, _, h => by cases h; exact ⟨d__are_integers, List.mem_of_getElem? (i := 5) rfl, rfl, rfl, rfl, sf__are_integers, mf__are_integers, fun _ _ _ _ _ _ us hl => match us, hl with | [_], _ => rfl⟩
  | 6, _, h => by cases h; exact ⟨d__check_solutions, List.mem_of_getElem? (i := 6) rfl, rfl, rfl, rfl, sf__check_solutions, mf__check_solutions, fun _ _ _ _ _ _ us hl => match us, hl with | [_, _], _ => rfl⟩
  | 7, _, h => by cases h; exact ⟨d_reached_by, List.mem_of_getElem? (i := 7) rfl, rfl, rfl, rfl, sf_reached_by, mf_reached_by, fun _ _ _ _ _ _ us hl => match us, hl with | [_, _, _], _ => rfl⟩
  | 8, _, h => by cases h; exact ⟨d__law_draws, List.mem_of_getElem? (i := 8) rfl, rfl, rfl, rfl, sf__law_draws, mf__law_draws, fun _ _ _ _ _ _ us hl => match us, hl with | [_, _], _ => rfl⟩
  | 9, _, h => by cases h; exact ⟨d__law_solutions, List.mem_of_getElem? (i := 9) rfl, rfl, rfl, rfl, sf__law_solutions, mf__law_solutions, fun _ _ _ _ _ _ us hl => match us, hl with | [_, _], _ => rfl⟩
  | 10, _, h => by cases h; exact ⟨d__law_times, List.mem_of_getElem? (i := 10) rfl, rfl, rfl, rfl, sf__law_times, mf__law_times, fun _ _ _ _ _ _ us hl => match us, hl with | [_, _, _], _ => rfl⟩
  | 11, _, h => by cases h; exact ⟨d__law_told, List.mem_of_getElem? (i := 11) rfl, rfl, rfl, rfl, sf__law_told, mf__law_told, fun _ _ _ _ _ _ us hl => match us, hl with | [_, _, _], _ => rfl⟩
  | 12, _, h => by cases h; exact ⟨d_law, List.mem_of_getElem? (i := 12) rfl, rfl, rfl, rfl, sf_law, mf_law, fun _ _ _ _ _ _ us hl => match us, hl with | [_], _ => rfl⟩
  | n + 13, _, h => by cases h
theorem gl_ : ∀ (x : Str) (f : Nat), (x, f) ∈ T0.gl → ∃ fn, T0.P.fns[f]? = some fn ∧ fn.at_ = (x, none) ∧ He.Fa.glo x ∈ fa := fun x f h => by
  rcases List.mem_cons.mp h with h | h
  · cases h; exact ⟨_, rfl, rfl, List.mem_of_getElem? (i := 0) rfl⟩
  rcases List.mem_cons.mp h with h | h
  · cases h; exact ⟨_, rfl, rfl, List.mem_of_getElem? (i := 1) rfl⟩
  rcases List.mem_cons.mp h with h | h
  · cases h; exact ⟨_, rfl, rfl, List.mem_of_getElem? (i := 2) rfl⟩
  rcases List.mem_cons.mp h with h | h
  · cases h; exact ⟨_, rfl, rfl, List.mem_of_getElem? (i := 3) rfl⟩
  rcases List.mem_cons.mp h with h | h
  · cases h; exact ⟨_, rfl, rfl, List.mem_of_getElem? (i := 4) rfl⟩
  rcases List.mem_cons.mp h with h | h
  · cases h; exact ⟨_, rfl, rfl, List.mem_of_getElem? (i := 5) rfl⟩
  rcases List.mem_cons.mp h with h | h
  · cases h; exact ⟨_, rfl, rfl, List.mem_of_getElem? (i := 6) rfl⟩
  rcases List.mem_cons.mp h with h | h
  · cases h; exact ⟨_, rfl, rfl, List.mem_of_getElem? (i := 7) rfl⟩
  rcases List.mem_cons.mp h with h | h
  · cases h; exact ⟨_, rfl, rfl, List.mem_of_getElem? (i := 8) rfl⟩
  rcases List.mem_cons.mp h with h | h
  · cases h; exact ⟨_, rfl, rfl, List.mem_of_getElem? (i := 9) rfl⟩
  rcases List.mem_cons.mp h with h | h
  · cases h; exact ⟨_, rfl, rfl, List.mem_of_getElem? (i := 10) rfl⟩
  rcases List.mem_cons.mp h with h | h
  · cases h; exact ⟨_, rfl, rfl, List.mem_of_getElem? (i := 11) rfl⟩
  rcases List.mem_cons.mp h with h | h
  · cases h; exact ⟨_, rfl, rfl, List.mem_of_getElem? (i := 12) rfl⟩
  cases h
theorem free_ : ∀ x ∈ bltNames, He.Fa.free x ∈ fa := fun x h => by
  rcases List.mem_cons.mp h with h | h
  · cases h; exact List.mem_of_getElem? (i := 15) rfl
  rcases List.mem_cons.mp h with h | h
  · cases h; exact List.mem_of_getElem? (i := 16) rfl
  rcases List.mem_cons.mp h with h | h
  · cases h; exact List.mem_of_getElem? (i := 17) rfl
  rcases List.mem_cons.mp h with h | h
  · cases h; exact List.mem_of_getElem? (i := 18) rfl
  rcases List.mem_cons.mp h with h | h
  · cases h; exact List.mem_of_getElem? (i := 19) rfl
  rcases List.mem_cons.mp h with h | h
  · cases h; exact List.mem_of_getElem? (i := 20) rfl
  rcases List.mem_cons.mp h with h | h
  · cases h; exact List.mem_of_getElem? (i := 21) rfl
  rcases List.mem_cons.mp h with h | h
  · cases h; exact List.mem_of_getElem? (i := 22) rfl
  rcases List.mem_cons.mp h with h | h
  · cases h; exact List.mem_of_getElem? (i := 23) rfl
  rcases List.mem_cons.mp h with h | h
  · cases h; exact List.mem_of_getElem? (i := 24) rfl
  rcases List.mem_cons.mp h with h | h
  · cases h; exact List.mem_of_getElem? (i := 25) rfl
  rcases List.mem_cons.mp h with h | h
  · cases h; exact List.mem_of_getElem? (i := 26) rfl
  rcases List.mem_cons.mp h with h | h
  · cases h; exact List.mem_of_getElem? (i := 27) rfl
  rcases List.mem_cons.mp h with h | h
  · cases h; exact List.mem_of_getElem? (i := 28) rfl
  rcases List.mem_cons.mp h with h | h
  · cases h; exact List.mem_of_getElem? (i := 29) rfl
  rcases List.mem_cons.mp h with h | h
  · cases h; exact List.mem_of_getElem? (i := 30) rfl
  rcases List.mem_cons.mp h with h | h
  · cases h; exact List.mem_of_getElem? (i := 31) rfl
  rcases List.mem_cons.mp h with h | h
  · cases h; exact List.mem_of_getElem? (i := 32) rfl
  rcases List.mem_cons.mp h with h | h
  · cases h; exact List.mem_of_getElem? (i := 33) rfl
  cases h
theorem con_ : ∀ (x : Str) (d : D), (x, d) ∈ T0.consts → (∃ i, d = .int i ∧ He.Fa.int x i ∈ fa) ∨ ∃ z, d = .str z ∧ He.Fa.str x z ∈ fa ∧ PyData.strOk z = true := fun x d h => by
  rcases List.mem_cons.mp h with h | h
  · cases h; exact .inr ⟨_, rfl, List.mem_of_getElem? (i := 34) rfl, by decide +kernel⟩
  rcases List.mem_cons.mp h with h | h
  · cases h; exact .inr ⟨_, rfl, List.mem_of_getElem? (i := 35) rfl, by decide +kernel⟩
  rcases List.mem_cons.mp h with h | h
  · cases h; exact .inl ⟨_, rfl, List.mem_of_getElem? (i := 36) rfl⟩
  cases h
theorem cls_ : ∀ (C : Nat) (cl : Cl), T0.P.cls[C]? = some cl → cl.exc = some none ∧ He.Fa.exc cl.name ∈ fa ∧ He.Fa.glo cl.name ∈ fa
  | 0, _, h => by cases h; exact ⟨rfl, List.mem_of_getElem? (i := 37) rfl, List.mem_of_getElem? (i := 13) rfl⟩
  | 1, _, h => by cases h; exact ⟨rfl, List.mem_of_getElem? (i := 38) rfl, List.mem_of_getElem? (i := 14) rfl⟩
  | n + 2, _, h => by cases h
theorem exm_ : ∀ (C C' : Nat) (c c' : Cl), T0.P.cls[C]? = some c → T0.P.cls[C']? = some c' → He.Fa.exm c.name c'.name (T0.P.sub C C') ∈ fa
  | 0, 0, _, _, h, h2 => by cases h; cases h2; exact List.mem_of_getElem? (i := 39) rfl
  | 0, 1, _, _, h, h2 => by cases h; cases h2; exact List.mem_of_getElem? (i := 40) rfl
  | 0, m + 2, _, _, _, h => by cases h
  | 1, 0, _, _, h, h2 => by cases h; cases h2; exact List.mem_of_getElem? (i := 41) rfl
  | 1, 1, _, _, h, h2 => by cases h; cases h2; exact List.mem_of_getElem? (i := 42) rfl
  | 1, m + 2, _, _, _, h => by cases h
  | m + 2, _, _, _, h, _ => by cases h
theorem facts_ : Facts T0 fa ds := ⟨df_, gl_, free_, con_, cls_, exm_⟩
abbrev Rr : PySem.W.OpenRow := PySem.W.OpenLaw.row PySem.Challenge.rw_sizestold_k08_reached_told
abbrev hk : PySem.W.Hook := He.hookD 4 fa ds
def ob (s : PySem.W.SharedT) : He.AlD := He.obsDG 4 fa ds (HandSHeadRun.getT s)
theorem ob_eq (s : PySem.W.SharedT) : ob s = hk.obs s.abs := He.obsDG_eq (HandSHeadRun.getT_eq s)
def loose : List Str := ["SizeError", "BadSolutions", "LETTERS", "FIGURES", "MOST_NAME", "is_integer", "is_whole", "is_name", "are_rows", "_vector", "_are_integers", "_check_solutions", "reached_by", "_law_draws", "_law_solutions", "_law_times", "_law_told"]
theorem runs (w : World) : HandSHeadRun.RunEq Rr (PySem.W.view Rr.prog [21]) hk ob 4000 loose w := by
  intro os
  kernel_rfl
end K08
open PySem PySem.W PySem.Calls PyProof.Rows
theorem law_done : PySem.Challenge.rw_sizestold_k08_reached_told.Holds := by
  w_on; o_law
  refine HandSHeadRun.head_any (r := OpenLaw.row PySem.Challenge.rw_sizestold_k08_reached_told) (q := view (OpenLaw.row PySem.Challenge.rw_sizestold_k08_reached_told).prog [21]) (H := K08.hk) (ob := K08.ob) (M := 4000) (loose := K08.loose) (d := HandSHeadRun.topDef (OpenLaw.row PySem.Challenge.rw_sizestold_k08_reached_told).prog 21) (kwd := []) K08.ob_eq
    (by kernel_rfl) (fun s => by kernel_rfl) K08.runs (by kernel_rfl) (by kernel_rfl) (by kernel_rfl) (by rfl) (by first | assumption | decide +kernel) (by decide +kernel) ⟨rfl, rfl, rfl, rfl, rfl, by decide +kernel⟩ ?hw ?hc
  case hw => w_witness2
  case hc =>
    refine L2.walk_ofE (l := PySem.Challenge.rw_sizestold_k08_reached_told) (n := 63) (k := 24) (x := "script") (CX := MP.CXw (PySem.Challenge.rw_sizestold_k08_reached_told).prog) rfl (by decide) (by kernel_rfl) ⟨rfl, by decide, by decide⟩ ?F MP.no_cx
    intro w mg fa0 h Y G hmg0
    obtain ⟨K, KX, c⟩ := Y
    have hmg : mg ("law" : PySem.Str) = some (.ref fa0) := by
      have e : (HandSHeadRun.topDef (OpenLaw.row PySem.Challenge.rw_sizestold_k08_reached_told).prog 21).name = ("law" : PySem.Str) := by kernel_rfl
      rw [← e]
      exact hmg0
    exact MP.law_at K08.facts_ (j := 12) (f := 12) (fn := K08.f_law) rfl rfl ⟨"law", rfl, hmg, List.mem_of_getElem? (i := 12) rfl⟩ KX G c K08.always
end
theorem PySem.Challenge.cw_sizestold_k08_reached_told_holds : PySem.Challenge.rw_sizestold_k08_reached_told.Holds :=
  law_done
