import PyProof.Rows.All
import Wide.All
import OpenK.AllK
import Wide.FinOn
import HandS.ForMost
import HandS.ForExc
import HandS.Walk
import HandS.Zip
import HandS.TupAny
import HandS.TryMany
import HandS.DictComp
import HandS.HeadHook2
import HandS.IsInst
import HandS.Deep
import HandS.TupMul
import PyProof.StrOps2
import HandS.TupLe
import HandS.Text
import HandS.More
import HandS.RaiseMore
import HandS.SortInts
import KE.KDictPairs
import HandS.Style
import HandS.Rev
import KE.GoesMore
import KE.GoesEnum
import KE.GoesZip
import PyProof.EnumMake
import HandS.OwnIter
import KE.KDictZip
import HandS.Small
import HandS.ExcInit
import HandS.ExcSuper
import HandS.ExcField
import HandS.Nested
import KE.KSuper
import KE.KExcSuper
import HandS.Defaults
import HandS.HeadHook4
import HandS.Head2
import HandS.HeadEnd
import HandS.Words
import HandS.Ends
import HandS.WordsExc
import HandS.Head0
import HandS.Head1
import HandS.HeadHook1
import KE.KStateDown
import PySem.Challenge.RW_sizestold_k05_whole_equations

section
set_option Elab.async false
set_option linter.all false
set_option maxRecDepth 100000
/-! MpA: data, store, expressions, statements of the mini language, and the evaluator (no model in sight). -/
namespace MP
open PySem
abbrev Ky := Sum Int Str
inductive D where
  | non | bl (b : Bool) | int (i : Int) | str (x : Str) | tup (xs : List D) | lst (xs : List D) | rol (ns : List Int)
  | dic (kvs : List (Ky × D)) | dit (kvs : List (List Ky × D)) | ref (n : Nat)
mutual
def D.beq : D → D → Bool
  | .non, .non => true
  | .bl a, .bl b => a == b
  | .int a, .int b => a == b
  | .str a, .str b => decide (a = b)
  | .tup a, .tup b => D.beqL a b
  | .lst a, .lst b => D.beqL a b
  | .rol a, .rol b => decide (a = b)
  | .dic a, .dic b => D.beqK a b
  | .dit a, .dit b => D.beqT a b
  | .ref a, .ref b => a == b
  | _, _ => false
termination_by structural a => a
def D.beqL : List D → List D → Bool
  | [], [] => true
  | x :: xs, y :: ys => D.beq x y && D.beqL xs ys
  | _, _ => false
termination_by structural a => a
def D.beqK : List (Ky × D) → List (Ky × D) → Bool
  | [], [] => true
  | (k, x) :: xs, (j, y) :: ys => decide (k = j) && (D.beq x y && D.beqK xs ys)
  | _, _ => false
termination_by structural a => a
def D.beqT : List (List Ky × D) → List (List Ky × D) → Bool
  | [], [] => true
  | (k, x) :: xs, (j, y) :: ys => decide (k = j) && (D.beq x y && D.beqT xs ys)
  | _, _ => false
termination_by structural a => a
end
mutual
theorem D.beq_eq : ∀ {a b : D}, D.beq a b = true → a = b
  | .non, b, h => by cases b <;> simp_all [D.beq]
  | .bl _, b, h => by cases b <;> simp_all [D.beq]
  | .int _, b, h => by cases b <;> simp_all [D.beq]
  | .str _, b, h => by cases b <;> simp_all [D.beq]
  | .rol _, b, h => by cases b <;> simp_all [D.beq]
  | .ref _, b, h => by cases b <;> simp_all [D.beq]
  | .tup xs, b, h => by
    cases b with
    | tup ys => rw [D.beqL_eq (a := xs) (b := ys) (by simpa [D.beq] using h)]
    | _ => simp [D.beq] at h
  | .lst xs, b, h => by
    cases b with
    | lst ys => rw [D.beqL_eq (a := xs) (b := ys) (by simpa [D.beq] using h)]
    | _ => simp [D.beq] at h
  | .dic xs, b, h => by
    cases b with
    | dic ys => rw [D.beqK_eq (a := xs) (b := ys) (by simpa [D.beq] using h)]
    | _ => simp [D.beq] at h
  | .dit xs, b, h => by
    cases b with
    | dit ys => rw [D.beqT_eq (a := xs) (b := ys) (by simpa [D.beq] using h)]
    | _ => simp [D.beq] at h
theorem D.beqL_eq : ∀ {a b : List D}, D.beqL a b = true → a = b
  | [], b, h => by cases b <;> simp_all [D.beqL]
  | x :: xs, b, h => by
    cases b with
    | nil => simp [D.beqL] at h
    | cons y ys =>
      simp only [D.beqL, Bool.and_eq_true] at h
      rw [D.beq_eq h.1, D.beqL_eq h.2]
theorem D.beqK_eq : ∀ {a b : List (Ky × D)}, D.beqK a b = true → a = b
  | [], b, h => by cases b <;> simp_all [D.beqK]
  | (k, x) :: xs, b, h => by
    cases b with
    | nil => simp [D.beqK] at h
    | cons y ys =>
      obtain ⟨j, y⟩ := y
      simp only [D.beqK, Bool.and_eq_true, decide_eq_true_eq] at h
      rw [h.1, D.beq_eq h.2.1, D.beqK_eq h.2.2]
theorem D.beqT_eq : ∀ {a b : List (List Ky × D)}, D.beqT a b = true → a = b
  | [], b, h => by cases b <;> simp_all [D.beqT]
  | (k, x) :: xs, b, h => by
    cases b with
    | nil => simp [D.beqT] at h
    | cons y ys =>
      obtain ⟨j, y⟩ := y
      simp only [D.beqT, Bool.and_eq_true, decide_eq_true_eq] at h
      rw [h.1, D.beq_eq h.2.1, D.beqT_eq h.2.2]
end
mutual
theorem D.beq_refl : ∀ a : D, D.beq a a = true
  | .non | .bl _ | .int _ | .str _ | .rol _ | .ref _ => by simp [D.beq]
  | .tup xs | .lst xs => by simp [D.beq, D.beqL_refl xs]
  | .dic xs => by simp [D.beq, D.beqK_refl xs]
  | .dit xs => by simp [D.beq, D.beqT_refl xs]
theorem D.beqL_refl : ∀ a : List D, D.beqL a a = true
  | [] => rfl
  | x :: xs => by simp [D.beqL, D.beq_refl x, D.beqL_refl xs]
theorem D.beqK_refl : ∀ a : List (Ky × D), D.beqK a a = true
  | [] => rfl
  | (k, x) :: xs => by simp [D.beqK, D.beq_refl x, D.beqK_refl xs]
theorem D.beqT_refl : ∀ a : List (List Ky × D), D.beqT a a = true
  | [] => rfl
  | (k, x) :: xs => by simp [D.beqT, D.beq_refl x, D.beqT_refl xs]
end
instance : DecidableEq D := fun a b => if h : D.beq a b = true then isTrue (D.beq_eq h) else isFalse fun e => h (e ▸ D.beq_refl a)
/-! all store numbers within are below n -/
mutual
def below (n : Nat) : D → Bool
  | .tup xs => belowL n xs
  | .lst xs => belowL n xs
  | .dic kvs => belowK n kvs
  | .dit kvs => belowT n kvs
  | .ref m => decide (m < n)
  | _ => true
def belowL (n : Nat) : List D → Bool
  | [] => true
  | x :: xs => below n x && belowL n xs
def belowK (n : Nat) : List (Ky × D) → Bool
  | [] => true
  | (_, d) :: r => below n d && belowK n r
def belowT (n : Nat) : List (List Ky × D) → Bool
  | [] => true
  | (_, d) :: r => below n d && belowT n r
end
/-! == as Python has it: True is 1 -/
mutual
def eqv : D → D → Bool
  | .non, .non => true
  | .bl a, .bl b => a == b
  | .bl a, .int j => (if a then 1 else 0) == j
  | .int i, .bl b => i == (if b then 1 else 0)
  | .int i, .int j => i == j
  | .str x, .str y => x == y
  | .lst xs, .lst ys => eqvL xs ys
  | .tup xs, .tup ys => eqvL xs ys
  | _, _ => false
termination_by structural a => a
def eqvL : List D → List D → Bool
  | [], [] => true
  | x :: xs, y :: ys => eqv x y && eqvL xs ys
  | _, _ => false
termination_by structural a => a
end
/-! plain data, at most n deep: what == is told of -/
mutual
def shp : D → Nat → Bool
  | .non, _ | .bl _, _ | .int _, _ | .str _, _ => true
  | .lst xs, n + 1 | .tup xs, n + 1 => shpL xs n
  | _, _ => false
termination_by structural a => a
def shpL : List D → Nat → Bool
  | [], _ => true
  | x :: xs, n => shp x n && shpL xs n
termination_by structural a => a
end
/-! ### the store -/
inductive O where
  | lst (xs : List D) | dic (kvs : List (Ky × D)) | dit (kvs : List (List Ky × D)) | ins (C : Nat) (fs : List (Str × D))
  deriving DecidableEq
abbrev Sto := List O
abbrev Env := List (Option D)
inductive R (α : Type) where
  | ok (a : α) (S : Sto)
  | exc (C : Nat) (fs : List (Str × D)) (S : Sto)
  | no
def R.bind {α β : Type} (r : R α) (k : α → Sto → R β) : R β := match r with
  | .ok a S => k a S
  | .exc C fs S => .exc C fs S
  | .no => .no
def R.of {α : Type} (o : Option α) (S : Sto) : R α := match o with
  | some a => .ok a S
  | none => .no
def LIM : Nat := 1000000
def D.ky : D → Option Ky
  | .int i => some (.inl i)
  | .str x => some (.inr x)
  | _ => none
def Ky.d : Ky → D
  | .inl i => .int i
  | .inr x => .str x
def kys : List D → Option (List Ky)
  | [] => some []
  | x :: xs => match x.ky, kys xs with
    | some k, some ks => some (k :: ks)
    | _, _ => none
/-- keys that are tuples: not yet -/
def D.tky : D → Option (List Ky) := fun _ => none
section
variable {κ α : Type} [DecidableEq κ]
def vget (kvs : List (κ × α)) (k : κ) : Option α := (kvs.find? fun kv => decide (kv.1 = k)).map (·.2)
def vput (kvs : List (κ × α)) (k : κ) (v : α) : List (κ × α) := if (kvs.any fun kv => decide (kv.1 = k)) = true then kvs.map fun kv => if kv.1 = k then (kv.1, v) else kv else kvs ++ [(k, v)]
def vdrop (kvs : List (κ × α)) (k : κ) : List (κ × α) := kvs.filter fun kv => decide (kv.1 ≠ k)
end
def Sto.get (S : Sto) (n : Nat) : Option O := S[n]?
/-! ### places in a row -/
def cut {α : Type} (xs : List α) (lo hi : Option Int) : List α := (xs.drop (HT.sIx xs.length 0 lo)).take (HT.sIx xs.length xs.length hi - HT.sIx xs.length 0 lo)
def sgn (c : Nat) : D := .str ⟨#[c]⟩
/-! ### order -/
def ltL : List Nat → List Nat → Bool
  | [], [] => false
  | [], _ :: _ => true
  | _ :: _, [] => false
  | x :: xs, y :: ys => if x = y then ltL xs ys else decide (x < y)
def ltS (x y : Str) : Bool := decide (x.cps.toList < y.cps.toList)
def insS (x : Str) : List Str → List Str
  | [] => [x]
  | y :: r => if ltS y x then y :: insS x r else x :: y :: r
def sortS : List Str → List Str
  | [] => []
  | x :: r => insS x (sortS r)
def insI (x : Int) : List Int → List Int
  | [] => [x]
  | y :: r => if y < x then y :: insI x r else x :: y :: r
def sortI : List Int → List Int
  | [] => []
  | x :: r => insI x (sortI r)
def strsOf : List D → Option (List Str)
  | [] => some []
  | .str x :: r => (strsOf r).map (x :: ·)
  | _ :: _ => none
def intsOf : List D → Option (List Int)
  | [] => some []
  | .int x :: r => (intsOf r).map (x :: ·)
  | _ :: _ => none
def blsOf : List D → Option (List Bool)
  | [] => some []
  | .bl x :: r => (blsOf r).map (x :: ·)
  | _ :: _ => none
def kstrs : List Ky → Option (List Str)
  | [] => some []
  | .inr x :: r => (kstrs r).map (x :: ·)
  | _ :: _ => none
def kints : List Ky → Option (List Int)
  | [] => some []
  | .inl x :: r => (kints r).map (x :: ·)
  | _ :: _ => none
def pairsOf : List D → Option (List (Ky × D))
  | [] => some []
  | .tup [k, v] :: r => match k.ky, pairsOf r with
    | some k, some q => some ((k, v) :: q)
    | _, _ => none
  | _ :: _ => none
/-- key and value in turn -/
def prs : List D → Option (List (Ky × D))
  | [] => some []
  | k :: v :: r => match k.ky, prs r with
    | some k, some q => some ((k, v) :: q)
    | _, _ => none
  | [_] => none
def merge (kvs more : List (Ky × D)) : List (Ky × D) := more.foldl (fun acc kv => vput acc kv.1 kv.2) kvs
/-! ### operators -/
def BIG : Int := 18446744073709551616
def opD (o : Operator) (a b : D) : Option D := match o, a, b with
  | .Add, .int i, .int j => some (.int (i + j))
  | .Add, .str x, .str y => if x.length + y.length ≤ LIM then some (.str (x ++ y)) else none
  | .Add, .tup x, .tup y => if x.length + y.length ≤ LIM then some (.tup (x ++ y)) else none
  | .Add, .lst x, .lst y => if x.length + y.length ≤ LIM then some (.lst (x ++ y)) else none
  | .Sub, .int i, .int j => some (.int (i - j))
  | .Mult, .int i, .int j => if (-BIG < i ∧ i < BIG) ∨ (-BIG < j ∧ j < BIG) then some (.int (i * j)) else none
  | .Mult, .lst x, .int j => if 0 ≤ j ∧ j ≤ 1000 ∧ x.length ≤ 1000 then some (.lst (List.replicate j.toNat x).flatten) else none
  | .Mult, .tup x, .int j => if 2 ≤ j ∧ j ≤ 1000 ∧ 1 ≤ x.length ∧ x.length ≤ 1000 then some (.tup (List.replicate j.toNat x).flatten) else none
  | .Mult, .str x, .int j => if 2 ≤ j ∧ j ≤ 100 ∧ 1 ≤ x.length ∧ x.length ≤ 100 then some (.str ⟨(List.replicate j.toNat x.cps).foldl (· ++ ·) #[]⟩) else none
  | .FloorDiv, .int i, .int j => if j ≠ 0 ∧ j.natAbs < 1073741824 then some (.int (i.fdiv j)) else none
  | .Mod, .int i, .int j => if j ≠ 0 then some (.int (i.fmod j)) else none
  | .Pow, .int i, .int j => if 0 ≤ j ∧ j ≤ 1000000 ∧ i.natAbs < 18446744073709551616 then some (.int (i ^ j.toNat)) else none
  | _, _, _ => none
def flat : D → Bool
  | .non | .bl _ | .int _ | .str _ => true
  | _ => false
def inL (x : D) : List D → Bool
  | [] => false
  | y :: r => eqv y x || inL x r
def inD (x y : D) (S : Sto) : Option Bool := match y with
  | .str z => (match x with
    | .str w => (match w.cps.toList with
      | [c] => some (decide (c ∈ z.cps.toList))
      | _ => none)
    | _ => none)
  | .tup xs => if flat x && xs.all flat then some (inL x xs) else none
  | .lst xs => if flat x && xs.all flat then some (inL x xs) else if shp x 60 && shpL xs 60 then some (inL x xs) else none
  | .dic kvs => x.ky.map fun k => (vget kvs k).isSome
  | .dit kvs => x.tky.map fun k => (vget kvs k).isSome
  | .ref n => (match S.get n with
    | some (.dic kvs) => x.ky.map fun k => (vget kvs k).isSome
    | some (.dit kvs) => x.tky.map fun k => (vget kvs k).isSome
    | some (.lst xs) => if flat x && xs.all flat then some (inL x xs) else none
    | _ => none)
  | _ => none
def ordD (f : Int → Int → Bool) (g : Str → Str → Bool) (a b : D) : Option Bool := match a, b with
  | .int i, .int j => some (f i j)
  | .str x, .str y => some (g x y)
  | _, _ => none
/-- is: None, booleans -/
def sameD (a b : D) : Option Bool := match b with
  | .non => some (decide (a = .non))
  | .bl y => (match a with
    | .bl x => some (decide (x = y))
    | _ => none)
  | _ => none
def cmpD (o : CmpOp) (a b : D) (S : Sto) : Option Bool := match o with
  | .Eq => if shp a 60 && shp b 60 then some (eqv a b) else none
  | .NotEq => if shp a 60 && shp b 60 then some (!eqv a b) else none
  | .Lt => ordD (fun i j => decide (i < j)) (fun x y => ltS x y) a b
  | .LtE => ordD (fun i j => decide (i ≤ j)) (fun x y => !ltS y x) a b
  | .Gt => ordD (fun i j => decide (j < i)) (fun x y => ltS y x) a b
  | .GtE => ordD (fun i j => decide (j ≤ i)) (fun x y => !ltS x y) a b
  | .Is => sameD a b
  | .IsNot => (sameD a b).map (!·)
  | .In => inD a b S
  | .NotIn => (inD a b S).map (!·)
def ixD (a i : D) (S : Sto) : Option D := match a with
  | .tup xs => (match i with
    | .int k => L2.atI xs k
    | _ => none)
  | .lst xs => (match i with
    | .int k => L2.atI xs k
    | _ => none)
  | .rol ns => (match i with
    | .int k => (L2.atI ns k).map .int
    | _ => none)
  | .str z => (match i with
    | .int k => if z.length ≤ LIM then (L2.atI z.cps.toList k).map sgn else none
    | _ => none)
  | .dic kvs => (match i.ky with
    | some k => vget kvs k
    | none => none)
  | .dit kvs => (match i.tky with
    | some k => vget kvs k
    | none => none)
  | .ref n => (match S.get n with
    | some (.lst xs) => (match i with
      | .int k => L2.atI xs k
      | _ => none)
    | some (.dic kvs) => (match i.ky with
      | some k => vget kvs k
      | none => none)
    | some (.dit kvs) => (match i.tky with
      | some k => vget kvs k
      | none => none)
    | _ => none)
  | _ => none
def optI : Option D → Option (Option Int)
  | none => some none
  | some (.int i) => some (some i)
  | _ => none
def slD (a : D) (lo hi : Option Int) (S : Sto) : Option D := match a with
  | .tup xs => some (.tup (cut xs lo hi))
  | .lst xs => some (.lst (cut xs lo hi))
  | .rol ns => some (.lst ((cut ns lo hi).map .int))
  | .str z => if z.length ≤ LIM then some (.str ⟨(cut z.cps.toList lo hi).toArray⟩) else none
  | .ref n => (match S.get n with
    | some (.lst xs) => some (.lst (cut xs lo hi))
    | _ => none)
  | _ => none
/-- what a row holds, as it stands -/
def rowOf (d : D) (S : Sto) : Option (List D) := match d with
  | .tup xs => some xs
  | .lst xs => some xs
  | .rol ns => some (ns.map .int)
  | .ref n => (match S.get n with
    | some (.lst xs) => some xs
    | _ => none)
  | _ => none
/-- built-in functions -/
inductive Bi where
  | len | int | abs | max | min | sum | all | any | sorted | list | tuple | dict | str
  deriving DecidableEq
def maxL : Int → List Int → Int
  | m, [] => m
  | m, x :: r => maxL (if x > m then x else m) r
def minL : Int → List Int → Int
  | m, [] => m
  | m, x :: r => minL (if x < m then x else m) r
def lenD (d : D) (S : Sto) : Option D := match d with
  | .str x => if x.length ≤ LIM then some (.int x.length) else none
  | .tup xs => some (.int xs.length)
  | .lst xs => some (.int xs.length)
  | .rol xs => some (.int xs.length)
  | .dic kvs => some (.int kvs.length)
  | .ref n => (match S.get n with
    | some (.lst xs) => some (.int xs.length)
    | some (.dic kvs) => some (.int kvs.length)
    | _ => none)
  | _ => none
def sortLD (xs : List D) : Option D := if xs.length < 64 then (match strsOf xs with
  | some ss => some (.lst ((sortS ss).map .str))
  | none => (match intsOf xs with
    | some ns => some (.lst ((sortI ns).map .int))
    | none => none)) else none
def sortKD (ks : List Ky) : Option D := if ks.length < 64 then (match kstrs ks with
  | some ss => some (.lst ((sortS ss).map .str))
  | none => (match kints ks with
    | some ns => some (.lst ((sortI ns).map .int))
    | none => none)) else none
def sortD (d : D) (S : Sto) : Option D := match d with
  | .lst xs => sortLD xs
  | .dic kvs => sortKD (kvs.map (·.1))
  | .ref n => (match S.get n with
    | some (.lst xs) => sortLD xs
    | some (.dic kvs) => sortKD (kvs.map (·.1))
    | _ => none)
  | _ => none
def listD (d : D) (S : Sto) : Option D := match d with
  | .dic kvs => some (.lst (kvs.map fun kv => kv.1.d))
  | .tup xs => some (.lst xs)
  | .lst xs => some (.lst xs)
  | .ref n => (match S.get n with
    | some (.lst xs) => some (.lst xs)
    | some (.dic kvs) => some (.lst (kvs.map fun kv => kv.1.d))
    | _ => none)
  | _ => none
def tupleD (d : D) (S : Sto) : Option D := match d with
  | .tup xs => some (.tup xs)
  | .lst xs => some (.tup xs)
  | .ref n => (match S.get n with
    | some (.lst xs) => some (.tup xs)
    | _ => none)
  | _ => none
def dictD (d : D) (S : Sto) : Option D := match d with
  | .dic kvs => some (.dic kvs)
  | .lst xs => (pairsOf xs).map fun kvs => .dic (merge [] kvs)
  | .tup xs => (pairsOf xs).map fun kvs => .dic (merge [] kvs)
  | .ref n => (match S.get n with
    | some (.dic kvs) => some (.dic kvs)
    | _ => none)
  | _ => none
def strD (d : D) : Option D := match d with
  | .int i => if i.natAbs < 1000000000000000000 then some (.str (Str.ofString (toString i))) else none
  | .str x => some (.str x)
  | _ => none
def intD (d : D) : Option D := match d with
  | .int i => some (.int i)
  | .bl b => some (.int (if b then 1 else 0))
  | _ => none
def max1D (d : D) : Option D := match d with
  | .lst xs => (match intsOf xs with
    | some (x :: r) => some (.int (maxL x r))
    | _ => none)
  | _ => none
def min1D (d : D) : Option D := match d with
  | .lst xs => (match intsOf xs with
    | some (x :: r) => some (.int (minL x r))
    | _ => none)
  | _ => none
def sumD (d : D) : Option D := match d with
  | .lst xs => (intsOf xs).map fun ns => .int ns.sum
  | _ => none
def allD (d : D) : Option D := match d with
  | .lst xs => (blsOf xs).map fun bs => .bl (bs.all id)
  | _ => none
def anyD (d : D) : Option D := match d with
  | .lst xs => (blsOf xs).map fun bs => .bl (bs.any id)
  | _ => none
def absD (d : D) : Option D := match d with
  | .int i => some (.int (if i < 0 then -i else i))
  | _ => none
def bi1 (b : Bi) (d : D) (S : Sto) : Option D := match b with
  | .len => lenD d S
  | .int => intD d
  | .abs => absD d
  | .max => max1D d
  | .min => min1D d
  | .sum => sumD d
  | .all => allD d
  | .any => anyD d
  | .sorted => sortD d S
  | .list => listD d S
  | .tuple => tupleD d S
  | .dict => dictD d S
  | .str => strD d
def bi2 (b : Bi) (x y : D) : Option D := match b, x, y with
  | .max, .int i, .int j => some (.int (if j > i then j else i))
  | .min, .int i, .int j => some (.int (if j < i then j else i))
  | _, _, _ => none
def biD (b : Bi) (as : List D) (S : Sto) : Option D := match as with
  | [d] => bi1 b d S
  | [x, y] => bi2 b x y
  | _ => none
/-- the types that isinstance asks for -/
inductive Ty where
  | int | bool | str | tuple | list | dict
  deriving DecidableEq
def isTy (d : D) (t : Ty) : Option Bool := match d with
  | .non => some false
  | .bl _ => some (t == .bool || t == .int)
  | .int _ => some (t == .int)
  | .str _ => some (t == .str)
  | .tup _ => some (t == .tuple)
  | .lst _ => some (t == .list)
  | .rol _ => some (t == .list)
  | .dic _ => some (t == .dict)
  | .dit _ => none
  | .ref _ => none
/-! ### the language -/
inductive Tg where
  | nm (i : Nat) | tp (ts : List Tg)
inductive Ex where
  | var (i : Nat)
  | con (d : D)
  | glo (x : Str) (d : D)
  | tup (es : List Ex)
  | lst (es : List Ex)
  | dk                                    -- {}, keys ints and texts
  | dt                                    -- {}, keys tuples
  | dsp (es : List Ex)                    -- {k: v, ..}, key and value in turn
  | mut (e : Ex)                          -- a fresh list or dict that will be changed
  | op (o : Operator) (a b : Ex)
  | neg (a : Ex)
  | cmp (o : CmpOp) (a b : Ex)
  | chn (o p : CmpOp) (a b c : Ex)
  | and (es : List Ex)
  | or (es : List Ex)
  | not (a : Ex)
  | ite (c a b : Ex)
  | ix (a i : Ex)
  | sl (a : Ex)
  | slL (a lo : Ex)
  | slH (a hi : Ex)
  | slB (a lo hi : Ex)
  | rev (a : Ex)
  | call (f : Nat) (es : List Ex)
  | make (C : Nat) (es : List Ex)
  | meth (o : Ex) (m : Str) (es : List Ex)
  | bi (b : Bi) (es : List Ex)
  | isi (e : Ex) (t : Ty)
  | get1 (o k : Ex)
  | get2 (o k d : Ex)
  | app (o e : Ex)                        -- o.append(e)
  | ext (o e : Ex)                        -- o.extend(e)
  | pop (o : Ex)
  | fld (e : Ex) (f : Str)
  | lc (elt : Ex) (tg : Tg) (it : Ex) (cnd : List Ex) (own : List Nat)
  | lc2 (elt : Ex) (tg : Tg) (it : Ex) (tg1 : Tg) (it1 : Ex) (own own1 : List Nat)
  | dc (k v : Ex) (tg : Tg) (it : Ex) (cnd : List Ex) (own : List Nat)
  | dc2 (k v : Ex) (tg : Tg) (it : Ex) (cnd : List Ex) (tg1 : Tg) (it1 : Ex) (cnd1 : List Ex) (own own1 : List Nat)   -- the second clause walks a tuple
  | lse (a : Ex)                          -- list(enumerate(a))
  -- what is walked
  | itv (a : Ex) | rg1 (a : Ex) | rg2 (a b : Ex) | rg3 (a b c : Ex) | enm (a : Ex) | zp (a b : Ex) | itm (a : Ex) | vls (a : Ex) | rvd (a : Ex)
/-- what stands in an except suite: simple expressions, the fields of the error -/
inductive Sx where
  | con (d : D) | glo (x : Str) (d : D) | var (i : Nat) | xf (f : Str) | tup (es : List Sx)
inductive Sh where
  | ret (e : Sx) | set (i : Nat) (e : Sx) | cnt | pas
structure Hd where
  C : Nat
  x : Option Nat
  body : Sh
inductive Sm where
  | asg (t : Tg) (e : Ex)
  | asgS (o i e : Ex)
  | asgA (o : Ex) (f : Str) (e : Ex)
  | par (ns : List Nat) (es : List Ex)      -- a, b = x, y, plain local names
  | swp (o1 i1 o2 i2 : Ex) (es : List Ex)   -- o1[i1], o2[i2] = x, y
  | aug (i : Nat) (o : Operator) (e : Ex)
  | augA (o : Ex) (f : Str) (op : Operator) (e : Ex)
  | ex (e : Ex)
  | ret (e : Ex)
  | retN
  | ifs (c : Ex) (a b : List Sm)
  | fors (t : Tg) (it : Ex) (body : List Sm)
  | whl (c : Ex) (body : List Sm)
  | rai (C : Nat) (es : List Ex)
  | try_ (body : List Sm) (hs : List Hd)
  | brk | cnt | pas
  | any                                   -- a statement that is never reached
/-! ### the evaluator -/
structure Ctx where
  F : Nat → List D → Sto → R D
  M : Nat → Str → Option Nat
  I : Nat → Option Nat
  sub : Nat → Nat → Bool
  xf : Nat → Option (Option Str)
  fuel : Nat
def Env.get (ρ : Env) (i : Nat) : Option D := match ρ[i]? with
  | some o => o
  | none => none
def wipe (ρ : Env) : List Nat → Env
  | [] => ρ
  | v :: vs => (wipe ρ vs).set v none
mutual
def bindT : Tg → D → Env → Option Env
  | .nm i, d, ρ => if i < ρ.length then some (ρ.set i (some d)) else none
  | .tp ts, d, ρ => match d with
    | .tup xs => bindTs ts xs ρ
    | .lst xs => bindTs ts xs ρ
    | _ => none
def bindTs : List Tg → List D → Env → Option Env
  | [], [], ρ => some ρ
  | t :: ts, x :: xs, ρ => match bindT t x ρ with
    | some ρ' => bindTs ts xs ρ'
    | none => none
  | _, _, _ => none
end
def zipD : List D → List D → List D
  | x :: xs, y :: ys => .tup [x, y] :: zipD xs ys
  | _, _ => []
def enumD : Nat → List D → List D
  | _, [] => []
  | n, x :: xs => .tup [.int n, x] :: enumD (n + 1) xs
def rangeD (lo : Int) : Nat → List D
  | 0 => []
  | n + 1 => .int lo :: rangeD (lo + 1) n
def rangeC (lo c : Int) : Nat → List D
  | 0 => []
  | n + 1 => .int lo :: rangeC (lo + c) c n
/-- how many there are, going up by k -/
def rgN (i j k : Int) : Nat := if i < j then ((j - i - 1) / k + 1).toNat else 0
def SMALL : Int := 1000000000000000000
/-- what is walked over a value: its items, and the list in the store that must stay as it is -/
def itemsOf (d : D) (S : Sto) : Option (List D × Option Nat) := match d with
  | .tup xs => some (xs, none)
  | .lst xs => some (xs, none)
  | .rol ns => some (ns.map .int, none)
  | .str z => some (z.cps.toList.map sgn, none)
  | .dic kvs => some (kvs.map fun kv => kv.1.d, none)
  | .ref n => (match S.get n with
    | some (.lst xs) => some (xs, some n)
    | _ => none)
  | _ => none
/-- a row that is a value: it can not change -/
def stillOf (d : D) : Option (List D) := match d with
  | .tup xs => some xs
  | .lst xs => some xs
  | .rol ns => some (ns.map .int)
  | _ => none
def enmD (d : D) (S : Sto) : Option (List D × Option Nat) := match d with
  | .str _ => none
  | .dic _ => none
  | d => (itemsOf d S).map fun p => (enumD 0 p.1, p.2)
def zpD (x y : D) : Option (List D × Option Nat) := match stillOf x, stillOf y with
  | some xs, some ys => some (zipD xs ys, none)
  | _, _ => none
def itmD (d : D) : Option (List D × Option Nat) := match d with
  | .dic kvs => some (kvs.map fun kv => .tup [kv.1.d, kv.2], none)
  | _ => none
def vlsD (d : D) : Option (List D × Option Nat) := match d with
  | .dic kvs => some (kvs.map fun kv => kv.2, none)
  | _ => none
def rvdD (d : D) : Option (List D × Option Nat) := match d with
  | .tup xs => some (xs.reverse, none)
  | .lst xs => some (xs.reverse, none)
  | .rol ns => some ((ns.map D.int).reverse, none)
  | _ => none
def mapR (f : D → Sto → R D) : List D → Sto → R (List D)
  | [], S => .ok [] S
  | x :: xs, S => (f x S).bind fun y S => (mapR f xs S).bind fun ys S => .ok (y :: ys) S
/-- a comprehension's turns: f gives the element, or nothing -/
def compR {α : Type} (f : D → Sto → R (Option α)) : List D → Sto → R (List α)
  | [], S => .ok [] S
  | x :: xs, S => (f x S).bind fun o S => (compR f xs S).bind fun ys S => .ok (match o with | some y => y :: ys | none => ys) S
def noExc {α : Type} (r : R α) : R α := match r with
  | .exc _ _ _ => .no
  | r => r
def held (g : Option Nat) (S S' : Sto) : Bool := match g with
  | none => true
  | some n => decide (S.get n = S'.get n)
def lcF (ev : Env → Sto → R D) (al : Env → Sto → R Bool) (tg : Tg) (own : List Nat) (ρ : Env) (g : Option Nat) (x : D) (S' : Sto) : R (Option D) := match bindT tg x (wipe ρ own) with
  | some ρ' => noExc ((al ρ' S').bind fun c S => if c then (ev ρ' S).bind fun y S => if held g S' S then .ok (some y) S else .no
    else if held g S' S then .ok none S else .no)
  | none => .no
def dcF (ek ev : Env → Sto → R D) (al : Env → Sto → R Bool) (tg : Tg) (own : List Nat) (ρ : Env) (g : Option Nat) (x : D) (S' : Sto) : R (Option (Ky × D)) := match bindT tg x (wipe ρ own) with
  | some ρ' => noExc ((al ρ' S').bind fun c S => if c then (ek ρ' S).bind fun y S => (ev ρ' S).bind fun z S => (match y.ky with
      | some kk => if held g S' S then .ok (some (kk, z)) S else .no
      | none => .no)
    else if held g S' S then .ok none S else .no)
  | none => .no
def lc2F (ev : Env → Sto → R D) (eI : Env → Sto → R (List D × Option Nat)) (tg tg1 : Tg) (own own1 : List Nat) (ρ : Env) (g : Option Nat) (x : D) (S' : Sto) : R (Option (List D)) := match bindT tg x (wipe ρ own) with
  | some ρ' => noExc ((eI ρ' S').bind fun q S => (compR (lcF ev (fun _ S => .ok true S) tg1 own1 ρ' q.2) q.1 S).bind fun ys S => if held g S' S then .ok (some ys) S else .no)
  | none => .no
def lseD (d : D) : Option (List D) := match d with
  | .tup xs => some (enumD 0 xs)
  | .lst xs => some (enumD 0 xs)
  | .str z => if z.length ≤ LIM then some (enumD 0 (z.cps.toList.map sgn)) else none
  | _ => none
def tupR (d : D) (S : Sto) : R (List D) := match d with
  | .tup xs => .ok xs S
  | _ => .no
def dc2F (ek ev : Env → Sto → R D) (al al1 : Env → Sto → R Bool) (eI : Env → Sto → R D) (tg tg1 : Tg) (own own1 : List Nat) (ρ : Env) (g : Option Nat) (x : D) (S' : Sto) : R (Option (List (Ky × D))) := match bindT tg x (wipe ρ own) with
  | some ρ' => noExc ((al ρ' S').bind fun c S => if c then (eI ρ' S).bind fun q S => (tupR q S).bind fun q S => (compR (dcF ek ev al1 tg1 own1 ρ' none) q S).bind fun ys S => if held g S' S then .ok (some ys) S else .no
    else if held g S' S then .ok none S else .no)
  | none => .no
def newO (d : D) (S : Sto) : R D := match d with
  | .lst xs => .ok (.ref S.length) (S ++ [.lst xs])
  | .dic kvs => .ok (.ref S.length) (S ++ [.dic kvs])
  | .dit kvs => .ok (.ref S.length) (S ++ [.dit kvs])
  | _ => .no
def get1D (d k : D) (S : Sto) : Option (Option D) := match d with
  | .dic kvs => k.ky.map fun k => vget kvs k
  | .dit kvs => k.tky.map fun k => vget kvs k
  | .ref n => (match S.get n with
    | some (.dic kvs) => k.ky.map fun k => vget kvs k
    | some (.dit kvs) => k.tky.map fun k => vget kvs k
    | _ => none)
  | _ => none
def isD (d : D) (S : Sto) : Bool := match d with
  | .dic _ | .dit _ => true
  | .ref n => (match S.get n with
    | some (.dic _) => true
    | some (.dit _) => true
    | _ => false)
  | _ => false
def isL (d : D) (S : Sto) : Bool := match d with
  | .ref n => (match S.get n with
    | some (.lst _) => true
    | _ => false)
  | _ => false
def appD (d x : D) (S : Sto) : R D := match d with
  | .ref n => (match S.get n with
    | some (.lst xs) => if xs.length < LIM then .ok .non (S.set n (.lst (xs ++ [x]))) else .no
    | _ => .no)
  | _ => .no
def extD (d x : D) (S : Sto) : R D := match d with
  | .ref n => (match S.get n with
    | some (.lst xs) => (match x with
      | .lst ys => if xs.length + ys.length ≤ LIM then .ok .non (S.set n (.lst (xs ++ ys))) else .no
      | _ => .no)
    | _ => .no)
  | _ => .no
def popD (d : D) (S : Sto) : R D := match d with
  | .ref n => (match S.get n with
    | some (.lst xs) => (match xs[xs.length - 1]? with
      | some x => .ok x (S.set n (.lst xs.dropLast))
      | none => .no)
    | _ => .no)
  | _ => .no
def setD (o i v : D) (S : Sto) : Option Sto := match o with
  | .ref n => (match S.get n with
    | some (.lst xs) => (match i with
      | .int k => (L2.ixN xs.length k).map fun j => S.set n (.lst (xs.set j v))
      | _ => none)
    | some (.dic kvs) => (match i.ky with
      | some k => if kvs.length < LIM then some (S.set n (.dic (vput kvs k v))) else none
      | none => none)
    | some (.dit kvs) => (match i.tky with
      | some k => if kvs.length < LIM then some (S.set n (.dit (vput kvs k v))) else none
      | none => none)
    | _ => none)
  | _ => none
def fldD (d : D) (f : Str) (S : Sto) : Option D := match d with
  | .ref n => (match S.get n with
    | some (.ins _ fs) => fs.lookup f
    | _ => none)
  | _ => none
def putFld (f : Str) (v : D) : List (Str × D) → List (Str × D)
  | [] => [(f, v)]
  | p :: r => if p.1 = f then (f, v) :: r else p :: putFld f v r
def setF (d : D) (f : Str) (v : D) (S : Sto) : Option Sto := match d with
  | .ref n => (match S.get n with
    | some (.ins C fs) => if fs.length < 900 then some (S.set n (.ins C (putFld f v fs))) else none
    | _ => none)
  | _ => none
def clsD (d : D) (m : Str) (S : Sto) : Option Nat := match d with
  | .ref n => (match S.get n with
    | some (.ins C fs) => if fs.lookup m = none then some C else none
    | _ => none)
  | _ => none
mutual
def evE (Γ : Ctx) : Ex → Env → Sto → R D
  | .var i, ρ, S => R.of (ρ.get i) S
  | .con d, _, S => .ok d S
  | .glo _ d, _, S => .ok d S
  | .tup es, ρ, S => (evL Γ es ρ S).bind fun ds S => if ds.length ≤ LIM then .ok (.tup ds) S else .no
  | .lst es, ρ, S => (evL Γ es ρ S).bind fun ds S => if ds.length ≤ LIM then .ok (.lst ds) S else .no
  | .dk, _, S => .ok (.dic []) S
  | .dsp es, ρ, S => (evL Γ es ρ S).bind fun ds S => (R.of (prs ds) S).bind fun kvs S => if kvs.length ≤ 15 then .ok (.dic (merge [] kvs)) S else .no
  | .dt, _, S => .ok (.dit []) S
  | .mut e, ρ, S => (evE Γ e ρ S).bind newO
  | .op o a b, ρ, S => (evE Γ a ρ S).bind fun x S => (evE Γ b ρ S).bind fun y S => R.of (opD o x y) S
  | .neg a, ρ, S => (evE Γ a ρ S).bind fun x S => match x with
    | .int i => .ok (.int (-i)) S
    | _ => .no
  | .cmp o a b, ρ, S => (evE Γ a ρ S).bind fun x S => (evE Γ b ρ S).bind fun y S => match cmpD o x y S with
    | some c => .ok (.bl c) S
    | none => .no
  | .chn o p a b c, ρ, S => (evE Γ a ρ S).bind fun x S => (evE Γ b ρ S).bind fun y S => match cmpD o x y S with
    | some true => (evE Γ c ρ S).bind fun z S => (match cmpD p y z S with
      | some k => .ok (.bl k) S
      | none => .no)
    | some false => .ok (.bl false) S
    | none => .no
  | .and es, ρ, S => evAnd Γ es ρ S
  | .or es, ρ, S => evOr Γ es ρ S
  | .not a, ρ, S => (evE Γ a ρ S).bind fun x S => match x with
    | .bl c => .ok (.bl (!c)) S
    | _ => .no
  | .ite c a b, ρ, S => (evE Γ c ρ S).bind fun x S => match x with
    | .bl true => evE Γ a ρ S
    | .bl false => evE Γ b ρ S
    | _ => .no
  | .ix a i, ρ, S => (evE Γ a ρ S).bind fun x S => (evE Γ i ρ S).bind fun y S => R.of (ixD x y S) S
  | .sl a, ρ, S => (evE Γ a ρ S).bind fun x S => R.of (slD x none none S) S
  | .slL a lo, ρ, S => (evE Γ a ρ S).bind fun x S => (evE Γ lo ρ S).bind fun l S => match l with
    | .int i => R.of (slD x (some i) none S) S
    | _ => .no
  | .slH a hi, ρ, S => (evE Γ a ρ S).bind fun x S => (evE Γ hi ρ S).bind fun h S => match h with
    | .int j => R.of (slD x none (some j) S) S
    | _ => .no
  | .slB a lo hi, ρ, S => (evE Γ a ρ S).bind fun x S => (evE Γ lo ρ S).bind fun l S => match l with
    | .int i => (evE Γ hi ρ S).bind fun h S => (match h with
      | .int j => R.of (slD x (some i) (some j) S) S
      | _ => .no)
    | _ => .no
  | .rev a, ρ, S => (evE Γ a ρ S).bind fun x S => match x with
    | .tup xs => .ok (.tup xs.reverse) S
    | .lst xs => .ok (.lst xs.reverse) S
    | _ => .no
  | .call f es, ρ, S => (evL Γ es ρ S).bind fun ds S => Γ.F f ds S
  | .make C es, ρ, S => match Γ.I C with
    | some f => (evL Γ es ρ S).bind fun ds S => (Γ.F f (.ref S.length :: ds) (S ++ [.ins C []])).bind fun d S' => (match d with
      | .non => .ok (.ref S.length) S'
      | _ => .no)
    | none => .no
  | .meth o m es, ρ, S => (evE Γ o ρ S).bind fun x S => match clsD x m S with
    | some C => (match Γ.M C m with
      | some f => (evL Γ es ρ S).bind fun ds S => Γ.F f (x :: ds) S
      | none => .no)
    | none => .no
  | .bi b es, ρ, S => (evL Γ es ρ S).bind fun ds S => R.of (biD b ds S) S
  | .isi e t, ρ, S => (evE Γ e ρ S).bind fun x S => match isTy x t with
    | some c => .ok (.bl c) S
    | none => .no
  | .get1 o k, ρ, S => (evE Γ o ρ S).bind fun x S => if isD x S then (evE Γ k ρ S).bind fun y S => (match get1D x y S with
      | some r => .ok (r.getD .non) S
      | none => .no) else .no
  | .get2 o k d, ρ, S => (evE Γ o ρ S).bind fun x S => if isD x S then (evE Γ k ρ S).bind fun y S => (evE Γ d ρ S).bind fun z S => (match get1D x y S with
      | some r => .ok (r.getD z) S
      | none => .no) else .no
  | .app o e, ρ, S => (evE Γ o ρ S).bind fun x S => if isL x S then (evE Γ e ρ S).bind fun y S => appD x y S else .no
  | .ext o e, ρ, S => (evE Γ o ρ S).bind fun x S => if isL x S then (evE Γ e ρ S).bind fun y S => extD x y S else .no
  | .pop o, ρ, S => (evE Γ o ρ S).bind fun x S => popD x S
  | .fld e f, ρ, S => (evE Γ e ρ S).bind fun x S => R.of (fldD x f S) S
  | .lc elt tg it cnd own, ρ, S => (evI Γ it ρ S).bind fun p S => (compR (lcF (fun ρ S => evE Γ elt ρ S) (fun ρ S => evAll Γ cnd ρ S) tg own ρ p.2) p.1 S).bind fun ys S => if ys.length ≤ LIM then .ok (.lst ys) S else .no
  | .lc2 elt tg it tg1 it1 own own1, ρ, S => (evI Γ it ρ S).bind fun p S => (compR (lc2F (fun ρ S => evE Γ elt ρ S) (fun ρ S => evI Γ it1 ρ S) tg tg1 (own ++ own1) own1 ρ p.2) p.1 S).bind fun yss S => if yss.flatten.length ≤ LIM then .ok (.lst yss.flatten) S else .no
  | .dc k v tg it cnd own, ρ, S => (evI Γ it ρ S).bind fun p S => (compR (dcF (fun ρ S => evE Γ k ρ S) (fun ρ S => evE Γ v ρ S) (fun ρ S => evAll Γ cnd ρ S) tg own ρ p.2) p.1 S).bind fun ys S => if ys.length ≤ LIM then .ok (.dic (merge [] ys)) S else .no
  | .dc2 k v tg it cnd tg1 it1 cnd1 own own1, ρ, S => (evI Γ it ρ S).bind fun p S => (compR (dc2F (fun ρ S => evE Γ k ρ S) (fun ρ S => evE Γ v ρ S) (fun ρ S => evAll Γ cnd ρ S) (fun ρ S => evAll Γ cnd1 ρ S) (fun ρ S => evE Γ it1 ρ S) tg tg1 own own1 ρ p.2) p.1 S).bind fun yss S => if yss.flatten.length ≤ LIM then .ok (.dic (merge [] yss.flatten)) S else .no
  | .lse a, ρ, S => (evE Γ a ρ S).bind fun x S => R.of ((lseD x).map .lst) S
  | .itv _, _, _ | .rg1 _, _, _ | .rg2 _ _, _, _ | .rg3 _ _ _, _, _ | .enm _, _, _ | .zp _ _, _, _ | .itm _, _, _ | .vls _, _, _ | .rvd _, _, _ => .no
termination_by structural e => e
def evL (Γ : Ctx) : List Ex → Env → Sto → R (List D)
  | [], _, S => .ok [] S
  | e :: es, ρ, S => (evE Γ e ρ S).bind fun x S => (evL Γ es ρ S).bind fun xs S => .ok (x :: xs) S
termination_by structural e => e
def evAnd (Γ : Ctx) : List Ex → Env → Sto → R D
  | [], _, _ => .no
  | [e], ρ, S => evE Γ e ρ S
  | e :: es, ρ, S => (evE Γ e ρ S).bind fun x S => match x with
    | .bl true => evAnd Γ es ρ S
    | .bl false => .ok (.bl false) S
    | _ => .no
termination_by structural e => e
def evOr (Γ : Ctx) : List Ex → Env → Sto → R D
  | [], _, _ => .no
  | [e], ρ, S => evE Γ e ρ S
  | e :: es, ρ, S => (evE Γ e ρ S).bind fun x S => match x with
    | .bl false => evOr Γ es ρ S
    | .bl true => .ok (.bl true) S
    | _ => .no
termination_by structural e => e
/-- all tests of a comprehension -/
def evAll (Γ : Ctx) : List Ex → Env → Sto → R Bool
  | [], _, S => .ok true S
  | e :: es, ρ, S => (evE Γ e ρ S).bind fun x S => match x with
    | .bl true => evAll Γ es ρ S
    | .bl false => .ok false S
    | _ => .no
termination_by structural e => e
def evI (Γ : Ctx) : Ex → Env → Sto → R (List D × Option Nat)
  | .rg1 a, ρ, S => (evE Γ a ρ S).bind fun x S => match x with
    | .int j => if -SMALL ≤ j ∧ j ≤ SMALL then .ok (rangeD 0 j.toNat, none) S else .no
    | _ => .no
  | .rg2 a b, ρ, S => (evE Γ a ρ S).bind fun x S => (evE Γ b ρ S).bind fun y S => match x, y with
    | .int i, .int j => if -SMALL ≤ i ∧ i ≤ SMALL ∧ -SMALL ≤ j ∧ j ≤ SMALL then .ok (rangeD i (j - i).toNat, none) S else .no
    | _, _ => .no
  | .rg3 a b c, ρ, S => (evE Γ a ρ S).bind fun x S => (evE Γ b ρ S).bind fun y S => (evE Γ c ρ S).bind fun z S => match x, y, z with
    | .int i, .int j, .int k => if -SMALL ≤ i ∧ i ≤ SMALL ∧ -SMALL ≤ j ∧ j ≤ SMALL then (if k = -1 then .ok (rangeC i (-1) (i - j).toNat, none) S else if 1 ≤ k ∧ k ≤ 1000000 then .ok (rangeC i k (rgN i j k), none) S else .no) else .no
    | _, _, _ => .no
  | .enm a, ρ, S => (evE Γ a ρ S).bind fun x S => R.of (enmD x S) S
  | .zp a b, ρ, S => (evE Γ a ρ S).bind fun x S => (evE Γ b ρ S).bind fun y S => R.of (zpD x y) S
  | .itm a, ρ, S => (evE Γ a ρ S).bind fun x S => R.of (itmD x) S
  | .vls a, ρ, S => (evE Γ a ρ S).bind fun x S => R.of (vlsD x) S
  | .rvd a, ρ, S => (evE Γ a ρ S).bind fun x S => R.of (rvdD x) S
  | .itv e, ρ, S => (evE Γ e ρ S).bind fun x S => R.of (itemsOf x S) S
  | _, _, _ => .no
termination_by structural e => e
end
inductive Fl where
  | nx (ρ : Env) | ret (d : D) | brk (ρ : Env) | cnt (ρ : Env)
inductive RS where
  | ok (f : Fl) (S : Sto)
  | exc (C : Nat) (fs : List (Str × D)) (ρ : Env) (S : Sto)
  | no
/-- an expression's end goes on in a statement -/
def R.go {α : Type} (r : R α) (ρ : Env) (k : α → Sto → RS) : RS := match r with
  | .ok a S => k a S
  | .exc C fs S => .exc C fs ρ S
  | .no => .no
def RS.seq (r : RS) (k : Env → Sto → RS) : RS := match r with
  | .ok (.nx ρ) S => k ρ S
  | r => r
def forR (g : Option Nat) (step : D → Env → Sto → RS) : List D → Env → Sto → RS
  | [], ρ, S => .ok (.nx ρ) S
  | x :: xs, ρ, S => match step x ρ S with
    | .ok (.nx ρ') S' => if held g S S' then forR g step xs ρ' S' else .no
    | .ok (.cnt ρ') S' => if held g S S' then forR g step xs ρ' S' else .no
    | .ok (.brk ρ') S' => .ok (.nx ρ') S'
    | r => r
def forF (body : Env → Sto → RS) (t : Tg) (x : D) (ρ : Env) (S : Sto) : RS := match bindT t x ρ with
  | some ρ' => body ρ' S
  | none => .no
def whileR (c : Env → Sto → R D) (b : Env → Sto → RS) : Nat → Env → Sto → RS
  | 0, _, _ => .no
  | n + 1, ρ, S => (c ρ S).go ρ fun d S => match d with
    | .bl true => (match b ρ S with
      | .ok (.nx ρ') S' => whileR c b n ρ' S'
      | .ok (.cnt ρ') S' => whileR c b n ρ' S'
      | .ok (.brk ρ') S' => .ok (.nx ρ') S'
      | r => r)
    | .bl false => .ok (.nx ρ) S
    | _ => .no
mutual
def evX (fs : List (Str × D)) : Sx → Env → Option D
  | .con d, _ => some d
  | .glo _ d, _ => some d
  | .var i, ρ => ρ.get i
  | .xf f, _ => fs.lookup f
  | .tup es, ρ => match evXs fs es ρ with
    | some ds => if ds.length ≤ LIM then some (.tup ds) else none
    | none => none
def evXs (fs : List (Str × D)) : List Sx → Env → Option (List D)
  | [], _ => some []
  | e :: es, ρ => match evX fs e ρ, evXs fs es ρ with
    | some d, some ds => some (d :: ds)
    | _, _ => none
end
def evH (fs : List (Str × D)) (h : Sh) (ρ : Env) (S : Sto) : RS := match h with
  | .ret e => (match evX fs e ρ with
    | some d => .ok (.ret d) S
    | none => .no)
  | .set i e => (match evX fs e ρ with
    | some d => if i < ρ.length then .ok (.nx (ρ.set i (some d))) S else .no
    | none => .no)
  | .cnt => .ok (.cnt ρ) S
  | .pas => .ok (.nx ρ) S
def handle (Γ : Ctx) (C : Nat) (fs : List (Str × D)) (ρ : Env) (S : Sto) : List Hd → RS
  | [] => .exc C fs ρ S
  | h :: hs => if Γ.sub C h.C then (match h.x with
    | some i => if i < ρ.length then evH fs h.body (ρ.set i none) S else .no
    | none => evH fs h.body ρ S) else handle Γ C fs ρ S hs
/-- what an exception may keep: str of it is short -/
def msgD : D → Bool
  | .str z => decide (z.length ≤ 1000)
  | .int i => decide (i.natAbs < 1000000000000000000)
  | _ => false
def incOp (o : Operator) (x y : D) : Option D := match o, x, y with
  | .Add, .int i, .int j => some (.int (i + j))
  | .Sub, .int i, .int j => some (.int (i - j))
  | .Mult, .int i, .int j => if (-BIG < i ∧ i < BIG) ∨ (-BIG < j ∧ j < BIG) then some (.int (i * j)) else none
  | .FloorDiv, .int i, .int j => if 0 < j ∧ j < 1073741824 then some (.int (i / j)) else none
  | _, _, _ => none
def setAll : List Nat → List D → Env → Option Env
  | [], [], ρ => some ρ
  | n :: ns, d :: ds, ρ => if n < ρ.length then setAll ns ds (ρ.set n (some d)) else none
  | _, _, _ => none
def sameC (x : D) (S S' : Sto) : Bool := match x with
  | .ref n => (match S.get n with
    | some (.ins C _) => (match S'.get n with
      | some (.ins C' _) => decide (C = C')
      | _ => false)
    | _ => false)
  | _ => false
mutual
def evS (Γ : Ctx) : Sm → Env → Sto → RS
  | .asg t e, ρ, S => (evE Γ e ρ S).go ρ fun d S => match bindT t d ρ with
    | some ρ' => .ok (.nx ρ') S
    | none => .no
  | .asgS o i e, ρ, S => (evE Γ e ρ S).go ρ fun v S => (evE Γ o ρ S).go ρ fun x S => (evE Γ i ρ S).go ρ fun y S => match setD x y v S with
    | some S' => .ok (.nx ρ) S'
    | none => .no
  | .asgA o f e, ρ, S => (evE Γ e ρ S).go ρ fun v S => (evE Γ o ρ S).go ρ fun x S => match setF x f v S with
    | some S' => .ok (.nx ρ) S'
    | none => .no
  | .par ns es, ρ, S => (evL Γ es ρ S).go ρ fun ds S => match setAll ns ds ρ with
    | some ρ' => .ok (.nx ρ') S
    | none => .no
  | .swp o1 i1 o2 i2 es, ρ, S => (evL Γ es ρ S).go ρ fun ds S => match ds with
    | [u, v] => (evE Γ o1 ρ S).go ρ fun x S => (evE Γ i1 ρ S).go ρ fun y S => (match setD x y u S with
      | some S => (evE Γ o2 ρ S).go ρ fun x S => (evE Γ i2 ρ S).go ρ fun y S => (match setD x y v S with
        | some S => .ok (.nx ρ) S
        | none => .no)
      | none => .no)
    | _ => .no
  | .aug i o e, ρ, S => match ρ.get i with
    | some x => (evE Γ e ρ S).go ρ fun y S => (match incOp o x y with
      | some z => .ok (.nx (ρ.set i (some z))) S
      | none => .no)
    | none => .no
  | .augA o f op e, ρ, S => (evE Γ o ρ S).go ρ fun x S => match fldD x f S with
    | some v => (evE Γ e ρ S).go ρ fun y S' => if sameC x S S' then (match incOp op v y with
      | some z => (match setF x f z S' with
        | some S' => .ok (.nx ρ) S'
        | none => .no)
      | none => .no) else .no
    | none => .no
  | .ex e, ρ, S => (evE Γ e ρ S).go ρ fun _ S => .ok (.nx ρ) S
  | .ret e, ρ, S => (evE Γ e ρ S).go ρ fun d S => .ok (.ret d) S
  | .retN, _, S => .ok (.ret .non) S
  | .ifs c a b, ρ, S => (evE Γ c ρ S).go ρ fun d S => match d with
    | .bl true => evSs Γ a ρ S
    | .bl false => evSs Γ b ρ S
    | _ => .no
  | .fors t it body, ρ, S => (evI Γ it ρ S).go ρ fun p S => forR p.2 (forF (fun ρ S => evSs Γ body ρ S) t) p.1 ρ S
  | .whl c body, ρ, S => whileR (fun ρ S => evE Γ c ρ S) (fun ρ S => evSs Γ body ρ S) Γ.fuel ρ S
  | .rai C es, ρ, S => (evL Γ es ρ S).go ρ fun ds S => match Γ.xf C with
    | some (some f) => (match ds with
      | [d] => if msgD d then .exc C [(f, d)] ρ S else .no
      | _ => .no)
    | some none => (match ds with
      | [.str _] => .exc C [] ρ S
      | _ => .no)
    | none => .no
  | .try_ body hs, ρ, S => match evSs Γ body ρ S with
    | .exc C fs ρ' S' => handle Γ C fs ρ' S' hs
    | r => r
  | .brk, ρ, S => .ok (.brk ρ) S
  | .cnt, ρ, S => .ok (.cnt ρ) S
  | .pas, ρ, S => .ok (.nx ρ) S
  | .any, _, _ => .no
termination_by structural s => s
def evSs (Γ : Ctx) : List Sm → Env → Sto → RS
  | [], ρ, S => .ok (.nx ρ) S
  | s :: ss, ρ, S => (evS Γ s ρ S).seq fun ρ S => evSs Γ ss ρ S
termination_by structural s => s
end
/-! ### functions -/
structure Fn where
  at_ : Str × Option Str
  N : List Str
  ps : List Str
  body : List Sm
structure Cl where
  name : Str
  init : Option Nat
  meths : List (Str × Nat)
  exc : Option (Option Str)
  ups : List Nat
structure Prog where
  fns : List Fn
  cls : List Cl
  fuel : Nat
def oldOk (n : Nat) (S S' : Sto) : Bool := (List.range n).all fun i => decide (S'[i]? = S[i]?) || (match S'[i]? with
  | some (.lst xs) => belowL n xs
  | some (.dic kvs) => belowK n kvs
  | some (.dit kvs) => belowT n kvs
  | some (.ins _ fs) => fs.all fun p => below n p.2
  | none => false)
mutual
/-- a result as a value: what stands above n in the store is laid open -/
def frz (S : Sto) (n : Nat) : Nat → D → Option D
  | 0, _ => none
  | m + 1, d => match d with
    | .ref i => if i < n then some d else (match S[i]? with
      | some (.lst xs) => (frzL S n m xs).map .lst
      | _ => none)
    | .tup xs => (frzL S n m xs).map .tup
    | .lst xs => (frzL S n m xs).map .lst
    | .dic kvs => (frzK S n m kvs).map .dic
    | .dit kvs => (frzT S n m kvs).map .dit
    | d => some d
termination_by structural m => m
def frzL (S : Sto) (n : Nat) : Nat → List D → Option (List D)
  | 0, _ => none
  | m + 1, xs => match xs with
    | [] => some []
    | x :: r => (match frz S n m x, frzL S n m r with
      | some y, some ys => some (y :: ys)
      | _, _ => none)
termination_by structural m => m
def frzK (S : Sto) (n : Nat) : Nat → List (Ky × D) → Option (List (Ky × D))
  | 0, _ => none
  | m + 1, xs => match xs with
    | [] => some []
    | x :: r => (match frz S n m x.2, frzK S n m r with
      | some y, some ys => some ((x.1, y) :: ys)
      | _, _ => none)
termination_by structural m => m
def frzT (S : Sto) (n : Nat) : Nat → List (List Ky × D) → Option (List (List Ky × D))
  | 0, _ => none
  | m + 1, xs => match xs with
    | [] => some []
    | x :: r => (match frz S n m x.2, frzT S n m r with
      | some y, some ys => some ((x.1, y) :: ys)
      | _, _ => none)
termination_by structural m => m
end
def gc (S : Sto) (d : D) (S' : Sto) : R D :=
  if oldOk S.length S S' = true then (if below S.length d = true then .ok d (S'.take S.length) else (match frz S' S.length 10000 d with
    | some d' => .ok d' (S'.take S.length)
    | none => .ok d S')) else .ok d S'
def gcX (S : Sto) (C : Nat) (fs : List (Str × D)) (S' : Sto) : R D :=
  if oldOk S.length S S' = true ∧ (fs.all fun p => below S.length p.2) = true then .exc C fs (S'.take S.length) else .exc C fs S'
def fin (S : Sto) (r : RS) : R D := match r with
  | .ok (.nx _) S' => gc S .non S'
  | .ok (.ret d) S' => gc S d S'
  | .exc C fs _ S' => gcX S C fs S'
  | _ => .no
def Prog.sub (P : Prog) (C D : Nat) : Bool := decide (C = D) || (match P.cls[C]? with
  | some c => c.ups.contains D
  | none => false)
def Prog.ctx (P : Prog) (F : Nat → List D → Sto → R D) : Ctx where
  F := F
  M := fun C m => match P.cls[C]? with
    | some c => c.meths.lookup m
    | none => none
  I := fun C => match P.cls[C]? with
    | some c => c.init
    | none => none
  sub := P.sub
  xf := fun C => match P.cls[C]? with
    | some c => c.exc
    | none => none
  fuel := P.fuel
def run (P : Prog) : Nat → Nat → List D → Sto → R D
  | 0, _, _, _ => .no
  | k + 1, f, ds, S => match P.fns[f]? with
    | some fn => if ds.length = fn.ps.length then fin S (evSs (P.ctx (run P k)) fn.body (ds.map some ++ List.replicate (fn.N.length - ds.length) none) S) else .no
    | none => .no
end MP
end

section
set_option Elab.async false
set_option linter.all false
set_option maxRecDepth 100000
/-! MpLib: plain rules about the evaluator, for the laws' own mathematics. -/
namespace MP.Lb
open PySem
/-! what a call leaves -/
theorem oldOk_refl (S : Sto) : oldOk S.length S S = true := by
  unfold oldOk
  rw [List.all_eq_true]
  intro i _
  simp
theorem oldOk_append (S R : Sto) : oldOk S.length S (S ++ R) = true := by
  unfold oldOk
  rw [List.all_eq_true]
  intro i hi
  have := List.mem_range.mp hi
  rw [List.getElem?_append_left this]
  simp
mutual
/-- no place of the store is told -/
def dry : D → Bool
  | .tup xs => dryL xs
  | .lst xs => dryL xs
  | .dic kvs => dryK kvs
  | .dit _ => false
  | .ref _ => false
  | _ => true
def dryL : List D → Bool
  | [] => true
  | x :: xs => dry x && dryL xs
def dryK : List (Ky × D) → Bool
  | [] => true
  | (_, d) :: r => dry d && dryK r
end
mutual
theorem dry_below (n : Nat) : ∀ {d : D}, dry d = true → below n d = true
  | .tup xs, h => by simp only [dry] at h; simp only [below]; exact dry_belowL n h
  | .lst xs, h => by simp only [dry] at h; simp only [below]; exact dry_belowL n h
  | .dic kvs, h => by simp only [dry] at h; simp only [below]; exact dry_belowK n h
  | .dit _, h => by simp [dry] at h
  | .ref _, h => by simp [dry] at h
  | .non, _ | .bl _, _ | .int _, _ | .str _, _ | .rol _, _ => by simp [below]
theorem dry_belowL (n : Nat) : ∀ {d : List D}, dryL d = true → belowL n d = true
  | [], _ => by simp [belowL]
  | x :: xs, h => by
    simp only [dryL, Bool.and_eq_true] at h
    simp only [belowL, dry_below n h.1, dry_belowL n h.2]; rfl
theorem dry_belowK (n : Nat) : ∀ {d : List (Ky × D)}, dryK d = true → belowK n d = true
  | [], _ => by simp [belowK]
  | (k, x) :: xs, h => by
    simp only [dryK, Bool.and_eq_true] at h
    simp only [belowK, dry_below n h.1, dry_belowK n h.2]; rfl
end
/-- a result without places; the callee's own objects go -/
theorem gc_dry {S R : Sto} {d : D} (h : dry d = true) : gc S d (S ++ R) = .ok d S := by
  unfold gc
  rw [if_pos (oldOk_append S R), if_pos (dry_below _ h), List.take_left']
  rfl
theorem gc_dry0 {S : Sto} {d : D} (h : dry d = true) : gc S d S = .ok d S := by
  have := gc_dry (S := S) (R := []) h
  simpa using this
theorem gcX_dry {S R : Sto} {C : Nat} : gcX S C [] (S ++ R) = .exc C [] S := by
  unfold gcX
  rw [if_pos ⟨oldOk_append S R, rfl⟩, List.take_left']
  rfl
theorem gcX_dry0 {S : Sto} {C : Nat} : gcX S C [] S = .exc C [] S := by
  have := gcX_dry (S := S) (R := []) (C := C)
  simpa using this
/-- the callee's last own list is what it gives -/
theorem gc_lst {S : Sto} {xs : List D} (h : dryL xs = true) (hf : frzL (S ++ [.lst xs]) S.length 9999 xs = some xs) : gc S (.ref S.length) (S ++ [.lst xs]) = .ok (.lst xs) S := by
  unfold gc
  rw [if_pos (oldOk_append S _), if_neg (by simp [below])]
  have e : frz (S ++ [.lst xs]) S.length 10000 (.ref S.length) = some (.lst xs) := by
    simp only [frz]
    rw [if_neg (Nat.lt_irrefl _)]
    simp [hf]
  rw [e, List.take_left']
  rfl
/-! comprehensions over lists whose elements do nothing to the store -/
theorem compR_pure {α : Type} {f : D → Sto → R (Option α)} {S : Sto} {g : D → Option α} : ∀ {xs : List D}, (∀ x ∈ xs, f x S = .ok (g x) S) → compR f xs S = .ok (xs.filterMap g) S
  | [], _ => rfl
  | x :: xs, h => by
    have ih := compR_pure (xs := xs) fun y hy => h y (List.mem_cons_of_mem _ hy)
    simp only [compR, h x List.mem_cons_self, R.bind, ih]
    cases hg : g x with
    | none => simp [List.filterMap_cons, hg]
    | some y => simp [List.filterMap_cons, hg]
theorem lcF_val {ev : Env → Sto → R D} {al : Env → Sto → R Bool} {tg : Tg} {own : List Nat} {ρ ρ' : Env} {x y : D} {S : Sto} (hb : bindT tg x (wipe ρ own) = some ρ') (ha : al ρ' S = .ok true S) (he : ev ρ' S = .ok y S) (g : Option Nat) : lcF ev al tg own ρ g x S = .ok (some y) S := by
  unfold lcF
  rw [hb]
  simp only [ha, R.bind, he, if_true]
  cases g <;> simp [held, noExc]
theorem lcF_skip {ev : Env → Sto → R D} {al : Env → Sto → R Bool} {tg : Tg} {own : List Nat} {ρ ρ' : Env} {x : D} {S : Sto} (hb : bindT tg x (wipe ρ own) = some ρ') (ha : al ρ' S = .ok false S) (g : Option Nat) : lcF ev al tg own ρ g x S = .ok none S := by
  unfold lcF
  rw [hb]
  simp only [ha, R.bind]
  cases g <;> simp [held, noExc]
/-! calls -/
theorem call_dry {P : Prog} {k f : Nat} {ds : List D} {S R : Sto} {d : D} (fn : Fn) (hf : P.fns[f]? = some fn) (hl : ds.length = fn.ps.length) (h : evSs (P.ctx (run P k)) fn.body (ds.map some ++ List.replicate (fn.N.length - ds.length) none) S = .ok (.ret d) (S ++ R)) (hd : dry d = true) : run P (k + 1) f ds S = .ok d S := by
  simp only [run, hf, if_pos hl, h, fin]
  exact gc_dry hd
theorem call_dry0 {P : Prog} {k f : Nat} {ds : List D} {S : Sto} {d : D} (fn : Fn) (hf : P.fns[f]? = some fn) (hl : ds.length = fn.ps.length) (h : evSs (P.ctx (run P k)) fn.body (ds.map some ++ List.replicate (fn.N.length - ds.length) none) S = .ok (.ret d) S) (hd : dry d = true) : run P (k + 1) f ds S = .ok d S :=
  call_dry (R := []) fn hf hl (by simpa using h) hd
theorem call_lst {P : Prog} {k f : Nat} {ds : List D} {S : Sto} {xs : List D} (fn : Fn) (hf : P.fns[f]? = some fn) (hl : ds.length = fn.ps.length) (h : evSs (P.ctx (run P k)) fn.body (ds.map some ++ List.replicate (fn.N.length - ds.length) none) S = .ok (.ret (.ref S.length)) (S ++ [.lst xs])) (hd : dryL xs = true) (hz : frzL (S ++ [.lst xs]) S.length 9999 xs = some xs) : run P (k + 1) f ds S = .ok (.lst xs) S := by
  simp only [run, hf, if_pos hl, h, fin]
  exact gc_lst hd hz
theorem call_exc {P : Prog} {k f : Nat} {ds : List D} {S R : Sto} {C : Nat} {ρ : Env} (fn : Fn) (hf : P.fns[f]? = some fn) (hl : ds.length = fn.ps.length) (h : evSs (P.ctx (run P k)) fn.body (ds.map some ++ List.replicate (fn.N.length - ds.length) none) S = .exc C [] ρ (S ++ R)) : run P (k + 1) f ds S = .exc C [] S := by
  simp only [run, hf, if_pos hl, h, fin]
  exact gcX_dry
theorem call_exc0 {P : Prog} {k f : Nat} {ds : List D} {S : Sto} {C : Nat} {ρ : Env} (fn : Fn) (hf : P.fns[f]? = some fn) (hl : ds.length = fn.ps.length) (h : evSs (P.ctx (run P k)) fn.body (ds.map some ++ List.replicate (fn.N.length - ds.length) none) S = .exc C [] ρ S) : run P (k + 1) f ds S = .exc C [] S :=
  call_exc (R := []) fn hf hl (by simpa using h)
/-! statements -/
theorem seq_nx {Γ : Ctx} {s : Sm} {ss : List Sm} {ρ ρ' : Env} {S S' : Sto} {r : RS} (h : evS Γ s ρ S = .ok (.nx ρ') S') (h2 : evSs Γ ss ρ' S' = r) : evSs Γ (s :: ss) ρ S = r := by
  simp only [evSs, h, RS.seq, h2]
theorem seq_ret {Γ : Ctx} {s : Sm} {ss : List Sm} {ρ : Env} {S S' : Sto} {d : D} (h : evS Γ s ρ S = .ok (.ret d) S') : evSs Γ (s :: ss) ρ S = .ok (.ret d) S' := by
  simp only [evSs, h, RS.seq]
theorem seq_exc {Γ : Ctx} {s : Sm} {ss : List Sm} {ρ ρ' : Env} {S S' : Sto} {C : Nat} (h : evS Γ s ρ S = .exc C [] ρ' S') : evSs Γ (s :: ss) ρ S = .exc C [] ρ' S' := by
  simp only [evSs, h, RS.seq]
theorem s_asg {Γ : Ctx} {t : Tg} {e : Ex} {ρ ρ' : Env} {S S' : Sto} {d : D} (h : evE Γ e ρ S = .ok d S') (hb : bindT t d ρ = some ρ') : evS Γ (.asg t e) ρ S = .ok (.nx ρ') S' := by
  simp only [evS, h, R.go, hb]
theorem s_ret {Γ : Ctx} {e : Ex} {ρ : Env} {S S' : Sto} {d : D} (h : evE Γ e ρ S = .ok d S') : evS Γ (.ret e) ρ S = .ok (.ret d) S' := by
  simp only [evS, h, R.go]
theorem s_ex {Γ : Ctx} {e : Ex} {ρ : Env} {S S' : Sto} {d : D} (h : evE Γ e ρ S = .ok d S') : evS Γ (.ex e) ρ S = .ok (.nx ρ) S' := by
  simp only [evS, h, R.go]
theorem s_if_t {Γ : Ctx} {c : Ex} {a b : List Sm} {ρ : Env} {S S' : Sto} (h : evE Γ c ρ S = .ok (.bl true) S') : evS Γ (.ifs c a b) ρ S = evSs Γ a ρ S' := by
  simp only [evS, h, R.go]
theorem s_if_f {Γ : Ctx} {c : Ex} {a b : List Sm} {ρ : Env} {S S' : Sto} (h : evE Γ c ρ S = .ok (.bl false) S') : evS Γ (.ifs c a b) ρ S = evSs Γ b ρ S' := by
  simp only [evS, h, R.go]
theorem s_for {Γ : Ctx} {t : Tg} {it : Ex} {body : List Sm} {ρ : Env} {S S' : Sto} {p : List D × Option Nat} (h : evI Γ it ρ S = .ok p S') : evS Γ (.fors t it body) ρ S = forR p.2 (forF (fun ρ S => evSs Γ body ρ S) t) p.1 ρ S' := by
  simp only [evS, h, R.go]
theorem s_rai {Γ : Ctx} {C : Nat} {es : List Ex} {ρ : Env} {S S' : Sto} {z : Str} (h : evL Γ es ρ S = .ok [.str z] S') (hx : Γ.xf C = some none) : evS Γ (.rai C es) ρ S = .exc C [] ρ S' := by
  simp only [evS, h, R.go, hx]
/-! turns of a loop -/
theorem for_nil {g : Option Nat} {f : D → Env → Sto → RS} {ρ : Env} {S : Sto} : forR g f [] ρ S = .ok (.nx ρ) S := rfl
theorem for_nx {f : D → Env → Sto → RS} {x : D} {xs : List D} {ρ ρ' : Env} {S S' : Sto} (h : f x ρ S = .ok (.nx ρ') S') : forR none f (x :: xs) ρ S = forR none f xs ρ' S' := by
  simp only [forR, h, held, if_true]
theorem for_ret {g : Option Nat} {f : D → Env → Sto → RS} {x : D} {xs : List D} {ρ : Env} {S S' : Sto} {d : D} (h : f x ρ S = .ok (.ret d) S') : forR g f (x :: xs) ρ S = .ok (.ret d) S' := by
  simp only [forR, h]
theorem for_exc {g : Option Nat} {f : D → Env → Sto → RS} {x : D} {xs : List D} {ρ ρ' : Env} {S S' : Sto} {C : Nat} (h : f x ρ S = .exc C [] ρ' S') : forR g f (x :: xs) ρ S = .exc C [] ρ' S' := by
  simp only [forR, h]
theorem forF_eq {body : Env → Sto → RS} {t : Tg} {x : D} {ρ ρ' : Env} {S : Sto} (h : bindT t x ρ = some ρ') : forF body t x ρ S = body ρ' S := by
  simp only [forF, h]
/-! comprehensions over a plain list's image -/
theorem lc_map {α : Type} (ps : List α) (f h : α → D) {Γ : Ctx} {elt : Ex} {tg : Tg} {it : Ex} {own : List Nat} {ρ : Env} {S : Sto} {g : Option Nat} (hi : evI Γ it ρ S = .ok (ps.map f, g) S) (he : ∀ p ∈ ps, ∃ ρ', bindT tg (f p) (wipe ρ own) = some ρ' ∧ evE Γ elt ρ' S = .ok (h p) S) (hl : ps.length ≤ LIM) : evE Γ (.lc elt tg it [] own) ρ S = .ok (.lst (ps.map h)) S := by
  have key : ∀ qs : List α, (∀ p ∈ qs, ∃ ρ', bindT tg (f p) (wipe ρ own) = some ρ' ∧ evE Γ elt ρ' S = .ok (h p) S) → compR (lcF (fun ρ S => evE Γ elt ρ S) (fun ρ S => evAll Γ [] ρ S) tg own ρ g) (qs.map f) S = .ok (qs.map h) S := by
    intro qs
    induction qs with
    | nil => intro _; rfl
    | cons q qs ih =>
      intro hq
      obtain ⟨ρ', hb, hv⟩ := hq q List.mem_cons_self
      have e1 : lcF (fun ρ S => evE Γ elt ρ S) (fun ρ S => evAll Γ [] ρ S) tg own ρ g (f q) S = .ok (some (h q)) S := lcF_val hb (by simp only [evAll]) hv g
      simp only [List.map_cons, compR, e1, R.bind, ih fun p hp => hq p (List.mem_cons_of_mem _ hp)]
  simp only [evE, hi, R.bind, key ps he, List.length_map, if_pos hl]
theorem lc_fil {α : Type} (ps : List α) (f h : α → D) (c : α → Bool) {Γ : Ctx} {elt : Ex} {tg : Tg} {it : Ex} {cnd : List Ex} {own : List Nat} {ρ : Env} {S : Sto} {g : Option Nat} (hi : evI Γ it ρ S = .ok (ps.map f, g) S) (he : ∀ p ∈ ps, ∃ ρ', bindT tg (f p) (wipe ρ own) = some ρ' ∧ evAll Γ cnd ρ' S = .ok (c p) S ∧ (c p = true → evE Γ elt ρ' S = .ok (h p) S)) (hl : ps.length ≤ LIM) : evE Γ (.lc elt tg it cnd own) ρ S = .ok (.lst ((ps.filter c).map h)) S := by
  have key : ∀ qs : List α, (∀ p ∈ qs, ∃ ρ', bindT tg (f p) (wipe ρ own) = some ρ' ∧ evAll Γ cnd ρ' S = .ok (c p) S ∧ (c p = true → evE Γ elt ρ' S = .ok (h p) S)) → compR (lcF (fun ρ S => evE Γ elt ρ S) (fun ρ S => evAll Γ cnd ρ S) tg own ρ g) (qs.map f) S = .ok ((qs.filter c).map h) S := by
    intro qs
    induction qs with
    | nil => intro _; rfl
    | cons q qs ih =>
      intro hq
      obtain ⟨ρ', hb, ha, hv⟩ := hq q List.mem_cons_self
      have ih' := ih fun p hp => hq p (List.mem_cons_of_mem _ hp)
      cases hc : c q with
      | true =>
        have e1 : lcF (fun ρ S => evE Γ elt ρ S) (fun ρ S => evAll Γ cnd ρ S) tg own ρ g (f q) S = .ok (some (h q)) S := lcF_val hb (by rw [ha, hc]) (hv hc) g
        simp only [List.map_cons, compR, e1, R.bind, ih', List.filter_cons, hc, if_true]
      | false =>
        have e1 : lcF (fun ρ S => evE Γ elt ρ S) (fun ρ S => evAll Γ cnd ρ S) tg own ρ g (f q) S = .ok none S := lcF_skip hb (by rw [ha, hc]) g
        simp only [List.map_cons, compR, e1, R.bind, ih', List.filter_cons, hc]
        rfl
  have hl' : ((ps.filter c).map h).length ≤ LIM := by
    rw [List.length_map]; exact Nat.le_trans (List.length_filter_le _ _) hl
  simp only [evE, hi, R.bind, key ps he, if_pos hl']
theorem blsOf_map {α : Type} (c : α → Bool) : ∀ ps : List α, blsOf (ps.map fun p => .bl (c p)) = some (ps.map c)
  | [] => rfl
  | p :: ps => by simp [blsOf, blsOf_map c ps]
theorem intsOf_map {α : Type} (c : α → Int) : ∀ ps : List α, intsOf (ps.map fun p => .int (c p)) = some (ps.map c)
  | [] => rfl
  | p :: ps => by simp [intsOf, intsOf_map c ps]
theorem all_lc {α : Type} (ps : List α) (c : α → Bool) {Γ : Ctx} {e : Ex} {ρ : Env} {S : Sto} (h : evE Γ e ρ S = .ok (.lst (ps.map fun p => .bl (c p))) S) : evE Γ (.bi .all [e]) ρ S = .ok (.bl (ps.all c)) S := by
  simp only [evE, evL, h, R.bind, biD, bi1, allD, blsOf_map, Option.map_some, R.of, List.all_map, Function.id_comp]
theorem sum_lc {α : Type} (ps : List α) (c : α → Int) {Γ : Ctx} {e : Ex} {ρ : Env} {S : Sto} (h : evE Γ e ρ S = .ok (.lst (ps.map fun p => .int (c p))) S) : evE Γ (.bi .sum [e]) ρ S = .ok (.int (ps.map c).sum) S := by
  simp only [evE, evL, h, R.bind, biD, bi1, sumD, intsOf_map, Option.map_some, R.of]
theorem tup_lc {Γ : Ctx} {e : Ex} {ρ : Env} {S : Sto} {xs : List D} (h : evE Γ e ρ S = .ok (.lst xs) S) : evE Γ (.bi .tuple [e]) ρ S = .ok (.tup xs) S := by
  simp only [evE, evL, h, R.bind, biD, bi1, tupleD, R.of]
theorem zipD_map {α β : Type} (f : α → D) (g : β → D) : ∀ (xs : List α) (ys : List β), zipD (xs.map f) (ys.map g) = (xs.zip ys).map fun p => .tup [f p.1, g p.2]
  | [], _ => by simp [zipD]
  | _ :: _, [] => by simp [zipD]
  | x :: xs, y :: ys => by simp [zipD, zipD_map f g xs ys]
theorem rangeD_map (lo : Int) : ∀ n : Nat, rangeD lo n = (List.range n).map fun (i : Nat) => .int (lo + i)
  | 0 => rfl
  | n + 1 => by
    rw [rangeD, rangeD_map (lo + 1) n, List.range_succ_eq_map, List.map_cons, List.map_map]
    congr 1
    · simp
    · apply List.map_congr_left; intro i _; simp; omega
theorem enumD_map {α : Type} (f : α → D) : ∀ (n : Nat) (xs : List α), enumD n (xs.map f) = (xs.zipIdx n).map fun p => .tup [.int p.2, f p.1]
  | _, [] => rfl
  | n, x :: xs => by simp [enumD, enumD_map f (n + 1) xs]
/-! expressions -/
theorem e_var {Γ : Ctx} {i : Nat} {ρ : Env} {S : Sto} {d : D} (h : ρ.get i = some d) : evE Γ (.var i) ρ S = .ok d S := by
  simp only [evE, h, R.of]
theorem e_or_f {Γ : Ctx} {e e' : Ex} {es : List Ex} {ρ : Env} {S S' : Sto} {r : R D} (h : evE Γ e ρ S = .ok (.bl false) S') (h2 : evE Γ (.or (e' :: es)) ρ S' = r) : evE Γ (.or (e :: e' :: es)) ρ S = r := by
  simp only [evE, evOr, h, R.bind] at h2 ⊢; exact h2
theorem e_or_t {Γ : Ctx} {e e' : Ex} {es : List Ex} {ρ : Env} {S S' : Sto} (h : evE Γ e ρ S = .ok (.bl true) S') : evE Γ (.or (e :: e' :: es)) ρ S = .ok (.bl true) S' := by
  simp only [evE, evOr, h, R.bind]
theorem e_or_1 {Γ : Ctx} {e : Ex} {ρ : Env} {S : Sto} {r : R D} (h : evE Γ e ρ S = r) : evE Γ (.or [e]) ρ S = r := by
  simp only [evE, evOr, h]
theorem e_and_t {Γ : Ctx} {e e' : Ex} {es : List Ex} {ρ : Env} {S S' : Sto} {r : R D} (h : evE Γ e ρ S = .ok (.bl true) S') (h2 : evE Γ (.and (e' :: es)) ρ S' = r) : evE Γ (.and (e :: e' :: es)) ρ S = r := by
  simp only [evE, evAnd, h, R.bind] at h2 ⊢; exact h2
theorem e_and_f {Γ : Ctx} {e e' : Ex} {es : List Ex} {ρ : Env} {S S' : Sto} (h : evE Γ e ρ S = .ok (.bl false) S') : evE Γ (.and (e :: e' :: es)) ρ S = .ok (.bl false) S' := by
  simp only [evE, evAnd, h, R.bind]
theorem e_and_1 {Γ : Ctx} {e : Ex} {ρ : Env} {S : Sto} {r : R D} (h : evE Γ e ρ S = r) : evE Γ (.and [e]) ρ S = r := by
  simp only [evE, evAnd, h]
/-- two tests -/
theorem e_and2 {Γ : Ctx} {e e' : Ex} {ρ : Env} {S : Sto} {a b : Bool} (h : evE Γ e ρ S = .ok (.bl a) S) (h2 : a = true → evE Γ e' ρ S = .ok (.bl b) S) : evE Γ (.and [e, e']) ρ S = .ok (.bl (a && b)) S := by
  cases a with
  | true => exact e_and_t h (e_and_1 (by rw [h2 rfl]; rfl))
  | false => exact e_and_f h
theorem e_or2 {Γ : Ctx} {e e' : Ex} {ρ : Env} {S : Sto} {a b : Bool} (h : evE Γ e ρ S = .ok (.bl a) S) (h2 : a = false → evE Γ e' ρ S = .ok (.bl b) S) : evE Γ (.or [e, e']) ρ S = .ok (.bl (a || b)) S := by
  cases a with
  | false => exact e_or_f h (e_or_1 (by rw [h2 rfl]; rfl))
  | true => exact e_or_t h
theorem e_not {Γ : Ctx} {e : Ex} {ρ : Env} {S S' : Sto} {b : Bool} (h : evE Γ e ρ S = .ok (.bl b) S') : evE Γ (.not e) ρ S = .ok (.bl (!b)) S' := by
  simp only [evE, h, R.bind]
theorem l_nil {Γ : Ctx} {ρ : Env} {S : Sto} : evL Γ [] ρ S = .ok [] S := by simp only [evL]
theorem l_cons {Γ : Ctx} {e : Ex} {es : List Ex} {ρ : Env} {S S' S'' : Sto} {d : D} {ds : List D} (h : evE Γ e ρ S = .ok d S') (h2 : evL Γ es ρ S' = .ok ds S'') : evL Γ (e :: es) ρ S = .ok (d :: ds) S'' := by
  simp only [evL, h, R.bind, h2]
theorem e_call {Γ : Ctx} {f : Nat} {es : List Ex} {ρ : Env} {S S' : Sto} {ds : List D} {r : R D} (h : evL Γ es ρ S = .ok ds S') (h2 : Γ.F f ds S' = r) : evE Γ (.call f es) ρ S = r := by
  simp only [evE, h, R.bind, h2]
theorem e_bi1 {Γ : Ctx} {b : Bi} {e : Ex} {ρ : Env} {S S' : Sto} {d r : D} (h : evE Γ e ρ S = .ok d S') (h2 : bi1 b d S' = some r) : evE Γ (.bi b [e]) ρ S = .ok r S' := by
  simp only [evE, evL, h, R.bind, biD, h2, R.of]
theorem e_op {Γ : Ctx} {o : Operator} {a b : Ex} {ρ : Env} {S S' S'' : Sto} {x y r : D} (h : evE Γ a ρ S = .ok x S') (h2 : evE Γ b ρ S' = .ok y S'') (h3 : opD o x y = some r) : evE Γ (.op o a b) ρ S = .ok r S'' := by
  simp only [evE, h, R.bind, h2, h3, R.of]
theorem e_cmp {Γ : Ctx} {o : CmpOp} {a b : Ex} {ρ : Env} {S S' S'' : Sto} {x y : D} {c : Bool} (h : evE Γ a ρ S = .ok x S') (h2 : evE Γ b ρ S' = .ok y S'') (h3 : cmpD o x y S'' = some c) : evE Γ (.cmp o a b) ρ S = .ok (.bl c) S'' := by
  simp only [evE, h, R.bind, h2, h3]
theorem e_ix {Γ : Ctx} {a b : Ex} {ρ : Env} {S S' S'' : Sto} {x y r : D} (h : evE Γ a ρ S = .ok x S') (h2 : evE Γ b ρ S' = .ok y S'') (h3 : ixD x y S'' = some r) : evE Γ (.ix a b) ρ S = .ok r S'' := by
  simp only [evE, h, R.bind, h2, h3, R.of]
theorem e_tup {Γ : Ctx} {es : List Ex} {ρ : Env} {S S' : Sto} {ds : List D} (h : evL Γ es ρ S = .ok ds S') (h2 : ds.length ≤ LIM) : evE Γ (.tup es) ρ S = .ok (.tup ds) S' := by
  simp only [evE, h, R.bind, if_pos h2]
theorem e_lst {Γ : Ctx} {es : List Ex} {ρ : Env} {S S' : Sto} {ds : List D} (h : evL Γ es ρ S = .ok ds S') (h2 : ds.length ≤ LIM) : evE Γ (.lst es) ρ S = .ok (.lst ds) S' := by
  simp only [evE, h, R.bind, if_pos h2]
theorem e_ite_t {Γ : Ctx} {c a b : Ex} {ρ : Env} {S S' : Sto} {r : R D} (h : evE Γ c ρ S = .ok (.bl true) S') (h2 : evE Γ a ρ S' = r) : evE Γ (.ite c a b) ρ S = r := by
  simp only [evE, h, R.bind, h2]
theorem e_ite_f {Γ : Ctx} {c a b : Ex} {ρ : Env} {S S' : Sto} {r : R D} (h : evE Γ c ρ S = .ok (.bl false) S') (h2 : evE Γ b ρ S' = r) : evE Γ (.ite c a b) ρ S = r := by
  simp only [evE, h, R.bind, h2]
theorem i_itv {Γ : Ctx} {e : Ex} {ρ : Env} {S S' : Sto} {d : D} {p : List D × Option Nat} (h : evE Γ e ρ S = .ok d S') (h2 : itemsOf d S' = some p) : evI Γ (.itv e) ρ S = .ok p S' := by
  simp only [evI, h, R.bind, h2, R.of]
theorem i_zp {Γ : Ctx} {a b : Ex} {ρ : Env} {S S' S'' : Sto} {x y : D} {p : List D × Option Nat} (h : evE Γ a ρ S = .ok x S') (h2 : evE Γ b ρ S' = .ok y S'') (h3 : zpD x y = some p) : evI Γ (.zp a b) ρ S = .ok p S'' := by
  simp only [evI, h, R.bind, h2, h3, R.of]
theorem i_enm {Γ : Ctx} {e : Ex} {ρ : Env} {S S' : Sto} {d : D} {p : List D × Option Nat} (h : evE Γ e ρ S = .ok d S') (h2 : enmD d S' = some p) : evI Γ (.enm e) ρ S = .ok p S' := by
  simp only [evI, h, R.bind, h2, R.of]
theorem i_rg1 {Γ : Ctx} {e : Ex} {ρ : Env} {S S' : Sto} {j : Int} (h : evE Γ e ρ S = .ok (.int j) S') (h2 : -SMALL ≤ j ∧ j ≤ SMALL) : evI Γ (.rg1 e) ρ S = .ok (rangeD 0 j.toNat, none) S' := by
  simp only [evI, h, R.bind, if_pos h2]
theorem i_rg2 {Γ : Ctx} {a b : Ex} {ρ : Env} {S S' S'' : Sto} {i j : Int} (h : evE Γ a ρ S = .ok (.int i) S') (h1 : evE Γ b ρ S' = .ok (.int j) S'') (h2 : -SMALL ≤ i ∧ i ≤ SMALL ∧ -SMALL ≤ j ∧ j ≤ SMALL) : evI Γ (.rg2 a b) ρ S = .ok (rangeD i (j - i).toNat, none) S'' := by
  simp only [evI, h, h1, R.bind, if_pos h2]
/-! slices -/
theorem cut_lo {α : Type} (xs : List α) (k : Nat) : cut xs (some (k : Int)) none = xs.drop k := by
  unfold cut
  rw [HT.sIx_nat, HT.sIx_none, List.take_of_length_le (by simp)]
  by_cases h : k ≤ xs.length
  · rw [Nat.min_eq_left h]
  · rw [Nat.min_eq_right (by omega), List.drop_length, List.drop_of_length_le (by omega)]
theorem cut_hi {α : Type} (xs : List α) (k : Nat) : cut xs none (some (k : Int)) = xs.take k := by
  unfold cut
  rw [HT.sIx_nat, HT.sIx_none, List.drop_zero, Nat.sub_zero]
  by_cases h : k ≤ xs.length
  · rw [Nat.min_eq_left h]
  · rw [Nat.min_eq_right (by omega), List.take_length, List.take_of_length_le (by omega)]
theorem cut_both {α : Type} (xs : List α) (j k : Nat) (h : j ≤ xs.length) : cut xs (some (j : Int)) (some (k : Int)) = (xs.drop j).take (k - j) := by
  unfold cut
  rw [HT.sIx_nat, HT.sIx_nat, Nat.min_eq_left h]
  by_cases h2 : k ≤ xs.length
  · rw [Nat.min_eq_left h2]
  · rw [Nat.min_eq_right (by omega), List.take_of_length_le (by simp), List.take_of_length_le (by simp; omega)]
theorem e_slH {Γ : Ctx} {a hi : Ex} {ρ : Env} {S S' S'' : Sto} {x r : D} {j : Int} (h : evE Γ a ρ S = .ok x S') (h2 : evE Γ hi ρ S' = .ok (.int j) S'') (h3 : slD x none (some j) S'' = some r) : evE Γ (.slH a hi) ρ S = .ok r S'' := by
  simp only [evE, h, R.bind, h2, h3, R.of]
theorem e_slL {Γ : Ctx} {a lo : Ex} {ρ : Env} {S S' S'' : Sto} {x r : D} {i : Int} (h : evE Γ a ρ S = .ok x S') (h2 : evE Γ lo ρ S' = .ok (.int i) S'') (h3 : slD x (some i) none S'' = some r) : evE Γ (.slL a lo) ρ S = .ok r S'' := by
  simp only [evE, h, R.bind, h2, h3, R.of]
theorem e_slB {Γ : Ctx} {a lo hi : Ex} {ρ : Env} {S S1 S2 S3 : Sto} {x r : D} {i j : Int} (h : evE Γ a ρ S = .ok x S1) (h2 : evE Γ lo ρ S1 = .ok (.int i) S2) (h3 : evE Γ hi ρ S2 = .ok (.int j) S3) (h4 : slD x (some i) (some j) S3 = some r) : evE Γ (.slB a lo hi) ρ S = .ok r S3 := by
  simp only [evE, h, R.bind, h2, h3, h4, R.of]
theorem e_app {Γ : Ctx} {o e : Ex} {ρ : Env} {S : Sto} {n : Nat} {xs : List D} {x : D} (h : evE Γ o ρ S = .ok (.ref n) S) (hx : evE Γ e ρ S = .ok x S) (hn : S.get n = some (.lst xs)) (hl : xs.length < LIM) : evE Γ (.app o e) ρ S = .ok .non (S.set n (.lst (xs ++ [x]))) := by
  simp only [evE, h, R.bind, isL, hn, if_true, hx, appD, if_pos hl]
theorem if_skip {Γ : Ctx} {c : Ex} {a ss : List Sm} {ρ : Env} {S : Sto} {b : Bool} {r : RS} (h : evE Γ c ρ S = .ok (.bl b) S) (hb : b = false) (h2 : evSs Γ ss ρ S = r) : evSs Γ (.ifs c a [] :: ss) ρ S = r := by
  subst hb
  exact seq_nx ((s_if_f h).trans (by simp only [evSs])) h2
theorem if_exc {Γ : Ctx} {c : Ex} {a a' ss : List Sm} {ρ ρ' : Env} {S S' : Sto} {b : Bool} {C : Nat} (h : evE Γ c ρ S = .ok (.bl b) S) (hb : b = true) (h2 : evSs Γ a ρ S = .exc C [] ρ' S') : evSs Γ (.ifs c a a' :: ss) ρ S = .exc C [] ρ' S' := by
  subst hb
  exact seq_exc ((s_if_t h).trans h2)
theorem if_ret {Γ : Ctx} {c : Ex} {a a' ss : List Sm} {ρ : Env} {S S' : Sto} {b : Bool} {d : D} (h : evE Γ c ρ S = .ok (.bl b) S) (hb : b = true) (h2 : evSs Γ a ρ S = .ok (.ret d) S') : evSs Γ (.ifs c a a' :: ss) ρ S = .ok (.ret d) S' := by
  subst hb
  exact seq_ret ((s_if_t h).trans h2)
end MP.Lb
end

section
set_option Elab.async false
set_option linter.all false
set_option maxRecDepth 100000
/-! MpDr: the draws that all laws share (plain). -/
namespace MP.Lb
open PySem MP
def nums (xs : List Int) : D := .lst (xs.map .int)
theorem dry_nums (xs : List Int) : dry (nums xs) = true := by
  unfold nums
  simp only [dry]
  induction xs with
  | nil => rfl
  | cons x r ih => simp only [List.map_cons, dryL, dry, ih]; rfl
abbrev atN (S : Sto) (ds : List Int) : Sto := S ++ [.lst (ds.map .int)]
theorem get_lst (S : Sto) (xs : List D) : Sto.get (S ++ [.lst xs]) S.length = some (.lst xs) := by
  simp [Sto.get]
theorem set_lst (S : Sto) (xs ys : List D) : (S ++ [O.lst xs]).set S.length (.lst ys) = S ++ [.lst ys] := by
  simp
def drawsFn : Fn := ⟨("_law_draws", none), ["script", "many", "draws", "seed", "cell", "number", "k"], ["script", "many"], [.asg (.nm 2) (.mut (.lst [])), .asg (.nm 3) (.con (.int 7)), .fors (.nm 4) (.itv (.slH (.var 0) (.con (.int 63)))) [.asg (.nm 5) (.bi .abs [.var 4]), .asg (.nm 3) (.op .Mod (.bi .int [.op .Add (.op .Add (.op .Mult (.var 3) (.con (.int 48271))) (.var 5)) (.con (.int 11))]) (.con (.int 2147483647))), .ifs (.cmp .GtE (.var 5) (.op .Pow (.con (.int 10)) (.con (.int 18)))) [.fors (.nm 6) (.rg1 (.con (.int 60))) [.ifs (.cmp .Gt (.var 5) (.con (.int 0))) [.ex (.app (.var 2) (.op .Mod (.bi .int [.var 5]) (.con (.int 1009)))), .asg (.nm 5) (.op .FloorDiv (.var 5) (.con (.int 1009)))] []]] [.ex (.app (.var 2) (.op .Mod (.op .FloorDiv (.bi .int [.op .Add (.op .Mult (.var 3) (.con (.int 16807))) (.con (.int 5))]) (.con (.int 3))) (.con (.int 65521))))]], .fors (.nm 6) (.rg1 (.var 1)) [.ifs (.cmp .Lt (.bi .len [.var 2]) (.var 1)) [.asg (.nm 3) (.op .Mod (.bi .int [.op .Add (.op .Add (.op .Mult (.var 3) (.con (.int 69621))) (.var 6)) (.con (.int 1))]) (.con (.int 2147483647))), .ex (.app (.var 2) (.op .Mod (.op .FloorDiv (.bi .int [.var 3]) (.con (.int 7))) (.con (.int 65521))))] []], .ret (.slH (.var 2) (.var 1))]⟩
def inR (ds : List Int) : Prop := ∀ d ∈ ds, 0 ≤ d ∧ d < 65521
theorem inR_app {ds : List Int} {d : Int} (h : inR ds) (h0 : 0 ≤ d) (h1 : d < 65521) : inR (ds ++ [d]) := fun x hx => by
  rcases List.mem_append.mp hx with h' | h'
  · exact h x h'
  · rw [List.mem_singleton.mp h']; exact ⟨h0, h1⟩
abbrev denv (sc mn : D) (x2 x3 x4 x5 x6 : Option D) : MP.Env := [some sc, some mn, x2, x3, x4, x5, x6]
abbrev dbodyK : List Sm := [.ifs (.cmp .Gt (.var 5) (.con (.int 0))) [.ex (.app (.var 2) (.op .Mod (.bi .int [.var 5]) (.con (.int 1009)))), .asg (.nm 5) (.op .FloorDiv (.var 5) (.con (.int 1009)))] []]
theorem dbodyK_ok (Γ : MP.Ctx) (S : Sto) (sc mn x3 x4 : D) (x6 : D) (ds : List Int) (z : Int) (hd : inR ds) (hl : ds.length ≤ 10000) : ∃ (ds' : List Int) (z' : Int), inR ds' ∧ ds'.length ≤ ds.length + 1 ∧ evSs Γ dbodyK (denv sc mn (some (.ref S.length)) (some x3) (some x4) (some (.int z)) (some x6)) (atN S ds) = .ok (.nx (denv sc mn (some (.ref S.length)) (some x3) (some x4) (some (.int z')) (some x6))) (atN S ds') := by
  by_cases h : 0 < z
  · refine ⟨ds ++ [z.fmod 1009], z.fdiv 1009, inR_app hd (Int.fmod_nonneg_of_pos _ (by omega)) (by have := Int.fmod_lt_of_pos z (b := 1009) (by omega); omega), by simp, ?_⟩
    refine seq_nx ((s_if_t (e_cmp (c := true) (x := .int z) (y := .int 0) rfl rfl (by simp [cmpD, ordD, h]))).trans (seq_nx (s_ex (e_app (n := S.length) (x := .int (z.fmod 1009)) rfl rfl (get_lst S _) (by simp [LIM]; omega))) ?_)) rfl
    rw [set_lst]
    refine (seq_nx (s_asg (d := .int (z.fdiv 1009)) rfl rfl) rfl).trans ?_
    simp [evSs, atN]
  · refine ⟨ds, z, hd, by omega, ?_⟩
    exact seq_nx ((s_if_f (e_cmp (c := false) (x := .int z) (y := .int 0) rfl rfl (by simp [cmpD, ordD, h]))).trans rfl) rfl
theorem dloopK (Γ : MP.Ctx) (S : Sto) (sc mn x3 x4 : D) : ∀ (is : List D) (x6 : Option D) (ds : List Int) (z : Int), inR ds → ds.length + is.length ≤ 10000 → ∃ (ds' : List Int) (x5' x6' : Option D), inR ds' ∧ ds'.length ≤ ds.length + is.length ∧ forR none (forF (fun ρ S => evSs Γ dbodyK ρ S) (.nm 6)) is (denv sc mn (some (.ref S.length)) (some x3) (some x4) (some (.int z)) x6) (atN S ds) = .ok (.nx (denv sc mn (some (.ref S.length)) (some x3) (some x4) x5' x6')) (atN S ds')
  | [], x6, ds, z, hd, _ => ⟨ds, _, _, hd, by simp, rfl⟩
  | i :: is, x6, ds, z, hd, hl => by
    obtain ⟨ds1, z1, h1, hl1, e⟩ := dbodyK_ok Γ S sc mn x3 x4 i ds z hd (by simp at hl; omega)
    obtain ⟨ds2, y5, y6, h2, hl2, e2⟩ := dloopK Γ S sc mn x3 x4 is (some i) ds1 z1 h1 (by simp at hl; omega)
    exact ⟨ds2, y5, y6, h2, by simp; omega, (for_nx ((forF_eq rfl).trans e)).trans e2⟩
abbrev dbodyD : List Sm := [.asg (.nm 5) (.bi .abs [.var 4]), .asg (.nm 3) (.op .Mod (.bi .int [.op .Add (.op .Add (.op .Mult (.var 3) (.con (.int 48271))) (.var 5)) (.con (.int 11))]) (.con (.int 2147483647))), .ifs (.cmp .GtE (.var 5) (.op .Pow (.con (.int 10)) (.con (.int 18)))) [.fors (.nm 6) (.rg1 (.con (.int 60))) dbodyK] [.ex (.app (.var 2) (.op .Mod (.op .FloorDiv (.bi .int [.op .Add (.op .Mult (.var 3) (.con (.int 16807))) (.con (.int 5))]) (.con (.int 3))) (.con (.int 65521))))]]
theorem dbodyD_ok (Γ : MP.Ctx) (S : Sto) (sc mn : D) (c sd : Int) (x5 x6 : Option D) (ds : List Int) (hd : inR ds) (hl : ds.length ≤ 9000) : ∃ (ds' : List Int) (sd' : Int) (x5' x6' : Option D), inR ds' ∧ ds'.length ≤ ds.length + 60 ∧ evSs Γ dbodyD (denv sc mn (some (.ref S.length)) (some (.int sd)) (some (.int c)) x5 x6) (atN S ds) = .ok (.nx (denv sc mn (some (.ref S.length)) (some (.int sd')) (some (.int c)) x5' x6')) (atN S ds') := by
  have h1 : evE Γ (.bi .abs [.var 4]) (denv sc mn (some (.ref S.length)) (some (.int sd)) (some (.int c)) x5 x6) (atN S ds) = .ok (.int (if c < 0 then -c else c)) (atN S ds) := rfl
  generalize (if c < 0 then -c else c) = z at h1
  have h2 : evE Γ (.op .Mod (.bi .int [.op .Add (.op .Add (.op .Mult (.var 3) (.con (.int 48271))) (.var 5)) (.con (.int 11))]) (.con (.int 2147483647))) (denv sc mn (some (.ref S.length)) (some (.int sd)) (some (.int c)) (some (.int z)) x6) (atN S ds) = .ok (.int ((sd * 48271 + z + 11).fmod 2147483647)) (atN S ds) :=
    e_op (x := .int (sd * 48271 + z + 11)) (e_bi1 (d := .int (sd * 48271 + z + 11)) (e_op (x := .int (sd * 48271 + z)) (e_op (x := .int (sd * 48271)) (e_op (x := .int sd) (y := .int 48271) rfl rfl (by simp only [opD]; rw [if_pos (Or.inr (by decide))])) rfl rfl) rfl rfl) rfl) rfl rfl
  generalize (sd * 48271 + z + 11).fmod 2147483647 = s1 at h2
  have h3 : evE Γ (.cmp .GtE (.var 5) (.op .Pow (.con (.int 10)) (.con (.int 18)))) (denv sc mn (some (.ref S.length)) (some (.int s1)) (some (.int c)) (some (.int z)) x6) (atN S ds) = .ok (.bl (decide ((1000000000000000000 : Int) ≤ z))) (atN S ds) :=
    e_cmp (x := .int z) (y := .int 1000000000000000000) rfl (e_op (x := .int 10) (y := .int 18) rfl rfl (by decide +kernel)) rfl
  by_cases hz : (1000000000000000000 : Int) ≤ z
  · rw [decide_eq_true hz] at h3
    obtain ⟨ds', y5, y6, a1, a2, e⟩ := dloopK Γ S sc mn (.int s1) (.int c) (rangeD 0 60) x6 ds z hd (by simp [rangeD_map]; omega)
    exact ⟨ds', s1, y5, y6, a1, by simpa [rangeD_map] using a2, seq_nx (s_asg h1 rfl) (seq_nx (s_asg h2 rfl) (seq_nx ((s_if_t h3).trans (seq_nx ((s_for (i_rg1 (j := 60) rfl (by decide))).trans e) rfl)) rfl))⟩
  · rw [decide_eq_false hz] at h3
    refine ⟨ds ++ [((s1 * 16807 + 5).fdiv 3).fmod 65521], s1, some (.int z), x6, inR_app hd (Int.fmod_nonneg_of_pos _ (by omega)) (Int.fmod_lt_of_pos _ (by omega)), by simp, seq_nx (s_asg h1 rfl) (seq_nx (s_asg h2 rfl) (seq_nx ((s_if_f h3).trans (seq_nx (s_ex (e_app (n := S.length) (x := .int (((s1 * 16807 + 5).fdiv 3).fmod 65521)) rfl ?_ (get_lst S _) (by simp [LIM]; omega))) ?_)) rfl))⟩
    · exact e_op (x := .int ((s1 * 16807 + 5).fdiv 3)) (e_op (x := .int (s1 * 16807 + 5)) (e_bi1 (d := .int (s1 * 16807 + 5)) (e_op (x := .int (s1 * 16807)) (e_op (x := .int s1) (y := .int 16807) rfl rfl (by simp only [opD]; rw [if_pos (Or.inr (by decide))])) rfl rfl) rfl) rfl rfl) rfl rfl
    · rw [set_lst]
      simp [evSs, atN]
theorem dloopD (Γ : MP.Ctx) (S : Sto) (sc mn : D) : ∀ (cs : List Int) (sd : Int) (x4 x5 x6 : Option D) (ds : List Int), inR ds → ds.length + 60 * cs.length ≤ 9000 → ∃ (ds' : List Int) (sd' : Int) (y4 y5 y6 : Option D), inR ds' ∧ ds'.length ≤ ds.length + 60 * cs.length ∧ forR none (forF (fun ρ S => evSs Γ dbodyD ρ S) (.nm 4)) (cs.map .int) (denv sc mn (some (.ref S.length)) (some (.int sd)) x4 x5 x6) (atN S ds) = .ok (.nx (denv sc mn (some (.ref S.length)) (some (.int sd')) y4 y5 y6)) (atN S ds')
  | [], sd, x4, x5, x6, ds, hd, _ => ⟨ds, sd, _, _, _, hd, by simp, rfl⟩
  | c :: cs, sd, x4, x5, x6, ds, hd, hl => by
    obtain ⟨ds1, s1, y5, y6, h1, hl1, e⟩ := dbodyD_ok Γ S sc mn c sd x5 x6 ds hd (by simp at hl; omega)
    obtain ⟨ds2, s2, z4, z5, z6, h2, hl2, e2⟩ := dloopD Γ S sc mn cs s1 (some (.int c)) y5 y6 ds1 h1 (by simp at hl; omega)
    exact ⟨ds2, s2, z4, z5, z6, h2, by simp; omega, (for_nx ((forF_eq rfl).trans e)).trans e2⟩
abbrev dbodyP : List Sm := [.ifs (.cmp .Lt (.bi .len [.var 2]) (.var 1)) [.asg (.nm 3) (.op .Mod (.bi .int [.op .Add (.op .Add (.op .Mult (.var 3) (.con (.int 69621))) (.var 6)) (.con (.int 1))]) (.con (.int 2147483647))), .ex (.app (.var 2) (.op .Mod (.op .FloorDiv (.bi .int [.var 3]) (.con (.int 7))) (.con (.int 65521))))] []]
theorem dbodyP_ok (Γ : MP.Ctx) (S : Sto) (sc : D) (many : Nat) (i sd : Int) (x4 x5 : Option D) (ds : List Int) (hd : inR ds) (hl : ds.length ≤ 9000) : ∃ (ds' : List Int) (sd' : Int), inR ds' ∧ ds'.length ≤ ds.length + 1 ∧ (ds'.length = ds.length + 1 ∨ many ≤ ds'.length) ∧ evSs Γ dbodyP (denv sc (.int many) (some (.ref S.length)) (some (.int sd)) x4 x5 (some (.int i))) (atN S ds) = .ok (.nx (denv sc (.int many) (some (.ref S.length)) (some (.int sd')) x4 x5 (some (.int i)))) (atN S ds') := by
  have h1 : evE Γ (.cmp .Lt (.bi .len [.var 2]) (.var 1)) (denv sc (.int many) (some (.ref S.length)) (some (.int sd)) x4 x5 (some (.int i))) (atN S ds) = .ok (.bl (decide ((ds.length : Int) < many))) (atN S ds) :=
    e_cmp (x := .int ds.length) (y := .int many) (e_bi1 (d := .ref S.length) rfl (by simp [bi1, lenD, get_lst])) rfl rfl
  by_cases h : (ds.length : Int) < many
  · rw [decide_eq_true h] at h1
    refine ⟨ds ++ [(((sd * 69621 + i + 1).fmod 2147483647).fdiv 7).fmod 65521], (sd * 69621 + i + 1).fmod 2147483647, inR_app hd (Int.fmod_nonneg_of_pos _ (by omega)) (Int.fmod_lt_of_pos _ (by omega)), by simp, Or.inl (by simp), seq_nx ((s_if_t h1).trans (seq_nx (s_asg (d := .int ((sd * 69621 + i + 1).fmod 2147483647)) ?_ rfl) (seq_nx (s_ex (e_app (xs := ds.map .int) (n := S.length) (x := .int ((((sd * 69621 + i + 1).fmod 2147483647).fdiv 7).fmod 65521)) rfl rfl (get_lst S _) (by simp [LIM]; omega))) ?_))) rfl⟩
    · exact e_op (x := .int (sd * 69621 + i + 1)) (e_bi1 (d := .int (sd * 69621 + i + 1)) (e_op (x := .int (sd * 69621 + i)) (e_op (x := .int (sd * 69621)) (e_op (x := .int sd) (y := .int 69621) rfl rfl (by simp only [opD]; rw [if_pos (Or.inr (by decide))])) rfl rfl) rfl rfl) rfl) rfl rfl
    · rw [set_lst]
      simp [evSs, atN]
  · rw [decide_eq_false h] at h1
    exact ⟨ds, sd, hd, by omega, Or.inr (by omega), seq_nx ((s_if_f h1).trans rfl) rfl⟩
theorem dloopP (Γ : MP.Ctx) (S : Sto) (sc : D) (many : Nat) (x4 x5 : Option D) : ∀ (is : List Int) (sd : Int) (x6 : Option D) (ds : List Int), inR ds → ds.length + is.length ≤ 9000 → ∃ (ds' : List Int) (sd' : Int) (y6 : Option D), inR ds' ∧ ds'.length ≤ ds.length + is.length ∧ (ds'.length = ds.length + is.length ∨ many ≤ ds'.length) ∧ forR none (forF (fun ρ S => evSs Γ dbodyP ρ S) (.nm 6)) (is.map .int) (denv sc (.int many) (some (.ref S.length)) (some (.int sd)) x4 x5 x6) (atN S ds) = .ok (.nx (denv sc (.int many) (some (.ref S.length)) (some (.int sd')) x4 x5 y6)) (atN S ds')
  | [], sd, x6, ds, hd, _ => ⟨ds, sd, _, hd, by simp, Or.inl (by simp), rfl⟩
  | i :: is, sd, x6, ds, hd, hl => by
    obtain ⟨ds1, s1, h1, hl1, ho, e⟩ := dbodyP_ok Γ S sc many i sd x4 x5 ds hd (by simp at hl; omega)
    obtain ⟨ds2, s2, z6, h2, hl2, ho2, e2⟩ := dloopP Γ S sc many x4 x5 is s1 (some (.int i)) ds1 h1 (by simp at hl; omega)
    refine ⟨ds2, s2, z6, h2, by simp; omega, ?_, (for_nx ((forF_eq rfl).trans e)).trans e2⟩
    simp only [List.length_cons]; omega
theorem draws_ok (P : Prog) (fi : Nat) (hf : P.fns[fi]? = some drawsFn) (many : Nat) (hm : many ≤ 2000) (k : Nat) (S : Sto) (ns : List Int) : ∃ ds : List Int, inR ds ∧ ds.length = many ∧ run P (k + 1) fi [.rol ns, .int many] S = .ok (nums ds) S := by
  obtain ⟨ds1, s1, y4, y5, y6, h1, hl1, e1⟩ := dloopD (P.ctx (run P k)) S (.rol ns) (.int many) (ns.take 63) 7 none none none [] (fun _ h => by cases h) (by simp; omega)
  obtain ⟨ds2, s2, z6, h2, hl2, ho, e2⟩ := dloopP (P.ctx (run P k)) S (.rol ns) many y4 y5 ((List.range many).map fun (i : Nat) => (i : Int)) s1 y6 ds1 h1 (by simp at hl1 ⊢; omega)
  have hlen : many ≤ ds2.length := by simp at ho; omega
  refine ⟨ds2.take many, fun x hx => h2 x (List.mem_of_mem_take hx), by simp; omega, ?_⟩
  have hit1 : evI (P.ctx (run P k)) (.itv (.slH (.var 0) (.con (.int 63)))) (denv (.rol ns) (.int many) (some (.ref S.length)) (some (.int 7)) none none none) (atN S []) = .ok ((ns.take 63).map .int, none) (atN S []) :=
    i_itv (d := .lst ((ns.take 63).map .int)) (e_slH (x := .rol ns) (e_var rfl) rfl (by
      have := cut_hi ns 63
      simp only [slD]
      rw [show ((63 : Nat) : Int) = 63 from rfl] at this
      rw [this])) rfl
  have hit2 : evI (P.ctx (run P k)) (.rg1 (.var 1)) (denv (.rol ns) (.int many) (some (.ref S.length)) (some (.int s1)) y4 y5 y6) (atN S ds1) = .ok (((List.range many).map fun (i : Nat) => (i : Int)).map .int, none) (atN S ds1) := by
    refine (i_rg1 (j := many) rfl (by simp only [SMALL]; omega)).trans ?_
    rw [rangeD_map, List.map_map]
    simp
  have hret : evE (P.ctx (run P k)) (.slH (.var 2) (.var 1)) (denv (.rol ns) (.int many) (some (.ref S.length)) (some (.int s2)) y4 y5 z6) (atN S ds2) = .ok (nums (ds2.take many)) (atN S ds2) :=
    e_slH (x := .ref S.length) (j := many) rfl rfl (by
      have := cut_hi (ds2.map D.int) many
      simp only [slD, get_lst]
      rw [this, ← List.map_take]; rfl)
  exact call_dry drawsFn hf rfl (seq_nx (s_asg (d := .ref S.length) (S' := atN S []) rfl rfl) (seq_nx (s_asg (d := .int 7) rfl rfl) (seq_nx ((s_for hit1).trans e1) (seq_nx ((s_for hit2).trans e2) (seq_ret (s_ret hret)))))) (dry_nums _)
end MP.Lb
end

section
set_option Elab.async false
set_option linter.all false
set_option maxRecDepth 100000
/-! MpFm: the program's forms, for whatever law (plain): names, faults of forms. -/
namespace MP.Fm
open PySem MP MP.Lb
def fIsInt : Fn := ⟨("is_integer", none), ["value"], ["value"], [.ret (.and [.isi (.var 0) .int, .not (.isi (.var 0) .bool)])]⟩
def fIsName : Fn := ⟨("is_name", none), ["value", "sign"], ["value"], [.ifs (.or [.not (.isi (.var 0) .str), .not (.chn .LtE .LtE (.con (.int 1)) (.bi .len [.var 0]) (.glo "MOST_NAME" (.int 8))), .cmp .NotIn (.ix (.var 0) (.con (.int 0))) (.glo "LETTERS" (.str "abcdefghijklmnopqrstuvwxyz"))]) [.ret (.con (.bl false))] [], .ret (.bi .all [.lc (.or [.cmp .In (.var 1) (.glo "LETTERS" (.str "abcdefghijklmnopqrstuvwxyz")), .cmp .In (.var 1) (.glo "FIGURES" (.str "0123456789"))]) (.nm 1) (.itv (.var 0)) [] [1]])]⟩
def fAreRows (iN : Nat) : Fn := ⟨("are_rows", none), ["value", "one", "other"], ["value"], [.ifs (.or [.not (.isi (.var 0) .tuple), .not (.bi .all [.lc (.and [.isi (.var 1) .tuple, .cmp .Eq (.bi .len [.var 1]) (.con (.int 2))]) (.nm 1) (.itv (.var 0)) [] [1]])]) [.ret (.con (.bl false))] [], .ifs (.not (.bi .all [.lc (.call iN [.ix (.var 1) (.con (.int 0))]) (.nm 1) (.itv (.var 0)) [] [1]])) [.ret (.con (.bl false))] [], .ret (.bi .all [.lc (.cmp .Lt (.ix (.var 1) (.con (.int 0))) (.ix (.var 2) (.con (.int 0)))) (.tp [.nm 1, .nm 2]) (.zp (.var 0) (.slL (.var 0) (.con (.int 1)))) [] [1, 2]])]⟩
def fFault (iI iN : Nat) : Fn := ⟨("form_fault", none), ["value", "last", "number", "one"], ["value"], [.ifs (.or [.not (.isi (.var 0) .tuple), .cmp .NotEq (.bi .len [.var 0]) (.con (.int 2)), .not (.call iI [.ix (.var 0) (.con (.int 0))]), .not (.isi (.ix (.var 0) (.con (.int 1))) .tuple)]) [.ret (.glo "FORM" (.tup [.str "form"]))] [], .asg (.nm 1) (.con (.str "")), .fors (.tp [.nm 2, .nm 3]) (.enm (.ix (.var 0) (.con (.int 1)))) [.ifs (.or [.not (.isi (.var 3) .tuple), .cmp .NotEq (.bi .len [.var 3]) (.con (.int 2)), .not (.call iN [.ix (.var 3) (.con (.int 0))]), .cmp .LtE (.ix (.var 3) (.con (.int 0))) (.var 1)]) [.ret (.tup [.con (.str "pair"), .var 2])] [], .ifs (.or [.not (.call iI [.ix (.var 3) (.con (.int 1))]), .cmp .Eq (.ix (.var 3) (.con (.int 1))) (.con (.int 0))]) [.ret (.tup [.con (.str "pair"), .var 2])] [], .asg (.nm 1) (.ix (.var 3) (.con (.int 0)))], .ret (.con .non)]⟩
def fMade : Fn := ⟨("made_form", none), ["constant", "factors", "name"], ["constant", "factors"], [.ret (.tup [.var 0, .bi .tuple [.lc (.tup [.var 2, .ix (.var 1) (.var 2)]) (.nm 2) (.itv (.bi .sorted [.var 1])) [.cmp .NotEq (.ix (.var 1) (.var 2)) (.con (.int 0))] [2]]])]⟩
def fPlusBy (iM : Nat) : Fn := ⟨("plus_by", none), ["form", "other", "factors", "name", "factor"], ["form", "other"], [.asg (.nm 2) (.mut (.bi .dict [.ix (.var 0) (.con (.int 1))])), .fors (.tp [.nm 3, .nm 4]) (.itv (.ix (.var 1) (.con (.int 1)))) [.asgS (.var 2) (.var 3) (.op .Add (.get2 (.var 2) (.var 3) (.con (.int 0))) (.var 4))], .ret (.call iM [.op .Add (.ix (.var 0) (.con (.int 0))) (.ix (.var 1) (.con (.int 0))), .var 2])]⟩
def fTimesBy : Fn := ⟨("times_by", none), ["number", "form", "name", "factor"], ["number", "form"], [.ifs (.cmp .Eq (.var 0) (.con (.int 0))) [.ret (.tup [.con (.int 0), .tup []])] [], .ret (.tup [.op .Mult (.var 0) (.ix (.var 1) (.con (.int 0))), .bi .tuple [.lc (.tup [.var 2, .op .Mult (.var 0) (.var 3)]) (.tp [.nm 2, .nm 3]) (.itv (.ix (.var 1) (.con (.int 1)))) [] [2, 3]]])]⟩
def fLack : Fn := ⟨("first_lack", none), ["form", "worths", "name", "_factor"], ["form", "worths"], [.fors (.tp [.nm 2, .nm 3]) (.itv (.ix (.var 0) (.con (.int 1)))) [.ifs (.cmp .NotIn (.var 2) (.var 1)) [.ret (.var 2)] []], .ret (.con .non)]⟩
def fWorthBy : Fn := ⟨("worth_by", none), ["form", "worths", "name", "factor"], ["form", "worths"], [.ret (.op .Add (.ix (.var 0) (.con (.int 0))) (.bi .sum [.lc (.op .Mult (.var 3) (.ix (.var 1) (.var 2))) (.tp [.nm 2, .nm 3]) (.itv (.ix (.var 0) (.con (.int 1)))) [] [2, 3]]))]⟩
def fWorthsOf (iI iR C : Nat) : Fn := ⟨("worths_of", none), ["value", "one"], ["value"], [.ifs (.or [.not (.call iR [.var 0]), .not (.bi .all [.lc (.call iI [.ix (.var 1) (.con (.int 1))]) (.nm 1) (.itv (.var 0)) [] [1]])]) [.rai C [.con (.str "not worths")]] [], .ret (.bi .dict [.var 0])]⟩
def fFormsOf (iR iF C : Nat) : Fn := ⟨("forms_of", none), ["value", "one"], ["value"], [.ifs (.or [.not (.call iR [.var 0]), .not (.bi .all [.lc (.cmp .Is (.call iF [.ix (.var 1) (.con (.int 1))]) (.con .non)) (.nm 1) (.itv (.var 0)) [] [1]])]) [.rai C [.con (.str "not forms by names")]] [], .ret (.bi .dict [.var 0])]⟩
def fPutBy (iP iT : Nat) : Fn := ⟨("put_by", none), ["form", "forms", "found", "name", "factor"], ["form", "forms"], [.asg (.nm 2) (.tup [.ix (.var 0) (.con (.int 0)), .tup []]), .fors (.tp [.nm 3, .nm 4]) (.itv (.ix (.var 0) (.con (.int 1)))) [.asg (.nm 2) (.call iP [.var 2, .call iT [.var 4, .get2 (.var 1) (.var 3) (.tup [.con (.int 0), .tup [.tup [.var 3, .con (.int 1)]]])]])], .ret (.var 2)]⟩
mutual
def dryS : D → Bool
  | .tup xs => dryLS xs
  | .lst xs => dryLS xs
  | .dic kvs => dryKS kvs
  | .dit _ => false
  | .ref _ => false
  | .str z => decide (z.length ≤ 1000)
  | _ => true
def dryLS : List D → Bool
  | [] => true
  | x :: xs => dryS x && dryLS xs
def dryKS : List (Ky × D) → Bool
  | [] => true
  | (_, d) :: r => dryS d && dryKS r
end
mutual
theorem dryS_dry : ∀ {d : D}, dryS d = true → dry d = true
  | .non, _ | .bl _, _ | .int _, _ | .str _, _ | .rol _, _ => rfl
  | .tup xs, h | .lst xs, h => dryLS_dry (d := xs) h
  | .dic kvs, h => dryKS_dry (d := kvs) h
  | .dit _, h | .ref _, h => by simp [dryS] at h
theorem dryLS_dry : ∀ {d : List D}, dryLS d = true → dryL d = true
  | [], _ => rfl
  | x :: xs, h => by
    simp only [dryLS, Bool.and_eq_true] at h
    simp only [dryL, dryS_dry h.1, dryLS_dry h.2, Bool.and_self]
theorem dryKS_dry : ∀ {d : List (Ky × D)}, dryKS d = true → dryK d = true
  | [], _ => rfl
  | (_, x) :: xs, h => by
    simp only [dryKS, Bool.and_eq_true] at h
    simp only [dryK, dryS_dry h.1, dryKS_dry h.2, Bool.and_self]
end
theorem dryLS_mem : ∀ {l : List D}, dryLS l = true → ∀ d ∈ l, dryS d = true
  | [], _, _, h => by cases h
  | x :: xs, h, d, hd => by
    simp only [dryLS, Bool.and_eq_true] at h
    rcases List.mem_cons.mp hd with e | e
    · rw [e]; exact h.1
    · exact dryLS_mem h.2 d e
theorem dryLS_of : ∀ {l : List D}, (∀ d ∈ l, dryS d = true) → dryLS l = true
  | [], _ => rfl
  | x :: xs, h => by
    simp only [dryLS, h x List.mem_cons_self, dryLS_of fun d hd => h d (List.mem_cons_of_mem _ hd), Bool.and_self]
/-- is_integer, is_name, form_fault of a program -/
class FB (P : Prog) (iI iN iF : outParam Nat) : Prop where
  hI : P.fns[iI]? = some fIsInt
  hN : P.fns[iN]? = some fIsName
  hF : P.fns[iF]? = some (fFault iI iN)
/-! ### more rules -/
section
variable {Γ : MP.Ctx}
theorem e_isi {e : Ex} {t : Ty} {ρ : MP.Env} {S S' : Sto} {d : D} {b : Bool} (h : evE Γ e ρ S = .ok d S') (hb : isTy d t = some b) : evE Γ (.isi e t) ρ S = .ok (.bl b) S' := by
  simp only [evE, h, R.bind, hb]
theorem e_chn_f {o p : CmpOp} {a b c : Ex} {ρ : MP.Env} {S S1 S2 : Sto} {x y : D} (h : evE Γ a ρ S = .ok x S1) (h2 : evE Γ b ρ S1 = .ok y S2) (hc : cmpD o x y S2 = some false) : evE Γ (.chn o p a b c) ρ S = .ok (.bl false) S2 := by
  simp only [evE, h, h2, R.bind, hc]
theorem e_chn_t {o p : CmpOp} {a b c : Ex} {ρ : MP.Env} {S S1 S2 S3 : Sto} {x y z : D} {r : Bool} (h : evE Γ a ρ S = .ok x S1) (h2 : evE Γ b ρ S1 = .ok y S2) (hc : cmpD o x y S2 = some true) (h3 : evE Γ c ρ S2 = .ok z S3) (hr : cmpD p y z S3 = some r) : evE Γ (.chn o p a b c) ρ S = .ok (.bl r) S3 := by
  simp only [evE, h, h2, R.bind, hc, h3, hr]
end
/-! ### integers, names -/
def isI : D → Bool
  | .int _ => true
  | _ => false
theorem r_int {P : Prog} {iI iN iF : Nat} [B : FB P iI iN iF] (k : Nat) (S : Sto) : ∀ {d : D}, dry d = true → run P (k + 1) iI [d] S = .ok (.bl (isI d)) S
  | .int _, _ | .bl _, _ | .str _, _ | .tup _, _ | .lst _, _ | .rol _, _ | .dic _, _ | .non, _ => call_dry0 fIsInt B.hI rfl rfl rfl
  | .ref _, h => by simp [dry] at h
  | .dit _, h => by simp [dry] at h
abbrev LETS : Str := "abcdefghijklmnopqrstuvwxyz"
abbrev FIGS : Str := "0123456789"
def sgnB (c : Nat) : Bool := decide (c ∈ LETS.cps.toList) || decide (c ∈ FIGS.cps.toList)
def headB : List Nat → Bool
  | c :: _ => decide (c ∈ LETS.cps.toList)
  | [] => false
def nameB (z : Str) : Bool := (decide (1 ≤ z.length) && decide (z.length ≤ 8)) && (headB z.cps.toList && z.cps.toList.all sgnB)
def nmD : D → Bool
  | .str z => nameB z
  | _ => false
theorem len_str (z : Str) : z.length = z.cps.toList.length := by
  show z.cps.size = _
  simp
theorem nameB_cons {z : Str} (h : nameB z = true) : ∃ c r, z.cps.toList = c :: r := by
  unfold nameB headB at h
  cases e : z.cps.toList with
  | nil => rw [e] at h; simp at h
  | cons c r => exact ⟨c, r, rfl⟩
theorem name_str {P : Prog} {iI iN iF : Nat} [B : FB P iI iN iF] (k : Nat) (S : Sto) (z : Str) (hz : z.length ≤ 1000) : run P (k + 1) iN [.str z] S = .ok (.bl (nameB z)) S := by
  have hlen : ∀ (ρ : MP.Env), ρ.get 0 = some (.str z) → evE (P.ctx (run P k)) (.bi .len [.var 0]) ρ S = .ok (.int z.length) S := fun ρ h => e_bi1 (e_var h) (by
    simp only [bi1, lenD]
    rw [if_pos (Nat.le_trans hz (by decide))])
  have h1 : evE (P.ctx (run P k)) (.not (.isi (.var 0) .str)) [some (.str z), none] S = .ok (.bl false) S := rfl
  have h2 : evE (P.ctx (run P k)) (.not (.chn .LtE .LtE (.con (.int 1)) (.bi .len [.var 0]) (.glo "MOST_NAME" (.int 8)))) [some (.str z), none] S = .ok (.bl (!(decide (1 ≤ z.length) && decide (z.length ≤ 8)))) S := by
    refine e_not ?_
    by_cases hc : 1 ≤ z.length
    · rw [decide_eq_true hc, Bool.true_and]
      refine e_chn_t (x := .int 1) (y := .int z.length) (z := .int 8) rfl (hlen _ rfl) ?_ rfl ?_
      · simp only [cmpD, ordD]; congr 1; exact decide_eq_true (by omega)
      · simp only [cmpD, ordD]; congr 1; exact decide_eq_decide.mpr (by omega)
    · rw [decide_eq_false hc, Bool.false_and]
      refine e_chn_f (x := .int 1) (y := .int z.length) rfl (hlen _ rfl) ?_
      simp only [cmpD, ordD]; congr 1; exact decide_eq_false (by omega)
  cases hb : (decide (1 ≤ z.length) && decide (z.length ≤ 8)) with
  | false =>
    rw [hb] at h2
    have : nameB z = false := by simp [nameB, hb]
    rw [this]
    exact call_dry0 fIsName B.hN rfl (if_ret (b := true) (e_or_f h1 (e_or_t h2)) rfl (seq_ret (s_ret rfl))) rfl
  | true =>
    rw [hb] at h2
    simp only [Bool.and_eq_true, decide_eq_true_eq] at hb
    have hpos : 1 ≤ z.cps.toList.length := by rw [← len_str]; exact hb.1
    obtain ⟨c, r, hcr⟩ : ∃ c r, z.cps.toList = c :: r := by
      cases e : z.cps.toList with
      | nil => rw [e] at hpos; simp at hpos
      | cons c r => exact ⟨c, r, rfl⟩
    have h3 : evE (P.ctx (run P k)) (.cmp .NotIn (.ix (.var 0) (.con (.int 0))) (.glo "LETTERS" (.str LETS))) [some (.str z), none] S = .ok (.bl (!headB z.cps.toList)) S := by
      refine e_cmp (x := sgn c) (y := .str LETS) (e_ix (x := .str z) (y := .int 0) rfl rfl ?_) rfl ?_
      · simp only [ixD]
        rw [if_pos (Nat.le_trans hz (by decide)), hcr]
        show (L2.atI (c :: r) ((0 : Nat) : Int)).map sgn = _
        rw [L2.atI_nat (show (c :: r)[0]? = some c from rfl)]; rfl
      · rw [hcr]; rfl
    cases hh : headB z.cps.toList with
    | false =>
      rw [hh] at h3
      have : nameB z = false := by simp [nameB, hh]
      rw [this]
      exact call_dry0 fIsName B.hN rfl (if_ret (b := true) (e_or_f h1 (e_or_f h2 (e_or_1 h3))) rfl (seq_ret (s_ret rfl))) rfl
    | true =>
      rw [hh] at h3
      have : nameB z = z.cps.toList.all sgnB := by simp [nameB, hh, hb.1, hb.2]
      rw [this]
      have h4 := all_lc (Γ := P.ctx (run P k)) (ρ := [some (.str z), none]) (S := S) z.cps.toList sgnB (e := .lc (.or [.cmp .In (.var 1) (.glo "LETTERS" (.str LETS)), .cmp .In (.var 1) (.glo "FIGURES" (.str FIGS))]) (.nm 1) (.itv (.var 0)) [] [1]) (lc_map z.cps.toList sgn _ (i_itv (e_var rfl) rfl) (fun c _ => ⟨[some (.str z), some (sgn c)], rfl, e_or2 (a := decide (c ∈ LETS.cps.toList)) (b := decide (c ∈ FIGS.cps.toList)) (e_cmp (x := sgn c) (y := .str LETS) (e_var rfl) rfl rfl) fun _ => e_cmp (x := sgn c) (y := .str FIGS) (e_var rfl) rfl rfl⟩) (by rw [← len_str]; exact Nat.le_trans hz (by decide)))
      exact call_dry0 fIsName B.hN rfl (if_skip (b := false) (e_or_f h1 (e_or_f h2 (e_or_1 h3))) rfl (seq_ret (s_ret h4))) rfl
theorem r_name {P : Prog} {iI iN iF : Nat} [B : FB P iI iN iF] (k : Nat) (S : Sto) : ∀ {d : D}, dryS d = true → run P (k + 1) iN [d] S = .ok (.bl (nmD d)) S
  | .str z, h => name_str k S z (of_decide_eq_true h)
  | .int _, _ | .bl _, _ | .tup _, _ | .lst _, _ | .rol _, _ | .dic _, _ | .non, _ => call_dry0 fIsName B.hN rfl (if_ret (b := true) (e_or_t (e_not (b := false) rfl)) rfl (seq_ret (s_ret rfl))) rfl
  | .ref _, h => by simp [dryS] at h
  | .dit _, h => by simp [dryS] at h
/-! ### the faults -/
def itm3 (last : Str) : D → D → Option Str
  | .str n, .int i => if nameB n && (ltS last n && !(i == 0)) then some n else none
  | _, _ => none
def itm2 (last : Str) : List D → Option Str
  | [x, y] => itm3 last x y
  | _ => none
def itm (last : Str) : D → Option Str
  | .tup xs => itm2 last xs
  | _ => none
abbrev bodyF (iI iN : Nat) : List Sm := [.ifs (.or [.not (.isi (.var 3) .tuple), .cmp .NotEq (.bi .len [.var 3]) (.con (.int 2)), .not (.call iN [.ix (.var 3) (.con (.int 0))]), .cmp .LtE (.ix (.var 3) (.con (.int 0))) (.var 1)]) [.ret (.tup [.con (.str "pair"), .var 2])] [], .ifs (.or [.not (.call iI [.ix (.var 3) (.con (.int 1))]), .cmp .Eq (.ix (.var 3) (.con (.int 1))) (.con (.int 0))]) [.ret (.tup [.con (.str "pair"), .var 2])] [], .asg (.nm 1) (.ix (.var 3) (.con (.int 0)))]
abbrev envF (v : D) (x1 x2 x3 : Option D) : MP.Env := [some v, x1, x2, x3]
def istup : D → Bool
  | .tup _ => true
  | _ => false
theorem isTy_tup : ∀ {d : D}, dry d = true → isTy d .tuple = some (istup d)
  | .int _, _ | .bl _, _ | .str _, _ | .tup _, _ | .lst _, _ | .rol _, _ | .dic _, _ | .non, _ => rfl
  | .ref _, h => by simp [dry] at h
  | .dit _, h => by simp [dry] at h
theorem ne2 (xs : List D) (S : Sto) (h : xs.length ≠ 2) : cmpD .NotEq (.int xs.length) (.int 2) S = some true := by
  simp only [cmpD, shp, Bool.and_true, if_true, eqv, Option.some.injEq, Bool.not_eq_true']
  exact beq_false_of_ne (by omega)
theorem bodyF_ok {P : Prog} {iI iN iF : Nat} [B : FB P iI iN iF] (k : Nat) (S : Sto) (v : D) (last : Str) (j : Nat) {d : D} (h : dryS d = true) : evSs (P.ctx (run P (k + 1))) (bodyF iI iN) (envF v (some (.str last)) (some (.int j)) (some d)) S = (match itm last d with
    | some n => .ok (.nx (envF v (some (.str n)) (some (.int j)) (some d))) S
    | none => .ok (.ret (.tup [.str "pair", .int j])) S) := by
  have h1 : evE (P.ctx (run P (k + 1))) (.not (.isi (.var 3) .tuple)) (envF v (some (.str last)) (some (.int j)) (some d)) S = .ok (.bl (!istup d)) S := e_not (e_isi (e_var rfl) (isTy_tup (dryS_dry h)))
  cases hd : istup d with
  | false =>
    rw [hd] at h1
    have : itm last d = none := by cases d <;> first | rfl | (simp [istup] at hd)
    rw [this]
    exact if_ret (b := true) (e_or_t h1) rfl (seq_ret (s_ret rfl))
  | true =>
    rw [hd] at h1
    obtain ⟨xs, rfl⟩ : ∃ xs, d = .tup xs := by cases d <;> first | exact ⟨_, rfl⟩ | (simp [istup] at hd)
    by_cases hl : xs.length = 2
    · match xs, hl with
      | [x, v'], _ =>
      have hxv : dryS x = true ∧ dryS v' = true := by
        simp only [dryS, dryLS, Bool.and_eq_true] at h
        exact ⟨h.1, h.2.1⟩
      have h2 : evE (P.ctx (run P (k + 1))) (.cmp .NotEq (.bi .len [.var 3]) (.con (.int 2))) (envF v (some (.str last)) (some (.int j)) (some (.tup [x, v']))) S = .ok (.bl false) S := rfl
      have h3 : evE (P.ctx (run P (k + 1))) (.not (.call iN [.ix (.var 3) (.con (.int 0))])) (envF v (some (.str last)) (some (.int j)) (some (.tup [x, v']))) S = .ok (.bl (!nmD x)) S := e_not (e_call (l_cons (d := x) rfl l_nil) (r_name k S hxv.1))
      cases hn : nmD x with
      | false =>
        rw [hn] at h3
        have : itm last (.tup [x, v']) = none := by
          cases x with
          | str n => cases v' <;> first | rfl | (have hn : nameB n = false := hn; simp [itm, itm2, itm3, hn])
          | _ => rfl
        rw [this]
        exact if_ret (b := true) (e_or_f h1 (e_or_f h2 (e_or_t h3))) rfl (seq_ret (s_ret rfl))
      | true =>
        rw [hn] at h3
        obtain ⟨z, rfl⟩ : ∃ z, x = .str z := by cases x <;> first | exact ⟨_, rfl⟩ | (simp [nmD] at hn)
        have hn : nameB z = true := hn
        have h4 : evE (P.ctx (run P (k + 1))) (.cmp .LtE (.ix (.var 3) (.con (.int 0))) (.var 1)) (envF v (some (.str last)) (some (.int j)) (some (.tup [.str z, v']))) S = .ok (.bl (!ltS last z)) S := rfl
        cases hl : ltS last z with
        | false =>
          rw [hl] at h4
          have : itm last (.tup [.str z, v']) = none := by cases v' <;> simp [itm, itm2, itm3, hl]
          rw [this]
          exact if_ret (b := true) (e_or_f h1 (e_or_f h2 (e_or_f h3 (e_or_1 h4)))) rfl (seq_ret (s_ret rfl))
        | true =>
          rw [hl] at h4
          have h5 : evE (P.ctx (run P (k + 1))) (.not (.call iI [.ix (.var 3) (.con (.int 1))])) (envF v (some (.str last)) (some (.int j)) (some (.tup [.str z, v']))) S = .ok (.bl (!isI v')) S := e_not (e_call (l_cons (d := v') rfl l_nil) (r_int k S (dryS_dry hxv.2)))
          refine if_skip (b := false) (e_or_f h1 (e_or_f h2 (e_or_f h3 (e_or_1 h4)))) rfl ?_
          cases hi : isI v' with
          | false =>
            rw [hi] at h5
            have : itm last (.tup [.str z, v']) = none := by cases v' <;> first | rfl | (simp [isI] at hi)
            rw [this]
            exact if_ret (b := true) (e_or_t h5) rfl (seq_ret (s_ret rfl))
          | true =>
            rw [hi] at h5
            obtain ⟨i, rfl⟩ : ∃ i, v' = .int i := by cases v' <;> first | exact ⟨_, rfl⟩ | (simp [isI] at hi)
            have h6 : evE (P.ctx (run P (k + 1))) (.cmp .Eq (.ix (.var 3) (.con (.int 1))) (.con (.int 0))) (envF v (some (.str last)) (some (.int j)) (some (.tup [.str z, .int i]))) S = .ok (.bl (i == 0)) S := rfl
            cases hi : i == 0 with
            | true =>
              rw [hi] at h6
              have : itm last (.tup [.str z, .int i]) = none := by simp [itm, itm2, itm3, hi]
              rw [this]
              exact if_ret (b := true) (e_or_f h5 (e_or_1 h6)) rfl (seq_ret (s_ret rfl))
            | false =>
              rw [hi] at h6
              have : itm last (.tup [.str z, .int i]) = some z := by simp [itm, itm2, itm3, hi, hn, hl]
              rw [this]
              exact if_skip (b := false) (e_or_f h5 (e_or_1 h6)) rfl (seq_nx (s_asg (d := .str z) rfl rfl) rfl)
    · have : itm last (.tup xs) = none := by
        match xs, hl with
        | [], _ => rfl
        | [_], _ => rfl
        | [_, _], h => exact absurd rfl h
        | _ :: _ :: _ :: _, _ => rfl
      rw [this]
      exact if_ret (b := true) (e_or_f h1 (e_or_t (e_cmp (x := .int xs.length) (y := .int 2) (e_bi1 (d := .tup xs) (e_var rfl) rfl) rfl (ne2 xs S hl)))) rfl (seq_ret (s_ret rfl))
/-- the first pair at fault -/
def scan : Str → Nat → List D → Option Nat
  | _, _, [] => none
  | last, j, d :: ds => match itm last d with
    | some n => scan n (j + 1) ds
    | none => some j
theorem loopF {P : Prog} {iI iN iF : Nat} [B : FB P iI iN iF] (k : Nat) (S : Sto) (v : D) : ∀ (ds : List D) (j : Nat) (last : Str) (x2 x3 : Option D), (∀ d ∈ ds, dryS d = true) →
    (match scan last j ds with
      | none => ∃ y1 y2 y3, forR none (forF (fun ρ S => evSs (P.ctx (run P (k + 1))) (bodyF iI iN) ρ S) (.tp [.nm 2, .nm 3])) ((ds.zipIdx j).map fun q => .tup [.int q.2, q.1]) (envF v (some (.str last)) x2 x3) S = .ok (.nx (envF v y1 y2 y3)) S
      | some m => forR none (forF (fun ρ S => evSs (P.ctx (run P (k + 1))) (bodyF iI iN) ρ S) (.tp [.nm 2, .nm 3])) ((ds.zipIdx j).map fun q => .tup [.int q.2, q.1]) (envF v (some (.str last)) x2 x3) S = .ok (.ret (.tup [.str "pair", .int m])) S)
  | [], j, last, x2, x3, _ => ⟨_, _, _, rfl⟩
  | d :: ds, j, last, x2, x3, h => by
    have hb := bodyF_ok k S v last j (h d List.mem_cons_self) (P := P)
    simp only [scan]
    cases hi : itm last d with
    | none =>
      rw [hi] at hb
      simp only [List.zipIdx_cons, List.map_cons]
      exact for_ret ((forF_eq rfl).trans hb)
    | some n =>
      rw [hi] at hb
      simp only at hb ⊢
      have ih := loopF k S v ds (j + 1) n (some (.int j)) (some d) (fun x hx => h x (List.mem_cons_of_mem _ hx)) (P := P)
      simp only [List.zipIdx_cons, List.map_cons]
      cases hs : scan n (j + 1) ds with
      | none =>
        rw [hs] at ih
        obtain ⟨y1, y2, y3, e⟩ := ih
        exact ⟨y1, y2, y3, (for_nx ((forF_eq rfl).trans hb)).trans e⟩
      | some m =>
        rw [hs] at ih
        exact (for_nx ((forF_eq rfl).trans hb)).trans ih
abbrev FORM : D := .tup [.str "form"]
def fault : D → D
  | .tup [c, .tup ds] => if isI c = true then (match scan "" 0 ds with
    | none => .non
    | some m => .tup [.str "pair", .int m]) else FORM
  | _ => FORM
theorem r_fault {P : Prog} {iI iN iF : Nat} [B : FB P iI iN iF] (k : Nat) (S : Sto) {v : D} (h : dryS v = true) : run P (k + 2) iF [v] S = .ok (fault v) S := by
  have h1 : evE (P.ctx (run P (k + 1))) (.not (.isi (.var 0) .tuple)) (envF v none none none) S = .ok (.bl (!istup v)) S := e_not (e_isi (e_var rfl) (isTy_tup (dryS_dry h)))
  cases hv : istup v with
  | false =>
    rw [hv] at h1
    have : fault v = FORM := by cases v <;> first | rfl | (simp [istup] at hv)
    rw [this]
    exact call_dry0 (fFault iI iN) B.hF rfl (if_ret (b := true) (e_or_t h1) rfl (seq_ret (s_ret rfl))) rfl
  | true =>
    rw [hv] at h1
    obtain ⟨xs, rfl⟩ : ∃ xs, v = .tup xs := by cases v <;> first | exact ⟨_, rfl⟩ | (simp [istup] at hv)
    by_cases hl : xs.length = 2
    · match xs, hl with
      | [c, d], _ =>
      have hcd : dryS c = true ∧ dryS d = true := by
        simp only [dryS, dryLS, Bool.and_eq_true] at h
        exact ⟨h.1, h.2.1⟩
      have h2 : evE (P.ctx (run P (k + 1))) (.cmp .NotEq (.bi .len [.var 0]) (.con (.int 2))) (envF (.tup [c, d]) none none none) S = .ok (.bl false) S := rfl
      have h3 : evE (P.ctx (run P (k + 1))) (.not (.call iI [.ix (.var 0) (.con (.int 0))])) (envF (.tup [c, d]) none none none) S = .ok (.bl (!isI c)) S := e_not (e_call (l_cons (d := c) rfl l_nil) (r_int k S (dryS_dry hcd.1)))
      cases hi : isI c with
      | false =>
        rw [hi] at h3
        have : fault (.tup [c, d]) = FORM := by cases d <;> simp [fault, hi]
        rw [this]
        exact call_dry0 (fFault iI iN) B.hF rfl (if_ret (b := true) (e_or_f h1 (e_or_f h2 (e_or_t h3))) rfl (seq_ret (s_ret rfl))) rfl
      | true =>
        rw [hi] at h3
        have h4 : evE (P.ctx (run P (k + 1))) (.not (.isi (.ix (.var 0) (.con (.int 1))) .tuple)) (envF (.tup [c, d]) none none none) S = .ok (.bl (!istup d)) S := e_not (e_isi (d := d) rfl (isTy_tup (dryS_dry hcd.2)))
        cases hd : istup d with
        | false =>
          rw [hd] at h4
          have : fault (.tup [c, d]) = FORM := by cases d <;> first | rfl | (simp [istup] at hd)
          rw [this]
          exact call_dry0 (fFault iI iN) B.hF rfl (if_ret (b := true) (e_or_f h1 (e_or_f h2 (e_or_f h3 (e_or_1 h4)))) rfl (seq_ret (s_ret rfl))) rfl
        | true =>
          rw [hd] at h4
          obtain ⟨ds, rfl⟩ : ∃ ds, d = .tup ds := by cases d <;> first | exact ⟨_, rfl⟩ | (simp [istup] at hd)
          have hit : evI (P.ctx (run P (k + 1))) (.enm (.ix (.var 0) (.con (.int 1)))) (envF (.tup [c, .tup ds]) (some (.str "")) none none) S = .ok ((ds.zipIdx 0).map fun q => .tup [.int q.2, q.1], none) S := by
            refine i_enm (d := .tup ds) rfl ?_
            have := enumD_map (fun d : D => d) 0 ds
            simp only [List.map_id'] at this
            simp only [enmD, itemsOf, Option.map_some, this]
          have hlp := loopF k S (.tup [c, .tup ds]) ds 0 "" none none (dryLS_mem hcd.2) (P := P)
          have pre : ∀ res : RS, evSs (P.ctx (run P (k + 1))) [.asg (.nm 1) (.con (.str "")), .fors (.tp [.nm 2, .nm 3]) (.enm (.ix (.var 0) (.con (.int 1)))) (bodyF iI iN), .ret (.con .non)] (envF (.tup [c, .tup ds]) none none none) S = res → evSs (P.ctx (run P (k + 1))) (fFault iI iN).body (envF (.tup [c, .tup ds]) none none none) S = res := fun res hres =>
            if_skip (b := false) (e_or_f h1 (e_or_f h2 (e_or_f h3 (e_or_1 h4)))) rfl hres
          cases hs : scan "" 0 ds with
          | none =>
            rw [hs] at hlp
            obtain ⟨y1, y2, y3, e⟩ := hlp
            have : fault (.tup [c, .tup ds]) = .non := by simp [fault, hi, hs]
            rw [this]
            exact call_dry0 (fFault iI iN) B.hF rfl (pre _ (seq_nx (s_asg (d := .str "") rfl rfl) (seq_nx ((s_for hit).trans e) (seq_ret (s_ret rfl))))) rfl
          | some m =>
            rw [hs] at hlp
            have : fault (.tup [c, .tup ds]) = .tup [.str "pair", .int m] := by simp [fault, hi, hs]
            rw [this]
            exact call_dry0 (fFault iI iN) B.hF rfl (pre _ (seq_nx (s_asg (d := .str "") rfl rfl) (seq_ret ((s_for hit).trans hlp)))) rfl
    · have : fault (.tup xs) = FORM := by
        match xs, hl with
        | [], _ => rfl
        | [_], _ => rfl
        | [_, _], h => exact absurd rfl h
        | _ :: y :: _ :: _, _ => cases y <;> rfl
      rw [this]
      exact call_dry0 (fFault iI iN) B.hF rfl (if_ret (b := true) (e_or_f h1 (e_or_t (e_cmp (x := .int xs.length) (y := .int 2) (e_bi1 (d := .tup xs) (e_var rfl) rfl) rfl (ne2 xs S hl)))) rfl (seq_ret (s_ret rfl))) rfl
end MP.Fm
end

section
set_option Elab.async false
set_option linter.all false
set_option maxRecDepth 100000
/-! MpFm2: forms over names NL as functions, for whatever law (plain): sums, products, rows, worths, forms put in. -/
namespace MP.Fm
open PySem MP MP.Lb
abbrev Γq (P : Prog) (k : Nat) : MP.Ctx := P.ctx (run P k)
/-- names in order -/
class NmL (NL : List Str) : Prop where
  pw : NL.Pairwise fun x y => ltS x y = true ∧ ltS y x = false
  irr : ∀ x ∈ NL, ltS x x = false
  emp : ∀ x ∈ NL, ltS "" x = true
  nm : ∀ x ∈ NL, nameB x = true
  len : NL.length ≤ 30
class FS (P : Prog) (iM iP iT : outParam Nat) : Prop where
  hM : P.fns[iM]? = some fMade
  hP : P.fns[iP]? = some (fPlusBy iM)
  hT : P.fns[iT]? = some fTimesBy
class FR (P : Prog) (iN iR : outParam Nat) : Prop where
  hR : P.fns[iR]? = some (fAreRows iN)
class FW (P : Prog) (iI iR iL iW iWs cW : outParam Nat) : Prop where
  hL : P.fns[iL]? = some fLack
  hW : P.fns[iW]? = some fWorthBy
  hWs : P.fns[iWs]? = some (fWorthsOf iI iR cW)
class FO (P : Prog) (iR iF iFo cF iP iT iPb : outParam Nat) : Prop where
  hFo : P.fns[iFo]? = some (fFormsOf iR iF cF)
  hPb : P.fns[iPb]? = some (fPutBy iP iT)
section
variable {NL : List Str} [N : NmL NL]
/-! ### dicts by names -/
theorem vget_cons (p : Ky × D) (r : List (Ky × D)) (k' : Ky) : vget (p :: r) k' = if p.1 = k' then some p.2 else vget r k' := by
  unfold vget
  rw [List.find?_cons]
  by_cases h : p.1 = k' <;> simp [h]
theorem vget_map (k k' : Ky) (v : D) : ∀ kvs : List (Ky × D), vget (kvs.map fun kv => if kv.1 = k then (kv.1, v) else kv) k' = if k' = k then (vget kvs k').map (fun _ => v) else vget kvs k'
  | [] => by simp [vget]
  | p :: r => by
    have ih := vget_map k k' v r
    rw [List.map_cons, vget_cons, vget_cons, ih]
    by_cases hp : p.1 = k <;> by_cases hk : k' = k <;> by_cases hq : p.1 = k' <;> simp_all
theorem vget_app (k k' : Ky) (v : D) : ∀ kvs : List (Ky × D), vget (kvs ++ [(k, v)]) k' = match vget kvs k' with
    | some x => some x
    | none => if k = k' then some v else none
  | [] => by rw [List.nil_append, vget_cons]; rfl
  | p :: r => by
    rw [List.cons_append, vget_cons, vget_cons, vget_app k k' v r]
    by_cases hq : p.1 = k'
    · simp [hq]
    · simp [hq]
theorem vget_none (k : Ky) : ∀ kvs : List (Ky × D), (kvs.any fun kv => decide (kv.1 = k)) = false → vget kvs k = none
  | [], _ => rfl
  | p :: r, h => by
    rw [List.any_cons, Bool.or_eq_false_iff] at h
    rw [vget_cons, if_neg (of_decide_eq_false h.1), vget_none k r h.2]
theorem vget_some (k : Ky) : ∀ kvs : List (Ky × D), (kvs.any fun kv => decide (kv.1 = k)) = true → ∃ x, vget kvs k = some x
  | [], h => by simp at h
  | p :: r, h => by
    rw [vget_cons]
    by_cases hp : p.1 = k
    · exact ⟨_, if_pos hp⟩
    · rw [if_neg hp]
      exact vget_some k r (by simpa [hp] using h)
theorem vget_vput (k k' : Ky) (v : D) (kvs : List (Ky × D)) : vget (vput kvs k v) k' = if k' = k then some v else vget kvs k' := by
  unfold vput
  by_cases h : (kvs.any fun kv => decide (kv.1 = k)) = true
  · rw [if_pos h, vget_map]
    by_cases hk : k' = k
    · obtain ⟨x, hx⟩ := vget_some k kvs h
      rw [if_pos hk, if_pos hk, hk, hx]; rfl
    · rw [if_neg hk, if_neg hk]
  · rw [if_neg h, vget_app]
    by_cases hk : k' = k
    · rw [if_pos hk, hk, vget_none k kvs (Bool.eq_false_iff.mpr h)]
      simp
    · rw [if_neg hk]
      cases vget kvs k' with
      | none => exact if_neg fun z => hk z.symm
      | some x => rfl
def upd1 (f : Str → Int) (n : Str) (v : Int) : Str → Int := fun m => if m = n then v else f m
/-- the dict tells f -/
structure Dic (NL : List Str) (kvs : List (Ky × D)) (ns : List Str) (f : Str → Int) : Prop where
  keys : kvs.map (·.1) = ns.map .inr
  nd : ns.Nodup
  sub : ∀ n ∈ ns, n ∈ NL
  get : ∀ n ∈ NL, vget kvs (.inr n) = if n ∈ ns then some (.int (f n)) else none
  out : ∀ n ∈ NL, n ∉ ns → f n = 0
theorem Dic.nil : Dic NL [] [] (fun _ => 0) := ⟨rfl, List.nodup_nil, (fun _ h => by cases h), (fun n _ => by simp [vget]), fun _ _ _ => rfl⟩
open Classical in
theorem vput_keys (kvs : List (Ky × D)) (k : Ky) (v : D) : (vput kvs k v).map (·.1) = if k ∈ kvs.map (·.1) then kvs.map (·.1) else kvs.map (·.1) ++ [k] := by
  unfold vput
  split
  · rename_i h
    obtain ⟨p, hp, e⟩ := List.any_eq_true.mp h
    have e := of_decide_eq_true e
    rw [if_pos (List.mem_map.mpr ⟨p, hp, e⟩), List.map_map]
    apply List.map_congr_left
    intro q _
    show (if q.1 = k then (q.1, v) else q).1 = q.1
    split <;> rfl
  · rename_i h
    rw [if_neg, List.map_append]
    · rfl
    · intro hm
      obtain ⟨p, hp, e⟩ := List.mem_map.mp hm
      exact h (List.any_eq_true.mpr ⟨p, hp, decide_eq_true e⟩)
theorem inr_inj {α β : Type} : Function.Injective (Sum.inr : β → α ⊕ β) := fun _ _ h => Sum.inr.inj h
theorem Dic.put {kvs : List (Ky × D)} {ns : List Str} {f : Str → Int} (h : Dic NL kvs ns f) {n : Str} (hn : n ∈ NL) (v : Int) : Dic NL (vput kvs (.inr n) (.int v)) (if n ∈ ns then ns else ns ++ [n]) (upd1 f n v) := by
  have hm : (Sum.inr n : Ky) ∈ ns.map (Sum.inr : Str → Ky) ↔ n ∈ ns := ⟨fun z => by
    obtain ⟨m, hm, e⟩ := List.mem_map.mp z
    rw [← Sum.inr.inj e]; exact hm, fun z => List.mem_map.mpr ⟨n, z, rfl⟩⟩
  refine ⟨?_, ?_, ?_, fun m hmN => ?_, fun m hmN hmn => ?_⟩
  · rw [vput_keys, h.keys]
    by_cases hi : n ∈ ns
    · rw [if_pos (hm.mpr hi), if_pos hi]
    · rw [if_neg (fun z => hi (hm.mp z)), if_neg hi, List.map_append]; rfl
  · by_cases hi : n ∈ ns
    · rw [if_pos hi]; exact h.nd
    · rw [if_neg hi]
      exact List.nodup_append.mpr ⟨h.nd, by simp, fun a ha b hb => by rw [List.mem_singleton.mp hb]; exact fun z => hi (z ▸ ha)⟩
  · intro m hm'
    by_cases hi : n ∈ ns
    · rw [if_pos hi] at hm'; exact h.sub m hm'
    · rw [if_neg hi] at hm'
      rcases List.mem_append.mp hm' with z | z
      · exact h.sub m z
      · rw [List.mem_singleton.mp z]; exact hn
  · rw [vget_vput]
    by_cases e : m = n
    · subst e
      rw [if_pos rfl]
      have : m ∈ (if m ∈ ns then ns else ns ++ [m]) := by
        split
        · assumption
        · simp
      rw [if_pos this]
      simp [upd1]
    · rw [if_neg (fun z => e (Sum.inr.inj z)), h.get m hmN]
      have : (m ∈ (if n ∈ ns then ns else ns ++ [n])) ↔ m ∈ ns := by
        split
        · rfl
        · simp [e]
      simp only [this, upd1, if_neg e]
  · have e : m ≠ n := fun z => hmn (by subst z; split <;> simp_all)
    have : m ∉ ns := fun z => hmn (by split <;> simp_all)
    simp only [upd1, if_neg e]
    exact h.out m hmN this
/-! ### sorted names -/
theorem ins_filter : ∀ (l : List Str) (x : Str) (p : Str → Bool), l.Pairwise (fun x y => ltS x y = true ∧ ltS y x = false) → ltS x x = false → x ∈ l → p x = false → insS x (l.filter p) = l.filter fun n => decide (n = x) || p n
  | [], x, p, _, _, h, _ => by cases h
  | y :: r, x, p, hp, hxx, h, hx => by
    obtain ⟨h1, h2⟩ := List.pairwise_cons.mp hp
    by_cases e : y = x
    · subst e
      have hy : ∀ z ∈ r.filter p, ltS z y = false := fun z hz => (h1 z (List.mem_filter.mp hz).1).2
      have hr : r.filter (fun n => decide (n = y) || p n) = r.filter p := by
        apply List.filter_congr
        intro z hz
        have : z ≠ y := fun e => by
          have := (h1 z hz).1
          rw [e, hxx] at this; cases this
        simp [this]
      simp only [List.filter_cons, hx, decide_true, Bool.true_or, if_true, hr]
      cases hf : r.filter p with
      | nil => rfl
      | cons z zs =>
        have := hy z (by rw [hf]; exact List.mem_cons_self)
        simp [insS, this]
    · have hr : x ∈ r := by
        rcases List.mem_cons.mp h with z | z
        · exact absurd z.symm e
        · exact z
      have ih := ins_filter r x p h2 hxx hr hx
      have hlt := (h1 x hr).1
      by_cases hy : p y = true
      · simp only [List.filter_cons, hy, Bool.or_true, if_true, insS, hlt, ih]
      · simp only [List.filter_cons, hy, decide_eq_false e, Bool.or_self, Bool.false_eq_true, if_false, ih]
theorem sort_names : ∀ (ns : List Str), ns.Nodup → (∀ n ∈ ns, n ∈ NL) → sortS ns = NL.filter fun n => decide (n ∈ ns)
  | [], _, _ => by simp [sortS]
  | x :: r, hn, hs => by
    obtain ⟨h1, h2⟩ := List.nodup_cons.mp hn
    have ih := sort_names r h2 fun n h => hs n (List.mem_cons_of_mem _ h)
    have hx := hs x List.mem_cons_self
    rw [sortS, ih, ins_filter NL x _ N.pw (N.irr x hx) hx (by simp [h1])]
    apply List.filter_congr
    intro n _
    simp
theorem len_insS (x : Str) : ∀ l : List Str, (insS x l).length = l.length + 1
  | [] => rfl
  | y :: r => by
    unfold insS
    split
    · rw [List.length_cons, len_insS x r, List.length_cons]
    · rfl
theorem len_sortS : ∀ l : List Str, (sortS l).length = l.length
  | [] => rfl
  | x :: r => by rw [sortS, len_insS, len_sortS r, List.length_cons]
theorem kstrs_map : ∀ ns : List Str, kstrs (ns.map .inr) = some ns
  | [] => rfl
  | n :: ns => by simp [kstrs, kstrs_map ns]
/-! ### forms -/
def sup (NL : List Str) (f : Str → Int) : List Str := NL.filter fun n => !(f n == 0)
def itN (f : Str → Int) (n : Str) : D := .tup [.str n, .int (f n)]
def fD (NL : List Str) (c : Int) (f : Str → Int) : D := .tup [.int c, .tup ((sup NL f).map (itN f))]
theorem Dic.sorted {kvs : List (Ky × D)} {ns : List Str} {f : Str → Int} (h : Dic NL kvs ns f) : sortKD (kvs.map (·.1)) = some (.lst ((NL.filter fun n => decide (n ∈ ns)).map .str)) := by
  have hl : ns.length ≤ NL.length := by
    rw [← len_sortS ns, sort_names ns h.nd h.sub]
    exact List.length_filter_le _ _
  unfold sortKD
  rw [h.keys, if_pos (by rw [List.length_map]; exact Nat.lt_of_le_of_lt hl (Nat.lt_of_le_of_lt N.len (by decide))), kstrs_map]
  simp only [sort_names ns h.nd h.sub]
theorem Dic.sup {kvs : List (Ky × D)} {ns : List Str} {f : Str → Int} (h : Dic NL kvs ns f) : (NL.filter fun n => decide (n ∈ ns)).filter (fun n => !(f n == 0)) = sup NL f := by
  rw [List.filter_filter]
  apply List.filter_congr
  intro n hn
  by_cases hi : n ∈ ns
  · simp [hi]
  · simp [hi, h.out n hn hi]
/-- where a dict stands: a value, or in the store -/
def At (d : D) (S : Sto) (kvs : List (Ky × D)) : Prop := d = .dic kvs ∨ ∃ n, d = .ref n ∧ S.get n = some (.dic kvs)
theorem At.ix {d : D} {S : Sto} {kvs : List (Ky × D)} {ns : List Str} {f : Str → Int} (a : At d S kvs) (h : Dic NL kvs ns f) {n : Str} (hn : n ∈ ns) : ixD d (.str n) S = some (.int (f n)) := by
  have e := h.get n (h.sub n hn)
  rw [if_pos hn] at e
  rcases a with rfl | ⟨m, rfl, hg⟩
  · simpa only [ixD, D.ky] using e
  · simpa only [ixD, D.ky, hg] using e
theorem At.sort {d : D} {S : Sto} {kvs : List (Ky × D)} {ns : List Str} {f : Str → Int} (a : At d S kvs) (h : Dic NL kvs ns f) : bi1 .sorted d S = some (.lst ((NL.filter fun n => decide (n ∈ ns)).map .str)) := by
  rcases a with rfl | ⟨m, rfl, hg⟩
  · simpa only [bi1, sortD] using h.sorted
  · simpa only [bi1, sortD, hg] using h.sorted
theorem dry_items (f : Str → Int) (l : List Str) : dryL (l.map (itN f)) = true := by
  induction l with
  | nil => rfl
  | cons n l ih => simp only [List.map_cons, dryL, ih, itN, dry]; rfl
theorem dry_fD (c : Int) (f : Str → Int) : dry (fD NL c f) = true := by
  simp only [fD, dry, dryL, dry_items]; rfl
theorem NL_len (p : Str → Bool) : (NL.filter p).length ≤ 30 := Nat.le_trans (List.length_filter_le p NL) N.len
theorem made_eval (Γ : MP.Ctx) (S : Sto) (c : Int) {d : D} {kvs : List (Ky × D)} {ns : List Str} {f : Str → Int} (a : At d S kvs) (h : Dic NL kvs ns f) : evE Γ (.tup [.var 0, .bi .tuple [.lc (.tup [.var 2, .ix (.var 1) (.var 2)]) (.nm 2) (.itv (.bi .sorted [.var 1])) [.cmp .NotEq (.ix (.var 1) (.var 2)) (.con (.int 0))] [2]]]) [some (.int c), some d, none] S = .ok (fD NL c f) S := by
  have hc := lc_fil (Γ := Γ) (ρ := [some (.int c), some d, none]) (S := S) (NL.filter fun n => decide (n ∈ ns)) D.str (itN f) (fun n => !(f n == 0)) (elt := .tup [.var 2, .ix (.var 1) (.var 2)]) (tg := .nm 2) (it := .itv (.bi .sorted [.var 1])) (cnd := [.cmp .NotEq (.ix (.var 1) (.var 2)) (.con (.int 0))]) (own := [2]) (g := none) (i_itv (e_bi1 (d := d) (e_var rfl) (a.sort h)) rfl) (fun n hn => by
    have hn' : n ∈ ns := of_decide_eq_true (List.mem_filter.mp hn).2
    have hx : evE Γ (.ix (.var 1) (.var 2)) [some (.int c), some d, some (.str n)] S = .ok (.int (f n)) S := e_ix (x := d) (y := .str n) rfl rfl (a.ix h hn')
    refine ⟨_, rfl, ?_, fun _ => e_tup (l_cons (d := .str n) rfl (l_cons hx l_nil)) (by simp [LIM])⟩
    simp only [evAll]
    refine (congrArg (R.bind · _) (e_cmp (c := !(f n == 0)) hx rfl rfl)).trans ?_
    cases f n == 0 <;> rfl) (Nat.le_trans (NL_len _) (by decide))
  rw [h.sup] at hc
  exact e_tup (l_cons (d := .int c) rfl (l_cons (tup_lc hc) l_nil)) (by simp [LIM])
theorem Dic.congr {kvs : List (Ky × D)} {ns : List Str} {f g : Str → Int} (h : Dic NL kvs ns f) (e : ∀ n ∈ NL, f n = g n) : Dic NL kvs ns g :=
  ⟨h.keys, h.nd, h.sub, fun n hn => by rw [h.get n hn, e n hn], fun n hn hi => by rw [← e n hn]; exact h.out n hn hi⟩
theorem Dic.len {kvs : List (Ky × D)} {ns : List Str} {f : Str → Int} (h : Dic NL kvs ns f) : kvs.length ≤ 30 := by
  have e : kvs.length = ns.length := by
    have := congrArg List.length h.keys
    simpa only [List.length_map] using this
  rw [e, ← len_sortS ns, sort_names (NL := NL) ns h.nd h.sub]
  exact Nat.le_trans (List.length_filter_le _ _) N.len
theorem sup_congr {f g : Str → Int} (e : ∀ n ∈ NL, f n = g n) : sup NL f = sup NL g :=
  List.filter_congr fun n hn => by rw [e n hn]
theorem sup_mem {f : Str → Int} {n : Str} (h : n ∈ sup NL f) : n ∈ NL ∧ f n ≠ 0 := by
  have := List.mem_filter.mp h
  exact ⟨this.1, by simpa using this.2⟩
theorem mem_sup {f : Str → Int} {n : Str} (h : n ∈ NL) (h2 : f n ≠ 0) : n ∈ sup NL f := List.mem_filter.mpr ⟨h, by simpa using h2⟩
theorem fD_congr (c : Int) {f g : Str → Int} (e : ∀ n ∈ NL, f n = g n) : fD NL c f = fD NL c g := by
  unfold fD
  have : (sup NL g).map (itN f) = (sup NL g).map (itN g) := List.map_congr_left fun n hn => by
    unfold itN
    rw [e n (sup_mem hn).1]
  rw [sup_congr e, this]
theorem NL_nd : NL.Nodup := N.pw.imp_of_mem fun {a b} ha _ h e => by
  subst e
  rw [N.irr a ha] at h
  cases h.1
theorem sup_nd (f : Str → Int) : (sup NL f).Nodup := NL_nd.sublist List.filter_sublist
theorem Dic.fold (f : Str → Int) : ∀ (l : List Str) {kvs : List (Ky × D)} {ns : List Str} {g : Str → Int}, (∀ n ∈ l, n ∈ NL) → Dic NL kvs ns g → ∃ ns', Dic NL (merge kvs (l.map fun n => (.inr n, .int (f n)))) ns' (fun n => if n ∈ l then f n else g n)
  | [], _, ns, _, _, h => ⟨ns, h.congr fun n _ => by simp⟩
  | n :: r, kvs, ns, g, hl, h => by
    obtain ⟨ns', h'⟩ := Dic.fold f r (fun m hm => hl m (List.mem_cons_of_mem _ hm)) (h.put (hl n List.mem_cons_self) (f n))
    refine ⟨ns', h'.congr fun m _ => ?_⟩
    by_cases hm : m ∈ r
    · simp [hm]
    · by_cases e : m = n
      · subst e; simp [hm, upd1]
      · simp [hm, e, upd1]
theorem pairs_items (f : Str → Int) : ∀ l : List Str, pairsOf (l.map (itN f)) = some (l.map fun n => (.inr n, .int (f n)))
  | [] => rfl
  | n :: r => by simp [itN, pairsOf, D.ky, pairs_items f r]
theorem sup_len (f : Str → Int) : (sup NL f).length ≤ 30 := NL_len _
theorem dictD_fD (S : Sto) (f : Str → Int) : ∃ kvs ns, dictD (.tup ((sup NL f).map (itN f))) S = some (.dic kvs) ∧ Dic NL kvs ns f := by
  obtain ⟨ns, h⟩ := Dic.fold f (sup NL f) (fun n hn => (sup_mem hn).1) Dic.nil
  refine ⟨_, ns, ?_, h.congr fun n hn => ?_⟩
  · have hl : (sup NL f).length ≤ LIM := Nat.le_trans (sup_len f) (by decide)
    simp [dictD, pairs_items, hl]
  · by_cases hz : f n = 0
    · have : n ∉ sup NL f := fun z => (sup_mem z).2 hz
      simp [this, hz]
    · simp [mem_sup hn hz]
/-! ### the loops over pairs -/
theorem s_asgS {Γ : MP.Ctx} {o i e : Ex} {ρ : MP.Env} {S S1 S2 S3 S4 : Sto} {x y v : D} (h : evE Γ e ρ S = .ok v S1) (h2 : evE Γ o ρ S1 = .ok x S2) (h3 : evE Γ i ρ S2 = .ok y S3) (h4 : setD x y v S3 = some S4) : evS Γ (.asgS o i e) ρ S = .ok (.nx ρ) S4 := by
  simp only [evS, h, h2, h3, h4, R.go]
theorem e_get2 {Γ : MP.Ctx} {o k d : Ex} {ρ : MP.Env} {S : Sto} {x y z : D} {r : Option D} (h : evE Γ o ρ S = .ok x S) (hd : isD x S = true) (h2 : evE Γ k ρ S = .ok y S) (h3 : evE Γ d ρ S = .ok z S) (hg : get1D x y S = some r) : evE Γ (.get2 o k d) ρ S = .ok (r.getD z) S := by
  simp only [evE, h, h2, h3, R.bind, hd, if_true, hg]
theorem loop_put (S : Sto) (g h : Str → Int) (step : D → MP.Env → Sto → RS) (E : Option D → Option D → MP.Env) (hs : ∀ kvs ns f n x y, Dic NL kvs ns f → n ∈ NL → step (itN g n) (E x y) (S ++ [.dic kvs]) = .ok (.nx (E (some (.str n)) (some (.int (g n))))) (S ++ [.dic (vput kvs (.inr n) (.int (f n + h n)))])) : ∀ (l : List Str), l.Nodup → (∀ n ∈ l, n ∈ NL) → ∀ kvs ns f x y, Dic NL kvs ns f → ∃ x' y' kvs' ns', Dic NL kvs' ns' (fun n => if n ∈ l then f n + h n else f n) ∧ forR none step (l.map (itN g)) (E x y) (S ++ [.dic kvs]) = .ok (.nx (E x' y')) (S ++ [.dic kvs'])
  | [], _, _, kvs, ns, f, x, y, hd => ⟨x, y, kvs, ns, hd.congr fun n _ => by simp, rfl⟩
  | n :: r, hn, hl, kvs, ns, f, x, y, hd => by
    obtain ⟨h1, h2⟩ := List.nodup_cons.mp hn
    have hnN := hl n List.mem_cons_self
    obtain ⟨x', y', kvs', ns', hd', e⟩ := loop_put S g h step E hs r h2 (fun m hm => hl m (List.mem_cons_of_mem _ hm)) _ _ _ (some (.str n)) (some (.int (g n))) (hd.put hnN (f n + h n))
    refine ⟨x', y', kvs', ns', hd'.congr fun m _ => ?_, (for_nx (hs kvs ns f n x y hd hnN)).trans e⟩
    by_cases e : m = n
    · subst e; simp [h1, upd1]
    · simp [e, upd1]
theorem get_top (S : Sto) (kvs : List (Ky × D)) : Sto.get (S ++ [.dic kvs]) S.length = some (.dic kvs) := by
  simp [Sto.get]
theorem set_top (S : Sto) (kvs kvs' : List (Ky × D)) : (S ++ [O.dic kvs]).set S.length (.dic kvs') = S ++ [.dic kvs'] := by
  simp
theorem get_old {kvs : List (Ky × D)} {ns : List Str} {f : Str → Int} (h : Dic NL kvs ns f) {n : Str} (hn : n ∈ NL) : (vget kvs (.inr n)).getD (.int 0) = .int (f n) := by
  rw [h.get n hn]
  by_cases hi : n ∈ ns
  · rw [if_pos hi]; rfl
  · rw [if_neg hi, h.out n hn hi]; rfl
theorem put_step {Γ : MP.Ctx} {S : Sto} {kvs : List (Ky × D)} {ns : List Str} {f : Str → Int} (h : Dic NL kvs ns f) {n : Str} (hn : n ∈ NL) {ρ : MP.Env} {a b : Nat} (ha : ρ.get a = some (.ref S.length)) (hb : ρ.get b = some (.str n)) {X : Ex} {v : Int} (hX : evE Γ X ρ (S ++ [.dic kvs]) = .ok (.int v) (S ++ [.dic kvs])) : evS Γ (.asgS (.var a) (.var b) (.op .Add (.get2 (.var a) (.var b) (.con (.int 0))) X)) ρ (S ++ [.dic kvs]) = .ok (.nx ρ) (S ++ [.dic (vput kvs (.inr n) (.int (f n + v)))]) := by
  have hg : evE Γ (.get2 (.var a) (.var b) (.con (.int 0))) ρ (S ++ [.dic kvs]) = .ok (.int (f n)) (S ++ [.dic kvs]) := by
    rw [← get_old h hn]
    refine e_get2 (x := .ref S.length) (y := .str n) (z := .int 0) (e_var ha) ?_ (e_var hb) rfl ?_
    · simp only [isD, get_top]
    · simp only [get1D, get_top, D.ky, Option.map_some]
  refine s_asgS (e_op hg hX rfl) (e_var ha) (e_var hb) ?_
  have hl : kvs.length < LIM := Nat.lt_of_le_of_lt h.len (by decide)
  simp only [setD, get_top, D.ky, if_pos hl, set_top]
theorem ix0 (Γ : MP.Ctx) {ρ : MP.Env} {i : Nat} (S : Sto) {c : Int} {f : Str → Int} (h : ρ.get i = some (fD NL c f)) : evE Γ (.ix (.var i) (.con (.int 0))) ρ S = .ok (.int c) S := e_ix (x := fD NL c f) (y := .int 0) (e_var h) rfl rfl
theorem ix1 (Γ : MP.Ctx) {ρ : MP.Env} {i : Nat} (S : Sto) {c : Int} {f : Str → Int} (h : ρ.get i = some (fD NL c f)) : evE Γ (.ix (.var i) (.con (.int 1))) ρ S = .ok (.tup ((sup NL f).map (itN f))) S := e_ix (x := fD NL c f) (y := .int 1) (e_var h) rfl rfl
theorem mut_dict {Γ : MP.Ctx} {e : Ex} {ρ : MP.Env} {S : Sto} {f : Str → Int} (h : evE Γ e ρ S = .ok (.tup ((sup NL f).map (itN f))) S) : ∃ kvs ns, Dic NL kvs ns f ∧ evE Γ (.mut (.bi .dict [e])) ρ S = .ok (.ref S.length) (S ++ [.dic kvs]) := by
  obtain ⟨kvs, ns, e1, e2⟩ := dictD_fD (NL := NL) S f
  refine ⟨kvs, ns, e2, ?_⟩
  have := e_bi1 (b := .dict) h e1
  show R.bind (evE Γ (.bi .dict [e]) ρ S) newO = _
  rw [this]; rfl
theorem sum_fun (f g : Str → Int) (m : Int) (n : Str) : (if n ∈ sup NL g then f n + m * g n else f n) = if n ∈ NL then f n + m * g n else f n := by
  by_cases h : n ∈ NL
  · by_cases hz : g n = 0
    · have : n ∉ sup NL g := fun z => (sup_mem z).2 hz
      simp [this, hz]
    · simp [mem_sup h hz, h]
  · have : n ∉ sup NL g := fun z => h (sup_mem z).1
    simp [this, h]
/-! ### forms have no fault -/
theorem scan_ok (f : Str → Int) : ∀ (l : List Str) (last : Str) (j : Nat), (last :: l).Pairwise (fun x y => ltS x y = true) → (∀ n ∈ l, nameB n = true ∧ f n ≠ 0) → scan last j (l.map (itN f)) = none
  | [], _, _, _, _ => rfl
  | n :: r, last, j, hp, hl => by
    obtain ⟨h1, h2⟩ := List.pairwise_cons.mp hp
    obtain ⟨g1, g2⟩ := hl n List.mem_cons_self
    have : itm last (itN f n) = some n := by
      simp [itm, itm2, itm3, itN, g1, h1 n List.mem_cons_self, g2]
    simp only [List.map_cons, scan, this]
    exact scan_ok f r n (j + 1) h2 fun m hm => hl m (List.mem_cons_of_mem _ hm)
theorem sup_pw (f : Str → Int) : (("" : Str) :: sup NL f).Pairwise (fun x y => ltS x y = true) := by
  refine List.pairwise_cons.mpr ⟨fun n hn => N.emp n (sup_mem hn).1, ?_⟩
  exact (N.pw.imp fun h => h.1).sublist List.filter_sublist
theorem fault_fD (c : Int) (f : Str → Int) : fault (fD NL c f) = .non := by
  have : scan "" 0 ((sup NL f).map (itN f)) = none := scan_ok f _ _ _ (sup_pw f) fun n hn => ⟨N.nm n (sup_mem hn).1, (sup_mem hn).2⟩
  simp [fault, fD, isI, this]
theorem name_short {n : Str} (h : nameB n = true) : n.length ≤ 1000 := by
  unfold nameB at h
  simp only [Bool.and_eq_true, decide_eq_true_eq] at h
  omega
theorem dryS_fD (c : Int) (f : Str → Int) : dryS (fD NL c f) = true := by
  have : dryLS ((sup NL f).map (itN f)) = true := dryLS_of fun d hd => by
    obtain ⟨n, hn, e⟩ := List.mem_map.mp hd
    rw [← e]
    simp only [itN, dryS, dryLS, decide_eq_true (name_short (N.nm n (sup_mem hn).1)), Bool.and_self]
  simp only [fD, dryS, dryLS, this, Bool.and_self]
theorem shpL_map {α : Type} (g : α → D) (n : Nat) : ∀ l : List α, (∀ a ∈ l, shp (g a) n = true) → shpL (l.map g) n = true
  | [], _ => rfl
  | a :: l, h => by rw [List.map_cons, shpL, h a List.mem_cons_self, shpL_map g n l fun b hb => h b (List.mem_cons_of_mem _ hb)]; rfl
theorem shp_fD (c : Int) (f : Str → Int) (n : Nat) : shp (fD NL c f) (n + 3) = true := by
  have : shpL ((sup NL f).map (itN f)) (n + 1) = true := shpL_map _ _ _ fun _ _ => rfl
  simp only [fD, shp, shpL, this, Bool.and_self]
/-! ### == of like things -/
mutual
theorem eqv_refl : ∀ (d : D) (n : Nat), shp d n = true → eqv d d = true
  | .non, _, _ => rfl
  | .bl b, _, _ => by simp [eqv]
  | .int i, _, _ => by simp [eqv]
  | .str x, _, _ => by simp [eqv]
  | .lst xs, n + 1, h => eqvL_refl xs n h
  | .tup xs, n + 1, h => eqvL_refl xs n h
  | .lst _, 0, h => by simp [shp] at h
  | .tup _, 0, h => by simp [shp] at h
  | .rol _, _, h => by simp [shp] at h
  | .dic _, _, h => by simp [shp] at h
  | .dit _, _, h => by simp [shp] at h
  | .ref _, _, h => by simp [shp] at h
theorem eqvL_refl : ∀ (d : List D) (n : Nat), shpL d n = true → eqvL d d = true
  | [], _, _ => rfl
  | x :: xs, n, h => by
    simp only [shpL, Bool.and_eq_true] at h
    simp only [eqvL, eqv_refl x n h.1, eqvL_refl xs n h.2]; rfl
end
theorem ne_self {d : D} {S : Sto} (h : shp d 60 = true) : cmpD .NotEq d d S = some false := by
  simp [cmpD, h, eqv_refl d 60 h]
theorem eq_self {d : D} {S : Sto} (h : shp d 60 = true) : cmpD .Eq d d S = some true := by
  simp [cmpD, h, eqv_refl d 60 h]
end
section
variable {NL : List Str} [N : NmL NL] {P : Prog} {iM iP iT : Nat} [Fs : FS P iM iP iT]
include Fs
theorem r_made (k : Nat) (S : Sto) (c : Int) {d : D} {kvs : List (Ky × D)} {ns : List Str} {f : Str → Int} (a : At d S kvs) (h : Dic NL kvs ns f) : run P (k + 1) iM [.int c, d] S = .ok (fD NL c f) S :=
  call_dry0 fMade Fs.hM rfl (seq_ret (s_ret (made_eval _ S c a h))) (dry_fD c f)
theorem r_plusby (k : Nat) (S : Sto) (c c' : Int) (f g : Str → Int) : run P (k + 2) iP [fD NL c f, fD NL c' g] S = .ok (fD NL (c + c') (fun n => f n + g n)) S := by
  obtain ⟨kvs, ns, hd, em⟩ := mut_dict (Γ := Γq P (k + 1)) (ix1 (Γq P (k + 1)) (ρ := [some (fD NL c f), some (fD NL c' g), none, none, none]) (i := 0) S rfl)
  obtain ⟨x', y', kvs', ns', hd', el⟩ := loop_put S g g (forF (fun ρ S => evSs (Γq P (k + 1)) [.asgS (.var 2) (.var 3) (.op .Add (.get2 (.var 2) (.var 3) (.con (.int 0))) (.var 4))] ρ S) (.tp [.nm 3, .nm 4])) (fun x y => [some (fD NL c f), some (fD NL c' g), some (.ref S.length), x, y]) (fun kvs ns f' n x y h hn => (forF_eq rfl).trans (seq_nx (put_step (v := g n) h hn rfl rfl (e_var rfl)) rfl)) (sup NL g) (sup_nd g) (fun n hn => (sup_mem hn).1) kvs ns f none none hd
  have hd2 : Dic NL kvs' ns' (fun n => f n + g n) := hd'.congr fun n hn => by
    have := sum_fun (NL := NL) f g 1 n
    simpa [hn] using this
  refine call_dry (R := [.dic kvs']) (fPlusBy iM) Fs.hP rfl (seq_nx (s_asg em rfl) (seq_nx ((s_for (i_itv (ix1 _ (i := 1) _ rfl) rfl)).trans el) (seq_ret (s_ret (e_call (l_cons (e_op (ix0 _ (i := 0) _ rfl) (ix0 _ (i := 1) _ rfl) rfl) (l_cons (e_var rfl) l_nil)) (r_made (P := P) k _ (c + c') (Or.inr ⟨S.length, rfl, get_top S kvs'⟩) hd2)))))) (dry_fD _ _)
theorem r_timesby (k : Nat) (S : Sto) (m : Int) (hm : -BIG < m ∧ m < BIG) (c : Int) (f : Str → Int) : run P (k + 1) iT [.int m, fD NL c f] S = .ok (fD NL (m * c) (fun n => m * f n)) S := by
  have hmul : ∀ v : Int, opD .Mult (.int m) (.int v) = some (.int (m * v)) := fun v => by simp only [opD]; rw [if_pos (Or.inl hm)]
  by_cases hz : m = 0
  · subst hz
    have e : fD NL (0 * c) (fun n => 0 * f n) = .tup [.int 0, .tup []] := by
      have : sup NL (fun n => 0 * f n) = [] := by simp [sup]
      unfold fD
      rw [this, Int.zero_mul]; rfl
    rw [e]
    exact call_dry0 fTimesBy Fs.hT rfl (if_ret (b := true) rfl rfl (seq_ret (s_ret rfl))) rfl
  · have e : sup NL (fun n => m * f n) = sup NL f := by
      unfold sup
      apply List.filter_congr
      intro n _
      by_cases h : f n = 0
      · simp [h]
      · have : m * f n ≠ 0 := Int.mul_ne_zero hz h
        show (!(m * f n == 0)) = !(f n == 0)
        rw [beq_false_of_ne this, beq_false_of_ne h]
    refine call_dry0 fTimesBy Fs.hT rfl (if_skip (b := m == 0) rfl (by simpa using hz) (seq_ret (s_ret (e_tup (l_cons (e_op (e_var rfl) (ix0 _ (i := 1) _ rfl) (hmul _)) (l_cons (tup_lc (lc_map (sup NL f) (itN f) (itN fun n => m * f n) (i_itv (ix1 _ (i := 1) _ rfl) rfl) (fun n hn => ⟨_, rfl, e_tup (l_cons (d := .str n) rfl (l_cons (e_op (e_var rfl) (e_var rfl) (hmul _)) l_nil)) (by simp [LIM])⟩) (Nat.le_trans (sup_len f) (by decide)))) l_nil)) (by simp [LIM]))))) ?_ |>.trans ?_
    · rw [← e]; exact dry_fD (m * c) fun n => m * f n
    · unfold fD; rw [e]
end
section
variable {NL : List Str} [N : NmL NL]
theorem ff_fD {P : Prog} {iI iN iF : Nat} [FB P iI iN iF] (k : Nat) (S : Sto) (c : Int) (f : Str → Int) : run P (k + 2) iF [fD NL c f] S = .ok .non S := (r_fault k S (dryS_fD c f)).trans (by rw [fault_fD])
end
section
variable {P : Prog} {iI iN iF iR : Nat} [Fb : FB P iI iN iF] [Fr : FR P iN iR]
/-! ### rows -/
def itV (v : Str → D) (n : Str) : D := .tup [.str n, v n]
def rowD (l : List Str) (v : Str → D) : D := .tup (l.map (itV v))
structure Row (l : List Str) (v : Str → D) : Prop where
  pw : l.Pairwise fun x y => ltS x y = true
  nm : ∀ n ∈ l, nameB n = true
  len : l.length ≤ 100
  dry : ∀ n ∈ l, dry (v n) = true
theorem all_true {α : Type} (l : List α) : (l.all fun _ => true) = true := by simp
theorem dryL_map {α : Type} (g : α → D) : ∀ l : List α, (∀ a ∈ l, dry (g a) = true) → dryL (l.map g) = true
  | [], _ => rfl
  | a :: l, h => by rw [List.map_cons, dryL, h a List.mem_cons_self, dryL_map g l fun b hb => h b (List.mem_cons_of_mem _ hb)]; rfl
theorem all_zip (l : List Str) (h : l.Pairwise fun x y => ltS x y = true) : ((l.zip (l.drop 1)).all fun p => ltS p.1 p.2) = true := by
  induction l with
  | nil => rfl
  | cons x r ih =>
    obtain ⟨h1, h2⟩ := List.pairwise_cons.mp h
    cases r with
    | nil => rfl
    | cons y r =>
      have := ih h2
      simp only [List.drop_succ_cons, List.drop_zero, List.zip_cons_cons, List.all_cons] at this ⊢
      rw [h1 y List.mem_cons_self, this]; rfl
abbrev envR (d : D) (x y : Option D) : MP.Env := [some d, x, y]
theorem rows_pre (Γ : MP.Ctx) (S : Sto) (l : List Str) (v : Str → D) (hl : l.length ≤ 100) (x y : Option D) : evE Γ (.or [.not (.isi (.var 0) .tuple), .not (.bi .all [.lc (.and [.isi (.var 1) .tuple, .cmp .Eq (.bi .len [.var 1]) (.con (.int 2))]) (.nm 1) (.itv (.var 0)) [] [1]])]) (envR (rowD l v) x y) S = .ok (.bl false) S := by
  refine e_or_f rfl (e_or_1 (e_not (b := true) ?_))
  have := all_lc (Γ := Γ) (ρ := envR (rowD l v) x y) (S := S) l (fun _ => true) (e := .lc (.and [.isi (.var 1) .tuple, .cmp .Eq (.bi .len [.var 1]) (.con (.int 2))]) (.nm 1) (.itv (.var 0)) [] [1]) (lc_map l (itV v) _ (i_itv (e_var rfl) rfl) (fun n hn => ⟨_, rfl, rfl⟩) (Nat.le_trans hl (by decide)))
  rwa [all_true] at this
include Fb in
theorem rows_names (k : Nat) (S : Sto) (l : List Str) (v : Str → D) (hn : ∀ n ∈ l, nameB n = true) (hl : l.length ≤ 100) (x y : Option D) : evE (Γq P (k + 1)) (.not (.bi .all [.lc (.call iN [.ix (.var 1) (.con (.int 0))]) (.nm 1) (.itv (.var 0)) [] [1]])) (envR (rowD l v) x y) S = .ok (.bl false) S := by
  refine e_not (b := true) ?_
  have := all_lc (Γ := Γq P (k + 1)) (ρ := envR (rowD l v) x y) (S := S) l (fun _ => true) (e := .lc (.call iN [.ix (.var 1) (.con (.int 0))]) (.nm 1) (.itv (.var 0)) [] [1]) (lc_map l (itV v) _ (i_itv (e_var rfl) rfl) (fun n hm => ⟨_, rfl, by
    have := r_name (P := P) k S (d := .str n) (decide_eq_true (name_short (hn n hm)))
    rw [nmD, hn n hm] at this
    exact e_call (l_cons (e_ix (x := itV v n) (y := .int 0) (r := .str n) (e_var rfl) rfl rfl) l_nil) this⟩) (Nat.le_trans hl (by decide)))
  rwa [all_true] at this
theorem zip_rows (l : List Str) (v : Str → D) (S : Sto) : zpD (rowD l v) (.tup ((l.map (itV v)).drop 1)) = some ((l.zip (l.drop 1)).map fun p => .tup [itV v p.1, itV v p.2], none) := by
  rw [← List.map_drop, ← zipD_map]; rfl
theorem rows_ord (Γ : MP.Ctx) (S : Sto) (l : List Str) (v : Str → D) (hp : l.Pairwise fun x y => ltS x y = true) (hl : l.length ≤ 100) (x y : Option D) : evE Γ (.bi .all [.lc (.cmp .Lt (.ix (.var 1) (.con (.int 0))) (.ix (.var 2) (.con (.int 0)))) (.tp [.nm 1, .nm 2]) (.zp (.var 0) (.slL (.var 0) (.con (.int 1)))) [] [1, 2]]) (envR (rowD l v) x y) S = .ok (.bl true) S := by
  have hz : evE Γ (.slL (.var 0) (.con (.int 1))) (envR (rowD l v) x y) S = .ok (.tup ((l.map (itV v)).drop 1)) S := e_slL (x := rowD l v) (i := 1) (e_var rfl) rfl (by
    show some (D.tup (cut (l.map (itV v)) (some ((1 : Nat) : Int)) none)) = _
    rw [cut_lo])
  have := all_lc (Γ := Γ) (ρ := envR (rowD l v) x y) (S := S) (l.zip (l.drop 1)) (fun p => ltS p.1 p.2) (e := .lc (.cmp .Lt (.ix (.var 1) (.con (.int 0))) (.ix (.var 2) (.con (.int 0)))) (.tp [.nm 1, .nm 2]) (.zp (.var 0) (.slL (.var 0) (.con (.int 1)))) [] [1, 2]) (lc_map (l.zip (l.drop 1)) _ _ (i_zp (e_var rfl) hz (zip_rows l v S)) (fun p hm => ⟨_, rfl, rfl⟩) (by
    rw [List.length_zip]
    exact Nat.le_trans (Nat.le_trans (Nat.min_le_left _ _) hl) (by decide)))
  rwa [all_zip l hp] at this
include Fb Fr in
theorem r_rows (k : Nat) (S : Sto) {l : List Str} {v : Str → D} (h : Row l v) : run P (k + 2) iR [rowD l v] S = .ok (.bl true) S :=
  call_dry0 (fAreRows iN) Fr.hR rfl (if_skip (rows_pre _ S l v h.len _ _) rfl (if_skip (rows_names (P := P) k S l v h.nm h.len _ _) rfl (seq_ret (s_ret (rows_ord _ S l v h.pw h.len _ _))))) rfl
/-! ### dicts of rows -/
def dicR (l : List Str) (v : Str → D) : List (Ky × D) := merge [] (l.map fun n => (.inr n, v n))
theorem vget_merge (v : Str → D) (m : Str) : ∀ (l : List Str) (kvs : List (Ky × D)), vget (merge kvs (l.map fun n => (.inr n, v n))) (.inr m) = if m ∈ l then some (v m) else vget kvs (.inr m)
  | [], kvs => by simp [merge]
  | n :: r, kvs => by
    have := vget_merge v m r (vput kvs (.inr n) (v n))
    rw [vget_vput] at this
    refine Eq.trans this ?_
    by_cases hm : m ∈ r
    · simp [hm]
    · by_cases e : m = n
      · subst e; simp [hm]
      · have e' : ¬ (Sum.inr m : Ky) = Sum.inr n := fun z => e (Sum.inr.inj z)
        simp [hm, e, e']
theorem vget_dicR (l : List Str) (v : Str → D) (m : Str) : vget (dicR l v) (.inr m) = if m ∈ l then some (v m) else none := by
  rw [dicR, vget_merge]; rfl
theorem dryK_vput (k : Ky) {v : D} (hv : dry v = true) : ∀ kvs : List (Ky × D), dryK kvs = true → dryK (vput kvs k v) = true := by
  have h1 : ∀ kvs : List (Ky × D), dryK kvs = true → dryK (kvs.map fun kv => if kv.1 = k then (kv.1, v) else kv) = true := by
    intro kvs
    induction kvs with
    | nil => intro _; rfl
    | cons p r ih =>
      intro h
      rw [dryK, Bool.and_eq_true] at h
      rw [List.map_cons]
      split <;> simp [dryK, hv, h.1, ih h.2]
  have h2 : ∀ kvs : List (Ky × D), dryK kvs = true → dryK (kvs ++ [(k, v)]) = true := by
    intro kvs
    induction kvs with
    | nil => intro _; simp [dryK, hv]
    | cons p r ih =>
      intro h
      rw [dryK, Bool.and_eq_true] at h
      simp [dryK, h.1, ih h.2]
  intro kvs h
  unfold vput
  split
  · exact h1 kvs h
  · exact h2 kvs h
theorem dryK_merge (v : Str → D) : ∀ (l : List Str) (kvs : List (Ky × D)), (∀ n ∈ l, dry (v n) = true) → dryK kvs = true → dryK (merge kvs (l.map fun n => (.inr n, v n))) = true
  | [], _, _, h => h
  | n :: r, kvs, hl, h => dryK_merge v r _ (fun m hm => hl m (List.mem_cons_of_mem _ hm)) (dryK_vput _ (hl n List.mem_cons_self) kvs h)
theorem dry_dicR {l : List Str} {v : Str → D} (h : ∀ n ∈ l, dry (v n) = true) : dry (.dic (dicR l v)) = true := dryK_merge v l [] h rfl
theorem pairs_rows (v : Str → D) : ∀ l : List Str, pairsOf (l.map (itV v)) = some (l.map fun n => (.inr n, v n))
  | [] => rfl
  | n :: r => by simp [itV, pairsOf, D.ky, pairs_rows v r]
theorem dictD_rows (l : List Str) (v : Str → D) (S : Sto) : dictD (rowD l v) S = some (.dic (dicR l v)) := by
  simp only [rowD, dictD, pairs_rows, Option.map_some]; rfl
end
section
variable {NL : List Str} [N : NmL NL]
/-! ### what is lacking -/
def lackD (l : List Str) : List Str → D
  | [] => .non
  | n :: r => if n ∈ l then lackD l r else .str n
theorem lack_loop (Γ : MP.Ctx) (S : Sto) (f : Str → Int) (c : Int) (l : List Str) (v : Str → D) : ∀ (ns : List Str) (x y : Option D),
    (match lackD l ns with
      | .str n => forR none (forF (fun ρ S => evSs Γ [.ifs (.cmp .NotIn (.var 2) (.var 1)) [.ret (.var 2)] []] ρ S) (.tp [.nm 2, .nm 3])) (ns.map (itN f)) [some (fD NL c f), some (.dic (dicR l v)), x, y] S = .ok (.ret (.str n)) S
      | _ => ∃ x' y', forR none (forF (fun ρ S => evSs Γ [.ifs (.cmp .NotIn (.var 2) (.var 1)) [.ret (.var 2)] []] ρ S) (.tp [.nm 2, .nm 3])) (ns.map (itN f)) [some (fD NL c f), some (.dic (dicR l v)), x, y] S = .ok (.nx [some (fD NL c f), some (.dic (dicR l v)), x', y']) S)
  | [], x, y => ⟨x, y, rfl⟩
  | n :: r, x, y => by
    have hc : evE Γ (.cmp .NotIn (.var 2) (.var 1)) [some (fD NL c f), some (.dic (dicR l v)), some (.str n), some (.int (f n))] S = .ok (.bl (!decide (n ∈ l))) S := by
      refine e_cmp (x := .str n) (y := .dic (dicR l v)) (e_var rfl) (e_var rfl) ?_
      simp only [cmpD, inD, D.ky, Option.map_some, vget_dicR]
      by_cases h : n ∈ l <;> simp [h]
    by_cases h : n ∈ l
    · have ih := lack_loop Γ S f c l v r (some (.str n)) (some (.int (f n)))
      rw [decide_eq_true h] at hc
      have hs : forF (fun ρ S => evSs Γ [.ifs (.cmp .NotIn (.var 2) (.var 1)) [.ret (.var 2)] []] ρ S) (.tp [.nm 2, .nm 3]) (itN f n) [some (fD NL c f), some (.dic (dicR l v)), x, y] S = .ok (.nx [some (fD NL c f), some (.dic (dicR l v)), some (.str n), some (.int (f n))]) S := (forF_eq rfl).trans (if_skip (b := false) hc rfl rfl)
      simp only [List.map_cons, for_nx hs, lackD, if_pos h]
      exact ih
    · rw [decide_eq_false h] at hc
      simp only [lackD, if_neg h, List.map_cons]
      exact for_ret ((forF_eq rfl).trans (if_ret (b := true) hc rfl (seq_ret (s_ret rfl))))
/-! ### worths -/
def sml (x : Int) : Prop := -BIG < x ∧ x < BIG
def val (NL : List Str) (c : Int) (f w : Str → Int) : Int := c + (NL.map fun n => f n * w n).sum
theorem sum_sup (f w : Str → Int) : ∀ l : List Str, ((l.filter fun n => !(f n == 0)).map fun n => f n * w n).sum = (l.map fun n => f n * w n).sum
  | [] => rfl
  | n :: r => by
    have := sum_sup f w r
    by_cases h : f n = 0
    · simp [h, this]
    · simp [h, this]
theorem hmul {x y : Int} (h : sml x ∨ sml y) : opD .Mult (.int x) (.int y) = some (.int (x * y)) := by
  simp only [opD]; exact if_pos h
theorem worth_eval (Γ : MP.Ctx) (S : Sto) (c : Int) (f w : Str → Int) (l : List Str) (X : Ex) (d : D) (hX : ∀ x y, evE Γ X [some (fD NL c f), some d, x, y] S = .ok (.dic (dicR l fun n => .int (w n))) S) (hl : ∀ n ∈ sup NL f, n ∈ l ∧ (sml (f n) ∨ sml (w n))) : evE Γ (.op .Add (.ix (.var 0) (.con (.int 0))) (.bi .sum [.lc (.op .Mult (.var 3) (.ix X (.var 2))) (.tp [.nm 2, .nm 3]) (.itv (.ix (.var 0) (.con (.int 1)))) [] [2, 3]])) [some (fD NL c f), some d, none, none] S = .ok (.int (val NL c f w)) S := by
  have h1 := sum_lc (Γ := Γ) (ρ := [some (fD NL c f), some d, none, none]) (S := S) (sup NL f) (fun n => f n * w n) (e := .lc (.op .Mult (.var 3) (.ix X (.var 2))) (.tp [.nm 2, .nm 3]) (.itv (.ix (.var 0) (.con (.int 1)))) [] [2, 3]) (lc_map (sup NL f) (itN f) _ (i_itv (ix1 _ (i := 0) _ rfl) rfl) (fun n hm => ⟨_, rfl, e_op (e_var rfl) (e_ix (x := .dic (dicR l fun n => .int (w n))) (y := .str n) (r := .int (w n)) (hX _ _) (e_var rfl) (by
    show vget (dicR l _) (.inr n) = _
    rw [vget_dicR, if_pos (hl n hm).1])) (hmul (hl n hm).2)⟩) (Nat.le_trans (sup_len f) (by decide)))
  rw [sup, sum_sup] at h1
  exact e_op (ix0 _ (i := 0) _ rfl) h1 rfl
theorem lackD_all (l : List Str) : ∀ ns : List Str, (∀ n ∈ ns, n ∈ l) → lackD l ns = .non
  | [], _ => rfl
  | n :: r, h => by rw [lackD, if_pos (h n List.mem_cons_self)]; exact lackD_all l r fun m hm => h m (List.mem_cons_of_mem _ hm)
/-! ### forms put in -/
def dlt (n : Str) : Str → Int := fun m => if m = n then 1 else 0
theorem filt1 (n : Str) : ∀ l : List Str, l.Nodup → n ∈ l → l.filter (fun m => decide (m = n)) = [n]
  | [], _, h => by cases h
  | m :: r, hn, h => by
    obtain ⟨h1, h2⟩ := List.nodup_cons.mp hn
    by_cases e : m = n
    · subst e
      have : r.filter (fun k => decide (k = m)) = [] := List.filter_eq_nil_iff.mpr fun a ha => by
        simp only [decide_eq_true_eq]
        intro e; subst e; exact h1 ha
      simp [this]
    · have hr : n ∈ r := by
        rcases List.mem_cons.mp h with z | z
        · exact absurd z.symm e
        · exact z
      simp [e, filt1 n r h2 hr]
theorem sup_dlt {n : Str} (hn : n ∈ NL) : sup NL (dlt n) = [n] := by
  unfold sup
  rw [← filt1 n NL NL_nd hn]
  apply List.filter_congr
  intro m _
  unfold dlt
  by_cases e : m = n <;> simp [e]
theorem fD_dlt : ∀ n ∈ NL, fD NL 0 (dlt n) = .tup [.int 0, .tup [.tup [.str n, .int 1]]] := fun n hn => by
  unfold fD
  rw [sup_dlt hn]
  simp [itN, dlt]
theorem fD_zero (c : Int) : fD NL c (fun _ => 0) = .tup [.int c, .tup []] := by
  have : sup NL (fun _ => 0) = [] := by simp [sup]
  unfold fD
  rw [this]; rfl
/-- what goes in for a name -/
def pc (l : List Str) (gc : Str → Int) (n : Str) : Int := if n ∈ l then gc n else 0
def pf (l : List Str) (gf : Str → Str → Int) (n : Str) : Str → Int := if n ∈ l then gf n else dlt n
def putC (NL : List Str) (c : Int) (f : Str → Int) (gc : Str → Int) : Int := c + (NL.map fun n => f n * gc n).sum
def putF (NL : List Str) (f : Str → Int) (gf : Str → Str → Int) : Str → Int := fun m => (NL.map fun n => f n * gf n m).sum
end
section
variable {NL : List Str} [N : NmL NL] {P : Prog} {iI iN iF iR iL iW iWs cW : Nat} [Fb : FB P iI iN iF] [Fr : FR P iN iR] [Fw : FW P iI iR iL iW iWs cW]
include Fb Fr Fw
theorem r_worthsof (k : Nat) (S : Sto) {l : List Str} {w : Str → Int} (h : Row l fun n => .int (w n)) : run P (k + 3) iWs [rowD l fun n => .int (w n)] S = .ok (.dic (dicR l fun n => .int (w n))) S := by
  have h1 : evE (Γq P (k + 2)) (.not (.call iR [.var 0])) [some (rowD l fun n => .int (w n)), none] S = .ok (.bl false) S := e_not (b := true) (e_call (l_cons (e_var rfl) l_nil) (r_rows (P := P) k S h))
  have h2 := all_lc (Γ := Γq P (k + 2)) (ρ := [some (rowD l fun n => .int (w n)), none]) (S := S) l (fun _ => true) (e := .lc (.call iI [.ix (.var 1) (.con (.int 1))]) (.nm 1) (.itv (.var 0)) [] [1]) (lc_map l (itV fun n => .int (w n)) _ (i_itv (e_var rfl) rfl) (fun n hm => ⟨_, rfl, e_call (l_cons (e_ix (x := itV (fun n => .int (w n)) n) (y := .int 1) (r := .int (w n)) (e_var rfl) rfl rfl) l_nil) (r_int (P := P) (k + 1) S (d := .int (w n)) rfl)⟩) (Nat.le_trans h.len (by decide)))
  rw [all_true] at h2
  exact call_dry0 (fWorthsOf iI iR cW) Fw.hWs rfl (if_skip (b := false) (e_or_f h1 (e_or_1 (e_not h2))) rfl (seq_ret (s_ret (e_bi1 (e_var rfl) (dictD_rows _ _ S))))) (dry_dicR h.dry)
theorem r_lack (k : Nat) (S : Sto) (c : Int) (f : Str → Int) (l : List Str) (v : Str → D) : run P (k + 1) iL [fD NL c f, .dic (dicR l v)] S = .ok (lackD l (sup NL f)) S := by
  have h := lack_loop (NL := NL) (Γq P k) S f c l v (sup NL f) none none
  have hit : evI (Γq P k) (.itv (.ix (.var 0) (.con (.int 1)))) [some (fD NL c f), some (.dic (dicR l v)), none, none] S = .ok ((sup NL f).map (itN f), none) S := i_itv (ix1 _ (i := 0) _ rfl) rfl
  have hl : ∀ ns : List Str, lackD l ns = .non ∨ ∃ n, lackD l ns = .str n := by
    intro ns
    induction ns with
    | nil => exact Or.inl rfl
    | cons n r ih =>
      unfold lackD
      split
      · exact ih
      · exact Or.inr ⟨n, rfl⟩
  rcases hl (sup NL f) with e | ⟨n, e⟩
  · rw [e] at h ⊢
    obtain ⟨x', y', h⟩ := h
    exact call_dry0 fLack Fw.hL rfl (seq_nx ((s_for hit).trans h) (seq_ret (s_ret rfl))) rfl
  · rw [e] at h ⊢
    exact call_dry0 fLack Fw.hL rfl (seq_ret ((s_for hit).trans h)) rfl
theorem r_worthby (k : Nat) (S : Sto) (c : Int) (f w : Str → Int) (l : List Str) (hl : ∀ n ∈ sup NL f, n ∈ l ∧ (sml (f n) ∨ sml (w n))) : run P (k + 1) iW [fD NL c f, .dic (dicR l fun n => .int (w n))] S = .ok (.int (val NL c f w)) S :=
  call_dry0 fWorthBy Fw.hW rfl (seq_ret (s_ret (worth_eval _ S c f w l (.var 1) _ (fun _ _ => rfl) hl))) rfl
end
section
variable {NL : List Str} [N : NmL NL] {P : Prog} {iI iN iF iR iFo cF iM iP iT iPb : Nat} [Fb : FB P iI iN iF] [Fr : FR P iN iR] [Fs : FS P iM iP iT] [Fo : FO P iR iF iFo cF iP iT iPb]
include Fb Fr Fo in
theorem r_formsof (k : Nat) (S : Sto) {l : List Str} {gc : Str → Int} {gf : Str → Str → Int} (h : Row l fun n => fD NL (gc n) (gf n)) : run P (k + 3) iFo [rowD l fun n => fD NL (gc n) (gf n)] S = .ok (.dic (dicR l fun n => fD NL (gc n) (gf n))) S := by
  have h1 : evE (Γq P (k + 2)) (.not (.call iR [.var 0])) [some (rowD l fun n => fD NL (gc n) (gf n)), none] S = .ok (.bl false) S := e_not (b := true) (e_call (l_cons (e_var rfl) l_nil) (r_rows (P := P) k S h))
  have h2 := all_lc (Γ := Γq P (k + 2)) (ρ := [some (rowD l fun n => fD NL (gc n) (gf n)), none]) (S := S) l (fun _ => true) (e := .lc (.cmp .Is (.call iF [.ix (.var 1) (.con (.int 1))]) (.con .non)) (.nm 1) (.itv (.var 0)) [] [1]) (lc_map l (itV fun n => fD NL (gc n) (gf n)) _ (i_itv (e_var rfl) rfl) (fun n hm => ⟨_, rfl, e_cmp (x := .non) (y := .non) (c := true) (e_call (l_cons (e_ix (x := itV (fun n => fD NL (gc n) (gf n)) n) (y := .int 1) (r := fD NL (gc n) (gf n)) (e_var rfl) rfl rfl) l_nil) (ff_fD (P := P) k S (gc n) (gf n))) rfl rfl⟩) (Nat.le_trans h.len (by decide)))
  rw [all_true] at h2
  exact call_dry0 (fFormsOf iR iF cF) Fo.hFo rfl (if_skip (b := false) (e_or_f h1 (e_or_1 (e_not h2))) rfl (seq_ret (s_ret (e_bi1 (e_var rfl) (dictD_rows _ _ S))))) (dry_dicR h.dry)
abbrev bodyP (iP iT : Nat) : List Sm := [.asg (.nm 2) (.call iP [.var 2, .call iT [.var 4, .get2 (.var 1) (.var 3) (.tup [.con (.int 0), .tup [.tup [.var 3, .con (.int 1)]]])]])]
include Fs in
theorem put_loop (k : Nat) (S : Sto) (c : Int) (f : Str → Int) (l : List Str) (gc : Str → Int) (gf : Str → Str → Int) : ∀ (ns : List Str) (a : Int) (h : Str → Int) (x y : Option D), (∀ n ∈ ns, n ∈ NL ∧ sml (f n)) → ∃ x' y', forR none (forF (fun ρ S => evSs (Γq P (k + 2)) (bodyP iP iT) ρ S) (.tp [.nm 3, .nm 4])) (ns.map (itN f)) [some (fD NL c f), some (.dic (dicR l fun n => fD NL (gc n) (gf n))), some (fD NL a h), x, y] S = .ok (.nx [some (fD NL c f), some (.dic (dicR l fun n => fD NL (gc n) (gf n))), some (fD NL (a + (ns.map fun n => f n * pc l gc n).sum) (fun m => h m + (ns.map fun n => f n * pf l gf n m).sum)), x', y']) S
  | [], a, h, x, y, _ => ⟨x, y, by simp [forR]⟩
  | n :: r, a, h, x, y, hns => by
    obtain ⟨hn, hb⟩ := hns n List.mem_cons_self
    obtain ⟨x', y', ih⟩ := put_loop k S c f l gc gf r (a + f n * pc l gc n) (fun m => h m + f n * pf l gf n m) (some (.str n)) (some (.int (f n))) fun m hm => hns m (List.mem_cons_of_mem _ hm)
    have hg : ∀ z, evE (Γq P (k + 2)) (.get2 (.var 1) (.var 3) (.tup [.con (.int 0), .tup [.tup [.var 3, .con (.int 1)]]])) [some (fD NL c f), some (.dic (dicR l fun n => fD NL (gc n) (gf n))), z, some (.str n), some (.int (f n))] S = .ok (fD NL (pc l gc n) (pf l gf n)) S := fun z => by
      have := e_get2 (Γ := Γq P (k + 2)) (o := .var 1) (k := .var 3) (d := .tup [.con (.int 0), .tup [.tup [.var 3, .con (.int 1)]]]) (ρ := [some (fD NL c f), some (.dic (dicR l fun n => fD NL (gc n) (gf n))), z, some (.str n), some (.int (f n))]) (S := S) (x := .dic (dicR l fun n => fD NL (gc n) (gf n))) (y := .str n) (z := .tup [.int 0, .tup [.tup [.str n, .int 1]]]) (e_var rfl) rfl (e_var rfl) rfl rfl
      rw [this]
      simp only [vget_dicR]
      by_cases h : n ∈ l
      · simp [h, pc, pf]
      · simp only [pc, pf, if_neg h, fD_dlt n hn, Option.getD_none]
    have hs : forF (fun ρ S => evSs (Γq P (k + 2)) (bodyP iP iT) ρ S) (.tp [.nm 3, .nm 4]) (itN f n) [some (fD NL c f), some (.dic (dicR l fun n => fD NL (gc n) (gf n))), some (fD NL a h), x, y] S = .ok (.nx [some (fD NL c f), some (.dic (dicR l fun n => fD NL (gc n) (gf n))), some (fD NL (a + f n * pc l gc n) (fun m => h m + f n * pf l gf n m)), some (.str n), some (.int (f n))]) S :=
      (forF_eq rfl).trans (seq_nx (s_asg (e_call (l_cons (e_var rfl) (l_cons (e_call (l_cons (e_var rfl) (l_cons (hg _) l_nil)) (r_timesby (P := P) (k + 1) S (f n) hb _ _)) l_nil)) (r_plusby (P := P) k S _ _ _ _)) rfl) rfl)
    refine ⟨x', y', (for_nx hs).trans ?_⟩
    simp only [List.map_cons, List.sum_cons, ← Int.add_assoc]
    exact ih
include Fs Fo in
theorem r_putby (k : Nat) (S : Sto) (c : Int) (f : Str → Int) (l : List Str) (gc : Str → Int) (gf : Str → Str → Int) (hb : ∀ n ∈ NL, sml (f n)) : run P (k + 3) iPb [fD NL c f, .dic (dicR l fun n => fD NL (gc n) (gf n))] S = .ok (fD NL (putC NL c f (pc l gc)) (putF NL f (pf l gf))) S := by
  obtain ⟨x', y', e⟩ := put_loop (P := P) k S c f l gc gf (sup NL f) c (fun _ => 0) none none fun n hn => ⟨(sup_mem hn).1, hb n (sup_mem hn).1⟩
  have e2 : fD NL (c + ((sup NL f).map fun n => f n * pc l gc n).sum) (fun m => 0 + ((sup NL f).map fun n => f n * pf l gf n m).sum) = fD NL (putC NL c f (pc l gc)) (putF NL f (pf l gf)) := by
    unfold putC putF sup
    rw [sum_sup f (pc l gc) NL]
    refine fD_congr _ fun m _ => ?_
    show 0 + _ = _
    rw [Int.zero_add, sum_sup f (fun n => pf l gf n m) NL]
  rw [e2] at e
  exact call_dry0 (fPutBy iP iT) Fo.hPb rfl (seq_nx (s_asg (d := fD NL c fun _ => 0) (by rw [fD_zero]; rfl) rfl) (seq_nx ((s_for (i_itv (ix1 _ (i := 0) _ rfl) rfl)).trans e) (seq_ret (s_ret rfl)))) (dry_fD _ _)
end
end MP.Fm
end

section
set_option Elab.async false
set_option linter.all false
set_option maxRecDepth 100000
/-! MpEv: rules to walk the evaluator in a law's own text (plain): draws read, ranges, calls that raise, names of one sign. -/
namespace MP.Ev
open PySem MP MP.Lb MP.Fm
theorem at_nums {g : List Int} {k : Nat} (h : k < g.length) : L2.atI (g.map D.int) (k : Int) = some (.int (g.getD k 0)) :=
  L2.atI_nat (by rw [List.getElem?_map, List.getElem?_eq_getElem h, List.getD_eq_getElem?_getD, List.getElem?_eq_getElem h]; rfl)
section
variable {Γ : MP.Ctx} {ρ : MP.Env} {S : Sto}
theorem itR (n : Nat) (hn : n ≤ 1000) : evI Γ (.rg1 (.con (.int n))) ρ S = .ok ((List.range n).map fun (i : Nat) => D.int i, none) S := by
  refine (i_rg1 (j := n) rfl (by simp only [SMALL]; omega)).trans ?_
  rw [rangeD_map]; simp
theorem itRe {e : Ex} {n : Nat} (h : evE Γ e ρ S = .ok (.int n) S) (hn : n ≤ 100000) : evI Γ (.rg1 e) ρ S = .ok ((List.range n).map fun (i : Nat) => D.int i, none) S := by
  refine (i_rg1 (j := n) h (by simp only [SMALL]; omega)).trans ?_
  rw [rangeD_map]; simp
theorem e_bint {e : Ex} {i : Int} (h : evE Γ e ρ S = .ok (.int i) S) : evE Γ (.bi .int [e]) ρ S = .ok (.int i) S := e_bi1 h rfl
theorem e_mod {e : Ex} {i : Int} (m : Int) (hm : m ≠ 0) (h : evE Γ e ρ S = .ok (.int i) S) : evE Γ (.op .Mod (.bi .int [e]) (.con (.int m))) ρ S = .ok (.int (i.fmod m)) S :=
  e_op (e_bint h) (y := .int m) (by rfl) (by simp only [opD]; rw [if_pos hm])
theorem e_modn {e : Ex} {i : Nat} (m : Nat) (hm : m ≠ 0) (h : evE Γ e ρ S = .ok (.int i) S) : evE Γ (.op .Mod e (.con (.int m))) ρ S = .ok (.int ((i % m : Nat) : Int)) S :=
  e_op h (y := .int m) (by rfl) (by simp only [opD]; rw [if_pos (by omega), Int.fmod_eq_emod_of_nonneg _ (by omega)]; rfl)
theorem e_at {e : Ex} {g : List Int} {v k : Nat} (hv : ρ.get v = some (nums g)) (h : evE Γ e ρ S = .ok (.int k) S) (hk : k < g.length) : evE Γ (.ix (.var v) e) ρ S = .ok (.int (g.getD k 0)) S :=
  e_ix (x := nums g) (y := .int k) (e_var hv) h (at_nums hk)
theorem e_addk {e : Ex} {k : Nat} (a : Nat) (h : evE Γ e ρ S = .ok (.int k) S) : evE Γ (.op .Add (.con (.int a)) e) ρ S = .ok (.int ((a + k : Nat) : Int)) S :=
  e_op (x := .int a) (y := .int k) (by rfl) h (by simp only [opD, Int.natCast_add])
theorem e_addn {e e' : Ex} {k a : Nat} (h' : evE Γ e ρ S = .ok (.int a) S) (h : evE Γ e' ρ S = .ok (.int k) S) : evE Γ (.op .Add e e') ρ S = .ok (.int ((a + k : Nat) : Int)) S :=
  e_op (x := .int a) (y := .int k) h' h (by simp only [opD, Int.natCast_add])
theorem e_mulk {e : Ex} {k : Nat} (a : Nat) (ha : a < 1000) (h : evE Γ e ρ S = .ok (.int k) S) : evE Γ (.op .Mult (.con (.int a)) e) ρ S = .ok (.int ((a * k : Nat) : Int)) S :=
  e_op (x := .int a) (y := .int k) (by rfl) h (by simp only [opD]; rw [if_pos (Or.inl ⟨by simp only [BIG]; omega, by simp only [BIG]; omega⟩), Int.natCast_mul])
theorem drop_sl {e : Ex} {k v : Nat} {ds : List Int} (h1 : ρ.get v = some (nums ds)) (he : evE Γ e ρ S = .ok (.int k) S) : evE Γ (.slL (.var v) e) ρ S = .ok (nums (ds.drop k)) S :=
  e_slL (x := nums ds) (i := (k : Int)) (e_var h1) he (by simp only [slD, nums, cut_lo, List.map_drop])
/-- draws[k:] + draws -/
theorem drop_add {e : Ex} {k v : Nat} {ds : List Int} (h1 : ρ.get v = some (nums ds)) (he : evE Γ e ρ S = .ok (.int k) S) (hl : ds.length ≤ 100000) : evE Γ (.op .Add (.slL (.var v) e) (.var v)) ρ S = .ok (nums (ds.drop k ++ ds)) S :=
  e_op (drop_sl h1 he) (y := nums ds) (e_var h1) (by
    simp only [opD, nums, List.length_map, List.length_drop]
    rw [if_pos (by simp only [LIM]; omega), ← List.map_append])
theorem ix_tup {e e' : Ex} {xs : List D} {i : Nat} {d : D} (h : evE Γ e ρ S = .ok (.tup xs) S) (h2 : evE Γ e' ρ S = .ok (.int i) S) (hd : xs[i]? = some d) : evE Γ (.ix e e') ρ S = .ok d S :=
  e_ix h h2 (L2.atI_nat hd)
theorem ix_lst {e e' : Ex} {xs : List D} {i : Nat} {d : D} (h : evE Γ e ρ S = .ok (.lst xs) S) (h2 : evE Γ e' ρ S = .ok (.int i) S) (hd : xs[i]? = some d) : evE Γ (.ix e e') ρ S = .ok d S :=
  e_ix h h2 (L2.atI_nat hd)
theorem ix_str {e e' : Ex} {z : Str} {i c : Nat} (hz : z.length ≤ LIM) (h : evE Γ e ρ S = .ok (.str z) S) (h2 : evE Γ e' ρ S = .ok (.int i) S) (hd : z.cps.toList[i]? = some c) : evE Γ (.ix e e') ρ S = .ok (sgn c) S :=
  e_ix h h2 (by simp only [ixD, if_pos hz, L2.atI_nat hd, Option.map_some])
end
theorem call_nx0 {P : Prog} {k f : Nat} {ds : List D} {S : Sto} {ρ : MP.Env} (fn : Fn) (hf : P.fns[f]? = some fn) (hl : ds.length = fn.ps.length) (h : evSs (P.ctx (run P k)) fn.body (ds.map some ++ List.replicate (fn.N.length - ds.length) none) S = .ok (.nx ρ) S) : run P (k + 1) f ds S = .ok .non S := by
  simp only [MP.run, hf, if_pos hl, h, fin]
  exact gc_dry0 rfl
section
variable {Γ : MP.Ctx}
theorem s_try_ok {body : List Sm} {hs : List Hd} {ρ : MP.Env} {S S' : Sto} {f : Fl} (h : evSs Γ body ρ S = .ok f S') : evS Γ (.try_ body hs) ρ S = .ok f S' := by
  simp only [evS, h]
theorem s_try_exc {body : List Sm} {hs : List Hd} {ρ ρ' : MP.Env} {S S' : Sto} {C : Nat} {fs : List (Str × D)} {r : RS} (h : evSs Γ body ρ S = .exc C fs ρ' S') (h2 : handle Γ C fs ρ' S' hs = r) : evS Γ (.try_ body hs) ρ S = r := by
  simp only [evS, h, h2]
theorem ex_exc {f : Nat} {es : List Ex} {ρ : MP.Env} {S S' : Sto} {ds : List D} {C : Nat} (h : evL Γ es ρ S = .ok ds S) (h2 : Γ.F f ds S = .exc C [] S') : evS Γ (.ex (.call f es)) ρ S = .exc C [] ρ S' := by
  simp only [evS, e_call h h2, R.go]
theorem if_excF {c : Ex} {a b ss : List Sm} {ρ ρ' : MP.Env} {S S' : Sto} {C : Nat} (h : evE Γ c ρ S = .ok (.bl false) S) (h2 : evSs Γ b ρ S = .exc C [] ρ' S') : evSs Γ (.ifs c a b :: ss) ρ S = .exc C [] ρ' S' :=
  seq_exc ((s_if_f h).trans h2)
theorem e_lse {a : Ex} {ρ : MP.Env} {S S' : Sto} {d : D} {xs : List D} (h : evE Γ a ρ S = .ok d S') (h2 : lseD d = some xs) : evE Γ (.lse a) ρ S = .ok (.lst xs) S' := by
  simp only [evE, h, R.bind, h2, Option.map_some, R.of]
theorem e_dc2 {k v it it1 : Ex} {tg tg1 : Tg} {cnd cnd1 : List Ex} {own own1 : List Nat} {ρ : MP.Env} {S : Sto} {xs : List D} {g : Option Nat} {yss : List (List (Ky × D))} (hi : evI Γ it ρ S = .ok (xs, g) S)
    (hc : compR (dc2F (fun ρ S => evE Γ k ρ S) (fun ρ S => evE Γ v ρ S) (fun ρ S => evAll Γ cnd ρ S) (fun ρ S => evAll Γ cnd1 ρ S) (fun ρ S => evE Γ it1 ρ S) tg tg1 own own1 ρ g) xs S = .ok yss S) (hl : yss.flatten.length ≤ LIM) : evE Γ (.dc2 k v tg it cnd tg1 it1 cnd1 own own1) ρ S = .ok (.dic (merge [] yss.flatten)) S := by
  simp only [evE, hi, R.bind, hc, if_pos hl]
/-- a list of expressions, each told -/
theorem l_map {α : Type} (l : List α) (e : α → Ex) (v : α → D) {ρ : MP.Env} {S : Sto} (h : ∀ a ∈ l, evE Γ (e a) ρ S = .ok (v a) S) : evL Γ (l.map e) ρ S = .ok (l.map v) S := by
  induction l with
  | nil => exact l_nil
  | cons a l ih => exact l_cons (h a List.mem_cons_self) (ih fun b hb => h b (List.mem_cons_of_mem _ hb))
end
/-! ### names of one sign -/
def one (c : Nat) : Str := ⟨#[c]⟩
theorem sgn_one (c : Nat) : sgn c = .str (one c) := rfl
/-- what a name is given by its place -/
def fOf {α : Type} (z : α) (ns : List Str) (g : Nat → α) (n : Str) : α := if n ∈ ns then g (ns.idxOf n) else z
theorem fOf_out {α : Type} {z : α} {ns : List Str} {g : Nat → α} {n : Str} (h : n ∉ ns) : fOf z ns g n = z := if_neg h
theorem idxOf_nd : ∀ {ns : List Str} {j : Nat} {n : Str}, ns.Nodup → ns[j]? = some n → ns.idxOf n = j
  | [], j, n, _, h => by simp at h
  | m :: ns, 0, n, _, h => by
    simp only [List.getElem?_cons_zero, Option.some.injEq] at h
    subst h
    simp [List.idxOf_cons]
  | m :: ns, j + 1, n, hn, h => by
    obtain ⟨h1, h2⟩ := List.nodup_cons.mp hn
    simp only [List.getElem?_cons_succ] at h
    have hne : m ≠ n := fun e => h1 (e ▸ List.mem_of_getElem? h)
    have ih := idxOf_nd h2 h
    rw [List.idxOf_cons, beq_false_of_ne hne]
    simp [ih]
theorem fOf_at {α : Type} {z : α} {ns : List Str} {g : Nat → α} {j : Nat} {n : Str} (hn : ns.Nodup) (h : ns[j]? = some n) : fOf z ns g n = g j := by
  unfold fOf
  rw [if_pos (List.mem_of_getElem? h), idxOf_nd hn h]
theorem map_fOf {α β : Type} (z : α) (ns : List Str) (g : Nat → α) (hn : ns.Nodup) (F : Str → α → β) : (ns.zipIdx 0).map (fun p => F p.1 (g p.2)) = ns.map fun n => F n (fOf z ns g n) := by
  refine List.ext_getElem? fun i => ?_
  simp only [List.getElem?_map, List.getElem?_zipIdx]
  cases h : ns[i]? with
  | none => rfl
  | some n => simp only [Option.map_some, Nat.zero_add, fOf_at hn h]
theorem map_range {β : Type} (ns : List Str) (F : Str → Nat → β) : (List.range ns.length).map (fun i => F (ns.getD i "") i) = (ns.zipIdx 0).map fun p => F p.1 p.2 := by
  refine List.ext_getElem? fun i => ?_
  simp only [List.getElem?_map, List.getElem?_zipIdx]
  cases h : ns[i]? with
  | none =>
    have hi : ns.length ≤ i := List.getElem?_eq_none_iff.mp h
    rw [List.getElem?_eq_none (by simpa using hi)]; rfl
  | some n =>
    have hi : i < ns.length := (List.getElem?_eq_some_iff.mp h).1
    rw [List.getElem?_range hi]
    simp only [Option.map_some, Nat.zero_add, List.getD_eq_getElem?_getD, h, Option.getD_some]
end MP.Ev
end

section
set_option Elab.async false
set_option linter.all false
set_option maxRecDepth 100000
/-! K05D: the functions of the law as data (printed by gen.py). -/
namespace K05
open PySem MP MP.Lb
def f_is_integer : Fn := ⟨("is_integer", none), ["value"], ["value"], [.ret (.and [.isi (.var 0) .int, .not (.isi (.var 0) .bool)])]⟩
def f_is_name : Fn := ⟨("is_name", none), ["value", "sign"], ["value"], [.ifs (.or [.not (.isi (.var 0) .str), .not (.chn .LtE .LtE (.con (.int 1)) (.bi .len [.var 0]) (.glo "MOST_NAME" (.int 8))), .cmp .NotIn (.ix (.var 0) (.con (.int 0))) (.glo "LETTERS" (.str "abcdefghijklmnopqrstuvwxyz"))]) [.ret (.con (.bl false))] [], .ret (.bi .all [.lc (.or [.cmp .In (.var 1) (.glo "LETTERS" (.str "abcdefghijklmnopqrstuvwxyz")), .cmp .In (.var 1) (.glo "FIGURES" (.str "0123456789"))]) (.nm 1) (.itv (.var 0)) [] [1]])]⟩
def f_are_rows : Fn := ⟨("are_rows", none), ["value", "one", "other"], ["value"], [.ifs (.or [.not (.isi (.var 0) .tuple), .not (.bi .all [.lc (.and [.isi (.var 1) .tuple, .cmp .Eq (.bi .len [.var 1]) (.con (.int 2))]) (.nm 1) (.itv (.var 0)) [] [1]])]) [.ret (.con (.bl false))] [], .ifs (.not (.bi .all [.lc (.call 1 [.ix (.var 1) (.con (.int 0))]) (.nm 1) (.itv (.var 0)) [] [1]])) [.ret (.con (.bl false))] [], .ret (.bi .all [.lc (.cmp .Lt (.ix (.var 1) (.con (.int 0))) (.ix (.var 2) (.con (.int 0)))) (.tp [.nm 1, .nm 2]) (.zp (.var 0) (.slL (.var 0) (.con (.int 1)))) [] [1, 2]])]⟩
def f_form_fault : Fn := ⟨("form_fault", none), ["value", "last", "number", "one"], ["value"], [.ifs (.or [.not (.isi (.var 0) .tuple), .cmp .NotEq (.bi .len [.var 0]) (.con (.int 2)), .not (.call 0 [.ix (.var 0) (.con (.int 0))]), .not (.isi (.ix (.var 0) (.con (.int 1))) .tuple)]) [.ret (.glo "FORM" (.tup [.str "form"]))] [], .asg (.nm 1) (.con (.str "")), .fors (.tp [.nm 2, .nm 3]) (.enm (.ix (.var 0) (.con (.int 1)))) [.ifs (.or [.not (.isi (.var 3) .tuple), .cmp .NotEq (.bi .len [.var 3]) (.con (.int 2)), .not (.call 1 [.ix (.var 3) (.con (.int 0))]), .cmp .LtE (.ix (.var 3) (.con (.int 0))) (.var 1)]) [.ret (.tup [.con (.str "pair"), .var 2])] [], .ifs (.or [.not (.call 0 [.ix (.var 3) (.con (.int 1))]), .cmp .Eq (.ix (.var 3) (.con (.int 1))) (.con (.int 0))]) [.ret (.tup [.con (.str "pair"), .var 2])] [], .asg (.nm 1) (.ix (.var 3) (.con (.int 0)))], .ret (.con .non)]⟩
def f_worth_by : Fn := ⟨("worth_by", none), ["form", "worths", "name", "factor"], ["form", "worths"], [.ret (.op .Add (.ix (.var 0) (.con (.int 0))) (.bi .sum [.lc (.op .Mult (.var 3) (.ix (.var 1) (.var 2))) (.tp [.nm 2, .nm 3]) (.itv (.ix (.var 0) (.con (.int 1)))) [] [2, 3]]))]⟩
def f_saying_fault : Fn := ⟨("saying_fault", none), ["value"], ["value"], [.ifs (.or [.not (.isi (.var 0) .tuple), .cmp .NotEq (.bi .len [.var 0]) (.con (.int 2)), .not (.isi (.ix (.var 0) (.con (.int 0))) .str)]) [.ret (.glo "FORM" (.tup [.str "form"]))] [], .ret (.ite (.cmp .In (.ix (.var 0) (.con (.int 0))) (.tup [.glo "LEAST" (.str "least"), .glo "ZERO" (.str "zero")])) (.call 3 [.ix (.var 0) (.con (.int 1))]) (.glo "FORM" (.tup [.str "form"])))]⟩
def f_is_so_by : Fn := ⟨("is_so_by", none), ["saying", "worths", "worth"], ["saying", "worths"], [.asg (.nm 2) (.call 4 [.ix (.var 0) (.con (.int 1)), .var 1]), .ret (.ite (.cmp .Eq (.ix (.var 0) (.con (.int 0))) (.glo "LEAST" (.str "least"))) (.cmp .GtE (.var 2) (.con (.int 0))) (.cmp .Eq (.var 2) (.con (.int 0))))]⟩
def f_names_by : Fn := ⟨("names_by", none), ["equations", "found", "_kind", "form", "name", "_factor"], ["equations"], [.asg (.nm 1) (.dc2 (.var 4) (.con (.bl true)) (.tp [.nm 2, .nm 3]) (.itv (.var 0)) [] (.tp [.nm 4, .nm 5]) (.ix (.var 3) (.con (.int 1))) [] [2, 3, 4, 5] [4, 5]), .ret (.bi .tuple [.bi .sorted [.var 1]])]⟩
def f_equations_fault : Fn := ⟨("equations_fault", none), ["value", "number", "one"], ["value"], [.ifs (.or [.not (.isi (.var 0) .tuple), .cmp .Gt (.bi .len [.var 0]) (.glo "MOST_EQUATIONS" (.int 40))]) [.ret (.glo "FORM" (.tup [.str "form"]))] [], .fors (.tp [.nm 1, .nm 2]) (.enm (.var 0)) [.ifs (.or [.cmp .IsNot (.call 5 [.var 2]) (.con .non), .cmp .NotEq (.ix (.var 2) (.con (.int 0))) (.glo "ZERO" (.str "zero"))]) [.ret (.tup [.con (.str "saying"), .var 1])] []], .ret (.ite (.cmp .Gt (.bi .len [.call 7 [.var 0]]) (.glo "MOST_NAMES" (.int 12))) (.tup [.con (.str "names")]) (.con .non))]⟩
def f_check_equations : Fn := ⟨("check_equations", none), ["equations"], ["equations"], [.ifs (.cmp .IsNot (.call 8 [.var 0]) (.con .non)) [.rai 1 [.con (.str "not equations")]] []]⟩
def f_names_of : Fn := ⟨("names_of", none), ["equations"], ["equations"], [.ex (.call 9 [.var 0]), .ret (.call 7 [.var 0])]⟩
def f_solved_whole : Fn := ⟨("solved_whole", none), ["equations"], ["equations"], [.ex (.call 9 [.var 0]), .any]⟩
def f__are_integers : Fn := ⟨("_are_integers", none), ["value", "_name", "one"], ["value"], [.ret (.and [.call 2 [.var 0], .bi .all [.lc (.call 0 [.var 2]) (.tp [.nm 1, .nm 2]) (.itv (.var 0)) [] [1, 2]]])]⟩
def f_is_solution : Fn := ⟨("is_solution", none), ["equations", "value", "worths", "one", "name", "_one"], ["equations", "value"], [.ex (.call 9 [.var 0]), .ifs (.or [.not (.call 12 [.var 1]), .cmp .NotEq (.bi .tuple [.lc (.var 4) (.tp [.nm 4, .nm 5]) (.itv (.var 1)) [] [4, 5]]) (.call 7 [.var 0])]) [.ret (.con (.bl false))] [], .asg (.nm 2) (.bi .dict [.var 1]), .ret (.bi .all [.lc (.call 6 [.var 3, .var 2]) (.nm 3) (.itv (.var 0)) [] [3]])]⟩
def f__law_draws : Fn := ⟨("_law_draws", none), ["script", "many", "draws", "seed", "cell", "number", "k"], ["script", "many"], [.asg (.nm 2) (.mut (.lst [])), .asg (.nm 3) (.con (.int 7)), .fors (.nm 4) (.itv (.slH (.var 0) (.con (.int 63)))) [.asg (.nm 5) (.bi .abs [.var 4]), .asg (.nm 3) (.op .Mod (.bi .int [.op .Add (.op .Add (.op .Mult (.var 3) (.con (.int 48271))) (.var 5)) (.con (.int 11))]) (.con (.int 2147483647))), .ifs (.cmp .GtE (.var 5) (.op .Pow (.con (.int 10)) (.con (.int 18)))) [.fors (.nm 6) (.rg1 (.con (.int 60))) [.ifs (.cmp .Gt (.var 5) (.con (.int 0))) [.ex (.app (.var 2) (.op .Mod (.bi .int [.var 5]) (.con (.int 1009)))), .asg (.nm 5) (.op .FloorDiv (.var 5) (.con (.int 1009)))] []]] [.ex (.app (.var 2) (.op .Mod (.op .FloorDiv (.bi .int [.op .Add (.op .Mult (.var 3) (.con (.int 16807))) (.con (.int 5))]) (.con (.int 3))) (.con (.int 65521))))]], .fors (.nm 6) (.rg1 (.var 1)) [.ifs (.cmp .Lt (.bi .len [.var 2]) (.var 1)) [.asg (.nm 3) (.op .Mod (.bi .int [.op .Add (.op .Add (.op .Mult (.var 3) (.con (.int 69621))) (.var 6)) (.con (.int 1))]) (.con (.int 2147483647))), .ex (.app (.var 2) (.op .Mod (.op .FloorDiv (.bi .int [.var 3]) (.con (.int 7))) (.con (.int 65521))))] []], .ret (.slH (.var 2) (.var 1))]⟩
def f__law_equations : Fn := ⟨("_law_equations", none), ["draws", "many", "names", "hidden", "found", "k", "own", "pairs", "away", "j", "name", "pair", "factor"], ["draws", "many", "names"], [.asg (.tp [.nm 3, .nm 4]) (.tup [.bi .dict [.lc (.tup [.var 10, .op .Sub (.op .Mod (.bi .int [.ix (.var 0) (.var 5)]) (.con (.int 9))) (.con (.int 4))]) (.tp [.nm 5, .nm 10]) (.itv (.lse (.var 2))) [] [5, 10]], .mut (.lst [])]), .fors (.nm 5) (.rg1 (.var 1)) [.asg (.nm 6) (.op .Add (.slL (.var 0) (.op .Add (.con (.int 9)) (.op .Mult (.con (.int 7)) (.var 5)))) (.var 0)), .asg (.nm 7) (.lc (.tup [.ix (.var 2) (.var 9), .op .Sub (.op .Mod (.bi .int [.ix (.var 6) (.var 9)]) (.con (.int 9))) (.con (.int 4))]) (.nm 9) (.rg1 (.bi .len [.var 2])) [] [9]), .asg (.nm 7) (.bi .tuple [.lc (.var 11) (.nm 11) (.itv (.var 7)) [.cmp .NotEq (.ix (.var 11) (.con (.int 1))) (.con (.int 0))] [11]]), .asg (.nm 8) (.ite (.cmp .Gt (.op .Mod (.bi .int [.ix (.var 6) (.con (.int 5))]) (.con (.int 4))) (.con (.int 0))) (.con (.int 0)) (.op .Sub (.op .Mod (.bi .int [.ix (.var 6) (.con (.int 6))]) (.con (.int 5))) (.con (.int 2)))), .ex (.app (.var 4) (.tup [.con (.str "zero"), .tup [.op .Sub (.var 8) (.bi .sum [.lc (.op .Mult (.var 12) (.ix (.var 3) (.var 10))) (.tp [.nm 10, .nm 12]) (.itv (.var 7)) [] [10, 12]]), .var 7]]))], .ret (.bi .tuple [.var 4])]⟩
def f__law_names : Fn := ⟨("_law_names", none), ["equations", "found", "kind", "form", "name", "factor"], ["equations"], [.asg (.nm 1) (.mut (.dk)), .fors (.tp [.nm 2, .nm 3]) (.itv (.var 0)) [.fors (.tp [.nm 4, .nm 5]) (.itv (.ix (.var 3) (.con (.int 1)))) [.asgS (.var 1) (.var 4) (.con (.bl true))]], .ret (.bi .tuple [.bi .sorted [.var 1]])]⟩
def f__law_is_int : Fn := ⟨("_law_is_int", none), ["value"], ["value"], [.ret (.and [.isi (.var 0) .int, .not (.isi (.var 0) .bool)])]⟩
def f__law_is_saying : Fn := ⟨("_law_is_saying", none), ["value", "last", "pair", "sign"], ["value"], [.ifs (.or [.not (.isi (.var 0) .tuple), .cmp .NotEq (.bi .len [.var 0]) (.con (.int 2)), .cmp .NotEq (.ix (.var 0) (.con (.int 0))) (.con (.str "zero")), .not (.isi (.ix (.var 0) (.con (.int 1))) .tuple), .cmp .NotEq (.bi .len [.ix (.var 0) (.con (.int 1))]) (.con (.int 2))]) [.ret (.con (.bl false))] [], .ifs (.or [.not (.call 17 [.ix (.ix (.var 0) (.con (.int 1))) (.con (.int 0))]), .not (.isi (.ix (.ix (.var 0) (.con (.int 1))) (.con (.int 1))) .tuple)]) [.ret (.con (.bl false))] [], .asg (.nm 1) (.con (.str "")), .fors (.nm 2) (.itv (.ix (.ix (.var 0) (.con (.int 1))) (.con (.int 1)))) [.ifs (.or [.not (.isi (.var 2) .tuple), .cmp .NotEq (.bi .len [.var 2]) (.con (.int 2)), .not (.isi (.ix (.var 2) (.con (.int 0))) .str), .not (.call 17 [.ix (.var 2) (.con (.int 1))]), .cmp .Eq (.ix (.var 2) (.con (.int 1))) (.con (.int 0)), .cmp .LtE (.ix (.var 2) (.con (.int 0))) (.var 1), .not (.chn .Lt .Lt (.con (.int 0)) (.bi .len [.ix (.var 2) (.con (.int 0))]) (.con (.int 9)))]) [.ret (.con (.bl false))] [], .ifs (.or [.cmp .NotIn (.ix (.ix (.var 2) (.con (.int 0))) (.con (.int 0))) (.con (.str "abcdefghijklmnopqrstuvwxyz")), .not (.bi .all [.lc (.cmp .In (.var 3) (.con (.str "abcdefghijklmnopqrstuvwxyz0123456789"))) (.nm 3) (.itv (.ix (.var 2) (.con (.int 0)))) [] [3]])]) [.ret (.con (.bl false))] [], .asg (.nm 1) (.ix (.var 2) (.con (.int 0)))], .ret (.con (.bl true))]⟩
def f__law_due : Fn := ⟨("_law_due", none), ["value", "bad", "k"], ["value"], [.ifs (.or [.not (.isi (.var 0) .tuple), .cmp .Gt (.bi .len [.var 0]) (.con (.int 40))]) [.ret (.tup [.con (.str "form")])] [], .asg (.nm 1) (.lc (.var 2) (.nm 2) (.rg1 (.bi .len [.var 0])) [.not (.call 18 [.ix (.var 0) (.var 2)])] [2]), .ifs (.cmp .Gt (.bi .len [.var 1]) (.con (.int 0))) [.ret (.tup [.con (.str "saying"), .ix (.var 1) (.con (.int 0))])] [], .ret (.ite (.cmp .Gt (.bi .len [.call 16 [.var 0]]) (.con (.int 12))) (.tup [.con (.str "names")]) (.con .non))]⟩
def f__law_word : Fn := ⟨("_law_word", none), ["way", "one", "two"], ["way", "one", "two"], [.try_ [.ifs (.cmp .Eq (.var 0) (.con (.int 0))) [.ex (.call 10 [.var 1])] [.ifs (.cmp .Eq (.var 0) (.con (.int 1))) [.ex (.call 11 [.var 1])] [.ex (.call 13 [.var 1, .var 2])]]] [⟨1, none, .ret (.con (.str "equations"))⟩], .ret (.con (.str "none"))]⟩
def f_law : Fn := ⟨("law", none), ["script", "draws", "turn", "names", "whole", "at", "own", "form", "news", "values", "wide", "value", "due", "k", "row", "told", "zero", "known", "good", "bad", "new", "name", "kind", "j", "pair", "way", "factor"], ["script"], [.asg (.nm 1) (.call 14 [.var 0, .con (.int 300)]), .fors (.nm 2) (.rg1 (.con (.int 5))) [.asg (.nm 3) (.ix (.lst [.con (.str "abxy"), .con (.str "x"), .con (.str "bn"), .con (.str "amn"), .con (.str "cdef")]) (.var 2)), .asg (.nm 4) (.call 15 [.op .Add (.slL (.var 1) (.op .Mult (.con (.int 31)) (.var 2))) (.var 1), .op .Add (.con (.int 1)) (.op .Mod (.bi .int [.ix (.var 1) (.op .Add (.con (.int 200)) (.var 2))]) (.con (.int 4))), .var 3]), .ifs (.or [.cmp .IsNot (.call 8 [.var 4]) (.con .non), .not (.isi (.call 10 [.var 4]) .tuple), .cmp .NotEq (.call 10 [.var 4]) (.call 16 [.var 4])]) [.ret (.con (.bl false))] [], .asg (.tp [.nm 5, .nm 6]) (.tup [.op .Mod (.bi .int [.ix (.var 1) (.op .Add (.con (.int 210)) (.var 2))]) (.bi .len [.var 4]), .call 16 [.var 4]]), .asg (.nm 7) (.ix (.ix (.var 4) (.var 5)) (.con (.int 1))), .asg (.nm 8) (.lst [.con .non, .con (.int 5), .tup [.con (.str "least"), .var 7], .tup [.con (.str "zero")], .lst [.con (.str "zero"), .var 7], .tup [.con (.str "zero"), .bi .list [.var 7]], .tup [.con (.str "zero"), .tup [.con (.bl true), .ix (.var 7) (.con (.int 1))]]]), .asg (.nm 8) (.op .Add (.var 8) (.lst [.tup [.con (.str "zero"), .tup [.ix (.var 7) (.con (.int 0)), .bi .list [.ix (.var 7) (.con (.int 1))]]], .tup [.con (.str "zero"), .tup [.con (.int 0), .tup [.tup [.con (.str "a"), .con (.int 0)]]]], .tup [.con (.str "zero"), .tup [.con (.int 0), .tup [.tup [.con (.str "b"), .con (.int 1)], .tup [.con (.str "a"), .con (.int 1)]]]]])), .asg (.nm 8) (.op .Add (.var 8) (.lst [.tup [.con (.str "zero"), .tup [.con (.int 0), .tup [.tup [.con (.str "a"), .con (.int 1)], .tup [.con (.str "a"), .con (.int 1)]]]], .tup [.con (.str "zero"), .tup [.con (.int 0), .tup [.tup [.con (.str "A"), .con (.int 1)]]]], .tup [.con (.str "zero"), .tup [.con (.int 0), .tup [.tup [.con (.str "longnames"), .con (.int 1)]]]], .tup [.con (.str "zero"), .tup [.con (.int 0), .tup [.tup [.con (.str "1a"), .con (.int 1)]]]]])), .asg (.nm 8) (.op .Add (.var 8) (.lst [.tup [.con (.str "zero"), .tup [.con (.int 0), .tup [.tup [.con (.str "a"), .con (.bl true)]]]], .tup [.con (.str "zero"), .tup [.con (.int 5), .tup []]], .tup [.con (.str "zero"), .tup [.con (.int 0), .tup [.tup [.con (.str "longname"), .con (.int 1)]]]]])), .asg (.nm 9) (.op .Add (.lc (.op .Add (.op .Add (.slH (.var 4) (.var 5)) (.tup [.var 20])) (.slL (.var 4) (.op .Add (.var 5) (.con (.int 1))))) (.nm 20) (.itv (.var 8)) [] [20]) (.lst [.con .non, .bi .list [.var 4], .tup [], .op .Mult (.var 4) (.con (.int 11)), .op .Mult (.slH (.var 4) (.con (.int 1))) (.con (.int 40)), .op .Mult (.slH (.var 4) (.con (.int 1))) (.con (.int 41))])), .asg (.nm 10) (.bi .tuple [.lc (.tup [.con (.str "zero"), .tup [.con (.int 0), .tup [.tup [.var 21, .con (.int 1)]]]]) (.nm 21) (.itv (.con (.str "abcdefghijklm"))) [] [21]]), .fors (.nm 11) (.itv (.op .Add (.var 9) (.lst [.var 10, .slH (.var 10) (.con (.int 12)), .tup [.tup [.con (.str "zero"), .tup [.con (.int 0), .bi .tuple [.lc (.tup [.var 21, .con (.int 1)]) (.nm 21) (.itv (.con (.str "abcdefghijklm"))) [] [21]]]]]]))) [.asg (.nm 12) (.call 19 [.var 11]), .ifs (.or [.cmp .NotEq (.call 8 [.var 11]) (.var 12), .and [.cmp .IsNot (.var 12) (.con .non), .cmp .NotEq (.lc (.call 20 [.var 25, .var 11, .tup []]) (.nm 25) (.rg1 (.con (.int 3))) [] [25]) (.op .Mult (.lst [.con (.str "equations")]) (.con (.int 3)))]]) [.ret (.con (.bl false))] []], .fors (.nm 13) (.rg1 (.con (.int 12))) [.asg (.nm 14) (.bi .tuple [.lc (.tup [.var 21, .op .Sub (.op .Mod (.bi .int [.ix (.var 1) (.op .Mod (.op .Add (.op .Add (.op .Add (.con (.int 220)) (.op .Mult (.con (.int 5)) (.var 13))) (.var 23)) (.var 2)) (.con (.int 300)))]) (.con (.int 9))) (.con (.int 4))]) (.tp [.nm 23, .nm 21]) (.itv (.lse (.var 6))) [] [23, 21]]), .asg (.nm 12) (.bi .all [.lc (.cmp .Eq (.op .Add (.ix (.var 7) (.con (.int 0))) (.bi .sum [.lc (.op .Mult (.var 26) (.ix (.bi .dict [.var 14]) (.var 21))) (.tp [.nm 21, .nm 26]) (.itv (.ix (.var 7) (.con (.int 1)))) [] [21, 26]])) (.con (.int 0))) (.tp [.nm 22, .nm 7]) (.itv (.var 4)) [] [22, 7]]), .asg (.nm 15) (.call 13 [.var 4, .var 14]), .ifs (.or [.not (.isi (.var 15) .bool), .cmp .NotEq (.var 15) (.var 12)]) [.ret (.con (.bl false))] []], .asg (.nm 16) (.bi .dict [.lc (.tup [.var 21, .con (.int 0)]) (.nm 21) (.itv (.var 6)) [] [21]]), .asg (.nm 17) (.bi .tuple [.lc (.tup [.con (.str "zero"), .tup [.op .Sub (.con (.int 0)) (.bi .sum [.lc (.op .Mult (.con (.int 2)) (.var 26)) (.tp [.nm 21, .nm 26]) (.itv (.ix (.var 7) (.con (.int 1)))) [] [21, 26]]), .ix (.var 7) (.con (.int 1))]]) (.tp [.nm 22, .nm 7]) (.itv (.var 4)) [] [22, 7]]), .asg (.nm 18) (.bi .tuple [.lc (.tup [.var 21, .con (.int 2)]) (.nm 21) (.itv (.var 6)) [] [21]]), .asg (.nm 19) (.lst [.con .non, .tup [], .bi .list [.var 18], .slL (.var 18) (.con (.int 1)), .op .Add (.var 18) (.tup [.tup [.con (.str "zz"), .con (.int 0)]]), .ite (.cmp .Gt (.bi .len [.var 18]) (.con (.int 1))) (.rev (.var 18)) (.con .non), .bi .tuple [.lc (.tup [.var 21, .con (.bl true)]) (.nm 21) (.itv (.var 6)) [] [21]], .bi .tuple [.lc (.bi .list [.var 24]) (.nm 24) (.itv (.var 18)) [] [24]]]), .ifs (.or [.not (.call 13 [.var 17, .var 18]), .and [.cmp .Gt (.bi .len [.var 16]) (.con (.int 0)), .cmp .NotEq (.lc (.call 13 [.var 17, .var 11]) (.nm 11) (.itv (.var 19)) [] [11]) (.op .Mult (.lst [.con (.bl false)]) (.con (.int 8)))]]) [.ret (.con (.bl false))] []], .ret (.and [.call 13 [.tup [], .tup []], .not (.call 13 [.tup [.tup [.con (.str "zero"), .tup [.con (.int 1), .tup []]]], .tup []]), .cmp .Eq (.call 10 [.tup []]) (.tup [])])]⟩
def fnL : List Fn := [f_is_integer, f_is_name, f_are_rows, f_form_fault, f_worth_by, f_saying_fault, f_is_so_by, f_names_by, f_equations_fault, f_check_equations, f_names_of, f_solved_whole, f__are_integers, f_is_solution, f__law_draws, f__law_equations, f__law_names, f__law_is_int, f__law_is_saying, f__law_due, f__law_word, f_law]
def clL : List Cl := [⟨"SizeError", none, [], some none, []⟩, ⟨"BadEquations", none, [], some none, [0]⟩]
def P0 : Prog := ⟨fnL, clL, 1000⟩
end K05
end

section
set_option Elab.async false
set_option linter.all false
set_option maxRecDepth 100000
/-! K05P: equations (plain): faults, names. -/
namespace K05
open PySem MP MP.Lb MP.Fm
def NL : List Str := ["a", "b", "c", "d", "e", "f", "m", "n", "x", "y"]
instance : NmL NL := ⟨by decide +kernel, by decide +kernel, by decide +kernel, by decide +kernel, by decide⟩
instance : FB P0 0 1 3 := ⟨rfl, rfl, rfl⟩
instance : FR P0 1 2 := ⟨rfl⟩
abbrev Γr (k : Nat) : MP.Ctx := P0.ctx (run P0 k)
abbrev ZERO : D := .str "zero"
/-! ### faults of sayings -/
def sayF : D → D
  | .tup [.str z, b] => if (z == ("least" : Str)) || (z == ("zero" : Str)) then fault b else FORM
  | _ => FORM
theorem dry_fault (b : D) : dry (fault b) = true := by
  unfold fault
  split
  · split
    · split <;> rfl
    · rfl
  · rfl
theorem dry_sayF (v : D) : dry (sayF v) = true := by
  unfold sayF
  split
  · split
    · exact dry_fault _
    · rfl
  · rfl
theorem len_tup (Γ : MP.Ctx) (S : Sto) {e : Ex} {ρ : MP.Env} {xs : List D} (h : evE Γ e ρ S = .ok (.tup xs) S) : evE Γ (.bi .len [e]) ρ S = .ok (.int xs.length) S := e_bi1 h rfl
theorem len_ne {Γ : MP.Ctx} {S : Sto} {e : Ex} {ρ : MP.Env} {xs : List D} (h : evE Γ e ρ S = .ok (.tup xs) S) (hl : xs.length ≠ 2) : evE Γ (.cmp .NotEq (.bi .len [e]) (.con (.int 2))) ρ S = .ok (.bl true) S := e_cmp (x := .int xs.length) (y := .int 2) (len_tup Γ S h) rfl (ne2 xs S hl)
theorem isTy_str : ∀ {d : D}, dry d = true → isTy d .str = some (match d with | .str _ => true | _ => false)
  | .int _, _ | .bl _, _ | .str _, _ | .tup _, _ | .lst _, _ | .rol _, _ | .dic _, _ | .non, _ => rfl
  | .ref _, h => by simp [dry] at h
  | .dit _, h => by simp [dry] at h
theorem tup_of {v : D} (h : istup v = true) : ∃ xs, v = .tup xs := by cases v <;> first | exact ⟨_, rfl⟩ | (simp [istup] at h)
theorem e_nottup {Γ : MP.Ctx} {S : Sto} {e : Ex} {ρ : MP.Env} {v : D} (h : evE Γ e ρ S = .ok v S) (hd : dry v = true) : evE Γ (.not (.isi e .tuple)) ρ S = .ok (.bl (!istup v)) S := e_not (e_isi h (isTy_tup hd))
theorem r_say (k : Nat) (S : Sto) {v : D} (h : dryS v = true) : run P0 (k + 3) 5 [v] S = .ok (sayF v) S := by
  have h1 := e_nottup (Γ := Γr (k + 2)) (S := S) (e := .var 0) (ρ := [some v]) (e_var rfl) (dryS_dry h)
  cases hv : istup v with
  | false =>
    rw [hv] at h1
    have : sayF v = FORM := by cases v <;> first | rfl | (simp [istup] at hv)
    rw [this]
    exact call_dry0 f_saying_fault rfl rfl (if_ret (b := true) (e_or_t h1) rfl (seq_ret (s_ret rfl))) rfl
  | true =>
    rw [hv] at h1
    obtain ⟨xs, rfl⟩ := tup_of hv
    by_cases hl : xs.length = 2
    · match xs, hl with
      | [z, b], _ =>
      have hzb : dryS z = true ∧ dryS b = true := by
        simp only [dryS, dryLS, Bool.and_eq_true] at h
        exact ⟨h.1, h.2.1⟩
      have h2 : evE (Γr (k + 2)) (.cmp .NotEq (.bi .len [.var 0]) (.con (.int 2))) [some (.tup [z, b])] S = .ok (.bl false) S := rfl
      have h3 := e_not (e_isi (Γ := Γr (k + 2)) (e := .ix (.var 0) (.con (.int 0))) (ρ := [some (.tup [z, b])]) (S := S) (S' := S) (d := z) (t := .str) rfl (isTy_str (dryS_dry hzb.1)))
      cases z with
      | str z =>
        have hin : evE (Γr (k + 2)) (.cmp .In (.ix (.var 0) (.con (.int 0))) (.tup [.glo "LEAST" (.str "least"), .glo "ZERO" (.str "zero")])) [some (.tup [.str z, b])] S = .ok (.bl ((z == ("least" : Str)) || (z == ("zero" : Str)))) S := by
          refine e_cmp (x := .str z) (y := .tup [.str "least", .str "zero"]) rfl rfl ?_
          have e1 : ((("least" : Str) == z) = (z == ("least" : Str))) := by rw [Bool.eq_iff_iff]; simp only [beq_iff_eq]; exact eq_comm
          have e2 : ((("zero" : Str) == z) = (z == ("zero" : Str))) := by rw [Bool.eq_iff_iff]; simp only [beq_iff_eq]; exact eq_comm
          simp only [cmpD, inD, flat, List.all_cons, List.all_nil, Bool.and_self, if_true, inL, eqv, e1, e2, Bool.or_false]
        refine call_dry0 f_saying_fault rfl rfl (if_skip (b := false) (e_or_f h1 (e_or_f h2 (e_or_1 h3))) rfl (seq_ret (s_ret (d := sayF (.tup [.str z, b])) ?_))) ?_
        · cases hb : (z == ("least" : Str)) || (z == ("zero" : Str)) with
          | true =>
            rw [hb] at hin
            have : sayF (.tup [.str z, b]) = fault b := by simp [sayF, hb]
            rw [this]
            exact e_ite_t hin (e_call (l_cons (d := b) rfl l_nil) (r_fault (P := P0) k S hzb.2))
          | false =>
            rw [hb] at hin
            have : sayF (.tup [.str z, b]) = FORM := by simp only [sayF, hb]; rfl
            rw [this]
            exact e_ite_f hin rfl
        · exact dry_sayF _
      | _ =>
        first
        | exact call_dry0 f_saying_fault rfl rfl (if_ret (b := true) (e_or_f h1 (e_or_f h2 (e_or_1 h3))) rfl (seq_ret (s_ret rfl))) rfl
    · have : sayF (.tup xs) = FORM := by
        match xs, hl with
        | [], _ => rfl
        | [x], _ => cases x <;> rfl
        | [_, _], h => exact absurd rfl h
        | x :: _ :: _ :: _, _ => cases x <;> rfl
      rw [this]
      exact call_dry0 f_saying_fault rfl rfl (if_ret (b := true) (e_or_f h1 (e_or_t (len_ne (e_var rfl) hl))) rfl (seq_ret (s_ret rfl))) rfl
/-! ### good equations -/
def itP (p : Str × Int) : D := .tup [.str p.1, .int p.2]
def eqP (q : Int × List (Str × Int)) : D := .tup [.str "zero", .tup [.int q.1, .tup (q.2.map itP)]]
def goodE : D → Bool
  | .tup [.str z, .tup [c, .tup ds]] => (z == ("zero" : Str)) && (isI c && (scan "" 0 ds).isNone)
  | _ => false
theorem scan_items : ∀ (ds : List D) (last : Str) (j : Nat), scan last j ds = none → ∃ l : List (Str × Int), ds = l.map itP ∧ ∀ p ∈ l, nameB p.1 = true
  | [], _, _, _ => ⟨[], rfl, fun _ h => by cases h⟩
  | d :: ds, last, j, h => by
    simp only [scan] at h
    cases hi : itm last d with
    | none => rw [hi] at h; cases h
    | some n =>
      rw [hi] at h
      obtain ⟨l, rfl, hl⟩ := scan_items ds n (j + 1) h
      have : ∃ i, d = itP (n, i) ∧ nameB n = true := by
        cases d with
        | tup xs =>
          match xs, hi with
          | [x, y], hi =>
            simp only [itm, itm2] at hi
            cases x with
            | str m =>
              cases y with
              | int i =>
                simp only [itm3] at hi
                split at hi
                · rename_i hc
                  simp only [Option.some.injEq] at hi
                  subst hi
                  simp only [Bool.and_eq_true] at hc
                  exact ⟨i, rfl, hc.1⟩
                · cases hi
              | _ => simp [itm3] at hi
            | _ => simp [itm3] at hi
          | [], hi => simp [itm, itm2] at hi
          | [_], hi => simp [itm, itm2] at hi
          | _ :: _ :: _ :: _, hi => simp [itm, itm2] at hi
        | _ => simp [itm] at hi
      obtain ⟨i, rfl, hn⟩ := this
      exact ⟨(n, i) :: l, rfl, fun p hp => (List.mem_cons.mp hp).elim (fun e => by rw [e]; exact hn) (hl p)⟩
theorem good_form {d : D} (h : goodE d = true) : ∃ q, d = eqP q ∧ ∀ p ∈ q.2, nameB p.1 = true := by
  unfold goodE at h
  split at h
  · rename_i z c ds
    simp only [Bool.and_eq_true, beq_iff_eq, Option.isNone_iff_eq_none] at h
    obtain ⟨rfl, h2, h3⟩ := h
    obtain ⟨l, rfl, hl⟩ := scan_items ds "" 0 h3
    cases c with
    | int c => exact ⟨(c, l), rfl, hl⟩
    | _ => simp [isI] at h2
  · cases h
theorem fault_non {b : D} (h : fault b = .non) : ∃ c ds, b = .tup [c, .tup ds] ∧ isI c = true ∧ scan "" 0 ds = none := by
  unfold fault at h
  split at h
  · rename_i c ds
    split at h
    · rename_i hc
      split at h
      · rename_i hs; exact ⟨c, ds, rfl, hc, hs⟩
      · cases h
    · cases h
  · cases h
theorem sayF_non {v : D} (h : sayF v = .non) : ∃ z c ds, v = .tup [.str z, .tup [c, .tup ds]] ∧ isI c = true ∧ scan "" 0 ds = none := by
  unfold sayF at h
  split at h
  · rename_i z b
    split at h
    · obtain ⟨c, ds, rfl, h1, h2⟩ := fault_non h
      exact ⟨z, c, ds, rfl, h1, h2⟩
    · cases h
  · cases h
theorem good_say {v : D} (h : goodE v = true) : sayF v = .non := by
  unfold goodE at h
  split at h
  · rename_i z c ds
    simp only [Bool.and_eq_true, beq_iff_eq, Option.isNone_iff_eq_none] at h
    obtain ⟨rfl, h2, h3⟩ := h
    simp [sayF, fault, h2, h3]
  · cases h
abbrev CE (i : Nat) : Ex := .or [.cmp .IsNot (.call 5 [.var i]) (.con .non), .cmp .NotEq (.ix (.var i) (.con (.int 0))) (.glo "ZERO" (.str "zero"))]
theorem ce_ok (k : Nat) (S : Sto) {ρ : MP.Env} {v : D} (hv : ρ.get 2 = some v) (h : dryS v = true) : evE (Γr (k + 3)) (CE 2) ρ S = .ok (.bl (!goodE v)) S := by
  have h1 : evE (Γr (k + 3)) (.cmp .IsNot (.call 5 [.var 2]) (.con .non)) ρ S = .ok (.bl (!decide (sayF v = .non))) S := e_cmp (x := sayF v) (y := .non) (e_call (l_cons (e_var hv) l_nil) (r_say k S h)) rfl rfl
  by_cases hs : sayF v = .non
  · rw [decide_eq_true hs] at h1
    obtain ⟨z, c, ds, rfl, h2, h3⟩ := sayF_non hs
    have hg : goodE (.tup [.str z, .tup [c, .tup ds]]) = (z == ("zero" : Str)) := by simp [goodE, h2, h3]
    rw [hg]
    refine e_or_f h1 (e_or_1 (e_cmp (x := .str z) (y := .str "zero") (e_ix (x := .tup [.str z, .tup [c, .tup ds]]) (y := .int 0) (e_var hv) rfl rfl) rfl ?_))
    simp only [cmpD, shp, Bool.and_self, if_true, eqv]
  · rw [decide_eq_false hs] at h1
    have hg : goodE v = false := by
      cases e : goodE v with
      | false => rfl
      | true => exact absurd (good_say e) hs
    rw [hg]
    exact e_or_t h1
def firstBad : Nat → List D → Option Nat
  | _, [] => none
  | j, d :: ds => if goodE d = true then firstBad (j + 1) ds else some j
abbrev bodyE : List Sm := [.ifs (CE 2) [.ret (.tup [.con (.str "saying"), .var 1])] []]
theorem loopE (k : Nat) (S : Sto) (v : D) : ∀ (ds : List D) (j : Nat) (x1 x2 : Option D), (∀ d ∈ ds, dryS d = true) →
    (match firstBad j ds with
      | none => ∃ y1 y2, forR none (forF (fun ρ S => evSs (Γr (k + 3)) bodyE ρ S) (.tp [.nm 1, .nm 2])) ((ds.zipIdx j).map fun q => .tup [.int q.2, q.1]) [some v, x1, x2] S = .ok (.nx [some v, y1, y2]) S
      | some m => forR none (forF (fun ρ S => evSs (Γr (k + 3)) bodyE ρ S) (.tp [.nm 1, .nm 2])) ((ds.zipIdx j).map fun q => .tup [.int q.2, q.1]) [some v, x1, x2] S = .ok (.ret (.tup [.str "saying", .int m])) S)
  | [], j, x1, x2, _ => ⟨_, _, rfl⟩
  | d :: ds, j, x1, x2, h => by
    have hb := ce_ok k S (ρ := [some v, some (.int j), some d]) (v := d) rfl (h d List.mem_cons_self)
    simp only [firstBad, List.zipIdx_cons, List.map_cons]
    cases hg : goodE d with
    | false =>
      rw [hg] at hb
      exact for_ret ((forF_eq rfl).trans (if_ret (b := true) hb rfl (seq_ret (s_ret rfl))))
    | true =>
      rw [hg] at hb
      have ih := loopE k S v ds (j + 1) (some (.int j)) (some d) fun x hx => h x (List.mem_cons_of_mem _ hx)
      have e1 : forF (fun ρ S => evSs (Γr (k + 3)) bodyE ρ S) (.tp [.nm 1, .nm 2]) (.tup [.int j, d]) [some v, x1, x2] S = .ok (.nx [some v, some (.int j), some d]) S := (forF_eq rfl).trans (if_skip (b := false) hb rfl rfl)
      simp only [if_true]
      cases hs : firstBad (j + 1) ds with
      | none =>
        rw [hs] at ih
        obtain ⟨y1, y2, e⟩ := ih
        exact ⟨y1, y2, (for_nx e1).trans e⟩
      | some m =>
        rw [hs] at ih
        exact (for_nx e1).trans ih
theorem firstBad_none : ∀ (ds : List D) (j : Nat), firstBad j ds = none → ∀ d ∈ ds, goodE d = true
  | [], _, _, _, h => by cases h
  | d :: ds, j, h, x, hx => by
    simp only [firstBad] at h
    split at h
    · rename_i hg
      rcases List.mem_cons.mp hx with e | e
      · rw [e]; exact hg
      · exact firstBad_none ds (j + 1) h x e
    · cases h
theorem firstBad_all : ∀ (ds : List D) (j : Nat), (∀ d ∈ ds, goodE d = true) → firstBad j ds = none
  | [], _, _ => rfl
  | d :: ds, j, h => by
    simp only [firstBad, h d List.mem_cons_self, if_true]
    exact firstBad_all ds (j + 1) fun x hx => h x (List.mem_cons_of_mem _ hx)
/-! ### names -/
def nmsE : D → List Str
  | .tup [_, .tup [_, .tup ds]] => ds.filterMap fun d => match d with
    | .tup [.str n, _] => some n
    | _ => none
  | _ => []
theorem nmsE_eqP (q : Int × List (Str × Int)) : nmsE (eqP q) = q.2.map (·.1) := by
  simp only [nmsE, eqP, List.filterMap_map]
  rw [← List.filterMap_eq_map]
  rfl
def allN (ds : List D) : List Str := (ds.map nmsE).flatten
def ddS (acc : List Str) (ns : List Str) : List Str := ns.foldl (fun acc n => if n ∈ acc then acc else acc ++ [n]) acc
def dd (ns : List Str) : List Str := ddS [] ns
theorem keys_merge (v : D) : ∀ (ns : List Str) (kvs : List (Ky × D)) (acc : List Str), kvs.map (·.1) = acc.map .inr → (merge kvs (ns.map fun n => (.inr n, v))).map (·.1) = (ddS acc ns).map .inr
  | [], _, _, h => h
  | n :: ns, kvs, acc, h => by
    show (merge (vput kvs (.inr n) v) (ns.map fun n => (.inr n, v))).map (·.1) = (ddS (if n ∈ acc then acc else acc ++ [n]) ns).map .inr
    refine keys_merge v ns _ _ ?_
    rw [vput_keys, h]
    have hm : ((.inr n : Ky) ∈ acc.map (Sum.inr : Str → Ky)) ↔ n ∈ acc := by
      rw [List.mem_map]
      exact ⟨fun ⟨m, hm, e⟩ => by rw [← Sum.inr.inj e]; exact hm, fun h => ⟨n, h, rfl⟩⟩
    by_cases hc : n ∈ acc
    · rw [if_pos hc, if_pos (hm.mpr hc)]
    · rw [if_neg hc, if_neg (fun z => hc (hm.mp z)), List.map_append]; rfl
theorem ddS_nd : ∀ (ns acc : List Str), acc.Nodup → (ddS acc ns).Nodup
  | [], _, h => h
  | n :: ns, acc, h => by
    refine ddS_nd ns _ ?_
    show (if n ∈ acc then acc else acc ++ [n]).Nodup
    split
    · exact h
    · rename_i hn
      rw [List.nodup_append]
      exact ⟨h, by simp, fun a ha b hb => by rw [List.mem_singleton.mp hb]; exact fun e => hn (e ▸ ha)⟩
theorem ddS_mem : ∀ (ns acc : List Str) (m : Str), m ∈ ddS acc ns ↔ m ∈ acc ∨ m ∈ ns
  | [], acc, m => by simp [ddS]
  | n :: ns, acc, m => by
    have := ddS_mem ns (if n ∈ acc then acc else acc ++ [n]) m
    refine Iff.trans this ?_
    by_cases hc : n ∈ acc
    · rw [if_pos hc, List.mem_cons]
      exact ⟨fun h => h.elim .inl fun h => .inr (.inr h), fun h => h.elim .inl fun h => h.elim (fun e => .inl (e ▸ hc)) .inr⟩
    · rw [if_neg hc]
      simp only [List.mem_append, List.mem_cons, List.not_mem_nil, or_false]
      exact ⟨fun h => h.elim (fun h => h.elim .inl fun h => .inr (.inl h)) fun h => .inr (.inr h), fun h => h.elim (fun h => .inl (.inl h)) fun h => h.elim (fun h => .inl (.inr h)) .inr⟩
theorem dd_mem (ns : List Str) (m : Str) : m ∈ dd ns ↔ m ∈ ns := by
  have := ddS_mem ns [] m
  simpa [dd] using this
theorem dd_nd (ns : List Str) : (dd ns).Nodup := ddS_nd ns [] List.nodup_nil
theorem nd_len : ∀ (l U : List Str), l.Nodup → (∀ x ∈ l, x ∈ U) → l.length ≤ U.length
  | [], _, _, _ => Nat.zero_le _
  | x :: l, U, h, hs => by
    obtain ⟨h1, h2⟩ := List.nodup_cons.mp h
    have hx := hs x List.mem_cons_self
    have := nd_len l (U.erase x) h2 fun y hy => (List.mem_erase_of_ne (fun e : y = x => h1 (by rw [← e]; exact hy))).mpr (hs y (List.mem_cons_of_mem _ hy))
    rw [List.length_erase_of_mem hx] at this
    have : 0 < U.length := List.length_pos_of_mem hx
    simp only [List.length_cons]; omega
/-- the names of equations, in order -/
def nmsD (ds : List D) : D := .tup ((sortS (dd (allN ds))).map .str)
structure NB (ds : List D) : Prop where
  all : (allN ds).length ≤ 100000
  key : (dd (allN ds)).length < 64
theorem sort_dic {ds : List D} (h : NB ds) : sortKD ((merge [] ((allN ds).map fun n => (.inr n, (.bl true : D)))).map (·.1)) = some (.lst ((sortS (dd (allN ds))).map .str)) := by
  rw [keys_merge (.bl true) (allN ds) [] [] rfl]
  unfold sortKD
  rw [if_pos (by rw [List.length_map]; exact h.key), kstrs_map]
  rfl
abbrev DC2 : Ex := .dc2 (.var 4) (.con (.bl true)) (.tp [.nm 2, .nm 3]) (.itv (.var 0)) [] (.tp [.nm 4, .nm 5]) (.ix (.var 3) (.con (.int 1))) [] [2, 3, 4, 5] [4, 5]
theorem e_dc2 {Γ : MP.Ctx} {k v it it1 : Ex} {tg tg1 : Tg} {cnd cnd1 : List Ex} {own own1 : List Nat} {ρ : MP.Env} {S : Sto} {xs : List D} {g : Option Nat} {yss : List (List (Ky × D))} (hi : evI Γ it ρ S = .ok (xs, g) S)
    (hc : compR (dc2F (fun ρ S => evE Γ k ρ S) (fun ρ S => evE Γ v ρ S) (fun ρ S => evAll Γ cnd ρ S) (fun ρ S => evAll Γ cnd1 ρ S) (fun ρ S => evE Γ it1 ρ S) tg tg1 own own1 ρ g) xs S = .ok yss S) (hl : yss.flatten.length ≤ LIM) : evE Γ (.dc2 k v tg it cnd tg1 it1 cnd1 own own1) ρ S = .ok (.dic (merge [] yss.flatten)) S := by
  simp only [evE, hi, R.bind, hc, if_pos hl]
theorem dcF_all (Γ : MP.Ctx) (S : Sto) (v0 a b : Option D) (f : D) : ∀ l : List (Str × Int), compR (dcF (fun ρ S => evE Γ (.var 4) ρ S) (fun ρ S => evE Γ (.con (.bl true)) ρ S) (fun ρ S => evAll Γ [] ρ S) (.tp [.nm 4, .nm 5]) [4, 5] [v0, a, b, some f, none, none] none) (l.map itP) S = .ok (l.map fun p => (.inr p.1, .bl true)) S
  | [] => rfl
  | p :: l => by
    have ih := dcF_all Γ S v0 a b f l
    have e1 : dcF (fun ρ S => evE Γ (.var 4) ρ S) (fun ρ S => evE Γ (.con (.bl true)) ρ S) (fun ρ S => evAll Γ [] ρ S) (.tp [.nm 4, .nm 5]) [4, 5] [v0, a, b, some f, none, none] none (itP p) S = .ok (some (.inr p.1, .bl true)) S := rfl
    simp only [List.map_cons, compR, e1, R.bind, ih]
theorem dc2_all (Γ : MP.Ctx) (S : Sto) (v0 x1 x2 x3 x4 x5 : Option D) : ∀ qs : List (Int × List (Str × Int)), compR (dc2F (fun ρ S => evE Γ (.var 4) ρ S) (fun ρ S => evE Γ (.con (.bl true)) ρ S) (fun ρ S => evAll Γ [] ρ S) (fun ρ S => evAll Γ [] ρ S) (fun ρ S => evE Γ (.ix (.var 3) (.con (.int 1))) ρ S) (.tp [.nm 2, .nm 3]) (.tp [.nm 4, .nm 5]) [2, 3, 4, 5] [4, 5] [v0, x1, x2, x3, x4, x5] none) (qs.map eqP) S = .ok (qs.map fun q => q.2.map fun p => (.inr p.1, .bl true)) S
  | [] => rfl
  | q :: qs => by
    have ih := dc2_all Γ S v0 x1 x2 x3 x4 x5 qs
    have h1 := dcF_all Γ S v0 x1 (some (.str "zero")) (.tup [.int q.1, .tup (q.2.map itP)]) q.2
    have e1 : dc2F (fun ρ S => evE Γ (.var 4) ρ S) (fun ρ S => evE Γ (.con (.bl true)) ρ S) (fun ρ S => evAll Γ [] ρ S) (fun ρ S => evAll Γ [] ρ S) (fun ρ S => evE Γ (.ix (.var 3) (.con (.int 1))) ρ S) (.tp [.nm 2, .nm 3]) (.tp [.nm 4, .nm 5]) [2, 3, 4, 5] [4, 5] [v0, x1, x2, x3, x4, x5] none (eqP q) S = .ok (some (q.2.map fun p => (.inr p.1, .bl true))) S := by
      have hbt : bindT (.tp [.nm 2, .nm 3]) (eqP q) (wipe [v0, x1, x2, x3, x4, x5] [2, 3, 4, 5]) = some [v0, x1, some (.str "zero"), some (.tup [.int q.1, .tup (q.2.map itP)]), none, none] := rfl
      have hev : evE Γ (.ix (.var 3) (.con (.int 1))) [v0, x1, some (.str "zero"), some (.tup [.int q.1, .tup (q.2.map itP)]), none, none] S = .ok (.tup (q.2.map itP)) S := rfl
      have hal : ∀ ρ, evAll Γ [] ρ S = .ok true S := fun _ => rfl
      simp only [dc2F, hbt, hal, R.bind, if_true, hev, tupR, h1, held, noExc]
    simp only [List.map_cons, compR, e1, R.bind, ih]
theorem names_eval {ds : List D} (Γ : MP.Ctx) (S : Sto) (hg : ∀ d ∈ ds, goodE d = true) (h : NB ds) (x1 x2 x3 x4 x5 : Option D) : evE Γ DC2 [some (.tup ds), x1, x2, x3, x4, x5] S = .ok (.dic (merge [] ((allN ds).map fun n => (.inr n, .bl true)))) S := by
  have : ∃ qs : List (Int × List (Str × Int)), ds = qs.map eqP := by
    clear h
    induction ds with
    | nil => exact ⟨[], rfl⟩
    | cons d ds ih =>
      obtain ⟨q, rfl, _⟩ := good_form (hg d List.mem_cons_self)
      obtain ⟨qs, rfl⟩ := ih fun x hx => hg x (List.mem_cons_of_mem _ hx)
      exact ⟨q :: qs, rfl⟩
  obtain ⟨qs, rfl⟩ := this
  have hf : ((qs.map fun q => q.2.map fun p => ((.inr p.1 : Ky), (.bl true : D))).flatten) = (allN (qs.map eqP)).map fun n => (.inr n, .bl true) := by
    unfold allN
    rw [List.map_flatten, List.map_map, List.map_map]
    congr 1
    refine List.map_congr_left fun q _ => ?_
    simp only [Function.comp, nmsE_eqP, List.map_map]
    rfl
  have hi : evI Γ (.itv (.var 0)) [some (.tup (qs.map eqP)), x1, x2, x3, x4, x5] S = .ok (qs.map eqP, none) S := rfl
  have hlen : ((qs.map fun q => q.2.map fun p => ((.inr p.1 : Ky), (.bl true : D))).flatten).length ≤ LIM := by
    rw [hf, List.length_map]; exact Nat.le_trans h.all (by decide)
  refine (e_dc2 hi (dc2_all Γ S _ _ _ _ _ _ qs) hlen).trans ?_
  rw [hf]
theorem r_names {ds : List D} (k : Nat) (S : Sto) (hg : ∀ d ∈ ds, goodE d = true) (h : NB ds) : run P0 (k + 1) 7 [.tup ds] S = .ok (nmsD ds) S := by
  refine call_dry0 f_names_by rfl rfl (seq_nx (s_asg (names_eval (Γr k) S hg h none none none none none) rfl) (seq_ret (s_ret (tup_lc (e_bi1 (e_var rfl) (sort_dic h)))))) ?_
  exact dryL_map (fun n : Str => (.str n : D)) _ fun _ _ => rfl
/-! ### equations_fault -/
def eqF : D → D
  | .tup ds => if 40 < ds.length then FORM else match firstBad 0 ds with
    | some m => .tup [.str "saying", .int m]
    | none => if 12 < (dd (allN ds)).length then .tup [.str "names"] else .non
  | _ => FORM
theorem nms_len (ds : List D) : ((sortS (dd (allN ds))).map D.str).length = (dd (allN ds)).length := by rw [List.length_map, len_sortS]
theorem gt_len {Γ : MP.Ctx} {S : Sto} {e e' : Ex} {ρ : MP.Env} {xs : List D} {n : Nat} (h : evE Γ e ρ S = .ok (.tup xs) S) (h2 : evE Γ e' ρ S = .ok (.int n) S) : evE Γ (.cmp .Gt (.bi .len [e]) e') ρ S = .ok (.bl (decide (n < xs.length))) S :=
  e_cmp (x := .int xs.length) (y := .int n) (len_tup Γ S h) h2 (by simp only [cmpD, ordD]; congr 1; exact decide_eq_decide.mpr (by omega))
theorem r_eqF (k : Nat) (S : Sto) {v : D} (h : dryS v = true) (hn : ∀ ds, v = .tup ds → (∀ d ∈ ds, goodE d = true) → ds.length ≤ 40 → NB ds) : run P0 (k + 4) 8 [v] S = .ok (eqF v) S := by
  have h1 := e_nottup (Γ := Γr (k + 3)) (S := S) (e := .var 0) (ρ := [some v, none, none]) (e_var rfl) (dryS_dry h)
  cases hv : istup v with
  | false =>
    rw [hv] at h1
    have : eqF v = FORM := by cases v <;> first | rfl | (simp [istup] at hv)
    rw [this]
    exact call_dry0 f_equations_fault rfl rfl (if_ret (b := true) (e_or_t h1) rfl (seq_ret (s_ret rfl))) rfl
  | true =>
    rw [hv] at h1
    obtain ⟨ds, rfl⟩ := tup_of hv
    have h2 := gt_len (Γ := Γr (k + 3)) (S := S) (e := .var 0) (e' := .glo "MOST_EQUATIONS" (.int 40)) (ρ := [some (.tup ds), none, none]) (xs := ds) (n := 40) rfl rfl
    by_cases hl : 40 < ds.length
    · rw [decide_eq_true hl] at h2
      have : eqF (.tup ds) = FORM := by simp only [eqF, if_pos hl]
      rw [this]
      exact call_dry0 f_equations_fault rfl rfl (if_ret (b := true) (e_or_f h1 (e_or_1 h2)) rfl (seq_ret (s_ret rfl))) rfl
    · rw [decide_eq_false hl] at h2
      have hit : evI (Γr (k + 3)) (.enm (.var 0)) [some (.tup ds), none, none] S = .ok ((ds.zipIdx 0).map fun q => .tup [.int q.2, q.1], none) S := by
        refine i_enm (d := .tup ds) rfl ?_
        have := enumD_map (fun d : D => d) 0 ds
        simp only [List.map_id'] at this
        simp only [enmD, itemsOf, Option.map_some, this]
      have hlp := loopE k S (.tup ds) ds 0 none none (dryLS_mem (by simpa only [dryS] using h))
      cases hs : firstBad 0 ds with
      | some m =>
        rw [hs] at hlp
        have : eqF (.tup ds) = .tup [.str "saying", .int m] := by simp only [eqF, if_neg hl, hs]
        rw [this]
        exact call_dry0 f_equations_fault rfl rfl (if_skip (b := false) (e_or_f h1 (e_or_1 h2)) rfl (seq_ret ((s_for hit).trans hlp))) rfl
      | none =>
        rw [hs] at hlp
        obtain ⟨y1, y2, e⟩ := hlp
        have hg := firstBad_none ds 0 hs
        have h3 := gt_len (Γ := Γr (k + 3)) (S := S) (e := .call 7 [.var 0]) (e' := .glo "MOST_NAMES" (.int 12)) (ρ := [some (.tup ds), y1, y2]) (xs := (sortS (dd (allN ds))).map .str) (n := 12) (e_call (l_cons (e_var rfl) l_nil) (r_names (k + 2) S hg (hn ds rfl hg (by omega)))) rfl
        rw [nms_len] at h3
        have pre : ∀ {d : D}, evE (Γr (k + 3)) (.ite (.cmp .Gt (.bi .len [.call 7 [.var 0]]) (.glo "MOST_NAMES" (.int 12))) (.tup [.con (.str "names")]) (.con .non)) [some (.tup ds), y1, y2] S = .ok d S → dry d = true → run P0 (k + 4) 8 [.tup ds] S = .ok d S := fun he hd =>
          call_dry0 f_equations_fault rfl rfl (if_skip (b := false) (e_or_f h1 (e_or_1 h2)) rfl (seq_nx ((s_for hit).trans e) (seq_ret (s_ret he)))) hd
        by_cases hc : 12 < (dd (allN ds)).length
        · rw [decide_eq_true hc] at h3
          have : eqF (.tup ds) = .tup [.str "names"] := by simp only [eqF, if_neg hl, hs, if_pos hc]
          rw [this]
          exact pre (e_ite_t h3 rfl) rfl
        · rw [decide_eq_false hc] at h3
          have : eqF (.tup ds) = .non := by simp only [eqF, if_neg hl, hs, if_neg hc]
          rw [this]
          exact pre (e_ite_f h3 rfl) rfl
end K05
end

section
set_option Elab.async false
set_option linter.all false
set_option maxRecDepth 100000
/-! K05Q: the law's own look at equations (plain); words. -/
namespace K05
open PySem MP MP.Lb MP.Fm
theorem r_lint (k : Nat) (S : Sto) : ∀ {d : D}, dry d = true → run P0 (k + 1) 17 [d] S = .ok (.bl (isI d)) S
  | .int _, _ | .bl _, _ | .str _, _ | .tup _, _ | .lst _, _ | .rol _, _ | .dic _, _ | .non, _ => call_dry0 f__law_is_int rfl rfl rfl rfl
  | .ref _, h => by simp [dry] at h
  | .dit _, h => by simp [dry] at h
def LF : Str := "abcdefghijklmnopqrstuvwxyz0123456789"
theorem lf_sgn (c : Nat) : decide (c ∈ LF.cps.toList) = sgnB c := by
  have : LF.cps.toList = LETS.cps.toList ++ FIGS.cps.toList := by decide +kernel
  rw [this, sgnB, ← Bool.decide_or]
  exact decide_eq_decide.mpr List.mem_append
abbrev C7 : Ex := .or [.not (.isi (.var 2) .tuple), .cmp .NotEq (.bi .len [.var 2]) (.con (.int 2)), .not (.isi (.ix (.var 2) (.con (.int 0))) .str), .not (.call 17 [.ix (.var 2) (.con (.int 1))]), .cmp .Eq (.ix (.var 2) (.con (.int 1))) (.con (.int 0)), .cmp .LtE (.ix (.var 2) (.con (.int 0))) (.var 1), .not (.chn .Lt .Lt (.con (.int 0)) (.bi .len [.ix (.var 2) (.con (.int 0))]) (.con (.int 9)))]
abbrev C2 : Ex := .or [.cmp .NotIn (.ix (.ix (.var 2) (.con (.int 0))) (.con (.int 0))) (.con (.str "abcdefghijklmnopqrstuvwxyz")), .not (.bi .all [.lc (.cmp .In (.var 3) (.con (.str "abcdefghijklmnopqrstuvwxyz0123456789"))) (.nm 3) (.itv (.ix (.var 2) (.con (.int 0)))) [] [3]])]
abbrev bodyS : List Sm := [.ifs C7 [.ret (.con (.bl false))] [], .ifs C2 [.ret (.con (.bl false))] [], .asg (.nm 1) (.ix (.var 2) (.con (.int 0)))]
theorem bodyS_ok (k : Nat) (S : Sto) (v : D) (last : Str) (x3 : Option D) {d : D} (h : dryS d = true) : evSs (Γr (k + 1)) bodyS [some v, some (.str last), some d, x3] S = (match itm last d with
    | some n => .ok (.nx [some v, some (.str n), some d, x3]) S
    | none => .ok (.ret (.bl false)) S) := by
  have h1 := e_nottup (Γ := Γr (k + 1)) (S := S) (e := .var 2) (ρ := [some v, some (.str last), some d, x3]) (e_var rfl) (dryS_dry h)
  cases hv : istup d with
  | false =>
    rw [hv] at h1
    have : itm last d = none := by cases d <;> first | rfl | (simp [istup] at hv)
    rw [this]
    exact if_ret (b := true) (e_or_t h1) rfl (seq_ret (s_ret rfl))
  | true =>
    rw [hv] at h1
    obtain ⟨xs, rfl⟩ := tup_of hv
    by_cases hl : xs.length = 2
    · match xs, hl with
      | [x, y], _ =>
      have hxy : dryS x = true ∧ dryS y = true := by
        simp only [dryS, dryLS, Bool.and_eq_true] at h
        exact ⟨h.1, h.2.1⟩
      have h2 : evE (Γr (k + 1)) (.cmp .NotEq (.bi .len [.var 2]) (.con (.int 2))) [some v, some (.str last), some (.tup [x, y]), x3] S = .ok (.bl false) S := rfl
      have h3 := e_not (e_isi (Γ := Γr (k + 1)) (e := .ix (.var 2) (.con (.int 0))) (ρ := [some v, some (.str last), some (.tup [x, y]), x3]) (S := S) (S' := S) (d := x) (t := .str) rfl (isTy_str (dryS_dry hxy.1)))
      cases x with
      | str z =>
        have hz : z.length ≤ 1000 := of_decide_eq_true hxy.1
        have h4 : evE (Γr (k + 1)) (.not (.call 17 [.ix (.var 2) (.con (.int 1))])) [some v, some (.str last), some (.tup [.str z, y]), x3] S = .ok (.bl (!isI y)) S := e_not (e_call (l_cons (d := y) rfl l_nil) (r_lint k S (dryS_dry hxy.2)))
        cases y with
        | int i =>
          have h5 : evE (Γr (k + 1)) (.cmp .Eq (.ix (.var 2) (.con (.int 1))) (.con (.int 0))) [some v, some (.str last), some (.tup [.str z, .int i]), x3] S = .ok (.bl (i == 0)) S := rfl
          have h6 : evE (Γr (k + 1)) (.cmp .LtE (.ix (.var 2) (.con (.int 0))) (.var 1)) [some v, some (.str last), some (.tup [.str z, .int i]), x3] S = .ok (.bl (!ltS last z)) S := rfl
          have hlen : evE (Γr (k + 1)) (.bi .len [.ix (.var 2) (.con (.int 0))]) [some v, some (.str last), some (.tup [.str z, .int i]), x3] S = .ok (.int z.length) S := e_bi1 (d := .str z) rfl (by
            simp only [bi1, lenD]
            rw [if_pos (Nat.le_trans hz (by decide))])
          have h7 : evE (Γr (k + 1)) (.not (.chn .Lt .Lt (.con (.int 0)) (.bi .len [.ix (.var 2) (.con (.int 0))]) (.con (.int 9)))) [some v, some (.str last), some (.tup [.str z, .int i]), x3] S = .ok (.bl (!(decide (1 ≤ z.length) && decide (z.length ≤ 8)))) S := by
            refine e_not ?_
            by_cases hc : 1 ≤ z.length
            · rw [decide_eq_true hc, Bool.true_and]
              refine e_chn_t (x := .int 0) (y := .int z.length) (z := .int 9) rfl hlen ?_ rfl ?_
              · simp only [cmpD, ordD]; congr 1; exact decide_eq_true (by omega)
              · simp only [cmpD, ordD]; congr 1; exact decide_eq_decide.mpr (by omega)
            · rw [decide_eq_false hc, Bool.false_and]
              refine e_chn_f (x := .int 0) (y := .int z.length) rfl hlen ?_
              simp only [cmpD, ordD]; congr 1; exact decide_eq_false (by omega)
          have hcond : itm last (.tup [.str z, .int i]) = if nameB z && (ltS last z && !(i == 0)) then some z else none := rfl
          cases c5 : i == 0 with
          | true =>
            rw [c5] at h5
            rw [hcond, c5]
            simp only [Bool.not_true, Bool.and_false, Bool.false_eq_true, if_false]
            exact if_ret (b := true) (e_or_f h1 (e_or_f h2 (e_or_f h3 (e_or_f h4 (e_or_t h5))))) rfl (seq_ret (s_ret rfl))
          | false =>
            rw [c5] at h5
            cases c6 : ltS last z with
            | false =>
              rw [c6] at h6
              rw [hcond, c6]
              simp only [Bool.false_and, Bool.and_false, Bool.false_eq_true, if_false]
              exact if_ret (b := true) (e_or_f h1 (e_or_f h2 (e_or_f h3 (e_or_f h4 (e_or_f h5 (e_or_t h6)))))) rfl (seq_ret (s_ret rfl))
            | true =>
              rw [c6] at h6
              rw [hcond, c5, c6]
              cases c7 : (decide (1 ≤ z.length) && decide (z.length ≤ 8)) with
              | false =>
                rw [c7] at h7
                have : nameB z = false := by simp [nameB, c7]
                rw [this]
                simp only [Bool.false_and, Bool.false_eq_true, if_false]
                exact if_ret (b := true) (e_or_f h1 (e_or_f h2 (e_or_f h3 (e_or_f h4 (e_or_f h5 (e_or_f h6 (e_or_1 h7))))))) rfl (seq_ret (s_ret rfl))
              | true =>
                rw [c7] at h7
                refine if_skip (b := false) (e_or_f h1 (e_or_f h2 (e_or_f h3 (e_or_f h4 (e_or_f h5 (e_or_f h6 (e_or_1 h7))))))) rfl ?_
                have hpos : 1 ≤ z.cps.toList.length := by
                  rw [← len_str]
                  simp only [Bool.and_eq_true, decide_eq_true_eq] at c7
                  exact c7.1
                obtain ⟨c, r, hcr⟩ : ∃ c r, z.cps.toList = c :: r := by
                  cases e : z.cps.toList with
                  | nil => rw [e] at hpos; simp at hpos
                  | cons c r => exact ⟨c, r, rfl⟩
                have h8 : evE (Γr (k + 1)) (.cmp .NotIn (.ix (.ix (.var 2) (.con (.int 0))) (.con (.int 0))) (.con (.str LETS))) [some v, some (.str last), some (.tup [.str z, .int i]), x3] S = .ok (.bl (!headB z.cps.toList)) S := by
                  refine e_cmp (x := sgn c) (y := .str LETS) (e_ix (x := .str z) (y := .int 0) rfl rfl ?_) rfl ?_
                  · simp only [ixD]
                    rw [if_pos (Nat.le_trans hz (by decide)), hcr]
                    show (L2.atI (c :: r) ((0 : Nat) : Int)).map sgn = _
                    rw [L2.atI_nat (show (c :: r)[0]? = some c from rfl)]; rfl
                  · rw [hcr]; rfl
                have h9 := all_lc (Γ := Γr (k + 1)) (ρ := [some v, some (.str last), some (.tup [.str z, .int i]), x3]) (S := S) z.cps.toList sgnB (e := .lc (.cmp .In (.var 3) (.con (.str LF))) (.nm 3) (.itv (.ix (.var 2) (.con (.int 0)))) [] [3]) (lc_map z.cps.toList sgn _ (i_itv (d := .str z) rfl rfl) (fun c _ => ⟨[some v, some (.str last), some (.tup [.str z, .int i]), some (sgn c)], rfl, e_cmp (x := sgn c) (y := .str LF) (e_var rfl) rfl (by rw [← lf_sgn]; rfl)⟩) (by rw [← len_str]; exact Nat.le_trans hz (by decide)))
                cases c8 : headB z.cps.toList with
                | false =>
                  rw [c8] at h8
                  have : nameB z = false := by simp [nameB, c8]
                  rw [this]
                  simp only [Bool.false_and, Bool.false_eq_true, if_false]
                  exact if_ret (b := true) (e_or_t h8) rfl (seq_ret (s_ret rfl))
                | true =>
                  rw [c8] at h8
                  have hnb : nameB z = z.cps.toList.all sgnB := by simp only [nameB, c7, c8, Bool.true_and]
                  rw [hnb]
                  cases c9 : z.cps.toList.all sgnB with
                  | false =>
                    rw [c9] at h9
                    simp only [Bool.false_and, Bool.false_eq_true, if_false]
                    exact if_ret (b := true) (e_or_f h8 (e_or_1 (e_not h9))) rfl (seq_ret (s_ret rfl))
                  | true =>
                    rw [c9] at h9
                    simp only [Bool.not_false, Bool.and_self, if_true]
                    exact if_skip (b := false) (e_or_f h8 (e_or_1 (e_not h9))) rfl (seq_nx (s_asg (d := .str z) rfl rfl) rfl)
        | _ => exact if_ret (b := true) (e_or_f h1 (e_or_f h2 (e_or_f h3 (e_or_t h4)))) rfl (seq_ret (s_ret rfl))
      | _ => exact if_ret (b := true) (e_or_f h1 (e_or_f h2 (e_or_t h3))) rfl (seq_ret (s_ret rfl))
    · have : itm last (.tup xs) = none := by
        match xs, hl with
        | [], _ => rfl
        | [_], _ => rfl
        | [_, _], h => exact absurd rfl h
        | _ :: _ :: _ :: _, _ => rfl
      rw [this]
      exact if_ret (b := true) (e_or_f h1 (e_or_t (len_ne (e_var rfl) hl))) rfl (seq_ret (s_ret rfl))
theorem loopS (k : Nat) (S : Sto) (v : D) : ∀ (ds : List D) (j : Nat) (last : Str) (x2 x3 : Option D), (∀ d ∈ ds, dryS d = true) →
    (match scan last j ds with
      | none => ∃ y1 y2, forR none (forF (fun ρ S => evSs (Γr (k + 1)) bodyS ρ S) (.nm 2)) ds [some v, some (.str last), x2, x3] S = .ok (.nx [some v, y1, y2, x3]) S
      | some _ => forR none (forF (fun ρ S => evSs (Γr (k + 1)) bodyS ρ S) (.nm 2)) ds [some v, some (.str last), x2, x3] S = .ok (.ret (.bl false)) S)
  | [], j, last, x2, x3, _ => ⟨_, _, rfl⟩
  | d :: ds, j, last, x2, x3, h => by
    have hb := bodyS_ok k S v last x3 (h d List.mem_cons_self)
    simp only [scan]
    cases hi : itm last d with
    | none =>
      rw [hi] at hb
      exact for_ret ((forF_eq rfl).trans hb)
    | some n =>
      rw [hi] at hb
      have ih := loopS k S v ds (j + 1) n (some d) x3 (fun x hx => h x (List.mem_cons_of_mem _ hx))
      simp only at hb ⊢
      cases hs : scan n (j + 1) ds with
      | none =>
        rw [hs] at ih
        obtain ⟨y1, y2, e⟩ := ih
        exact ⟨y1, y2, (for_nx ((forF_eq rfl).trans hb)).trans e⟩
      | some m =>
        rw [hs] at ih
        exact (for_nx ((forF_eq rfl).trans hb)).trans ih
/-- what may be compared with a text -/
def Zs (v : D) : Prop := ∀ z b, v = .tup [z, b] → shp z 60 = true
abbrev envS (v : D) : MP.Env := [some v, none, none, none]
theorem r_lsay (k : Nat) (S : Sto) {v : D} (h : dryS v = true) (hz : Zs v) : run P0 (k + 2) 18 [v] S = .ok (.bl (goodE v)) S := by
  have ret : ∀ {b : Bool}, evSs (Γr (k + 1)) f__law_is_saying.body (envS v) S = .ok (.ret (.bl b)) S → run P0 (k + 2) 18 [v] S = .ok (.bl b) S := fun e => call_dry0 f__law_is_saying rfl rfl e rfl
  have h1 := e_nottup (Γ := Γr (k + 1)) (S := S) (e := .var 0) (ρ := envS v) (e_var rfl) (dryS_dry h)
  cases hv : istup v with
  | false =>
    rw [hv] at h1
    have : goodE v = false := by cases v <;> first | rfl | (simp [istup] at hv)
    rw [this]
    exact ret (if_ret (b := true) (e_or_t h1) rfl (seq_ret (s_ret rfl)))
  | true =>
    rw [hv] at h1
    obtain ⟨xs, rfl⟩ := tup_of hv
    by_cases hl : xs.length = 2
    · match xs, hl with
      | [z, b], _ =>
      have hzb : dryS z = true ∧ dryS b = true := by
        simp only [dryS, dryLS, Bool.and_eq_true] at h
        exact ⟨h.1, h.2.1⟩
      have h2 : evE (Γr (k + 1)) (.cmp .NotEq (.bi .len [.var 0]) (.con (.int 2))) (envS (.tup [z, b])) S = .ok (.bl false) S := rfl
      have h3 : evE (Γr (k + 1)) (.cmp .NotEq (.ix (.var 0) (.con (.int 0))) (.con (.str "zero"))) (envS (.tup [z, b])) S = .ok (.bl (!eqv z (.str "zero"))) S := e_cmp (x := z) (y := .str "zero") rfl rfl (by
        simp only [cmpD, hz z b rfl, shp, Bool.and_self, if_true])
      cases he : eqv z (.str "zero") with
      | false =>
        rw [he] at h3
        have : goodE (.tup [z, b]) = false := by
          cases z with
          | str z =>
            have : (z == ("zero" : Str)) = false := by simpa only [eqv] using he
            unfold goodE
            split
            · rename_i heq; cases heq; rw [this]; rfl
            · rfl
          | _ => rfl
        rw [this]
        exact ret (if_ret (b := true) (e_or_f h1 (e_or_f h2 (e_or_t h3))) rfl (seq_ret (s_ret rfl)))
      | true =>
        rw [he] at h3
        obtain rfl : z = .str "zero" := by
          cases z with
          | str z =>
            have : (z == ("zero" : Str)) = true := by simpa only [eqv] using he
            rw [beq_iff_eq.mp this]
          | _ => simp [eqv] at he
        have h4 := e_nottup (Γ := Γr (k + 1)) (S := S) (e := .ix (.var 0) (.con (.int 1))) (ρ := envS (.tup [.str "zero", b])) (v := b) rfl (dryS_dry hzb.2)
        cases hb : istup b with
        | false =>
          rw [hb] at h4
          have : goodE (.tup [.str "zero", b]) = false := by cases b <;> first | rfl | (simp [istup] at hb)
          rw [this]
          exact ret (if_ret (b := true) (e_or_f h1 (e_or_f h2 (e_or_f h3 (e_or_t h4)))) rfl (seq_ret (s_ret rfl)))
        | true =>
          rw [hb] at h4
          obtain ⟨ys, rfl⟩ := tup_of hb
          by_cases hl2 : ys.length = 2
          · match ys, hl2 with
            | [c, b], _ =>
            have hcb : dryS c = true ∧ dryS b = true := by
              have := hzb.2
              simp only [dryS, dryLS, Bool.and_eq_true] at this
              exact ⟨this.1, this.2.1⟩
            have h5 : evE (Γr (k + 1)) (.cmp .NotEq (.bi .len [.ix (.var 0) (.con (.int 1))]) (.con (.int 2))) (envS (.tup [.str "zero", .tup [c, b]])) S = .ok (.bl false) S := rfl
            have h6 : evE (Γr (k + 1)) (.not (.call 17 [.ix (.ix (.var 0) (.con (.int 1))) (.con (.int 0))])) (envS (.tup [.str "zero", .tup [c, b]])) S = .ok (.bl (!isI c)) S := e_not (e_call (l_cons (d := c) rfl l_nil) (r_lint k S (dryS_dry hcb.1)))
            have pre : ∀ {r : RS}, evSs (Γr (k + 1)) (f__law_is_saying.body.drop 1) (envS (.tup [.str "zero", .tup [c, b]])) S = r → evSs (Γr (k + 1)) f__law_is_saying.body (envS (.tup [.str "zero", .tup [c, b]])) S = r := fun e =>
              if_skip (b := false) (e_or_f h1 (e_or_f h2 (e_or_f h3 (e_or_f h4 (e_or_1 h5))))) rfl e
            cases hi : isI c with
            | false =>
              rw [hi] at h6
              have : goodE (.tup [.str "zero", .tup [c, b]]) = false := by
                unfold goodE
                split
                · rename_i heq; cases heq; rw [hi]; simp
                · rfl
              rw [this]
              exact ret (pre (if_ret (b := true) (e_or_t h6) rfl (seq_ret (s_ret rfl))))
            | true =>
              rw [hi] at h6
              have h7 := e_nottup (Γ := Γr (k + 1)) (S := S) (e := .ix (.ix (.var 0) (.con (.int 1))) (.con (.int 1))) (ρ := envS (.tup [.str "zero", .tup [c, b]])) (v := b) rfl (dryS_dry hcb.2)
              cases hb2 : istup b with
              | false =>
                rw [hb2] at h7
                have : goodE (.tup [.str "zero", .tup [c, b]]) = false := by cases b <;> first | rfl | (simp [istup] at hb2)
                rw [this]
                exact ret (pre (if_ret (b := true) (e_or_f h6 (e_or_1 h7)) rfl (seq_ret (s_ret rfl))))
              | true =>
                rw [hb2] at h7
                obtain ⟨ds, rfl⟩ := tup_of hb2
                have hit : evI (Γr (k + 1)) (.itv (.ix (.ix (.var 0) (.con (.int 1))) (.con (.int 1)))) [some (.tup [.str "zero", .tup [c, .tup ds]]), some (.str ""), none, none] S = .ok (ds, none) S := i_itv (d := .tup ds) rfl rfl
                have hlp := loopS k S (.tup [.str "zero", .tup [c, .tup ds]]) ds 0 "" none none (dryLS_mem (by simpa only [dryS] using hcb.2))
                have hgd : goodE (.tup [.str "zero", .tup [c, .tup ds]]) = (scan "" 0 ds).isNone := by
                  simp only [goodE, hi, Bool.true_and, beq_self_eq_true]
                rw [hgd]
                cases hs : scan "" 0 ds with
                | none =>
                  rw [hs] at hlp
                  obtain ⟨y1, y2, e⟩ := hlp
                  exact ret (pre (if_skip (b := false) (e_or_f h6 (e_or_1 h7)) rfl (seq_nx (s_asg (d := .str "") rfl rfl) (seq_nx ((s_for hit).trans e) (seq_ret (s_ret rfl))))))
                | some m =>
                  rw [hs] at hlp
                  exact ret (pre (if_skip (b := false) (e_or_f h6 (e_or_1 h7)) rfl (seq_nx (s_asg (d := .str "") rfl rfl) (seq_ret ((s_for hit).trans hlp)))))
          · have : goodE (.tup [.str "zero", .tup ys]) = false := by
              match ys, hl2 with
              | [], _ => rfl
              | [_], _ => rfl
              | [_, _], h => exact absurd rfl h
              | _ :: x :: _ :: _, _ => cases x <;> rfl
            rw [this]
            exact ret (if_ret (b := true) (e_or_f h1 (e_or_f h2 (e_or_f h3 (e_or_f h4 (e_or_1 (len_ne (xs := ys) rfl hl2)))))) rfl (seq_ret (s_ret rfl)))
    · have : goodE (.tup xs) = false := by
        match xs, hl with
        | [], _ => rfl
        | [x], _ => cases x <;> rfl
        | [_, _], h => exact absurd rfl h
        | x :: y :: w :: t, _ =>
          unfold goodE
          split
          · rename_i heq; simp at heq
          · rfl
      rw [this]
      exact ret (if_ret (b := true) (e_or_f h1 (e_or_t (len_ne (e_var rfl) hl))) rfl (seq_ret (s_ret rfl)))
/-! ### the law's names -/
abbrev envN (v : D) (m : Nat) (x2 x3 x4 x5 : Option D) : MP.Env := [some v, some (.ref m), x2, x3, x4, x5]
abbrev atD (S : Sto) (kvs : List (Ky × D)) : Sto := S ++ [.dic kvs]
theorem get_atD (S : Sto) (kvs : List (Ky × D)) : Sto.get (atD S kvs) S.length = some (.dic kvs) := by simp [Sto.get, atD]
theorem set_atD (S : Sto) (kvs kvs' : List (Ky × D)) : (atD S kvs).set S.length (.dic kvs') = atD S kvs' := by simp [atD]
theorem vput_le (kvs : List (Ky × D)) (k : Ky) (d : D) : (vput kvs k d).length ≤ kvs.length + 1 := by
  unfold vput
  split <;> simp
theorem merge_le : ∀ (more kvs : List (Ky × D)), (merge kvs more).length ≤ kvs.length + more.length
  | [], kvs => by simp [merge]
  | m :: more, kvs => by
    have h1 := merge_le more (vput kvs m.1 m.2)
    have h2 := vput_le kvs m.1 m.2
    show (merge (vput kvs m.1 m.2) more).length ≤ _
    simp only [List.length_cons]; omega
theorem loopN (Γ : MP.Ctx) (S : Sto) (v : D) (x2 x3 : Option D) : ∀ (l : List (Str × Int)) (kvs : List (Ky × D)) (x4 x5 : Option D), kvs.length + l.length ≤ LIM → ∃ y4 y5, forR none (forF (fun ρ S => evSs Γ [.asgS (.var 1) (.var 4) (.con (.bl true))] ρ S) (.tp [.nm 4, .nm 5])) (l.map itP) (envN v S.length x2 x3 x4 x5) (atD S kvs) = .ok (.nx (envN v S.length x2 x3 y4 y5)) (atD S (merge kvs (l.map fun p => (.inr p.1, .bl true))))
  | [], kvs, x4, x5, _ => ⟨_, _, rfl⟩
  | p :: l, kvs, x4, x5, h => by
    have hl : kvs.length < LIM := by simp only [List.length_cons] at h; omega
    obtain ⟨y4, y5, e⟩ := loopN Γ S v x2 x3 l (vput kvs (.inr p.1) (.bl true)) (some (.str p.1)) (some (.int p.2)) (by
      have := vput_le kvs (.inr p.1) (.bl true)
      simp only [List.length_cons] at h; omega)
    refine ⟨y4, y5, (for_nx (S' := atD S (vput kvs (.inr p.1) (.bl true))) ((forF_eq rfl).trans (seq_nx (s_asgS (x := .ref S.length) (y := .str p.1) (v := .bl true) rfl rfl rfl ?_) rfl))).trans e⟩
    simp only [setD, get_atD, D.ky, if_pos hl, set_atD]
theorem loopN2 (Γ : MP.Ctx) (S : Sto) (v : D) : ∀ (qs : List (Int × List (Str × Int))) (kvs : List (Ky × D)) (x2 x3 x4 x5 : Option D), kvs.length + (allN (qs.map eqP)).length ≤ LIM → ∃ y2 y3 y4 y5, forR none (forF (fun ρ S => evSs Γ [.fors (.tp [.nm 4, .nm 5]) (.itv (.ix (.var 3) (.con (.int 1)))) [.asgS (.var 1) (.var 4) (.con (.bl true))]] ρ S) (.tp [.nm 2, .nm 3])) (qs.map eqP) (envN v S.length x2 x3 x4 x5) (atD S kvs) = .ok (.nx (envN v S.length y2 y3 y4 y5)) (atD S (merge kvs ((allN (qs.map eqP)).map fun n => (.inr n, .bl true))))
  | [], kvs, x2, x3, x4, x5, _ => ⟨_, _, _, _, rfl⟩
  | q :: qs, kvs, x2, x3, x4, x5, h => by
    have hcons : allN ((q :: qs).map eqP) = q.2.map (·.1) ++ allN (qs.map eqP) := by
      simp only [allN, List.map_cons, List.flatten_cons, nmsE_eqP]
    rw [hcons, List.length_append, List.length_map] at h
    obtain ⟨y4, y5, e1⟩ := loopN Γ S v (some (.str "zero")) (some (.tup [.int q.1, .tup (q.2.map itP)])) q.2 kvs x4 x5 (by omega)
    have hm := merge_le (q.2.map fun p => ((.inr p.1 : Ky), (.bl true : D))) kvs
    rw [List.length_map] at hm
    obtain ⟨z2, z3, z4, z5, e2⟩ := loopN2 Γ S v qs (merge kvs (q.2.map fun p => (.inr p.1, .bl true))) (some (.str "zero")) (some (.tup [.int q.1, .tup (q.2.map itP)])) y4 y5 (by omega)
    refine ⟨z2, z3, z4, z5, (for_nx ((forF_eq rfl).trans (seq_nx ((s_for (p := (q.2.map itP, none)) (i_itv (d := .tup (q.2.map itP)) rfl rfl)).trans e1) rfl))).trans ?_⟩
    rw [hcons, List.map_append, List.map_map]
    refine e2.trans ?_
    rw [merge, merge, merge, List.foldl_append]
    rfl
theorem good_all {ds : List D} (hg : ∀ d ∈ ds, goodE d = true) : ∃ qs : List (Int × List (Str × Int)), ds = qs.map eqP := by
  induction ds with
  | nil => exact ⟨[], rfl⟩
  | cons d ds ih =>
    obtain ⟨q, rfl, _⟩ := good_form (hg d List.mem_cons_self)
    obtain ⟨qs, rfl⟩ := ih fun x hx => hg x (List.mem_cons_of_mem _ hx)
    exact ⟨q :: qs, rfl⟩
theorem dry_nms (ds : List D) : dry (nmsD ds) = true := dryL_map (fun n : Str => (.str n : D)) _ fun _ _ => rfl
theorem r_lnames {ds : List D} (k : Nat) (S : Sto) (hg : ∀ d ∈ ds, goodE d = true) (h : NB ds) : run P0 (k + 1) 16 [.tup ds] S = .ok (nmsD ds) S := by
  obtain ⟨qs, rfl⟩ := good_all hg
  obtain ⟨y2, y3, y4, y5, e⟩ := loopN2 (Γr k) S (.tup (qs.map eqP)) qs [] none none none none (by simpa using Nat.le_trans h.all (by decide))
  refine call_dry (R := [.dic (merge [] ((allN (qs.map eqP)).map fun n => (.inr n, .bl true)))]) f__law_names rfl rfl (seq_nx (s_asg (d := .ref S.length) (S' := atD S []) rfl rfl) (seq_nx ((s_for (p := (qs.map eqP, none)) (i_itv (d := .tup (qs.map eqP)) rfl rfl)).trans e) (seq_ret (s_ret (tup_lc (e_bi1 (d := .ref S.length) (e_var rfl) ?_)))))) (dry_nms _)
  simp only [bi1, sortD, get_atD]
  exact sort_dic h
end K05
end

section
set_option Elab.async false
set_option linter.all false
set_option maxRecDepth 100000
/-! K05R: what is due, errors (plain). -/
namespace K05
open PySem MP MP.Lb MP.Fm
theorem badH : ∀ (ds : List D) (j : Nat), ((ds.zipIdx j).filter fun p => !goodE p.1).head?.map (·.2) = firstBad j ds
  | [], _ => rfl
  | d :: ds, j => by
    rw [List.zipIdx_cons, List.filter_cons, firstBad]
    cases hg : goodE d with
    | true =>
      simp only [Bool.not_true, Bool.false_eq_true, if_false, if_true]
      exact badH ds (j + 1)
    | false => simp
theorem ix_tup {Γ : MP.Ctx} {S : Sto} {e e' : Ex} {ρ : MP.Env} {xs : List D} {i : Nat} {d : D} (h : evE Γ e ρ S = .ok (.tup xs) S) (h2 : evE Γ e' ρ S = .ok (.int i) S) (hd : xs[i]? = some d) : evE Γ (.ix e e') ρ S = .ok d S :=
  e_ix h h2 (L2.atI_nat hd)
theorem r_due (k : Nat) (S : Sto) {v : D} (h : dryS v = true) (hz : ∀ ds, v = .tup ds → ∀ d ∈ ds, Zs d) (hn : ∀ ds, v = .tup ds → (∀ d ∈ ds, goodE d = true) → ds.length ≤ 40 → NB ds) : run P0 (k + 3) 19 [v] S = .ok (eqF v) S := by
  have h1 := e_nottup (Γ := Γr (k + 2)) (S := S) (e := .var 0) (ρ := [some v, none, none]) (e_var rfl) (dryS_dry h)
  cases hv : istup v with
  | false =>
    rw [hv] at h1
    have : eqF v = FORM := by cases v <;> first | rfl | (simp [istup] at hv)
    rw [this]
    exact call_dry0 f__law_due rfl rfl (if_ret (b := true) (e_or_t h1) rfl (seq_ret (s_ret rfl))) rfl
  | true =>
    rw [hv] at h1
    obtain ⟨ds, rfl⟩ := tup_of hv
    have h2 := gt_len (Γ := Γr (k + 2)) (S := S) (e := .var 0) (e' := .con (.int 40)) (ρ := [some (.tup ds), none, none]) (xs := ds) (n := 40) rfl rfl
    by_cases hl : 40 < ds.length
    · rw [decide_eq_true hl] at h2
      have : eqF (.tup ds) = FORM := by simp only [eqF, if_pos hl]
      rw [this]
      exact call_dry0 f__law_due rfl rfl (if_ret (b := true) (e_or_f h1 (e_or_1 h2)) rfl (seq_ret (s_ret rfl))) rfl
    · rw [decide_eq_false hl] at h2
      have hmem := dryLS_mem (l := ds) (by simpa only [dryS] using h)
      have hit : evI (Γr (k + 2)) (.rg1 (.bi .len [.var 0])) [some (.tup ds), none, none] S = .ok ((ds.zipIdx 0).map fun p => .int p.2, none) S := by
        refine (i_rg1 (j := ds.length) (len_tup _ S (e_var rfl)) (by simp only [SMALL]; omega)).trans ?_
        rw [rangeD_map, Int.toNat_natCast]
        have : (ds.zipIdx 0).map (fun p => (.int p.2 : D)) = ((ds.zipIdx 0).map Prod.snd).map fun i => .int (i : Nat) := by rw [List.map_map]; rfl
        rw [this, List.zipIdx_map_snd, ← List.range_eq_range']
        congr 2
        refine List.map_congr_left fun i _ => ?_
        rw [Int.zero_add]
      have hbad : evE (Γr (k + 2)) (.lc (.var 2) (.nm 2) (.rg1 (.bi .len [.var 0])) [.not (.call 18 [.ix (.var 0) (.var 2)])] [2]) [some (.tup ds), none, none] S = .ok (.lst (((ds.zipIdx 0).filter fun p => !goodE p.1).map fun p => .int p.2)) S := by
        refine lc_fil (ds.zipIdx 0) (fun p => .int p.2) (fun p => .int p.2) (fun p => !goodE p.1) hit (fun p hp => ?_) (by rw [List.length_zipIdx]; exact Nat.le_trans (show ds.length ≤ 40 by omega) (by decide))
        have hg : ds[p.2]? = some p.1 := by
          have := List.mem_zipIdx_iff_getElem?.mp hp
          simpa using this
        have hd := List.mem_of_getElem? hg
        have hc := e_not (Γ := Γr (k + 2)) (ρ := [some (.tup ds), none, some (.int p.2)]) (e_call (f := 18) (es := [.ix (.var 0) (.var 2)]) (l_cons (ix_tup (e_var rfl) (e_var rfl) hg) l_nil) (r_lsay k S (hmem _ hd) (hz ds rfl _ hd)))
        refine ⟨[some (.tup ds), none, some (.int p.2)], rfl, ?_, fun _ => e_var rfl⟩
        simp only [evAll, hc, R.bind]
        cases goodE p.1 <;> rfl
      have hbH := badH ds 0
      generalize hB : (ds.zipIdx 0).filter (fun p => !goodE p.1) = B at hbad hbH
      cases B with
      | cons p B =>
        have hs : firstBad 0 ds = some p.2 := by rw [← hbH]; rfl
        have : eqF (.tup ds) = .tup [.str "saying", .int p.2] := by simp only [eqF, if_neg hl, hs]
        rw [this]
        have h3 : evE (Γr (k + 2)) (.cmp .Gt (.bi .len [.var 1]) (.con (.int 0))) [some (.tup ds), some (.lst ((p :: B).map fun p => .int p.2)), none] S = .ok (.bl true) S := e_cmp (x := .int ((p :: B).map fun p => (D.int p.2)).length) (y := .int 0) (e_bi1 (d := .lst ((p :: B).map fun p => .int p.2)) (e_var rfl) rfl) rfl (by
          simp only [cmpD, ordD]; congr 1; exact decide_eq_true (by simp only [List.length_map, List.length_cons]; omega))
        exact call_dry0 f__law_due rfl rfl (if_skip (b := false) (e_or_f h1 (e_or_1 h2)) rfl (seq_nx (s_asg hbad rfl) (if_ret (b := true) h3 rfl (seq_ret (s_ret (e_tup (l_cons (d := .str "saying") rfl (l_cons (e_ix (x := .lst ((p :: B).map fun p => .int p.2)) (y := .int 0) (r := .int p.2) (e_var rfl) rfl (L2.atI_nat (show ((p :: B).map fun p => (D.int p.2))[0]? = _ from rfl))) l_nil)) (by simp [LIM]))))))) rfl
      | nil =>
        have hs : firstBad 0 ds = none := by rw [← hbH]; rfl
        have hg := firstBad_none ds 0 hs
        have h3 : evE (Γr (k + 2)) (.cmp .Gt (.bi .len [.var 1]) (.con (.int 0))) [some (.tup ds), some (.lst []), none] S = .ok (.bl false) S := rfl
        have h4 := gt_len (Γ := Γr (k + 2)) (S := S) (e := .call 16 [.var 0]) (e' := .con (.int 12)) (ρ := [some (.tup ds), some (.lst []), none]) (xs := (sortS (dd (allN ds))).map .str) (n := 12) (e_call (l_cons (e_var rfl) l_nil) (r_lnames (k + 1) S hg (hn ds rfl hg (by omega)))) rfl
        rw [nms_len] at h4
        have pre : ∀ {d : D}, evE (Γr (k + 2)) (.ite (.cmp .Gt (.bi .len [.call 16 [.var 0]]) (.con (.int 12))) (.tup [.con (.str "names")]) (.con .non)) [some (.tup ds), some (.lst []), none] S = .ok d S → dry d = true → run P0 (k + 3) 19 [.tup ds] S = .ok d S := fun he hd =>
          call_dry0 f__law_due rfl rfl (if_skip (b := false) (e_or_f h1 (e_or_1 h2)) rfl (seq_nx (s_asg hbad rfl) (if_skip (b := false) h3 rfl (seq_ret (s_ret he))))) hd
        by_cases hc : 12 < (dd (allN ds)).length
        · rw [decide_eq_true hc] at h4
          have : eqF (.tup ds) = .tup [.str "names"] := by simp only [eqF, if_neg hl, hs, if_pos hc]
          rw [this]
          exact pre (e_ite_t h4 rfl) rfl
        · rw [decide_eq_false hc] at h4
          have : eqF (.tup ds) = .non := by simp only [eqF, if_neg hl, hs, if_neg hc]
          rw [this]
          exact pre (e_ite_f h4 rfl) rfl
/-! ### the check -/
/-- a value that may be asked -/
structure Ok (v : D) : Prop where
  dr : dryS v = true
  zs : ∀ ds, v = .tup ds → ∀ d ∈ ds, Zs d
  nb : ∀ ds, v = .tup ds → (∀ d ∈ ds, goodE d = true) → ds.length ≤ 40 → NB ds
theorem call_nx0 {P : Prog} {k f : Nat} {ds : List D} {S : Sto} {ρ : MP.Env} (fn : Fn) (hf : P.fns[f]? = some fn) (hl : ds.length = fn.ps.length) (h : evSs (P.ctx (run P k)) fn.body (ds.map some ++ List.replicate (fn.N.length - ds.length) none) S = .ok (.nx ρ) S) : run P (k + 1) f ds S = .ok .non S := by
  simp only [MP.run, hf, if_pos hl, h, fin]
  exact gc_dry0 rfl
theorem r_check {v : D} (k : Nat) (S : Sto) (o : Ok v) (h : eqF v = .non) : run P0 (k + 5) 9 [v] S = .ok .non S :=
  call_nx0 f_check_equations rfl rfl (if_skip (b := false) (e_cmp (x := .non) (y := .non) (e_call (l_cons (e_var rfl) l_nil) (by rw [← h]; exact r_eqF k S o.dr o.nb)) rfl rfl) rfl rfl)
theorem r_check_no {v : D} (k : Nat) (S : Sto) (o : Ok v) (h : eqF v ≠ .non) : run P0 (k + 5) 9 [v] S = .exc 1 [] S :=
  call_exc0 (ρ := [some v]) f_check_equations rfl rfl (if_exc (b := true) (e_cmp (x := eqF v) (y := .non) (e_call (l_cons (e_var rfl) l_nil) (r_eqF k S o.dr o.nb)) rfl (by
    show some (!decide (eqF v = .non)) = some true
    rw [decide_eq_false h]; rfl)) rfl (seq_exc (s_rai (z := "not equations") rfl rfl)))
theorem ex_exc {Γ : MP.Ctx} {f : Nat} {es : List Ex} {ρ : MP.Env} {S S' : Sto} {ds : List D} {C : Nat} (h : evL Γ es ρ S = .ok ds S) (h2 : Γ.F f ds S = .exc C [] S') : evS Γ (.ex (.call f es)) ρ S = .exc C [] ρ S' := by
  simp only [evS, e_call h h2, R.go]
theorem if_excF {Γ : MP.Ctx} {c : Ex} {a b ss : List Sm} {ρ ρ' : MP.Env} {S S' : Sto} {C : Nat} (h : evE Γ c ρ S = .ok (.bl false) S) (h2 : evSs Γ b ρ S = .exc C [] ρ' S') : evSs Γ (.ifs c a b :: ss) ρ S = .exc C [] ρ' S' :=
  seq_exc ((s_if_f h).trans h2)
theorem s_try_exc {Γ : MP.Ctx} {body : List Sm} {hs : List Hd} {ρ ρ' : MP.Env} {S S' : Sto} {C : Nat} {fs : List (Str × D)} {r : RS} (h : evSs Γ body ρ S = .exc C fs ρ' S') (h2 : handle Γ C fs ρ' S' hs = r) : evS Γ (.try_ body hs) ρ S = r := by
  simp only [evS, h, h2]
theorem r_word_no (k : Nat) (S : Sto) {v : D} (o : Ok v) (h : eqF v ≠ .non) (w : Int) (hw : w = 0 ∨ w = 1 ∨ w = 2) : run P0 (k + 7) 20 [.int w, v, .tup []] S = .ok (.str "equations") S := by
  have n1 : run P0 (k + 6) 10 [v] S = .exc 1 [] S := call_exc0 (ρ := [some v]) f_names_of rfl rfl (seq_exc (ex_exc (l_cons (e_var rfl) l_nil) (r_check_no k S o h)))
  have n2 : run P0 (k + 6) 11 [v] S = .exc 1 [] S := call_exc0 (ρ := [some v]) f_solved_whole rfl rfl (seq_exc (ex_exc (l_cons (e_var rfl) l_nil) (r_check_no k S o h)))
  have n3 : run P0 (k + 6) 13 [v, .tup []] S = .exc 1 [] S := call_exc0 (ρ := [some v, some (.tup []), none, none, none, none]) f_is_solution rfl rfl (seq_exc (ex_exc (l_cons (e_var rfl) l_nil) (r_check_no k S o h)))
  refine call_dry0 f__law_word rfl rfl (seq_ret (d := .str "equations") ?_) rfl
  have hb : evSs (Γr (k + 6)) [.ifs (.cmp .Eq (.var 0) (.con (.int 0))) [.ex (.call 10 [.var 1])] [.ifs (.cmp .Eq (.var 0) (.con (.int 1))) [.ex (.call 11 [.var 1])] [.ex (.call 13 [.var 1, .var 2])]]] [some (.int w), some v, some (.tup [])] S = .exc 1 [] [some (.int w), some v, some (.tup [])] S := by
    rcases hw with rfl | rfl | rfl
    · exact if_exc (b := true) rfl rfl (seq_exc (ex_exc (l_cons (e_var rfl) l_nil) n1))
    · exact if_excF rfl (if_exc (b := true) rfl rfl (seq_exc (ex_exc (l_cons (e_var rfl) l_nil) n2)))
    · exact if_excF rfl (if_excF rfl (seq_exc (ex_exc (l_cons (e_var rfl) (l_cons (e_var rfl) l_nil)) n3)))
  exact s_try_exc hb rfl
theorem r_namesof {ds : List D} (k : Nat) (S : Sto) (o : Ok (.tup ds)) (h : eqF (.tup ds) = .non) (hg : ∀ d ∈ ds, goodE d = true) (hn : NB ds) : run P0 (k + 6) 10 [.tup ds] S = .ok (nmsD ds) S :=
  call_dry0 f_names_of rfl rfl (seq_nx (s_ex (e_call (l_cons (e_var rfl) l_nil) (r_check k S o h))) (seq_ret (s_ret (e_call (l_cons (e_var rfl) l_nil) (r_names (k + 4) S hg hn))))) (dry_nms _)
end K05
end

section
set_option Elab.async false
set_option linter.all false
set_option maxRecDepth 100000
/-! K05S: equations as the law draws them (plain). -/
namespace K05
open PySem MP MP.Lb MP.Fm MP.Ev
abbrev Eq := Int × (Str → Int)
def eqD (q : Eq) : D := .tup [.str "zero", fD NL q.1 q.2]
structure Eqs (ns : List Str) (es : List Eq) : Prop where
  abs : ∀ q ∈ es, ∀ n, (q.2 n).natAbs ≤ 4
  out : ∀ q ∈ es, ∀ n, n ∉ ns → q.2 n = 0
/-- the names of a text, sign by sign -/
structure Nm (z : Str) (ns : List Str) : Prop where
  eq : z.cps.toList.map one = ns
  len : z.length ≤ 4
  nd : ns.Nodup
  sub : NL.filter (fun n => decide (n ∈ ns)) = ns
variable {z : Str} {ns : List Str}
theorem Nm.zl (h : Nm z ns) : z.length = ns.length := by rw [← h.eq, List.length_map, len_str]
theorem Nm.nl (h : Nm z ns) {n : Str} (hn : n ∈ ns) : n ∈ NL := by
  rw [← h.sub] at hn
  exact (List.mem_filter.mp hn).1
theorem Nm.sgns (h : Nm z ns) : z.cps.toList.map sgn = ns.map .str := by rw [← h.eq, List.map_map]; rfl
theorem Nm.at_ (h : Nm z ns) {i : Nat} (hi : i < ns.length) : ∃ c, z.cps.toList[i]? = some c ∧ ns.getD i "" = one c := by
  have hz : i < z.cps.toList.length := by rw [← len_str, h.zl]; exact hi
  refine ⟨z.cps.toList[i], List.getElem?_eq_getElem hz, ?_⟩
  rw [List.getD_eq_getElem?_getD, ← h.eq, List.getElem?_map, List.getElem?_eq_getElem hz]; rfl
theorem Nm.sup (h : Nm z ns) {f : Str → Int} (hf : ∀ n, n ∉ ns → f n = 0) : ns.filter (fun n => !(f n == 0)) = sup NL f := by
  rw [← h.sub, List.filter_filter]
  refine List.filter_congr fun n hn => ?_
  by_cases hm : n ∈ ns
  · simp [hm]
  · simp [hm, hf n hm]
abbrev envL (g : List Int) (m : Nat) (z : Str) (x3 x4 x5 x6 x7 x8 x9 x10 x11 x12 : Option D) : MP.Env := [some (nums g), some (.int m), some (.str z), x3, x4, x5, x6, x7, x8, x9, x10, x11, x12]
theorem ev_hidden (Γ : MP.Ctx) (S : Sto) (h : Nm z ns) (g : List Int) (hg : 20 ≤ g.length) (m : Nat) (x3 x4 x5 x6 x7 x8 x9 x10 x11 x12 : Option D) :
    ∃ w : Str → Int, evE Γ (.bi .dict [.lc (.tup [.var 10, .op .Sub (.op .Mod (.bi .int [.ix (.var 0) (.var 5)]) (.con (.int 9))) (.con (.int 4))]) (.tp [.nm 5, .nm 10]) (.itv (.lse (.var 2))) [] [5, 10]]) (envL g m z x3 x4 x5 x6 x7 x8 x9 x10 x11 x12) S = .ok (.dic (dicR ns fun n => .int (w n))) S := by
  refine ⟨fOf 0 ns fun k => (g.getD k 0).fmod 9 - 4, e_bi1 (d := .lst (ns.map (itV fun n => .int (fOf 0 ns (fun k => (g.getD k 0).fmod 9 - 4) n)))) ?_ ?_⟩
  · have hz : lseD (.str z) = some ((ns.zipIdx 0).map fun p => .tup [.int p.2, .str p.1]) := by
      have hl : z.length ≤ LIM := Nat.le_trans h.len (by decide)
      simp only [lseD, if_pos hl, h.sgns, enumD_map]
    have := lc_map (Γ := Γ) (ρ := envL g m z x3 x4 x5 x6 x7 x8 x9 x10 x11 x12) (S := S) (ns.zipIdx 0) (fun p => .tup [.int p.2, .str p.1]) (fun p => .tup [.str p.1, .int ((g.getD p.2 0).fmod 9 - 4)]) (elt := .tup [.var 10, .op .Sub (.op .Mod (.bi .int [.ix (.var 0) (.var 5)]) (.con (.int 9))) (.con (.int 4))]) (tg := .tp [.nm 5, .nm 10]) (it := .itv (.lse (.var 2))) (own := [5, 10]) (g := none)
      (i_itv (e_lse (e_var rfl) hz) rfl) (fun p hp => ⟨envL g m z x3 x4 (some (.int p.2)) x6 x7 x8 x9 (some (.str p.1)) x11 x12, rfl, e_tup (l_cons (e_var rfl) (l_cons (e_op (y := .int 4) (e_mod 9 (by decide) (e_at (v := 0) rfl (e_var rfl) (by
        have h1 := (List.mem_zipIdx hp).2.1
        have h2 := h.zl
        have h3 := h.len
        omega))) (by rfl) (by rfl)) l_nil)) (by simp [LIM])⟩) (by
          rw [List.length_zipIdx, ← h.zl]
          exact Nat.le_trans h.len (by decide))
    rw [map_fOf 0 ns (fun k => (g.getD k 0).fmod 9 - 4) h.nd (fun n (i : Int) => D.tup [.str n, .int i])] at this
    exact this
  · simp only [bi1, dictD, pairs_rows, Option.map_some]; rfl
theorem fm9 (x : Int) : (x.fmod 9 - 4).natAbs ≤ 4 := by
  have h1 := Int.fmod_nonneg_of_pos x (b := 9) (by omega)
  have h2 := Int.fmod_lt_of_pos x (b := 9) (by omega)
  omega
abbrev B7 : Ex := .lc (.tup [.ix (.var 2) (.var 9), .op .Sub (.op .Mod (.bi .int [.ix (.var 6) (.var 9)]) (.con (.int 9))) (.con (.int 4))]) (.nm 9) (.rg1 (.bi .len [.var 2])) [] [9]
abbrev bodyL : List Sm := [.asg (.nm 6) (.op .Add (.slL (.var 0) (.op .Add (.con (.int 9)) (.op .Mult (.con (.int 7)) (.var 5)))) (.var 0)), .asg (.nm 7) B7, .asg (.nm 7) (.bi .tuple [.lc (.var 11) (.nm 11) (.itv (.var 7)) [.cmp .NotEq (.ix (.var 11) (.con (.int 1))) (.con (.int 0))] [11]]), .asg (.nm 8) (.ite (.cmp .Gt (.op .Mod (.bi .int [.ix (.var 6) (.con (.int 5))]) (.con (.int 4))) (.con (.int 0))) (.con (.int 0)) (.op .Sub (.op .Mod (.bi .int [.ix (.var 6) (.con (.int 6))]) (.con (.int 5))) (.con (.int 2)))), .ex (.app (.var 4) (.tup [.con (.str "zero"), .tup [.op .Sub (.var 8) (.bi .sum [.lc (.op .Mult (.var 12) (.ix (.var 3) (.var 10))) (.tp [.nm 10, .nm 12]) (.itv (.var 7)) [] [10, 12]]), .var 7]]))]
abbrev atL (S : Sto) (xs : List D) : Sto := S ++ [.lst xs]
theorem get_atL (S : Sto) (xs : List D) : Sto.get (atL S xs) S.length = some (.lst xs) := by simp [Sto.get, atL]
theorem set_atL (S : Sto) (xs ys : List D) : (atL S xs).set S.length (.lst ys) = atL S ys := by simp [atL]
theorem bodyL_ok (Γ : MP.Ctx) (S : Sto) (h : Nm z ns) (g : List Int) (hg : 20 ≤ g.length) (hg2 : g.length ≤ 50000) (m : Nat) (w : Str → Int) (i : Nat) (hi : i < 4) (xs : List D) (hxs : xs.length ≤ 10) (x6 x7 x8 x9 x10 x11 x12 : Option D) :
    ∃ q : Eq, Eqs ns [q] ∧ ∃ y6 y7 y8, evSs Γ bodyL (envL g m z (some (.dic (dicR ns fun n => .int (w n)))) (some (.ref S.length)) (some (.int i)) x6 x7 x8 x9 x10 x11 x12) (atL S xs) = .ok (.nx (envL g m z (some (.dic (dicR ns fun n => .int (w n)))) (some (.ref S.length)) (some (.int i)) y6 y7 y8 x9 x10 x11 x12)) (atL S (xs ++ [eqD q])) := by
  generalize hd : some (D.dic (dicR ns fun n => .int (w n))) = hid
  have e6 := drop_add (Γ := Γ) (ρ := envL g m z hid (some (.ref S.length)) (some (.int i)) x6 x7 x8 x9 x10 x11 x12) (S := atL S xs) (v := 0) (ds := g) rfl (e_addk 9 (e_mulk 7 (by decide) (e_var (i := 5) rfl))) (by omega)
  have hol : 7 ≤ (g.drop (9 + 7 * i) ++ g).length := by rw [List.length_append]; omega
  generalize g.drop (9 + 7 * i) ++ g = own at e6 hol
  have h4 := h.len
  have hzl := h.zl
  have e7 : evE Γ B7 (envL g m z hid (some (.ref S.length)) (some (.int i)) (some (nums own)) x7 x8 x9 x10 x11 x12) (atL S xs) = .ok (.lst (ns.map (itN (fOf 0 ns fun k => (own.getD k 0).fmod 9 - 4)))) (atL S xs) := by
    have hlen : evE Γ (.bi .len [.var 2]) (envL g m z hid (some (.ref S.length)) (some (.int i)) (some (nums own)) x7 x8 x9 x10 x11 x12) (atL S xs) = .ok (.int ns.length) (atL S xs) := e_bi1 (d := .str z) (e_var rfl) (by
      simp only [bi1, lenD]
      rw [if_pos (Nat.le_trans h.len (by decide)), hzl])
    have := lc_map (Γ := Γ) (ρ := envL g m z hid (some (.ref S.length)) (some (.int i)) (some (nums own)) x7 x8 x9 x10 x11 x12) (S := atL S xs) (List.range ns.length) (fun (j : Nat) => D.int j) (fun j => .tup [.str (ns.getD j ""), .int ((own.getD j 0).fmod 9 - 4)]) (elt := .tup [.ix (.var 2) (.var 9), .op .Sub (.op .Mod (.bi .int [.ix (.var 6) (.var 9)]) (.con (.int 9))) (.con (.int 4))]) (tg := .nm 9) (it := .rg1 (.bi .len [.var 2])) (own := [9]) (g := none)
      (itRe hlen (by omega)) (fun j hj => by
        have hj := List.mem_range.mp hj
        obtain ⟨c, hc, hn⟩ := h.at_ hj
        refine ⟨envL g m z hid (some (.ref S.length)) (some (.int i)) (some (nums own)) x7 x8 (some (.int j)) x10 x11 x12, rfl, e_tup (l_cons (d := .str (ns.getD j "")) ?_ (l_cons (e_op (y := .int 4) (e_mod 9 (by decide) (e_at (v := 6) rfl (e_var rfl) (by omega))) (by rfl) (by rfl)) l_nil)) (by simp [LIM])⟩
        rw [hn]
        exact ix_str (z := z) (Nat.le_trans h.len (by decide)) (e_var rfl) (e_var rfl) hc) (by rw [List.length_range]; exact Nat.le_trans (by omega : ns.length ≤ 4) (by decide))
    rw [map_range ns fun n j => D.tup [.str n, .int ((own.getD j 0).fmod 9 - 4)], map_fOf 0 ns (fun k => (own.getD k 0).fmod 9 - 4) h.nd (fun n (i : Int) => D.tup [.str n, .int i])] at this
    exact this
  have habs : ∀ n, (fOf 0 ns (fun k => (own.getD k 0).fmod 9 - 4) n).natAbs ≤ 4 := fun n => by
    unfold fOf
    split
    · exact fm9 _
    · decide
  have hout : ∀ n, n ∉ ns → fOf 0 ns (fun k => (own.getD k 0).fmod 9 - 4) n = 0 := fun n hn => fOf_out hn
  generalize fOf 0 ns (fun k => (own.getD k 0).fmod 9 - 4) = f at e7 habs hout
  have e7b : evE Γ (.bi .tuple [.lc (.var 11) (.nm 11) (.itv (.var 7)) [.cmp .NotEq (.ix (.var 11) (.con (.int 1))) (.con (.int 0))] [11]]) (envL g m z hid (some (.ref S.length)) (some (.int i)) (some (nums own)) (some (.lst (ns.map (itN f)))) x8 x9 x10 x11 x12) (atL S xs) = .ok (.tup ((sup NL f).map (itN f))) (atL S xs) := by
    have := lc_fil (Γ := Γ) (ρ := envL g m z hid (some (.ref S.length)) (some (.int i)) (some (nums own)) (some (.lst (ns.map (itN f)))) x8 x9 x10 x11 x12) (S := atL S xs) ns (itN f) (itN f) (fun n => !(f n == 0)) (elt := .var 11) (tg := .nm 11) (it := .itv (.var 7)) (cnd := [.cmp .NotEq (.ix (.var 11) (.con (.int 1))) (.con (.int 0))]) (own := [11]) (g := none)
      (i_itv (e_var rfl) rfl) (fun n _ => ⟨envL g m z hid (some (.ref S.length)) (some (.int i)) (some (nums own)) (some (.lst (ns.map (itN f)))) x8 x9 x10 (some (itN f n)) x12, rfl, by
        have hc : evE Γ (.cmp .NotEq (.ix (.var 11) (.con (.int 1))) (.con (.int 0))) (envL g m z hid (some (.ref S.length)) (some (.int i)) (some (nums own)) (some (.lst (ns.map (itN f)))) x8 x9 x10 (some (itN f n)) x12) (atL S xs) = .ok (.bl (!(f n == 0))) (atL S xs) := e_cmp (x := .int (f n)) (y := .int 0) (e_ix (x := itN f n) (y := .int 1) (e_var rfl) rfl rfl) rfl rfl
        simp only [evAll, hc, R.bind]
        cases (f n == 0) <;> rfl, fun _ => e_var rfl⟩) (Nat.le_trans (by omega : ns.length ≤ 4) (by decide))
    rw [h.sup hout] at this
    exact tup_lc this
  have e8 : ∃ a : Int, evE Γ (.ite (.cmp .Gt (.op .Mod (.bi .int [.ix (.var 6) (.con (.int 5))]) (.con (.int 4))) (.con (.int 0))) (.con (.int 0)) (.op .Sub (.op .Mod (.bi .int [.ix (.var 6) (.con (.int 6))]) (.con (.int 5))) (.con (.int 2)))) (envL g m z hid (some (.ref S.length)) (some (.int i)) (some (nums own)) (some (.tup ((sup NL f).map (itN f)))) x8 x9 x10 x11 x12) (atL S xs) = .ok (.int a) (atL S xs) := by
    have hc := e_cmp (Γ := Γ) (o := .Gt) (e_mod (ρ := envL g m z hid (some (.ref S.length)) (some (.int i)) (some (nums own)) (some (.tup ((sup NL f).map (itN f)))) x8 x9 x10 x11 x12) (S := atL S xs) 4 (by decide) (e_at (v := 6) (e := .con (.int 5)) (k := 5) (g := own) rfl rfl (by omega))) (b := .con (.int 0)) (y := .int 0) (by rfl) (c := decide (0 < (own.getD 5 0).fmod 4)) rfl
    cases hb : decide (0 < (own.getD 5 0).fmod 4) with
    | true => rw [hb] at hc; exact ⟨0, e_ite_t hc rfl⟩
    | false => rw [hb] at hc; exact ⟨_, e_ite_f hc (e_op (y := .int 2) (e_mod 5 (by decide) (e_at (v := 6) (k := 6) (g := own) rfl rfl (by omega))) (by rfl) (by rfl))⟩
  obtain ⟨a, e8⟩ := e8
  have hs : evE Γ (.bi .sum [.lc (.op .Mult (.var 12) (.ix (.var 3) (.var 10))) (.tp [.nm 10, .nm 12]) (.itv (.var 7)) [] [10, 12]]) (envL g m z hid (some (.ref S.length)) (some (.int i)) (some (nums own)) (some (.tup ((sup NL f).map (itN f)))) (some (.int a)) x9 x10 x11 x12) (atL S xs) = .ok (.int ((sup NL f).map fun n => f n * w n).sum) (atL S xs) := by
    subst hd
    refine sum_lc (sup NL f) (fun n => f n * w n) (lc_map (sup NL f) (itN f) _ (i_itv (d := .tup ((sup NL f).map (itN f))) (e_var rfl) rfl) (fun n hn => ⟨envL g m z (some (.dic (dicR ns fun n => .int (w n)))) (some (.ref S.length)) (some (.int i)) (some (nums own)) (some (.tup ((sup NL f).map (itN f)))) (some (.int a)) x9 (some (.str n)) x11 (some (.int (f n))), rfl, e_op (x := .int (f n)) (y := .int (w n)) (e_var rfl) (e_ix (x := .dic (dicR ns fun n => .int (w n))) (y := .str n) (e_var rfl) (e_var rfl) ?_) (hmul (Or.inl ?_))⟩) (Nat.le_trans (sup_len f) (by decide)))
    · have hm : n ∈ ns := by
        refine Classical.byContradiction fun hc => ?_
        exact (sup_mem hn).2 (hout n hc)
      simp only [ixD, D.ky, vget_dicR, if_pos hm]
    · have := habs n
      exact ⟨by simp only [BIG]; omega, by simp only [BIG]; omega⟩
  refine ⟨(a - ((sup NL f).map fun n => f n * w n).sum, f), ⟨fun q hq n => by rw [List.mem_singleton.mp hq]; exact habs n, fun q hq n hn => by rw [List.mem_singleton.mp hq]; exact hout n hn⟩, some (nums own), some (.tup ((sup NL f).map (itN f))), some (.int a), ?_⟩
  refine seq_nx (s_asg e6 rfl) (seq_nx (s_asg e7 rfl) (seq_nx (s_asg e7b rfl) (seq_nx (s_asg e8 rfl) (seq_nx (S' := atL S (xs ++ [eqD (a - ((sup NL f).map fun n => f n * w n).sum, f)])) ?_ rfl))))
  refine (s_ex (e_app (n := S.length) (xs := xs) (x := eqD (a - ((sup NL f).map fun n => f n * w n).sum, f)) (e_var rfl) (e_tup (l_cons (d := .str "zero") rfl (l_cons (e_tup (l_cons (e_op (x := .int a) (e_var rfl) hs rfl) (l_cons (e_var rfl) l_nil)) (by simp [LIM])) l_nil)) (by simp [LIM])) (get_atL S xs) (Nat.lt_of_le_of_lt hxs (by decide)))).trans ?_
  rw [set_atL]
theorem loopL (Γ : MP.Ctx) (S : Sto) (h : Nm z ns) (g : List Int) (hg : 20 ≤ g.length) (hg2 : g.length ≤ 50000) (m : Nat) (w : Str → Int) (x9 x10 x11 x12 : Option D) : ∀ (is : List Nat) (es : List Eq) (x5 x6 x7 x8 : Option D), (∀ i ∈ is, i < 4) → es.length + is.length ≤ 10 → Eqs ns es →
    ∃ es' : List Eq, es'.length = es.length + is.length ∧ Eqs ns es' ∧ ∃ y5 y6 y7 y8, forR none (forF (fun ρ S => evSs Γ bodyL ρ S) (.nm 5)) (is.map fun (i : Nat) => D.int i) (envL g m z (some (.dic (dicR ns fun n => .int (w n)))) (some (.ref S.length)) x5 x6 x7 x8 x9 x10 x11 x12) (atL S (es.map eqD)) = .ok (.nx (envL g m z (some (.dic (dicR ns fun n => .int (w n)))) (some (.ref S.length)) y5 y6 y7 y8 x9 x10 x11 x12)) (atL S (es'.map eqD))
  | [], es, x5, x6, x7, x8, _, _, he => ⟨es, rfl, he, _, _, _, _, rfl⟩
  | i :: is, es, x5, x6, x7, x8, hi, hl, he => by
    simp only [List.length_cons] at hl
    obtain ⟨q, hq, y6, y7, y8, e⟩ := bodyL_ok Γ S h g hg hg2 m w i (hi i List.mem_cons_self) (es.map eqD) (by rw [List.length_map]; omega) x6 x7 x8 x9 x10 x11 x12
    have hes : Eqs ns (es ++ [q]) := ⟨fun p hp => (List.mem_append.mp hp).elim (he.abs p) (hq.abs p), fun p hp => (List.mem_append.mp hp).elim (he.out p) (hq.out p)⟩
    obtain ⟨es', h1, h2, z5, z6, z7, z8, e2⟩ := loopL Γ S h g hg hg2 m w x9 x10 x11 x12 is (es ++ [q]) (some (.int i)) y6 y7 y8 (fun j hj => hi j (List.mem_cons_of_mem _ hj)) (by rw [List.length_append, List.length_singleton]; omega) hes
    refine ⟨es', by rw [h1, List.length_append, List.length_singleton, List.length_cons]; omega, h2, z5, z6, z7, z8, (for_nx (S' := atL S ((es ++ [q]).map eqD)) ((forF_eq rfl).trans ?_)).trans e2⟩
    rw [List.map_append]
    exact e
theorem dry_eqD (q : Eq) : dry (eqD q) = true := by
  simp only [eqD, dry, dryL, dry_fD, Bool.and_self]
theorem r_leqs (k : Nat) (S : Sto) (h : Nm z ns) (g : List Int) (hg : 20 ≤ g.length) (hg2 : g.length ≤ 50000) (m : Nat) (hm : m ≤ 4) : ∃ es : List Eq, es.length = m ∧ Eqs ns es ∧ run P0 (k + 1) 15 [nums g, .int m, .str z] S = .ok (.tup (es.map eqD)) S := by
  obtain ⟨w, e1⟩ := ev_hidden (Γr k) S h g hg m none none none none none none none none none none
  obtain ⟨es, h1, h2, y5, y6, y7, y8, e2⟩ := loopL (Γr k) S h g hg hg2 m w none none none none (List.range m) [] none none none none (fun i hi => by have := List.mem_range.mp hi; omega) (by rw [List.length_nil, List.length_range]; omega) ⟨fun q hq => (by cases hq), fun q hq => (by cases hq)⟩
  refine ⟨es, by simpa using h1, h2, ?_⟩
  refine call_dry (R := [.lst (es.map eqD)]) f__law_equations rfl rfl (seq_nx (S' := atL S []) (s_asg (e_tup (l_cons e1 (l_cons (d := .ref S.length) (S' := atL S []) (S'' := atL S []) rfl l_nil)) (by simp [LIM])) rfl) (seq_nx ((s_for (itRe (n := m) (e_var rfl) (by omega))).trans e2) (seq_ret (s_ret (e_bi1 (d := .ref S.length) (e_var rfl) ?_))))) ?_
  · simp only [bi1, tupleD, get_atL]
  · exact dryL_map eqD es fun q _ => dry_eqD q
end K05
end

section
set_option Elab.async false
set_option linter.all false
set_option maxRecDepth 100000
/-! K05U: which rows are solutions (plain). -/
namespace K05
open PySem MP MP.Lb MP.Fm MP.Ev
variable {z : Str} {ns : List Str}
theorem scan_fD (f : Str → Int) : scan "" 0 ((sup NL f).map (itN f)) = none := by
  obtain ⟨c, ds, e, _, h⟩ := fault_non (fault_fD (NL := NL) 0 f)
  have e2 : ds = (sup NL f).map (itN f) := by
    simp only [fD, D.tup.injEq, List.cons.injEq, and_true] at e
    exact e.2.symm
  rw [← e2]; exact h
theorem good_eqD (q : Eq) : goodE (eqD q) = true := by
  simp only [eqD, fD, goodE, isI, scan_fD, Option.isNone_none, Bool.and_self, beq_self_eq_true]
theorem dryS_eqD (q : Eq) : dryS (eqD q) = true := by
  have h : dryS (.str "zero") = true := by decide +kernel
  simp only [eqD, dryS, dryLS, dryS_fD, Bool.and_true] at h ⊢
  exact h
theorem nmsE_eqD (q : Eq) : nmsE (eqD q) = sup NL q.2 := by
  simp only [eqD, fD, nmsE, List.filterMap_map]
  exact List.filterMap_some
def U : List Str := NL ++ (["A", "longnames", "1a", "longname", "g", "h", "i", "j", "k", "l"] : List Str)
/-- what may stand in a value -/
structure El (d : D) : Prop where
  dr : dryS d = true
  zs : Zs d
  len : (nmsE d).length ≤ 13
  sub : ∀ n ∈ nmsE d, n ∈ U
theorem el_eqD (q : Eq) : El (eqD q) where
  dr := dryS_eqD q
  zs := fun z b e => by cases e; rfl
  len := by rw [nmsE_eqD]; exact Nat.le_trans (List.length_filter_le _ _) (by decide)
  sub := fun n hn => by
    rw [nmsE_eqD] at hn
    exact List.mem_append_left _ (sup_mem hn).1
theorem allN_len : ∀ (ds : List D), (∀ d ∈ ds, El d) → (allN ds).length ≤ 13 * ds.length
  | [], _ => Nat.le_refl _
  | d :: ds, h => by
    have h1 := allN_len ds fun x hx => h x (List.mem_cons_of_mem _ hx)
    have h2 := (h d List.mem_cons_self).len
    simp only [allN, List.map_cons, List.flatten_cons, List.length_append, List.length_cons] at h1 ⊢
    omega
theorem allN_sub {ds : List D} (h : ∀ d ∈ ds, El d) {n : Str} (hn : n ∈ allN ds) : n ∈ U := by
  obtain ⟨l, hl, hm⟩ := List.mem_flatten.mp hn
  obtain ⟨d, hd, rfl⟩ := List.mem_map.mp hl
  exact (h d hd).sub n hm
theorem nb_of {ds : List D} (h : ∀ d ∈ ds, El d) (hl : ds.length ≤ 40) : NB ds where
  all := by have := allN_len ds h; omega
  key := Nat.lt_of_le_of_lt (nd_len _ U (dd_nd _) fun x hx => allN_sub h ((dd_mem _ _).mp hx)) (by decide)
theorem ok_of {ds : List D} (h : ∀ d ∈ ds, El d) : Ok (.tup ds) where
  dr := dryLS_of fun d hd => (h d hd).dr
  zs := fun ds' e d hd => by cases e; exact (h d hd).zs
  nb := fun ds' e _ hl => by cases e; exact nb_of h hl
theorem ok_not {v : D} (hd : dryS v = true) (h : ∀ ds, v ≠ .tup ds) : Ok v where
  dr := hd
  zs := fun ds e => absurd e (h ds)
  nb := fun ds e => absurd e (h ds)
abbrev W (es : List Eq) : D := .tup (es.map eqD)
variable {es : List Eq}
theorem el_W : ∀ d ∈ es.map eqD, El d := fun d hd => by
  obtain ⟨q, _, rfl⟩ := List.mem_map.mp hd
  exact el_eqD q
theorem good_W : ∀ d ∈ es.map eqD, goodE d = true := fun d hd => by
  obtain ⟨q, _, rfl⟩ := List.mem_map.mp hd
  exact good_eqD q
theorem sub_W {n : Str} (hn : n ∈ allN (es.map eqD)) : n ∈ NL := by
  obtain ⟨l, hl, hm⟩ := List.mem_flatten.mp hn
  obtain ⟨d, hd, rfl⟩ := List.mem_map.mp hl
  obtain ⟨q, _, rfl⟩ := List.mem_map.mp hd
  rw [nmsE_eqD] at hm
  exact (sup_mem hm).1
theorem eqF_W (hl : es.length ≤ 40) : eqF (W es) = .non := by
  have h1 : ¬ 40 < (es.map eqD).length := by rw [List.length_map]; omega
  have h2 : ¬ 12 < (dd (allN (es.map eqD))).length := by
    have := nd_len _ NL (dd_nd (allN (es.map eqD))) fun x hx => sub_W ((dd_mem _ _).mp hx)
    have h3 : NL.length = 10 := rfl
    omega
  simp only [W, eqF, if_neg h1, firstBad_all _ 0 good_W, if_neg h2]
/-- the names in order -/
def owN (es : List Eq) : List Str := NL.filter fun n => decide (n ∈ allN (es.map eqD))
theorem nms_W : nmsD (es.map eqD) = .tup ((owN es).map .str) := by
  have := sort_names (NL := NL) (dd (allN (es.map eqD))) (dd_nd _) fun n hn => sub_W ((dd_mem _ _).mp hn)
  rw [nmsD, this, owN]
  simp only [dd_mem]
theorem ow_pw : (owN es).Pairwise fun x y => ltS x y = true := (NmL.pw (NL := NL)).imp (fun h => h.1) |>.sublist List.filter_sublist
theorem ow_nm : ∀ n ∈ owN es, nameB n = true := fun n hn => NmL.nm n (List.mem_filter.mp hn).1
theorem ow_len : (owN es).length ≤ 10 := Nat.le_trans (List.length_filter_le _ _) (by decide)
theorem row_ow (v : Str → D) (hv : ∀ n, dry (v n) = true) : Row (owN es) v := ⟨ow_pw, ow_nm, Nat.le_trans ow_len (by decide), fun n _ => hv n⟩
theorem mem_ow {q : Eq} (hq : q ∈ es) {n : Str} (hn : n ∈ sup NL q.2) : n ∈ owN es := by
  refine List.mem_filter.mpr ⟨(sup_mem hn).1, decide_eq_true ?_⟩
  exact List.mem_flatten.mpr ⟨nmsE (eqD q), List.mem_map.mpr ⟨eqD q, List.mem_map.mpr ⟨q, hq, rfl⟩, rfl⟩, by rw [nmsE_eqD]; exact hn⟩
theorem sml4 {x : Int} (h : x.natAbs ≤ 100) : sml x := ⟨by simp only [BIG]; omega, by simp only [BIG]; omega⟩
/-! ### is it so -/
theorem r_worth (k : Nat) (S : Sto) (c : Int) (f w : Str → Int) (l : List Str) (hl : ∀ n ∈ sup NL f, n ∈ l ∧ (sml (f n) ∨ sml (w n))) : run P0 (k + 1) 4 [fD NL c f, .dic (dicR l fun n => .int (w n))] S = .ok (.int (val NL c f w)) S :=
  call_dry0 f_worth_by rfl rfl (seq_ret (s_ret (worth_eval _ S c f w l (.var 1) _ (fun _ _ => rfl) hl))) rfl
theorem zl_ne : (("zero" : Str) == ("least" : Str)) = false := by decide +kernel
theorem r_so (k : Nat) (S : Sto) (q : Eq) (w : Str → Int) (l : List Str) (hl : ∀ n ∈ sup NL q.2, n ∈ l ∧ (sml (q.2 n) ∨ sml (w n))) : run P0 (k + 2) 6 [eqD q, .dic (dicR l fun n => .int (w n))] S = .ok (.bl (val NL q.1 q.2 w == 0)) S := by
  have h1 := r_worth k S q.1 q.2 w l hl
  have e1 : evE (Γr (k + 1)) (.call 4 [.ix (.var 0) (.con (.int 1)), .var 1]) [some (eqD q), some (.dic (dicR l fun n => .int (w n))), none] S = .ok (.int (val NL q.1 q.2 w)) S := e_call (l_cons (e_ix (x := eqD q) (y := .int 1) (r := fD NL q.1 q.2) (e_var rfl) rfl rfl) (l_cons (e_var rfl) l_nil)) h1
  generalize val NL q.1 q.2 w = x at e1
  have e2 : evE (Γr (k + 1)) (.cmp .Eq (.ix (.var 0) (.con (.int 0))) (.glo "LEAST" (.str "least"))) [some (eqD q), some (.dic (dicR l fun n => .int (w n))), some (.int x)] S = .ok (.bl false) S := e_cmp (x := .str "zero") (y := .str "least") (e_ix (x := eqD q) (y := .int 0) (e_var rfl) rfl rfl) rfl (by simp only [cmpD, shp, Bool.and_self, if_true, eqv, zl_ne])
  exact call_dry0 f_is_so_by rfl rfl (seq_nx (s_asg e1 rfl) (seq_ret (s_ret (e_ite_f e2 (e_cmp (x := .int x) (y := .int 0) (e_var rfl) rfl rfl))))) rfl
/-! ### rows of integers -/
theorem rows_all (Γ : MP.Ctx) (S : Sto) (l : List Str) (v : Str → D) (hl : l.length ≤ 100) (x y : Option D) : evE Γ (.bi .all [.lc (.cmp .Lt (.ix (.var 1) (.con (.int 0))) (.ix (.var 2) (.con (.int 0)))) (.tp [.nm 1, .nm 2]) (.zp (.var 0) (.slL (.var 0) (.con (.int 1)))) [] [1, 2]]) (envR (rowD l v) x y) S = .ok (.bl ((l.zip (l.drop 1)).all fun p => ltS p.1 p.2)) S := by
  have hz : evE Γ (.slL (.var 0) (.con (.int 1))) (envR (rowD l v) x y) S = .ok (.tup ((l.map (itV v)).drop 1)) S := e_slL (x := rowD l v) (i := 1) (e_var rfl) rfl (by
    show some (D.tup (cut (l.map (itV v)) (some ((1 : Nat) : Int)) none)) = _
    rw [cut_lo])
  exact all_lc (Γ := Γ) (ρ := envR (rowD l v) x y) (S := S) (l.zip (l.drop 1)) (fun p => ltS p.1 p.2) (lc_map (l.zip (l.drop 1)) _ _ (i_zp (e_var rfl) hz (zip_rows l v S)) (fun p hm => ⟨_, rfl, rfl⟩) (by
    rw [List.length_zip]
    exact Nat.le_trans (Nat.le_trans (Nat.min_le_left _ _) hl) (by decide)))
theorem r_rowsB (k : Nat) (S : Sto) (l : List Str) (v : Str → D) (hn : ∀ n ∈ l, nameB n = true) (hl : l.length ≤ 100) : run P0 (k + 2) 2 [rowD l v] S = .ok (.bl ((l.zip (l.drop 1)).all fun p => ltS p.1 p.2)) S :=
  call_dry0 f_are_rows rfl rfl (if_skip (rows_pre _ S l v hl _ _) rfl (if_skip (rows_names (P := P0) k S l v hn hl _ _) rfl (seq_ret (s_ret (rows_all _ S l v hl _ _))))) rfl
abbrev AI : Ex := .bi .all [.lc (.call 0 [.var 2]) (.tp [.nm 1, .nm 2]) (.itv (.var 0)) [] [1, 2]]
theorem ai_ok (k : Nat) (S : Sto) (l : List Str) (v : Str → D) (hd : ∀ n ∈ l, dry (v n) = true) (hl : l.length ≤ 100) (x y : Option D) : evE (Γr (k + 1)) AI [some (rowD l v), x, y] S = .ok (.bl (l.all fun n => isI (v n))) S :=
  all_lc (Γ := Γr (k + 1)) (ρ := [some (rowD l v), x, y]) (S := S) l (fun n => isI (v n)) (lc_map l (itV v) _ (i_itv (e_var rfl) rfl) (fun n hm => ⟨[some (rowD l v), some (.str n), some (v n)], rfl, e_call (l_cons (e_var rfl) l_nil) (r_int (P := P0) k S (hd n hm))⟩) (Nat.le_trans hl (by decide)))
theorem r_ai (k : Nat) (S : Sto) (l : List Str) (v : Str → D) (hn : ∀ n ∈ l, nameB n = true) (hd : ∀ n ∈ l, dry (v n) = true) (hl : l.length ≤ 100) : run P0 (k + 3) 12 [rowD l v] S = .ok (.bl (((l.zip (l.drop 1)).all fun p => ltS p.1 p.2) && l.all fun n => isI (v n))) S :=
  call_dry0 f__are_integers rfl rfl (seq_ret (s_ret (e_and2 (e_call (l_cons (e_var rfl) l_nil) (r_rowsB k S l v hn hl)) fun _ => ai_ok (k + 1) S l v hd hl _ _))) rfl
theorem r_ai_no (k : Nat) (S : Sto) {v : D} (h : run P0 (k + 2) 2 [v] S = .ok (.bl false) S) : run P0 (k + 3) 12 [v] S = .ok (.bl false) S :=
  call_dry0 f__are_integers rfl rfl (seq_ret (s_ret (e_and_f (e_call (l_cons (e_var rfl) l_nil) h)))) rfl
/-! ### is it a solution -/
abbrev envI (a b : D) (x2 x3 x4 x5 : Option D) : MP.Env := [some a, some b, x2, x3, x4, x5]
theorem sol_pre (k : Nat) (S : Sto) (hl : es.length ≤ 40) (b : D) {r : RS} (h : evSs (Γr (k + 5)) (f_is_solution.body.drop 1) (envI (W es) b none none none none) S = r) : evSs (Γr (k + 5)) f_is_solution.body (envI (W es) b none none none none) S = r :=
  seq_nx (s_ex (e_call (l_cons (e_var rfl) l_nil) (r_check k S (ok_of el_W) (eqF_W hl)))) h
theorem r_sol_no (k : Nat) (S : Sto) (hl : es.length ≤ 40) {b : D} (h : run P0 (k + 5) 12 [b] S = .ok (.bl false) S) : run P0 (k + 6) 13 [W es, b] S = .ok (.bl false) S :=
  call_dry0 f_is_solution rfl rfl (sol_pre k S hl b (if_ret (b := true) (e_or_t (e_not (b := false) (e_call (l_cons (e_var rfl) l_nil) h))) rfl (seq_ret (s_ret rfl)))) rfl
theorem ev_nms (k : Nat) (S : Sto) (l : List Str) (v : Str → D) (hl : l.length ≤ 100) (a : D) (x2 x3 x4 x5 : Option D) : evE (Γr k) (.bi .tuple [.lc (.var 4) (.tp [.nm 4, .nm 5]) (.itv (.var 1)) [] [4, 5]]) (envI a (rowD l v) x2 x3 x4 x5) S = .ok (.tup (l.map .str)) S :=
  tup_lc (lc_map l (itV v) _ (i_itv (d := rowD l v) (e_var rfl) rfl) (fun n _ => ⟨envI a (rowD l v) x2 x3 (some (.str n)) (some (v n)), rfl, e_var rfl⟩) (Nat.le_trans hl (by decide)))
theorem eqvL_len : ∀ {xs ys : List D}, eqvL xs ys = true → xs.length = ys.length
  | [], [], _ => rfl
  | [], _ :: _, h => by simp [eqvL] at h
  | _ :: _, [], h => by simp [eqvL] at h
  | x :: xs, y :: ys, h => by
    simp only [eqvL, Bool.and_eq_true] at h
    simp only [List.length_cons, eqvL_len h.2]
theorem shpL_str (l : List Str) (n : Nat) : shpL (l.map .str) n = true := by
  induction l with
  | nil => rfl
  | cons x l ih => simp only [List.map_cons, shpL, shp, ih, Bool.and_self]
theorem eqvL_str (l : List Str) : eqvL (l.map .str) (l.map .str) = true := by
  induction l with
  | nil => rfl
  | cons x l ih => simp only [List.map_cons, eqvL, eqv, beq_self_eq_true, ih, Bool.and_self]
theorem ne_strs (l l' : List Str) (S : Sto) : cmpD .NotEq (.tup (l.map .str)) (.tup (l'.map .str)) S = some (!eqvL (l.map .str) (l'.map .str)) := by
  simp only [cmpD, shp, shpL_str, Bool.and_self, if_true, eqv]
theorem r_sol_len (k : Nat) (S : Sto) (hl : es.length ≤ 40) (l : List Str) (v : Str → D) (hn : ∀ n ∈ l, nameB n = true) (hd : ∀ n ∈ l, dry (v n) = true) (hl2 : l.length ≤ 100) (hne : l.length ≠ (owN es).length) : run P0 (k + 6) 13 [W es, rowD l v] S = .ok (.bl false) S := by
  have h1 := r_ai (k + 2) S l v hn hd hl2
  cases hb : (((l.zip (l.drop 1)).all fun p => ltS p.1 p.2) && l.all fun n => isI (v n)) with
  | false => rw [hb] at h1; exact r_sol_no k S hl h1
  | true =>
    rw [hb] at h1
    have h2 : eqvL (l.map .str) ((owN es).map .str) = false := by
      cases e : eqvL (l.map .str) ((owN es).map .str) with
      | false => rfl
      | true => exact absurd (by simpa only [List.length_map] using eqvL_len e) hne
    have h3 := e_cmp (Γ := Γr (k + 5)) (o := .NotEq) (ev_nms (k + 5) S l v hl2 (W es) none none none none) (e_call (f := 7) (l_cons (e := .var 0) (d := W es) (e_var rfl) l_nil) ((r_names (k + 4) S good_W (nb_of el_W (by rw [List.length_map]; exact hl))).trans (by rw [nms_W]))) (ne_strs l (owN es) S)
    rw [h2] at h3
    exact call_dry0 f_is_solution rfl rfl (sol_pre k S hl _ (if_ret (b := true) (e_or_f (e_not (b := true) (e_call (l_cons (e_var rfl) l_nil) h1)) (e_or_1 h3)) rfl (seq_ret (s_ret rfl)))) rfl
theorem all_W (k : Nat) (S : Sto) (hl : es.length ≤ 40) (w : Str → Int) (l : List Str) (b : D) (x4 x5 : Option D) (h : ∀ q ∈ es, ∀ n ∈ sup NL q.2, n ∈ l ∧ (sml (q.2 n) ∨ sml (w n))) : evE (Γr (k + 2)) (.bi .all [.lc (.call 6 [.var 3, .var 2]) (.nm 3) (.itv (.var 0)) [] [3]]) (envI (W es) b (some (.dic (dicR l fun n => .int (w n)))) none x4 x5) S = .ok (.bl (es.all fun q => val NL q.1 q.2 w == 0)) S :=
  all_lc es (fun q => val NL q.1 q.2 w == 0) (lc_map es eqD _ (i_itv (d := W es) (e_var rfl) rfl) (fun q hq => ⟨envI (W es) b (some (.dic (dicR l fun n => .int (w n)))) (some (eqD q)) x4 x5, rfl, e_call (l_cons (e_var rfl) (l_cons (e_var rfl) l_nil)) (r_so k S q w l (h q hq))⟩) (Nat.le_trans hl (by decide)))
theorem all_isI (l : List Str) (w : Str → Int) : (l.all fun n => isI (D.int (w n))) = true := by simp [isI]
theorem r_sol (k : Nat) (S : Sto) (hl : es.length ≤ 40) (ha : ∀ q ∈ es, ∀ n, (q.2 n).natAbs ≤ 100) (w : Str → Int) : run P0 (k + 6) 13 [W es, rowD (owN es) fun n => .int (w n)] S = .ok (.bl (es.all fun q => val NL q.1 q.2 w == 0)) S := by
  have hr := row_ow (es := es) (fun n => .int (w n)) fun _ => rfl
  have h1 := r_ai (k + 2) S (owN es) (fun n => .int (w n)) hr.nm (fun _ _ => rfl) hr.len
  rw [all_zip (owN es) hr.pw, all_isI, Bool.and_self] at h1
  have h3 := e_cmp (Γ := Γr (k + 5)) (o := .NotEq) (ev_nms (k + 5) S (owN es) (fun n => .int (w n)) hr.len (W es) none none none none) (e_call (f := 7) (l_cons (e := .var 0) (d := W es) (e_var rfl) l_nil) ((r_names (k + 4) S good_W (nb_of el_W (by rw [List.length_map]; exact hl))).trans (by rw [nms_W]))) (ne_strs (owN es) (owN es) S)
  rw [eqvL_str] at h3
  refine call_dry0 f_is_solution rfl rfl (sol_pre k S hl _ (if_skip (b := false) (e_or_f (e_not (b := true) (e_call (l_cons (e_var rfl) l_nil) h1)) (e_or_1 h3)) rfl (seq_nx (s_asg (d := .dic (dicR (owN es) fun n => .int (w n))) (e_bi1 (d := rowD (owN es) fun n => .int (w n)) (e_var rfl) (dictD_rows _ _ S)) rfl) (seq_ret (s_ret (all_W (k + 3) S hl w (owN es) _ none none fun q hq n hn => ⟨mem_ow hq hn, Or.inl (sml4 (ha q hq n))⟩)))))) rfl
end K05
end

section
set_option Elab.async false
set_option linter.all false
set_option maxRecDepth 100000
/-! K05L: one turn of the law, and its end. -/
namespace K05
open PySem MP MP.Lb MP.Fm MP.Ev
abbrev X0 : Ex := .ix (.lst [.con (.str "abxy"), .con (.str "x"), .con (.str "bn"), .con (.str "amn"), .con (.str "cdef")]) (.var 2)
abbrev X1 : Ex := .call 15 [.op .Add (.slL (.var 1) (.op .Mult (.con (.int 31)) (.var 2))) (.var 1), .op .Add (.con (.int 1)) (.op .Mod (.bi .int [.ix (.var 1) (.op .Add (.con (.int 200)) (.var 2))]) (.con (.int 4))), .var 3]
abbrev X4 : Ex := .ix (.ix (.var 4) (.var 5)) (.con (.int 1))
abbrev X5 : Ex := .lst [.con .non, .con (.int 5), .tup [.con (.str "least"), .var 7], .tup [.con (.str "zero")], .lst [.con (.str "zero"), .var 7], .tup [.con (.str "zero"), .bi .list [.var 7]], .tup [.con (.str "zero"), .tup [.con (.bl true), .ix (.var 7) (.con (.int 1))]]]
abbrev X6 : Ex := .op .Add (.var 8) (.lst [.tup [.con (.str "zero"), .tup [.ix (.var 7) (.con (.int 0)), .bi .list [.ix (.var 7) (.con (.int 1))]]], .tup [.con (.str "zero"), .tup [.con (.int 0), .tup [.tup [.con (.str "a"), .con (.int 0)]]]], .tup [.con (.str "zero"), .tup [.con (.int 0), .tup [.tup [.con (.str "b"), .con (.int 1)], .tup [.con (.str "a"), .con (.int 1)]]]]])
abbrev X7 : Ex := .op .Add (.var 8) (.lst [.tup [.con (.str "zero"), .tup [.con (.int 0), .tup [.tup [.con (.str "a"), .con (.int 1)], .tup [.con (.str "a"), .con (.int 1)]]]], .tup [.con (.str "zero"), .tup [.con (.int 0), .tup [.tup [.con (.str "A"), .con (.int 1)]]]], .tup [.con (.str "zero"), .tup [.con (.int 0), .tup [.tup [.con (.str "longnames"), .con (.int 1)]]]], .tup [.con (.str "zero"), .tup [.con (.int 0), .tup [.tup [.con (.str "1a"), .con (.int 1)]]]]])
abbrev X8 : Ex := .op .Add (.var 8) (.lst [.tup [.con (.str "zero"), .tup [.con (.int 0), .tup [.tup [.con (.str "a"), .con (.bl true)]]]], .tup [.con (.str "zero"), .tup [.con (.int 5), .tup []]], .tup [.con (.str "zero"), .tup [.con (.int 0), .tup [.tup [.con (.str "longname"), .con (.int 1)]]]]])
abbrev X9 : Ex := .op .Add (.lc (.op .Add (.op .Add (.slH (.var 4) (.var 5)) (.tup [.var 20])) (.slL (.var 4) (.op .Add (.var 5) (.con (.int 1))))) (.nm 20) (.itv (.var 8)) [] [20]) (.lst [.con .non, .bi .list [.var 4], .tup [], .op .Mult (.var 4) (.con (.int 11)), .op .Mult (.slH (.var 4) (.con (.int 1))) (.con (.int 40)), .op .Mult (.slH (.var 4) (.con (.int 1))) (.con (.int 41))])
abbrev X10 : Ex := .bi .tuple [.lc (.tup [.con (.str "zero"), .tup [.con (.int 0), .tup [.tup [.var 21, .con (.int 1)]]]]) (.nm 21) (.itv (.con (.str "abcdefghijklm"))) [] [21]]
abbrev X13 : Ex := .bi .dict [.lc (.tup [.var 21, .con (.int 0)]) (.nm 21) (.itv (.var 6)) [] [21]]
abbrev X14 : Ex := .bi .tuple [.lc (.tup [.con (.str "zero"), .tup [.op .Sub (.con (.int 0)) (.bi .sum [.lc (.op .Mult (.con (.int 2)) (.var 26)) (.tp [.nm 21, .nm 26]) (.itv (.ix (.var 7) (.con (.int 1)))) [] [21, 26]]), .ix (.var 7) (.con (.int 1))]]) (.tp [.nm 22, .nm 7]) (.itv (.var 4)) [] [22, 7]]
abbrev X15 : Ex := .bi .tuple [.lc (.tup [.var 21, .con (.int 2)]) (.nm 21) (.itv (.var 6)) [] [21]]
abbrev X16 : Ex := .lst [.con .non, .tup [], .bi .list [.var 18], .slL (.var 18) (.con (.int 1)), .op .Add (.var 18) (.tup [.tup [.con (.str "zz"), .con (.int 0)]]), .ite (.cmp .Gt (.bi .len [.var 18]) (.con (.int 1))) (.rev (.var 18)) (.con .non), .bi .tuple [.lc (.tup [.var 21, .con (.bl true)]) (.nm 21) (.itv (.var 6)) [] [21]], .bi .tuple [.lc (.bi .list [.var 24]) (.nm 24) (.itv (.var 18)) [] [24]]]
abbrev CC2 : Ex := .or [.cmp .IsNot (.call 8 [.var 4]) (.con .non), .not (.isi (.call 10 [.var 4]) .tuple), .cmp .NotEq (.call 10 [.var 4]) (.call 16 [.var 4])]
abbrev X3 : List Ex := [.op .Mod (.bi .int [.ix (.var 1) (.op .Add (.con (.int 210)) (.var 2))]) (.bi .len [.var 4]), .call 16 [.var 4]]
abbrev I11 : Ex := .itv (.op .Add (.var 9) (.lst [.var 10, .slH (.var 10) (.con (.int 12)), .tup [.tup [.con (.str "zero"), .tup [.con (.int 0), .bi .tuple [.lc (.tup [.var 21, .con (.int 1)]) (.nm 21) (.itv (.con (.str "abcdefghijklm"))) [] [21]]]]]]))
abbrev B11 : List Sm := [.asg (.nm 12) (.call 19 [.var 11]), .ifs (.or [.cmp .NotEq (.call 8 [.var 11]) (.var 12), .and [.cmp .IsNot (.var 12) (.con .non), .cmp .NotEq (.lc (.call 20 [.var 25, .var 11, .tup []]) (.nm 25) (.rg1 (.con (.int 3))) [] [25]) (.op .Mult (.lst [.con (.str "equations")]) (.con (.int 3)))]]) [.ret (.con (.bl false))] []]
abbrev I12 : Ex := .rg1 (.con (.int 12))
abbrev B12 : List Sm := [.asg (.nm 14) (.bi .tuple [.lc (.tup [.var 21, .op .Sub (.op .Mod (.bi .int [.ix (.var 1) (.op .Mod (.op .Add (.op .Add (.op .Add (.con (.int 220)) (.op .Mult (.con (.int 5)) (.var 13))) (.var 23)) (.var 2)) (.con (.int 300)))]) (.con (.int 9))) (.con (.int 4))]) (.tp [.nm 23, .nm 21]) (.itv (.lse (.var 6))) [] [23, 21]]), .asg (.nm 12) (.bi .all [.lc (.cmp .Eq (.op .Add (.ix (.var 7) (.con (.int 0))) (.bi .sum [.lc (.op .Mult (.var 26) (.ix (.bi .dict [.var 14]) (.var 21))) (.tp [.nm 21, .nm 26]) (.itv (.ix (.var 7) (.con (.int 1)))) [] [21, 26]])) (.con (.int 0))) (.tp [.nm 22, .nm 7]) (.itv (.var 4)) [] [22, 7]]), .asg (.nm 15) (.call 13 [.var 4, .var 14]), .ifs (.or [.not (.isi (.var 15) .bool), .cmp .NotEq (.var 15) (.var 12)]) [.ret (.con (.bl false))] []]
abbrev R14 : Ex := .bi .tuple [.lc (.tup [.var 21, .op .Sub (.op .Mod (.bi .int [.ix (.var 1) (.op .Mod (.op .Add (.op .Add (.op .Add (.con (.int 220)) (.op .Mult (.con (.int 5)) (.var 13))) (.var 23)) (.var 2)) (.con (.int 300)))]) (.con (.int 9))) (.con (.int 4))]) (.tp [.nm 23, .nm 21]) (.itv (.lse (.var 6))) [] [23, 21]]
abbrev R12 : Ex := .bi .all [.lc (.cmp .Eq (.op .Add (.ix (.var 7) (.con (.int 0))) (.bi .sum [.lc (.op .Mult (.var 26) (.ix (.bi .dict [.var 14]) (.var 21))) (.tp [.nm 21, .nm 26]) (.itv (.ix (.var 7) (.con (.int 1)))) [] [21, 26]])) (.con (.int 0))) (.tp [.nm 22, .nm 7]) (.itv (.var 4)) [] [22, 7]]
abbrev C17 : Ex := .or [.not (.call 13 [.var 17, .var 18]), .and [.cmp .Gt (.bi .len [.var 16]) (.con (.int 0)), .cmp .NotEq (.lc (.call 13 [.var 17, .var 11]) (.nm 11) (.itv (.var 19)) [] [11]) (.op .Mult (.lst [.con (.bl false)]) (.con (.int 8)))]]
abbrev XR : Ex := .and [.call 13 [.tup [], .tup []], .not (.call 13 [.tup [.tup [.con (.str "zero"), .tup [.con (.int 1), .tup []]]], .tup []]), .cmp .Eq (.call 10 [.tup []]) (.tup [])]
abbrev Γ0 : MP.Ctx := Γr 10
abbrev RF : List Sm := [.ret (.con (.bl false))]
abbrev E (x0 x1 x2 x3 x4 x5 x6 x7 x8 x9 x10 x11 x12 x13 x14 x15 x16 x17 x18 x19 x20 x21 x22 x23 x24 x25 x26 : Option D) : MP.Env := [x0, x1, x2, x3, x4, x5, x6, x7, x8, x9, x10, x11, x12, x13, x14, x15, x16, x17, x18, x19, x20, x21, x22, x23, x24, x25, x26]
variable {ρ : MP.Env} {S : Sto} {z : Str} {ns : List Str} {es : List Eq} {ds : List Int} {t at_ : Nat} {q : Eq}
/-! ### the equations -/
def zs (t : Nat) : Str := (["abxy", "x", "bn", "amn", "cdef"] : List Str).getD t ""
theorem zs_nm : ∀ t, t < 5 → ∃ ns, Nm (zs t) ns
  | 0, _ => ⟨["a", "b", "x", "y"], by decide +kernel, by decide +kernel, by decide +kernel, by decide +kernel⟩
  | 1, _ => ⟨["x"], by decide +kernel, by decide +kernel, by decide +kernel, by decide +kernel⟩
  | 2, _ => ⟨["b", "n"], by decide +kernel, by decide +kernel, by decide +kernel, by decide +kernel⟩
  | 3, _ => ⟨["a", "m", "n"], by decide +kernel, by decide +kernel, by decide +kernel, by decide +kernel⟩
  | 4, _ => ⟨["c", "d", "e", "f"], by decide +kernel, by decide +kernel, by decide +kernel, by decide +kernel⟩
  | _ + 5, h => by omega
theorem ev0 (ht : t < 5) (h2 : ρ.get 2 = some (.int t)) : evE Γ0 X0 ρ S = .ok (.str (zs t)) S := by
  refine ix_lst (xs := [.str "abxy", .str "x", .str "bn", .str "amn", .str "cdef"]) (by rfl) (e_var h2) ?_
  match t, ht with
  | 0, _ => rfl
  | 1, _ => rfl
  | 2, _ => rfl
  | 3, _ => rfl
  | 4, _ => rfl
theorem fm_nat (x : Int) (m : Nat) (hm : 0 < m) : ∃ r : Nat, x.fmod m = r ∧ r < m := by
  have h1 := Int.fmod_nonneg_of_pos x (b := (m : Int)) (by omega)
  have h2 := Int.fmod_lt_of_pos x (b := (m : Int)) (by omega)
  exact ⟨(x.fmod m).toNat, by omega, by omega⟩
theorem ev1 (hd : ds.length = 300) (h1 : ρ.get 1 = some (nums ds)) (h2 : ρ.get 2 = some (.int t)) (ht : t < 5) (h3 : ρ.get 3 = some (.str z)) (h : Nm z ns) : ∃ es, (1 ≤ es.length ∧ es.length ≤ 4) ∧ Eqs ns es ∧ evE Γ0 X1 ρ S = .ok (W es) S := by
  have e1 := drop_add (Γ := Γ0) (S := S) (e := .op .Mult (.con (.int 31)) (.var 2)) (k := 31 * t) h1 (e_mulk 31 (by decide) (e_var h2)) (by omega)
  obtain ⟨r, hr, hr4⟩ := fm_nat (ds.getD (200 + t) 0) 4 (by decide)
  have e2 := e_mod (Γ := Γ0) (S := S) 4 (by decide) (e_at h1 (e_addk 200 (e_var h2)) (by omega : 200 + t < ds.length))
  rw [show (4 : Int) = ((4 : Nat) : Int) from rfl, hr] at e2
  have e3 := e_addk (Γ := Γ0) 1 e2
  obtain ⟨es, hl, he, hr⟩ := r_leqs 9 S h (ds.drop (31 * t) ++ ds) (by rw [List.length_append]; omega) (by rw [List.length_append, List.length_drop]; omega) (1 + r) (by omega)
  exact ⟨es, by omega, he, e_call (l_cons e1 (l_cons e3 (l_cons (e_var h3) l_nil))) hr⟩
theorem ev2 (h4 : ρ.get 4 = some (W es)) (hl : es.length ≤ 40) : evE Γ0 CC2 ρ S = .ok (.bl false) S := by
  have a1 : evE Γ0 (.call 8 [.var 4]) ρ S = .ok .non S := e_call (l_cons (e_var h4) l_nil) ((r_eqF 6 S (ok_of el_W).dr (ok_of el_W).nb).trans (by rw [eqF_W hl]))
  have a2 : evE Γ0 (.call 10 [.var 4]) ρ S = .ok (.tup ((owN es).map .str)) S := e_call (l_cons (e_var h4) l_nil) ((r_namesof 4 S (ok_of el_W) (eqF_W hl) good_W (nb_of el_W (by rw [List.length_map]; exact hl))).trans (by rw [nms_W]))
  have a3 : evE Γ0 (.call 16 [.var 4]) ρ S = .ok (.tup ((owN es).map .str)) S := e_call (l_cons (e_var h4) l_nil) ((r_lnames 9 S good_W (nb_of el_W (by rw [List.length_map]; exact hl))).trans (by rw [nms_W]))
  refine e_or_f (e_cmp (x := .non) (y := .non) a1 rfl rfl) (e_or_f (e_not (b := true) (e_isi a2 rfl)) (e_or_1 (e_cmp a2 a3 ?_)))
  rw [ne_strs, eqvL_str]; rfl
theorem ev3 (hd : ds.length = 300) (h1 : ρ.get 1 = some (nums ds)) (h2 : ρ.get 2 = some (.int t)) (ht : t < 5) (h4 : ρ.get 4 = some (W es)) (hl : 1 ≤ es.length ∧ es.length ≤ 40) : ∃ at_ : Nat, at_ < es.length ∧ evL Γ0 X3 ρ S = .ok [.int at_, .tup ((owN es).map .str)] S := by
  have e2 := e_bint (Γ := Γ0) (S := S) (e_at h1 (e_addk 210 (e_var h2)) (by omega : 210 + t < ds.length))
  obtain ⟨r, hr, hr4⟩ := fm_nat (ds.getD (210 + t) 0) es.length (by omega)
  have a3 : evE Γ0 (.call 16 [.var 4]) ρ S = .ok (.tup ((owN es).map .str)) S := e_call (l_cons (e_var h4) l_nil) ((r_lnames 9 S good_W (nb_of el_W (by rw [List.length_map]; exact hl.2))).trans (by rw [nms_W]))
  refine ⟨r, hr4, l_cons (e_op e2 (y := .int es.length) (e_bi1 (d := W es) (e_var h4) (by simp only [bi1, lenD, List.length_map])) ?_) (l_cons a3 l_nil)⟩
  simp only [opD]
  rw [if_pos (by omega), hr]
theorem ev4 (h4 : ρ.get 4 = some (W es)) (h5 : ρ.get 5 = some (.int at_)) (hq : es[at_]? = some q) : evE Γ0 X4 ρ S = .ok (fD NL q.1 q.2) S :=
  e_ix (x := eqD q) (y := .int 1) (ix_tup (e_var h4) (e_var h5) (by rw [List.getElem?_map, hq]; rfl)) rfl rfl
/-! ### the values -/
abbrev F (q : Eq) : D := fD NL q.1 q.2
abbrev itms (q : Eq) : List D := (sup NL q.2).map (itN q.2)
abbrev zq (c : Int) (l : List D) : D := .tup [.str "zero", .tup [.int c, .tup l]]
abbrev pr (n : Str) (v : D) : D := .tup [.str n, v]
def news1 (q : Eq) : List D := [.non, .int 5, .tup [.str "least", F q], .tup [.str "zero"], .lst [.str "zero", F q], .tup [.str "zero", .lst [.int q.1, .tup (itms q)]], .tup [.str "zero", .tup [.bl true, .tup (itms q)]]]
def news2 (q : Eq) : List D := [.tup [.str "zero", .tup [.int q.1, .lst (itms q)]], zq 0 [pr "a" (.int 0)], zq 0 [pr "b" (.int 1), pr "a" (.int 1)]]
def news3 : List D := [zq 0 [pr "a" (.int 1), pr "a" (.int 1)], zq 0 [pr "A" (.int 1)], zq 0 [pr "longnames" (.int 1)], zq 0 [pr "1a" (.int 1)]]
def news4 : List D := [zq 0 [pr "a" (.bl true)], zq 5 [], zq 0 [pr "longname" (.int 1)]]
def news (q : Eq) : List D := news1 q ++ news2 q ++ news3 ++ news4
theorem ev5 (h7 : ρ.get 7 = some (F q)) : evE Γ0 X5 ρ S = .ok (.lst (news1 q)) S :=
  e_lst (l_cons (d := .non) rfl (l_cons (d := .int 5) rfl (l_cons (e_tup (l_cons (d := .str "least") rfl (l_cons (e_var h7) l_nil)) (by simp [LIM])) (l_cons (e_tup (l_cons (d := .str "zero") rfl l_nil) (by simp [LIM])) (l_cons (e_lst (l_cons (d := .str "zero") rfl (l_cons (e_var h7) l_nil)) (by simp [LIM])) (l_cons (e_tup (l_cons (d := .str "zero") rfl (l_cons (e_bi1 (d := F q) (e_var h7) rfl) l_nil)) (by simp [LIM])) (l_cons (e_tup (l_cons (d := .str "zero") rfl (l_cons (e_tup (l_cons (d := .bl true) rfl (l_cons (ix1 _ (i := 7) S h7) l_nil)) (by simp [LIM])) l_nil)) (by simp [LIM])) l_nil))))))) (by decide : 7 ≤ LIM)
theorem add_lst {Γ : MP.Ctx} {e e' : Ex} {xs ys : List D} (h : evE Γ e ρ S = .ok (.lst xs) S) (h' : evE Γ e' ρ S = .ok (.lst ys) S) (hl : xs.length + ys.length ≤ LIM) : evE Γ (.op .Add e e') ρ S = .ok (.lst (xs ++ ys)) S :=
  e_op h h' (by simp only [opD, if_pos hl])
theorem ev6 (h7 : ρ.get 7 = some (F q)) (h8 : ρ.get 8 = some (.lst (news1 q))) : evE Γ0 X6 ρ S = .ok (.lst (news1 q ++ news2 q)) S :=
  add_lst (e_var h8) (e_lst (l_cons (e_tup (l_cons (d := .str "zero") rfl (l_cons (e_tup (l_cons (ix0 _ (i := 7) S h7) (l_cons (e_bi1 (ix1 _ (i := 7) S h7) rfl) l_nil)) (by simp [LIM])) l_nil)) (by simp [LIM])) (l_cons (d := zq 0 [pr "a" (.int 0)]) rfl (l_cons (d := zq 0 [pr "b" (.int 1), pr "a" (.int 1)]) rfl l_nil))) (by decide : 3 ≤ LIM)) (by decide : 7 + 3 ≤ LIM)
theorem ev7 (h8 : ρ.get 8 = some (.lst (news1 q ++ news2 q))) : evE Γ0 X7 ρ S = .ok (.lst (news1 q ++ news2 q ++ news3)) S :=
  add_lst (e_var h8) (by rfl) (by decide : 10 + 4 ≤ LIM)
theorem ev8 (h8 : ρ.get 8 = some (.lst (news1 q ++ news2 q ++ news3))) : evE Γ0 X8 ρ S = .ok (.lst (news q)) S :=
  add_lst (e_var h8) (by rfl) (by decide : 14 + 3 ≤ LIM)
theorem el_lit {l : List D} {c : Int} (h1 : dryLS l = true) (h2 : (nmsE (zq c l)).length ≤ 13) (h3 : ∀ n ∈ nmsE (zq c l), n ∈ U) : El (zq c l) where
  dr := by
    have h : dryS (.str "zero") = true := by decide +kernel
    simp only [dryS, dryLS, h1, Bool.and_true] at h ⊢
    exact h
  zs := fun z b e => by cases e; rfl
  len := h2
  sub := h3
theorem dryLS_itms (q : Eq) : dryLS (itms q) = true := by
  have := dryS_fD (NL := NL) q.1 q.2
  simpa only [fD, dryS, dryLS, Bool.true_and, Bool.and_true] using this
theorem nms_itms (q : Eq) (a b : D) : nmsE (.tup [a, .tup [b, .tup (itms q)]]) = sup NL q.2 := by
  simp only [nmsE, List.filterMap_map]
  exact List.filterMap_some
theorem sup_U {q : Eq} {n : Str} (hn : n ∈ sup NL q.2) : n ∈ U := List.mem_append_left _ (sup_mem hn).1
theorem sup_13 (q : Eq) : (sup NL q.2).length ≤ 13 := Nat.le_trans (List.length_filter_le _ _) (by decide)
theorem el_zero {x : D} (h1 : dryS x = true) (h2 : nmsE (.tup [.str "zero", x]) = []) : El (.tup [.str "zero", x]) where
  dr := by
    have h : dryS (.str "zero") = true := by decide +kernel
    simp only [dryS, dryLS, h1, Bool.and_true] at h ⊢
    exact h
  zs := fun z b e => by cases e; rfl
  len := by rw [h2]; decide
  sub := fun n hn => by rw [h2] at hn; cases hn
theorem el_news (q : Eq) : ∀ d ∈ news q, El d := by
  intro d hd
  have hz : dryS (.str "zero") = true := by decide +kernel
  have hle : dryS (.str "least") = true := by decide +kernel
  simp only [news, news1, news2, news3, news4, List.mem_append, List.mem_cons, List.not_mem_nil, or_false] at hd
  rcases hd with (((rfl | rfl | rfl | rfl | rfl | rfl | rfl) | (rfl | rfl | rfl)) | (rfl | rfl | rfl | rfl)) | (rfl | rfl | rfl)
  · exact ⟨rfl, fun z b e => (by cases e), by decide, fun n hn => (by cases hn)⟩
  · exact ⟨rfl, fun z b e => (by cases e), by decide, fun n hn => (by cases hn)⟩
  · refine ⟨?_, fun z b e => (by cases e; rfl), ?_, fun n hn => ?_⟩
    · have := dryS_fD (NL := NL) q.1 q.2
      simp only [dryS, dryLS, this, Bool.and_true] at hle ⊢
      exact hle
    · rw [show nmsE (.tup [.str "least", F q]) = sup NL q.2 from nms_itms q _ _]; exact sup_13 q
    · rw [show nmsE (.tup [.str "least", F q]) = sup NL q.2 from nms_itms q _ _] at hn; exact sup_U hn
  · exact ⟨by simp only [dryS, dryLS, Bool.and_true] at hz ⊢; exact hz, fun z b e => (by cases e), by decide, fun n hn => (by cases hn)⟩
  · refine ⟨?_, fun z b e => (by cases e), (show 0 ≤ 13 by omega), fun n hn => (by cases hn)⟩
    have := dryS_fD (NL := NL) q.1 q.2
    simp only [dryS, dryLS, this, Bool.and_true] at hz ⊢
    exact hz
  · refine el_zero ?_ rfl
    have := dryLS_itms q
    simp only [dryS, dryLS, this, Bool.and_self]
  · refine ⟨?_, fun z b e => (by cases e; rfl), ?_, fun n hn => ?_⟩
    · have := dryLS_itms q
      simp only [dryS, dryLS, this, Bool.and_true] at hz ⊢
      exact hz
    · rw [nms_itms]; exact sup_13 q
    · rw [nms_itms] at hn; exact sup_U hn
  · refine el_zero ?_ rfl
    have := dryLS_itms q
    simp only [dryS, dryLS, this, Bool.and_self]
  all_goals exact el_lit (by decide +kernel) (by decide +kernel) (by decide +kernel)
def bent (es : List Eq) (i : Nat) (d : D) : D := .tup ((es.map eqD).take i ++ [d] ++ (es.map eqD).drop (i + 1))
def rep (n : Nat) (l : List D) : List D := (List.replicate n l).flatten
def rest (es : List Eq) : List D := [.non, .lst (es.map eqD), .tup [], .tup (rep 11 (es.map eqD)), .tup (rep 40 ((es.map eqD).take 1)), .tup (rep 41 ((es.map eqD).take 1))]
theorem mul_tup {Γ : MP.Ctx} {e : Ex} {xs : List D} (n : Nat) (h : evE Γ e ρ S = .ok (.tup xs) S) (hn : 2 ≤ n ∧ n ≤ 1000) (hx : 1 ≤ xs.length ∧ xs.length ≤ 1000) : evE Γ (.op .Mult e (.con (.int n))) ρ S = .ok (.tup (rep n xs)) S :=
  e_op h (y := .int n) (by rfl) (by
    simp only [opD]
    rw [if_pos (by omega)]; rfl)
theorem ev9 (hl : 1 ≤ es.length ∧ es.length ≤ 4) (hat : at_ < es.length) (x0 x1 x2 x3 x6 x7 x9 x10 x11 x12 x13 x14 x15 x16 x17 x18 x19 x20 x21 x22 x23 x24 x25 x26 : Option D) : evE Γ0 X9 (E x0 x1 x2 x3 (some (W es)) (some (.int at_)) x6 x7 (some (.lst (news q))) x9 x10 x11 x12 x13 x14 x15 x16 x17 x18 x19 x20 x21 x22 x23 x24 x25 x26) S = .ok (.lst ((news q).map (bent es at_) ++ rest es)) S := by
  have hlen : (es.map eqD).length = es.length := List.length_map _
  have hn : (news q).length = 17 := rfl
  have tk : ∀ {ρ : MP.Env} {e : Ex} {i : Nat}, ρ.get 4 = some (W es) → evE Γ0 e ρ S = .ok (.int i) S → evE Γ0 (.slH (.var 4) e) ρ S = .ok (.tup ((es.map eqD).take i)) S := fun h4 he => e_slH (x := W es) (e_var h4) he (by simp only [slD, cut_hi])
  refine add_lst (lc_map (g := none) (news q) id (bent es at_) (i_itv (d := .lst (news q)) (e_var rfl) (by simp [itemsOf])) (fun d _ => ⟨E x0 x1 x2 x3 (some (W es)) (some (.int at_)) x6 x7 (some (.lst (news q))) x9 x10 x11 x12 x13 x14 x15 x16 x17 x18 x19 (some d) x21 x22 x23 x24 x25 x26, rfl, ?_⟩) (by rw [hn]; decide)) (e_lst (l_cons (d := .non) rfl (l_cons (e_bi1 (d := W es) (e_var rfl) rfl) (l_cons (d := .tup []) rfl (l_cons (mul_tup 11 (e_var rfl) (by omega) (by omega)) (l_cons (mul_tup 40 (tk rfl (i := 1) rfl) (by omega) (by rw [List.length_take]; omega)) (l_cons (mul_tup 41 (tk rfl (i := 1) rfl) (by omega) (by rw [List.length_take]; omega)) l_nil)))))) (by decide : 6 ≤ LIM)) (by rw [List.length_map, hn]; exact (by decide : 17 + 6 ≤ LIM))
  have a1 := e_op (Γ := Γ0) (o := .Add) (tk (ρ := E x0 x1 x2 x3 (some (W es)) (some (.int at_)) x6 x7 (some (.lst (news q))) x9 x10 x11 x12 x13 x14 x15 x16 x17 x18 x19 (some d) x21 x22 x23 x24 x25 x26) rfl (e_var (i := 5) rfl)) (e_tup (es := [.var 20]) (l_cons (e_var (d := d) rfl) l_nil) (by simp [LIM])) (r := .tup ((es.map eqD).take at_ ++ [d])) (by
    simp only [opD]
    rw [if_pos (by simp only [List.length_take, List.length_singleton, LIM]; omega)])
  refine e_op a1 (y := .tup ((es.map eqD).drop (at_ + 1))) (e_slL (x := W es) (i := ((at_ + 1 : Nat) : Int)) (e_var rfl) (e_op (x := .int at_) (y := .int 1) (e_var rfl) rfl (by simp only [opD, Int.natCast_add]; rfl)) (by simp only [slD, cut_lo])) ?_
  simp only [opD]
  rw [if_pos (by simp only [List.length_append, List.length_take, List.length_drop, List.length_singleton, LIM]; omega)]
  rfl
def ls : List Nat := ("abcdefghijklm" : Str).cps.toList
def wq (c : Nat) : D := zq 0 [pr (one c) (.int 1)]
def wideL : List D := ls.map wq
theorem ls_len : ls.length = 13 := by decide +kernel
theorem ls_U : ∀ c ∈ ls, one c ∈ U := by decide +kernel
theorem ls_str : ∀ c ∈ ls, dryS (.str (one c)) = true := by decide +kernel
theorem el_wq {c : Nat} (hc : c ∈ ls) : El (wq c) := el_lit (by
  have := ls_str c hc
  simp only [dryLS, dryS, Bool.and_true] at this ⊢
  exact this) (by show 1 ≤ 13; omega) (fun n hn => by
    have : n ∈ [one c] := hn
    rw [List.mem_singleton.mp this]; exact ls_U c hc)
theorem ev10 (x0 x1 x2 x3 x4 x5 x6 x7 x8 x9 x10 x11 x12 x13 x14 x15 x16 x17 x18 x19 x20 x21 x22 x23 x24 x25 x26 : Option D) : evE Γ0 X10 (E x0 x1 x2 x3 x4 x5 x6 x7 x8 x9 x10 x11 x12 x13 x14 x15 x16 x17 x18 x19 x20 x21 x22 x23 x24 x25 x26) S = .ok (.tup wideL) S :=
  tup_lc (lc_map ls sgn wq (i_itv (d := .str "abcdefghijklm") rfl rfl) (fun c _ => ⟨E x0 x1 x2 x3 x4 x5 x6 x7 x8 x9 x10 x11 x12 x13 x14 x15 x16 x17 x18 x19 x20 (some (sgn c)) x22 x23 x24 x25 x26, rfl, rfl⟩) (by rw [ls_len]; decide))
def single : D := .tup [zq 0 (ls.map fun c => pr (one c) (.int 1))]
def vals (es : List Eq) (i : Nat) (q : Eq) : List D := (news q).map (bent es i) ++ rest es ++ [.tup wideL, .tup (wideL.take 12), single]
theorem ev11 (hl : es.length ≤ 4) (x0 x1 x2 x3 x4 x5 x6 x7 x8 x11 x12 x13 x14 x15 x16 x17 x18 x19 x20 x21 x22 x23 x24 x25 x26 : Option D) : evI Γ0 I11 (E x0 x1 x2 x3 x4 x5 x6 x7 x8 (some (.lst ((news q).map (bent es at_) ++ rest es))) (some (.tup wideL)) x11 x12 x13 x14 x15 x16 x17 x18 x19 x20 x21 x22 x23 x24 x25 x26) S = .ok (vals es at_ q, none) S := by
  have hn : (news q).length = 17 := rfl
  refine i_itv (d := .lst (vals es at_ q)) (add_lst (e_var rfl) (e_lst (l_cons (e_var (d := .tup wideL) rfl) (l_cons (e_slH (x := .tup wideL) (j := ((12 : Nat) : Int)) (e_var rfl) rfl (by simp only [slD, cut_hi])) (l_cons (e_tup (l_cons (e_tup (l_cons (d := .str "zero") rfl (l_cons (e_tup (l_cons (d := .int 0) rfl (l_cons (tup_lc (lc_map ls sgn (fun c => pr (one c) (.int 1)) (i_itv (d := .str "abcdefghijklm") rfl rfl) (fun c _ => ⟨E x0 x1 x2 x3 x4 x5 x6 x7 x8 (some (.lst ((news q).map (bent es at_) ++ rest es))) (some (.tup wideL)) x11 x12 x13 x14 x15 x16 x17 x18 x19 x20 (some (sgn c)) x22 x23 x24 x25 x26, rfl, rfl⟩) (by rw [ls_len]; decide))) l_nil)) (by simp [LIM])) l_nil)) (by simp [LIM])) l_nil) (by simp [LIM])) l_nil))) (by simp [LIM])) ?_) rfl
  rw [List.length_append, List.length_map, hn]; exact (by decide : 17 + 6 + 3 ≤ LIM)
theorem rep_mem {n : Nat} {l : List D} {d : D} (h : d ∈ rep n l) : d ∈ l := by
  obtain ⟨l', h1, h2⟩ := List.mem_flatten.mp h
  rw [(List.mem_replicate.mp h1).2] at h2; exact h2
theorem ok_vals (es : List Eq) (i : Nat) (q : Eq) : ∀ v ∈ vals es i q, Ok v := by
  intro v hv
  simp only [vals, rest, List.mem_append, List.mem_cons, List.not_mem_nil, or_false, List.mem_map] at hv
  have hW : ∀ d ∈ es.map eqD, El d := el_W
  rcases hv with (⟨d, hd, rfl⟩ | rfl | rfl | rfl | rfl | rfl | rfl) | rfl | rfl | rfl
  · refine ok_of fun x hx => ?_
    rcases List.mem_append.mp hx with hx | hx
    · rcases List.mem_append.mp hx with hx | hx
      · exact hW x (List.mem_of_mem_take hx)
      · rw [List.mem_singleton.mp hx]; exact el_news q d hd
    · exact hW x (List.mem_of_mem_drop hx)
  · exact ok_not rfl fun ds e => by cases e
  · exact ok_not (dryLS_of fun d hd => (hW d hd).dr) fun ds e => by cases e
  · exact ok_of fun x hx => by cases hx
  · exact ok_of fun x hx => hW x (rep_mem hx)
  · exact ok_of fun x hx => hW x (List.mem_of_mem_take (rep_mem hx))
  · exact ok_of fun x hx => hW x (List.mem_of_mem_take (rep_mem hx))
  · refine ok_of fun x hx => ?_
    obtain ⟨c, hc, rfl⟩ := List.mem_map.mp hx
    exact el_wq hc
  · refine ok_of fun x hx => ?_
    obtain ⟨c, hc, rfl⟩ := List.mem_map.mp (List.mem_of_mem_take hx)
    exact el_wq hc
  · refine ok_of fun x hx => ?_
    rw [List.mem_singleton.mp hx]
    refine el_lit (dryLS_of fun d hd => ?_) ?_ fun n hn => ?_
    · obtain ⟨c, hc, rfl⟩ := List.mem_map.mp hd
      have := ls_str c hc
      simp only [dryLS, dryS, Bool.and_true] at this ⊢
      exact this
    · simp only [nmsE, List.filterMap_map]
      exact Nat.le_trans (List.length_filterMap_le _ _) (by rw [ls_len]; omega)
    · simp only [nmsE, List.filterMap_map, List.mem_filterMap] at hn
      obtain ⟨c, hc, he⟩ := hn
      simp only [Function.comp, Option.some.injEq] at he
      rw [← he]; exact ls_U c hc
theorem shp_eqF (v : D) : shp (eqF v) 60 = true := by
  unfold eqF
  split
  · split
    · rfl
    · split
      · rfl
      · split <;> rfl
  · rfl
theorem eqv_eqF (v : D) : eqv (eqF v) (eqF v) = true := by
  unfold eqF
  split
  · split
    · decide +kernel
    · split
      · rename_i m _
        have : ((.str "saying" : D)) = .str "saying" := rfl
        simp only [eqv, eqvL, beq_self_eq_true, Bool.and_self]
      · split
        · decide +kernel
        · rfl
  · decide +kernel
theorem dry_eqF (v : D) : dry (eqF v) = true := by
  unfold eqF
  split
  · split
    · rfl
    · split
      · rfl
      · split <;> rfl
  · rfl
theorem words3 : ∀ w ∈ (List.range 3), ((w : Nat) : Int) = 0 ∨ ((w : Nat) : Int) = 1 ∨ ((w : Nat) : Int) = 2 := by decide
theorem v_step {v : D} (o : Ok v) (x0 x1 x2 x3 x4 x5 x6 x7 x8 x9 x10 x11 x12 x13 x14 x15 x16 x17 x18 x19 x20 x21 x22 x23 x24 x25 x26 : Option D) : forF (fun ρ S => evSs Γ0 B11 ρ S) (.nm 11) v (E x0 x1 x2 x3 x4 x5 x6 x7 x8 x9 x10 x11 x12 x13 x14 x15 x16 x17 x18 x19 x20 x21 x22 x23 x24 x25 x26) S = .ok (.nx (E x0 x1 x2 x3 x4 x5 x6 x7 x8 x9 x10 (some v) (some (eqF v)) x13 x14 x15 x16 x17 x18 x19 x20 x21 x22 x23 x24 x25 x26)) S := by
  refine (forF_eq (ρ' := E x0 x1 x2 x3 x4 x5 x6 x7 x8 x9 x10 (some v) x12 x13 x14 x15 x16 x17 x18 x19 x20 x21 x22 x23 x24 x25 x26) rfl).trans (seq_nx (s_asg (e_call (l_cons (e_var rfl) l_nil) (r_due 7 S o.dr o.zs o.nb)) rfl) (if_skip (b := false) ?_ rfl rfl))
  have h1 : evE Γ0 (.cmp .NotEq (.call 8 [.var 11]) (.var 12)) (E x0 x1 x2 x3 x4 x5 x6 x7 x8 x9 x10 (some v) (some (eqF v)) x13 x14 x15 x16 x17 x18 x19 x20 x21 x22 x23 x24 x25 x26) S = .ok (.bl false) S := e_cmp (x := eqF v) (y := eqF v) (e_call (l_cons (e_var rfl) l_nil) (r_eqF 6 S o.dr o.nb)) (e_var rfl) (by
    simp only [cmpD, shp_eqF, Bool.and_self, if_true, eqv_eqF]; rfl)
  refine e_or_f h1 (e_or_1 ?_)
  have h2 : evE Γ0 (.cmp .IsNot (.var 12) (.con .non)) (E x0 x1 x2 x3 x4 x5 x6 x7 x8 x9 x10 (some v) (some (eqF v)) x13 x14 x15 x16 x17 x18 x19 x20 x21 x22 x23 x24 x25 x26) S = .ok (.bl (!decide (eqF v = .non))) S := e_cmp (x := eqF v) (y := .non) (e_var rfl) rfl rfl
  by_cases hc : eqF v = .non
  · rw [decide_eq_true hc] at h2
    exact e_and_f h2
  · rw [decide_eq_false hc] at h2
    refine e_and_t h2 (e_and_1 ?_)
    have h3 := lc_map (Γ := Γ0) (ρ := E x0 x1 x2 x3 x4 x5 x6 x7 x8 x9 x10 (some v) (some (eqF v)) x13 x14 x15 x16 x17 x18 x19 x20 x21 x22 x23 x24 x25 x26) (S := S) (List.range 3) (fun (w : Nat) => D.int w) (fun _ => .str "equations") (elt := .call 20 [.var 25, .var 11, .tup []]) (tg := .nm 25) (it := .rg1 (.con (.int 3))) (own := [25]) (g := none) (itR 3 (by decide)) (fun w hw => ⟨E x0 x1 x2 x3 x4 x5 x6 x7 x8 x9 x10 (some v) (some (eqF v)) x13 x14 x15 x16 x17 x18 x19 x20 x21 x22 x23 x24 (some (.int w)) x26, rfl, e_call (l_cons (e_var rfl) (l_cons (e_var rfl) (l_cons (d := .tup []) rfl l_nil))) (r_word_no 3 S o hc w (words3 w hw))⟩) (by decide)
    refine e_cmp h3 (y := .lst [.str "equations", .str "equations", .str "equations"]) (by rfl) ?_
    rfl
theorem v_loop (x0 x1 x2 x3 x4 x5 x6 x7 x8 x9 x10 x13 x14 x15 x16 x17 x18 x19 x20 x21 x22 x23 x24 x25 x26 : Option D) : ∀ (vs : List D) (x11 x12 : Option D), (∀ v ∈ vs, Ok v) → ∃ y11 y12, forR none (forF (fun ρ S => evSs Γ0 B11 ρ S) (.nm 11)) vs (E x0 x1 x2 x3 x4 x5 x6 x7 x8 x9 x10 x11 x12 x13 x14 x15 x16 x17 x18 x19 x20 x21 x22 x23 x24 x25 x26) S = .ok (.nx (E x0 x1 x2 x3 x4 x5 x6 x7 x8 x9 x10 y11 y12 x13 x14 x15 x16 x17 x18 x19 x20 x21 x22 x23 x24 x25 x26)) S
  | [], x11, x12, _ => ⟨_, _, rfl⟩
  | v :: vs, x11, x12, h => by
    obtain ⟨y11, y12, e⟩ := v_loop x0 x1 x2 x3 x4 x5 x6 x7 x8 x9 x10 x13 x14 x15 x16 x17 x18 x19 x20 x21 x22 x23 x24 x25 x26 vs (some v) (some (eqF v)) fun w hw => h w (List.mem_cons_of_mem _ hw)
    exact ⟨y11, y12, (for_nx (v_step (h v List.mem_cons_self) x0 x1 x2 x3 x4 x5 x6 x7 x8 x9 x10 x11 x12 x13 x14 x15 x16 x17 x18 x19 x20 x21 x22 x23 x24 x25 x26)).trans e⟩
end K05
end

section
set_option Elab.async false
set_option linter.all false
set_option maxRecDepth 100000
/-! K05L: rows, one turn, the end. -/
namespace K05
open PySem MP MP.Lb MP.Fm MP.Ev
variable {ρ : MP.Env} {S : Sto} {z : Str} {ns : List Str} {es : List Eq} {ds : List Int} {t at_ : Nat} {q : Eq}
/-! ### rows -/
theorem ow_nd : (owN es).Nodup := (NL_nd (NL := NL)).sublist List.filter_sublist
def rw (ds : List Int) (t k : Nat) (l : List Str) : Str → Int := fOf 0 l fun j => (ds.getD ((220 + 5 * k + j + t) % 300) 0).fmod 9 - 4
theorem rw_abs (ds : List Int) (t k : Nat) (l : List Str) (n : Str) : (rw ds t k l n).natAbs ≤ 4 := by
  unfold rw fOf
  split
  · exact fm9 _
  · decide
theorem lse_strs (l : List Str) : lseD (.tup (l.map .str)) = some ((l.zipIdx 0).map fun p => .tup [.int p.2, .str p.1]) := by
  simp only [lseD, enumD_map]
theorem ev_row (hd : ds.length = 300) (k : Nat) (x0 x3 x4 x5 x7 x8 x9 x10 x11 x12 x14 x15 x16 x17 x18 x19 x20 x21 x22 x23 x24 x25 x26 : Option D) : evE Γ0 R14 (E x0 (some (nums ds)) (some (.int t)) x3 x4 x5 (some (.tup ((owN es).map .str))) x7 x8 x9 x10 x11 x12 (some (.int k)) x14 x15 x16 x17 x18 x19 x20 x21 x22 x23 x24 x25 x26) S = .ok (rowD (owN es) fun n => .int (rw ds t k (owN es) n)) S := by
  have := lc_map (Γ := Γ0) (ρ := E x0 (some (nums ds)) (some (.int t)) x3 x4 x5 (some (.tup ((owN es).map .str))) x7 x8 x9 x10 x11 x12 (some (.int k)) x14 x15 x16 x17 x18 x19 x20 x21 x22 x23 x24 x25 x26) (S := S) ((owN es).zipIdx 0) (fun p => .tup [.int p.2, .str p.1]) (fun p => .tup [.str p.1, .int ((ds.getD ((220 + 5 * k + p.2 + t) % 300) 0).fmod 9 - 4)]) (elt := .tup [.var 21, .op .Sub (.op .Mod (.bi .int [.ix (.var 1) (.op .Mod (.op .Add (.op .Add (.op .Add (.con (.int 220)) (.op .Mult (.con (.int 5)) (.var 13))) (.var 23)) (.var 2)) (.con (.int 300)))]) (.con (.int 9))) (.con (.int 4))]) (tg := .tp [.nm 23, .nm 21]) (it := .itv (.lse (.var 6))) (own := [23, 21]) (g := none)
    (i_itv (e_lse (e_var rfl) (lse_strs _)) rfl) (fun p _ => ⟨E x0 (some (nums ds)) (some (.int t)) x3 x4 x5 (some (.tup ((owN es).map .str))) x7 x8 x9 x10 x11 x12 (some (.int k)) x14 x15 x16 x17 x18 x19 x20 (some (.str p.1)) x22 (some (.int p.2)) x24 x25 x26, rfl, e_tup (l_cons (e_var rfl) (l_cons (e_op (y := .int 4) (e_mod 9 (by decide) (e_at (v := 1) rfl (e_modn 300 (by decide) (e_addn (e_addn (e_addk 220 (e_mulk 5 (by decide) (e_var (i := 13) rfl))) (e_var (i := 23) rfl)) (e_var (i := 2) rfl))) (by rw [hd]; exact Nat.mod_lt _ (by decide)))) (by rfl) (by rfl)) l_nil)) (by simp [LIM])⟩) (by rw [List.length_zipIdx]; exact Nat.le_trans ow_len (by decide))
  rw [map_fOf 0 (owN es) (fun j => (ds.getD ((220 + 5 * k + j + t) % 300) 0).fmod 9 - 4) ow_nd (fun n (i : Int) => D.tup [.str n, .int i])] at this
  exact tup_lc this
theorem ev_due (hl : es.length ≤ 40) (ha : ∀ q ∈ es, ∀ n, (q.2 n).natAbs ≤ 100) (w : Str → Int) (x0 x1 x2 x3 x5 x6 x7 x8 x9 x10 x11 x12 x13 x15 x16 x17 x18 x19 x20 x21 x22 x23 x24 x25 x26 : Option D) : evE Γ0 R12 (E x0 x1 x2 x3 (some (W es)) x5 x6 x7 x8 x9 x10 x11 x12 x13 (some (rowD (owN es) fun n => .int (w n))) x15 x16 x17 x18 x19 x20 x21 x22 x23 x24 x25 x26) S = .ok (.bl (es.all fun q => val NL q.1 q.2 w == 0)) S := by
  refine all_lc es (fun q => val NL q.1 q.2 w == 0) (lc_map es eqD _ (i_itv (d := W es) (e_var rfl) rfl) (fun q hq => ⟨E x0 x1 x2 x3 (some (W es)) x5 x6 (some (F q)) x8 x9 x10 x11 x12 x13 (some (rowD (owN es) fun n => .int (w n))) x15 x16 x17 x18 x19 x20 x21 (some (.str "zero")) x23 x24 x25 x26, rfl, ?_⟩) (Nat.le_trans hl (by decide)))
  have h1 := sum_lc (Γ := Γ0) (ρ := E x0 x1 x2 x3 (some (W es)) x5 x6 (some (F q)) x8 x9 x10 x11 x12 x13 (some (rowD (owN es) fun n => .int (w n))) x15 x16 x17 x18 x19 x20 x21 (some (.str "zero")) x23 x24 x25 x26) (S := S) (sup NL q.2) (fun n => q.2 n * w n) (e := .lc (.op .Mult (.var 26) (.ix (.bi .dict [.var 14]) (.var 21))) (.tp [.nm 21, .nm 26]) (.itv (.ix (.var 7) (.con (.int 1)))) [] [21, 26])
    (lc_map (sup NL q.2) (itN q.2) _ (i_itv (ix1 _ (i := 7) S rfl) rfl) (fun n hn => ⟨E x0 x1 x2 x3 (some (W es)) x5 x6 (some (F q)) x8 x9 x10 x11 x12 x13 (some (rowD (owN es) fun n => .int (w n))) x15 x16 x17 x18 x19 x20 (some (.str n)) (some (.str "zero")) x23 x24 x25 (some (.int (q.2 n))), rfl, e_op (x := .int (q.2 n)) (y := .int (w n)) (e_var rfl) (e_ix (x := .dic (dicR (owN es) fun n => .int (w n))) (y := .str n) (e_bi1 (d := rowD (owN es) fun n => .int (w n)) (e_var rfl) (dictD_rows _ _ S)) (e_var rfl) (by simp only [ixD, D.ky, vget_dicR, if_pos (mem_ow hq hn)])) (hmul (Or.inl (sml4 (ha q hq n))))⟩) (Nat.le_trans (sup_len q.2) (by decide)))
  rw [sup, sum_sup] at h1
  exact e_cmp (x := .int (val NL q.1 q.2 w)) (y := .int 0) (e_op (ix0 _ (i := 7) S rfl) h1 rfl) rfl rfl
theorem w_step (hd : ds.length = 300) (hl : es.length ≤ 40) (ha : ∀ q ∈ es, ∀ n, (q.2 n).natAbs ≤ 100) (k : Nat) (x0 x3 x5 x7 x8 x9 x10 x11 x12 x13 x14 x15 x16 x17 x18 x19 x20 x21 x22 x23 x24 x25 x26 : Option D) : ∃ y12 y14 y15, forF (fun ρ S => evSs Γ0 B12 ρ S) (.nm 13) (.int k) (E x0 (some (nums ds)) (some (.int t)) x3 (some (W es)) x5 (some (.tup ((owN es).map .str))) x7 x8 x9 x10 x11 x12 x13 x14 x15 x16 x17 x18 x19 x20 x21 x22 x23 x24 x25 x26) S = .ok (.nx (E x0 (some (nums ds)) (some (.int t)) x3 (some (W es)) x5 (some (.tup ((owN es).map .str))) x7 x8 x9 x10 x11 y12 (some (.int k)) y14 y15 x16 x17 x18 x19 x20 x21 x22 x23 x24 x25 x26)) S := by
  generalize hb : (es.all fun q => val NL q.1 q.2 (rw ds t k (owN es)) == 0) = b
  refine ⟨some (.bl b), some (rowD (owN es) fun n => .int (rw ds t k (owN es) n)), some (.bl b), ?_⟩
  have e2 := ev_due (S := S) hl ha (rw ds t k (owN es)) x0 (some (nums ds)) (some (.int t)) x3 x5 (some (.tup ((owN es).map .str))) x7 x8 x9 x10 x11 x12 (some (.int k)) x15 x16 x17 x18 x19 x20 x21 x22 x23 x24 x25 x26
  have e3 := r_sol 4 S hl ha (rw ds t k (owN es))
  rw [hb] at e2 e3
  refine (forF_eq (ρ' := E x0 (some (nums ds)) (some (.int t)) x3 (some (W es)) x5 (some (.tup ((owN es).map .str))) x7 x8 x9 x10 x11 x12 (some (.int k)) x14 x15 x16 x17 x18 x19 x20 x21 x22 x23 x24 x25 x26) rfl).trans (seq_nx (s_asg (ev_row hd k _ _ _ _ _ _ _ _ _ _ _ _ _ _ _ _ _ _ _ _ _ _ _) rfl) (seq_nx (s_asg e2 rfl) (seq_nx (s_asg (e_call (l_cons (e_var rfl) (l_cons (e_var rfl) l_nil)) e3) rfl) (if_skip (b := false) ?_ rfl rfl))))
  cases b <;> rfl
theorem w_loop (hd : ds.length = 300) (hl : es.length ≤ 40) (ha : ∀ q ∈ es, ∀ n, (q.2 n).natAbs ≤ 100) (x0 x3 x5 x7 x8 x9 x10 x11 x16 x17 x18 x19 x20 x21 x22 x23 x24 x25 x26 : Option D) : ∀ (ks : List Nat) (x12 x13 x14 x15 : Option D), ∃ y12 y13 y14 y15, forR none (forF (fun ρ S => evSs Γ0 B12 ρ S) (.nm 13)) (ks.map fun (k : Nat) => D.int k) (E x0 (some (nums ds)) (some (.int t)) x3 (some (W es)) x5 (some (.tup ((owN es).map .str))) x7 x8 x9 x10 x11 x12 x13 x14 x15 x16 x17 x18 x19 x20 x21 x22 x23 x24 x25 x26) S = .ok (.nx (E x0 (some (nums ds)) (some (.int t)) x3 (some (W es)) x5 (some (.tup ((owN es).map .str))) x7 x8 x9 x10 x11 y12 y13 y14 y15 x16 x17 x18 x19 x20 x21 x22 x23 x24 x25 x26)) S
  | [], x12, x13, x14, x15 => ⟨_, _, _, _, rfl⟩
  | k :: ks, x12, x13, x14, x15 => by
    obtain ⟨y12, y14, y15, e⟩ := w_step (S := S) (t := t) hd hl ha k x0 x3 x5 x7 x8 x9 x10 x11 x12 x13 x14 x15 x16 x17 x18 x19 x20 x21 x22 x23 x24 x25 x26
    obtain ⟨z12, z13, z14, z15, e2⟩ := w_loop hd hl ha x0 x3 x5 x7 x8 x9 x10 x11 x16 x17 x18 x19 x20 x21 x22 x23 x24 x25 x26 ks y12 (some (.int k)) y14 y15
    exact ⟨z12, z13, z14, z15, (for_nx e).trans e2⟩
/-! ### known ones -/
def kn (q : Eq) : Eq := (0 - ((sup NL q.2).map fun n => 2 * q.2 n).sum, q.2)
theorem allN_kn : allN ((es.map kn).map eqD) = allN (es.map eqD) := by
  have h : ∀ q : Eq, nmsE (eqD (kn q)) = nmsE (eqD q) := fun q => by rw [nmsE_eqD, nmsE_eqD]; rfl
  unfold allN
  rw [List.map_map, List.map_map, List.map_map]
  exact congrArg List.flatten (List.map_congr_left fun q _ => h q)
theorem ow_kn : owN (es.map kn) = owN es := by unfold owN; rw [allN_kn]
theorem val_kn (q : Eq) : val NL (kn q).1 (kn q).2 (fun _ => 2) = 0 := by
  have h : ((sup NL q.2).map fun n => 2 * q.2 n).sum = (NL.map fun n => q.2 n * 2).sum := by
    rw [← sum_sup q.2 (fun _ => 2) NL]
    show _ = ((sup NL q.2).map fun n => q.2 n * 2).sum
    congr 1
    exact List.map_congr_left fun n _ => Int.mul_comm _ _
  simp only [val, kn, h]
  all_goals omega
theorem ev13 (h6 : ρ.get 6 = some (.tup ((owN es).map .str))) (hw : ∀ n, ∃ ρ', bindT (.nm 21) (.str n) (wipe ρ [21]) = some ρ' ∧ ρ'.get 21 = some (.str n)) : evE Γ0 X13 ρ S = .ok (.dic (dicR (owN es) fun _ => .int 0)) S :=
  e_bi1 (d := .lst ((owN es).map (itV fun _ => .int 0))) (lc_map (owN es) .str (itV fun _ => .int 0) (i_itv (e_var h6) rfl) (fun n _ => by
    obtain ⟨ρ', h1, h2⟩ := hw n
    exact ⟨ρ', h1, e_tup (l_cons (e_var h2) (l_cons (d := .int 0) rfl l_nil)) (by simp [LIM])⟩) (Nat.le_trans ow_len (by decide))) (by simp only [bi1, dictD, pairs_rows, Option.map_some]; rfl)
theorem ev15 (h6 : ρ.get 6 = some (.tup ((owN es).map .str))) (hw : ∀ n, ∃ ρ', bindT (.nm 21) (.str n) (wipe ρ [21]) = some ρ' ∧ ρ'.get 21 = some (.str n)) : evE Γ0 X15 ρ S = .ok (rowD (owN es) fun _ => .int 2) S :=
  tup_lc (lc_map (owN es) .str (itV fun _ => .int 2) (i_itv (e_var h6) rfl) (fun n _ => by
    obtain ⟨ρ', h1, h2⟩ := hw n
    exact ⟨ρ', h1, e_tup (l_cons (e_var h2) (l_cons (d := .int 2) rfl l_nil)) (by simp [LIM])⟩) (Nat.le_trans ow_len (by decide)))
theorem ev14 (hl : es.length ≤ 40) (x0 x1 x2 x3 x5 x6 x7 x8 x9 x10 x11 x12 x13 x14 x15 x16 x17 x18 x19 x20 x21 x22 x23 x24 x25 x26 : Option D) : evE Γ0 X14 (E x0 x1 x2 x3 (some (W es)) x5 x6 x7 x8 x9 x10 x11 x12 x13 x14 x15 x16 x17 x18 x19 x20 x21 x22 x23 x24 x25 x26) S = .ok (W (es.map kn)) S := by
  have := lc_map (Γ := Γ0) (ρ := E x0 x1 x2 x3 (some (W es)) x5 x6 x7 x8 x9 x10 x11 x12 x13 x14 x15 x16 x17 x18 x19 x20 x21 x22 x23 x24 x25 x26) (S := S) es eqD (fun q => eqD (kn q)) (elt := .tup [.con (.str "zero"), .tup [.op .Sub (.con (.int 0)) (.bi .sum [.lc (.op .Mult (.con (.int 2)) (.var 26)) (.tp [.nm 21, .nm 26]) (.itv (.ix (.var 7) (.con (.int 1)))) [] [21, 26]]), .ix (.var 7) (.con (.int 1))]]) (tg := .tp [.nm 22, .nm 7]) (it := .itv (.var 4)) (own := [22, 7]) (g := none)
    (i_itv (d := W es) (e_var rfl) rfl) (fun q _ => ⟨E x0 x1 x2 x3 (some (W es)) x5 x6 (some (F q)) x8 x9 x10 x11 x12 x13 x14 x15 x16 x17 x18 x19 x20 x21 (some (.str "zero")) x23 x24 x25 x26, rfl, e_tup (l_cons (d := .str "zero") rfl (l_cons (e_tup (l_cons (e_op (x := .int 0) (by rfl) (sum_lc (sup NL q.2) (fun n => 2 * q.2 n) (lc_map (sup NL q.2) (itN q.2) _ (i_itv (ix1 _ (i := 7) S rfl) rfl) (fun n _ => ⟨E x0 x1 x2 x3 (some (W es)) x5 x6 (some (F q)) x8 x9 x10 x11 x12 x13 x14 x15 x16 x17 x18 x19 x20 (some (.str n)) (some (.str "zero")) x23 x24 x25 (some (.int (q.2 n))), rfl, e_op (x := .int 2) (y := .int (q.2 n)) (by rfl) (e_var rfl) (hmul (Or.inl ⟨by decide, by decide⟩))⟩) (Nat.le_trans (sup_len q.2) (by decide)))) rfl) (l_cons (ix1 _ (i := 7) S rfl) l_nil)) (by simp [LIM])) l_nil)) (by simp [LIM])⟩) (Nat.le_trans hl (by decide))
  rw [show es.map (fun q => eqD (kn q)) = (es.map kn).map eqD by rw [List.map_map]; rfl] at this
  exact tup_lc this
/-! ### wrong rows -/
abbrev gd (l : List Str) : List D := l.map (itV fun _ => .int 2)
def badL (l : List Str) : List D := [.non, .tup [], .lst (gd l), .tup ((gd l).drop 1), .tup (gd l ++ [.tup [.str "zz", .int 0]]), if 1 < l.length then .tup (gd l).reverse else .non, .tup (l.map (itV fun _ => .bl true)), .tup (l.map fun n => .lst [.str n, .int 2])]
theorem ev16 (x0 x1 x2 x3 x4 x5 x7 x8 x9 x10 x11 x12 x13 x14 x15 x16 x17 x19 x20 x21 x22 x23 x24 x25 x26 : Option D) : evE Γ0 X16 (E x0 x1 x2 x3 x4 x5 (some (.tup ((owN es).map .str))) x7 x8 x9 x10 x11 x12 x13 x14 x15 x16 x17 (some (.tup (gd (owN es)))) x19 x20 x21 x22 x23 x24 x25 x26) S = .ok (.lst (badL (owN es))) S := by
  have hlen : (gd (owN es)).length = (owN es).length := List.length_map _
  have a6 : evE Γ0 (.ite (.cmp .Gt (.bi .len [.var 18]) (.con (.int 1))) (.rev (.var 18)) (.con .non)) (E x0 x1 x2 x3 x4 x5 (some (.tup ((owN es).map .str))) x7 x8 x9 x10 x11 x12 x13 x14 x15 x16 x17 (some (.tup (gd (owN es)))) x19 x20 x21 x22 x23 x24 x25 x26) S = .ok (if 1 < (owN es).length then .tup (gd (owN es)).reverse else .non) S := by
    have hc := gt_len (Γ := Γ0) (S := S) (e := .var 18) (e' := .con (.int 1)) (ρ := E x0 x1 x2 x3 x4 x5 (some (.tup ((owN es).map .str))) x7 x8 x9 x10 x11 x12 x13 x14 x15 x16 x17 (some (.tup (gd (owN es)))) x19 x20 x21 x22 x23 x24 x25 x26) (xs := gd (owN es)) (n := 1) rfl rfl
    rw [hlen] at hc
    by_cases h : 1 < (owN es).length
    · rw [decide_eq_true h] at hc
      rw [if_pos h]
      exact e_ite_t hc rfl
    · rw [decide_eq_false h] at hc
      rw [if_neg h]
      exact e_ite_f hc rfl
  have a7 := tup_lc (lc_map (Γ := Γ0) (ρ := E x0 x1 x2 x3 x4 x5 (some (.tup ((owN es).map .str))) x7 x8 x9 x10 x11 x12 x13 x14 x15 x16 x17 (some (.tup (gd (owN es)))) x19 x20 x21 x22 x23 x24 x25 x26) (S := S) (owN es) .str (itV fun _ => .bl true) (elt := .tup [.var 21, .con (.bl true)]) (tg := .nm 21) (it := .itv (.var 6)) (own := [21]) (g := none) (i_itv (e_var rfl) rfl) (fun n _ => ⟨E x0 x1 x2 x3 x4 x5 (some (.tup ((owN es).map .str))) x7 x8 x9 x10 x11 x12 x13 x14 x15 x16 x17 (some (.tup (gd (owN es)))) x19 x20 (some (.str n)) x22 x23 x24 x25 x26, rfl, rfl⟩) (Nat.le_trans ow_len (by decide)))
  have a8 := tup_lc (lc_map (Γ := Γ0) (ρ := E x0 x1 x2 x3 x4 x5 (some (.tup ((owN es).map .str))) x7 x8 x9 x10 x11 x12 x13 x14 x15 x16 x17 (some (.tup (gd (owN es)))) x19 x20 x21 x22 x23 x24 x25 x26) (S := S) (owN es) (itV fun _ => .int 2) (fun n => .lst [.str n, .int 2]) (elt := .bi .list [.var 24]) (tg := .nm 24) (it := .itv (.var 18)) (own := [24]) (g := none) (i_itv (d := .tup (gd (owN es))) (e_var rfl) rfl) (fun n _ => ⟨E x0 x1 x2 x3 x4 x5 (some (.tup ((owN es).map .str))) x7 x8 x9 x10 x11 x12 x13 x14 x15 x16 x17 (some (.tup (gd (owN es)))) x19 x20 x21 x22 x23 (some (itV (fun _ => .int 2) n)) x25 x26, rfl, rfl⟩) (Nat.le_trans ow_len (by decide)))
  have a5 : evE Γ0 (.op .Add (.var 18) (.tup [.tup [.con (.str "zz"), .con (.int 0)]])) (E x0 x1 x2 x3 x4 x5 (some (.tup ((owN es).map .str))) x7 x8 x9 x10 x11 x12 x13 x14 x15 x16 x17 (some (.tup (gd (owN es)))) x19 x20 x21 x22 x23 x24 x25 x26) S = .ok (.tup (gd (owN es) ++ [.tup [.str "zz", .int 0]])) S := e_op (x := .tup (gd (owN es))) (y := .tup [.tup [.str "zz", .int 0]]) (e_var rfl) (by rfl) (by
    have := ow_len (es := es)
    simp only [opD, hlen, List.length_singleton]
    rw [if_pos (by simp only [LIM]; omega)])
  exact e_lst (l_cons (d := .non) rfl (l_cons (d := .tup []) rfl (l_cons (e_bi1 (d := .tup (gd (owN es))) (e_var rfl) rfl) (l_cons (e_slL (x := .tup (gd (owN es))) (i := ((1 : Nat) : Int)) (e_var rfl) rfl (by simp only [slD, cut_lo])) (l_cons a5 (l_cons a6 (l_cons a7 (l_cons a8 l_nil)))))))) (by decide : 8 ≤ LIM)
theorem not_tup_rows (k : Nat) (S : Sto) {d : D} (hd : dry d = true) (h : istup d = false) : run P0 (k + 2) 2 [d] S = .ok (.bl false) S := by
  have h1 := e_nottup (Γ := Γr (k + 1)) (S := S) (e := .var 0) (ρ := [some d, none, none]) (e_var rfl) hd
  rw [h] at h1
  exact call_dry0 f_are_rows rfl rfl (if_ret (b := true) (e_or_t h1) rfl (seq_ret (s_ret rfl))) rfl
theorem zz_nm : nameB "zz" = true ∧ ∀ n ∈ NL, n ≠ "zz" := by decide +kernel
theorem bad_no (S : Sto) (hl : es.length ≤ 40) (hne : owN es ≠ []) : ∀ d ∈ badL (owN es), run P0 10 13 [W es, d] S = .ok (.bl false) S := by
  intro d hd
  have hpos : 0 < (owN es).length := List.length_pos_iff.mpr hne
  have h10 := ow_len (es := es)
  simp only [badL, List.mem_cons, List.not_mem_nil, or_false] at hd
  rcases hd with rfl | rfl | rfl | rfl | rfl | rfl | rfl | rfl
  · exact r_sol_no 4 S hl (r_ai_no 6 S (not_tup_rows 6 S rfl rfl))
  · exact r_sol_len 4 S hl [] (fun _ => .non) (fun n hn => by cases hn) (fun n hn => by cases hn) (by decide) (by simp only [List.length_nil]; omega)
  · refine r_sol_no 4 S hl (r_ai_no 6 S (not_tup_rows 6 S ?_ rfl))
    exact dryL_map _ _ fun _ _ => rfl
  · have := r_sol_len 4 S hl ((owN es).drop 1) (fun _ => .int 2) (fun n hn => ow_nm n (List.mem_of_mem_drop hn)) (fun _ _ => rfl) (by rw [List.length_drop]; omega) (by rw [List.length_drop]; omega)
    rw [rowD, List.map_drop] at this
    exact this
  · have := r_sol_len 4 S hl (owN es ++ (["zz"] : List Str)) (fun n => if n = "zz" then .int 0 else .int 2) (fun n hn => (List.mem_append.mp hn).elim (ow_nm n) fun h => by rw [List.mem_singleton.mp h]; exact zz_nm.1) (fun n _ => by show dry (if n = "zz" then .int 0 else .int 2) = true; split <;> rfl) (by rw [List.length_append, List.length_singleton]; omega) (by rw [List.length_append, List.length_singleton]; omega)
    have e : rowD (owN es ++ (["zz"] : List Str)) (fun n => if n = "zz" then .int 0 else .int 2) = .tup (gd (owN es) ++ [.tup [.str "zz", .int 0]]) := by
      unfold rowD
      rw [List.map_append]
      congr 2
      refine List.map_congr_left fun n hn => ?_
      have := zz_nm.2 n (List.mem_filter.mp hn).1
      simp only [itV, if_neg this]
    rw [e] at this
    exact this
  · split
    · rename_i h1
      have e : (.tup (gd (owN es)).reverse : D) = rowD (owN es).reverse fun _ => .int 2 := by rw [rowD, List.map_reverse]
      rw [e]
      have h2 := r_ai 6 S (owN es).reverse (fun _ => .int 2) (fun n hn => ow_nm n (List.mem_reverse.mp hn)) (fun _ _ => rfl) (by rw [List.length_reverse]; omega)
      have h3 : ((((owN es).reverse).zip (((owN es).reverse).drop 1)).all fun p => ltS p.1 p.2) = false := by
        have hp : (owN es).reverse.Pairwise fun x y => ltS x y = false := by
          rw [List.pairwise_reverse]
          exact ((NmL.pw (NL := NL)).imp (fun h => h.2)).sublist List.filter_sublist
        have hlr : 1 < (owN es).reverse.length := by rw [List.length_reverse]; exact h1
        generalize (owN es).reverse = l at hp hlr
        match l, hlr, hp with
        | x :: y :: r, _, hp =>
          have := (List.pairwise_cons.mp hp).1 y List.mem_cons_self
          simp only [List.drop_succ_cons, List.drop_zero, List.zip_cons_cons, List.all_cons, this, Bool.false_and]
      rw [h3, Bool.false_and] at h2
      exact r_sol_no 4 S hl h2
    · exact r_sol_no 4 S hl (r_ai_no 6 S (not_tup_rows 6 S rfl rfl))
  · have h2 := r_ai 6 S (owN es) (fun _ => .bl true) ow_nm (fun _ _ => rfl) (by omega)
    have h3 : ((owN es).all fun n => isI (.bl true)) = false := by
      cases h : owN es with
      | nil => exact absurd h hne
      | cons x r => rfl
    rw [h3, Bool.and_false] at h2
    exact r_sol_no 4 S hl h2
  · refine r_sol_no 4 S hl (r_ai_no 6 S ?_)
    have h1 := all_lc (Γ := Γr 7) (ρ := [some (.tup ((owN es).map fun n => .lst [.str n, .int 2])), none, none]) (S := S) (owN es) (fun _ => false) (e := .lc (.and [.isi (.var 1) .tuple, .cmp .Eq (.bi .len [.var 1]) (.con (.int 2))]) (.nm 1) (.itv (.var 0)) [] [1]) (lc_map (owN es) (fun n => .lst [.str n, .int 2]) _ (i_itv (d := .tup ((owN es).map fun n => .lst [.str n, .int 2])) (e_var rfl) rfl) (fun n _ => ⟨[some (.tup ((owN es).map fun n => .lst [.str n, .int 2])), some (.lst [.str n, .int 2]), none], rfl, e_and_f rfl⟩) (Nat.le_trans ow_len (by decide)))
    have h3 : ((owN es).all fun _ => false) = false := by
      cases h : owN es with
      | nil => exact absurd h hne
      | cons x r => rfl
    rw [h3] at h1
    exact call_dry0 f_are_rows rfl rfl (if_ret (b := true) (e_or_f (e_not (b := true) rfl) (e_or_1 (e_not h1))) rfl (seq_ret (s_ret rfl))) rfl
theorem ev17 (hl : es.length ≤ 40) (ha : ∀ q ∈ es, ∀ n, (q.2 n).natAbs ≤ 100) (x0 x1 x2 x3 x4 x5 x6 x7 x8 x9 x10 x11 x12 x13 x14 x15 x20 x21 x22 x23 x24 x25 x26 : Option D) : evE Γ0 C17 (E x0 x1 x2 x3 x4 x5 x6 x7 x8 x9 x10 x11 x12 x13 x14 x15 (some (.dic (dicR (owN es) fun _ => .int 0))) (some (W (es.map kn))) (some (rowD (owN es) fun _ => .int 2)) (some (.lst (badL (owN es)))) x20 x21 x22 x23 x24 x25 x26) S = .ok (.bl false) S := by
  have hl' : (es.map kn).length ≤ 40 := by rw [List.length_map]; exact hl
  have hs := r_sol 4 S hl' (fun q hq n => by
    obtain ⟨p, hp, rfl⟩ := List.mem_map.mp hq
    exact ha p hp n) (fun _ => 2)
  have hall : ((es.map kn).all fun q => val NL q.1 q.2 (fun _ => 2) == 0) = true := by
    rw [List.all_eq_true]
    intro q hq
    obtain ⟨p, _, rfl⟩ := List.mem_map.mp hq
    rw [val_kn]; rfl
  rw [hall, ow_kn] at hs
  refine e_or_f (e_not (b := true) (e_call (l_cons (e_var rfl) (l_cons (e_var rfl) l_nil)) hs)) (e_or_1 ?_)
  have h1 : evE Γ0 (.cmp .Gt (.bi .len [.var 16]) (.con (.int 0))) (E x0 x1 x2 x3 x4 x5 x6 x7 x8 x9 x10 x11 x12 x13 x14 x15 (some (.dic (dicR (owN es) fun _ => .int 0))) (some (W (es.map kn))) (some (rowD (owN es) fun _ => .int 2)) (some (.lst (badL (owN es)))) x20 x21 x22 x23 x24 x25 x26) S = .ok (.bl (decide (0 < ((dicR (owN es) fun _ => .int 0).length : Int)))) S := e_cmp (x := .int (dicR (owN es) fun _ => .int 0).length) (y := .int 0) (e_bi1 (d := .dic (dicR (owN es) fun _ => .int 0)) (e_var rfl) rfl) rfl rfl
  by_cases hne : owN es = []
  · rw [hne] at h1 ⊢
    exact e_and_f h1
  · cases hb : decide (0 < ((dicR (owN es) fun _ => .int 0).length : Int)) with
    | false => rw [hb] at h1; exact e_and_f h1
    | true =>
      rw [hb] at h1
      refine e_and_t h1 (e_and_1 ?_)
      have hne' : owN (es.map kn) ≠ [] := by rw [ow_kn]; exact hne
      have hb := bad_no S hl' hne'
      rw [ow_kn] at hb
      have h3 := lc_map (Γ := Γ0) (ρ := E x0 x1 x2 x3 x4 x5 x6 x7 x8 x9 x10 x11 x12 x13 x14 x15 (some (.dic (dicR (owN es) fun _ => .int 0))) (some (W (es.map kn))) (some (rowD (owN es) fun _ => .int 2)) (some (.lst (badL (owN es)))) x20 x21 x22 x23 x24 x25 x26) (S := S) (badL (owN es)) id (fun _ => .bl false) (elt := .call 13 [.var 17, .var 11]) (tg := .nm 11) (it := .itv (.var 19)) (own := [11]) (g := none) (i_itv (d := .lst (badL (owN es))) (e_var rfl) (by simp [itemsOf])) (fun d hd => ⟨E x0 x1 x2 x3 x4 x5 x6 x7 x8 x9 x10 (some d) x12 x13 x14 x15 (some (.dic (dicR (owN es) fun _ => .int 0))) (some (W (es.map kn))) (some (rowD (owN es) fun _ => .int 2)) (some (.lst (badL (owN es)))) x20 x21 x22 x23 x24 x25 x26, rfl, e_call (l_cons (e_var rfl) (l_cons (e_var rfl) l_nil)) (hb d hd)⟩) (by decide : 8 ≤ LIM)
      exact e_cmp h3 (y := .lst [.bl false, .bl false, .bl false, .bl false, .bl false, .bl false, .bl false, .bl false]) (by rfl) (by rfl)
/-! ### one turn -/
abbrev bodyT : List Sm := [.asg (.nm 3) (.ix (.lst [.con (.str "abxy"), .con (.str "x"), .con (.str "bn"), .con (.str "amn"), .con (.str "cdef")]) (.var 2)), .asg (.nm 4) (.call 15 [.op .Add (.slL (.var 1) (.op .Mult (.con (.int 31)) (.var 2))) (.var 1), .op .Add (.con (.int 1)) (.op .Mod (.bi .int [.ix (.var 1) (.op .Add (.con (.int 200)) (.var 2))]) (.con (.int 4))), .var 3]), .ifs (.or [.cmp .IsNot (.call 8 [.var 4]) (.con .non), .not (.isi (.call 10 [.var 4]) .tuple), .cmp .NotEq (.call 10 [.var 4]) (.call 16 [.var 4])]) [.ret (.con (.bl false))] [], .asg (.tp [.nm 5, .nm 6]) (.tup [.op .Mod (.bi .int [.ix (.var 1) (.op .Add (.con (.int 210)) (.var 2))]) (.bi .len [.var 4]), .call 16 [.var 4]]), .asg (.nm 7) (.ix (.ix (.var 4) (.var 5)) (.con (.int 1))), .asg (.nm 8) (.lst [.con .non, .con (.int 5), .tup [.con (.str "least"), .var 7], .tup [.con (.str "zero")], .lst [.con (.str "zero"), .var 7], .tup [.con (.str "zero"), .bi .list [.var 7]], .tup [.con (.str "zero"), .tup [.con (.bl true), .ix (.var 7) (.con (.int 1))]]]), .asg (.nm 8) (.op .Add (.var 8) (.lst [.tup [.con (.str "zero"), .tup [.ix (.var 7) (.con (.int 0)), .bi .list [.ix (.var 7) (.con (.int 1))]]], .tup [.con (.str "zero"), .tup [.con (.int 0), .tup [.tup [.con (.str "a"), .con (.int 0)]]]], .tup [.con (.str "zero"), .tup [.con (.int 0), .tup [.tup [.con (.str "b"), .con (.int 1)], .tup [.con (.str "a"), .con (.int 1)]]]]])), .asg (.nm 8) (.op .Add (.var 8) (.lst [.tup [.con (.str "zero"), .tup [.con (.int 0), .tup [.tup [.con (.str "a"), .con (.int 1)], .tup [.con (.str "a"), .con (.int 1)]]]], .tup [.con (.str "zero"), .tup [.con (.int 0), .tup [.tup [.con (.str "A"), .con (.int 1)]]]], .tup [.con (.str "zero"), .tup [.con (.int 0), .tup [.tup [.con (.str "longnames"), .con (.int 1)]]]], .tup [.con (.str "zero"), .tup [.con (.int 0), .tup [.tup [.con (.str "1a"), .con (.int 1)]]]]])), .asg (.nm 8) (.op .Add (.var 8) (.lst [.tup [.con (.str "zero"), .tup [.con (.int 0), .tup [.tup [.con (.str "a"), .con (.bl true)]]]], .tup [.con (.str "zero"), .tup [.con (.int 5), .tup []]], .tup [.con (.str "zero"), .tup [.con (.int 0), .tup [.tup [.con (.str "longname"), .con (.int 1)]]]]])), .asg (.nm 9) (.op .Add (.lc (.op .Add (.op .Add (.slH (.var 4) (.var 5)) (.tup [.var 20])) (.slL (.var 4) (.op .Add (.var 5) (.con (.int 1))))) (.nm 20) (.itv (.var 8)) [] [20]) (.lst [.con .non, .bi .list [.var 4], .tup [], .op .Mult (.var 4) (.con (.int 11)), .op .Mult (.slH (.var 4) (.con (.int 1))) (.con (.int 40)), .op .Mult (.slH (.var 4) (.con (.int 1))) (.con (.int 41))])), .asg (.nm 10) (.bi .tuple [.lc (.tup [.con (.str "zero"), .tup [.con (.int 0), .tup [.tup [.var 21, .con (.int 1)]]]]) (.nm 21) (.itv (.con (.str "abcdefghijklm"))) [] [21]]), .fors (.nm 11) (.itv (.op .Add (.var 9) (.lst [.var 10, .slH (.var 10) (.con (.int 12)), .tup [.tup [.con (.str "zero"), .tup [.con (.int 0), .bi .tuple [.lc (.tup [.var 21, .con (.int 1)]) (.nm 21) (.itv (.con (.str "abcdefghijklm"))) [] [21]]]]]]))) [.asg (.nm 12) (.call 19 [.var 11]), .ifs (.or [.cmp .NotEq (.call 8 [.var 11]) (.var 12), .and [.cmp .IsNot (.var 12) (.con .non), .cmp .NotEq (.lc (.call 20 [.var 25, .var 11, .tup []]) (.nm 25) (.rg1 (.con (.int 3))) [] [25]) (.op .Mult (.lst [.con (.str "equations")]) (.con (.int 3)))]]) [.ret (.con (.bl false))] []], .fors (.nm 13) (.rg1 (.con (.int 12))) [.asg (.nm 14) (.bi .tuple [.lc (.tup [.var 21, .op .Sub (.op .Mod (.bi .int [.ix (.var 1) (.op .Mod (.op .Add (.op .Add (.op .Add (.con (.int 220)) (.op .Mult (.con (.int 5)) (.var 13))) (.var 23)) (.var 2)) (.con (.int 300)))]) (.con (.int 9))) (.con (.int 4))]) (.tp [.nm 23, .nm 21]) (.itv (.lse (.var 6))) [] [23, 21]]), .asg (.nm 12) (.bi .all [.lc (.cmp .Eq (.op .Add (.ix (.var 7) (.con (.int 0))) (.bi .sum [.lc (.op .Mult (.var 26) (.ix (.bi .dict [.var 14]) (.var 21))) (.tp [.nm 21, .nm 26]) (.itv (.ix (.var 7) (.con (.int 1)))) [] [21, 26]])) (.con (.int 0))) (.tp [.nm 22, .nm 7]) (.itv (.var 4)) [] [22, 7]]), .asg (.nm 15) (.call 13 [.var 4, .var 14]), .ifs (.or [.not (.isi (.var 15) .bool), .cmp .NotEq (.var 15) (.var 12)]) [.ret (.con (.bl false))] []], .asg (.nm 16) (.bi .dict [.lc (.tup [.var 21, .con (.int 0)]) (.nm 21) (.itv (.var 6)) [] [21]]), .asg (.nm 17) (.bi .tuple [.lc (.tup [.con (.str "zero"), .tup [.op .Sub (.con (.int 0)) (.bi .sum [.lc (.op .Mult (.con (.int 2)) (.var 26)) (.tp [.nm 21, .nm 26]) (.itv (.ix (.var 7) (.con (.int 1)))) [] [21, 26]]), .ix (.var 7) (.con (.int 1))]]) (.tp [.nm 22, .nm 7]) (.itv (.var 4)) [] [22, 7]]), .asg (.nm 18) (.bi .tuple [.lc (.tup [.var 21, .con (.int 2)]) (.nm 21) (.itv (.var 6)) [] [21]]), .asg (.nm 19) (.lst [.con .non, .tup [], .bi .list [.var 18], .slL (.var 18) (.con (.int 1)), .op .Add (.var 18) (.tup [.tup [.con (.str "zz"), .con (.int 0)]]), .ite (.cmp .Gt (.bi .len [.var 18]) (.con (.int 1))) (.rev (.var 18)) (.con .non), .bi .tuple [.lc (.tup [.var 21, .con (.bl true)]) (.nm 21) (.itv (.var 6)) [] [21]], .bi .tuple [.lc (.bi .list [.var 24]) (.nm 24) (.itv (.var 18)) [] [24]]]), .ifs (.or [.not (.call 13 [.var 17, .var 18]), .and [.cmp .Gt (.bi .len [.var 16]) (.con (.int 0)), .cmp .NotEq (.lc (.call 13 [.var 17, .var 11]) (.nm 11) (.itv (.var 19)) [] [11]) (.op .Mult (.lst [.con (.bl false)]) (.con (.int 8)))]]) [.ret (.con (.bl false))] []]
theorem turn_ok (hd : ds.length = 300) (ht : t < 5) (x0 x3 x4 x5 x6 x7 x8 x9 x10 x11 x12 x13 x14 x15 x16 x17 x18 x19 x20 x21 x22 x23 x24 x25 x26 : Option D) : ∃ y3 y4 y5 y6 y7 y8 y9 y10 y11 y12 y13 y14 y15 y16 y17 y18 y19 y20 y21 y22 y23 y24 y25 y26, evSs Γ0 bodyT (E x0 (some (nums ds)) (some (.int t)) x3 x4 x5 x6 x7 x8 x9 x10 x11 x12 x13 x14 x15 x16 x17 x18 x19 x20 x21 x22 x23 x24 x25 x26) S = .ok (.nx (E x0 (some (nums ds)) (some (.int t)) y3 y4 y5 y6 y7 y8 y9 y10 y11 y12 y13 y14 y15 y16 y17 y18 y19 y20 y21 y22 y23 y24 y25 y26)) S := by
  obtain ⟨ns, hn⟩ := zs_nm t ht
  obtain ⟨es, hl, he, e1⟩ := ev1 (S := S) (ρ := E x0 (some (nums ds)) (some (.int t)) (some (.str (zs t))) x4 x5 x6 x7 x8 x9 x10 x11 x12 x13 x14 x15 x16 x17 x18 x19 x20 x21 x22 x23 x24 x25 x26) hd rfl rfl ht rfl hn
  have hl4 : es.length ≤ 40 := by omega
  have ha : ∀ q ∈ es, ∀ n, (q.2 n).natAbs ≤ 100 := fun q hq n => Nat.le_trans (he.abs q hq n) (by decide)
  obtain ⟨a, hat, e3⟩ := ev3 (S := S) (ρ := E x0 (some (nums ds)) (some (.int t)) (some (.str (zs t))) (some (W es)) x5 x6 x7 x8 x9 x10 x11 x12 x13 x14 x15 x16 x17 x18 x19 x20 x21 x22 x23 x24 x25 x26) hd rfl rfl ht rfl ⟨hl.1, hl4⟩
  have hq : es[a]? = some es[a] := List.getElem?_eq_getElem hat
  generalize es[a] = q at hq
  obtain ⟨z11, z12, e11⟩ := v_loop (S := S) x0 (some (nums ds)) (some (.int t)) (some (.str (zs t))) (some (W es)) (some (.int a)) (some (.tup ((owN es).map .str))) (some (F q)) (some (.lst (news q))) (some (.lst ((news q).map (bent es a) ++ rest es))) (some (.tup wideL)) x13 x14 x15 x16 x17 x18 x19 x20 x21 x22 x23 x24 x25 x26 (vals es a q) x11 x12 (ok_vals es a q)
  obtain ⟨w12, w13, w14, w15, e12⟩ := w_loop (S := S) (t := t) (es := es) hd hl4 ha x0 (some (.str (zs t))) (some (.int a)) (some (F q)) (some (.lst (news q))) (some (.lst ((news q).map (bent es a) ++ rest es))) (some (.tup wideL)) z11 x16 x17 x18 x19 x20 x21 x22 x23 x24 x25 x26 (List.range 12) z12 x13 x14 x15
  refine ⟨some (.str (zs t)), some (W es), some (.int a), some (.tup ((owN es).map .str)), some (F q), some (.lst (news q)), some (.lst ((news q).map (bent es a) ++ rest es)), some (.tup wideL), z11, w12, w13, w14, w15, some (.dic (dicR (owN es) fun _ => .int 0)), some (W (es.map kn)), some (rowD (owN es) fun _ => .int 2), some (.lst (badL (owN es))), x20, x21, x22, x23, x24, x25, x26, ?_⟩
  refine seq_nx (s_asg (ev0 ht rfl) rfl) (seq_nx (s_asg e1 rfl) (if_skip (b := false) (ev2 rfl hl4) rfl (seq_nx (s_asg (e_tup e3 (by decide : 2 ≤ LIM)) rfl) (seq_nx (s_asg (ev4 rfl rfl hq) rfl) (seq_nx (s_asg (ev5 (q := q) rfl) rfl) (seq_nx (s_asg (ev6 (q := q) rfl rfl) rfl) (seq_nx (s_asg (ev7 (q := q) rfl) rfl) (seq_nx (s_asg (ev8 (q := q) rfl) rfl) ?_))))))))
  refine seq_nx (s_asg (ev9 hl hat _ _ _ _ _ _ _ _ _ _ _ _ _ _ _ _ _ _ _ _ _ _ _ _) rfl) (seq_nx (s_asg (ev10 _ _ _ _ _ _ _ _ _ _ _ _ _ _ _ _ _ _ _ _ _ _ _ _ _ _ _) rfl) (seq_nx ((s_for (ev11 hl.2 _ _ _ _ _ _ _ _ _ _ _ _ _ _ _ _ _ _ _ _ _ _ _ _ _)).trans e11) ?_))
  refine seq_nx ((s_for (itR 12 (by decide))).trans e12) ?_
  refine seq_nx (s_asg (ev13 rfl fun n => ⟨_, rfl, rfl⟩) rfl) (seq_nx (s_asg (ev14 hl4 _ _ _ _ _ _ _ _ _ _ _ _ _ _ _ _ _ _ _ _ _ _ _ _ _ _) rfl) (seq_nx (s_asg (ev15 rfl fun n => ⟨_, rfl, rfl⟩) rfl) (seq_nx (s_asg (ev16 _ _ _ _ _ _ _ _ _ _ _ _ _ _ _ _ _ _ _ _ _ _ _ _ _) rfl) ?_)))
  exact if_skip (b := false) (ev17 hl4 ha _ _ _ _ _ _ _ _ _ _ _ _ _ _ _ _ _ _ _ _ _ _ _) rfl rfl
theorem turns (hd : ds.length = 300) (x0 : Option D) : ∀ (ts : List Nat) (x2 x3 x4 x5 x6 x7 x8 x9 x10 x11 x12 x13 x14 x15 x16 x17 x18 x19 x20 x21 x22 x23 x24 x25 x26 : Option D), (∀ t ∈ ts, t < 5) → ∃ y2 y3 y4 y5 y6 y7 y8 y9 y10 y11 y12 y13 y14 y15 y16 y17 y18 y19 y20 y21 y22 y23 y24 y25 y26, forR none (forF (fun ρ S => evSs Γ0 bodyT ρ S) (.nm 2)) (ts.map fun (t : Nat) => D.int t) (E x0 (some (nums ds)) x2 x3 x4 x5 x6 x7 x8 x9 x10 x11 x12 x13 x14 x15 x16 x17 x18 x19 x20 x21 x22 x23 x24 x25 x26) S = .ok (.nx (E x0 (some (nums ds)) y2 y3 y4 y5 y6 y7 y8 y9 y10 y11 y12 y13 y14 y15 y16 y17 y18 y19 y20 y21 y22 y23 y24 y25 y26)) S
  | [], x2, x3, x4, x5, x6, x7, x8, x9, x10, x11, x12, x13, x14, x15, x16, x17, x18, x19, x20, x21, x22, x23, x24, x25, x26, _ => ⟨_, _, _, _, _, _, _, _, _, _, _, _, _, _, _, _, _, _, _, _, _, _, _, _, _, rfl⟩
  | t :: ts, x2, x3, x4, x5, x6, x7, x8, x9, x10, x11, x12, x13, x14, x15, x16, x17, x18, x19, x20, x21, x22, x23, x24, x25, x26, h => by
    obtain ⟨y3, y4, y5, y6, y7, y8, y9, y10, y11, y12, y13, y14, y15, y16, y17, y18, y19, y20, y21, y22, y23, y24, y25, y26, e⟩ := turn_ok (S := S) hd (h t List.mem_cons_self) x0 x3 x4 x5 x6 x7 x8 x9 x10 x11 x12 x13 x14 x15 x16 x17 x18 x19 x20 x21 x22 x23 x24 x25 x26
    obtain ⟨z2, z3, z4, z5, z6, z7, z8, z9, z10, z11, z12, z13, z14, z15, z16, z17, z18, z19, z20, z21, z22, z23, z24, z25, z26, e2⟩ := turns hd x0 ts (some (.int t)) y3 y4 y5 y6 y7 y8 y9 y10 y11 y12 y13 y14 y15 y16 y17 y18 y19 y20 y21 y22 y23 y24 y25 y26 fun s hs => h s (List.mem_cons_of_mem _ hs)
    exact ⟨z2, z3, z4, z5, z6, z7, z8, z9, z10, z11, z12, z13, z14, z15, z16, z17, z18, z19, z20, z21, z22, z23, z24, z25, z26, (for_nx ((forF_eq rfl).trans e)).trans e2⟩
theorem ow_nil : owN [] = [] := by simp [owN, allN]
theorem ev_end (S : Sto) : evE Γ0 XR ρ S = .ok (.bl true) S := by
  have h1 := r_sol 4 S (es := []) (by decide) (fun q hq => by cases hq) (fun _ => 0)
  rw [ow_nil] at h1
  have h2 := r_sol 4 S (es := [(1, fun _ => 0)]) (by decide) (fun q hq n => by rw [List.mem_singleton.mp hq]; show (0 : Int).natAbs ≤ 100; decide) (fun _ => 0)
  have ho : owN [(1, fun _ => 0)] = [] := by
    have hs : sup NL (fun _ => (0 : Int)) = [] := by decide +kernel
    simp [owN, allN, nmsE_eqD, hs]
  have hw : W [(1, fun _ => 0)] = .tup [.tup [.str "zero", .tup [.int 1, .tup []]]] := by
    show D.tup [eqD (1, fun _ => 0)] = _
    rw [eqD, fD_zero]
  rw [ho, hw] at h2
  have h3 := r_namesof (ds := []) 4 S (ok_of fun d hd => by cases hd) rfl (fun d hd => by cases hd) ⟨by decide, by decide⟩
  exact e_and_t (e_call (l_cons (d := .tup []) rfl (l_cons (d := .tup []) rfl l_nil)) h1) (e_and_t (e_not (b := false) (e_call (l_cons (d := .tup [.tup [.str "zero", .tup [.int 1, .tup []]]]) rfl (l_cons (d := .tup []) rfl l_nil)) h2)) (e_and_1 (e_cmp (x := .tup []) (y := .tup []) (e_call (l_cons (d := .tup []) rfl l_nil) h3) rfl rfl)))
theorem always (ns : List Int) (hn : ns.length ≤ 63) : ∃ S, run P0 11 21 [.rol ns] [] = .ok (.bl true) S := by
  obtain ⟨ds, _, hd, e0⟩ := draws_ok P0 14 rfl 300 (by decide) 9 [] ns
  obtain ⟨y2, y3, y4, y5, y6, y7, y8, y9, y10, y11, y12, y13, y14, y15, y16, y17, y18, y19, y20, y21, y22, y23, y24, y25, y26, e1⟩ := turns (S := []) hd (some (.rol ns)) (List.range 5) none none none none none none none none none none none none none none none none none none none none none none none none none fun t h => List.mem_range.mp h
  refine ⟨[], call_dry0 f_law rfl rfl (seq_nx (s_asg (d := nums ds) (e_call (l_cons (d := .rol ns) rfl (l_cons (d := .int 300) rfl l_nil)) e0) rfl) (seq_nx ((s_for (itR 5 (by decide))).trans e1) (seq_ret (s_ret (ev_end [])))))  rfl⟩
end K05
end

section
set_option Elab.async false
set_option linter.all false
set_option maxRecDepth 100000
/-! MpB: what data and store are in the model's heap; growing heaps; ends of an evaluation. -/
namespace MP
open PySem PySem.Spec PyProof.Rows L2
def KyOk (k : Ky) : Prop := ∀ x, k = .inr x → PyData.strOk x = true
/-- a list of the written part -/
def KLst (K : PySem.W.Frag) (a : Addr) (xs : List V) : Prop :=
  ∃ (o : Obj) (its : Array Value) (n : Nat), K.lookup a = some o ∧ o.cls = .type "list" ∧ o.dict = none ∧ o.data = .seq its n ∧ its.size ≤ sizeLine ∧ Vals xs its.toList
/-- an object without a dict of its own: a tuple as it was made, or of the written part -/
def Dl (K : PySem.W.Frag) (H : Hp) (a : Addr) : Prop := ∃ o : Obj, o.dict = none ∧ ((∃ u, H a = some (.frz o u)) ∨ K.lookup a = some o)
def SqF (K : PySem.W.Frag) (H : Hp) (a : Addr) (vs : List V) : Prop := SqT K H a vs ∧ Dl K H a
theorem SqF.new {K : PySem.W.Frag} {H : Hp} {p : Addr} {o : Obj} {vs : List V} (ho : o.dict = none) : SqF K (upd H p (.frz o (.tup vs))) p vs :=
  ⟨.inl (.inr ⟨o, upd_same⟩), o, ho, .inl ⟨_, upd_same⟩⟩
section
variable (K : PySem.W.Frag) (H : Hp) (ι κ : List Addr)
mutual
def Rep : D → V → Prop
  | .non, v => v = .non
  | .bl b, v => v = .bl b
  | .int i, v => v = .int i
  | .str x, v => v = .str x ∧ PyData.strOk x = true
  | .tup ds, v => ∃ a vs, v = .ref a ∧ SqF K H a vs ∧ RepL ds vs
  | .lst ds, v => ∃ a vs, v = .ref a ∧ H a = some (.lst vs) ∧ ¬ a ∈ ι ∧ ¬ a ∈ κ ∧ RepL ds vs
  | .rol ns, v => ∃ a, v = .ref a ∧ ((Rd H a (.lst (ns.map V.int)) ∧ ¬ a ∈ ι ∧ ¬ a ∈ κ) ∨ KLst K a (ns.map V.int)) ∧ ns.length ≤ LIM
  | .dic kvs, v => ∃ a o vs, v = .ref a ∧ H a = some (.frz o (.dK vs)) ∧ RepK kvs vs
  | .dit kvs, v => ∃ a o vs, v = .ref a ∧ H a = some (.frz o (.dT vs)) ∧ RepT kvs vs
  | .ref n, v => ∃ a, v = .ref a ∧ ι[n]? = some a
def RepL : List D → List V → Prop
  | [], vs => vs = []
  | d :: ds, vs => ∃ v r, vs = v :: r ∧ Rep d v ∧ RepL ds r
def RepK : List (Ky × D) → List (Ky × V) → Prop
  | [], vs => vs = []
  | (k, d) :: ds, vs => ∃ v r, vs = (k, v) :: r ∧ Rep d v ∧ RepK ds r ∧ KyOk k
def RepT : List (List Ky × D) → List (List Ky × V) → Prop
  | [], vs => vs = []
  | (k, d) :: ds, vs => ∃ v r, vs = (k, v) :: r ∧ Rep d v ∧ RepT ds r
end
end
/-- fields -/
def RepF (K : PySem.W.Frag) (H : Hp) (ι κ : List Addr) : List (Str × D) → List (Str × V) → Prop
  | [], vs => vs = []
  | (k, d) :: ds, vs => ∃ v r, vs = (k, v) :: r ∧ Rep K H ι κ d v ∧ RepF K H ι κ ds r
/-- the program's data that a law gives -/
structure Tab where
  P : Prog
  gl : List (Str × Nat)                 -- global names of functions
  consts : List (Str × D)               -- constants of the module
  flds : List Str                       -- fields of instances
def Tab.cad (T : Tab) (K : PySem.W.Frag) (C : Nat) : Option Addr := T.P.cls[C]?.bind fun c => if c.exc.isNone then some (He.ga K c.name) else none
def ObR (T : Tab) (K : PySem.W.Frag) (H : Hp) (ι κ : List Addr) (a : Addr) : O → Prop
  | .lst ds => ∃ vs, H a = some (.lst vs) ∧ RepL K H ι κ ds vs
  | .dic kvs => ∃ vs, H a = some (.dK vs) ∧ RepK K H ι κ kvs vs
  | .dit kvs => ∃ vs, H a = some (.dT vs) ∧ RepT K H ι κ kvs vs
  | .ins C fs => ∃ c dx gs, T.cad K C = some c ∧ H a = some (.ins c dx gs) ∧ RepF K H ι κ fs gs
structure Wd (T : Tab) (K : PySem.W.Frag) (H : Hp) (ι κ : List Addr) (S : Sto) : Prop where
  len : ι.length = S.length
  nd : ι.Nodup
  dj : ∀ a ∈ κ, a ∉ ι
  kt : ∀ a ∈ κ, ∃ o, H a = some o
  ob : ∀ (n : Nat) (a : Addr) (o : O), ι[n]? = some a → S[n]? = some o → ObR T K H ι κ a o
structure Ext (H : Hp) (ι : List Addr) (H' : Hp) (ι' : List Addr) : Prop where
  keep : ∀ a o, a ∉ ι → H a = some o → H' a = some o
  new : ∀ a ∈ ι', a ∈ ι ∨ H a = none
  pre : ι <+: ι'
theorem Ext.refl {H : Hp} {ι : List Addr} : Ext H ι H ι := ⟨fun _ _ _ h => h, fun _ h => .inl h, List.prefix_refl _⟩
theorem Ext.trans {H H1 H2 : Hp} {ι ι1 ι2 : List Addr} (a : Ext H ι H1 ι1) (b : Ext H1 ι1 H2 ι2) : Ext H ι H2 ι2 where
  keep := fun x o h e => b.keep x o (fun z => (a.new x z).elim h fun q => by rw [q] at e; cases e) (a.keep x o h e)
  new := fun x h => by
    by_cases z : x ∈ ι
    · exact .inl z
    · refine .inr ?_
      cases q : H x with
      | none => rfl
      | some o =>
        have q1 := a.keep x o z q
        rcases b.new x h with w | w
        · rcases a.new x w with w | w
          · exact absurd w z
          · rw [w] at q; cases q
        · rw [q1] at w; cases w
  pre := List.IsPrefix.trans a.pre b.pre
theorem Wd.at_ {T : Tab} {K : PySem.W.Frag} {H : Hp} {ι κ : List Addr} {S : Sto} (w : Wd T K H ι κ S) {a : Addr} (h : a ∈ ι) : ∃ (n : Nat) (o : O), ι[n]? = some a ∧ S[n]? = some o ∧ ObR T K H ι κ a o := by
  obtain ⟨n, hn, e⟩ := List.mem_iff_getElem.mp h
  have hs : n < S.length := by rw [← w.len]; exact hn
  exact ⟨n, S[n], by rw [List.getElem?_eq_getElem hn, e], List.getElem?_eq_getElem hs, w.ob n a _ (by rw [List.getElem?_eq_getElem hn, e]) (List.getElem?_eq_getElem hs)⟩
theorem ObR.mut {T : Tab} {K : PySem.W.Frag} {H : Hp} {ι κ : List Addr} {a : Addr} {o : O} (h : ObR T K H ι κ a o) : Mut (H a) := by
  cases o with
  | lst ds => obtain ⟨vs, e, _⟩ := h; rw [e]; exact True.intro
  | dic ds => obtain ⟨vs, e, _⟩ := h; rw [e]; exact True.intro
  | dit ds => obtain ⟨vs, e, _⟩ := h; rw [e]; exact True.intro
  | ins C fs => obtain ⟨c, dx, gs, _, e, _⟩ := h; rw [e]; exact True.intro
theorem Wd.mut {T : Tab} {K : PySem.W.Frag} {H : Hp} {ι κ : List Addr} {S : Sto} (w : Wd T K H ι κ S) : ∀ a ∈ ι, Mut (H a) := fun a h => by
  obtain ⟨_, _, _, _, q⟩ := w.at_ h
  exact q.mut
/-! ### growing -/
section
variable {K : PySem.W.Frag} {H H' : Hp} {ι ι' κ κ' : List Addr}
theorem Ext.rdT (e : Ext H ι H' ι') (m : ∀ a ∈ ι, Mut (H a)) {a : Addr} {vs : List V} (h : SqT K H a vs) : SqT K H' a vs := by
  rcases h with h | h
  · have na : a ∉ ι := fun z => by
      have q := m a z
      rcases h with h | ⟨o, h⟩ <;> rw [h] at q <;> exact q
    rcases h with h | ⟨o, h⟩
    · exact .inl (.inl (e.keep _ _ na h))
    · exact .inl (.inr ⟨o, e.keep _ _ na h⟩)
  · exact .inr h
theorem Ext.out (e : Ext H ι H' ι') {a : Addr} {o : HO} (h : a ∉ ι) (q : H a = some o) : a ∉ ι' := fun z => (e.new a z).elim h fun w => by rw [w] at q; cases q
theorem Ext.frz (e : Ext H ι H' ι') (m : ∀ a ∈ ι, Mut (H a)) {a : Addr} {o : Obj} {u : HO} (h : H a = some (.frz o u)) : H' a = some (.frz o u) :=
  e.keep a _ (fun z => by have q := m a z; rw [h] at q; exact q) h
theorem Ext.rdF (e : Ext H ι H' ι') (m : ∀ a ∈ ι, Mut (H a)) {a : Addr} {vs : List V} (h : SqF K H a vs) : SqF K H' a vs := by
  obtain ⟨h1, o, ho, h2⟩ := h
  refine ⟨e.rdT m h1, o, ho, ?_⟩
  rcases h2 with ⟨u, q⟩ | q
  · exact .inl ⟨u, e.frz m q⟩
  · exact .inr q
theorem Rd.keep (e : Ext H ι H' ι') {a : Addr} {o : HO} (h : a ∉ ι) (q : Rd H a o) : Rd H' a o ∧ a ∉ ι' := by
  rcases q with q | ⟨u, q⟩
  · exact ⟨.inl (e.keep _ _ h q), e.out h q⟩
  · exact ⟨.inr ⟨u, e.keep _ _ h q⟩, e.out h q⟩
theorem getE (e : Ext H ι H' ι') {n : Nat} {a : Addr} (h : ι[n]? = some a) : ι'[n]? = some a := by
  obtain ⟨t, rfl⟩ := e.pre
  have hn := (List.getElem?_eq_some_iff.mp h).1
  rw [List.getElem?_append_left hn]; exact h
theorem kout {a : Addr} {o : HO} (hκ : ∀ a ∈ κ', a ∈ κ ∨ H a = none) (n : ¬ a ∈ κ) (s : Rd H a o) : ¬ a ∈ κ' := fun z =>
  (hκ a z).elim n fun w => by
    rcases s with s | ⟨_, s⟩
    · rw [w] at s; cases s
    · rw [w] at s; cases s
mutual
theorem Rep.mono (e : Ext H ι H' ι') (m : ∀ a ∈ ι, Mut (H a)) (hκ : ∀ a ∈ κ', a ∈ κ ∨ H a = none) : ∀ {d : D} {v : V}, Rep K H ι κ d v → Rep K H' ι' κ' d v
  | .non, _, h | .bl _, _, h | .int _, _, h | .str _, _, h => by simpa only [Rep] using h
  | .tup ds, v, h => by
    simp only [Rep] at h ⊢
    obtain ⟨a, vs, r, s, q⟩ := h
    exact ⟨a, vs, r, e.rdF m s, RepL.mono e m hκ q⟩
  | .lst ds, v, h => by
    simp only [Rep] at h ⊢
    obtain ⟨a, vs, r, s, n, n', q⟩ := h
    exact ⟨a, vs, r, e.keep _ _ n s, e.out n s, kout hκ n' (.inl s), RepL.mono e m hκ q⟩
  | .rol ns, v, h => by
    simp only [Rep] at h ⊢
    obtain ⟨a, r, s, q⟩ := h
    rcases s with ⟨s, n, n'⟩ | s
    · obtain ⟨s', n2⟩ := Rd.keep e n s
      exact ⟨a, r, .inl ⟨s', n2, kout hκ n' s⟩, q⟩
    · exact ⟨a, r, .inr s, q⟩
  | .dic kvs, v, h => by
    simp only [Rep] at h ⊢
    obtain ⟨a, o, vs, r, s, q⟩ := h
    exact ⟨a, o, vs, r, e.frz m s, RepK.mono e m hκ q⟩
  | .dit kvs, v, h => by
    simp only [Rep] at h ⊢
    obtain ⟨a, o, vs, r, s, q⟩ := h
    exact ⟨a, o, vs, r, e.frz m s, RepT.mono e m hκ q⟩
  | .ref n, v, h => by
    simp only [Rep] at h ⊢
    obtain ⟨a, r, s⟩ := h
    exact ⟨a, r, getE e s⟩
theorem RepL.mono (e : Ext H ι H' ι') (m : ∀ a ∈ ι, Mut (H a)) (hκ : ∀ a ∈ κ', a ∈ κ ∨ H a = none) : ∀ {d : List D} {v : List V}, RepL K H ι κ d v → RepL K H' ι' κ' d v
  | [], _, h => by simpa only [RepL] using h
  | d :: ds, _, h => by
    simp only [RepL] at h ⊢
    obtain ⟨v, r, rfl, q, q'⟩ := h
    exact ⟨v, r, rfl, Rep.mono e m hκ q, RepL.mono e m hκ q'⟩
theorem RepK.mono (e : Ext H ι H' ι') (m : ∀ a ∈ ι, Mut (H a)) (hκ : ∀ a ∈ κ', a ∈ κ ∨ H a = none) : ∀ {d : List (Ky × D)} {v : List (Ky × V)}, RepK K H ι κ d v → RepK K H' ι' κ' d v
  | [], _, h => by simpa only [RepK] using h
  | (k, d) :: ds, _, h => by
    simp only [RepK] at h ⊢
    obtain ⟨v, r, rfl, q, q', ok⟩ := h
    exact ⟨v, r, rfl, Rep.mono e m hκ q, RepK.mono e m hκ q', ok⟩
theorem RepT.mono (e : Ext H ι H' ι') (m : ∀ a ∈ ι, Mut (H a)) (hκ : ∀ a ∈ κ', a ∈ κ ∨ H a = none) : ∀ {d : List (List Ky × D)} {v : List (List Ky × V)}, RepT K H ι κ d v → RepT K H' ι' κ' d v
  | [], _, h => by simpa only [RepT] using h
  | (k, d) :: ds, _, h => by
    simp only [RepT] at h ⊢
    obtain ⟨v, r, rfl, q, q'⟩ := h
    exact ⟨v, r, rfl, Rep.mono e m hκ q, RepT.mono e m hκ q'⟩
end
end
end MP
end

section
set_option Elab.async false
set_option linter.all false
set_option maxRecDepth 100000
/-! MpC: what an evaluation's end asks; new objects; the moves between values and store. -/
namespace MP
open PySem PySem.Spec PyProof.Rows L2
section
variable {T : Tab} {K : PySem.W.Frag} {H H' : Hp} {ι ι' κ κ' : List Addr} {S : Sto}
theorem RepF.mono (e : Ext H ι H' ι') (m : ∀ a ∈ ι, Mut (H a)) (hκ : ∀ a ∈ κ', a ∈ κ ∨ H a = none) : ∀ {d : List (Str × D)} {v : List (Str × V)}, RepF K H ι κ d v → RepF K H' ι' κ' d v
  | [], _, h => h
  | (k, d) :: ds, _, ⟨v, r, e1, q, q'⟩ => ⟨v, r, e1, Rep.mono e m hκ q, RepF.mono e m hκ q'⟩
theorem ObR.mono (e : Ext H ι H' ι') (m : ∀ a ∈ ι, Mut (H a)) (hκ : ∀ a ∈ κ', a ∈ κ ∨ H a = none) {a : Addr} {o : O} (ha : H' a = H a) (h : ObR T K H ι κ a o) : ObR T K H' ι' κ' a o := by
  cases o with
  | lst ds => obtain ⟨vs, q, r⟩ := h; exact ⟨vs, ha.trans q, RepL.mono e m hκ r⟩
  | dic ds => obtain ⟨vs, q, r⟩ := h; exact ⟨vs, ha.trans q, RepK.mono e m hκ r⟩
  | dit ds => obtain ⟨vs, q, r⟩ := h; exact ⟨vs, ha.trans q, RepT.mono e m hκ r⟩
  | ins C fs => obtain ⟨c, dx, gs, q, r, t⟩ := h; exact ⟨c, dx, gs, q, ha.trans r, RepF.mono e m hκ t⟩
/-- a new object -/
theorem Ext.fresh {p : Addr} {o : HO} (w : Wd T K H ι κ S) (h : H p = none) : Ext H ι (upd H p o) ι :=
  ⟨fun a u _ q => by rw [upd_ne (ne_of_none q h)]; exact q, fun _ z => .inl z, List.prefix_refl _⟩
theorem Wd.notin {p : Addr} (w : Wd T K H ι κ S) (h : H p = none) : ¬ p ∈ ι := fun z => by
  have := w.mut p z
  rw [h] at this; exact this
theorem Wd.notink {p : Addr} (w : Wd T K H ι κ S) (h : H p = none) : ¬ p ∈ κ := fun z => by
  obtain ⟨o, q⟩ := w.kt p z
  rw [h] at q; cases q
theorem Wd.fresh {p : Addr} {o : HO} (w : Wd T K H ι κ S) (h : H p = none) : Wd T K (upd H p o) ι κ S where
  len := w.len
  nd := w.nd
  dj := w.dj
  kt := fun a z => by
    obtain ⟨u, q⟩ := w.kt a z
    exact ⟨u, by rw [upd_ne (ne_of_none q h)]; exact q⟩
  ob := fun n a u e1 e2 => (w.ob n a u e1 e2).mono (Ext.fresh w h) w.mut (fun _ z => .inl z) (by
    rw [upd_ne (show a ≠ p from fun z => w.notin h (z ▸ List.mem_of_getElem? e1))])
/-- a new hidden object -/
theorem Wd.hide {p : Addr} {o : HO} (w : Wd T K H ι κ S) (h : H p = none) : Wd T K (upd H p o) ι (p :: κ) S where
  len := w.len
  nd := w.nd
  dj := fun a z => by
    rcases List.mem_cons.mp z with z | z
    · rw [z]; exact w.notin h
    · exact w.dj a z
  kt := fun a z => by
    rcases List.mem_cons.mp z with z | z
    · rw [z]; exact ⟨o, upd_same⟩
    · obtain ⟨u, q⟩ := w.kt a z
      exact ⟨u, by rw [upd_ne (ne_of_none q h)]; exact q⟩
  ob := fun n a u e1 e2 => (w.ob n a u e1 e2).mono (Ext.fresh w h) w.mut (fun b z => (List.mem_cons.mp z).elim (fun q => .inr (by rw [q]; exact h)) .inl) (by
    rw [upd_ne (show a ≠ p from fun z => w.notin h (z ▸ List.mem_of_getElem? e1))])
theorem Wd.unhide {p : Addr} (w : Wd T K H ι (p :: κ) S) : Wd T K H ι κ S where
  len := w.len
  nd := w.nd
  dj := fun a z => w.dj a (List.mem_cons_of_mem _ z)
  kt := fun a z => w.kt a (List.mem_cons_of_mem _ z)
  ob := fun n a u e1 e2 => (w.ob n a u e1 e2).mono Ext.refl w.mut (fun b z => .inl (List.mem_cons_of_mem _ z)) rfl
theorem Ext.none (e : Ext H ι H' ι') (m : ∀ a ∈ ι', Mut (H' a)) {p : Addr} (h : H' p = none) : H p = none := by
  cases q : H p with
  | none => rfl
  | some o =>
    by_cases z : p ∈ ι
    · have z' : p ∈ ι' := e.pre.subset z
      have := m p z'
      rw [h] at this; exact this.elim
    · have := e.keep p o z q
      rw [h] at this; cases this
end
/-! a hidden object is changed -/
section
variable {T : Tab} {K : PySem.W.Frag} {H : Hp} {ι κ : List Addr} {p : Addr} {o u : HO}
theorem noTup (hu : H p = some u) (mu : Mut (some u)) {a : Addr} {vs : List V} (h : SqT K H a vs) : SqT K (upd H p o) a vs := by
  rcases h with (h | ⟨od, h⟩) | h
  · exact .inl (.inl (by rw [upd_ne (fun z => by rw [z, hu] at h; cases h; exact mu)]; exact h))
  · exact .inl (.inr ⟨od, by rw [upd_ne (fun z => by rw [z, hu] at h; cases h; exact mu)]; exact h⟩)
  · exact .inr h
theorem noTupF (hu : H p = some u) (mu : Mut (some u)) {a : Addr} {vs : List V} (h : SqF K H a vs) : SqF K (upd H p o) a vs := by
  obtain ⟨h1, ob, ho, h2⟩ := h
  refine ⟨noTup hu mu h1, ob, ho, ?_⟩
  rcases h2 with ⟨w, q⟩ | q
  · exact .inl ⟨w, by rw [upd_ne (fun z => by rw [z, hu] at q; cases q; exact mu)]; exact q⟩
  · exact .inr q
mutual
theorem Rep.over (hp : p ∈ κ) (hu : H p = some u) (mu : Mut (some u)) : ∀ {d : D} {v : V}, Rep K H ι κ d v → Rep K (upd H p o) ι κ d v
  | .non, _, h | .bl _, _, h | .int _, _, h | .str _, _, h => by simpa only [Rep] using h
  | .tup ds, v, h => by
    simp only [Rep] at h ⊢
    obtain ⟨a, vs, r, s, q⟩ := h
    exact ⟨a, vs, r, noTupF hu mu s, RepL.over hp hu mu q⟩
  | .lst ds, v, h => by
    simp only [Rep] at h ⊢
    obtain ⟨a, vs, r, s, n, n', q⟩ := h
    exact ⟨a, vs, r, by rw [upd_ne (fun z => n' (by rw [z]; exact hp))]; exact s, n, n', RepL.over hp hu mu q⟩
  | .rol ns, v, h => by
    simp only [Rep] at h ⊢
    obtain ⟨a, r, s, q⟩ := h
    rcases s with ⟨s, n, n'⟩ | s
    · refine ⟨a, r, .inl ⟨?_, n, n'⟩, q⟩
      have ne : a ≠ p := fun z => n' (by rw [z]; exact hp)
      rcases s with s | ⟨od, s⟩
      · exact .inl (by rw [upd_ne ne]; exact s)
      · exact .inr ⟨od, by rw [upd_ne ne]; exact s⟩
    · exact ⟨a, r, .inr s, q⟩
  | .dic kvs, v, h => by
    simp only [Rep] at h ⊢
    obtain ⟨a, od, vs, r, s, q⟩ := h
    exact ⟨a, od, vs, r, by rw [upd_ne (fun z => by rw [z, hu] at s; cases s; exact mu)]; exact s, RepK.over hp hu mu q⟩
  | .dit kvs, v, h => by
    simp only [Rep] at h ⊢
    obtain ⟨a, od, vs, r, s, q⟩ := h
    exact ⟨a, od, vs, r, by rw [upd_ne (fun z => by rw [z, hu] at s; cases s; exact mu)]; exact s, RepT.over hp hu mu q⟩
  | .ref n, v, h => by simpa only [Rep] using h
theorem RepL.over (hp : p ∈ κ) (hu : H p = some u) (mu : Mut (some u)) : ∀ {d : List D} {v : List V}, RepL K H ι κ d v → RepL K (upd H p o) ι κ d v
  | [], _, h => by simpa only [RepL] using h
  | d :: ds, _, h => by
    simp only [RepL] at h ⊢
    obtain ⟨v, r, rfl, q, q'⟩ := h
    exact ⟨v, r, rfl, Rep.over hp hu mu q, RepL.over hp hu mu q'⟩
theorem RepK.over (hp : p ∈ κ) (hu : H p = some u) (mu : Mut (some u)) : ∀ {d : List (Ky × D)} {v : List (Ky × V)}, RepK K H ι κ d v → RepK K (upd H p o) ι κ d v
  | [], _, h => by simpa only [RepK] using h
  | (k, d) :: ds, _, h => by
    simp only [RepK] at h ⊢
    obtain ⟨v, r, rfl, q, q', ok⟩ := h
    exact ⟨v, r, rfl, Rep.over hp hu mu q, RepK.over hp hu mu q', ok⟩
theorem RepT.over (hp : p ∈ κ) (hu : H p = some u) (mu : Mut (some u)) : ∀ {d : List (List Ky × D)} {v : List (List Ky × V)}, RepT K H ι κ d v → RepT K (upd H p o) ι κ d v
  | [], _, h => by simpa only [RepT] using h
  | (k, d) :: ds, _, h => by
    simp only [RepT] at h ⊢
    obtain ⟨v, r, rfl, q, q'⟩ := h
    exact ⟨v, r, rfl, Rep.over hp hu mu q, RepT.over hp hu mu q'⟩
end
theorem RepF.over (hp : p ∈ κ) (hu : H p = some u) (mu : Mut (some u)) : ∀ {d : List (Str × D)} {v : List (Str × V)}, RepF K H ι κ d v → RepF K (upd H p o) ι κ d v
  | [], _, h => h
  | (k, d) :: ds, _, ⟨v, r, e1, q, q'⟩ => ⟨v, r, e1, Rep.over hp hu mu q, RepF.over hp hu mu q'⟩
theorem ObR.over (hp : p ∈ κ) (hu : H p = some u) (mu : Mut (some u)) {a : Addr} {ob : O} (ne : a ≠ p) (h : ObR T K H ι κ a ob) : ObR T K (upd H p o) ι κ a ob := by
  have e : upd H p o a = H a := upd_ne ne
  cases ob with
  | lst ds => obtain ⟨vs, q, r⟩ := h; exact ⟨vs, e.trans q, r.over hp hu mu⟩
  | dic ds => obtain ⟨vs, q, r⟩ := h; exact ⟨vs, e.trans q, r.over hp hu mu⟩
  | dit ds => obtain ⟨vs, q, r⟩ := h; exact ⟨vs, e.trans q, r.over hp hu mu⟩
  | ins C fs => obtain ⟨c, dx, gs, q, r, t⟩ := h; exact ⟨c, dx, gs, q, e.trans r, t.over hp hu mu⟩
theorem Wd.over {S : Sto} (w : Wd T K H ι κ S) (hp : p ∈ κ) (hu : H p = some u) (mu : Mut (some u)) : Wd T K (upd H p o) ι κ S where
  len := w.len
  nd := w.nd
  dj := w.dj
  kt := fun a z => by
    by_cases e : a = p
    · rw [e]; exact ⟨o, upd_same⟩
    · obtain ⟨x, q⟩ := w.kt a z
      exact ⟨x, by rw [upd_ne e]; exact q⟩
  ob := fun n a ob e1 e2 => (w.ob n a ob e1 e2).over hp hu mu fun z => w.dj p hp (z ▸ List.mem_of_getElem? e1)
end
/-! from hidden to the store -/
section
variable {T : Tab} {K : PySem.W.Frag} {H : Hp} {ι κ : List Addr} {p : Addr}
mutual
theorem Rep.move : ∀ {d : D} {v : V}, Rep K H ι (p :: κ) d v → Rep K H (ι ++ [p]) κ d v
  | .non, _, h | .bl _, _, h | .int _, _, h | .str _, _, h => by simpa only [Rep] using h
  | .tup ds, v, h => by
    simp only [Rep] at h ⊢
    obtain ⟨a, vs, r, s, q⟩ := h
    exact ⟨a, vs, r, s, RepL.move q⟩
  | .lst ds, v, h => by
    simp only [Rep] at h ⊢
    obtain ⟨a, vs, r, s, n, n', q⟩ := h
    exact ⟨a, vs, r, s, moveN n n', fun z => n' (List.mem_cons_of_mem _ z), RepL.move q⟩
  | .rol ns, v, h => by
    simp only [Rep] at h ⊢
    obtain ⟨a, r, s, q⟩ := h
    rcases s with ⟨s, n, n'⟩ | s
    · exact ⟨a, r, .inl ⟨s, moveN n n', fun z => n' (List.mem_cons_of_mem _ z)⟩, q⟩
    · exact ⟨a, r, .inr s, q⟩
  | .dic kvs, v, h => by
    simp only [Rep] at h ⊢
    obtain ⟨a, o, vs, r, s, q⟩ := h
    exact ⟨a, o, vs, r, s, RepK.move q⟩
  | .dit kvs, v, h => by
    simp only [Rep] at h ⊢
    obtain ⟨a, o, vs, r, s, q⟩ := h
    exact ⟨a, o, vs, r, s, RepT.move q⟩
  | .ref n, v, h => by
    simp only [Rep] at h ⊢
    obtain ⟨a, r, s⟩ := h
    exact ⟨a, r, by rw [List.getElem?_append_left (List.getElem?_eq_some_iff.mp s).1]; exact s⟩
theorem RepL.move : ∀ {d : List D} {v : List V}, RepL K H ι (p :: κ) d v → RepL K H (ι ++ [p]) κ d v
  | [], _, h => by simpa only [RepL] using h
  | d :: ds, _, h => by
    simp only [RepL] at h ⊢
    obtain ⟨v, r, rfl, q, q'⟩ := h
    exact ⟨v, r, rfl, Rep.move q, RepL.move q'⟩
theorem RepK.move : ∀ {d : List (Ky × D)} {v : List (Ky × V)}, RepK K H ι (p :: κ) d v → RepK K H (ι ++ [p]) κ d v
  | [], _, h => by simpa only [RepK] using h
  | (k, d) :: ds, _, h => by
    simp only [RepK] at h ⊢
    obtain ⟨v, r, rfl, q, q', ok⟩ := h
    exact ⟨v, r, rfl, Rep.move q, RepK.move q', ok⟩
theorem RepT.move : ∀ {d : List (List Ky × D)} {v : List (List Ky × V)}, RepT K H ι (p :: κ) d v → RepT K H (ι ++ [p]) κ d v
  | [], _, h => by simpa only [RepT] using h
  | (k, d) :: ds, _, h => by
    simp only [RepT] at h ⊢
    obtain ⟨v, r, rfl, q, q'⟩ := h
    exact ⟨v, r, rfl, Rep.move q, RepT.move q'⟩
theorem moveN {a : Addr} (n : ¬ a ∈ ι) (n' : ¬ a ∈ p :: κ) : ¬ a ∈ ι ++ [p] := fun z => by
  rcases List.mem_append.mp z with z | z
  · exact n z
  · exact n' (by rw [List.mem_singleton.mp z]; exact List.mem_cons_self)
end
theorem RepF.move : ∀ {d : List (Str × D)} {v : List (Str × V)}, RepF K H ι (p :: κ) d v → RepF K H (ι ++ [p]) κ d v
  | [], _, h => h
  | (k, d) :: ds, _, ⟨v, r, e1, q, q'⟩ => ⟨v, r, e1, Rep.move q, RepF.move q'⟩
theorem ObR.move {a : Addr} {o : O} (h : ObR T K H ι (p :: κ) a o) : ObR T K H (ι ++ [p]) κ a o := by
  cases o with
  | lst ds => obtain ⟨vs, q, r⟩ := h; exact ⟨vs, q, r.move⟩
  | dic ds => obtain ⟨vs, q, r⟩ := h; exact ⟨vs, q, r.move⟩
  | dit ds => obtain ⟨vs, q, r⟩ := h; exact ⟨vs, q, r.move⟩
  | ins C fs => obtain ⟨c, dx, gs, q, r, t⟩ := h; exact ⟨c, dx, gs, q, r, t.move⟩
/-- the hidden object comes into the store -/
theorem Wd.take {S : Sto} {o : O} (w : Wd T K H ι (p :: κ) S) (hk : ¬ p ∈ κ) (ho : ObR T K H ι (p :: κ) p o) : Wd T K H (ι ++ [p]) κ (S ++ [o]) where
  len := by simp [w.len]
  nd := by
    refine List.nodup_append.mpr ⟨w.nd, by simp, fun a h1 b h2 z => ?_⟩
    rw [List.mem_singleton.mp h2] at z
    exact w.dj p List.mem_cons_self (z ▸ h1)
  dj := fun a z q => by
    rcases List.mem_append.mp q with q | q
    · exact w.dj a (List.mem_cons_of_mem _ z) q
    · rw [List.mem_singleton.mp q] at z; exact hk z
  kt := fun a z => w.kt a (List.mem_cons_of_mem _ z)
  ob := fun n a u e1 e2 => by
    by_cases hn : n < ι.length
    · rw [List.getElem?_append_left hn] at e1
      rw [List.getElem?_append_left (by rw [← w.len]; exact hn)] at e2
      exact (w.ob n a u e1 e2).move
    · rw [List.getElem?_append_right (by omega)] at e1
      rw [List.getElem?_append_right (by rw [← w.len]; omega), ← w.len] at e2
      have h0 : n - ι.length = 0 := by
        have := (List.getElem?_eq_some_iff.mp e1).1
        simp at this; omega
      rw [h0] at e1 e2
      simp at e1 e2
      subst e1 e2
      exact ho.move
end
/-! ### slots, errors -/
def EnvR (K : PySem.W.Frag) (H : Hp) (ι κ : List Addr) (σ : L2.St) (ρ : Env) : Prop :=
  σ.length = ρ.length ∧ ∀ (i : Nat) (d : D), ρ[i]? = some (some d) → ∃ v, σ[i]? = some (some v) ∧ Rep K H ι κ d v
theorem EnvR.mono {K : PySem.W.Frag} {H H' : Hp} {ι ι' κ κ' : List Addr} {σ : L2.St} {ρ : Env} (h : EnvR K H ι κ σ ρ) (e : Ext H ι H' ι') (m : ∀ a ∈ ι, Mut (H a)) (hκ : ∀ a ∈ κ', a ∈ κ ∨ H a = none) : EnvR K H' ι' κ' σ ρ :=
  ⟨h.1, fun i d q => let ⟨v, a, b⟩ := h.2 i d q; ⟨v, a, Rep.mono e m hκ b⟩⟩
def ExR (T : Tab) (K : PySem.W.Frag) (H : Hp) (ι κ : List Addr) (C : Nat) (fs : List (Str × D)) (cls : Value) (dx : Option Addr) : Prop :=
  ∃ c, T.P.cls[C]? = some c ∧ cls = .ref (He.ga K c.name) ∧ ((c.exc = some none ∧ fs = [] ∧ dx = none) ∨
    ∃ f d a v, c.exc = some (some f) ∧ fs = [(f, d)] ∧ dx = some a ∧ H a = some (.xd [(f, v)]) ∧ Rep K H ι κ d v)
/-- the end of an evaluation -/
def Post (T : Tab) (K : PySem.W.Frag) (κ : List Addr) (W : WX) (σ : L2.St) {α γ : Type} (rel : Hp → List Addr → α → γ → Prop) (H : Hp) (ι : List Addr) (r : R α) (Q : γ → Hp → Prop) : Prop := match r with
  | .ok a S' => ∀ g H' ι', Ext H ι H' ι' → Wd T K H' ι' κ S' → rel H' ι' a g → Q g H'
  | .exc C fs S' => ∀ cls dx H' ι', Ext H ι H' ι' → Wd T K H' ι' κ S' → ExR T K H' ι' κ C fs cls dx → W cls dx σ H'
  | .no => False
section
variable {T : Tab} {K : PySem.W.Frag} {κ : List Addr} {W : WX} {σ : L2.St} {α β γ δ : Type} {rel : Hp → List Addr → α → γ → Prop} {rel' : Hp → List Addr → β → δ → Prop} {H H1 : Hp} {ι ι1 : List Addr}
theorem Post.trans {r : R α} {Q : γ → Hp → Prop} (h : Post T K κ W σ rel H ι r Q) (e : Ext H ι H1 ι1) : Post T K κ W σ rel H1 ι1 r Q := by
  cases r with
  | ok a S => exact fun g H' ι' e' w q => h g H' ι' (e.trans e') w q
  | exc C fs S => exact fun c d H' ι' e' w q => h c d H' ι' (e.trans e') w q
  | no => exact h
theorem Post.bind {r : R α} {k : α → Sto → R β} {Q : δ → Hp → Prop} {Q1 : γ → Hp → Prop} (h : Post T K κ W σ rel' H ι (r.bind k) Q)
    (f : ∀ a S1 g H1 ι1, Ext H ι H1 ι1 → Wd T K H1 ι1 κ S1 → rel H1 ι1 a g → Post T K κ W σ rel' H1 ι1 (k a S1) Q → Q1 g H1) : Post T K κ W σ rel H ι r Q1 := by
  cases r with
  | ok a S => exact fun g H' ι' e w q => f a S g H' ι' e w q (Post.trans h e)
  | exc C fs S => exact h
  | no => exact h
theorem Post.imp {r : R α} {Q Q' : γ → Hp → Prop} (h : Post T K κ W σ rel H ι r Q) (f : ∀ g H', Q g H' → Q' g H') : Post T K κ W σ rel H ι r Q' := by
  cases r with
  | ok a S => exact fun g H' ι' e w q => f g H' (h g H' ι' e w q)
  | exc C fs S => exact h
  | no => exact h
end
def relV (K : PySem.W.Frag) (κ : List Addr) : Hp → List Addr → D → V → Prop := fun H ι d v => Rep K H ι κ d v
def relL (K : PySem.W.Frag) (κ : List Addr) : Hp → List Addr → List D → List V → Prop := fun H ι d v => RepL K H ι κ d v
def relB : Hp → List Addr → Bool → Bool → Prop := fun _ _ d v => d = v
def asB (d : D) (S : Sto) : R Bool := match d with
  | .bl b => .ok b S
  | _ => .no
/-- the readings -/
def tE (T : Tab) (K : PySem.W.Frag) (W : WX) (Γ : Ctx) (x : Ex) : TE := fun σ H Q => ∃ ι κ S ρ, Wd T K H ι κ S ∧ EnvR K H ι κ σ ρ ∧ Post T K κ W σ (relV K κ) H ι (evE Γ x ρ S) Q
def tBB (T : Tab) (K : PySem.W.Frag) (W : WX) (Γ : Ctx) (x : Ex) : TT := fun σ H Q => ∃ ι κ S ρ, Wd T K H ι κ S ∧ EnvR K H ι κ σ ρ ∧ Post T K κ W σ relB H ι ((evE Γ x ρ S).bind asB) Q
def tA (T : Tab) (K : PySem.W.Frag) (W : WX) (Γ : Ctx) (xs : List Ex) : TA := fun σ H Q => ∃ ι κ S ρ, Wd T K H ι κ S ∧ EnvR K H ι κ σ ρ ∧ Post T K κ W σ (relL K κ) H ι (evL Γ xs ρ S) Q
/-- what a new object holds, it being hidden -/
def NewO (K : PySem.W.Frag) (H : Hp) (ι κ : List Addr) (p : Addr) : D → Prop
  | .lst ds => ∃ vs, H p = some (.lst vs) ∧ RepL K H ι κ ds vs
  | .dic ds => ∃ vs, H p = some (.dK vs) ∧ RepK K H ι κ ds vs
  | .dit ds => ∃ vs, H p = some (.dT vs) ∧ RepT K H ι κ ds vs
  | _ => False
def PostN (T : Tab) (K : PySem.W.Frag) (κ : List Addr) (W : WX) (σ : L2.St) (H : Hp) (ι : List Addr) (r : R D) (Q : V → Hp → Prop) : Prop := match r with
  | .ok d S' => ∀ p H' ι', H p = none → Ext H ι H' ι' → Wd T K H' ι' (p :: κ) S' → NewO K H' ι' (p :: κ) p d → Q (.ref p) H'
  | .exc C fs S' => ∀ cls dx H' ι', Ext H ι H' ι' → Wd T K H' ι' κ S' → ExR T K H' ι' κ C fs cls dx → W cls dx σ H'
  | .no => False
def tN (T : Tab) (K : PySem.W.Frag) (W : WX) (Γ : Ctx) (x : Ex) : TE := fun σ H Q => ∃ ι κ S ρ, Wd T K H ι κ S ∧ EnvR K H ι κ σ ρ ∧ PostN T K κ W σ H ι (evE Γ x ρ S) Q
theorem PE.wk {X : Cx} {e : Expr} {t t' : TE} (h : PE X e t) (i : ∀ σ H Q, t' σ H Q → t σ H Q) : PE X e t' := ⟨fun pins s σ H Q I q => h.run pins s σ H Q I (i σ H Q q)⟩
theorem PT.wk {X : Cx} {e : Expr} {t t' : TT} (h : PT X e t) (i : ∀ σ H Q, t' σ H Q → t σ H Q) : PT X e t' := ⟨fun pins s σ H Q I q => h.run pins s σ H Q I (i σ H Q q)⟩
theorem PA.wk {X : Cx} {e : List Expr} {t t' : TA} (h : PA X e t) (i : ∀ σ H Q, t' σ H Q → t σ H Q) : PA X e t' := ⟨fun pos pins s σ H Q I q => h.run pos pins s σ H Q I (i σ H Q q)⟩
section
variable {T : Tab} {K : PySem.W.Frag} {W : WX} {Γ : Ctx} {H : Hp} {ι κ : List Addr} {σ : L2.St}
theorem NewO.rep {p : Addr} {ds : List D} (h : NewO K H ι (p :: κ) p (.lst ds)) (hi : ¬ p ∈ ι) (hk : ¬ p ∈ κ) (m : ∀ a ∈ ι, Mut (H a)) : Rep K H ι κ (.lst ds) (.ref p) := by
  have hκ : ∀ a ∈ κ, a ∈ p :: κ ∨ H a = none := fun a z => .inl (List.mem_cons_of_mem _ z)
  obtain ⟨vs, q, r⟩ := h
  simp only [Rep]
  exact ⟨p, vs, rfl, q, hi, hk, RepL.mono Ext.refl m hκ r⟩
/-- what is asked of a value, asked of the value locked as well -/
def rlk (Q : VK) : VK := fun v H => Q v H ∨ ∃ a u, v = .ref a ∧ H a = some u ∧ Mut (some u) ∧ ∀ od, Q v (upd H a (.frz od u))
theorem PE.relock {X : Cx} {e : Expr} {t : TE} (h : PE X e t) : PE X e (fun σ H Q => t σ H (rlk Q)) := ⟨fun pins s σ H Q I q => thn (h.run pins s σ H _ I q) fun v s1 ⟨x, H1, I1, r1, q1⟩ => by
  rcases q1 with q1 | ⟨a, u, rfl, hu, mu, q1⟩
  · exact ⟨x, H1, I1, r1, q1⟩
  · obtain ⟨od, I2⟩ := I1.lock hu mu
    exact ⟨_, _, I2, r1, q1 od⟩⟩
theorem PostN.of {r : R D} {Q : V → Hp → Prop} {S : Sto} (w : Wd T K H ι κ S) (h : Post T K κ W σ (relV K κ) H ι r Q) : PostN T K κ W σ H ι r (rlk Q) := by
  cases r with
  | ok d S' =>
    intro p H' ι' hn e w' q
    have lock : ∀ {u : HO}, H' p = some u → Mut (some u) → (∀ od, Rep K (upd H' p (.frz od u)) ι' κ d (.ref p)) → rlk Q (.ref p) H' := fun {u} hu mu hr => by
      refine .inr ⟨p, u, rfl, hu, mu, fun od => h (.ref p) _ ι' ⟨fun a o ha q => ?_, e.new, e.pre⟩ ((w'.over List.mem_cons_self hu mu).unhide) (hr od)⟩
      rw [upd_ne (ne_of_none q hn)]
      exact e.keep a o ha q
    cases d with
    | lst ds => exact .inl (h (.ref p) H' ι' e w'.unhide (q.rep (w'.dj p List.mem_cons_self) (w.notink hn) w'.mut))
    | dic ds =>
      obtain ⟨vs, q, r⟩ := q
      refine lock q True.intro fun od => ?_
      simp only [Rep]
      exact ⟨p, od, vs, rfl, upd_same, RepK.mono Ext.refl (w'.over List.mem_cons_self q True.intro).mut (fun a z => .inl (List.mem_cons_of_mem _ z)) (RepK.over List.mem_cons_self q True.intro r)⟩
    | dit ds =>
      obtain ⟨vs, q, r⟩ := q
      refine lock q True.intro fun od => ?_
      simp only [Rep]
      exact ⟨p, od, vs, rfl, upd_same, RepT.mono Ext.refl (w'.over List.mem_cons_self q True.intro).mut (fun a z => .inl (List.mem_cons_of_mem _ z)) (RepT.over List.mem_cons_self q True.intro r)⟩
    | _ => exact q.elim
  | exc C fs S' => exact h
  | no => exact h
theorem tE_of_tN {x : Ex} {Q : VK} (h : tE T K W Γ x σ H Q) : tN T K W Γ x σ H (rlk Q) := by
  obtain ⟨ι, κ, S, ρ, w, e, p⟩ := h
  exact ⟨ι, κ, S, ρ, w, e, PostN.of w p⟩
theorem NewO.ob {p : Addr} {d : D} {S : Sto} (h : NewO K H ι (p :: κ) p d) : ∃ o, newO d S = .ok (.ref S.length) (S ++ [o]) ∧ ObR T K H ι (p :: κ) p o := by
  cases d with
  | lst ds => exact ⟨.lst ds, rfl, h⟩
  | dic ds => exact ⟨.dic ds, rfl, h⟩
  | dit ds => exact ⟨.dit ds, rfl, h⟩
  | _ => exact h.elim
theorem tN_mut {x : Ex} {Q : VK} (h : tE T K W Γ (.mut x) σ H Q) : tN T K W Γ x σ H Q := by
  obtain ⟨ι, κ, S, ρ, w, e, p⟩ := h
  refine ⟨ι, κ, S, ρ, w, e, ?_⟩
  have p : Post T K κ W σ (relV K κ) H ι ((evE Γ x ρ S).bind newO) Q := by simpa only [evE] using p
  cases hr : evE Γ x ρ S with
  | ok d S' =>
    rw [hr] at p
    intro q H' ι' hn ex w' hq
    obtain ⟨o, ho, hob⟩ := NewO.ob (T := T) (S := S') hq
    have p : Post T K κ W σ (relV K κ) H ι (newO d S') Q := p
    rw [ho] at p
    refine p (.ref q) H' (ι' ++ [q]) ⟨ex.keep, fun a z => ?_, List.IsPrefix.trans ex.pre (List.prefix_append _ _)⟩ (w'.take (w.notink hn) hob) ?_
    · rcases List.mem_append.mp z with z | z
      · exact ex.new a z
      · rw [List.mem_singleton.mp z]; exact .inr hn
    · show Rep K H' (ι' ++ [q]) κ (.ref S'.length) (.ref q)
      simp only [Rep]
      refine ⟨q, rfl, ?_⟩
      rw [← w'.len]
      simp
  | exc C fs S' => rw [hr] at p; exact p
  | no => rw [hr] at p; exact p
end
end MP
end

section
set_option Elab.async false
set_option linter.all false
set_option maxRecDepth 100000
/-! MpC2: tuples as they are made: the very object is told, it has no dict of its own. -/
namespace MP
open PySem PySem.Spec PyProof.Rows L2
/-- a new tuple of these -/
def NewT (H : Hp) (ws : List V) (Q : VK) : Prop := ∀ (p : Addr) (ob : Obj), H p = none → ob.dict = none → Q (.ref p) (upd H p (.frz ob (.tup ws)))
section
variable {X : Cx} {pins : List (Addr × Obj)} {σ : L2.St} {H : Hp}
theorem newT_at {s : Shared} {h1 : Heap} {tk : Nat} {ws : List V} {us : List Value} {Q : VK} (J : L2.Inv X pins σ H { s with heap := h1, toks := tk }) (rv : Vals ws us) (hz : ws.length ≤ sizeLine) (q : NewT H ws Q) :
    ∃ (x : V) (H' : Hp), L2.Inv X pins σ H' { s with heap := h1.push { cls := .type "tuple", data := .seq us.toArray }, toks := tk } ∧ RelV x (.ref h1.objs.size) ∧ Q x H' := by
  have hf : H h1.objs.size = none := J.hok.fresh (Nat.le_refl _)
  exact ⟨.ref h1.objs.size, _, J.laid (t' := tk) (o := .frz { cls := .type "tuple", data := .seq us.toArray } (.tup ws)) (fun _ _ e => Heap.get?_push_of_some _ e) (Nat.le_refl _) ⟨Heap.get?_push_size _ rfl, hz, us, rv, IsTup.new _ _⟩, rfl, q _ _ hf rfl⟩
end
section
variable {X : Cx}
/-- t + u -/
def rCatF (K : PySem.W.Frag) : R2 := fun x y H Q => ∃ a b xs ys, x = .ref a ∧ y = .ref b ∧ SqT K H a xs ∧ SqT K H b ys ∧ xs.length + ys.length ≤ sizeLine ∧ (xs = [] → Q (.ref b) H) ∧ (xs ≠ [] → ys = [] → Q (.ref a) H) ∧ (xs ≠ [] → ys ≠ [] → NewT H (xs ++ ys) Q)
theorem op_catF : OpR X (binaryOp .Add) (rCatF X.K) := by
  intro pn s σ H x y v u Q I rx ry hh
  obtain ⟨a, b, xs, ys, e1, e2, ha, hb, hz, q0, q1, q2⟩ := hh
  by_cases c : xs ≠ [] ∧ ys ≠ []
  · subst e1 e2
    cases rx
    cases ry
    obtain ⟨us, r1, p1, _⟩ := I.tuple ha
    obtain ⟨ws, r2, p2, _⟩ := I.tuple hb
    refine HT.cat_tup p1 p2 (fun z => c.1 (r1.nil_iff.mp z)) (fun z => absurd (r2.nil_iff.mp z) c.2) (fun _ => ?_) (by rw [← r1.length, ← r2.length]; exact hz)
    obtain ⟨x', H', J, rr, qq⟩ := newT_at (s := s) (h1 := s.heap) (tk := s.toks) I (r1.append r2) (by rw [List.length_append]; exact hz) (q2 c.1 c.2)
    exact ⟨x', H', J, rr, qq⟩
  · exact op_catA pn s σ H x y v u Q I rx ry ⟨a, b, xs, ys, e1, e2, ha, hb, hz, q0, q1, fun z1 z2 => absurd ⟨z1, z2⟩ c⟩
/-- t * n, as it is made -/
def rRepF (K : PySem.W.Frag) : R2 := fun x y H Q => ∃ l m xs, x = .ref l ∧ y = .int m ∧ SqT K H l xs ∧ 1 ≤ xs.length ∧ 2 ≤ m ∧ m ≤ 1000 ∧ xs.length ≤ 1000 ∧ NewT H (List.replicate m.toNat xs).flatten Q
theorem op_repF : OpR X (binaryOp .Mult) (rRepF X.K) := by
  intro pn s σ H x y v u Q I rx ry hh
  obtain ⟨l, m, xs, e1, e2, ht, hne, h1, h2, hz, q⟩ := hh
  subst e1 e2
  cases rx
  obtain ⟨tk, rfl⟩ := ry
  obtain ⟨zs, rv, ⟨⟨cl, dc, dt, sl⟩, ho, hcl, n, hdt⟩, hs⟩ := I.tuple ht
  simp only at hcl hdt
  subst hcl hdt
  have hlz : zs.length = xs.length := rv.length.symm
  have hsz : zs.toArray.size = xs.length := by rw [List.size_toArray, hlz]
  have hie : zs.toArray.isEmpty = false := by
    cases zs with
    | nil => simp at hlz; omega
    | cons a b => rfl
  have hN : m.toNat * xs.length ≤ 1000000 := Nat.le_trans (Nat.mul_le_mul (show m.toNat ≤ 1000 by omega) hz) (by decide)
  have hI : ((zs.toArray.size : Nat) : Int) * m ≤ 1000000 := by
    rw [hsz]
    have z1 := Int.mul_le_mul_of_nonneg_right (show ((xs.length : Nat) : Int) ≤ 1000 by omega) (show 0 ≤ m by omega)
    omega
  have hI2 : ¬ ((zs.toArray.size : Nat) : Int) * m > (2 ^ 63 - 1) / 8 := by omega
  have b0 : (decide (m < -(2 ^ 63)) || decide (m ≥ 2 ^ 63)) = false := by
    simp only [Bool.or_eq_false_iff, decide_eq_false_iff_not]; omega
  have b1 : (zs.toArray.isEmpty || m == 1) = false := by
    simp only [hie, Bool.false_or]; exact beq_false_of_ne (by omega)
  have b2 : (decide (m ≤ 0) || zs.toArray.isEmpty) = false := by
    simp only [hie, Bool.or_false, decide_eq_false_iff_not]; omega
  have b3 : Builtin.Tuple.tupleTooMany (((zs.toArray.size : Nat) : Int) * m) = false := by
    simp only [Builtin.Tuple.tupleTooMany, sizeLine_eq, decide_eq_false_iff_not]; omega
  have hfl : (List.replicate m.toNat zs).flatten.length ≤ sizeLine := by
    rw [PyProof.Rows.lm_len_rep_flat, hlz, sizeLine_eq]; omega
  have b4 : (List.foldl (fun x1 x2 => x1 ++ x2) #[] (List.replicate m.toNat zs.toArray)).size ≤ sizeLine := by
    rw [size_rep]; simpa only [List.size_toArray] using hfl
  refine wpAny_binaryOp_repeat_ref (U := "int") (T := "tuple") (by decide) ⟨_, ho, rfl⟩ (fun s' => typeIs_int s' m tk) noFill_tuple_mul F.fills_int_mul F.slot_int_rmul repeat_tuple F.slot_int_index.lookup ?_
  refine call_meets F.slot_int_rmul (typeIs_int s m tk) F.entry_int_rmul (F.args_int_rmul_2 _ _) (int_rmul_tuple m tk l zs.toArray n dc sl) ⟨ho, rfl, ⟨_, ho, rfl⟩, ?_⟩
  refine call_meets F.slot_tuple_mul ⟨_, ho, rfl⟩ F.entry_tuple_mul (F.args_tuple_mul_2 _ _) (tuple_mulW l zs.toArray n dc sl m tk b0 b1 b2 hI2 b3 b4) ⟨ho, ?_⟩
  rw [size_rep]
  obtain ⟨x', H', J, rr, qq⟩ := newT_at (s := s) (h1 := s.heap) (tk := s.toks) (us := (List.replicate m.toNat zs).flatten) I (rv.rep m.toNat) (by rw [PyProof.Rows.lm_len_rep_flat, sizeLine_eq]; omega) q
  exact ⟨x', H', J, rr, qq⟩
/-- t[lo:hi] -/
def rSlF (K : PySem.W.Frag) : V → Option Int → Option Int → Hp → VK → Prop := fun x lo hi H Q => ∃ a xs, x = .ref a ∧ SqT K H a xs ∧
  (HT.sIx xs.length 0 lo = 0 ∧ HT.sIx xs.length xs.length hi = xs.length → Q (.ref a) H) ∧ (¬ (HT.sIx xs.length 0 lo = 0 ∧ HT.sIx xs.length xs.length hi = xs.length) → NewT H (cutV xs lo hi) Q)
theorem sl_tupF : SlR X (rSlF X.K) := by
  intro pn s σ H x v vl vu lo hi sl Q I rx hs pl pu hh
  obtain ⟨a, xs, e1, hx, q1, q2⟩ := hh
  by_cases c : HT.sIx xs.length 0 lo = 0 ∧ HT.sIx xs.length xs.length hi = xs.length
  · exact sl_tupA pn s σ H x v vl vu lo hi sl Q I rx hs pl pu ⟨a, xs, e1, hx, q1, fun z => absurd c z⟩
  · subst e1
    cases rx
    obtain ⟨us, rv, ht, hz⟩ := I.tuple hx
    have hn : us.toArray.size = xs.length := by rw [List.size_toArray]; exact rv.length.symm
    refine ⟨"tuple", _, PyProof.Rows.slot_tuple_getitem.lookup, ht.typeIs, HT.getItem_tuple_cut ht hs pl pu (by rw [hn]; exact c) ?_ (by rw [hn]; exact hz)⟩
    rw [hn]
    obtain ⟨x', H', J, rr, qq⟩ := newT_at (s := s) (h1 := s.heap) (tk := s.toks) I ((rv.drop (HT.sIx xs.length 0 lo)).take (HT.sIx xs.length xs.length hi - HT.sIx xs.length 0 lo)) (Nat.le_trans (cutV_length xs lo hi) hz) (q2 c)
    exact ⟨x', H', J, rr, qq⟩
/-- tuple(x) of a list, of a tuple -/
theorem call_tupF : CallR X (.type "tuple") (fun xs H Q => ∃ p ys, xs = [.ref p] ∧ ((SqL X.K H p ys ∧ NewT H ys Q) ∨ (SqT X.K H p ys ∧ Q (.ref p) H))) := by
  intro pn s σ H xs us Q I rr hh
  obtain ⟨p, ys, e, hh⟩ := hh
  rcases hh with ⟨hq, q⟩ | hq
  · subst e
    obtain ⟨u, rfl, rx⟩ := vals1 rr
    cases rx
    obtain ⟨ws, rv, pl, hz⟩ := I.list hq
    have hn := rv.length
    refine call_tuple_list pl.isList (fun h' kp => ?_) (by simp only [List.size_toArray]; omega)
    obtain ⟨x', H', J, r2, qq⟩ := newT_at (s := s) (h1 := h') (tk := s.toks) (I.kept (t' := s.toks) kp) rv hz q
    exact ⟨x', H', J, r2, qq⟩
  · exact call_tuple_of pn s σ H xs us Q I rr ⟨p, ys, e, .inr hq⟩
/-- a written tuple -/
def tTupF (t : TA) : TE := fun σ H Q => t σ H fun xs H1 => xs.length ≤ sizeLine ∧ NewT H1 xs Q
theorem pe_tupF {es : List Expr} {t : TA} {m : Nat} {pos : Pos} (ha : PA X es t) : PE X (.Tuple es m pos) (tTupF t) := by
  refine ⟨fun pn s σ H Q I hh => wpAny_Tuple_spliced (thn (ha.run pos pn s σ H _ I hh) fun us s1 hq => ?_)⟩
  obtain ⟨xs, H1, I1, rv, hz, q⟩ := hq
  refine ⟨by rw [← rv.length]; exact hz, ?_⟩
  obtain ⟨x', H', J, rr, qq⟩ := newT_at (s := s1) (h1 := s1.heap) (tk := s1.toks) I1 rv hz q
  exact ⟨x', H', J, rr, qq⟩
end
end MP
end

section
set_option Elab.async false
set_option linter.all false
set_option maxRecDepth 100000
/-! MpD: operators, comparisons, subscripts, slices, built-in functions by values. -/
namespace MP
open PySem PySem.Spec PyProof.Rows L2
def VPost (T : Tab) (K : PySem.W.Frag) (ι κ : List Addr) (H : Hp) (S : Sto) (d : D) (Q : VK) : Prop := ∀ v H' ι', Ext H ι H' ι' → Wd T K H' ι' κ S → Rep K H' ι' κ d v → Q v H'
def NPost (T : Tab) (K : PySem.W.Frag) (ι κ : List Addr) (H : Hp) (S : Sto) (d : D) (Q : VK) : Prop := ∀ p H' ι', H p = none → Ext H ι H' ι' → Wd T K H' ι' (p :: κ) S → NewO K H' ι' (p :: κ) p d → Q (.ref p) H'
theorem LIM_line {n : Nat} (h : n ≤ LIM) : n ≤ sizeLine := by
  rw [sizeLine_eq]; unfold LIM at h; omega
theorem rep_len (x : Str) : ∀ (n : Nat) (acc : Array Nat), ((List.replicate n x.cps).foldl (· ++ ·) acc).size = acc.size + x.length * n
  | 0, acc => by simp
  | n + 1, acc => by
    rw [List.replicate_succ, List.foldl_cons, rep_len x n (acc ++ x.cps), Array.size_append]
    show acc.size + x.length + x.length * n = acc.size + x.length * (n + 1)
    rw [Nat.mul_succ]; omega
section
variable {T : Tab} {K : PySem.W.Frag} {H : Hp} {ι κ : List Addr} {S : Sto} {d : D} {Q : VK}
theorem NPost.of {ds : List D} (w : Wd T K H ι κ S) (h : VPost T K ι κ H S (.lst ds) Q) : NPost T K ι κ H S (.lst ds) Q := fun p H' ι' hn e w' q =>
  h (.ref p) H' ι' e w'.unhide (q.rep (w'.dj p List.mem_cons_self) (w.notink hn) w'.mut)
theorem VPost.same (h : VPost T K ι κ H S d Q) (w : Wd T K H ι κ S) {v : V} (r : Rep K H ι κ d v) : Q v H := h v H ι Ext.refl w r
theorem VPost.tup {ds : List D} (h : VPost T K ι κ H S (.tup ds) Q) (w : Wd T K H ι κ S) {vs : List V} (r : RepL K H ι κ ds vs) {p : Addr} (hp : H p = none) {o : Obj} (ho : o.dict = none) : Q (.ref p) (upd H p (.frz o (.tup vs))) := by
  refine h _ _ ι (Ext.fresh w hp) (w.fresh hp) ?_
  simp only [Rep]
  exact ⟨p, vs, rfl, SqF.new ho, RepL.mono (Ext.fresh w hp) w.mut (fun _ z => .inl z) r⟩
theorem VPost.newT {ds : List D} (h : VPost T K ι κ H S (.tup ds) Q) (w : Wd T K H ι κ S) {vs : List V} (r : RepL K H ι κ ds vs) : NewT H vs Q := fun _ _ hp ho => h.tup w r hp ho
theorem NPost.lst {ds : List D} (h : NPost T K ι κ H S (.lst ds) Q) (w : Wd T K H ι κ S) {vs : List V} (r : RepL K H ι κ ds vs) {p : Addr} (hp : H p = none) : Q (.ref p) (upd H p (.lst vs)) :=
  h p _ ι hp (Ext.fresh w hp) (w.hide hp) ⟨vs, upd_same, RepL.mono (Ext.fresh w hp) w.mut (fun a z => (List.mem_cons.mp z).elim (fun e => .inr (by rw [e]; exact hp)) .inl) r⟩
theorem NPost.dic {ds : List (Ky × D)} (h : NPost T K ι κ H S (.dic ds) Q) (w : Wd T K H ι κ S) {vs : List (Ky × V)} (r : RepK K H ι κ ds vs) {p : Addr} (hp : H p = none) : Q (.ref p) (upd H p (.dK vs)) :=
  h p _ ι hp (Ext.fresh w hp) (w.hide hp) ⟨vs, upd_same, RepK.mono (Ext.fresh w hp) w.mut (fun a z => (List.mem_cons.mp z).elim (fun e => .inr (by rw [e]; exact hp)) .inl) r⟩
theorem NPost.dit {ds : List (List Ky × D)} (h : NPost T K ι κ H S (.dit ds) Q) (w : Wd T K H ι κ S) {vs : List (List Ky × V)} (r : RepT K H ι κ ds vs) {p : Addr} (hp : H p = none) : Q (.ref p) (upd H p (.dT vs)) :=
  h p _ ι hp (Ext.fresh w hp) (w.hide hp) ⟨vs, upd_same, RepT.mono (Ext.fresh w hp) w.mut (fun a z => (List.mem_cons.mp z).elim (fun e => .inr (by rw [e]; exact hp)) .inl) r⟩
/-! ### rows of values -/
theorem RepL.length : ∀ {ds : List D} {vs : List V}, RepL K H ι κ ds vs → ds.length = vs.length
  | [], vs, h => by simp only [RepL] at h; rw [h]; rfl
  | d :: ds, vs, h => by
    simp only [RepL] at h
    obtain ⟨v, r, rfl, _, q⟩ := h
    simp [RepL.length q]
theorem RepL.append : ∀ {ds es : List D} {vs ws : List V}, RepL K H ι κ ds vs → RepL K H ι κ es ws → RepL K H ι κ (ds ++ es) (vs ++ ws)
  | [], _, vs, _, h, h' => by simp only [RepL] at h; rw [h]; exact h'
  | d :: ds, _, vs, _, h, h' => by
    simp only [RepL] at h
    obtain ⟨v, r, rfl, q, q'⟩ := h
    simp only [List.cons_append, RepL]
    exact ⟨v, _, rfl, q, RepL.append q' h'⟩
theorem RepL.get : ∀ {ds : List D} {vs : List V} {i : Nat} {d : D}, RepL K H ι κ ds vs → ds[i]? = some d → ∃ v, vs[i]? = some v ∧ Rep K H ι κ d v
  | [], _, _, _, _, e => by simp at e
  | _ :: ds, vs, 0, d, h, e => by
    simp only [RepL] at h
    obtain ⟨v, r, rfl, q, q'⟩ := h
    simp at e; subst e
    exact ⟨v, rfl, q⟩
  | _ :: ds, vs, i + 1, d, h, e => by
    simp only [RepL] at h
    obtain ⟨v, r, rfl, q, q'⟩ := h
    obtain ⟨w, h1, h2⟩ := RepL.get (ds := ds) (vs := r) (i := i) q' (by simpa using e)
    exact ⟨w, by simpa using h1, h2⟩
theorem RepL.set : ∀ {ds : List D} {vs : List V} {d : D} {v : V} (i : Nat), RepL K H ι κ ds vs → Rep K H ι κ d v → RepL K H ι κ (ds.set i d) (vs.set i v)
  | [], vs, _, _, _, h, _ => by simp only [RepL] at h; subst h; simp [RepL]
  | _ :: ds, vs, d, v, 0, h, e => by
    simp only [RepL] at h
    obtain ⟨u, r, rfl, q, q'⟩ := h
    simp only [List.set_cons_zero, RepL]
    exact ⟨v, r, rfl, e, q'⟩
  | _ :: ds, vs, d, v, i + 1, h, e => by
    simp only [RepL] at h
    obtain ⟨u, r, rfl, q, q'⟩ := h
    simp only [List.set_cons_succ, RepL]
    exact ⟨u, _, rfl, q, RepL.set i q' e⟩
theorem RepL.drop : ∀ {ds : List D} {vs : List V} (n : Nat), RepL K H ι κ ds vs → RepL K H ι κ (ds.drop n) (vs.drop n)
  | _, _, 0, h => h
  | [], vs, _ + 1, h => by simp only [RepL] at h; subst h; simp [RepL]
  | _ :: ds, vs, n + 1, h => by
    simp only [RepL] at h
    obtain ⟨u, r, rfl, q, q'⟩ := h
    exact RepL.drop n q'
theorem RepL.take : ∀ {ds : List D} {vs : List V} (n : Nat), RepL K H ι κ ds vs → RepL K H ι κ (ds.take n) (vs.take n)
  | _, _, 0, h => by simp [RepL]
  | [], vs, _ + 1, h => by simp only [RepL] at h; subst h; simp [RepL]
  | _ :: ds, vs, n + 1, h => by
    simp only [RepL] at h
    obtain ⟨u, r, rfl, q, q'⟩ := h
    simp only [List.take_succ_cons, RepL]
    exact ⟨u, _, rfl, q, RepL.take n q'⟩
theorem RepL.reverse {ds : List D} {vs : List V} (h : RepL K H ι κ ds vs) : RepL K H ι κ ds.reverse vs.reverse := by
  induction ds generalizing vs with
  | nil => simp only [RepL] at h; subst h; simp [RepL]
  | cons d ds ih =>
    simp only [RepL] at h
    obtain ⟨u, r, rfl, q, q'⟩ := h
    rw [List.reverse_cons, List.reverse_cons]
    refine RepL.append (ih q') ?_
    simp only [RepL]
    exact ⟨u, [], rfl, q, rfl⟩
theorem RepL.cut {ds : List D} {vs : List V} (lo hi : Option Int) (h : RepL K H ι κ ds vs) : RepL K H ι κ (cut ds lo hi) (cutV vs lo hi) := by
  unfold MP.cut cutV
  rw [h.length]
  exact (h.drop _).take _
theorem RepL.repl {ds : List D} {vs : List V} (h : RepL K H ι κ ds vs) : ∀ n : Nat, RepL K H ι κ (List.replicate n ds).flatten (List.replicate n vs).flatten
  | 0 => by simp [RepL]
  | n + 1 => by
    simp only [List.replicate_succ, List.flatten_cons]
    exact RepL.append h (RepL.repl h n)
theorem RepL.ints : ∀ ns : List Int, RepL K H ι κ (ns.map D.int) (ns.map V.int)
  | [] => by simp [RepL]
  | n :: ns => by
    simp only [List.map_cons, RepL]
    exact ⟨_, _, rfl, by simp [Rep], RepL.ints ns⟩
theorem intsOf_rep : ∀ {ds : List D} {vs : List V} {ns : List Int}, intsOf ds = some ns → RepL K H ι κ ds vs → vs = ns.map V.int ∧ ds = ns.map D.int
  | [], vs, ns, e, h => by
    simp only [intsOf, Option.some.injEq] at e
    simp only [RepL] at h
    subst e h; exact ⟨rfl, rfl⟩
  | d :: ds, vs, ns, e, h => by
    simp only [RepL] at h
    obtain ⟨u, r, rfl, q, q'⟩ := h
    cases d with
    | int i =>
      simp only [intsOf, Option.map_eq_some_iff] at e
      obtain ⟨ms, e, rfl⟩ := e
      simp only [Rep] at q
      obtain ⟨e1, e2⟩ := intsOf_rep e q'
      exact ⟨by rw [q, e1]; rfl, by rw [e2]; rfl⟩
    | _ => simp [intsOf] at e
theorem blsOf_rep : ∀ {ds : List D} {vs : List V} {ns : List Bool}, blsOf ds = some ns → RepL K H ι κ ds vs → vs = ns.map V.bl
  | [], vs, ns, e, h => by
    simp only [blsOf, Option.some.injEq] at e
    simp only [RepL] at h
    subst e h; rfl
  | d :: ds, vs, ns, e, h => by
    simp only [RepL] at h
    obtain ⟨u, r, rfl, q, q'⟩ := h
    cases d with
    | bl i =>
      simp only [blsOf, Option.map_eq_some_iff] at e
      obtain ⟨ms, e, rfl⟩ := e
      simp only [Rep] at q
      rw [q, blsOf_rep e q']; rfl
    | _ => simp [blsOf] at e
theorem strsOf_rep : ∀ {ds : List D} {vs : List V} {ns : List Str}, strsOf ds = some ns → RepL K H ι κ ds vs → vs = ns.map V.str ∧ ∀ x ∈ ns, PyData.strOk x = true
  | [], vs, ns, e, h => by
    simp only [strsOf, Option.some.injEq] at e
    simp only [RepL] at h
    subst e h; exact ⟨rfl, by simp⟩
  | d :: ds, vs, ns, e, h => by
    simp only [RepL] at h
    obtain ⟨u, r, rfl, q, q'⟩ := h
    cases d with
    | str i =>
      simp only [strsOf, Option.map_eq_some_iff] at e
      obtain ⟨ms, e, rfl⟩ := e
      simp only [Rep] at q
      obtain ⟨e1, e2⟩ := strsOf_rep e q'
      refine ⟨by rw [q.1, e1]; rfl, fun x hx => ?_⟩
      rcases List.mem_cons.mp hx with rfl | hx
      · exact q.2
      · exact e2 x hx
    | _ => simp [strsOf] at e
theorem RepL.strs : ∀ {ns : List Str}, (∀ x ∈ ns, PyData.strOk x = true) → RepL K H ι κ (ns.map D.str) (ns.map V.str)
  | [], _ => by simp [RepL]
  | n :: ns, h => by
    simp only [List.map_cons, RepL]
    exact ⟨_, _, rfl, by simp [Rep, h n List.mem_cons_self], RepL.strs fun x hx => h x (List.mem_cons_of_mem _ hx)⟩
end
/-! ### texts -/
theorem strOk_append {x y : Str} (hx : PyData.strOk x = true) (hy : PyData.strOk y = true) : PyData.strOk (x ++ y) = true := by
  unfold PyData.strOk at *
  show (x.cps ++ y.cps).all _ = true
  rw [Array.all_append, hx, hy]; rfl
theorem strOk_rep {x : Str} (hx : PyData.strOk x = true) : ∀ (n : Nat) {acc : Array Nat}, PyData.strOk ⟨acc⟩ = true → PyData.strOk ⟨(List.replicate n x.cps).foldl (· ++ ·) acc⟩ = true
  | 0, acc, h => h
  | n + 1, acc, h => by
    rw [List.replicate_succ, List.foldl_cons]
    exact strOk_rep hx n (strOk_append (x := ⟨acc⟩) h hx)
theorem strOk_mem {x : Str} (hx : PyData.strOk x = true) {c : Nat} (hc : c ∈ x.cps.toList) : c < 0x110000 := by
  unfold PyData.strOk at hx
  have := Array.all_eq_true'.mp hx c (by simpa using hc)
  simpa using this
theorem strOk_of {l : List Nat} (h : ∀ c ∈ l, c < 0x110000) : PyData.strOk ⟨l.toArray⟩ = true := by
  unfold PyData.strOk
  simp only [List.all_toArray, List.all_eq_true, decide_eq_true_eq]
  exact h
/-! ### binary operators -/
section
variable {X : Cx} {T : Tab}
def rOp (T : Tab) (K : PySem.W.Frag) (o : Operator) : R2 := fun v u H Q => ∃ ι κ S x y z, Wd T K H ι κ S ∧ Rep K H ι κ x v ∧ Rep K H ι κ y u ∧ opD o x y = some z ∧ VPost T K ι κ H S z Q
/-- lists: a new one -/
def rOpN (T : Tab) (K : PySem.W.Frag) (o : Operator) : R2 := fun v u H Q => ∃ ι κ S x y z xs, Wd T K H ι κ S ∧ Rep K H ι κ x v ∧ Rep K H ι κ y u ∧ x = .lst xs ∧ opD o x y = some z ∧ NPost T K ι κ H S z Q
theorem op_soundN (o : Operator) : OpR X (binaryOp o) (rOpN T X.K o) := by
  intro pins s σ H v u vv uu Q I rv ru h
  obtain ⟨ι, κ, S, x, y, z, xs, w, rx, ry, ex, ez, q⟩ := h
  subst ex
  simp only [Rep] at rx
  obtain ⟨a, vs, rfl, ha, hi, hk, rl⟩ := rx
  cases o with
  | Add =>
    cases y with
    | lst ys =>
      simp only [opD, Option.ite_none_right_eq_some, Option.some.injEq] at ez
      obtain ⟨hl, rfl⟩ := ez
      simp only [Rep] at ry
      obtain ⟨b, ws, rfl, hb, hi', hk', rl'⟩ := ry
      refine op_cat pins s σ H _ _ _ _ Q I rv ru ⟨a, b, vs, ws, rfl, rfl, ha, hb, ?_, fun p hp => q.lst w (rl.append rl') hp⟩
      rw [← rl.length, ← rl'.length]
      exact LIM_line hl
    | _ => simp [opD] at ez
  | Mult =>
    cases y with
    | int j =>
      simp only [opD, Option.ite_none_right_eq_some, Option.some.injEq] at ez
      obtain ⟨⟨h0, h1, h2⟩, rfl⟩ := ez
      simp only [Rep] at ry
      subst ry
      refine op_rep pins s σ H _ _ _ _ Q I rv ru ⟨a, j, vs, rfl, rfl, ha, by omega, by omega, ?_, fun p hp => q.lst w (rl.repl _) hp⟩
      rw [← rl.length]
      refine LIM_line ?_
      unfold LIM
      have h3 : j.toNat ≤ 1000 := by omega
      calc xs.length * j.toNat ≤ 1000 * 1000 := Nat.mul_le_mul h2 h3
        _ = 1000000 := by decide
    | _ => simp [opD] at ez
  | _ => simp [opD] at ez
theorem opD_lst {o : Operator} {xs : List D} {y z : D} (h : opD o (.lst xs) y = some z) : ∃ zs, z = .lst zs := by
  cases o <;> cases y <;> simp [opD] at h
  · exact ⟨_, h.2.symm⟩
  · exact ⟨_, h.2.symm⟩
theorem op_sound (o : Operator) : OpR X (binaryOp o) (rOp T X.K o) := by
  intro pins s σ H v u vv uu Q I rv ru h
  obtain ⟨ι, κ, S, x, y, z, w, rx, ry, ez, q⟩ := h
  have ri : ∀ i : Int, Rep X.K H ι κ (.int i) (.int i) := fun i => by simp [Rep]
  cases x with
  | lst xs => exact op_soundN (T := T) o pins s σ H v u vv uu Q I rv ru ⟨ι, κ, S, _, y, z, xs, w, rx, ry, rfl, ez, by obtain ⟨zs, rfl⟩ := opD_lst ez; exact NPost.of w q⟩
  | int i =>
    cases y with
    | int j =>
      simp only [Rep] at rx ry
      subst rx ry
      cases o with
      | Add =>
        simp only [opD, Option.some.injEq] at ez; subst ez
        exact op_add pins s σ H _ _ _ _ Q I rv ru ⟨i, j, rfl, rfl, q.same w (ri _)⟩
      | Sub =>
        simp only [opD, Option.some.injEq] at ez; subst ez
        exact op_sub pins s σ H _ _ _ _ Q I rv ru ⟨i, j, rfl, rfl, q.same w (ri _)⟩
      | Mult =>
        simp only [opD, Option.ite_none_right_eq_some, Option.some.injEq] at ez
        obtain ⟨hb, rfl⟩ := ez
        refine op_mul pins s σ H _ _ _ _ Q I rv ru ⟨i, j, rfl, rfl, ?_, q.same w (ri _)⟩
        unfold CMul
        unfold BIG at hb
        have e : (2 : Int) ^ 64 = 18446744073709551616 := by decide
        rw [e]; exact hb
      | FloorDiv =>
        simp only [opD, Option.ite_none_right_eq_some, Option.some.injEq] at ez
        obtain ⟨hb, rfl⟩ := ez
        exact op_fdivN pins s σ H _ _ _ _ Q I rv ru ⟨i, j, rfl, rfl, hb, q.same w (ri _)⟩
      | Mod =>
        simp only [opD, Option.ite_none_right_eq_some, Option.some.injEq] at ez
        obtain ⟨hb, rfl⟩ := ez
        exact op_modN pins s σ H _ _ _ _ Q I rv ru ⟨i, j, rfl, rfl, hb, q.same w (ri _)⟩
      | Pow =>
        simp only [opD, Option.ite_none_right_eq_some, Option.some.injEq] at ez
        obtain ⟨⟨h1, h2, h3⟩, rfl⟩ := ez
        refine op_pow pins s σ H _ _ _ _ Q I rv ru ⟨i, j, rfl, rfl, ⟨h1, h2, ?_⟩, q.same w (ri _)⟩
        have e : (2 : Nat) ^ 64 = 18446744073709551616 := by decide
        rw [e]; exact h3
      | _ => simp [opD] at ez
    | _ => cases o <;> simp [opD] at ez
  | str x =>
    cases y with
    | str y =>
      simp only [Rep] at rx ry
      obtain ⟨rfl, hx⟩ := rx
      obtain ⟨rfl, hy⟩ := ry
      cases o with
      | Add =>
        simp only [opD, Option.ite_none_right_eq_some, Option.some.injEq] at ez
        obtain ⟨hb, rfl⟩ := ez
        exact op_add_str pins s σ H _ _ _ _ Q I rv ru ⟨x, y, rfl, rfl, LIM_line hb, q.same w (by simp [Rep, strOk_append hx hy])⟩
      | _ => simp [opD] at ez
    | int j =>
      simp only [Rep] at rx ry
      obtain ⟨rfl, hx⟩ := rx
      subst ry
      cases o with
      | Mult =>
        simp only [opD, Option.ite_none_right_eq_some, Option.some.injEq] at ez
        obtain ⟨⟨h1, h2, h3, h4⟩, rfl⟩ := ez
        obtain ⟨t1, rfl⟩ := rv
        obtain ⟨t2, rfl⟩ := ru
        have hone : (j == 1 || x.length == 0) = false := by
          rw [beq_false_of_ne (by omega), beq_false_of_ne (by omega)]; rfl
        have hmul : (x.length : Int) * j ≤ 10000 := by
          have : (x.length : Int) * j ≤ 100 * 100 := Int.mul_le_mul (by omega) h2 (by omega) (by omega)
          omega
        have hmulN : x.length * j.toNat ≤ 10000 := by
          have e : ((x.length * j.toNat : Nat) : Int) = (x.length : Int) * j := by
            rw [Int.natCast_mul, Int.toNat_of_nonneg (by omega)]
          omega
        have hlen := rep_len x j.toNat #[]
        refine PySem.P.mul_str (by rw [decide_eq_false (by omega), decide_eq_false (by omega)]; rfl) (fun _ _ => Int.not_lt.mpr (Int.le_ediv_of_mul_le (by omega) (Int.le_trans hmul (by decide)))) (fun _ _ => ?_) ?_
        · show decide (x.length * j.toNat > sizeLine) = false
          exact decide_eq_false (by rw [sizeLine_eq]; omega)
        · rw [if_neg (by omega), hone]
          refine ⟨?_, .str _, H, I.kept (t' := s.toks + 1) (fun _ _ e => e), ⟨_, rfl⟩, q.same w (by simp only [Rep]; exact ⟨trivial, strOk_rep hx _ (by decide +kernel)⟩)⟩
          show (List.foldl (· ++ ·) #[] (List.replicate j.toNat x.cps)).size ≤ sizeLine
          rw [hlen, sizeLine_eq]
          simp; omega
      | _ => simp [opD] at ez
    | _ => cases o <;> simp [opD] at ez
  | tup xs =>
    cases y with
    | tup ys =>
      cases o with
      | Add =>
        simp only [opD, Option.ite_none_right_eq_some, Option.some.injEq] at ez
        obtain ⟨hb, rfl⟩ := ez
        have rx' := rx
        have ry' := ry
        simp only [Rep] at rx ry
        obtain ⟨a, vs, rfl, ha, rl⟩ := rx
        obtain ⟨b, ws, rfl, hb', rl'⟩ := ry
        refine op_catF pins s σ H _ _ _ _ Q I rv ru ⟨a, b, vs, ws, rfl, rfl, ha.1, hb'.1, by rw [← rl.length, ← rl'.length]; exact LIM_line hb, fun e => ?_, fun _ e => ?_, fun _ _ => q.newT w (rl.append rl')⟩
        · have : xs = [] := List.eq_nil_of_length_eq_zero (by rw [rl.length, e]; rfl)
          subst this
          exact q.same w ry'
        · have : ys = [] := List.eq_nil_of_length_eq_zero (by rw [rl'.length, e]; rfl)
          subst this
          rw [List.append_nil] at q
          exact q.same w rx'
      | _ => simp [opD] at ez
    | int j =>
      cases o with
      | Mult =>
        simp only [opD, Option.ite_none_right_eq_some, Option.some.injEq] at ez
        obtain ⟨⟨g1, g2, g3, g4⟩, rfl⟩ := ez
        simp only [Rep] at rx ry
        obtain ⟨a, vs, rfl, ha, rl⟩ := rx
        subst ry
        exact op_repF pins s σ H _ _ _ _ Q I rv ru ⟨a, j, vs, rfl, rfl, ha.1, by rw [← rl.length]; exact g3, g1, g2, by rw [← rl.length]; exact g4, q.newT w (rl.repl _)⟩
      | _ => simp [opD] at ez
    | _ => cases o <;> simp [opD] at ez
  | _ => cases o <;> simp [opD] at ez
end
end MP
end

section
set_option Elab.async false
set_option linter.all false
set_option maxRecDepth 100000
/-! MpE: comparisons by values. -/
namespace MP
open PySem PySem.Spec PyProof.Rows L2
mutual
def py : D → PyData
  | .non => .none
  | .bl b => .bool b
  | .int i => .int i
  | .str x => .str x
  | .tup xs => .tuple (pyL xs)
  | .lst xs => .list (pyL xs)
  | _ => .none
def pyL : List D → List PyData
  | [] => []
  | x :: xs => py x :: pyL xs
end
section
variable {K : PySem.W.Frag} {H : Hp} {ι κ : List Addr}
mutual
theorem dp_of : ∀ {d : D} {v : V} {n : Nat}, Rep K H ι κ d v → shp d n = true → Dp K H v (py d) ∧ (py d).canLay0 = true ∧ (py d).depth ≤ n
  | .non, v, n, h, _ => by simp only [Rep] at h; subst h; exact ⟨.non, by simp [py, PyData.canLay0], by simp [py, PyData.depth]⟩
  | .bl b, v, n, h, _ => by simp only [Rep] at h; subst h; exact ⟨.bl b, by simp [py, PyData.canLay0], by simp [py, PyData.depth]⟩
  | .int b, v, n, h, _ => by simp only [Rep] at h; subst h; exact ⟨.int b, by simp [py, PyData.canLay0], by simp [py, PyData.depth]⟩
  | .str b, v, n, h, _ => by simp only [Rep] at h; obtain ⟨rfl, h⟩ := h; exact ⟨.str b, by simp [py, PyData.canLay0, h], by simp [py, PyData.depth]⟩
  | .tup xs, v, 0, h, q => by simp [shp] at q
  | .tup xs, v, n + 1, h, q => by
    simp only [Rep] at h
    obtain ⟨a, vs, rfl, s, r⟩ := h
    obtain ⟨h1, h2, h3⟩ := dp_ofL r (by simpa [shp] using q)
    exact ⟨.tup s.1 h1, by simpa [py, PyData.canLay0] using h2, by simpa [py, PyData.depth] using h3⟩
  | .lst xs, v, 0, h, q => by simp [shp] at q
  | .lst xs, v, n + 1, h, q => by
    simp only [Rep] at h
    obtain ⟨a, vs, rfl, s, _, _, r⟩ := h
    obtain ⟨h1, h2, h3⟩ := dp_ofL r (by simpa [shp] using q)
    exact ⟨.lst (.inl (.inl s)) h1, by simpa [py, PyData.canLay0] using h2, by simpa [py, PyData.depth] using h3⟩
  | .rol _, _, _, _, q | .dic _, _, _, _, q | .dit _, _, _, _, q | .ref _, _, _, _, q => by simp [shp] at q
theorem dp_ofL : ∀ {d : List D} {v : List V} {n : Nat}, RepL K H ι κ d v → shpL d n = true → DpAll K H v (pyL d) ∧ PyData.canLayAll0 (pyL d) = true ∧ PyData.depthAll (pyL d) ≤ n
  | [], v, n, h, _ => by simp only [RepL] at h; subst h; exact ⟨.nil, by simp [pyL, PyData.canLayAll0], by simp [pyL, PyData.depthAll]⟩
  | d :: ds, v, n, h, q => by
    simp only [RepL] at h
    obtain ⟨u, r, rfl, h, h'⟩ := h
    simp only [shpL, Bool.and_eq_true] at q
    obtain ⟨a1, a2, a3⟩ := dp_of h q.1
    obtain ⟨b1, b2, b3⟩ := dp_ofL h' q.2
    exact ⟨.cons a1 b1, by simp [pyL, PyData.canLayAll0, a2, b2], by simp only [pyL, PyData.depthAll]; omega⟩
end
end
mutual
theorem eqv_py : ∀ {d e : D} {n m : Nat}, shp d n = true → shp e m = true → eqv d e = PyData.eqv (py d) (py e)
  | .non, e, n, m, _, h => by cases e <;> simp_all [eqv, py, PyData.eqv, shp]
  | .bl _, e, n, m, _, h => by cases e <;> simp_all [eqv, py, PyData.eqv, shp]
  | .int _, e, n, m, _, h => by cases e <;> simp_all [eqv, py, PyData.eqv, shp]
  | .str _, e, n, m, _, h => by cases e <;> simp_all [eqv, py, PyData.eqv, shp]
  | .tup xs, e, 0, m, q, h => by simp [shp] at q
  | .lst xs, e, 0, m, q, h => by simp [shp] at q
  | .tup xs, e, n + 1, m, q, h => by
    cases e with
    | tup ys =>
      cases m with
      | zero => simp [shp] at h
      | succ m => simp only [eqv, py, PyData.eqv]; exact eqv_pyL (by simpa [shp] using q) (by simpa [shp] using h)
    | _ => simp_all [eqv, py, PyData.eqv, shp]
  | .lst xs, e, n + 1, m, q, h => by
    cases e with
    | lst ys =>
      cases m with
      | zero => simp [shp] at h
      | succ m => simp only [eqv, py, PyData.eqv]; exact eqv_pyL (by simpa [shp] using q) (by simpa [shp] using h)
    | _ => simp_all [eqv, py, PyData.eqv, shp]
  | .rol _, _, _, _, q, _ | .dic _, _, _, _, q, _ | .dit _, _, _, _, q, _ | .ref _, _, _, _, q, _ => by simp [shp] at q
theorem eqv_pyL : ∀ {d e : List D} {n m : Nat}, shpL d n = true → shpL e m = true → eqvL d e = PyData.eqvAll (pyL d) (pyL e)
  | [], e, n, m, _, h => by cases e <;> simp [eqvL, pyL, PyData.eqvAll]
  | d :: ds, e, n, m, q, h => by
    cases e with
    | nil => simp [eqvL, pyL, PyData.eqvAll]
    | cons y ys =>
      simp only [shpL, Bool.and_eq_true] at q h
      simp only [eqvL, pyL, PyData.eqvAll]
      rw [eqv_py q.1 h.1, eqv_pyL q.2 h.2]
end
theorem flat_rep {K : PySem.W.Frag} {H : Hp} {ι κ : List Addr} {d : D} {v : V} (h : Rep K H ι κ d v) (f : flat d = true) : flatV v = true := by
  cases d <;> simp [flat] at f <;> simp only [Rep] at h <;> first | (subst h; rfl) | (obtain ⟨rfl, _⟩ := h; rfl)
theorem eqv_flat {K : PySem.W.Frag} {H : Hp} {ι κ : List Addr} {d e : D} {v u : V} (h : Rep K H ι κ d v) (h' : Rep K H ι κ e u) (f : flat d = true) (f' : flat e = true) : eqv d e = eqV v u := by
  cases d <;> simp [flat] at f <;> cases e <;> simp [flat] at f' <;> simp only [Rep] at h h' <;> (first | subst h | (obtain ⟨rfl, _⟩ := h)) <;> (first | subst h' | (obtain ⟨rfl, _⟩ := h')) <;> simp [eqv, eqV]
theorem inL_flat {K : PySem.W.Frag} {H : Hp} {ι κ : List Addr} {x : D} {v : V} (h : Rep K H ι κ x v) (f : flat x = true) : ∀ {ds : List D} {vs : List V}, RepL K H ι κ ds vs → ds.all flat = true → vs.all flatV = true ∧ inL x ds = inV v vs
  | [], vs, r, _ => by simp only [RepL] at r; subst r; exact ⟨rfl, rfl⟩
  | d :: ds, vs, r, q => by
    simp only [RepL] at r
    obtain ⟨u, t, rfl, r, r'⟩ := r
    rw [List.all_cons, Bool.and_eq_true] at q
    obtain ⟨h1, h2⟩ := inL_flat h f r' q.2
    refine ⟨by rw [List.all_cons, flat_rep r q.1, h1]; rfl, ?_⟩
    show (eqv d x || inL x ds) = (eqV u v || inV v t)
    rw [eqv_flat r h q.1 f, h2]
theorem inL_py {x : D} {n m : Nat} (h : shp x n = true) : ∀ {ds : List D}, shpL ds m = true → inL x ds = (pyL ds).any fun z => PyData.eqv z (py x)
  | [], _ => rfl
  | d :: ds, q => by
    simp only [shpL, Bool.and_eq_true] at q
    show (eqv d x || inL x ds) = _
    rw [eqv_py q.1 h, inL_py h q.2]; rfl
theorem ky_rep {K : PySem.W.Frag} {H : Hp} {ι κ : List Addr} {d : D} {v : V} {k : Ky} (h : Rep K H ι κ d v) (e : d.ky = some k) : v = kV k ∧ (∀ x, k = .inr x → PyData.strOk x = true) := by
  cases d <;> simp [D.ky] at e <;> subst e <;> simp only [Rep] at h
  · exact ⟨h, fun x q => nomatch q⟩
  · exact ⟨h.1, fun x q => by cases q; exact h.2⟩
theorem kys_rep {K : PySem.W.Frag} {H : Hp} {ι κ : List Addr} : ∀ {ds : List D} {vs : List V} {ks : List Ky}, RepL K H ι κ ds vs → kys ds = some ks → vs = ks.map kV
  | [], vs, ks, h, e => by simp only [RepL] at h; simp [kys] at e; subst h e; rfl
  | d :: ds, vs, ks, h, e => by
    simp only [RepL] at h
    obtain ⟨u, r, rfl, q, q'⟩ := h
    unfold kys at e
    cases e1 : d.ky with
    | none => rw [e1] at e; simp at e
    | some k =>
      cases e2 : kys ds with
      | none => rw [e1, e2] at e; simp at e
      | some ks' =>
        rw [e1, e2] at e
        simp at e; subst e
        rw [(ky_rep q e1).1, kys_rep q' e2]; rfl
theorem vget_rep {K : PySem.W.Frag} {H : Hp} {ι κ : List Addr} {k : Ky} : ∀ {ds : List (Ky × D)} {vs : List (Ky × V)}, RepK K H ι κ ds vs → (∀ d, vget ds k = some d → ∃ v, valV vs k = some v ∧ Rep K H ι κ d v) ∧ (vget ds k = none → valV vs k = none)
  | [], vs, h => by simp only [RepK] at h; subst h; exact ⟨fun d e => by simp [vget] at e, fun _ => rfl⟩
  | (j, d) :: ds, vs, h => by
    simp only [RepK] at h
    obtain ⟨u, r, rfl, q, q', ok⟩ := h
    obtain ⟨h1, h2⟩ := vget_rep (k := k) q'
    by_cases e : j = k
    · subst e
      refine ⟨fun d' e => ?_, fun e => ?_⟩
      · simp [vget] at e; subst e
        exact ⟨u, valV_pos rfl, q⟩
      · simp [vget] at e
    · refine ⟨fun d' e' => ?_, fun e' => ?_⟩
      · have : vget ds k = some d' := by simpa [vget, List.find?_cons, e] using e'
        obtain ⟨v, a, b⟩ := h1 d' this
        exact ⟨v, by rw [valV_neg (by exact e)]; exact a, b⟩
      · rw [valV_neg (by exact e)]
        exact h2 (by simpa [vget, List.find?_cons, e] using e')
theorem vgetT_rep {K : PySem.W.Frag} {H : Hp} {ι κ : List Addr} {k : List Ky} : ∀ {ds : List (List Ky × D)} {vs : List (List Ky × V)}, RepT K H ι κ ds vs → (∀ d, vget ds k = some d → ∃ v, valV vs k = some v ∧ Rep K H ι κ d v) ∧ (vget ds k = none → valV vs k = none)
  | [], vs, h => by simp only [RepT] at h; subst h; exact ⟨fun d e => by simp [vget] at e, fun _ => rfl⟩
  | (j, d) :: ds, vs, h => by
    simp only [RepT] at h
    obtain ⟨u, r, rfl, q, q'⟩ := h
    obtain ⟨h1, h2⟩ := vgetT_rep (k := k) q'
    by_cases e : j = k
    · subst e
      refine ⟨fun d' e => ?_, fun e => ?_⟩
      · simp [vget] at e; subst e
        exact ⟨u, valV_pos rfl, q⟩
      · simp [vget] at e
    · refine ⟨fun d' e' => ?_, fun e' => ?_⟩
      · have : vget ds k = some d' := by simpa [vget, List.find?_cons, e] using e'
        obtain ⟨v, a, b⟩ := h1 d' this
        exact ⟨v, by rw [valV_neg (by exact e)]; exact a, b⟩
      · rw [valV_neg (by exact e)]
        exact h2 (by simpa [vget, List.find?_cons, e] using e')
/-- a dict asked by a key: a value or an object of the store -/
theorem get1_rep {T : Tab} {K : PySem.W.Frag} {H : Hp} {ι κ : List Addr} {S : Sto} {d k : D} {v u : V} {r : Option D} (w : Wd T K H ι κ S) (rd : Rep K H ι κ d v) (rk : Rep K H ι κ k u) (e : get1D d k S = some r) :
    ∃ a o, v = .ref a ∧ DGet H a u o ∧ (∀ x, r = some x → ∃ y, o = some y ∧ Rep K H ι κ x y) ∧ (r = none → o = none) := by
  have flatK : ∀ {a : Addr} {kvs : List (Ky × D)} {vs : List (Ky × V)} (_ : Rd H a (.dK vs)) (_ : RepK K H ι κ kvs vs) (_ : (k.ky.map fun k => vget kvs k) = some r), ∃ o, DGet H a u o ∧ (∀ x, r = some x → ∃ y, o = some y ∧ Rep K H ι κ x y) ∧ (r = none → o = none) := by
    intro a kvs vs h1 h2 h3
    obtain ⟨kk, e1, e2⟩ := Option.map_eq_some_iff.mp h3
    obtain ⟨h4, h5⟩ := vget_rep (k := kk) h2
    refine ⟨valV vs kk, .inl ⟨vs, kk, h1, (ky_rep rk e1).1, rfl⟩, fun x hx => h4 x (by rw [e2, hx]), fun hx => h5 (by rw [e2, hx])⟩
  cases d with
  | dic kvs =>
    simp only [Rep] at rd
    obtain ⟨a, od, vs, rfl, h1, h2⟩ := rd
    obtain ⟨o, h⟩ := flatK (.inr ⟨od, h1⟩) h2 (by simpa [get1D] using e)
    exact ⟨a, o, rfl, h⟩
  | ref n =>
    simp only [Rep] at rd
    obtain ⟨a, rfl, ha⟩ := rd
    simp only [get1D] at e
    cases hs : S.get n with
    | none => rw [hs] at e; simp at e
    | some ob =>
      rw [hs] at e
      cases ob with
      | dic kvs =>
        obtain ⟨vs, h1, h2⟩ := w.ob n a _ ha hs
        obtain ⟨o, h⟩ := flatK (.inl h1) h2 (by simpa using e)
        exact ⟨a, o, rfl, h⟩
      | dit kvs => simp [D.tky] at e
      | _ => simp at e
  | dit kvs => simp [get1D, D.tky] at e
  | _ => simp [get1D] at e
theorem tky_none (d : D) : d.tky = none := rfl
theorem in_get1 {x y : D} {S : Sto} {b : Bool} (h : inD x y S = some b) (hd : isD y S = true) : ∃ r, get1D y x S = some r ∧ b = r.isSome := by
  cases y with
  | dic kvs =>
    simp only [inD, Option.map_eq_some_iff] at h
    obtain ⟨k, e, rfl⟩ := h
    exact ⟨_, by simp [get1D, e], rfl⟩
  | ref n =>
    simp only [inD, isD] at h hd
    cases hs : S.get n with
    | none => rw [hs] at h; simp at h
    | some ob =>
      rw [hs] at h hd
      cases ob with
      | dic kvs =>
        simp only [Option.map_eq_some_iff] at h
        obtain ⟨k, e, rfl⟩ := h
        exact ⟨_, by simp [get1D, hs, e], rfl⟩
      | dit kvs => simp [D.tky] at h
      | _ => simp at hd
  | dit kvs => simp [inD, D.tky] at h
  | _ => simp [isD] at hd
/-! ### the rules -/
section
variable {X : Cx} {T : Tab}
/-- in: dicts -/
def rInDict (neg : Bool) : R2 := fun x y H Q => ∃ a o, y = .ref a ∧ DGet H a x o ∧ Q (.bl (if neg then !o.isSome else o.isSome)) H
theorem op_inDict (hu : X.A.units + 1 < cLine) : OpR X (compareOp .In) (rInDict false) := by
  intro pins s σ H x y v u Q I rx ry h
  obtain ⟨a, o, rfl, g, q⟩ := h
  cases (show u = Value.ref a from ry)
  exact d_in hu I g rx fun s3 I3 => ⟨.bl o.isSome, H, I3, rfl, q⟩
theorem op_notInDict (hu : X.A.units + 1 < cLine) : OpR X (compareOp .NotIn) (rInDict true) := by
  intro pins s σ H x y v u Q I rx ry h
  obtain ⟨a, o, rfl, g, q⟩ := h
  cases (show u = Value.ref a from ry)
  exact d_notIn hu I g rx fun s3 I3 => ⟨.bl (!o.isSome), H, I3, rfl, q⟩
def rCmp (T : Tab) (K : PySem.W.Frag) (o : CmpOp) : R2 := fun v u H Q => ∃ ι κ S x y b, Wd T K H ι κ S ∧ Rep K H ι κ x v ∧ Rep K H ι κ y u ∧ cmpD o x y S = some b ∧ Q (.bl b) H
theorem cps1 {w : Str} {c : Nat} (h : w.cps.toList = [c]) : w = ⟨#[c]⟩ := by
  obtain ⟨a⟩ := w
  have : a = #[c] := by
    have := congrArg List.toArray h
    simpa using this
  rw [this]
/-- what in asks, both ways -/
theorem in_sound (hu : X.A.units + 65 < cLine) (neg : Bool) {H : Hp} {ι κ : List Addr} {S : Sto} {x y : D} {v u : V} {b : Bool} {pins : List (Addr × Obj)} {s : Shared} {σ : L2.St} {vv uu : Value} {Q : VK}
    (w : Wd T X.K H ι κ S) (rx : Rep X.K H ι κ x v) (ry : Rep X.K H ι κ y u) (e : inD x y S = some b) (I : L2.Inv X pins σ H s) (rv : RelV v vv) (ru : RelV u uu) (q : Q (.bl (if neg then !b else b)) H) :
    wpAny (model X.prog X.w) X.A (compareOp (if neg then .NotIn else .In) vv uu) (EP X pins σ Q) X.xe s := by
  have dict : isD y S = true → wpAny (model X.prog X.w) X.A (compareOp (if neg then .NotIn else .In) vv uu) (EP X pins σ Q) X.xe s := fun hd => by
    obtain ⟨r, h1, h2⟩ := in_get1 e hd
    obtain ⟨a, o, rfl, g, h3, h4⟩ := get1_rep w ry rx h1
    have e2 : o.isSome = b := by
      rw [h2]
      cases r with
      | none => rw [h4 rfl]; rfl
      | some z => obtain ⟨y', hy, _⟩ := h3 z rfl; rw [hy]; rfl
    cases neg with
    | false => exact op_inDict (by omega) pins s σ H _ _ _ _ Q I rv ru ⟨a, o, rfl, g, by rw [e2]; exact q⟩
    | true => exact op_notInDict (by omega) pins s σ H _ _ _ _ Q I rv ru ⟨a, o, rfl, g, by rw [e2]; exact q⟩
  have seq : ∀ {a : Addr} {ds : List D} {vs : List V} (_ : SqL X.K H a vs ∨ SqT X.K H a vs) (_ : RepL X.K H ι κ ds vs) (_ : flat x = true) (_ : ds.all flat = true) (_ : inL x ds = b) (_ : u = .ref a),
      wpAny (model X.prog X.w) X.A (compareOp (if neg then .NotIn else .In) vv uu) (EP X pins σ Q) X.xe s := fun {a ds vs} h1 h2 h3 h4 h5 h6 => by
    subst h6
    obtain ⟨h7, h8⟩ := inL_flat rx h3 h2 h4
    rw [h5] at h8
    cases neg with
    | false => exact op_in_seq pins s σ H _ _ _ _ Q I rv ru ⟨a, vs, rfl, h1, flat_rep rx h3, h7, by rw [← h8]; exact q⟩
    | true => exact op_notIn_seq pins s σ H _ _ _ _ Q I rv ru ⟨a, vs, rfl, h1, flat_rep rx h3, h7, by rw [← h8]; exact q⟩
  cases y with
  | str z =>
    cases x with
    | str t =>
      simp only [inD] at e
      simp only [Rep] at rx ry
      obtain ⟨rfl, _⟩ := rx
      obtain ⟨rfl, _⟩ := ry
      split at e
      · rename_i c hc
        simp only [Option.some.injEq] at e
        have := cps1 hc
        subst this
        cases neg with
        | false => exact op_in_sign pins s σ H _ _ _ _ Q I rv ru ⟨c, z, rfl, rfl, by rw [e]; exact q⟩
        | true => exact op_notIn_sign pins s σ H _ _ _ _ Q I rv ru ⟨c, z, rfl, rfl, by rw [e]; exact q⟩
      · cases e
    | _ => simp [inD] at e
  | tup ds =>
    simp only [inD, Option.ite_none_right_eq_some, Bool.and_eq_true, Option.some.injEq] at e
    obtain ⟨⟨f1, f2⟩, e⟩ := e
    simp only [Rep] at ry
    obtain ⟨a, vs, rfl, h1, h2⟩ := ry
    exact seq (.inr h1.1) h2 f1 f2 e rfl
  | lst ds =>
    have ry' := ry
    simp only [Rep] at ry
    obtain ⟨a, vs, rfl, h1, _, _, h2⟩ := ry
    simp only [inD] at e
    by_cases hf : (flat x && ds.all flat) = true
    · rw [if_pos hf] at e
      rw [Bool.and_eq_true] at hf
      exact seq (.inl (.inl (.inl h1))) h2 hf.1 hf.2 (by simpa using e) rfl
    · rw [if_neg hf] at e
      simp only [Option.ite_none_right_eq_some, Bool.and_eq_true, Option.some.injEq] at e
      obtain ⟨⟨f1, f2⟩, e⟩ := e
      obtain ⟨a1, a2, a3⟩ := dp_of rx f1
      have f3 : shp (.lst ds) 61 = true := by simpa [shp] using f2
      obtain ⟨b1, b2, b3⟩ := dp_of ry' f3
      have s1 : SeqAt.shaped (py x) = true := by simp only [SeqAt.shaped, a2, Bool.true_and, decide_eq_true_eq]; omega
      have s2 : SeqAt.shaped (.list (pyL ds)) = true := by
        have : py (.lst ds) = .list (pyL ds) := by simp [py]
        rw [this] at b2 b3
        simp only [SeqAt.shaped, b2, Bool.true_and, decide_eq_true_eq]; omega
      have b1' : Dp X.K H (.ref a) (.list (pyL ds)) := by simpa [py] using b1
      rw [inL_py f1 f2] at e
      cases neg with
      | false => exact op_inD hu pins s σ H _ _ _ _ Q I rv ru ⟨_, _, a1, b1', s1, s2, by rw [e]; exact q⟩
      | true => exact op_notInD hu pins s σ H _ _ _ _ Q I rv ru ⟨_, _, a1, b1', s1, s2, by rw [e]; exact q⟩
  | dic kvs => exact dict rfl
  | dit kvs => exact dict rfl
  | ref n =>
    have ry' := ry
    simp only [Rep] at ry
    obtain ⟨a, rfl, ha⟩ := ry
    cases hs : S.get n with
    | none => simp [inD, hs] at e
    | some ob =>
      cases ob with
      | lst ds =>
        simp only [inD, hs, Option.ite_none_right_eq_some, Bool.and_eq_true, Option.some.injEq] at e
        obtain ⟨⟨f1, f2⟩, e⟩ := e
        obtain ⟨vs, h1, h2⟩ := w.ob n a _ ha hs
        exact seq (.inl (.inl (.inl h1))) h2 f1 f2 e rfl
      | dic kvs => exact dict (by simp [isD, hs])
      | dit kvs => exact dict (by simp [isD, hs])
      | ins C fs => simp [inD, hs] at e
  | _ => simp [inD] at e
theorem eq_shaped {H : Hp} {ι κ : List Addr} {x : D} {v : V} (r : Rep X.K H ι κ x v) (h : shp x 60 = true) : Dp X.K H v (py x) ∧ SeqAt.shaped (py x) = true := by
  obtain ⟨a1, a2, a3⟩ := dp_of r h
  refine ⟨a1, ?_⟩
  simp only [SeqAt.shaped, a2, Bool.true_and, decide_eq_true_eq]; omega
theorem cmp_sound (hu : X.A.units + 65 < cLine) (o : CmpOp) : OpR X (compareOp o) (rCmp T X.K o) := by
  intro pins s σ H v u vv uu Q I rv ru h
  obtain ⟨ι, κ, S, x, y, b, w, rx, ry, e, q⟩ := h
  have ord : ∀ {o' : CmpOp} (_ : o = o') (f : Int → Int → Bool) (g : Str → Str → Bool) (_ : cmpD o' x y S = some b → (∃ i j, x = .int i ∧ y = .int j ∧ b = f i j) ∨ ∃ i j, x = .str i ∧ y = .str j ∧ b = g i j)
      (_ : OpR X (compareOp o') (rI0 fun i j => .bl (f i j))) (_ : OpR X (compareOp o') (fun x y H Q => ∃ i j, x = .str i ∧ y = .str j ∧ Q (.bl (g i j)) H)),
      wpAny (model X.prog X.w) X.A (compareOp o vv uu) (EP X pins σ Q) X.xe s := fun {o'} eo f g h h1 h2 => by
    subst eo
    rcases h e with ⟨i, j, rfl, rfl, eb⟩ | ⟨i, j, rfl, rfl, eb⟩
    · simp only [Rep] at rx ry
      subst rx ry
      exact h1 pins s σ H _ _ _ _ Q I rv ru ⟨i, j, rfl, rfl, by show Q (.bl (f i j)) H; rw [← eb]; exact q⟩
    · simp only [Rep] at rx ry
      obtain ⟨rfl, _⟩ := rx
      obtain ⟨rfl, _⟩ := ry
      exact h2 pins s σ H _ _ _ _ Q I rv ru ⟨i, j, rfl, rfl, by rw [← eb]; exact q⟩
  have cas : ∀ {f : Int → Int → Bool} {g : Str → Str → Bool}, ordD f g x y = some b → (∃ i j, x = .int i ∧ y = .int j ∧ b = f i j) ∨ ∃ i j, x = .str i ∧ y = .str j ∧ b = g i j := fun {f g} h => by
    clear rx ry e ord q
    cases x <;> cases y <;> simp [ordD] at h
    · exact .inl ⟨_, _, rfl, rfl, h.symm⟩
    · exact .inr ⟨_, _, rfl, rfl, h.symm⟩
  have sam : ∀ {c : Bool}, sameD x y = some c → (y = .non ∧ c = decide (v = .non) ∧ u = .non) ∨ ∃ i j, x = .bl i ∧ y = .bl j ∧ c = decide (i = j) := fun {c} h => by
    cases y with
    | non =>
      simp only [sameD, Option.some.injEq] at h
      simp only [Rep] at ry
      refine .inl ⟨rfl, ?_, ry⟩
      rw [← h]
      cases x <;> simp only [Rep] at rx <;> first | (subst rx; simp) | (obtain ⟨rfl, _⟩ := rx; simp) | (obtain ⟨a, _, rfl, _⟩ := rx; simp) | (obtain ⟨a, rfl, _⟩ := rx; simp) | (obtain ⟨a, _, _, rfl, _⟩ := rx; simp)
    | bl j =>
      cases x with
      | bl i => simp only [sameD, Option.some.injEq] at h; exact .inr ⟨i, j, rfl, rfl, h.symm⟩
      | _ => simp [sameD] at h
    | _ => simp [sameD] at h
  cases o with
  | Eq =>
    simp only [cmpD, Option.ite_none_right_eq_some, Bool.and_eq_true, Option.some.injEq] at e
    obtain ⟨⟨f1, f2⟩, e⟩ := e
    obtain ⟨a1, a2⟩ := eq_shaped rx f1
    obtain ⟨b1, b2⟩ := eq_shaped ry f2
    rw [eqv_py f1 f2] at e
    exact op_eqD (by omega) pins s σ H _ _ _ _ Q I rv ru ⟨_, _, a1, b1, a2, b2, by rw [e]; exact q⟩
  | NotEq =>
    simp only [cmpD, Option.ite_none_right_eq_some, Bool.and_eq_true, Option.some.injEq] at e
    obtain ⟨⟨f1, f2⟩, e⟩ := e
    obtain ⟨a1, a2⟩ := eq_shaped rx f1
    obtain ⟨b1, b2⟩ := eq_shaped ry f2
    rw [eqv_py f1 f2] at e
    exact op_neD (by omega) pins s σ H _ _ _ _ Q I rv ru ⟨_, _, a1, b1, a2, b2, by rw [e]; exact q⟩
  | Lt => exact ord rfl (fun i j => decide (i < j)) (fun x y => ltS x y) (fun h => cas (by simpa only [cmpD] using h)) op_lt op_lt_str
  | LtE => exact ord rfl (fun i j => decide (i ≤ j)) (fun x y => !ltS y x) (fun h => cas (by simpa only [cmpD] using h)) op_le op_le_str
  | Gt => exact ord rfl (fun i j => decide (j < i)) (fun x y => ltS y x) (fun h => cas (by simpa only [cmpD] using h)) op_gt op_gt_str
  | GtE => exact ord rfl (fun i j => decide (j ≤ i)) (fun x y => !ltS x y) (fun h => cas (by simpa only [cmpD] using h)) op_ge op_ge_str
  | In => exact in_sound hu false w rx ry (by simpa only [cmpD] using e) I rv ru (by simpa using q)
  | NotIn =>
    simp only [cmpD, Option.map_eq_some_iff] at e
    obtain ⟨c, e', rfl⟩ := e
    exact in_sound hu true w rx ry e' I rv ru (by simpa using q)
  | Is =>
    rcases sam (by simpa only [cmpD] using e) with ⟨rfl, eb, eu⟩ | ⟨i, j, rfl, rfl, eb⟩
    · exact op_isN pins s σ H _ _ _ _ Q I rv ru ⟨eu, by rw [← eb]; exact q⟩
    · simp only [Rep] at rx ry
      subst rx ry
      exact op_is_bl pins s σ H _ _ _ _ Q I rv ru ⟨i, j, rfl, rfl, by rw [← eb]; exact q⟩
  | IsNot =>
    simp only [cmpD, Option.map_eq_some_iff] at e
    obtain ⟨c, e', rfl⟩ := e
    rcases sam e' with ⟨rfl, eb, eu⟩ | ⟨i, j, rfl, rfl, eb⟩
    · exact op_notN pins s σ H _ _ _ _ Q I rv ru ⟨eu, by rw [← eb]; exact q⟩
    · simp only [Rep] at rx ry
      subst rx ry
      exact op_isnot_bl pins s σ H _ _ _ _ Q I rv ru ⟨i, j, rfl, rfl, by rw [← eb]; exact q⟩
end
end MP
end

section
set_option Elab.async false
set_option linter.all false
set_option maxRecDepth 100000
/-! MpF: subscripts, slices, built-in functions by values. -/
namespace MP
open PySem PySem.Spec PyProof.Rows L2
section
variable {X : Cx} {T : Tab}
/-! ### subscripts -/
def rIxDict : R2 := fun x y H Q => ∃ a v, x = .ref a ∧ DGet H a y (some v) ∧ Q v H
theorem ix_dict (hu : X.A.units + 1 < cLine) : IxR X rIxDict := by
  intro value slice pins s σ H x y v u Q I rx ry h hs
  obtain ⟨a, z, rfl, g, q⟩ := h
  cases (show v = Value.ref a from rx)
  exact tail_any (dict_typeIs I g) PySem.F.slot_dict_getitem.lookup (d_getItem hu I g ry fun w' s3 I3 rw' => ⟨z, H, I3, rw', q⟩) hs
def rIxV (T : Tab) (K : PySem.W.Frag) : R2 := fun v u H Q => ∃ ι κ S x y d, Wd T K H ι κ S ∧ Rep K H ι κ x v ∧ Rep K H ι κ y u ∧ ixD x y S = some d ∧ VPost T K ι κ H S d Q
theorem RepL.atI {K : PySem.W.Frag} {H : Hp} {ι κ : List Addr} {ds : List D} {vs : List V} {i : Int} {d : D} (h : RepL K H ι κ ds vs) (e : L2.atI ds i = some d) : ∃ v, L2.atI vs i = some v ∧ Rep K H ι κ d v := by
  unfold L2.atI at e ⊢
  rw [← h.length]
  cases q : L2.ixN ds.length i with
  | none => rw [q] at e; cases e
  | some j =>
    rw [q] at e
    exact h.get e
theorem ix_get1 {x y : D} {S : Sto} {d : D} (h : ixD x y S = some d) (hd : isD x S = true) : get1D x y S = some (some d) := by
  cases x with
  | dic kvs =>
    simp only [ixD] at h
    cases e : y.ky with
    | none => rw [e] at h; cases h
    | some k => rw [e] at h; simp [get1D, e, h]
  | ref n =>
    simp only [ixD, isD] at h hd
    cases hs : S.get n with
    | none => rw [hs] at h; simp at h
    | some ob =>
      rw [hs] at h hd
      cases ob with
      | dic kvs =>
        cases e : y.ky with
        | none => simp [e] at h
        | some k => simp [e] at h; simp [get1D, hs, e, h]
      | dit kvs => simp [D.tky] at h
      | _ => simp at hd
  | dit kvs => simp [ixD, D.tky] at h
  | _ => simp [isD] at hd
theorem ix_sound (hu : X.A.units + 1 < cLine) : IxR X (rIxV T X.K) := by
  intro value slice pins s σ H v u vv uu Q I rv ru h hs
  obtain ⟨ι, κ, S, x, y, d, w, rx, ry, e, q⟩ := h
  have dict : isD x S = true → wpAny (model X.prog X.w) X.A (subscriptTail value slice vv uu) (EP X pins σ Q) X.xe s := fun hd => by
    obtain ⟨a, o, rfl, g, h3, _⟩ := get1_rep w rx ry (ix_get1 e hd)
    obtain ⟨z, rfl, rz⟩ := h3 d rfl
    exact ix_dict hu value slice pins s σ H _ _ _ _ Q I rv ru ⟨a, z, rfl, g, q.same w rz⟩ hs
  have lst : ∀ {a : Addr} {ds : List D} {vs : List V} {k : Int} (_ : SqL X.K H a vs) (_ : RepL X.K H ι κ ds vs) (_ : y = .int k) (_ : L2.atI ds k = some d) (_ : v = .ref a),
      wpAny (model X.prog X.w) X.A (subscriptTail value slice vv uu) (EP X pins σ Q) X.xe s := fun {a ds vs k} h1 h2 h3 h4 h5 => by
    subst h3 h5
    simp only [Rep] at ry
    subst ry
    obtain ⟨z, hz, rz⟩ := h2.atI h4
    exact ix_list value slice pins s σ H _ _ _ _ Q I rv ru ⟨a, vs, k, z, rfl, rfl, h1, hz, q.same w rz⟩ hs
  cases x with
  | tup ds =>
    cases y with
    | int k =>
      simp only [Rep] at rx ry
      subst ry
      obtain ⟨a, vs, rfl, h1, h2⟩ := rx
      obtain ⟨z, hz, rz⟩ := h2.atI (by simpa only [ixD] using e)
      exact ix_tup value slice pins s σ H _ _ _ _ Q I rv ru ⟨a, vs, k, z, rfl, rfl, h1.1, hz, q.same w rz⟩ hs
    | _ => simp [ixD] at e
  | lst ds =>
    cases y with
    | int k =>
      simp only [Rep] at rx
      obtain ⟨a, vs, rfl, h1, _, _, h2⟩ := rx
      exact lst (.inl (.inl h1)) h2 rfl (by simpa only [ixD] using e) rfl
    | _ => simp [ixD] at e
  | rol ns =>
    cases y with
    | int k =>
      simp only [Rep] at rx
      obtain ⟨a, rfl, h1, _⟩ := rx
      have hq : SqL X.K H a (ns.map V.int) := h1.elim (fun z => .inl z.1) .inr
      refine lst (ds := ns.map D.int) hq (RepL.ints ns) rfl ?_ rfl
      simp only [ixD, Option.map_eq_some_iff] at e
      obtain ⟨i, e, rfl⟩ := e
      unfold L2.atI at e ⊢
      rw [List.length_map]
      cases q : L2.ixN ns.length k with
      | none => rw [q] at e; cases e
      | some j =>
        rw [q] at e
        simp only [Option.bind_some] at e ⊢
        rw [List.getElem?_map, e]; rfl
    | _ => simp [ixD] at e
  | str z =>
    cases y with
    | int k =>
      simp only [Rep] at rx ry
      subst ry
      obtain ⟨rfl, hz⟩ := rx
      simp only [ixD, Option.ite_none_right_eq_some, Option.map_eq_some_iff] at e
      obtain ⟨hl, c, e, rfl⟩ := e
      refine ix_str value slice pins s σ H _ _ _ _ Q I rv ru ⟨z, k, c, rfl, rfl, LIM_line hl, e, q.same w ?_⟩ hs
      simp only [sgn, Rep]
      refine ⟨trivial, ?_⟩
      obtain ⟨j, _, h2, _⟩ := atI_get e
      have := strOk_mem hz (List.mem_of_getElem? h2)
      simp [PyData.strOk, this]
    | _ => simp [ixD] at e
  | dic kvs => exact dict rfl
  | dit kvs => exact dict rfl
  | ref n =>
    have rx' := rx
    simp only [Rep] at rx
    obtain ⟨a, rfl, ha⟩ := rx
    cases hs' : S.get n with
    | none => simp [ixD, hs'] at e
    | some ob =>
      cases ob with
      | lst ds =>
        cases y with
        | int k =>
          obtain ⟨vs, h1, h2⟩ := w.ob n a _ ha hs'
          exact lst (.inl (.inl h1)) h2 rfl (by simpa only [ixD, hs'] using e) rfl
        | _ => simp [ixD, hs'] at e
      | dic kvs => exact dict (by simp [isD, hs'])
      | dit kvs => exact dict (by simp [isD, hs'])
      | ins C fs => simp [ixD, hs'] at e
  | _ => simp [ixD] at e
/-! ### slices -/
def rSlV (T : Tab) (K : PySem.W.Frag) : V → Option Int → Option Int → Hp → VK → Prop := fun v lo hi H Q => ∃ ι κ S x d, Wd T K H ι κ S ∧ Rep K H ι κ x v ∧ slD x lo hi S = some d ∧ VPost T K ι κ H S d Q
theorem cut_map {α β : Type} (f : α → β) (xs : List α) (lo hi : Option Int) : cut (xs.map f) lo hi = (cut xs lo hi).map f := by
  unfold cut
  rw [List.length_map, List.map_take, List.map_drop]
theorem cutV_cut (xs : List V) (lo hi : Option Int) : cutV xs lo hi = cut xs lo hi := rfl
theorem cut_mem {α : Type} {xs : List α} {lo hi : Option Int} {x : α} (h : x ∈ cut xs lo hi) : x ∈ xs := List.mem_of_mem_drop (List.mem_of_mem_take h)
theorem sl_sound : SlR X (rSlV T X.K) := by
  intro pins s σ H v vv vl vu lo hi sl Q I rv hs pl pu h
  obtain ⟨ι, κ, S, x, d, w, rx, e, q⟩ := h
  have lst : ∀ {a : Addr} {ds : List D} {vs : List V} (_ : SqL X.K H a vs) (_ : RepL X.K H ι κ ds vs) (_ : d = .lst (cut ds lo hi)) (_ : v = .ref a), _ := fun {a ds vs} h1 h2 h3 h4 => by
    subst h3 h4
    exact sl_list pins s σ H _ _ vl vu lo hi sl Q I rv hs pl pu ⟨a, vs, rfl, h1, fun p hp => (NPost.of w q).lst w (h2.cut lo hi) hp⟩
  cases x with
  | tup ds =>
    have rx' := rx
    simp only [Rep] at rx
    obtain ⟨a, vs, rfl, h1, h2⟩ := rx
    simp only [slD, Option.some.injEq] at e
    subst e
    refine sl_tupF pins s σ H _ _ vl vu lo hi sl Q I rv hs pl pu ⟨a, vs, rfl, h1.1, fun hw => ?_, fun _ => q.newT w (h2.cut lo hi)⟩
    have : cut ds lo hi = ds := by
      unfold cut
      rw [h2.length, hw.1, hw.2]
      simp [← h2.length]
    rw [this] at q
    exact q.same w rx'
  | lst ds =>
    simp only [Rep] at rx
    obtain ⟨a, vs, rfl, h1, _, _, h2⟩ := rx
    exact lst (.inl (.inl h1)) h2 (by simpa only [slD, Option.some.injEq, eq_comm] using e) rfl
  | rol ns =>
    simp only [Rep] at rx
    obtain ⟨a, rfl, h1, _⟩ := rx
    have hq : SqL X.K H a (ns.map V.int) := h1.elim (fun z => .inl z.1) .inr
    refine lst (ds := ns.map D.int) hq (RepL.ints ns) ?_ rfl
    simp only [slD, Option.some.injEq] at e
    rw [← e, cut_map]
  | str z =>
    simp only [Rep] at rx
    obtain ⟨rfl, hz⟩ := rx
    simp only [slD, Option.ite_none_right_eq_some, Option.some.injEq] at e
    obtain ⟨hl, rfl⟩ := e
    refine sl_str pins s σ H _ _ vl vu lo hi sl Q I rv hs pl pu ⟨z, rfl, LIM_line hl, ?_⟩
    have : cutS z lo hi = ⟨(cut z.cps.toList lo hi).toArray⟩ := by
      unfold cutS cut
      have : z.cps.toList.length = z.length := by simp [Str.length]
      rw [this]
    rw [this]
    refine q.same w ?_
    simp only [Rep]
    exact ⟨trivial, strOk_of fun c hc => strOk_mem hz (cut_mem hc)⟩
  | ref n =>
    simp only [Rep] at rx
    obtain ⟨a, rfl, ha⟩ := rx
    cases hs' : S.get n with
    | none => simp [slD, hs'] at e
    | some ob =>
      cases ob with
      | lst ds =>
        obtain ⟨vs, h1, h2⟩ := w.ob n a _ ha hs'
        exact lst (.inl (.inl h1)) h2 (by simpa only [slD, hs', Option.some.injEq, eq_comm] using e) rfl
      | _ => simp [slD, hs'] at e
  | _ => simp [slD] at e
/-! ### isinstance -/
def Ty.name : Ty → String
  | .int => "int" | .bool => "bool" | .str => "str" | .tuple => "tuple" | .list => "list" | .dict => "dict"
def rIsiV (T : Tab) (K : PySem.W.Frag) (t : Ty) : List V → Hp → VK → Prop := fun vs H Q => ∃ ι κ S x v b, vs = [v, .ty t.name] ∧ Wd T K H ι κ S ∧ Rep K H ι κ x v ∧ isTy x t = some b ∧ Q (.bl b) H
theorem isi_sound (t : Ty) : CallR X (.builtin "isinstance") (rIsiV T X.K t) := by
  intro pins s σ H xs us Q I r h
  obtain ⟨ι, κ, S, x, v, b, rfl, w, rx, e, q⟩ := h
  have go : ∀ {T : String} (_ : TyX X.K H v (.type T)) (_ : kitB T t.name = some b), wpAny (model X.prog X.w) X.A (call (.builtin "isinstance") us) (EP X pins σ Q) X.xe s := fun {T} h1 h2 =>
    call_isi pins s σ H _ us Q I r ⟨v, .ty t.name, .type T, .type t.name, b, rfl, .ty _, h1, kit_ty h2, q⟩
  cases x with
  | non => simp only [Rep] at rx; subst rx; exact go (.base .non) (by simp only [isTy, Option.some.injEq] at e; subst e; cases t <;> decide +kernel)
  | bl c => simp only [Rep] at rx; subst rx; exact go (.base (.bl c)) (by simp only [isTy, Option.some.injEq] at e; subst e; cases t <;> decide +kernel)
  | int c => simp only [Rep] at rx; subst rx; exact go (.base (.int c)) (by simp only [isTy, Option.some.injEq] at e; subst e; cases t <;> decide +kernel)
  | str c => simp only [Rep] at rx; obtain ⟨rfl, _⟩ := rx; exact go (.base (.str c)) (by simp only [isTy, Option.some.injEq] at e; subst e; cases t <;> decide +kernel)
  | tup ds =>
    simp only [Rep] at rx
    obtain ⟨a, vs, rfl, h1, _⟩ := rx
    have k : kitB "tuple" t.name = some b := by simp only [isTy, Option.some.injEq] at e; subst e; cases t <;> decide +kernel
    rcases h1.1 with (h1 | ⟨o, h1⟩) | ⟨o, its, n, h1, h2, _⟩
    · exact go (.base (.tup h1)) k
    · exact go (.fTuple h1) k
    · exact go (.kTuple h1 h2) k
  | lst ds =>
    simp only [Rep] at rx
    obtain ⟨a, vs, rfl, h1, _⟩ := rx
    exact go (.base (.lst h1)) (by simp only [isTy, Option.some.injEq] at e; subst e; cases t <;> decide +kernel)
  | rol ds =>
    simp only [Rep] at rx
    obtain ⟨a, rfl, h1, _⟩ := rx
    have k : kitB "list" t.name = some b := by simp only [isTy, Option.some.injEq] at e; subst e; cases t <;> decide +kernel
    rcases h1 with ⟨h1 | ⟨o, h1⟩, _⟩ | ⟨o, its, n, h1, h2, _⟩
    · exact go (.base (.lst h1)) k
    · exact go (.base (.frz h1)) k
    · exact go (.kList h1 h2) k
  | dic ds =>
    simp only [Rep] at rx
    obtain ⟨a, o, vs, rfl, h1, _⟩ := rx
    have k : kitB "dict" t.name = some b := by simp only [isTy, Option.some.injEq] at e; subst e; cases t <;> decide +kernel
    exact go (.fDict h1) k
  | dit ds => simp [isTy] at e
  | ref n => simp [isTy] at e
/-! ### order -/
theorem ltS_irrefl (x : Str) : ltS x x = false := by unfold ltS; simp
theorem ltS_tri {x y : Str} (h1 : ltS x y = false) (h2 : ltS y x = false) : x = y := by
  unfold ltS at h1 h2
  have a := of_decide_eq_false h1
  have b := of_decide_eq_false h2
  have e : x.cps.toList = y.cps.toList := List.le_antisymm (by simpa [List.not_lt] using b) (by simpa [List.not_lt] using a)
  obtain ⟨x⟩ := x
  obtain ⟨y⟩ := y
  rw [show x = y from Array.toList_inj.mp e]
theorem ltS_trans {x y z : Str} (h1 : ltS y x = false) (h2 : ltS z y = false) : ltS z x = false := by
  unfold ltS at *
  have a := of_decide_eq_false h1
  have b := of_decide_eq_false h2
  refine decide_eq_false ?_
  rw [List.not_lt] at a b ⊢
  exact List.le_trans a b
theorem insS_perm (x : Str) : ∀ l : List Str, (insS x l).Perm (x :: l)
  | [] => .refl _
  | y :: r => by
    unfold insS
    by_cases h : ltS y x = true
    · rw [if_pos h]
      exact ((insS_perm x r).cons y).trans (.swap x y r)
    · rw [if_neg h]
theorem sortS_perm : ∀ l : List Str, (sortS l).Perm l
  | [] => .refl _
  | x :: r => (insS_perm x _).trans ((sortS_perm r).cons x)
def RisS (l : List Str) : Prop := l.Pairwise fun a b => ltS b a = false
theorem insS_ris {x : Str} : ∀ {l : List Str}, RisS l → RisS (insS x l)
  | [], _ => by simp [insS, RisS]
  | y :: r, h => by
    unfold insS
    have h' := List.pairwise_cons.mp h
    by_cases q : ltS y x = true
    · rw [if_pos q]
      refine List.pairwise_cons.mpr ⟨fun b hb => ?_, insS_ris h'.2⟩
      rcases List.mem_cons.mp ((insS_perm x r).mem_iff.mp hb) with rfl | hb
      · cases e : ltS b y with
        | false => rfl
        | true =>
          have := ltS_irrefl y
          unfold ltS at e q this
          have := List.lt_trans (of_decide_eq_true q) (of_decide_eq_true e)
          exact absurd this (by simp)
      · exact h'.1 b hb
    · rw [if_neg q]
      have q : ltS y x = false := by simpa using q
      refine List.pairwise_cons.mpr ⟨fun b hb => ?_, h⟩
      rcases List.mem_cons.mp hb with rfl | hb
      · exact q
      · exact ltS_trans q (h'.1 b hb)
theorem sortS_ris : ∀ l : List Str, RisS (sortS l)
  | [] => .nil
  | _ :: r => insS_ris (sortS_ris r)
theorem risS_of : ∀ {l : List Str}, sortedS l = true → RisS l
  | [], _ => .nil
  | [x], _ => by simp [RisS]
  | x :: y :: r, h => by
    have h : (!ltCps y.cps.toList x.cps.toList && risingS y r) = true := h
    rw [Bool.and_eq_true] at h
    have ih : RisS (y :: r) := risS_of (l := y :: r) h.2
    have hxy : ltS y x = false := by
      unfold ltS
      rw [← ltCps_eq]
      simpa using h.1
    refine List.pairwise_cons.mpr ⟨fun b hb => ?_, ih⟩
    rcases List.mem_cons.mp hb with rfl | hb
    · exact hxy
    · exact ltS_trans hxy ((List.pairwise_cons.mp ih).1 b hb)
theorem sortS_eq {l ys : List Str} (p : ys.Perm l) (h : sortedS ys = true) : ys = sortS l :=
  List.Perm.eq_of_pairwise (le := fun a b => ltS b a = false) (fun a b _ _ h1 h2 => ltS_tri h2 h1) (risS_of h) (sortS_ris l) (p.trans (sortS_perm l).symm)
theorem insI_perm (x : Int) : ∀ l : List Int, (insI x l).Perm (x :: l)
  | [] => .refl _
  | y :: r => by
    unfold insI
    by_cases h : y < x
    · rw [if_pos h]
      exact ((insI_perm x r).cons y).trans (.swap x y r)
    · rw [if_neg h]
theorem sortI_perm : ∀ l : List Int, (sortI l).Perm l
  | [] => .refl _
  | x :: r => (insI_perm x _).trans ((sortI_perm r).cons x)
theorem insI_ris {x : Int} : ∀ {l : List Int}, l.Pairwise (· ≤ ·) → (insI x l).Pairwise (· ≤ ·)
  | [], _ => by simp [insI]
  | y :: r, h => by
    unfold insI
    have h' := List.pairwise_cons.mp h
    by_cases q : y < x
    · rw [if_pos q]
      refine List.pairwise_cons.mpr ⟨fun b hb => ?_, insI_ris h'.2⟩
      rcases List.mem_cons.mp ((insI_perm x r).mem_iff.mp hb) with rfl | hb
      · omega
      · exact h'.1 b hb
    · rw [if_neg q]
      refine List.pairwise_cons.mpr ⟨fun b hb => ?_, h⟩
      rcases List.mem_cons.mp hb with rfl | hb
      · omega
      · have := h'.1 b hb; omega
theorem sortI_ris : ∀ l : List Int, (sortI l).Pairwise (· ≤ ·)
  | [] => .nil
  | _ :: r => insI_ris (sortI_ris r)
theorem sortI_eq {l ys : List Int} (p : ys.Perm l) (h : ys.Pairwise (· ≤ ·)) : ys = sortI l :=
  List.Perm.eq_of_pairwise (fun _ _ _ _ h1 h2 => Int.le_antisymm h1 h2) h (sortI_ris l) (p.trans (sortI_perm l).symm)
theorem maxL_is : ∀ (r : List Int) (x : Int), maxL x r ∈ x :: r ∧ ∀ y ∈ x :: r, y ≤ maxL x r
  | [], x => by simp [maxL]
  | z :: r, x => by
    unfold maxL
    by_cases h : z > x
    · rw [if_pos h]
      obtain ⟨a, b⟩ := maxL_is r z
      refine ⟨List.mem_cons_of_mem _ a, fun y hy => ?_⟩
      rcases List.mem_cons.mp hy with rfl | hy
      · have := b z List.mem_cons_self; omega
      · exact b y hy
    · rw [if_neg h]
      obtain ⟨a, b⟩ := maxL_is r x
      refine ⟨?_, fun y hy => ?_⟩
      · rcases List.mem_cons.mp a with e | a
        · rw [e]; exact List.mem_cons_self
        · exact List.mem_cons_of_mem _ (List.mem_cons_of_mem _ a)
      · rcases List.mem_cons.mp hy with rfl | hy
        · exact b _ List.mem_cons_self
        · rcases List.mem_cons.mp hy with rfl | hy
          · have := b x List.mem_cons_self; omega
          · exact b y (List.mem_cons_of_mem _ hy)
theorem minL_is : ∀ (r : List Int) (x : Int), minL x r ∈ x :: r ∧ ∀ y ∈ x :: r, minL x r ≤ y
  | [], x => by simp [minL]
  | z :: r, x => by
    unfold minL
    by_cases h : z < x
    · rw [if_pos h]
      obtain ⟨a, b⟩ := minL_is r z
      refine ⟨List.mem_cons_of_mem _ a, fun y hy => ?_⟩
      rcases List.mem_cons.mp hy with rfl | hy
      · have := b z List.mem_cons_self; omega
      · exact b y hy
    · rw [if_neg h]
      obtain ⟨a, b⟩ := minL_is r x
      refine ⟨?_, fun y hy => ?_⟩
      · rcases List.mem_cons.mp a with e | a
        · rw [e]; exact List.mem_cons_self
        · exact List.mem_cons_of_mem _ (List.mem_cons_of_mem _ a)
      · rcases List.mem_cons.mp hy with rfl | hy
        · exact b _ List.mem_cons_self
        · rcases List.mem_cons.mp hy with rfl | hy
          · have := b x List.mem_cons_self; omega
          · exact b y (List.mem_cons_of_mem _ hy)
end
end MP
end

section
set_option Elab.async false
set_option linter.all false
set_option maxRecDepth 100000
/-! MpF2: dict(t) of a tuple of pairs. -/
namespace MP
open PySem PySem.Spec PyProof.Rows L2
section
variable {X : Cx}
theorem plain_tup {pins : List (Addr × Obj)} {σ : L2.St} {H : Hp} {s : Shared} {a : Addr} {vs : List V} (I : L2.Inv X pins σ H s) (h : SqF X.K H a vs) : ∃ us : List Value, Vals vs us ∧ PlainSeq "tuple" s.heap a us.toArray ∧ vs.length ≤ sizeLine := by
  obtain ⟨h1, ob, hd, h2⟩ := h
  obtain ⟨us, rv, ⟨o, ho, hc, n, hdat⟩, hz⟩ := I.tuple h1
  have e : s.heap.get? a = some ob := by
    rcases h2 with ⟨u, q⟩ | q
    · exact (I.hok a _ q).1
    · exact I.kIn a ob q
  have eo : o = ob := Option.some.inj (ho.symm.trans e)
  subst eo
  exact ⟨us, rv, ⟨o, n, ho, hc, hd, hdat⟩, hz⟩
theorem pairs_val {pins : List (Addr × Obj)} {σ : L2.St} {H : Hp} {s : Shared} (I : L2.Inv X pins σ H s) : ∀ {ps : List Addr} {kvs : List (Key × V)}, Paired (fun p kv => SqT X.K H p [kV kv.1, kv.2]) ps kvs →
    ∃ (prs : List (Key × Value)) (vps : List (Value × Value)), KV kvs prs ∧ prs.length = ps.length ∧ vps.length = ps.length ∧ ∀ (j : Nat) (k v : Value), vps[j]? = some (k, v) → ∃ (b : Addr) (kk : Key), ps[j]? = some b ∧ prs[j]? = some (kk, v) ∧ s.heap.IsTuple b #[k, v] ∧ (mixKind X.prog X.w).is kk k = true
  | _, _, .nil => ⟨[], [], .nil, rfl, rfl, fun j k v e => by simp at e⟩
  | _, _, .cons (a := p) (b := kv) h t => by
    obtain ⟨prs, vps, r, hl, hl2, hp⟩ := pairs_val I t
    obtain ⟨its, rv, ht, _⟩ := I.tuple h
    obtain ⟨u, y, ei, ru, ry⟩ := vals2 rv
    subst ei
    refine ⟨(kv.1, y) :: prs, (u, y) :: vps, .cons ⟨rfl, ry⟩ r, by rw [List.length_cons, List.length_cons, hl], by rw [List.length_cons, List.length_cons, hl2], fun j k v e => ?_⟩
    cases j with
    | zero =>
      cases e
      exact ⟨p, kv.1, rfl, rfl, ht, kV_is (P := X.prog) (w := X.w) ru⟩
    | succ j =>
      obtain ⟨b, kk, e1, e2, e3⟩ := hp j k v (by simpa using e)
      exact ⟨b, kk, by simpa using e1, by simpa using e2, e3⟩
theorem call_dictF (hcalm : X.calm = true) : CallR X (.type "dict") (fun xs H Q => ∃ (a : Addr) (ps : List Addr) (kvs : List (Key × V)), xs = [.ref a] ∧ SqF X.K H a (ps.map V.ref) ∧ Paired (fun p kv => SqT X.K H p [kV kv.1, kv.2]) ps kvs ∧ ∀ p, H p = none → Q (.ref p) (upd H p (.dK (mergeK [] kvs)))) := by
  intro pn s σ H xs us Q I r q
  obtain ⟨a, ps, kvs, ex, hq, hp, q⟩ := q
  subst ex
  obtain ⟨u, eu, rx⟩ := vals1 r
  subst eu
  cases rx
  obtain ⟨its, rv, pl, hz⟩ := plain_tup I hq
  have ei := refs_at rv
  subst ei
  rw [List.length_map] at hz
  obtain ⟨prs, vps, rel, hl, hl2, hpr⟩ := pairs_val I hp
  have P := PairArg.tuple (prog := X.prog) (w := X.w) a (ps.map Value.ref).toArray (fun j => ps.getD j 0) vps
  have hitems : PairItems s.heap (ps.map Value.ref).toArray (fun j => ps.getD j 0) vps := ⟨by simp [hl2], fun j k v e => by
    obtain ⟨b, kk, e1, e2, e3, e4⟩ := hpr j k v e
    have e5 : ps.getD j 0 = b := by rw [List.getD_eq_getElem?_getD, e1]; rfl
    have e6 : s.heap.IsTuple (ps.getD j 0) #[k, v] := by rw [e5]; exact e3
    refine ⟨?_, .inl e6⟩
    show _ = some (Value.ref (ps.getD j 0))
    rw [e5]
    simp [e1]⟩
  refine PySem.call_dict_pairs (knd := mixKind X.prog X.w) (kvs := prs) P (I.ok.hd hcalm) ⟨pl, hitems⟩ ⟨by rw [hl, hl2], fun i k v e => ?_⟩ (by rw [hl2]; exact hz) fun h' tk hd' kf => ?_
  · obtain ⟨b, kk, e1, e2, e3, e4⟩ := hpr i k v e
    exact ⟨kk, e2, e4⟩
  · have hm : (s.heap.objs.size == sysModules) = false := beq_eq_false_iff_ne.mpr (Nat.ne_of_gt I.big)
    have hlen : (mergeK [] kvs).length ≤ sizeLine := by
      refine Nat.le_trans (length_mergeK kvs []) ?_
      rw [List.length_nil, Nat.zero_add, rel.length, hl]
      exact hz
    have ok : ObjOk X.prog X.w (upd H s.heap.objs.size (.dK (mergeK [] kvs))) h' s.heap.objs.size (.dK (mergeK [] kvs)) := ⟨hlen, hm, merged [] prs, KV.merge rel .nil, hd'⟩
    exact ⟨.ref s.heap.objs.size, _, I.laid (t' := tk) (fun b o e => kf b o (by simp) e) (Nat.le_refl _) ok, rfl, q _ (I.hok.fresh (Nat.le_refl _))⟩
end
end MP
end

section
set_option Elab.async false
set_option linter.all false
set_option maxRecDepth 100000
/-! MpG: built-in functions by values. -/
namespace MP
open PySem PySem.Spec PyProof.Rows L2
theorem strOk_ofString (s : String) : PyData.strOk (Str.ofString s) = true := by
  rw [Str.ofString_eq_toList]
  refine strOk_of fun c hc => ?_
  obtain ⟨ch, _, rfl⟩ := List.mem_map.mp hc
  have := ch.valid
  rcases this with h | h
  · show ch.val.toNat < _; have := h; unfold UInt32.isValidChar at *; omega
  · show ch.val.toNat < _; omega
section
variable {X : Cx} {T : Tab}
def Bi.val : Bi → Value
  | .len => .builtin "len" | .int => .type "int" | .abs => .builtin "abs" | .max => .builtin "max" | .min => .builtin "min" | .sum => .builtin "sum"
  | .all => .builtin "all" | .any => .builtin "any" | .sorted => .builtin "sorted" | .list => .type "list" | .tuple => .type "tuple" | .dict => .type "dict" | .str => .type "str"
def rBi (T : Tab) (K : PySem.W.Frag) (b : Bi) : List V → Hp → VK → Prop := fun vs H Q => ∃ ι κ S ds d, Wd T K H ι κ S ∧ RepL K H ι κ ds vs ∧ biD b ds S = some d ∧ VPost T K ι κ H S d Q
def rBiN (T : Tab) (K : PySem.W.Frag) (b : Bi) : List V → Hp → VK → Prop := fun vs H Q => ∃ ι κ S ds d, Wd T K H ι κ S ∧ RepL K H ι κ ds vs ∧ biD b ds S = some d ∧ NPost T K ι κ H S d Q
theorem RepL.one {K : PySem.W.Frag} {H : Hp} {ι κ : List Addr} {d : D} {vs : List V} (h : RepL K H ι κ [d] vs) : ∃ v, vs = [v] ∧ Rep K H ι κ d v := by
  simp only [RepL] at h
  obtain ⟨v, r, rfl, q, rfl⟩ := h
  exact ⟨v, rfl, q⟩
theorem RepL.two {K : PySem.W.Frag} {H : Hp} {ι κ : List Addr} {d e : D} {vs : List V} (h : RepL K H ι κ [d, e] vs) : ∃ v u, vs = [v, u] ∧ Rep K H ι κ d v ∧ Rep K H ι κ e u := by
  simp only [RepL] at h
  obtain ⟨v, r, rfl, q, u, r', rfl, q', rfl⟩ := h
  exact ⟨v, u, rfl, q, q'⟩
/-- a row of the store, a value list, a tuple: how it is read -/
def lstOf (d : D) (S : Sto) : Option (List D) := match d with
  | .lst xs => some xs
  | .ref n => (match S.get n with
    | some (.lst xs) => some xs
    | _ => none)
  | _ => none
theorem lst_of {K : PySem.W.Frag} {H : Hp} {ι κ : List Addr} {S : Sto} {d : D} {v : V} {xs : List D} (w : Wd T K H ι κ S) (r : Rep K H ι κ d v) (e : lstOf d S = some xs) : ∃ a vs, v = .ref a ∧ H a = some (.lst vs) ∧ RepL K H ι κ xs vs := by
  cases d with
  | lst ys =>
    simp only [lstOf, Option.some.injEq] at e
    subst e
    simp only [Rep] at r
    obtain ⟨a, vs, h1, h2, _, _, h3⟩ := r
    exact ⟨a, vs, h1, h2, h3⟩
  | ref n =>
    simp only [Rep] at r
    obtain ⟨a, rfl, ha⟩ := r
    cases hs : S.get n with
    | none => simp [lstOf, hs] at e
    | some ob =>
      cases ob with
      | lst ys =>
        simp only [lstOf, hs, Option.some.injEq] at e
        subst e
        obtain ⟨vs, h1, h2⟩ := w.ob n a _ ha hs
        exact ⟨a, vs, rfl, h1, h2⟩
      | _ => simp [lstOf, hs] at e
  | _ => simp [lstOf] at e
def dicOf (d : D) (S : Sto) : Option (List (Ky × D)) := match d with
  | .dic xs => some xs
  | .ref n => (match S.get n with
    | some (.dic xs) => some xs
    | _ => none)
  | _ => none
theorem dic_of {K : PySem.W.Frag} {H : Hp} {ι κ : List Addr} {S : Sto} {d : D} {v : V} {xs : List (Ky × D)} (w : Wd T K H ι κ S) (r : Rep K H ι κ d v) (e : dicOf d S = some xs) : ∃ a vs, v = .ref a ∧ Rd H a (.dK vs) ∧ RepK K H ι κ xs vs := by
  cases d with
  | dic ys =>
    simp only [dicOf, Option.some.injEq] at e
    subst e
    simp only [Rep] at r
    obtain ⟨a, od, vs, h1, h2, h3⟩ := r
    exact ⟨a, vs, h1, .inr ⟨od, h2⟩, h3⟩
  | ref n =>
    simp only [Rep] at r
    obtain ⟨a, rfl, ha⟩ := r
    cases hs : S.get n with
    | none => simp [dicOf, hs] at e
    | some ob =>
      cases ob with
      | dic ys =>
        simp only [dicOf, hs, Option.some.injEq] at e
        subst e
        obtain ⟨vs, h1, h2⟩ := w.ob n a _ ha hs
        exact ⟨a, vs, rfl, .inl h1, h2⟩
      | _ => simp [dicOf, hs] at e
  | _ => simp [dicOf] at e
theorem RepK.keys {K : PySem.W.Frag} {H : Hp} {ι κ : List Addr} : ∀ {ds : List (Ky × D)} {vs : List (Ky × V)}, RepK K H ι κ ds vs → ds.map (·.1) = vs.map (·.1) ∧ ds.length = vs.length
  | [], vs, h => by simp only [RepK] at h; subst h; exact ⟨rfl, rfl⟩
  | (k, d) :: ds, vs, h => by
    simp only [RepK] at h
    obtain ⟨v, r, rfl, q, q', ok⟩ := h
    obtain ⟨h1, h2⟩ := RepK.keys q'
    exact ⟨by simp [h1], by simp [h2]⟩
theorem len_rd {H : Hp} {a : Addr} {kvs : List (Ky × V)} {pins : List (Addr × Obj)} {s : Shared} {σ : L2.St} {us : List Value} {Q : VK} (I : L2.Inv X pins σ H s) (r : Vals [V.ref a] us) (e : Rd H a (.dK kvs)) (q : Q (.int kvs.length) H) :
    wpAny (model X.prog X.w) X.A (call (.builtin "len") us) (EP X pins σ Q) X.xe s := by
  obtain ⟨u, rfl, rx⟩ := vals1 r
  cases (show u = Value.ref a from rx)
  exact d_len I e fun t s' I' => ⟨.int kvs.length, H, I', ⟨t, rfl⟩, q⟩
/-- keys of texts are texts that are ok: keys come from texts -/
theorem kstrs_eq : ∀ {ks : List Ky} {ss : List Str}, kstrs ks = some ss → ks = ss.map Sum.inr
  | [], ss, h => by simp [kstrs] at h; subst h; rfl
  | .inr x :: r, ss, h => by
    simp only [kstrs, Option.map_eq_some_iff] at h
    obtain ⟨t, h, rfl⟩ := h
    rw [kstrs_eq h]; rfl
  | .inl x :: r, ss, h => by simp [kstrs] at h
theorem kints_eq : ∀ {ks : List Ky} {ss : List Int}, kints ks = some ss → ks = ss.map Sum.inl
  | [], ss, h => by simp [kints] at h; subst h; rfl
  | .inl x :: r, ss, h => by
    simp only [kints, Option.map_eq_some_iff] at h
    obtain ⟨t, h, rfl⟩ := h
    rw [kints_eq h]; rfl
  | .inr x :: r, ss, h => by simp [kints] at h
theorem RepK.ok {K : PySem.W.Frag} {H : Hp} {ι κ : List Addr} : ∀ {ds : List (Ky × D)} {vs : List (Ky × V)}, RepK K H ι κ ds vs → ∀ p ∈ ds, KyOk p.1
  | [], vs, h, p, hp => by cases hp
  | (k, d) :: ds, vs, h, p, hp => by
    simp only [RepK] at h
    obtain ⟨v, r, rfl, q, q', ok⟩ := h
    rcases List.mem_cons.mp hp with rfl | hp
    · exact ok
    · exact RepK.ok q' p hp
theorem Ky.rep {K : PySem.W.Frag} {H : Hp} {ι κ : List Addr} {k : Ky} (h : KyOk k) : Rep K H ι κ k.d (kV k) := by
  cases k with
  | inl i => simp [Ky.d, kV, Rep]
  | inr x => simp [Ky.d, kV, Rep, h x rfl]
theorem RepK.keyL {K : PySem.W.Frag} {H : Hp} {ι κ : List Addr} : ∀ {ds : List (Ky × D)} {vs : List (Ky × V)}, RepK K H ι κ ds vs → RepL K H ι κ (ds.map fun kv => kv.1.d) (vs.map fun kv => kV kv.1)
  | [], vs, h => by simp only [RepK] at h; subst h; simp [RepL]
  | (k, d) :: ds, vs, h => by
    simp only [RepK] at h
    obtain ⟨v, r, rfl, q, q', ok⟩ := h
    simp only [List.map_cons, RepL]
    exact ⟨_, _, rfl, Ky.rep ok, RepK.keyL q'⟩
theorem RepK.strs {K : PySem.W.Frag} {H : Hp} {ι κ : List Addr} {ds : List (Ky × D)} {vs : List (Ky × V)} (h : RepK K H ι κ ds vs) {ss : List Str} (e : ds.map (·.1) = ss.map Sum.inr) : ∀ x ∈ ss, PyData.strOk x = true := fun x hx => by
  have : Sum.inr x ∈ ds.map (·.1) := by rw [e]; exact List.mem_map_of_mem hx
  obtain ⟨p, hp, ep⟩ := List.mem_map.mp this
  exact h.ok p hp x ep
theorem pairs_rep {K : PySem.W.Frag} {H : Hp} {ι κ : List Addr} : ∀ {ds : List D} {vs : List V} {kvs : List (Ky × D)}, RepL K H ι κ ds vs → pairsOf ds = some kvs →
    ∃ (ps : List Addr) (us : List (Ky × V)), vs = ps.map V.ref ∧ Paired (fun p kv => SqT K H p [kV kv.1, kv.2]) ps us ∧ RepK K H ι κ kvs us
  | [], vs, kvs, h, e => by
    simp only [RepL] at h
    simp only [pairsOf, Option.some.injEq] at e
    subst h e
    exact ⟨[], [], rfl, .nil, by simp [RepK]⟩
  | d :: ds, vs, kvs, h, e => by
    simp only [RepL] at h
    obtain ⟨v, r, rfl, q, q'⟩ := h
    unfold pairsOf at e
    split at e
    · rename_i he; exact absurd he (by simp)
    · rename_i k x r' he
      injection he with h1 h2
      subst h1 h2
      cases e1 : k.ky with
      | none => rw [e1] at e; simp at e
      | some kk =>
        cases e2 : pairsOf ds with
        | none => rw [e1, e2] at e; simp at e
        | some kvs' =>
          rw [e1, e2] at e
          simp only [Option.some.injEq] at e
          subst e
          obtain ⟨ps, us, rfl, hp, hr⟩ := pairs_rep q' e2
          simp only [Rep] at q
          obtain ⟨a, ws, rfl, hs, rl⟩ := q
          obtain ⟨w1, w2, rfl, r1, r2⟩ := rl.two
          obtain ⟨ek, ok⟩ := ky_rep r1 e1
          subst ek
          refine ⟨a :: ps, (kk, w2) :: us, rfl, .cons hs.1 hp, ?_⟩
          simp only [RepK]
          exact ⟨w2, us, rfl, r2, hr, ok⟩
    · simp at e
theorem RepK.chg {K : PySem.W.Frag} {H : Hp} {ι κ : List Addr} {k : Ky} {d : D} {v : V} (hd : Rep K H ι κ d v) : ∀ {ds : List (Ky × D)} {vs : List (Ky × V)}, RepK K H ι κ ds vs →
    RepK K H ι κ (ds.map fun kv => if kv.1 = k then (kv.1, d) else kv) (vs.map fun kv => if kv.1 = k then (kv.1, v) else kv)
  | [], vs, h => by simp only [RepK] at h; subst h; simp [RepK]
  | (j, e) :: ds, vs, h => by
    simp only [RepK] at h
    obtain ⟨u, r, rfl, q, q', ok'⟩ := h
    simp only [List.map_cons]
    have ih := RepK.chg (k := k) hd q'
    by_cases hj : j = k
    · rw [if_pos (by exact hj), if_pos (by exact hj)]
      simp only [RepK]
      exact ⟨v, _, rfl, hd, ih, ok'⟩
    · rw [if_neg (by exact hj), if_neg (by exact hj)]
      simp only [RepK]
      exact ⟨u, _, rfl, q, ih, ok'⟩
theorem RepK.snoc {K : PySem.W.Frag} {H : Hp} {ι κ : List Addr} {k : Ky} {d : D} {v : V} (hd : Rep K H ι κ d v) (ok : KyOk k) : ∀ {ds : List (Ky × D)} {vs : List (Ky × V)}, RepK K H ι κ ds vs → RepK K H ι κ (ds ++ [(k, d)]) (vs ++ [(k, v)])
  | [], vs, h => by simp only [RepK] at h; subst h; simp only [List.nil_append, RepK]; exact ⟨v, [], rfl, hd, rfl, ok⟩
  | (j, e) :: ds, vs, h => by
    simp only [RepK] at h
    obtain ⟨u, r, rfl, q, q', ok'⟩ := h
    simp only [List.cons_append, RepK]
    exact ⟨u, _, rfl, q, RepK.snoc hd ok q', ok'⟩
theorem RepK.put {K : PySem.W.Frag} {H : Hp} {ι κ : List Addr} {ds : List (Ky × D)} {vs : List (Ky × V)} {k : Ky} {d : D} {v : V} (h : RepK K H ι κ ds vs) (hd : Rep K H ι κ d v) (ok : KyOk k) : RepK K H ι κ (vput ds k d) (putK vs k v) := by
  have any : (ds.any fun kv => decide (kv.1 = k)) = (vs.any fun kv => decide (kv.1 = k)) := by
    have := congrArg (fun l => l.any fun z => decide (z = k)) h.keys.1
    simpa [List.any_map, Function.comp_def] using this
  unfold vput putK
  rw [any]
  split
  · exact h.chg hd
  · exact h.snoc hd ok
theorem RepK.merge {K : PySem.W.Frag} {H : Hp} {ι κ : List Addr} : ∀ {more : List (Ky × D)} {mv : List (Ky × V)} {ds : List (Ky × D)} {vs : List (Ky × V)}, RepK K H ι κ more mv → RepK K H ι κ ds vs → RepK K H ι κ (merge ds more) (mergeK vs mv)
  | [], mv, ds, vs, h, h' => by simp only [RepK] at h; subst h; exact h'
  | (k, d) :: rest, mv, ds, vs, h, h' => by
    simp only [RepK] at h
    obtain ⟨u, r, rfl, q, q', ok⟩ := h
    exact RepK.merge (more := rest) (mv := r) q' (h'.put q ok)
/-- the new objects of built-in functions -/
theorem bi_soundN (hc : X.calm = true) (b : Bi) (hb : b = .list ∨ b = .sorted ∨ b = .dict) : CallR X b.val (rBiN T X.K b) := by
  intro pins s σ H vs us Q I r h
  obtain ⟨ι, κ, S, ds, d, w, rl, e, q⟩ := h
  match ds, e with
  | [x], e =>
    obtain ⟨v, rfl, rx⟩ := rl.one
    simp only [biD] at e
    rcases hb with rfl | rfl | rfl
    · simp only [bi1] at e
      have lst : ∀ {a : Addr} {xs : List D} {ws : List V} (_ : SqL X.K H a ws ∨ SqT X.K H a ws) (_ : RepL X.K H ι κ xs ws) (_ : d = .lst xs) (_ : v = .ref a), wpAny (model X.prog X.w) X.A (call (.type "list") us) (EP X pins σ Q) X.xe s := fun {a xs ws} h1 h2 h3 h4 => by
        subst h3 h4
        exact call_list_of pins s σ H _ us Q I r ⟨a, ws, rfl, h1, fun p hp => q.lst w h2 hp⟩
      have dic : ∀ {xs : List (Ky × D)} (_ : dicOf x S = some xs) (_ : d = .lst (xs.map fun kv => kv.1.d)), wpAny (model X.prog X.w) X.A (call (.type "list") us) (EP X pins σ Q) X.xe s := fun {xs} h1 h2 => by
        subst h2
        obtain ⟨a, ws, rfl, h3, h4⟩ := dic_of w rx h1
        exact call_listD hc pins s σ H _ us Q I r ⟨a, ws, rfl, h3, fun p hp => q.lst w h4.keyL hp⟩
      cases x with
      | dic kvs => exact dic (xs := kvs) rfl (by simpa only [listD, Option.some.injEq, eq_comm] using e)
      | tup xs =>
        simp only [Rep] at rx
        obtain ⟨a, ws, rfl, h1, h2⟩ := rx
        exact lst (.inr h1.1) h2 (by simpa only [listD, Option.some.injEq, eq_comm] using e) rfl
      | lst xs =>
        simp only [Rep] at rx
        obtain ⟨a, ws, rfl, h1, _, _, h2⟩ := rx
        exact lst (.inl (.inl (.inl h1))) h2 (by simpa only [listD, Option.some.injEq, eq_comm] using e) rfl
      | ref n =>
        simp only [listD] at e
        cases hs : S.get n with
        | none => simp [hs] at e
        | some ob =>
          cases ob with
          | lst xs =>
            obtain ⟨a, ws, rfl, h1, h2⟩ := lst_of (xs := xs) w rx (by simp [lstOf, hs])
            exact lst (.inl (.inl (.inl h1))) h2 (by simpa [hs, eq_comm] using e) rfl
          | dic kvs => exact dic (xs := kvs) (by simp [dicOf, hs]) (by simpa [hs, eq_comm] using e)
          | _ => simp [hs] at e
      | _ => simp [listD] at e
    · simp only [bi1] at e
      have lst : ∀ {xs : List D} (_ : lstOf x S = some xs) (_ : sortLD xs = some d), wpAny (model X.prog X.w) X.A (call (.builtin "sorted") us) (EP X pins σ Q) X.xe s := fun {xs} h1 h2 => by
        obtain ⟨a, ws, rfl, h3, h4⟩ := lst_of w rx h1
        simp only [sortLD, Option.ite_none_right_eq_some] at h2
        obtain ⟨h64, h2⟩ := h2
        cases e1 : strsOf xs with
        | some ss =>
          rw [e1] at h2
          simp only [Option.some.injEq] at h2
          subst h2
          obtain ⟨e2, ok⟩ := strsOf_rep e1 h4
          subst e2
          refine cr_sortedS pins s σ H _ us Q I r ⟨a, ss, rfl, .inl (.inl h3), by rw [h4.length, List.length_map] at h64; exact h64, fun ys p hp hs hn => ?_⟩
          have := sortS_eq hp hs
          subst this
          exact q.lst w (RepL.strs fun z hz => ok z (hp.mem_iff.mp hz)) hn
        | none =>
          rw [e1] at h2
          simp only at h2
          cases e2 : intsOf xs with
          | none => rw [e2] at h2; simp at h2
          | some ns =>
            rw [e2] at h2
            simp only [Option.some.injEq] at h2
            subst h2
            obtain ⟨e3, _⟩ := intsOf_rep e2 h4
            subst e3
            refine cr_sortedI pins s σ H _ us Q I r ⟨a, ns, rfl, .inl (.inl h3), fun ys p hp hs hn => ?_⟩
            have := sortI_eq hp hs
            subst this
            exact q.lst w (RepL.ints _) hn
      have dic : ∀ {xs : List (Ky × D)} (_ : dicOf x S = some xs) (_ : sortKD (xs.map (·.1)) = some d), wpAny (model X.prog X.w) X.A (call (.builtin "sorted") us) (EP X pins σ Q) X.xe s := fun {xs} h1 h2 => by
        obtain ⟨a, ws, rfl, h3, h4⟩ := dic_of w rx h1
        simp only [sortKD, Option.ite_none_right_eq_some] at h2
        obtain ⟨h64, h2⟩ := h2
        cases e1 : kstrs (xs.map (·.1)) with
        | some ss =>
          rw [e1] at h2
          simp only [Option.some.injEq] at h2
          subst h2
          have ek := kstrs_eq e1
          refine call_sortedD hc pins s σ H _ us Q I r ⟨a, ws, ss, rfl, h3, by rw [← h4.keys.1]; exact ek, ?_, fun ys p hp hs hn => ?_⟩
          · have := congrArg List.length ek
            simp only [List.length_map] at this h64
            omega
          · have := sortS_eq hp hs
            subst this
            exact q.lst w (RepL.strs fun z hz => h4.strs ek z (hp.mem_iff.mp hz)) hn
        | none =>
          rw [e1] at h2
          simp only at h2
          cases e2 : kints (xs.map (·.1)) with
          | none => rw [e2] at h2; simp at h2
          | some ns =>
            rw [e2] at h2
            simp only [Option.some.injEq] at h2
            subst h2
            have ek := kints_eq e2
            refine call_sortedDI hc pins s σ H _ us Q I r ⟨a, ws, ns, rfl, h3, by rw [← h4.keys.1]; exact ek, ?_, fun ys p hp hs hn => ?_⟩
            · have := congrArg List.length ek
              simp only [List.length_map] at this h64
              omega
            · have := sortI_eq hp hs
              subst this
              exact q.lst w (RepL.ints _) hn
      cases x with
      | lst xs => exact lst (xs := xs) rfl (by simpa only [sortD] using e)
      | dic kvs => exact dic (xs := kvs) rfl (by simpa only [sortD] using e)
      | ref n =>
        simp only [sortD] at e
        cases hs : S.get n with
        | none => simp [hs] at e
        | some ob =>
          cases ob with
          | lst xs => exact lst (xs := xs) (by simp [lstOf, hs]) (by simpa [hs] using e)
          | dic kvs => exact dic (xs := kvs) (by simp [dicOf, hs]) (by simpa [hs] using e)
          | _ => simp [hs] at e
      | _ => simp [sortD] at e
    · simp only [bi1] at e
      have dic : ∀ {xs : List (Ky × D)} (_ : dicOf x S = some xs) (_ : d = .dic xs), wpAny (model X.prog X.w) X.A (call (.type "dict") us) (EP X pins σ Q) X.xe s := fun {xs} h1 h2 => by
        subst h2
        obtain ⟨a, ws, rfl, h3, h4⟩ := dic_of w rx h1
        exact call_dictD pins s σ H _ us Q I r ⟨a, ws, rfl, h3, fun p hp => q.dic w h4 hp⟩
      cases x with
      | dic kvs => exact dic (xs := kvs) rfl (by simpa only [dictD, Option.some.injEq, eq_comm] using e)
      | lst xs =>
        simp only [dictD, Option.map_eq_some_iff] at e
        obtain ⟨kvs, e', rfl⟩ := e
        simp only [Rep] at rx
        obtain ⟨a, ws, rfl, h1, _, _, h2⟩ := rx
        obtain ⟨ps, us', rfl, h3, h4⟩ := pairs_rep h2 e'
        refine call_dictP hc pins s σ H _ us Q I r ⟨a, ps, us', rfl, .inl (.inl h1), h3, fun p hp => q.dic w (RepK.merge h4 (by simp [RepK])) hp⟩
      | tup xs =>
        simp only [dictD, Option.map_eq_some_iff] at e
        obtain ⟨kvs, e', rfl⟩ := e
        simp only [Rep] at rx
        obtain ⟨a, ws, rfl, h1, h2⟩ := rx
        obtain ⟨ps, us', rfl, h3, h4⟩ := pairs_rep h2 e'
        exact call_dictF hc pins s σ H _ us Q I r ⟨a, ps, us', rfl, h1, h3, fun p hp => q.dic w (RepK.merge h4 (by simp [RepK])) hp⟩
      | ref n =>
        simp only [dictD] at e
        cases hs : S.get n with
        | none => simp [hs] at e
        | some ob =>
          cases ob with
          | dic kvs => exact dic (xs := kvs) (by simp [dicOf, hs]) (by simpa [hs, eq_comm] using e)
          | _ => simp [hs] at e
      | _ => simp [dictD] at e
  | [x, y], e => rcases hb with rfl | rfl | rfl <;> simp [biD, bi2] at e
  | [], e => simp [biD] at e
  | _ :: _ :: _ :: _, e => simp [biD] at e
theorem bi_sound (hc : X.calm = true) (b : Bi) (hb : ¬ (b = .list ∨ b = .sorted ∨ b = .dict)) : CallR X b.val (rBi T X.K b) := by
  intro pins s σ H vs us Q I r h
  obtain ⟨ι, κ, S, ds, d, w, rl, e, q⟩ := h
  have ri : ∀ i : Int, Rep X.K H ι κ (.int i) (.int i) := fun i => by simp [Rep]
  have rb : ∀ i : Bool, Rep X.K H ι κ (.bl i) (.bl i) := fun i => by simp [Rep]
  match ds, e with
  | [], e => simp [biD] at e
  | _ :: _ :: _ :: _, e => simp [biD] at e
  | [x, y], e =>
    obtain ⟨v, u, rfl, rx, ry⟩ := rl.two
    simp only [biD] at e
    cases b <;> cases x <;> cases y <;> simp only [bi2] at e <;> first | (cases e; done) | skip
    · simp only [Rep] at rx ry
      subst rx ry
      simp only [Option.some.injEq] at e; subst e
      exact call_max2 hc pins s σ H _ us Q I r ⟨_, _, rfl, q.same w (ri _)⟩
    · simp only [Rep] at rx ry
      subst rx ry
      simp only [Option.some.injEq] at e; subst e
      exact call_min2 hc pins s σ H _ us Q I r ⟨_, _, rfl, q.same w (ri _)⟩
  | [x], e =>
    obtain ⟨v, rfl, rx⟩ := rl.one
    simp only [biD] at e
    cases b with
    | list => exact absurd (.inl rfl) hb
    | sorted => exact absurd (.inr (.inl rfl)) hb
    | dict => exact absurd (.inr (.inr rfl)) hb
    | len =>
      simp only [bi1] at e
      have lst : ∀ {a : Addr} {xs : List D} {ws : List V} (_ : SqL X.K H a ws ∨ SqT X.K H a ws) (_ : RepL X.K H ι κ xs ws) (_ : d = .int xs.length) (_ : v = .ref a), wpAny (model X.prog X.w) X.A (call (.builtin "len") us) (EP X pins σ Q) X.xe s := fun {a xs ws} h1 h2 h3 h4 => by
        subst h3 h4
        exact call_len_seq pins s σ H _ us Q I r ⟨a, ws, rfl, h1, by rw [← h2.length]; exact q.same w (ri _)⟩
      have dic : ∀ {xs : List (Ky × D)} (_ : dicOf x S = some xs) (_ : d = .int xs.length), wpAny (model X.prog X.w) X.A (call (.builtin "len") us) (EP X pins σ Q) X.xe s := fun {xs} h1 h2 => by
        subst h2
        obtain ⟨a, ws, rfl, h3, h4⟩ := dic_of w rx h1
        exact len_rd I r h3 (by rw [← h4.keys.2]; exact q.same w (ri _))
      cases x with
      | str z =>
        simp only [lenD, Option.ite_none_right_eq_some, Option.some.injEq] at e
        obtain ⟨hl, rfl⟩ := e
        simp only [Rep] at rx
        obtain ⟨rfl, _⟩ := rx
        exact call_len_str pins s σ H _ us Q I r ⟨z, rfl, LIM_line hl, q.same w (ri _)⟩
      | tup xs =>
        simp only [Rep] at rx
        obtain ⟨a, ws, rfl, h1, h2⟩ := rx
        exact lst (.inr h1.1) h2 (by simpa only [lenD, Option.some.injEq, eq_comm] using e) rfl
      | lst xs =>
        simp only [Rep] at rx
        obtain ⟨a, ws, rfl, h1, _, _, h2⟩ := rx
        exact lst (.inl (.inl (.inl h1))) h2 (by simpa only [lenD, Option.some.injEq, eq_comm] using e) rfl
      | rol ns =>
        simp only [Rep] at rx
        obtain ⟨a, rfl, h1, _⟩ := rx
        have hq : SqL X.K H a (ns.map V.int) := h1.elim (fun z => .inl z.1) .inr
        exact lst (xs := ns.map D.int) (.inl hq) (RepL.ints ns) (by simpa only [lenD, Option.some.injEq, List.length_map, eq_comm] using e) rfl
      | dic kvs => exact dic (xs := kvs) rfl (by simpa only [lenD, Option.some.injEq, eq_comm] using e)
      | ref n =>
        simp only [lenD] at e
        cases hs : S.get n with
        | none => simp [hs] at e
        | some ob =>
          cases ob with
          | lst xs =>
            obtain ⟨a, ws, rfl, h1, h2⟩ := lst_of (xs := xs) w rx (by simp [lstOf, hs])
            exact lst (.inl (.inl (.inl h1))) h2 (by simpa [hs, eq_comm] using e) rfl
          | dic kvs => exact dic (xs := kvs) (by simp [dicOf, hs]) (by simpa [hs, eq_comm] using e)
          | _ => simp [hs] at e
      | _ => simp [lenD] at e
    | int =>
      simp only [bi1] at e
      cases x with
      | int i =>
        simp only [intD, Option.some.injEq] at e; subst e
        simp only [Rep] at rx; subst rx
        exact call_int1 pins s σ H _ us Q I r (.inl ⟨i, rfl, q.same w (ri _)⟩)
      | bl i =>
        simp only [intD, Option.some.injEq] at e; subst e
        simp only [Rep] at rx; subst rx
        exact call_int1 pins s σ H _ us Q I r (.inr ⟨i, rfl, q.same w (ri _)⟩)
      | _ => simp [intD] at e
    | abs =>
      simp only [bi1] at e
      cases x with
      | int i =>
        simp only [absD, Option.some.injEq] at e; subst e
        simp only [Rep] at rx; subst rx
        exact call_abs pins s σ H _ us Q I r ⟨i, rfl, q.same w (ri _)⟩
      | _ => simp [absD] at e
    | max =>
      simp only [bi1] at e
      cases x with
      | lst xs =>
        simp only [max1D] at e
        simp only [Rep] at rx
        obtain ⟨a, ws, rfl, h1, _, _, h2⟩ := rx
        split at e
        · rename_i y ys he
          simp only [Option.some.injEq] at e; subst e
          obtain ⟨e2, _⟩ := intsOf_rep he h2
          subst e2
          refine cr_max hc pins s σ H _ us Q I r ⟨a, y :: ys, rfl, .inl (.inl h1), by simp, fun m hm hy => ?_⟩
          obtain ⟨k1, k2⟩ := maxL_is ys y
          have : m = maxL y ys := Int.le_antisymm (k2 m hm) (hy _ k1)
          subst this
          exact q.same w (ri _)
        · cases e
      | _ => simp [max1D] at e
    | min =>
      simp only [bi1] at e
      cases x with
      | lst xs =>
        simp only [min1D] at e
        simp only [Rep] at rx
        obtain ⟨a, ws, rfl, h1, _, _, h2⟩ := rx
        split at e
        · rename_i y ys he
          simp only [Option.some.injEq] at e; subst e
          obtain ⟨e2, _⟩ := intsOf_rep he h2
          subst e2
          refine cr_min hc pins s σ H _ us Q I r ⟨a, y :: ys, rfl, .inl (.inl h1), by simp, fun m hm hy => ?_⟩
          obtain ⟨k1, k2⟩ := minL_is ys y
          have : m = minL y ys := Int.le_antisymm (hy _ k1) (k2 m hm)
          subst this
          exact q.same w (ri _)
        · cases e
      | _ => simp [min1D] at e
    | sum =>
      simp only [bi1] at e
      cases x with
      | lst xs =>
        simp only [sumD, Option.map_eq_some_iff] at e
        obtain ⟨ns, he, rfl⟩ := e
        simp only [Rep] at rx
        obtain ⟨a, ws, rfl, h1, _, _, h2⟩ := rx
        obtain ⟨e2, _⟩ := intsOf_rep he h2
        subst e2
        exact cr_sum hc pins s σ H _ us Q I r ⟨a, ns, rfl, .inl (.inl h1), q.same w (ri _)⟩
      | _ => simp [sumD] at e
    | all =>
      simp only [bi1] at e
      cases x with
      | lst xs =>
        simp only [allD, Option.map_eq_some_iff] at e
        obtain ⟨ns, he, rfl⟩ := e
        simp only [Rep] at rx
        obtain ⟨a, ws, rfl, h1, _, _, h2⟩ := rx
        have e2 := blsOf_rep he h2
        subst e2
        exact cr_all hc pins s σ H _ us Q I r ⟨a, ns, rfl, .inl (.inl h1), q.same w (rb _)⟩
      | _ => simp [allD] at e
    | any =>
      simp only [bi1] at e
      cases x with
      | lst xs =>
        simp only [anyD, Option.map_eq_some_iff] at e
        obtain ⟨ns, he, rfl⟩ := e
        simp only [Rep] at rx
        obtain ⟨a, ws, rfl, h1, _, _, h2⟩ := rx
        have e2 := blsOf_rep he h2
        subst e2
        exact cr_any hc pins s σ H _ us Q I r ⟨a, ns, rfl, .inl (.inl h1), q.same w (rb _)⟩
      | _ => simp [anyD] at e
    | tuple =>
      simp only [bi1] at e
      cases x with
      | tup xs =>
        simp only [tupleD, Option.some.injEq] at e; subst e
        have rx' := rx
        simp only [Rep] at rx
        obtain ⟨a, ws, rfl, h1, h2⟩ := rx
        exact call_tupF pins s σ H _ us Q I r ⟨a, ws, rfl, .inr ⟨h1.1, q.same w rx'⟩⟩
      | lst xs =>
        simp only [tupleD, Option.some.injEq] at e; subst e
        simp only [Rep] at rx
        obtain ⟨a, ws, rfl, h1, _, _, h2⟩ := rx
        exact call_tupF pins s σ H _ us Q I r ⟨a, ws, rfl, .inl ⟨.inl (.inl h1), q.newT w h2⟩⟩
      | ref n =>
        simp only [tupleD] at e
        cases hs : S.get n with
        | none => simp [hs] at e
        | some ob =>
          cases ob with
          | lst xs =>
            simp only [hs, Option.some.injEq] at e; subst e
            obtain ⟨a, ws, rfl, h1, h2⟩ := lst_of (xs := xs) w rx (by simp [lstOf, hs])
            exact call_tupF pins s σ H _ us Q I r ⟨a, ws, rfl, .inl ⟨.inl (.inl h1), q.newT w h2⟩⟩
          | _ => simp [hs] at e
      | _ => simp [tupleD] at e
    | str =>
      simp only [bi1] at e
      cases x with
      | int i =>
        simp only [strD, Option.ite_none_right_eq_some, Option.some.injEq] at e
        obtain ⟨hl, rfl⟩ := e
        simp only [Rep] at rx; subst rx
        refine call_str_int pins s σ H _ us Q I r ⟨i, rfl, ?_, q.same w (by simp only [Rep]; exact ⟨trivial, strOk_ofString _⟩)⟩
        have h1 : i.natAbs < 2 ^ 60 := Nat.lt_of_lt_of_le hl (by decide)
        by_cases h0 : i.natAbs = 0
        · rw [h0]; decide
        · have := (Nat.log2_lt h0).mpr h1
          omega
      | str z =>
        simp only [strD, Option.some.injEq] at e; subst e
        have rx' := rx
        simp only [Rep] at rx
        obtain ⟨rfl, _⟩ := rx
        exact SkE.call_str_str pins s σ H _ us Q I r ⟨z, rfl, q.same w rx'⟩
      | _ => simp [strD] at e
end
end MP
end

section
set_option Elab.async false
set_option linter.all false
set_option maxRecDepth 100000
/-! MpH: which texts of the model are which expressions; how readings are put together. -/
namespace MP
open PySem PySem.Spec PyProof.Rows L2
/-! ### the match -/
def visB (sc : Scope) (x : Str) : Bool := match sc.names.lookup x with
  | some .local => true
  | some .cell => true
  | some .free => true
  | _ => false
def locB (sc : Scope) (x : Str) : Bool := match sc.names.lookup x with
  | some .local => true
  | some .cell => true
  | _ => false
def glB (sc : Scope) (x : Str) : Bool := decide (sc.names.lookup x = some .globalImplicit)
def nmB (x : Str) : Bool := !(x == ("__debug__" : Str)) && !(x == ("__classdict__" : Str)) && !(x == ("__name__" : Str))
def conM : D → Expr → Bool
  | .non, .Constant .none _ _ => true
  | .bl b, .Constant (.bool c) _ _ => b == c
  | .int i, .Constant (.int j) _ _ => decide (i = j)
  | .str x, .Constant (.str y) _ _ => decide (x = y) && PyData.strOk x
  | _, _ => false
def Bi.nm : Bi → Str
  | .len => "len" | .int => "int" | .abs => "abs" | .max => "max" | .min => "min" | .sum => "sum" | .all => "all" | .any => "any" | .sorted => "sorted" | .list => "list" | .tuple => "tuple" | .dict => "dict" | .str => "str"
def Ty.nm : Ty → Str
  | .int => "int" | .bool => "bool" | .str => "str" | .tuple => "tuple" | .list => "list" | .dict => "dict"
def tupE : Expr → Bool
  | .Tuple _ _ _ => true
  | _ => false
def call0E : Expr → Bool
  | .Call _ [] _ _ => true
  | _ => false
mutual
def mtT (N : List Str) (sc : Scope) : Tg → Expr → Bool
  | .nm i, e => match e with
    | .Name x _ => decide (N[i]? = some x) && locB sc x
    | _ => false
  | .tp ts, e => match e with
    | .Tuple es _ _ => mtTs N sc ts es
    | _ => false
def mtTs (N : List Str) (sc : Scope) : List Tg → List Expr → Bool
  | [], [] => true
  | t :: ts, e :: es => mtT N sc t e && mtTs N sc ts es
  | _, _ => false
end
def tst : Expr → Bool
  | .IfExp _ _ _ _ => false
  | _ => true
mutual
def slotsT : Tg → List Nat
  | .nm i => [i]
  | .tp ts => slotsTs ts
def slotsTs : List Tg → List Nat
  | [] => []
  | t :: ts => slotsT t ++ slotsTs ts
end
def ownOf (N : List Str) (own : List Nat) : List (Str × Nat) := own.filterMap fun i => (N[i]?).map fun x => (x, i)
/-- neither a list nor a comprehension nor starred: its walk is not folded -/
def plnE : Expr → Bool
  | .Name _ _ => true
  | .Subscript _ _ _ => true
  | .Attribute _ _ _ => true
  | .Call _ _ _ _ => true
  | _ => false
/-- key and value in turn -/
def inter : List (Option Expr) → List Expr → Option (List Expr)
  | [], [] => some []
  | some k :: ks, v :: vs => (inter ks vs).map fun r => k :: v :: r
  | _, _ => none
def fresh : Ex → Bool
  | .lst _ | .dk | .dt | .dsp _ | .lc _ _ _ _ _ | .lc2 _ _ _ _ _ _ _ | .dc _ _ _ _ _ _ | .dc2 _ _ _ _ _ _ _ _ _ _ | .lse _ => true
  | .bi .list _ | .bi .sorted _ | .bi .dict _ => true
  | .op .Mult (.lst _) _ | .op .Add (.lst _) _ => true
  | _ => false
mutual
def mtE (T : Tab) (N : List Str) : Ex → Scope → Expr → Bool
  | .var i, sc, e => match e with
    | .Name x _ => decide (N[i]? = some x) && visB sc x && nmB x
    | _ => false
  | .con d, _, e => conM d e
  | .glo x d, sc, e => match e with
    | .Name y _ => decide (x = y) && decide ((x, d) ∈ T.consts) && glB sc x && nmB x
    | _ => false
  | .tup es, sc, e => match e with
    | .Tuple els _ _ => mtL T N es sc els
    | _ => false
  | .lst es, sc, e => match e with
    | .List els _ => mtL T N es sc els
    | _ => false
  | .dk, _, e => match e with
    | .Dict [] [] _ => true
    | _ => false
  | .dt, _, e => match e with
    | .Dict [] [] _ => true
    | _ => false
  | .dsp es, sc, e => match e with
    | .Dict ks vs _ => (match inter ks vs with
      | some els => mtL T N es sc els && decide (ks.length ≤ 15) && !ks.isEmpty
      | none => false)
    | _ => false
  | .mut a, sc, e => fresh a && mtE T N a sc e
  | .op o a b, sc, e => match e with
    | .BinOp a' o' b' _ => decide (o = o') && mtE T N a sc a' && mtE T N b sc b'
    | _ => false
  | .neg a, sc, e => match e with
    | .UnaryOp .USub a' _ => mtE T N a sc a'
    | _ => false
  | .cmp o a b, sc, e => match e with
    | .Compare a' [o'] [b'] _ => decide (o = o') && mtE T N a sc a' && mtE T N b sc b'
    | _ => false
  | .chn o p a b c, sc, e => match e with
    | .Compare a' [o', p'] [b', c'] _ => decide (o = o') && decide (p = p') && mtE T N a sc a' && mtE T N b sc b' && mtE T N c sc c'
    | _ => false
  | .and es, sc, e => match e with
    | .BoolOp .And els _ => mtL T N es sc els && els.all tst && decide (2 ≤ es.length)
    | _ => false
  | .or es, sc, e => match e with
    | .BoolOp .Or els _ => mtL T N es sc els && els.all tst && decide (2 ≤ es.length)
    | _ => false
  | .not a, sc, e => match e with
    | .UnaryOp .Not a' _ => mtE T N a sc a' && tst a'
    | _ => false
  | .ite c a b, sc, e => match e with
    | .IfExp c' a' b' _ => mtE T N c sc c' && tst c' && mtE T N a sc a' && mtE T N b sc b'
    | _ => false
  | .ix a i, sc, e => match e with
    | .Subscript a' i' _ => mtE T N a sc a' && mtE T N i sc i'
    | _ => false
  | .sl a, sc, e => match e with
    | .Subscript a' (.Slice none none none _) _ => mtE T N a sc a'
    | _ => false
  | .slL a lo, sc, e => match e with
    | .Subscript a' (.Slice (some l') none none _) _ => mtE T N a sc a' && mtE T N lo sc l'
    | _ => false
  | .slH a hi, sc, e => match e with
    | .Subscript a' (.Slice none (some h') none _) _ => mtE T N a sc a' && mtE T N hi sc h'
    | _ => false
  | .slB a lo hi, sc, e => match e with
    | .Subscript a' (.Slice (some l') (some h') none _) _ => mtE T N a sc a' && mtE T N lo sc l' && mtE T N hi sc h'
    | _ => false
  | .rev a, sc, e => match e with
    | .Subscript a' (.Slice none none (some (.UnaryOp .USub (.Constant (.int 1) _ _) _)) _) _ => mtE T N a sc a'
    | _ => false
  | .call f es, sc, e => match e with
    | .Call (.Name x _) els [] _ => decide ((x, f) ∈ T.gl) && glB sc x && nmB x && mtL T N es sc els
    | _ => false
  | .make C es, sc, e => match e with
    | .Call (.Name x _) els [] _ => (match T.P.cls[C]? with
      | some c => decide (c.name = x) && c.exc.isNone
      | none => false) && glB sc x && nmB x && mtL T N es sc els
    | _ => false
  | .meth o m es, sc, e => match e with
    | .Call (.Attribute o' m' ap) els [] cp => decide (m = m') && (ap.endLine == cp.line) && decide (els.length < 30) && !call0E o' && mtE T N o sc o' && mtL T N es sc els
    | _ => false
  | .bi b es, sc, e => match e with
    | .Call (.Name x _) els [] _ => decide (b.nm = x) && glB sc x && mtL T N es sc els && !es.isEmpty
    | _ => false
  | .isi a t, sc, e => match e with
    | .Call (.Name x _) [a', .Name y _] [] _ => decide (x = ("isinstance" : Str)) && decide (y = t.nm) && glB sc x && glB sc y && mtE T N a sc a'
    | _ => false
  | .get1 o k, sc, e => match e with
    | .Call (.Attribute o' m ap) [k'] [] cp => decide (m = ("get" : Str)) && (ap.endLine == cp.line) && !call0E o' && mtE T N o sc o' && mtE T N k sc k'
    | _ => false
  | .get2 o k d, sc, e => match e with
    | .Call (.Attribute o' m ap) [k', d'] [] cp => decide (m = ("get" : Str)) && (ap.endLine == cp.line) && !call0E o' && mtE T N o sc o' && mtE T N k sc k' && mtE T N d sc d'
    | _ => false
  | .app o a, sc, e => match e with
    | .Call (.Attribute o' m ap) [a'] [] cp => decide (m = ("append" : Str)) && (ap.endLine == cp.line) && !call0E o' && mtE T N o sc o' && mtE T N a sc a'
    | _ => false
  | .ext o a, sc, e => match e with
    | .Call (.Attribute o' m ap) [a'] [] cp => decide (m = ("extend" : Str)) && (ap.endLine == cp.line) && !call0E o' && mtE T N o sc o' && mtE T N a sc a'
    | _ => false
  | .pop o, sc, e => match e with
    | .Call (.Attribute o' m ap) [] [] cp => decide (m = ("pop" : Str)) && (ap.endLine == cp.line) && !call0E o' && mtE T N o sc o'
    | _ => false
  | .fld a f, sc, e => match e with
    | .Attribute a' f' _ => decide (f = f') && decide (f ∈ T.flds) && !call0E a' && mtE T N a sc a'
    | _ => false
  | .lc elt tg it cnd own, sc, e => match e with
    | .ListComp elt' [⟨tg', it', ifs', 0⟩] scope _ => mtI T N it sc it' (tupE tg') && mtT N scope tg tg' && mtL T N cnd (relS scope sc) ifs' && ifs'.all tst && decide (cnd.length ≤ 1) && mtE T N elt (relS scope sc) elt' && blkC N sc scope (ownOf N own) && (slotsT tg).all (own.contains ·) && own.all fun i => decide (i < N.length)
    | _ => false
  | .dc k v tg it cnd own, sc, e => match e with
    | .DictComp k' v' [⟨tg', it', ifs', 0⟩] scope _ => mtI T N it sc it' (tupE tg') && mtT N scope tg tg' && mtL T N cnd (relS scope sc) ifs' && ifs'.all tst && decide (cnd.length ≤ 1) && mtE T N k (relS scope sc) k' && mtE T N v (relS scope sc) v' && blkC N sc scope (ownOf N own) && (slotsT tg).all (own.contains ·) && own.all fun i => decide (i < N.length)
    | _ => false
  | .dc2 k v tg it cnd tg1 it1 cnd1 own own1, sc, e => match e with
    | .DictComp k' v' [⟨tg', it', ifs', 0⟩, ⟨tg1', it1', ifs1', 0⟩] scope _ => mtI T N it sc it' (tupE tg') && mtT N scope tg tg' && mtL T N cnd (relS scope sc) ifs' && ifs'.all tst && decide (cnd.length ≤ 1) && mtE T N it1 (relS scope sc) it1' && plnE it1' && mtT N scope tg1 tg1' && mtL T N cnd1 (relS scope sc) ifs1' && ifs1'.all tst && decide (cnd1.length ≤ 1) && mtE T N k (relS scope sc) k' && mtE T N v (relS scope sc) v' && blkC N sc scope (ownOf N own) && (slotsT tg).all (own.contains ·) && (slotsT tg1).all (own1.contains ·) && own1.all (own.contains ·) && own.all fun i => decide (i < N.length)
    | _ => false
  | .lse a, sc, e => match e with
    | .Call (.Name x _) [.Call (.Name y _) [a'] [] _] [] _ => decide (x = ("list" : Str)) && decide (y = ("enumerate" : Str)) && glB sc x && glB sc y && mtE T N a sc a'
    | _ => false
  | _, _, _ => false
termination_by structural x => x
def mtL (T : Tab) (N : List Str) : List Ex → Scope → List Expr → Bool
  | [], _, [] => true
  | x :: xs, sc, e :: es => mtE T N x sc e && mtL T N xs sc es
  | _, _, _ => false
termination_by structural x => x
def mtI (T : Tab) (N : List Str) : Ex → Scope → Expr → Bool → Bool
  | .itv a, sc, e, _ => mtE T N a sc e
  | .rg1 a, sc, e, _ => match e with
    | .Call (.Name x _) [a'] [] _ => decide (x = ("range" : Str)) && glB sc x && mtE T N a sc a'
    | _ => false
  | .rg2 a b, sc, e, _ => match e with
    | .Call (.Name x _) [a', b'] [] _ => decide (x = ("range" : Str)) && glB sc x && mtE T N a sc a' && mtE T N b sc b'
    | _ => false
  | .rg3 a b c, sc, e, _ => match e with
    | .Call (.Name x _) [a', b', c'] [] _ => decide (x = ("range" : Str)) && glB sc x && mtE T N a sc a' && mtE T N b sc b' && mtE T N c sc c'
    | _ => false
  | .enm a, sc, e, t => match e with
    | .Call (.Name x _) [a'] [] _ => decide (x = ("enumerate" : Str)) && glB sc x && mtE T N a sc a' && t
    | _ => false
  | .zp a b, sc, e, t => match e with
    | .Call (.Name x _) [a', b'] [] _ => decide (x = ("zip" : Str)) && glB sc x && mtE T N a sc a' && mtE T N b sc b' && t
    | _ => false
  | .itm a, sc, e, t => match e with
    | .Call (.Attribute a' m ap) [] [] cp => decide (m = ("items" : Str)) && (ap.endLine == cp.line) && !call0E a' && mtE T N a sc a' && t
    | _ => false
  | .vls a, sc, e, _ => match e with
    | .Call (.Attribute a' m ap) [] [] cp => decide (m = ("values" : Str)) && (ap.endLine == cp.line) && !call0E a' && mtE T N a sc a'
    | _ => false
  | .rvd a, sc, e, _ => match e with
    | .Call (.Name x _) [a'] [] _ => decide (x = ("reversed" : Str)) && glB sc x && mtE T N a sc a'
    | _ => false
  | _, _, _, _ => false
termination_by structural x => x
end
end MP
end

section
set_option Elab.async false
set_option linter.all false
set_option maxRecDepth 100000
/-! MpI: what a def's code may lean on; the rules of the single expressions. -/
namespace MP
open PySem PySem.Spec PyProof.Rows L2
/-! ### plain texts -/
def plainE : Expr → Bool
  | .Starred _ _ => false
  | .Slice _ _ _ _ => false
  | .Set _ _ _ => false
  | _ => true
theorem star_plain {e : Expr} {es : List Expr} {env : PySem.Env} (h : plainE e = true) : starEach (e :: es) env = (false, eval e env) :: starEach es env := by
  cases e <;> first | rfl | (simp [plainE] at h)
theorem back_plain {pos : Pos} {env : PySem.Env} : ∀ {es : List Expr}, es.all plainE = true → (backTo pos (starEach es env)).any (·.1) = false
  | [], _ => rfl
  | e :: es, h => by
    simp only [List.all_cons, Bool.and_eq_true] at h
    rw [star_plain h.1]
    show (false || (backTo pos (starEach es env)).any (·.1)) = false
    rw [back_plain h.2]; rfl
theorem behind_plain {op : CmpOp} {e : Expr} (h : plainE e = true) : behindInMarks op e = false := by
  cases e <;> first | rfl | (simp [plainE] at h)
theorem ix_plain {e : Expr} (h : plainE e = true) : PlainIx e := by
  intro o i
  cases e <;> first | rfl | (simp [plainE] at h)
theorem folded_plain {e : Expr} {env : PySem.Env} (h : plainE e = true) : ∀ x, foldedSetIterable e env x = pure x := by
  intro x
  cases e <;> first | rfl | (simp [plainE] at h)
theorem base_plain {o : Expr} {m : Str} {env : PySem.Env} (h : call0E o = false) : attributeBase o m env (eval o env) = eval o env := by
  cases o with
  | Call f as ks p =>
    cases as with
    | nil => simp [call0E] at h
    | cons a as => cases f <;> rfl
  | _ => rfl
theorem trees1 {pos : Pos} {e : Expr} {env : PySem.Env} (h : plainE e = true) : backTo pos (starEach [e] env) = [(false, eval e env)] := by rw [star_plain h]; rfl
theorem trees2 {pos : Pos} {e f : Expr} {env : PySem.Env} (h : plainE e = true) (h' : plainE f = true) : backTo pos (starEach [e, f] env) = [(false, eval e env), (false, eval f env)] := by
  rw [star_plain h, star_plain h']; rfl
/-- an expression whose test is its value's truth -/
def flatE : Expr → Bool
  | .UnaryOp .Not _ _ | .BoolOp _ _ _ | .IfExp _ _ _ _ | .Compare _ _ _ _ => false
  | _ => true
theorem test_flat {e : Expr} {env : PySem.Env} (h : flatE e = true) : ∀ whole, isTrue e env whole = (do let v ← whole; standAt e.pos; holding [v] (truthy v)) := by
  intro w
  cases e with
  | UnaryOp o a p => cases o <;> first | rfl | (simp [flatE] at h)
  | _ => first | rfl | (simp [flatE] at h)
/-! ### the globals -/
def spF (T : Tab) (K : PySem.W.Frag) (Γ : Ctx) (n f : Nat) : Sp := fun vs H Q E => ∃ ι κ S ds, Wd T K H ι κ S ∧ RepL K H ι κ ds vs ∧ vs.length = n ∧ Post T K κ (fun c d _ H => E c d H) [] (relV K κ) H ι (Γ.F f ds S) Q
def FDef (T : Tab) (P : Program) (w : World) (K : PySem.W.Frag) (mg : Str → Option Value) (base : Heap) (Γ : Ctx) (k : Nat) (a : Addr) (f : Nat) : Prop :=
  ∃ fd ps, Binds K fd ps [] ∧ FnOk P w K mg base (L2.CX P w) k a fd ps (spF T K Γ ps.length f) ∧ ∀ ds S, Γ.F f ds S = .no ∨ ds.length = ps.length
def bltNames : List Str := ["len", "int", "abs", "max", "min", "sum", "all", "any", "sorted", "list", "tuple", "dict", "str", "range", "enumerate", "zip", "reversed", "isinstance", "bool"]
structure Globals (T : Tab) (P : Program) (w : World) (K : PySem.W.Frag) (mg : Str → Option Value) (base : Heap) (Γ : Ctx) (k : Nat) : Prop where
  fn : ∀ x f, (x, f) ∈ T.gl → ∃ a, mg x = some (.ref a) ∧ PySem.W.keepIn K (.ref a) = true ∧ FDef T P w K mg base Γ k a f
  blt : ∀ x ∈ bltNames, mg x = none
  con : ∀ x d, (x, d) ∈ T.consts → ∃ u v, mg x = some u ∧ RelV v u ∧ ∀ H ι κ, Rep K H ι κ d v
  cls : ∀ C c, T.cad K C = some c → Cls K c
  noat : ∀ C c f, T.cad K C = some c → f ∈ T.flds → NoAttr K c f
  meth : ∀ C c m f, T.cad K C = some c → Γ.M C m = some f → ∃ a, Meth K c m a ∧ FDef T P w K mg base Γ k a f
  make : ∀ C c f cl, T.cad K C = some c → T.P.cls[C]? = some cl → Γ.I C = some f → mg cl.name = some (.ref c) ∧ ∃ a, Mk K c a ∧ FDef T P w K mg base Γ k a f
structure Gd (T : Tab) (N : List Str) (Γ : Ctx) (k : Nat) (X : Cx) (W : WX) (sc : Scope) : Prop where
  sc : X.env.scope = sc
  hN : X.N = N
  nd : N.Nodup
  calm : X.calm = true
  room : Room (k + 1) X.A
  tk : Takes X W
  glo : Globals T X.prog X.w X.K X.mg X.base Γ k
section
variable {T : Tab} {N : List Str} {Γ : Ctx} {k : Nat} {X : Cx} {W : WX} {sc : Scope}
theorem Gd.hu (g : Gd T N Γ k X W sc) : X.A.units + 65 < cLine := by have := g.room.un; omega
theorem Gd.gl (g : Gd T N Γ k X W sc) {x : Str} (h : glB sc x = true) : Gl X x := by
  unfold glB at h
  show X.env.scope.names.lookup x = _
  rw [g.sc]
  exact of_decide_eq_true h
theorem Gd.vis (g : Gd T N Γ k X W sc) {x : Str} (h : visB sc x = true) : Vis X.env.scope x := by
  unfold visB at h
  unfold Vis
  rw [g.sc]
  split at h <;> first | exact .inl (by assumption) | exact .inr (.inl (by assumption)) | exact .inr (.inr (by assumption)) | cases h
theorem Gd.loc (g : Gd T N Γ k X W sc) {x : Str} (h : locB sc x = true) : L2.Loc X.env.scope x := by
  unfold locB at h
  unfold L2.Loc
  rw [g.sc]
  split at h <;> first | exact .inl (by assumption) | exact .inr (by assumption) | cases h
end
theorem nmB_dbg {x : Str} (h : nmB x = true) : (x == ("__debug__" : Str)) = false := by
  simp only [nmB, Bool.and_eq_true, Bool.not_eq_true'] at h; exact h.1.1
theorem nmB_cd {x : Str} (h : nmB x = true) : (x == ("__classdict__" : Str)) = false := by
  simp only [nmB, Bool.and_eq_true, Bool.not_eq_true'] at h; exact h.1.2
/-! ### going on -/
section
variable {T : Tab} {K : PySem.W.Frag} {W : WX} {Γ : Ctx} {H H' : Hp} {ι ι' κ : List Addr} {σ : L2.St} {ρ : Env} {S S' : Sto} {Q : VK}
theorem EnvR.up (h : EnvR K H ι κ σ ρ) (e : Ext H ι H' ι') (w : Wd T K H ι κ S) : EnvR K H' ι' κ σ ρ := h.mono e w.mut fun _ z => .inl z
theorem Rep.up {d : D} {v : V} (h : Rep K H ι κ d v) (e : Ext H ι H' ι') (w : Wd T K H ι κ S) : Rep K H' ι' κ d v := Rep.mono e w.mut (fun _ z => .inl z) h
theorem RepL.up {d : List D} {v : List V} (h : RepL K H ι κ d v) (e : Ext H ι H' ι') (w : Wd T K H ι κ S) : RepL K H' ι' κ d v := RepL.mono e w.mut (fun _ z => .inl z) h
theorem Post.of {o : Option D} (h : Post T K κ W σ (relV K κ) H ι (R.of o S) Q) : ∃ d, o = some d ∧ VPost T K ι κ H S d Q := by
  cases o with
  | none => exact h.elim
  | some d => exact ⟨d, rfl, fun v H' ι' e w r => h v H' ι' e w r⟩
theorem Post.val {d : D} (h : Post T K κ W σ (relV K κ) H ι (.ok d S) Q) : VPost T K ι κ H S d Q := fun v H' ι' e w r => h v H' ι' e w r
theorem PostN.val {d : D} (h : PostN T K κ W σ H ι (.ok d S) Q) : NPost T K ι κ H S d Q := fun p H' ι' hn e w r => h p H' ι' hn e w r
theorem PostN.of' {o : Option D} (h : PostN T K κ W σ H ι (R.of o S) Q) : ∃ d, o = some d ∧ NPost T K ι κ H S d Q := by
  cases o with
  | none => exact h.elim
  | some d => exact ⟨d, rfl, PostN.val h⟩
theorem PostN.trans {r : R D} {H1 : Hp} {ι1 : List Addr} (h : PostN T K κ W σ H ι r Q) (e : Ext H ι H1 ι1) (m : ∀ a ∈ ι1, Mut (H1 a)) : PostN T K κ W σ H1 ι1 r Q := by
  cases r with
  | ok a S => exact fun g H' ι' hn e' w q => h g H' ι' (Ext.none e m hn) (e.trans e') w q
  | exc C fs S => exact fun c d H' ι' e' w q => h c d H' ι' (e.trans e') w q
  | no => exact h
theorem PostN.bind {α γ : Type} {rel : Hp → List Addr → α → γ → Prop} {r : R α} {f : α → Sto → R D} {Q1 : γ → Hp → Prop} (h : PostN T K κ W σ H ι (r.bind f) Q)
    (g : ∀ a S1 c H1 ι1, Ext H ι H1 ι1 → Wd T K H1 ι1 κ S1 → rel H1 ι1 a c → PostN T K κ W σ H1 ι1 (f a S1) Q → Q1 c H1) : Post T K κ W σ rel H ι r Q1 := by
  cases r with
  | ok a S => exact fun c H' ι' e w q => g a S c H' ι' e w q (PostN.trans h e w.mut)
  | exc C fs S => exact h
  | no => exact h
theorem PostN.bindE {α γ : Type} {rel : Hp → List Addr → α → γ → Prop} {r : R α} {f : α → Sto → R D} {Q1 : γ → Hp → Prop} (h : PostN T K κ W σ H ι (r.bind f) Q)
    (g : ∀ a S1 c H1 ι1, r = .ok a S1 → Ext H ι H1 ι1 → Wd T K H1 ι1 κ S1 → rel H1 ι1 a c → PostN T K κ W σ H1 ι1 (f a S1) Q → Q1 c H1) : Post T K κ W σ rel H ι r Q1 := by
  cases r with
  | ok a S => exact fun c H' ι' e w q => g a S c H' ι' rfl e w q (PostN.trans h e w.mut)
  | exc C fs S => exact h
  | no => exact h
theorem evE_lst {zs : List Ex} {d : D} (h : evE Γ (.lst zs) ρ S = .ok d S') : ∃ ds, d = .lst ds := by
  simp only [evE] at h
  cases hr : evL Γ zs ρ S with
  | ok a S1 =>
    rw [hr] at h
    simp only [R.bind] at h
    split at h
    · cases h; exact ⟨_, rfl⟩
    · cases h
  | exc C fs S1 => rw [hr] at h; cases h
  | no => rw [hr] at h; cases h
/-! a change in the store -/
theorem Ext.set {a : Addr} {o : HO} (h : a ∈ ι) : Ext H ι (upd H a o) ι := ⟨fun b u n q => by rw [upd_ne (fun z => n (by rw [z]; exact h))]; exact q, fun _ z => .inl z, List.prefix_refl _⟩
theorem Wd.put {n : Nat} {a : Addr} {o : HO} {ob : O} (w : Wd T K H ι κ S) (ha : ι[n]? = some a) (hob : ObR T K (upd H a o) ι κ a ob) : Wd T K (upd H a o) ι κ (S.set n ob) where
  len := by rw [List.length_set]; exact w.len
  nd := w.nd
  dj := w.dj
  kt := fun b z => by
    by_cases e : b = a
    · rw [e]; exact ⟨o, upd_same⟩
    · obtain ⟨u, q⟩ := w.kt b z
      exact ⟨u, by rw [upd_ne e]; exact q⟩
  ob := fun m b u e1 e2 => by
    by_cases e : b = a
    · subst e
      have : m = n := by
        have h1 := (List.getElem?_eq_some_iff.mp e1)
        have h2 := (List.getElem?_eq_some_iff.mp ha)
        exact (List.getElem_inj w.nd).mp (h1.2.trans h2.2.symm)
      subst this
      rw [List.getElem?_set_self (by rw [← w.len]; exact (List.getElem?_eq_some_iff.mp ha).1)] at e2
      cases e2
      exact hob
    · have hm : n ≠ m := fun z => e (by rw [← z, ha] at e1; exact (Option.some.inj e1).symm)
      rw [List.getElem?_set_ne hm] at e2
      exact (w.ob m b u e1 e2).mono (Ext.set (List.mem_of_getElem? ha)) w.mut (fun _ z => .inl z) (upd_ne e)
end
/-! ### sound -/
structure Snd (T : Tab) (X : Cx) (W : WX) (Γ : Ctx) (x : Ex) (e : Expr) : Prop where
  pl : plainE e = true
  pe : PE X e (tE T X.K W Γ x)
  pt : tst e = true → PT X e (tBB T X.K W Γ x)
  pn : fresh x = true → PE X e (tN T X.K W Γ x)
inductive SndL (T : Tab) (X : Cx) (W : WX) (Γ : Ctx) : List Ex → List Expr → Prop where
  | nil : SndL T X W Γ [] []
  | cons {x : Ex} {e : Expr} {xs : List Ex} {es : List Expr} : Snd T X W Γ x e → SndL T X W Γ xs es → SndL T X W Γ (x :: xs) (e :: es)
section
variable {T : Tab} {N : List Str} {Γ : Ctx} {k : Nat} {X : Cx} {W : WX} {sc : Scope} {x y z : Ex} {a b c e : Expr} {xs : List Ex} {es : List Expr} {pos : Pos}
theorem SndL.plain (h : SndL T X W Γ xs es) : es.all plainE = true := by
  induction h with
  | nil => rfl
  | cons h _ ih => simp only [List.all_cons, h.pl, ih, Bool.and_true]
theorem SndL.length (h : SndL T X W Γ xs es) : xs.length = es.length := by
  induction h with
  | nil => rfl
  | cons _ _ ih => simp [ih]
theorem SndL.pa (h : SndL T X W Γ xs es) : PA X es (tA T X.K W Γ xs) := by
  induction h with
  | nil =>
    refine PA.wk pa_nil fun σ H Q ⟨ι, κ, S, ρ, w, en, p⟩ => ?_
    simp only [evL] at p
    exact p [] H ι Ext.refl w rfl
  | cons h t ih =>
    refine PA.wk (pa_cons h.pe ih (star_plain h.pl)) fun σ H Q ⟨ι, κ, S, ρ, w, en, p⟩ => ?_
    simp only [evL] at p
    refine ⟨ι, κ, S, ρ, w, en, p.bind fun d S1 v H1 ι1 e1 w1 r1 p1 => ⟨ι1, κ, S1, ρ, w1, en.up e1 w, p1.bind fun ds S2 vs H2 ι2 e2 w2 r2 p2 => ?_⟩⟩
    refine p2 (v :: vs) H2 ι2 Ext.refl w2 ?_
    show RepL X.K H2 ι2 κ (d :: ds) (v :: vs)
    simp only [RepL]
    exact ⟨v, vs, rfl, Rep.up r1 e2 w1, r2⟩
theorem tB_of {σ : L2.St} {H : Hp} {Q : Bool → Hp → Prop} (h : tBB T X.K W Γ x σ H Q) : L2.tB (tE T X.K W Γ x) σ H Q := by
  obtain ⟨ι, κ, S, ρ, w, en, p⟩ := h
  refine ⟨ι, κ, S, ρ, w, en, p.bind fun d S1 v H1 ι1 e1 w1 r1 p1 => ?_⟩
  cases d with
  | bl c =>
    have r1 : Rep X.K H1 ι1 κ (.bl c) v := r1
    simp only [Rep] at r1
    exact ⟨c, r1, p1 c H1 ι1 Ext.refl w1 rfl⟩
  | _ => exact p1.elim
/-- from its value alone -/
theorem Snd.of (hf : flatE e = true) (hp : plainE e = true) (h : PE X e (tE T X.K W Γ x)) (n : fresh x = false) : Snd T X W Γ x e :=
  ⟨hp, h, fun _ => PT.wk (pt_val h (test_flat hf)) fun _ _ _ => tB_of, fun z => by rw [n] at z; cases z⟩
theorem Snd.ofN (hf : flatE e = true) (hp : plainE e = true) (h : PE X e (tN T X.K W Γ x)) : Snd T X W Γ x e :=
  ⟨hp, PE.wk (PE.relock h) fun _ _ _ => tE_of_tN, fun _ => PT.wk (pt_val (PE.wk (PE.relock h) fun _ _ _ => tE_of_tN) (test_flat hf)) fun _ _ _ => tB_of, fun _ => h⟩
theorem s_mut (hf : flatE e = true) (h : Snd T X W Γ x e) (n : fresh x = true) : Snd T X W Γ (.mut x) e :=
  .of hf h.pl (PE.wk (h.pn n) fun _ _ _ => tN_mut) rfl
/-! names, constants -/
theorem s_var (g : Gd T N Γ k X W sc) {i : Nat} {n : Str} (hN : N[i]? = some n) (hv : visB sc n = true) (hn : nmB n = true) : Snd T X W Γ (.var i) (.Name n pos) := by
  refine .of rfl rfl (PE.wk (pe_var (by rw [g.hN]; exact hN) (g.vis hv) (nmB_dbg hn) (nmB_cd hn)) fun σ H Q ⟨ι, κ, S, ρ, w, en, p⟩ => ?_) rfl
  simp only [evE] at p
  obtain ⟨d, ed, q⟩ := p.of
  have : ρ[i]? = some (some d) := by
    unfold Env.get at ed
    split at ed <;> first | (rename_i h; rw [h, ed]) | cases ed
  obtain ⟨v, h1, h2⟩ := en.2 i d this
  exact ⟨v, h1, q.same w h2⟩
theorem s_con {d : D} (h : conM d e = true) : Snd T X W Γ (.con d) e := by
  unfold conM at h
  split at h
  · exact .of rfl rfl (PE.wk pe_non fun σ H Q ⟨ι, κ, S, ρ, w, en, p⟩ => by simp only [evE] at p; exact p.val.same w (by simp only [Rep])) rfl
  · rename_i b c _ _
    obtain rfl : b = c := by simpa using h
    exact .of rfl rfl (PE.wk pe_bl fun σ H Q ⟨ι, κ, S, ρ, w, en, p⟩ => by simp only [evE] at p; exact p.val.same w (by simp only [Rep])) rfl
  · obtain rfl := of_decide_eq_true h
    exact .of rfl rfl (PE.wk pe_int fun σ H Q ⟨ι, κ, S, ρ, w, en, p⟩ => by simp only [evE] at p; exact p.val.same w (by simp only [Rep])) rfl
  · simp only [Bool.and_eq_true, decide_eq_true_eq] at h
    obtain ⟨rfl, hs⟩ := h
    exact .of rfl rfl (PE.wk pe_str fun σ H Q ⟨ι, κ, S, ρ, w, en, p⟩ => by simp only [evE] at p; exact p.val.same w (by simp only [Rep]; exact ⟨trivial, hs⟩)) rfl
  · cases h
theorem s_glo (g : Gd T N Γ k X W sc) {n : Str} {d : D} (hm : (n, d) ∈ T.consts) (hg : glB sc n = true) (hn : nmB n = true) : Snd T X W Γ (.glo n d) (.Name n pos) := by
  obtain ⟨u, v, h1, h2, h3⟩ := g.glo.con n d hm
  exact .of rfl rfl (PE.wk (pe_glob (g.gl hg) h1 h2 (nmB_dbg hn)) fun σ H Q ⟨ι, κ, S, ρ, w, en, p⟩ => by simp only [evE] at p; exact p.val.same w (h3 H ι κ)) rfl
theorem s_tup {m : Nat} (h : SndL T X W Γ xs es) : Snd T X W Γ (.tup xs) (.Tuple es m pos) := by
  refine .of rfl rfl (PE.wk (pe_tupF h.pa) fun σ H Q ⟨ι, κ, S, ρ, w, en, p⟩ => ?_) rfl
  simp only [evE] at p
  refine ⟨ι, κ, S, ρ, w, en, p.bind fun ds S1 vs H1 ι1 e1 w1 r1 p1 => ?_⟩
  split at p1
  · rename_i hl
    exact ⟨LIM_line (by rw [← RepL.length r1]; exact hl), p1.val.newT w1 r1⟩
  · exact p1.elim
theorem s_lst (h : SndL T X W Γ xs es) : Snd T X W Γ (.lst xs) (.List es pos) := by
  refine .ofN rfl rfl (PE.wk (pe_lst h.pa) fun σ H Q ⟨ι, κ, S, ρ, w, en, p⟩ => ?_)
  simp only [evE] at p
  refine ⟨ι, κ, S, ρ, w, en, p.bind fun ds S1 vs H1 ι1 e1 w1 r1 p1 => ?_⟩
  split at p1
  · rename_i hl
    exact ⟨LIM_line (by rw [← RepL.length r1]; exact hl), fun q hq => p1.val.lst w1 r1 hq⟩
  · exact p1.elim
theorem s_dk : Snd T X W Γ .dk (.Dict [] [] pos) := by
  refine .ofN rfl rfl (PE.wk pe_dnewK fun σ H Q ⟨ι, κ, S, ρ, w, en, p⟩ q hq => ?_)
  simp only [evE] at p
  exact p.val.dic w (vs := []) (by simp only [RepK]) hq
theorem s_dt : Snd T X W Γ .dt (.Dict [] [] pos) := by
  refine .ofN rfl rfl (PE.wk pe_dnewT fun σ H Q ⟨ι, κ, S, ρ, w, en, p⟩ q hq => ?_)
  simp only [evE] at p
  exact p.val.dit w (vs := []) (by simp only [RepT]) hq
/-! operators -/
theorem s_op {o : Operator} (ha : Snd T X W Γ x a) (hb : Snd T X W Γ y b) : Snd T X W Γ (.op o x y) (.BinOp a o b pos) := by
  have h : PE X (.BinOp a o b pos) (tE T X.K W Γ (.op o x y)) := by
    refine PE.wk (pe_op (op_sound (T := T) o) ha.pe hb.pe) fun σ H Q ⟨ι, κ, S, ρ, w, en, p⟩ => ?_
    simp only [evE] at p
    refine ⟨ι, κ, S, ρ, w, en, p.bind fun d S1 v H1 ι1 e1 w1 r1 p1 => ⟨ι1, κ, S1, ρ, w1, en.up e1 w, p1.bind fun d2 S2 u H2 ι2 e2 w2 r2 p2 => ?_⟩⟩
    obtain ⟨z, hz, q⟩ := p2.of
    exact ⟨ι2, κ, S2, d, d2, z, w2, Rep.up r1 e2 w1, r2, hz, q⟩
  refine ⟨rfl, h, fun _ => PT.wk (pt_val h (test_flat rfl)) fun _ _ _ => tB_of, fun hf => ?_⟩
  have hx : ∃ zs, x = .lst zs := by
    unfold fresh at hf
    split at hf
    all_goals first | (cases hf; done) | skip
    all_goals first | exact ⟨_, rfl⟩ | (rename_i e _; cases e; exact ⟨_, rfl⟩) | (rename_i e; cases e; exact ⟨_, rfl⟩) | (rename_i e; cases e)
  obtain ⟨zs, rfl⟩ := hx
  refine PE.wk (pe_op (op_soundN (T := T) o) ha.pe hb.pe) fun σ H Q ⟨ι, κ, S, ρ, w, en, p⟩ => ?_
  rw [show evE Γ (.op o (.lst zs) y) ρ S = (evE Γ (.lst zs) ρ S).bind fun x S => (evE Γ y ρ S).bind fun y S => R.of (opD o x y) S by conv => lhs; rw [evE]] at p
  refine ⟨ι, κ, S, ρ, w, en, ?_⟩
  refine PostN.bindE p fun d S1 v H1 ι1 he e1 w1 r1 p1 => ⟨ι1, κ, S1, ρ, w1, en.up e1 w, PostN.bind p1 fun d2 S2 u H2 ι2 e2 w2 r2 p2 => ?_⟩
  obtain ⟨ds, hd⟩ := evE_lst he
  obtain ⟨z, hz, q⟩ := PostN.of' p2
  exact ⟨ι2, κ, S2, d, d2, z, ds, w2, Rep.up r1 e2 w1, r2, hd, hz, q⟩
theorem s_neg (ha : Snd T X W Γ x a) : Snd T X W Γ (.neg x) (.UnaryOp .USub a pos) := by
  refine .of rfl rfl (PE.wk (pe_un un_neg ha.pe) fun σ H Q ⟨ι, κ, S, ρ, w, en, p⟩ => ?_) rfl
  simp only [evE] at p
  refine ⟨ι, κ, S, ρ, w, en, p.bind fun d S1 v H1 ι1 e1 w1 r1 p1 => ?_⟩
  cases d with
  | int i =>
    have r1 : Rep X.K H1 ι1 κ (.int i) v := r1
    simp only [Rep] at r1
    exact ⟨i, r1, p1.val.same w1 (by simp only [Rep])⟩
  | _ => exact p1.elim
theorem i_cmp {o : CmpOp} {σ : L2.St} {H : Hp} {Q : VK} (h : tE T X.K W Γ (.cmp o x y) σ H Q) : tOp (rCmp T X.K o) (tE T X.K W Γ x) (tE T X.K W Γ y) σ H Q := by
  obtain ⟨ι, κ, S, ρ, w, en, p⟩ := h
  simp only [evE] at p
  refine ⟨ι, κ, S, ρ, w, en, p.bind fun d S1 v H1 ι1 e1 w1 r1 p1 => ⟨ι1, κ, S1, ρ, w1, en.up e1 w, p1.bind fun d2 S2 u H2 ι2 e2 w2 r2 p2 => ?_⟩⟩
  split at p2
  · rename_i c hc
    exact ⟨ι2, κ, S2, d, d2, c, w2, Rep.up r1 e2 w1, r2, hc, p2.val.same w2 (by simp only [Rep])⟩
  · exact p2.elim
theorem s_cmp (g : Gd T N Γ k X W sc) {o : CmpOp} (ha : Snd T X W Γ x a) (hb : Snd T X W Γ y b) : Snd T X W Γ (.cmp o x y) (.Compare a [o] [b] pos) :=
  ⟨rfl, PE.wk (pe_cmpR (cmp_sound (T := T) g.hu o) ha.pe hb.pe (behind_plain hb.pl)) fun _ _ _ => i_cmp,
   fun _ => PT.wk (pt_cmpR (cmp_sound (T := T) g.hu o) ha.pe hb.pe (behind_plain hb.pl)) fun _ _ _ h => i_cmp (tB_of h), fun z => by cases z⟩
theorem i_chn {o o' : CmpOp} {σ : L2.St} {H : Hp} {Q : VK} (h : tE T X.K W Γ (.chn o o' x y z) σ H Q) : tChain (rCmp T X.K o) (rCmp T X.K o') (tE T X.K W Γ x) (tE T X.K W Γ y) (tE T X.K W Γ z) σ H Q := by
  obtain ⟨ι, κ, S, ρ, w, en, p⟩ := h
  simp only [evE] at p
  refine ⟨ι, κ, S, ρ, w, en, p.bind fun d S1 v H1 ι1 e1 w1 r1 p1 => ⟨ι1, κ, S1, ρ, w1, en.up e1 w, p1.bind fun d2 S2 u H2 ι2 e2 w2 r2 p2 => ?_⟩⟩
  split at p2
  · rename_i hc
    refine ⟨ι2, κ, S2, d, d2, true, w2, Rep.up r1 e2 w1, r2, hc, true, rfl, ?_⟩
    rw [if_pos rfl]
    refine ⟨ι2, κ, S2, ρ, w2, (en.up e1 w).up e2 w1, p2.bind fun d3 S3 u3 H3 ι3 e3 w3 r3 p3 => ?_⟩
    split at p3
    · rename_i c hc3
      exact ⟨ι3, κ, S3, d2, d3, c, w3, Rep.up r2 e3 w2, r3, hc3, p3.val.same w3 (by simp only [Rep])⟩
    · exact p3.elim
  · rename_i hc
    refine ⟨ι2, κ, S2, d, d2, false, w2, Rep.up r1 e2 w1, r2, hc, false, rfl, ?_⟩
    rw [if_neg Bool.false_ne_true]
    exact p2.val.same w2 (by simp only [Rep])
  · exact p2.elim
theorem s_chn (g : Gd T N Γ k X W sc) {o o' : CmpOp} (ha : Snd T X W Γ x a) (hb : Snd T X W Γ y b) (hc : Snd T X W Γ z c) : Snd T X W Γ (.chn o o' x y z) (.Compare a [o, o'] [b, c] pos) :=
  ⟨rfl, PE.wk (pe_chain (cmp_sound (T := T) g.hu o) (cmp_sound (T := T) g.hu o') ha.pe hb.pe hc.pe (behind_plain hc.pl)) fun _ _ _ => i_chn,
   fun _ => PT.wk (pt_chain (cmp_sound (T := T) g.hu o) (cmp_sound (T := T) g.hu o') ha.pe hb.pe hc.pe (behind_plain hc.pl)) fun _ _ _ h => i_chn (tB_of h), fun z => by cases z⟩
/-! truth -/
theorem s_not (ha : Snd T X W Γ x a) (ht : tst a = true) : Snd T X W Γ (.not x) (.UnaryOp .Not a pos) := by
  refine ⟨rfl, PE.wk (pe_not ha.pe) fun σ H Q ⟨ι, κ, S, ρ, w, en, p⟩ => ?_, fun _ => PT.wk (pt_not (ha.pt ht)) fun σ H Q ⟨ι, κ, S, ρ, w, en, p⟩ => ?_, fun z => by cases z⟩
  · simp only [evE] at p
    refine ⟨ι, κ, S, ρ, w, en, p.bind fun d S1 v H1 ι1 e1 w1 r1 p1 => ?_⟩
    cases d with
    | bl c =>
      have r1 : Rep X.K H1 ι1 κ (.bl c) v := r1
      simp only [Rep] at r1
      exact ⟨c, r1, p1.val.same w1 (by simp only [Rep])⟩
    | _ => exact p1.elim
  · simp only [evE] at p
    refine ⟨ι, κ, S, ρ, w, en, ?_⟩
    cases hx : evE Γ x ρ S with
    | ok d S1 =>
      rw [hx] at p
      cases d with
      | bl c => exact fun g H' ι' e w' q => p (!g) H' ι' e w' (by show (!c) = (!g); rw [show c = g from q])
      | _ => exact p.elim
    | exc C fs S1 => rw [hx] at p; exact p
    | no => rw [hx] at p; exact p
theorem s_ite (hc : Snd T X W Γ x c) (ht : tst c = true) (ha : Snd T X W Γ y a) (hb : Snd T X W Γ z b) : Snd T X W Γ (.ite x y z) (.IfExp c a b pos) := by
  refine ⟨rfl, PE.wk (pe_ifExp (hc.pt ht) ha.pe hb.pe) fun σ H Q ⟨ι, κ, S, ρ, w, en, p⟩ => ?_, fun z => by simp [tst] at z, fun z => by cases z⟩
  simp only [evE] at p
  refine ⟨ι, κ, S, ρ, w, en, ?_⟩
  cases hx : evE Γ x ρ S with
  | ok d S1 =>
    rw [hx] at p
    cases d with
    | bl v =>
      intro g H' ι' e w' q
      obtain rfl : v = g := q
      have p : Post T X.K κ W σ (relV X.K κ) H ι (match D.bl v with | .bl true => evE Γ y ρ S1 | .bl false => evE Γ z ρ S1 | _ => .no) Q := p
      cases v with
      | true => rw [if_pos rfl]; exact ⟨ι', κ, S1, ρ, w', en.up e w, Post.trans p e⟩
      | false => rw [if_neg Bool.false_ne_true]; exact ⟨ι', κ, S1, ρ, w', en.up e w, Post.trans p e⟩
    | _ => exact p.elim
  | exc C fs S1 => rw [hx] at p; exact p
  | no => rw [hx] at p; exact p
end
end MP
end

section
set_option Elab.async false
set_option linter.all false
set_option maxRecDepth 100000
/-! MpJ: and, or; subscripts, slices; calls; methods; fields. -/
namespace MP
open PySem PySem.Spec PyProof.Rows L2
section
variable {T : Tab} {N : List Str} {Γ : Ctx} {k : Nat} {X : Cx} {W : WX} {sc : Scope} {x y z : Ex} {a b c e : Expr} {xs : List Ex} {es : List Expr} {pos : Pos}
/-! and, or -/
theorem bl_of {K : PySem.W.Frag} {H : Hp} {ι κ : List Addr} {b : Bool} {v : V} (h : relV K κ H ι (.bl b) v) : v = .bl b := by
  have h : Rep K H ι κ (.bl b) v := h
  simpa only [Rep] using h
theorem and_pe (h : SndL T X W Γ xs es) (hne : xs ≠ []) : PE X (.BoolOp .And es pos) fun σ H Q => ∃ ι κ S ρ, Wd T X.K H ι κ S ∧ EnvR X.K H ι κ σ ρ ∧ Post T X.K κ W σ (relV X.K κ) H ι (evAnd Γ xs ρ S) Q := by
  induction h with
  | nil => exact absurd rfl hne
  | @cons x e xs es hx ht ih =>
    cases ht with
    | nil =>
      refine PE.wk (pe_one hx.pe) fun σ H Q ⟨ι, κ, S, ρ, w, en, p⟩ => ?_
      simp only [evAnd] at p
      exact ⟨ι, κ, S, ρ, w, en, p⟩
    | @cons x' e' xs' es' hx' ht' =>
      refine PE.wk (pe_and hx.pe (ih (by simp))) fun σ H Q ⟨ι, κ, S, ρ, w, en, p⟩ => ?_
      rw [show evAnd Γ (x :: x' :: xs') ρ S = (evE Γ x ρ S).bind fun d S => match d with
        | .bl true => evAnd Γ (x' :: xs') ρ S
        | .bl false => .ok (.bl false) S
        | _ => .no from rfl] at p
      refine ⟨ι, κ, S, ρ, w, en, p.bind fun d S1 v H1 ι1 e1 w1 r1 p1 => ?_⟩
      cases d with
      | bl c =>
        refine ⟨c, bl_of r1, ?_⟩
        cases c with
        | true => rw [if_pos rfl]; exact ⟨ι1, κ, S1, ρ, w1, en.up e1 w, p1⟩
        | false => rw [if_neg Bool.false_ne_true]; exact p1.val.same w1 (by simp only [Rep])
      | _ => exact p1.elim
theorem or_pe (h : SndL T X W Γ xs es) (hne : xs ≠ []) : PE X (.BoolOp .Or es pos) fun σ H Q => ∃ ι κ S ρ, Wd T X.K H ι κ S ∧ EnvR X.K H ι κ σ ρ ∧ Post T X.K κ W σ (relV X.K κ) H ι (evOr Γ xs ρ S) Q := by
  induction h with
  | nil => exact absurd rfl hne
  | @cons x e xs es hx ht ih =>
    cases ht with
    | nil =>
      refine PE.wk (pe_one hx.pe) fun σ H Q ⟨ι, κ, S, ρ, w, en, p⟩ => ?_
      simp only [evOr] at p
      exact ⟨ι, κ, S, ρ, w, en, p⟩
    | @cons x' e' xs' es' hx' ht' =>
      refine PE.wk (pe_or hx.pe (ih (by simp))) fun σ H Q ⟨ι, κ, S, ρ, w, en, p⟩ => ?_
      rw [show evOr Γ (x :: x' :: xs') ρ S = (evE Γ x ρ S).bind fun d S => match d with
        | .bl false => evOr Γ (x' :: xs') ρ S
        | .bl true => .ok (.bl true) S
        | _ => .no from rfl] at p
      refine ⟨ι, κ, S, ρ, w, en, p.bind fun d S1 v H1 ι1 e1 w1 r1 p1 => ?_⟩
      cases d with
      | bl c =>
        refine ⟨c, bl_of r1, ?_⟩
        cases c with
        | false => rw [if_neg Bool.false_ne_true]; exact ⟨ι1, κ, S1, ρ, w1, en.up e1 w, p1⟩
        | true => rw [if_pos rfl]; exact p1.val.same w1 (by simp only [Rep])
      | _ => exact p1.elim
/-- the end of a test -/
theorem Post.test {σ : L2.St} {H : Hp} {ι κ : List Addr} {S : Sto} {r : R D} {k : D → Sto → R D} {Q : Bool → Hp → Prop} {Q1 : Bool → Hp → Prop} (p : Post T X.K κ W σ relB H ι ((r.bind k).bind asB) Q)
    (no : ∀ d S, (∀ b, d ≠ .bl b) → k d S = .no) (f : ∀ b S1 H1 ι1, Ext H ι H1 ι1 → Wd T X.K H1 ι1 κ S1 → Post T X.K κ W σ relB H1 ι1 ((k (.bl b) S1).bind asB) Q → Q1 b H1) : Post T X.K κ W σ relB H ι (r.bind asB) Q1 := by
  cases r with
  | ok d S1 =>
    have p : Post T X.K κ W σ relB H ι ((k d S1).bind asB) Q := p
    cases d with
    | bl b =>
      intro g H' ι' e w q
      obtain rfl : b = g := q
      exact f b S1 H' ι' e w (Post.trans p e)
    | _ => rw [no _ _ (by intro b h; cases h)] at p; exact p
  | exc C fs S1 => exact p
  | no => exact p
theorem and_pt (h : SndL T X W Γ xs es) (hne : xs ≠ []) (hts : es.all tst = true) : PW X (.BoolOp .And es pos) fun σ H Q => ∃ ι κ S ρ, Wd T X.K H ι κ S ∧ EnvR X.K H ι κ σ ρ ∧ Post T X.K κ W σ relB H ι ((evAnd Γ xs ρ S).bind asB) Q := by
  induction h with
  | nil => exact absurd rfl hne
  | @cons x e xs es hx ht ih =>
    simp only [List.all_cons, Bool.and_eq_true] at hts
    cases ht with
    | nil =>
      refine ⟨fun wh pins s σ H Q I ⟨ι, κ, S, ρ, w, en, p⟩ => (pw_and1 (hx.pt hts.1)).run wh pins s σ H Q I ?_⟩
      simp only [evAnd] at p
      exact ⟨ι, κ, S, ρ, w, en, p⟩
    | @cons x' e' xs' es' hx' ht' =>
      refine ⟨fun wh pins s σ H Q I ⟨ι, κ, S, ρ, w, en, p⟩ => (pw_and (hx.pt hts.1) (ih (by simp) hts.2)).run wh pins s σ H Q I ?_⟩
      rw [show evAnd Γ (x :: x' :: xs') ρ S = (evE Γ x ρ S).bind fun d S => match d with
        | .bl true => evAnd Γ (x' :: xs') ρ S
        | .bl false => .ok (.bl false) S
        | _ => .no from rfl] at p
      refine ⟨ι, κ, S, ρ, w, en, Post.test (S := S) p (fun d S h => ?_) fun b S1 H1 ι1 e1 w1 p1 => ?_⟩
      · cases d <;> first | rfl | exact absurd rfl (h _)
      · cases b with
        | true => rw [if_pos rfl]; exact ⟨ι1, κ, S1, ρ, w1, en.up e1 w, p1⟩
        | false => rw [if_neg Bool.false_ne_true]; exact p1 false H1 ι1 Ext.refl w1 rfl
theorem or_pt (h : SndL T X W Γ xs es) (hne : xs ≠ []) (hts : es.all tst = true) : PW X (.BoolOp .Or es pos) fun σ H Q => ∃ ι κ S ρ, Wd T X.K H ι κ S ∧ EnvR X.K H ι κ σ ρ ∧ Post T X.K κ W σ relB H ι ((evOr Γ xs ρ S).bind asB) Q := by
  induction h with
  | nil => exact absurd rfl hne
  | @cons x e xs es hx ht ih =>
    simp only [List.all_cons, Bool.and_eq_true] at hts
    cases ht with
    | nil =>
      refine ⟨fun wh pins s σ H Q I ⟨ι, κ, S, ρ, w, en, p⟩ => (pw_or1 (hx.pt hts.1)).run wh pins s σ H Q I ?_⟩
      simp only [evOr] at p
      exact ⟨ι, κ, S, ρ, w, en, p⟩
    | @cons x' e' xs' es' hx' ht' =>
      refine ⟨fun wh pins s σ H Q I ⟨ι, κ, S, ρ, w, en, p⟩ => (pw_or (hx.pt hts.1) (ih (by simp) hts.2)).run wh pins s σ H Q I ?_⟩
      rw [show evOr Γ (x :: x' :: xs') ρ S = (evE Γ x ρ S).bind fun d S => match d with
        | .bl false => evOr Γ (x' :: xs') ρ S
        | .bl true => .ok (.bl true) S
        | _ => .no from rfl] at p
      refine ⟨ι, κ, S, ρ, w, en, Post.test (S := S) p (fun d S h => ?_) fun b S1 H1 ι1 e1 w1 p1 => ?_⟩
      · cases d <;> first | rfl | exact absurd rfl (h _)
      · cases b with
        | false => rw [if_neg Bool.false_ne_true]; exact ⟨ι1, κ, S1, ρ, w1, en.up e1 w, p1⟩
        | true => rw [if_pos rfl]; exact p1 true H1 ι1 Ext.refl w1 rfl
theorem s_and (h : SndL T X W Γ xs es) (hne : xs ≠ []) (hts : es.all tst = true) : Snd T X W Γ (.and xs) (.BoolOp .And es pos) :=
  ⟨rfl, PE.wk (and_pe h hne) fun σ H Q ⟨ι, κ, S, ρ, w, en, p⟩ => ⟨ι, κ, S, ρ, w, en, by simpa only [evE] using p⟩,
   fun _ => PT.wk (and_pt h hne hts).pt fun σ H Q ⟨ι, κ, S, ρ, w, en, p⟩ => ⟨ι, κ, S, ρ, w, en, by simpa only [evE] using p⟩, fun z => by cases z⟩
theorem s_or (h : SndL T X W Γ xs es) (hne : xs ≠ []) (hts : es.all tst = true) : Snd T X W Γ (.or xs) (.BoolOp .Or es pos) :=
  ⟨rfl, PE.wk (or_pe h hne) fun σ H Q ⟨ι, κ, S, ρ, w, en, p⟩ => ⟨ι, κ, S, ρ, w, en, by simpa only [evE] using p⟩,
   fun _ => PT.wk (or_pt h hne hts).pt fun σ H Q ⟨ι, κ, S, ρ, w, en, p⟩ => ⟨ι, κ, S, ρ, w, en, by simpa only [evE] using p⟩, fun z => by cases z⟩
/-! subscripts -/
theorem s_ix (g : Gd T N Γ k X W sc) (ha : Snd T X W Γ x a) (hb : Snd T X W Γ y b) : Snd T X W Γ (.ix x y) (.Subscript a b pos) := by
  refine .of rfl rfl (PE.wk (pe_ix (ix_sound (T := T) (by have := g.hu; omega)) ha.pe hb.pe (ix_plain hb.pl)) fun σ H Q ⟨ι, κ, S, ρ, w, en, p⟩ => ?_) rfl
  simp only [evE] at p
  refine ⟨ι, κ, S, ρ, w, en, p.bind fun d S1 v H1 ι1 e1 w1 r1 p1 => ⟨ι1, κ, S1, ρ, w1, en.up e1 w, p1.bind fun d2 S2 u H2 ι2 e2 w2 r2 p2 => ?_⟩⟩
  obtain ⟨z, hz, q⟩ := p2.of
  exact ⟨ι2, κ, S2, d, d2, z, w2, Rep.up r1 e2 w1, r2, hz, q⟩
theorem s_sl {p2 : Pos} (ha : Snd T X W Γ x a) : Snd T X W Γ (.sl x) (.Subscript a (.Slice none none none p2) pos) := by
  refine .of rfl rfl (PE.wk (pe_slice (sl_sound (T := T)) ha.pe po_none po_none) fun σ H Q ⟨ι, κ, S, ρ, w, en, p⟩ => ?_) rfl
  simp only [evE] at p
  refine ⟨ι, κ, S, ρ, w, en, p.bind fun d S1 v H1 ι1 e1 w1 r1 p1 => ?_⟩
  obtain ⟨z, hz, q⟩ := p1.of
  exact ⟨ι1, κ, S1, d, z, w1, r1, hz, q⟩
theorem s_slL {p2 : Pos} (ha : Snd T X W Γ x a) (hb : Snd T X W Γ y b) : Snd T X W Γ (.slL x y) (.Subscript a (.Slice (some b) none none p2) pos) := by
  refine .of rfl rfl (PE.wk (pe_slice (sl_sound (T := T)) ha.pe (po_some hb.pe) po_none) fun σ H Q ⟨ι, κ, S, ρ, w, en, p⟩ => ?_) rfl
  simp only [evE] at p
  refine ⟨ι, κ, S, ρ, w, en, p.bind fun d S1 v H1 ι1 e1 w1 r1 p1 => ⟨ι1, κ, S1, ρ, w1, en.up e1 w, p1.bind fun d2 S2 u H2 ι2 e2 w2 r2 p2 => ?_⟩⟩
  cases d2 with
  | int i =>
    have r2 : Rep X.K H2 ι2 κ (.int i) u := r2
    simp only [Rep] at r2
    obtain ⟨z, hz, q⟩ := p2.of
    exact ⟨i, r2, ι2, κ, S2, d, z, w2, Rep.up r1 e2 w1, hz, q⟩
  | _ => exact p2.elim
theorem s_slH {p2 : Pos} (ha : Snd T X W Γ x a) (hb : Snd T X W Γ y b) : Snd T X W Γ (.slH x y) (.Subscript a (.Slice none (some b) none p2) pos) := by
  refine .of rfl rfl (PE.wk (pe_slice (sl_sound (T := T)) ha.pe po_none (po_some hb.pe)) fun σ H Q ⟨ι, κ, S, ρ, w, en, p⟩ => ?_) rfl
  simp only [evE] at p
  refine ⟨ι, κ, S, ρ, w, en, p.bind fun d S1 v H1 ι1 e1 w1 r1 p1 => ⟨ι1, κ, S1, ρ, w1, en.up e1 w, p1.bind fun d2 S2 u H2 ι2 e2 w2 r2 p2 => ?_⟩⟩
  cases d2 with
  | int i =>
    have r2 : Rep X.K H2 ι2 κ (.int i) u := r2
    simp only [Rep] at r2
    obtain ⟨z, hz, q⟩ := p2.of
    exact ⟨i, r2, ι2, κ, S2, d, z, w2, Rep.up r1 e2 w1, hz, q⟩
  | _ => exact p2.elim
theorem s_slB {p2 : Pos} (ha : Snd T X W Γ x a) (hb : Snd T X W Γ y b) (hc : Snd T X W Γ z c) : Snd T X W Γ (.slB x y z) (.Subscript a (.Slice (some b) (some c) none p2) pos) := by
  refine .of rfl rfl (PE.wk (pe_slice (sl_sound (T := T)) ha.pe (po_some hb.pe) (po_some hc.pe)) fun σ H Q ⟨ι, κ, S, ρ, w, en, p⟩ => ?_) rfl
  simp only [evE] at p
  refine ⟨ι, κ, S, ρ, w, en, p.bind fun d S1 v H1 ι1 e1 w1 r1 p1 => ⟨ι1, κ, S1, ρ, w1, en.up e1 w, p1.bind fun d2 S2 u H2 ι2 e2 w2 r2 p2 => ?_⟩⟩
  cases d2 with
  | int i =>
    have r2 : Rep X.K H2 ι2 κ (.int i) u := r2
    simp only [Rep] at r2
    refine ⟨i, r2, ι2, κ, S2, ρ, w2, (en.up e1 w).up e2 w1, p2.bind fun d3 S3 u3 H3 ι3 e3 w3 r3 p3 => ?_⟩
    cases d3 with
    | int j =>
      have r3 : Rep X.K H3 ι3 κ (.int j) u3 := r3
      simp only [Rep] at r3
      obtain ⟨z, hz, q⟩ := p3.of
      exact ⟨j, r3, ι3, κ, S3, d, z, w3, Rep.up (Rep.up r1 e2 w1) e3 w2, hz, q⟩
    | _ => exact p3.elim
  | _ => exact p2.elim
/-! calls -/
theorem spF_of {σ : L2.St} {H : Hp} {ι κ : List Addr} {S : Sto} {f n : Nat} {ds : List D} {vs : List V} {Q : VK} (w : Wd T X.K H ι κ S) (r : RepL X.K H ι κ ds vs) (hl : ∀ ds S, Γ.F f ds S = .no ∨ ds.length = n) (p : Post T X.K κ W σ (relV X.K κ) H ι (Γ.F f ds S) Q) :
    spF T X.K Γ n f vs H Q (WE W σ) := by
  refine ⟨ι, κ, S, ds, w, r, ?_, ?_⟩
  · rcases hl ds S with h | h
    · rw [h] at p; exact p.elim
    · rw [← RepL.length r]; exact h
  cases hr : Γ.F f ds S with
  | ok d S1 => rw [hr] at p; exact p
  | exc C fs S1 => rw [hr] at p; exact p
  | no => rw [hr] at p; exact p
end
end MP
end

section
set_option Elab.async false
set_option linter.all false
set_option maxRecDepth 100000
/-! MpK: calls, methods, fields. -/
namespace MP
open PySem PySem.Spec PyProof.Rows L2
theorem putF_rep {K : PySem.W.Frag} {H : Hp} {ι κ : List Addr} {f : Str} {d : D} {v : V} (hv : Rep K H ι κ d v) : ∀ {fs : List (Str × D)} {gs : List (Str × V)}, RepF K H ι κ fs gs → RepF K H ι κ (putFld f d fs) (putF f v gs)
  | [], gs, h => by
    have h : gs = [] := h
    subst h
    exact ⟨v, [], rfl, hv, rfl⟩
  | (j, e) :: fs, gs, ⟨u, r, hg, hu, hr⟩ => by
    subst hg
    unfold putFld putF
    by_cases hj : j = f
    · rw [if_pos hj, if_pos hj, hj]; exact ⟨v, r, rfl, hv, hr⟩
    · rw [if_neg hj, if_neg hj]; exact ⟨u, _, rfl, hu, putF_rep hv hr⟩
theorem lookup_rep {K : PySem.W.Frag} {H : Hp} {ι κ : List Addr} {f : Str} : ∀ {fs : List (Str × D)} {gs : List (Str × V)}, RepF K H ι κ fs gs → (∀ d, fs.lookup f = some d → ∃ v, gs.lookup f = some v ∧ Rep K H ι κ d v) ∧ (fs.lookup f = none → gs.lookup f = none)
  | [], gs, h => by
    have h : gs = [] := h
    subst h
    exact ⟨fun d h => (by cases h), fun _ => rfl⟩
  | (j, e) :: fs, gs, ⟨u, r, hg, hu, hr⟩ => by
    subst hg
    obtain ⟨h1, h2⟩ := lookup_rep (f := f) hr
    by_cases hj : (f == j) = true
    · simp only [List.lookup_cons, hj]
      exact ⟨fun d h => ⟨u, rfl, by cases h; exact hu⟩, fun h => by cases h⟩
    · simp only [List.lookup_cons, hj]
      exact ⟨h1, h2⟩
theorem RepF.length {K : PySem.W.Frag} {H : Hp} {ι κ : List Addr} : ∀ {fs : List (Str × D)} {gs : List (Str × V)}, RepF K H ι κ fs gs → fs.length = gs.length
  | [], gs, h => by have h : gs = [] := h; rw [h]; rfl
  | _ :: fs, gs, ⟨u, r, hg, hu, hr⟩ => by rw [hg]; simp [RepF.length hr]
section
variable {T : Tab} {N : List Str} {Γ : Ctx} {k : Nat} {X : Cx} {W : WX} {sc : Scope} {x y z : Ex} {a b c e : Expr} {xs : List Ex} {es : List Expr} {pos p apos : Pos}
theorem s_call (g : Gd T N Γ k X W sc) {n : Str} {f : Nat} (hm : (n, f) ∈ T.gl) (hg : glB sc n = true) (hn : nmB n = true) (h : SndL T X W Γ xs es) : Snd T X W Γ (.call f xs) (.Call (.Name n p) es [] pos) := by
  obtain ⟨ad, h1, h2, fd, ps, h3, h4, h5⟩ := g.glo.fn n f hm
  have hs : PE X (.Call (.Name n p) es [] pos) (tCallS (spF T X.K Γ ps.length f) (WE W) (tA T X.K W Γ xs)) := by
    cases h with
    | nil =>
      refine ⟨fun pins s σ H Q I h => ?_⟩
      refine wpAny_Call_Name_kw (ld_glob I (g.gl hg) h1 ?_ (nmB_dbg hn))
      obtain ⟨ι, κ, S, ρ, w, en, p⟩ := h
      simp only [evL] at p
      exact PySem.W.callWith_K0 I.kIn h2 (run_fnS (us := []) (E := WE W) h4 (g.room.mono (Nat.le_succ k)) h3 (passAt g.tk σ) I .nil (p [] H ι Ext.refl w rfl))
    | cons h t =>
      exact pe_callS h4 (g.room.mono (Nat.le_succ k)) (g.gl hg) h1 h2 h3 (fun σ => passAt g.tk σ) (SndL.cons h t).pa (nmB_dbg hn) (star_plain h.pl) (back_plain t.plain)
  refine .of rfl rfl (PE.wk hs fun σ H Q ⟨ι, κ, S, ρ, w, en, p⟩ => ?_) rfl
  simp only [evE] at p
  exact ⟨ι, κ, S, ρ, w, en, p.bind fun ds S1 vs H1 ι1 e1 w1 r1 p1 => spF_of w1 r1 h5 p1⟩
/-- a built-in function or type, with values -/
theorem pe_bi (g : Gd T N Γ k X W sc) {q : Bi} {r : List V → Hp → VK → Prop} (hc : CallR X q.val r) (hg : glB sc q.nm = true) (h : SndL T X W Γ (x :: xs) (e :: es)) : PE X (.Call (.Name q.nm p) (e :: es) [] pos) (tCB r (tA T X.K W Γ (x :: xs))) := by
  have hp := h.pa
  cases h with
  | cons h t =>
    cases q with
    | len => exact pe_callB hc (g.gl hg) (g.glo.blt _ (by decide)) rfl hp (by decide) (by decide) (star_plain h.pl) (back_plain t.plain)
    | abs => exact pe_callB hc (g.gl hg) (g.glo.blt _ (by decide)) rfl hp (by decide) (by decide) (star_plain h.pl) (back_plain t.plain)
    | max => exact pe_callB hc (g.gl hg) (g.glo.blt _ (by decide)) rfl hp (by decide) (by decide) (star_plain h.pl) (back_plain t.plain)
    | min => exact pe_callB hc (g.gl hg) (g.glo.blt _ (by decide)) rfl hp (by decide) (by decide) (star_plain h.pl) (back_plain t.plain)
    | sum => exact pe_callB hc (g.gl hg) (g.glo.blt _ (by decide)) rfl hp (by decide) (by decide) (star_plain h.pl) (back_plain t.plain)
    | all => exact pe_callB hc (g.gl hg) (g.glo.blt _ (by decide)) rfl hp (by decide) (by decide) (star_plain h.pl) (back_plain t.plain)
    | any => exact pe_callB hc (g.gl hg) (g.glo.blt _ (by decide)) rfl hp (by decide) (by decide) (star_plain h.pl) (back_plain t.plain)
    | sorted => exact pe_callB hc (g.gl hg) (g.glo.blt _ (by decide)) rfl hp (by decide) (by decide) (star_plain h.pl) (back_plain t.plain)
    | int => exact pe_callTy hc (g.gl hg) (g.glo.blt _ (by decide)) rfl hp (by decide) (by decide) (star_plain h.pl) (back_plain t.plain)
    | list => exact pe_callTy hc (g.gl hg) (g.glo.blt _ (by decide)) rfl hp (by decide) (by decide) (star_plain h.pl) (back_plain t.plain)
    | tuple => exact pe_callTy hc (g.gl hg) (g.glo.blt _ (by decide)) rfl hp (by decide) (by decide) (star_plain h.pl) (back_plain t.plain)
    | dict => exact pe_callTy hc (g.gl hg) (g.glo.blt _ (by decide)) rfl hp (by decide) (by decide) (star_plain h.pl) (back_plain t.plain)
    | str => exact pe_callTy hc (g.gl hg) (g.glo.blt _ (by decide)) rfl hp (by decide) (by decide) (star_plain h.pl) (back_plain t.plain)
theorem s_bi (g : Gd T N Γ k X W sc) {q : Bi} (hg : glB sc q.nm = true) (h : SndL T X W Γ (x :: xs) (e :: es)) : Snd T X W Γ (.bi q (x :: xs)) (.Call (.Name q.nm p) (e :: es) [] pos) := by
  by_cases hb : q = .list ∨ q = .sorted ∨ q = .dict
  · refine .ofN rfl rfl (PE.wk (pe_bi g (bi_soundN (T := T) g.calm q hb) hg h) fun σ H Q ⟨ι, κ, S, ρ, w, en, p⟩ => ?_)
    simp only [evE] at p
    refine ⟨ι, κ, S, ρ, w, en, PostN.bind p fun ds S1 vs H1 ι1 e1 w1 r1 p1 => ?_⟩
    obtain ⟨d, hd, q⟩ := PostN.of' p1
    exact ⟨ι1, κ, S1, ds, d, w1, r1, hd, q⟩
  · refine .of rfl rfl (PE.wk (pe_bi g (bi_sound (T := T) g.calm q hb) hg h) fun σ H Q ⟨ι, κ, S, ρ, w, en, p⟩ => ?_) ?_
    · simp only [evE] at p
      refine ⟨ι, κ, S, ρ, w, en, p.bind fun ds S1 vs H1 ι1 e1 w1 r1 p1 => ?_⟩
      obtain ⟨d, hd, q⟩ := p1.of
      exact ⟨ι1, κ, S1, ds, d, w1, r1, hd, q⟩
    · cases q <;> first | rfl | exact absurd (by simp) hb
theorem s_isi (g : Gd T N Γ k X W sc) {t : Ty} {np : Pos} (hg : glB sc "isinstance" = true) (hg2 : glB sc t.nm = true) (h : Snd T X W Γ x e) : Snd T X W Γ (.isi x t) (.Call (.Name "isinstance" p) [e, .Name t.nm np] [] pos) := by
  have hty : PE X (.Name t.nm np) (tC (.ty t.name)) := by
    cases t <;> exact pe_bltn (g.gl hg2) (g.glo.blt _ (by decide)) rfl rfl (by decide) (by decide)
  have hp : PA X [e, .Name t.nm np] (tCons (tE T X.K W Γ x) (tCons (tC (.ty t.name)) tNil)) := pa_cons h.pe (pa_cons hty pa_nil rfl) (star_plain h.pl)
  refine .of rfl rfl (PE.wk (pe_callB (isi_sound (T := T) t) (g.gl hg) (g.glo.blt _ (by decide)) rfl hp (by decide) (by decide) (star_plain h.pl) rfl) fun σ H Q ⟨ι, κ, S, ρ, w, en, p⟩ => ?_) rfl
  simp only [evE] at p
  refine ⟨ι, κ, S, ρ, w, en, p.bind fun d S1 v H1 ι1 e1 w1 r1 p1 => ?_⟩
  split at p1
  · rename_i c hc
    exact ⟨ι1, κ, S1, d, v, c, rfl, w1, r1, hc, p1.val.same w1 (by simp only [Rep])⟩
  · exact p1.elim
/-! a dict asked -/
theorem isD_rep {H : Hp} {ι κ : List Addr} {S : Sto} {d : D} {v : V} (w : Wd T X.K H ι κ S) (r : Rep X.K H ι κ d v) (h : isD d S = true) : ∃ a, v = .ref a ∧ IsD H a := by
  cases d with
  | dic kvs => simp only [Rep] at r; obtain ⟨a, o, vs, e, h1, _⟩ := r; exact ⟨a, e, .inl ⟨vs, .inr ⟨o, h1⟩⟩⟩
  | dit kvs => simp only [Rep] at r; obtain ⟨a, o, vs, e, h1, _⟩ := r; exact ⟨a, e, .inr ⟨vs, .inr ⟨o, h1⟩⟩⟩
  | ref n =>
    simp only [Rep] at r
    obtain ⟨a, e, ha⟩ := r
    simp only [isD] at h
    cases hs : S.get n with
    | none => rw [hs] at h; cases h
    | some ob =>
      rw [hs] at h
      cases ob with
      | dic kvs => obtain ⟨vs, h1, _⟩ := w.ob n a _ ha hs; exact ⟨a, e, .inl ⟨vs, .inl h1⟩⟩
      | dit kvs => obtain ⟨vs, h1, _⟩ := w.ob n a _ ha hs; exact ⟨a, e, .inr ⟨vs, .inl h1⟩⟩
      | _ => cases h
  | _ => cases h
theorem m1_of {m : Str} (hb : call0E a = false) (hl : (apos.endLine == pos.line) = true) (he : plainE e = true) : M1 X a m apos e pos := by
  refine ⟨base_plain hb, ?_, hl, trees1 he⟩
  rw [trees1 he]; rfl
theorem m2_of {m : Str} (hb : call0E a = false) (hl : (apos.endLine == pos.line) = true) (he : plainE e = true) (hc : plainE c = true) : M2 X a m apos e c pos := by
  refine ⟨base_plain hb, ?_, hl, trees2 he hc⟩
  rw [trees2 he hc]; rfl
theorem s_get1 (g : Gd T N Γ k X W sc) (ha : Snd T X W Γ x a) (he : Snd T X W Γ y e) (hb : call0E a = false) (hl : (apos.endLine == pos.line) = true) : Snd T X W Γ (.get1 x y) (.Call (.Attribute a "get" apos) [e] [] pos) := by
  refine .of rfl rfl (PE.wk (pe_dget1 (by have := g.hu; omega) ha.pe he.pe (m1_of hb hl he.pl)) fun σ H Q ⟨ι, κ, S, ρ, w, en, p⟩ => ?_) rfl
  simp only [evE] at p
  refine ⟨ι, κ, S, ρ, w, en, p.bind fun d S1 v H1 ι1 e1 w1 r1 p1 => ?_⟩
  split at p1
  · rename_i hd
    obtain ⟨ad, ev, hI⟩ := isD_rep w1 r1 hd
    refine ⟨ad, ev, hI, ι1, κ, S1, ρ, w1, en.up e1 w, p1.bind fun d2 S2 u H2 ι2 e2 w2 r2 p2 => ?_⟩
    split at p2
    · rename_i r hr
      obtain ⟨ad', o, ev', h1, h2, h3⟩ := get1_rep w2 (Rep.up r1 e2 w1) r2 hr
      rw [ev] at ev'
      cases ev'
      refine ⟨o, h1, ?_⟩
      cases r with
      | none => rw [h3 rfl]; exact p2.val.same w2 (by simp only [Option.getD, Rep])
      | some x => obtain ⟨y, ey, ry⟩ := h2 x rfl; rw [ey]; exact p2.val.same w2 ry
    · exact p2.elim
  · exact p1.elim
theorem s_get2 (g : Gd T N Γ k X W sc) (ha : Snd T X W Γ x a) (he : Snd T X W Γ y e) (hc : Snd T X W Γ z c) (hb : call0E a = false) (hl : (apos.endLine == pos.line) = true) : Snd T X W Γ (.get2 x y z) (.Call (.Attribute a "get" apos) [e, c] [] pos) := by
  refine .of rfl rfl (PE.wk (pe_dget2 (by have := g.hu; omega) ha.pe he.pe hc.pe (m2_of hb hl he.pl hc.pl)) fun σ H Q ⟨ι, κ, S, ρ, w, en, p⟩ => ?_) rfl
  simp only [evE] at p
  refine ⟨ι, κ, S, ρ, w, en, p.bind fun d S1 v H1 ι1 e1 w1 r1 p1 => ?_⟩
  split at p1
  · rename_i hd
    obtain ⟨ad, ev, hI⟩ := isD_rep w1 r1 hd
    refine ⟨ad, ev, hI, ι1, κ, S1, ρ, w1, en.up e1 w, p1.bind fun d2 S2 u H2 ι2 e2 w2 r2 p2 => ⟨ι2, κ, S2, ρ, w2, (en.up e1 w).up e2 w1, p2.bind fun d3 S3 u3 H3 ι3 e3 w3 r3 p3 => ?_⟩⟩
    split at p3
    · rename_i r hr
      obtain ⟨ad', o, ev', h1, h2, h3⟩ := get1_rep w3 (Rep.up (Rep.up r1 e2 w1) e3 w2) (Rep.up r2 e3 w2) hr
      rw [ev] at ev'
      cases ev'
      refine ⟨o, h1, ?_⟩
      cases r with
      | none => rw [h3 rfl]; exact p3.val.same w3 r3
      | some x => obtain ⟨y, ey, ry⟩ := h2 x rfl; rw [ey]; exact p3.val.same w3 ry
    · exact p3.elim
  · exact p1.elim
/-! a list of the store -/
theorem mut_lst {H : Hp} {ι κ : List Addr} {S : Sto} {n : Nat} {v : V} {xs : List D} (w : Wd T X.K H ι κ S) (r : Rep X.K H ι κ (.ref n) v) (e : S.get n = some (.lst xs)) : ∃ a vs, v = .ref a ∧ ι[n]? = some a ∧ H a = some (.lst vs) ∧ RepL X.K H ι κ xs vs := by
  simp only [Rep] at r
  obtain ⟨a, rfl, ha⟩ := r
  obtain ⟨vs, h1, h2⟩ := w.ob n a _ ha e
  exact ⟨a, vs, rfl, ha, h1, h2⟩
theorem put_lst {H : Hp} {ι κ : List Addr} {S : Sto} {n : Nat} {a : Addr} {ds : List D} {vs : List V} (w : Wd T X.K H ι κ S) (ha : ι[n]? = some a) (r : RepL X.K H ι κ ds vs) : Wd T X.K (upd H a (.lst vs)) ι κ (S.set n (.lst ds)) :=
  w.put ha ⟨vs, upd_same, RepL.up r (Ext.set (List.mem_of_getElem? ha)) w⟩
theorem isL_rep {H : Hp} {ι κ : List Addr} {S : Sto} {d : D} {v : V} (w : Wd T X.K H ι κ S) (r : Rep X.K H ι κ d v) (h : isL d S = true) : tyV X.K "list" v H := by
  unfold isL at h
  split at h
  · split at h
    · rename_i xs hs
      obtain ⟨a, vs, rfl, ha, h1, h2⟩ := mut_lst w r hs
      exact .inl ⟨rfl, vs, .of h1⟩
    · cases h
  · cases h
theorem s_app (ha : Snd T X W Γ x a) (he : Snd T X W Γ y e) (hb : call0E a = false) (hl : (apos.endLine == pos.line) = true) : Snd T X W Γ (.app x y) (.Call (.Attribute a "append" apos) [e] [] pos) := by
  have m : M1 X a "append" apos e pos := m1_of hb hl he.pl
  refine .of rfl rfl (PE.wk (pe_bm PySem.F.plainAttrs_list PySem.F.slot_list_append PySem.F.type_list_append mt_append ha.pe (SndL.cons he .nil).pa m.base m.few m.line (star_plain he.pl) rfl) fun σ H Q ⟨ι, κ, S, ρ, w, en, p⟩ => ?_) rfl
  simp only [evE] at p
  refine ⟨ι, κ, S, ρ, w, en, p.bind fun d S1 v H1 ι1 e1 w1 r1 p1 => ?_⟩
  split at p1
  · rename_i hd
    refine ⟨isL_rep w1 r1 hd, ι1, κ, S1, ρ, w1, en.up e1 w, ?_⟩
    simp only [evL, R.bind]
    have key : Post T X.K κ W σ (relV X.K κ) H1 ι1 (evE Γ y ρ S1) fun u H2 => rAppend v [u] H2 Q := p1.bind fun d2 S2 u H2 ι2 e2 w2 r2 p2 => by
      unfold appD at p2
      split at p2
      · split at p2
        · rename_i n _ xs hs
          obtain ⟨ad, vs, rfl, hn, h1, h2⟩ := mut_lst w2 (Rep.up r1 e2 w1) hs
          split at p2
          · rename_i hlen
            refine ⟨ad, vs, u, rfl, rfl, h1, ?_, ?_⟩
            · rw [← RepL.length h2]
              have := LIM_line (n := xs.length) (by omega)
              have h16 : sizeLine = 16777216 := sizeLine_eq
              unfold LIM at hlen; omega
            · have r2 : Rep X.K H2 ι2 κ d2 u := r2
              exact p2 .non _ ι2 (Ext.set (List.mem_of_getElem? hn)) (put_lst w2 hn (RepL.append h2 (by simp only [RepL]; exact ⟨u, [], rfl, r2, rfl⟩))) (by show Rep _ _ _ _ _ _; simp only [Rep])
          · exact p2.elim
        · exact p2.elim
      · exact p2.elim
    cases hy : evE Γ y ρ S1 with
    | no => rw [hy] at key; exact key
    | exc C fs S2 => rw [hy] at key; exact key
    | ok d2 S2 =>
      rw [hy] at key
      intro vs H' ι' e' w' q
      have q : RepL X.K H' ι' κ [d2] vs := q
      obtain ⟨u, rfl, hu⟩ := RepL.one q
      exact key u H' ι' e' w' hu
  · exact p1.elim
theorem s_ext (ha : Snd T X W Γ x a) (he : Snd T X W Γ y e) (hb : call0E a = false) (hl : (apos.endLine == pos.line) = true) : Snd T X W Γ (.ext x y) (.Call (.Attribute a "extend" apos) [e] [] pos) := by
  have m : M1 X a "extend" apos e pos := m1_of hb hl he.pl
  refine .of rfl rfl (PE.wk (pe_bm PySem.F.plainAttrs_list PySem.F.slot_list_extend PySem.F.type_list_extend mt_extend ha.pe (SndL.cons he .nil).pa m.base m.few m.line (star_plain he.pl) rfl) fun σ H Q ⟨ι, κ, S, ρ, w, en, p⟩ => ?_) rfl
  simp only [evE] at p
  refine ⟨ι, κ, S, ρ, w, en, p.bind fun d S1 v H1 ι1 e1 w1 r1 p1 => ?_⟩
  split at p1
  · rename_i hd
    refine ⟨isL_rep w1 r1 hd, ι1, κ, S1, ρ, w1, en.up e1 w, ?_⟩
    simp only [evL, R.bind]
    have key : Post T X.K κ W σ (relV X.K κ) H1 ι1 (evE Γ y ρ S1) fun u H2 => rExtend v [u] H2 Q := p1.bind fun d2 S2 u H2 ι2 e2 w2 r2 p2 => by
      unfold extD at p2
      split at p2
      · split at p2
        · rename_i n _ xs hs
          obtain ⟨ad, vs, rfl, hn, h1, h2⟩ := mut_lst w2 (Rep.up r1 e2 w1) hs
          split at p2
          · rename_i ys
            split at p2
            · rename_i hlen
              have r2 : Rep X.K H2 ι2 κ (.lst ys) u := r2
              simp only [Rep] at r2
              obtain ⟨bd, zs, rfl, hb2, _, _, hr2⟩ := r2
              refine ⟨ad, bd, vs, zs, rfl, rfl, h1, hb2, ?_, ?_⟩
              · rw [← RepL.length h2, ← RepL.length hr2]; exact LIM_line hlen
              · exact p2 .non _ ι2 (Ext.set (List.mem_of_getElem? hn)) (put_lst w2 hn (RepL.append h2 hr2)) (by show Rep _ _ _ _ _ _; simp only [Rep])
            · exact p2.elim
          · exact p2.elim
        · exact p2.elim
      · exact p2.elim
    cases hy : evE Γ y ρ S1 with
    | no => rw [hy] at key; exact key
    | exc C fs S2 => rw [hy] at key; exact key
    | ok d2 S2 =>
      rw [hy] at key
      intro vs H' ι' e' w' q
      have q : RepL X.K H' ι' κ [d2] vs := q
      obtain ⟨u, rfl, hu⟩ := RepL.one q
      exact key u H' ι' e' w' hu
  · exact p1.elim
theorem dropLast_rep {H : Hp} {ι κ : List Addr} : ∀ {ds : List D} {vs : List V}, RepL X.K H ι κ ds vs → RepL X.K H ι κ ds.dropLast vs.dropLast := fun {ds vs} h => by
  rw [List.dropLast_eq_take, List.dropLast_eq_take, RepL.length h]
  exact RepL.take _ h
theorem s_pop (ha : Snd T X W Γ x a) (hb : call0E a = false) (hl : (apos.endLine == pos.line) = true) : Snd T X W Γ (.pop x) (.Call (.Attribute a "pop" apos) [] [] pos) := by
  refine .of rfl rfl (PE.wk (pe_bm0 PySem.F.plainAttrs_list PySem.F.slot_list_pop PySem.F.type_list_pop mt_pop ha.pe (base_plain hb) hl) fun σ H Q ⟨ι, κ, S, ρ, w, en, p⟩ => ?_) rfl
  simp only [evE] at p
  refine ⟨ι, κ, S, ρ, w, en, p.bind fun d S1 v H1 ι1 e1 w1 r1 p1 => ?_⟩
  unfold popD at p1
  split at p1
  · split at p1
    · rename_i n _ xs hs
      obtain ⟨ad, vs, rfl, hn, h1, h2⟩ := mut_lst w1 r1 hs
      split at p1
      · rename_i z hz
        obtain ⟨u, hu, ru⟩ := RepL.get h2 hz
        refine ⟨.inl ⟨rfl, vs, .of h1⟩, ad, vs, u, rfl, rfl, h1, by rw [← RepL.length h2]; exact hu, ?_⟩
        exact p1 u _ ι1 (Ext.set (List.mem_of_getElem? hn)) (put_lst w1 hn (dropLast_rep h2)) (Rep.up ru (Ext.set (List.mem_of_getElem? hn)) w1)
      · exact p1.elim
    · exact p1.elim
  · exact p1.elim
/-! instances -/
theorem s_fld (g : Gd T N Γ k X W sc) {f : Str} (hf : f ∈ T.flds) (ha : Snd T X W Γ x a) (hb : call0E a = false) : Snd T X W Γ (.fld x f) (.Attribute a f pos) := by
  refine .of rfl rfl (PE.wk (pe_fld ha.pe (base_plain hb)) fun σ H Q ⟨ι, κ, S, ρ, w, en, p⟩ => ?_) rfl
  simp only [evE] at p
  refine ⟨ι, κ, S, ρ, w, en, p.bind fun d S1 v H1 ι1 e1 w1 r1 p1 => ?_⟩
  obtain ⟨d2, hd, q⟩ := p1.of
  unfold fldD at hd
  split at hd
  · split at hd
    · rename_i n _ C fs hs
      have r1 : Rep X.K H1 ι1 κ (.ref n) v := r1
      simp only [Rep] at r1
      obtain ⟨ad, rfl, hn⟩ := r1
      obtain ⟨c, dx, gs, h1, h2, h3⟩ := w1.ob n ad _ hn hs
      obtain ⟨u, h4, h5⟩ := (lookup_rep h3).1 d2 hd
      exact ⟨ad, c, dx, gs, u, rfl, h2, g.glo.cls C c h1, g.glo.noat C c f h1 hf, h4, q.same w1 h5⟩
    · cases hd
  · cases hd
end
end MP
end

section
set_option Elab.async false
set_option linter.all false
set_option maxRecDepth 100000
/-! MpL: methods of instances, new instances. -/
namespace MP
open PySem PySem.Spec PyProof.Rows L2
section
variable {T : Tab} {N : List Str} {Γ : Ctx} {k : Nat} {X : Cx} {W : WX} {sc : Scope} {x y z : Ex} {a b c e o : Expr} {xs : List Ex} {es : List Expr} {pos p apos : Pos}
theorem few_plain {pos : Pos} {env : PySem.Env} : ∀ {es : List Expr}, es.all plainE = true → (backTo pos (starEach es env)).all (fun x => !x.1) = true
  | [], _ => rfl
  | e :: es, h => by
    simp only [List.all_cons, Bool.and_eq_true] at h
    rw [star_plain h.1]
    show (true && (backTo pos (starEach es env)).all fun x => !x.1) = true
    rw [few_plain h.2]; rfl
theorem meth_eq {m : Str} {env : PySem.Env} (hb : call0E o = false) (hl : (apos.endLine == pos.line) = true) (hp : es.all plainE = true) (hn : es.length < 30) :
    eval (.Call (.Attribute o m apos) es [] pos) env = (do
      let ov ← eval o env
      standAt apos.atName
      let (f, first) ← holding [ov] (getMethod ov m (do return (← importBound o env).getD true))
      callWith pos f first (backTo pos (starEach es env)) (backToKw pos (keywordEach [] env))) := by
  have hf : methodCallForm (es.length + 0) (backTo pos (starEach es env)) (backToKw pos (keywordEach [] env)) = true := by
    unfold methodCallForm
    rw [few_plain hp]
    show (true && decide (es.length + 0 + 0 < 30)) = true
    rw [decide_eq_true (by omega)]; rfl
  show (do
    let ov ← attributeBase o m env (eval o env)
    standAt apos.atName
    methodCall o m apos pos env ov (es.length + 0) (backTo pos (starEach es env)) (backToKw pos (keywordEach [] env))) = _
  rw [base_plain hb]
  unfold methodCall
  rw [hf]
  unfold calleeOf methodCallPos
  rw [hl]
  rfl
/-- a method, by the class that the value has -/
def tMethD (T : Tab) (X : Cx) (Γ : Ctx) (W : WX) (k : Nat) (m : Str) (ta : TE) (t : TA) : TE := fun σ H Q => ta σ H fun x H1 => ∃ a C dx fs g f, x = .ref a ∧ H1 a = some (.ins C dx fs) ∧ fs.lookup m = none ∧ Cls X.K C ∧ Meth X.K C m g ∧ FDef T X.prog X.w X.K X.mg X.base Γ k g f ∧
  t σ H1 fun vs H2 => ∀ n, (∀ ds S, Γ.F f ds S = .no ∨ ds.length = n) → spF T X.K Γ n f (x :: vs) H2 Q (WE W σ)
theorem pe_methD (g : Gd T N Γ k X W sc) {m : Str} {ta : TE} (ho : PE X o ta) (ha : SndL T X W Γ xs es) (hb : call0E o = false) (hl : (apos.endLine == pos.line) = true) (hn : es.length < 30) :
    PE X (.Call (.Attribute o m apos) es [] pos) (tMethD T X Γ W k m ta (tA T X.K W Γ xs)) := by
  refine ⟨fun pins s σ H Q I h => ?_⟩
  refine PySem.W.methodCall_KW (thn (ho.run pins s σ H _ I h) fun u s1 ⟨x, H1, I1, rx, a, C, dx, fs, fa, f, ex, ea, l, hc, hm, ⟨fd, ps, h3, h4, h5⟩, q⟩ => ?_) (meth_eq hb hl ha.plain hn)
  subst ex
  obtain rfl : u = Value.ref a := rx
  refine getmeth_ok I1 ea hc hm l ?_
  have hpa := ha.pa
  cases ha with
  | nil =>
    obtain ⟨ι, κ, S, ρ, w, en, p⟩ := q
    simp only [evL] at p
    exact PySem.W.callWith_K0 (first := [.ref a]) I1.kIn hm.kp (run_fnS (us := [.ref a]) (vs := [.ref a]) (E := WE W) h4 (g.room.mono (Nat.le_succ k)) h3 (passAt g.tk σ) I1 (.cons rfl .nil) (p [] H1 ι Ext.refl w rfl _ h5))
  | cons hh t =>
    refine PySem.W.callWith_K (first := [.ref a]) (h₀ := X.base) I.ok.mod.kin hm.kp (thn (hpa.run pos pins s1 σ H1 _ I1 q) fun us s2 ⟨vs, H2, I2, r, q2⟩ => ⟨I2.kIn, ?_⟩) (star_plain hh.pl) (back_plain t.plain)
    exact run_fnS (us := .ref a :: us) (vs := .ref a :: vs) (E := WE W) h4 (g.room.mono (Nat.le_succ k)) h3 (passAt g.tk σ) I2 (.cons rfl r) (q2 _ h5)
theorem s_meth (g : Gd T N Γ k X W sc) {m : Str} (ho : Snd T X W Γ x o) (ha : SndL T X W Γ xs es) (hb : call0E o = false) (hl : (apos.endLine == pos.line) = true) (hn : es.length < 30) : Snd T X W Γ (.meth x m xs) (.Call (.Attribute o m apos) es [] pos) := by
  refine .of rfl rfl (PE.wk (pe_methD g (m := m) ho.pe ha hb hl hn) fun σ H Q ⟨ι, κ, S, ρ, w, en, p⟩ => ?_) rfl
  simp only [evE] at p
  refine ⟨ι, κ, S, ρ, w, en, p.bind fun d S1 v H1 ι1 e1 w1 r1 p1 => ?_⟩
  have r1 : Rep X.K H1 ι1 κ d v := r1
  split at p1
  · rename_i C hC
    split at p1
    · rename_i f hf
      unfold clsD at hC
      split at hC
      · split at hC
        · rename_i n _ C' fs hs
          split at hC
          · rename_i hl
            cases hC
            simp only [Rep] at r1
            obtain ⟨ad, rfl, hn⟩ := r1
            obtain ⟨c, dx, gs, h1, h2, h3⟩ := w1.ob _ ad _ hn hs
            obtain ⟨a, hm, hF⟩ := g.glo.meth C c m f h1 hf
            refine ⟨ad, c, dx, gs, a, f, rfl, h2, (lookup_rep h3).2 hl, g.glo.cls C c h1, hm, hF, ι1, κ, S1, ρ, w1, en.up e1 w, p1.bind fun ds S2 vs H2 ι2 e2 w2 r2 p2 n' h5 => ?_⟩
            refine spF_of w2 ?_ h5 p2
            have r2 : RepL X.K H2 ι2 κ ds vs := r2
            simp only [RepL]
            exact ⟨_, vs, rfl, Rep.up (d := .ref _) (by simp only [Rep]; exact ⟨ad, rfl, hn⟩) e2 w1, r2⟩
          · cases hC
        · cases hC
      · cases hC
    · exact p1.elim
  · exact p1.elim
/-! a new instance -/
theorem run_makeS {pins : List (Addr × Obj)} {σ : L2.St} {H : Hp} {s : Shared} {Q : VK} {us : List Value} {vs : List V} {C f : Addr} {fd : FuncData} {ps : List Str} {sp : Sp} {E : L2.St → XK} (M : Mk X.K C f) (F : FnOk X.prog X.w X.K X.mg X.base (L2.CX X.prog X.w) k f fd ps sp) (hr : Room (k + 1) X.A) (hb : Binds X.K fd ps [])
    (hx : PassesAt (L2.CX X.prog X.w) X σ (E σ)) (I : L2.Inv X pins σ H s) (r : Vals vs us)
    (h : ∀ x dx, H x = none → H dx = none → dx ≠ x → sp (.ref x :: vs) (upd (upd H dx (.own x)) x (.ins C dx [])) (fun v H2 => v = .non ∧ Q (.ref x) H2) (E σ)) :
    wpAny (model X.prog X.w) X.A (call (.ref C) us) (EP X pins σ Q) X.xe s := by
  have hq := h (s.heap.objs.size + 1) s.heap.objs.size (I.hok.fresh (Nat.le_succ _)) (I.hok.fresh (Nat.le_refl _)) (Nat.ne_of_lt (Nat.lt_succ_self _))
  have I2 := L2.Inv.made (C := C) I
  have r2 : Vals (V.ref (s.heap.objs.size + 1) :: vs) (Value.ref (s.heap.objs.size + 1) :: us) := .cons rfl r
  have hl : (Value.ref (s.heap.objs.size + 1) :: us ++ []).length = ps.length := by
    rw [List.append_nil, ← F.len _ _ _ _ hq]
    exact r2.length.symm
  have hb' := hb _ (Value.ref (s.heap.objs.size + 1) :: us) I2.kIn hl
  rw [List.append_nil] at hb'
  refine wpAny_call (make_map (f := f) I.kIn M.makes M.init (beq_iff_eq.mp M.fn) (codeAny_mono (F.run _ X.stack _ _ ⟨Value.ref (s.heap.objs.size + 1) :: us, []⟩ (Value.ref (s.heap.objs.size + 1) :: us) _ _ (E σ) (hr.make C us [])
    (I2.env0.make C us []) hb' r2 hq) fun r s' hq' => ?_))
  cases r with
  | error e => exact hx pins _ _ e s' I2 hq'
  | ok fl =>
    cases fl with
    | ret u =>
      obtain ⟨v, H', I3, rv, ev, q3⟩ := I2.after hq'
      subst ev
      exact ⟨rv, ⟨V.ref (s.heap.objs.size + 1), H', I3, rfl, q3⟩⟩
    | next => exact False.elim hq'
    | brk => exact False.elim hq'
    | cont => exact False.elim hq'
def tMakeS (C : Addr) (sp : Sp) (E : L2.St → XK) (t : TA) : TE := fun σ H Q => t σ H fun vs H1 => ∀ x dx, H1 x = none → H1 dx = none → dx ≠ x →
  sp (.ref x :: vs) (upd (upd H1 dx (.own x)) x (.ins C dx [])) (fun v H2 => v = .non ∧ Q (.ref x) H2) (E σ)
theorem s_make (g : Gd T N Γ k X W sc) {n : Str} {C : Nat} {cl : Cl} (hcl : T.P.cls[C]? = some cl) (hname : cl.name = n) (hexc : cl.exc.isNone = true) (hg : glB sc n = true) (hn : nmB n = true) (ha : SndL T X W Γ xs es) :
    Snd T X W Γ (.make C xs) (.Call (.Name n p) es [] pos) := by
  have hcad : T.cad X.K C = some (He.ga X.K n) := by
    unfold Tab.cad
    rw [hcl]
    show (if cl.exc.isNone then some (He.ga X.K cl.name) else none) = _
    rw [if_pos hexc, hname]
  cases hI : Γ.I C with
  | none =>
    refine .of rfl rfl ⟨fun pins s σ H Q I ⟨ι, κ, S, ρ, w, en, p⟩ => ?_⟩ rfl
    simp only [evE, hI] at p
    exact p.elim
  | some f =>
    obtain ⟨hmg, a, hM, fd, ps, h3, h4, h5⟩ := g.glo.make C _ f cl hcad hcl hI
    rw [hname] at hmg
    have hs : PE X (.Call (.Name n p) es [] pos) (tMakeS (He.ga X.K n) (spF T X.K Γ ps.length f) (WE W) (tA T X.K W Γ xs)) := by
      have hpa := ha.pa
      cases ha with
      | nil =>
        refine ⟨fun pins s σ H Q I h => ?_⟩
        refine wpAny_Call_Name_kw (ld_glob I (g.gl hg) hmg ?_ (nmB_dbg hn))
        obtain ⟨ι, κ, S, ρ, w, en, p⟩ := h
        simp only [evL] at p
        exact PySem.W.callWith_K0 I.kIn hM.kp (run_makeS (us := []) (E := WE W) hM h4 g.room h3 (passAt g.tk σ) I .nil (p [] H ι Ext.refl w rfl))
      | cons hh t =>
        refine ⟨fun pins s σ H Q I h => ?_⟩
        refine wpAny_Call_Name_kw (ld_glob I (g.gl hg) hmg ?_ (nmB_dbg hn))
        refine PySem.W.callWith_K (h₀ := X.base) I.ok.mod.kin hM.kp (thn (hpa.run pos pins s σ H _ I h) fun us s1 ⟨vs, H1, I1, r, q⟩ => ⟨I1.kIn, ?_⟩) (star_plain hh.pl) (back_plain t.plain)
        exact run_makeS (E := WE W) hM h4 g.room h3 (passAt g.tk σ) I1 r q
    refine .of rfl rfl (PE.wk hs fun σ H Q ⟨ι, κ, S, ρ, w, en, p⟩ => ?_) rfl
    simp only [evE, hI] at p
    refine ⟨ι, κ, S, ρ, w, en, p.bind fun ds S1 vs H1 ι1 e1 w1 r1 p1 ad dx hx hdx hne => ?_⟩
    have hxd : upd H1 dx (.own ad) ad = none := by rw [upd_ne (fun z => hne z.symm)]; exact hx
    have w2 : Wd T X.K (upd (upd H1 dx (.own ad)) ad (.ins (He.ga X.K n) dx [])) (ι1 ++ [ad]) κ (S1 ++ [.ins C []]) :=
      ((w1.fresh hdx).hide hxd).take (w1.notink hx) ⟨_, dx, [], hcad, upd_same, rfl⟩
    have e2 : Ext H1 ι1 (upd (upd H1 dx (.own ad)) ad (.ins (He.ga X.K n) dx [])) (ι1 ++ [ad]) := by
      refine ⟨fun b o _ q => ?_, fun b z => ?_, List.prefix_append _ _⟩
      · rw [upd_ne (ne_of_none q hx), upd_ne (ne_of_none q hdx)]; exact q
      · rcases List.mem_append.mp z with z | z
        · exact .inl z
        · rw [List.mem_singleton.mp z]; exact .inr hx
    have hget : (ι1 ++ [ad])[S1.length]? = some ad := by rw [← w1.len]; simp
    refine spF_of w2 (ds := .ref S1.length :: ds) ?_ h5 (S := S1 ++ [.ins C []]) (Post.bind (Post.trans p1 e2) fun d S2 v H2 ι2 e3 w3 r3 p3 => ?_)
    · have r1 : RepL X.K H1 ι1 κ ds vs := r1
      simp only [RepL, Rep]
      exact ⟨_, vs, rfl, ⟨ad, rfl, hget⟩, RepL.up r1 e2 w1⟩
    · cases d with
      | non =>
        have r3 : Rep X.K H2 ι2 κ .non v := r3
        simp only [Rep] at r3
        refine ⟨r3, p3 (.ref ad) H2 ι2 Ext.refl w3 ?_⟩
        show Rep X.K H2 ι2 κ (.ref S1.length) (.ref ad)
        simp only [Rep]
        exact ⟨ad, rfl, getE e3 hget⟩
      | _ => exact p3.elim
end
end MP
end

section
set_option Elab.async false
set_option linter.all false
set_option maxRecDepth 100000
/-! MpM: what is walked. -/
namespace MP
open PySem PySem.Spec PyProof.Rows L2
def IW (T : Tab) (K : PySem.W.Frag) (κ : List Addr) (S0 : Sto) (H0 : Hp) (ι0 : List Addr) (p : List D × Option Nat) (J : It) : Prop :=
  ∀ κ' H ι S, (∀ a ∈ κ', a ∈ κ ∨ H0 a = none) → Ext H0 ι0 H ι → Wd T K H ι κ' S → held p.2 S0 S = true → ∀ i,
    (i < p.1.length → J.go i H ∧ ∀ x H', J.yld i H x H' → Ext H ι H' ι ∧ Wd T K H' ι κ' S ∧ ∃ d, p.1[i]? = some d ∧ Rep K H' ι κ' d x) ∧ (i = p.1.length → J.stop i H)
def PostI (T : Tab) (K : PySem.W.Frag) (κ : List Addr) (W : WX) (σ : L2.St) (H : Hp) (ι : List Addr) (r : R (List D × Option Nat)) (Q : It → Hp → Prop) : Prop := match r with
  | .ok p S' => ∀ J H' ι', Ext H ι H' ι' → Wd T K H' ι' κ S' → IW T K κ S' H' ι' p J → Q J H'
  | .exc C fs S' => ∀ cls dx H' ι', Ext H ι H' ι' → Wd T K H' ι' κ S' → ExR T K H' ι' κ C fs cls dx → W cls dx σ H'
  | .no => False
theorem PostI.trans {T : Tab} {K : PySem.W.Frag} {κ : List Addr} {W : WX} {σ : L2.St} {H H1 : Hp} {ι ι1 : List Addr} {r : R (List D × Option Nat)} {Q : It → Hp → Prop} (h : PostI T K κ W σ H ι r Q) (e : Ext H ι H1 ι1) : PostI T K κ W σ H1 ι1 r Q := by
  cases r with
  | ok a S => exact fun g H' ι' e' w q => h g H' ι' (e.trans e') w q
  | exc C fs S => exact fun c d H' ι' e' w q => h c d H' ι' (e.trans e') w q
  | no => exact h
theorem PostI.bind {T : Tab} {K : PySem.W.Frag} {κ : List Addr} {W : WX} {σ : L2.St} {H : Hp} {ι : List Addr} {α γ : Type} {rel : Hp → List Addr → α → γ → Prop} {r : R α} {k : α → Sto → R (List D × Option Nat)} {Q : It → Hp → Prop} {Q1 : γ → Hp → Prop} (h : PostI T K κ W σ H ι (r.bind k) Q)
    (f : ∀ a S1 g H1 ι1, r = .ok a S1 → Ext H ι H1 ι1 → Wd T K H1 ι1 κ S1 → rel H1 ι1 a g → PostI T K κ W σ H1 ι1 (k a S1) Q → Q1 g H1) : Post T K κ W σ rel H ι r Q1 := by
  cases r with
  | ok a S => exact fun g H' ι' e w q => f a S g H' ι' rfl e w q (PostI.trans h e)
  | exc C fs S => exact h
  | no => exact h
theorem PostI.val {T : Tab} {K : PySem.W.Frag} {κ : List Addr} {W : WX} {σ : L2.St} {H : Hp} {ι : List Addr} {p : List D × Option Nat} {S : Sto} {Q : It → Hp → Prop} (h : PostI T K κ W σ H ι (.ok p S) Q) (w : Wd T K H ι κ S) {J : It} (i : IW T K κ S H ι p J) : Q J H := h J H ι Ext.refl w i
def tI (T : Tab) (K : PySem.W.Frag) (W : WX) (Γ : Ctx) (x : Ex) : TI := fun σ H R => ∃ ι κ S ρ, Wd T K H ι κ S ∧ EnvR K H ι κ σ ρ ∧ PostI T K κ W σ H ι (evI Γ x ρ S) R
theorem PI.wk {X : Cx} {tg e : Expr} {t t' : TI} (h : PI X tg e t) (i : ∀ σ H Q, t' σ H Q → t σ H Q) : PI X tg e t' := ⟨fun pins s σ H Q I q => h.run pins s σ H Q I (i σ H Q q)⟩
theorem PI.some {X : Cx} {tg e : Expr} {t' : TI} (h : ∀ σ H Q, t' σ H Q → ∃ t, PI X tg e t ∧ t σ H Q) : PI X tg e t' := ⟨fun pins s σ H Q I q => by
  obtain ⟨t, h1, h2⟩ := h σ H Q q
  exact h1.run pins s σ H Q I h2⟩
section
variable {T : Tab} {K : PySem.W.Frag} {H H0 : Hp} {ι ι0 κ : List Addr} {S S0 : Sto} {xs ys : List D} {g : Option Nat} {a b : Addr}
def RowL (T : Tab) (K : PySem.W.Frag) (κ : List Addr) (S0 : Sto) (H0 : Hp) (ι0 : List Addr) (xs : List D) (g : Option Nat) (a : Addr) : Prop :=
  ∀ κ' H ι S, (∀ a ∈ κ', a ∈ κ ∨ H0 a = none) → Ext H0 ι0 H ι → Wd T K H ι κ' S → held g S0 S = true → ∃ vs, SqL K H a vs ∧ RepL K H ι κ' xs vs
def RowT (T : Tab) (K : PySem.W.Frag) (κ : List Addr) (H0 : Hp) (ι0 : List Addr) (xs : List D) (a : Addr) : Prop :=
  ∀ κ' H ι S, (∀ a ∈ κ', a ∈ κ ∨ H0 a = none) → Ext H0 ι0 H ι → Wd T K H ι κ' S → ∃ vs, SqT K H a vs ∧ RepL K H ι κ' xs vs
theorem rol_row {ns : List Int} {v : V} (m : ∀ a ∈ ι0, Mut (H0 a)) (r : Rep K H0 ι0 κ (.rol ns) v) : ∃ a, v = .ref a ∧ ∀ H ι, Ext H0 ι0 H ι → SqL K H a (ns.map V.int) := by
  simp only [Rep] at r
  obtain ⟨a, rfl, h, _⟩ := r
  refine ⟨a, rfl, fun H ι e => ?_⟩
  rcases h with ⟨h, n, _⟩ | h
  · rcases h with h | ⟨o, h⟩
    · exact .inl (.inl (e.keep _ _ n h))
    · exact .inl (.inr ⟨o, e.frz m h⟩)
  · exact .inr h
theorem row_of {d : D} {v : V} (w : Wd T K H0 ι0 κ S0) (r : Rep K H0 ι0 κ d v) (e : itemsOf d S0 = some (xs, g)) : (∃ z, d = .str z) ∨ (∃ kvs, d = .dic kvs) ∨ ∃ a, v = .ref a ∧ (RowL T K κ S0 H0 ι0 xs g a ∨ (RowT T K κ H0 ι0 xs a ∧ ∃ ys, d = .tup ys)) := by
  cases d with
  | str z => exact .inl ⟨z, rfl⟩
  | dic kvs => exact .inr (.inl ⟨kvs, rfl⟩)
  | tup ds =>
    simp only [itemsOf, Option.some.injEq, Prod.mk.injEq] at e
    obtain ⟨rfl, rfl⟩ := e
    simp only [Rep] at r
    obtain ⟨a, vs, rfl, h1, h2⟩ := r
    exact .inr (.inr ⟨a, rfl, .inr ⟨fun κ' H ι S hκ e w' => ⟨vs, e.rdT w.mut h1.1, RepL.mono e w.mut hκ h2⟩, _, rfl⟩⟩)
  | lst ds =>
    simp only [itemsOf, Option.some.injEq, Prod.mk.injEq] at e
    obtain ⟨rfl, rfl⟩ := e
    simp only [Rep] at r
    obtain ⟨a, vs, rfl, h1, hn, hk, h2⟩ := r
    exact .inr (.inr ⟨a, rfl, .inl fun κ' H ι S hκ e w' _ => ⟨vs, .of (e.keep _ _ hn h1), RepL.mono e w.mut hκ h2⟩⟩)
  | rol ns =>
    simp only [itemsOf, Option.some.injEq, Prod.mk.injEq] at e
    obtain ⟨rfl, rfl⟩ := e
    obtain ⟨a, rfl, h⟩ := rol_row w.mut r
    exact .inr (.inr ⟨a, rfl, .inl fun κ' H ι S hκ e w' _ => ⟨_, h H ι e, RepL.ints ns⟩⟩)
  | ref n =>
    simp only [itemsOf] at e
    split at e
    · rename_i ds hs
      simp only [Option.some.injEq, Prod.mk.injEq] at e
      obtain ⟨rfl, rfl⟩ := e
      simp only [Rep] at r
      obtain ⟨a, rfl, ha⟩ := r
      refine .inr (.inr ⟨a, rfl, .inl fun κ' H ι S hκ e w' hg => ?_⟩)
      obtain ⟨vs, h1, h2⟩ := w'.ob n a _ (getE e ha) (((of_decide_eq_true (show decide (S0.get n = S.get n) = true from hg)).symm.trans hs))
      exact ⟨vs, .of h1, h2⟩
    · cases e
  | _ => simp [itemsOf] at e
theorem RowL.iw (h : RowL T K κ S0 H0 ι0 xs g a) : IW T K κ S0 H0 ι0 (xs, g) (Itl K a) := by
  intro κ' H ι S hκ e w hg i
  obtain ⟨vs, h1, h2⟩ := h κ' H ι S hκ e w hg
  have hl := RepL.length h2
  refine ⟨fun hi => ⟨⟨vs, vs[i]'(by rw [← hl]; exact hi), h1, by simp⟩, fun x H' ⟨e1, y⟩ => ?_⟩, fun hi => ⟨vs, h1, by rw [← hl]; exact Nat.le_of_eq hi.symm⟩⟩
  subst e1
  obtain ⟨u, hu, ru⟩ := RepL.get h2 (List.getElem?_eq_getElem hi)
  have : x = u := Option.some.inj ((y vs h1).symm.trans hu)
  subst this
  exact ⟨Ext.refl, w, _, List.getElem?_eq_getElem hi, ru⟩
theorem RowT.iw (h : RowT T K κ H0 ι0 xs a) : IW T K κ S0 H0 ι0 (xs, g) (Itt K a) := by
  intro κ' H ι S hκ e w hg i
  obtain ⟨vs, h1, h2⟩ := h κ' H ι S hκ e w
  have hl := RepL.length h2
  refine ⟨fun hi => ⟨⟨vs, vs[i]'(by rw [← hl]; exact hi), h1, by simp⟩, fun x H' ⟨e1, y⟩ => ?_⟩, fun hi => ⟨vs, h1, by rw [← hl]; exact Nat.le_of_eq hi.symm⟩⟩
  subst e1
  obtain ⟨u, hu, ru⟩ := RepL.get h2 (List.getElem?_eq_getElem hi)
  have : x = u := Option.some.inj ((y vs h1).symm.trans hu)
  subst this
  exact ⟨Ext.refl, w, _, List.getElem?_eq_getElem hi, ru⟩
/-- a new pair, as it was made -/
def NewP (H : Hp) (q : Addr) (H' : Hp) (ws : List V) : Prop := H q = none ∧ ∃ ob : Obj, ob.dict = none ∧ H' = upd H q (.frz ob (.tup ws))
theorem pair_new {q : Addr} {x y : V} {d e : D} {H' : Hp} (w : Wd T K H ι κ S) (hq : NewP H q H' [x, y]) (r1 : Rep K H ι κ d x) (r2 : Rep K H ι κ e y) : Ext H ι H' ι ∧ Wd T K H' ι κ S ∧ Rep K H' ι κ (.tup [d, e]) (.ref q) := by
  obtain ⟨hn, ob, ho, rfl⟩ := hq
  have ex := Ext.fresh (o := .frz ob (.tup [x, y])) w hn
  refine ⟨ex, w.fresh hn, ?_⟩
  simp only [Rep]
  exact ⟨q, [x, y], rfl, SqF.new ho, by simp only [RepL]; exact ⟨x, [y], rfl, Rep.up r1 ex w, y, [], rfl, Rep.up r2 ex w, rfl⟩⟩
/-- a list or a tuple -/
def SqX (K : PySem.W.Frag) (t : Bool) (H : Hp) (a : Addr) (xs : List V) : Prop := if t = true then SqT K H a xs else SqL K H a xs
/-- the row at a as it stands at each turn, in new pairs with the turn's number -/
def IteX (K : PySem.W.Frag) (t : Bool) (a : Addr) : It :=
  ⟨fun i H => ∃ (xs : List V) (x : V), SqX K t H a xs ∧ xs[i]? = some x, fun i H v H' => ∃ q x, v = .ref q ∧ NewP H q H' [.int (i : Nat), x] ∧ ∀ xs, SqX K t H a xs → xs[i]? = some x, fun i H => ∃ xs : List V, SqX K t H a xs ∧ xs.length ≤ i⟩
def ItzM (K : PySem.W.Frag) (ta tb : Bool) (a b : Addr) : It :=
  ⟨fun i H => ∃ (xs ys : List V) (x y : V), SqX K ta H a xs ∧ SqX K tb H b ys ∧ xs[i]? = some x ∧ ys[i]? = some y,
    fun i H v H' => ∃ q x y, v = .ref q ∧ NewP H q H' [x, y] ∧ (∀ xs, SqX K ta H a xs → xs[i]? = some x) ∧ ∀ ys, SqX K tb H b ys → ys[i]? = some y,
    fun i H => ∃ xs ys : List V, SqX K ta H a xs ∧ SqX K tb H b ys ∧ (xs.length ≤ i ∨ ys.length ≤ i)⟩
/-- a locked dict's pairs -/
def ItiF (d : Addr) (o : Obj) (kvs : List (Key × V)) : It :=
  ⟨fun i H => H d = some (.frz o (.dK kvs)) ∧ i < kvs.length, fun i H x H' => ∃ q k v, kvs[i]? = some (k, v) ∧ x = .ref q ∧ NewP H q H' [kV k, v], fun i H => H d = some (.frz o (.dK kvs)) ∧ kvs.length ≤ i⟩
theorem enumD_get : ∀ (xs : List D) (n i : Nat), (enumD n xs)[i]? = xs[i]?.map fun x => .tup [.int (n + i : Nat), x]
  | [], _, _ => by simp [enumD]
  | x :: xs, n, 0 => by simp [enumD]
  | x :: xs, n, i + 1 => by
    simp only [enumD, List.getElem?_cons_succ]
    rw [enumD_get xs (n + 1) i]
    congr 1; funext x; congr 3; congr 1; push_cast; omega
theorem enumD_length : ∀ (xs : List D) (n : Nat), (enumD n xs).length = xs.length
  | [], _ => rfl
  | x :: xs, n => by simp [enumD, enumD_length xs (n + 1)]
theorem RowL.iwe (h : RowL T K κ S0 H0 ι0 xs g a) : IW T K κ S0 H0 ι0 (enumD 0 xs, g) (IteX K false a) := by
  intro κ' H ι S hκ e w hg i
  obtain ⟨vs, h1, h2⟩ := h κ' H ι S hκ e w hg
  have hl := RepL.length h2
  have hl2 : (enumD 0 xs).length = xs.length := enumD_length xs 0
  refine ⟨fun hi => ?_, fun hi => ?_⟩
  · have hi : i < xs.length := by rw [← hl2]; exact hi
    refine ⟨⟨vs, vs[i]'(by omega), h1, by simp⟩, fun x H' ⟨q, y, hv, hq, hy⟩ => ?_⟩
    obtain ⟨u, hu, ru⟩ := RepL.get h2 (List.getElem?_eq_getElem hi)
    have : y = u := Option.some.inj ((hy vs h1).symm.trans hu)
    subst this hv
    obtain ⟨e1, w1, r1⟩ := pair_new (d := .int (i : Nat)) (x := .int (i : Nat)) w hq (by simp only [Rep]) ru
    refine ⟨e1, w1, _, ?_, r1⟩
    show (enumD 0 xs)[i]? = _
    rw [enumD_get, List.getElem?_eq_getElem hi]
    first | rfl | simp
  · have hi : i = (enumD 0 xs).length := hi
    exact ⟨vs, h1, by omega⟩
theorem zipD_get : ∀ (xs ys : List D) (i : Nat), (zipD xs ys)[i]? = match xs[i]?, ys[i]? with
    | some x, some y => some (.tup [x, y])
    | _, _ => none
  | [], _, i => by simp [zipD]
  | x :: xs, [], i => by
    simp only [zipD, List.getElem?_nil]
    split <;> first | rfl | simp_all
  | x :: xs, y :: ys, 0 => by simp [zipD]
  | x :: xs, y :: ys, i + 1 => by
    simp only [zipD, List.getElem?_cons_succ]
    exact zipD_get xs ys i
theorem zipD_length : ∀ (xs ys : List D), (zipD xs ys).length = min xs.length ys.length
  | [], _ => by simp [zipD]
  | x :: xs, [] => by simp [zipD]
  | x :: xs, y :: ys => by simp [zipD, zipD_length xs ys]
/-! numbers, texts, dicts -/
theorem rangeD_get : ∀ (n : Nat) (lo : Int) (i : Nat), i < n → (rangeD lo n)[i]? = some (.int (lo + i))
  | 0, _, _, h => by omega
  | n + 1, lo, 0, _ => by simp [rangeD]
  | n + 1, lo, i + 1, h => by
    simp only [rangeD, List.getElem?_cons_succ]
    rw [rangeD_get n (lo + 1) i (by omega)]
    congr 2; push_cast; omega
theorem rangeD_length : ∀ (n : Nat) (lo : Int), (rangeD lo n).length = n
  | 0, _ => rfl
  | n + 1, lo => by simp [rangeD, rangeD_length n]
theorem iw_range {lo : Int} {n : Nat} : IW T K κ S0 H0 ι0 (rangeD lo n, none) (Itr lo n) := by
  intro κ' H ι S hκ e w hg i
  refine ⟨fun hi => ?_, fun hi => ?_⟩
  · have hi : i < n := by rw [← rangeD_length n lo]; exact hi
    refine ⟨hi, fun x H' ⟨e1, e2⟩ => ?_⟩
    subst e1 e2
    exact ⟨Ext.refl, w, _, rangeD_get n lo i hi, by simp only [Rep]⟩
  · have hi : i = (rangeD lo n).length := hi
    rw [rangeD_length] at hi
    exact Nat.le_of_eq hi.symm
theorem rangeC_get : ∀ (n : Nat) (lo c : Int) (i : Nat), i < n → (rangeC lo c n)[i]? = some (.int (lo + i * c))
  | 0, _, _, _, h => by omega
  | n + 1, lo, c, 0, _ => by simp [rangeC]
  | n + 1, lo, c, i + 1, h => by
    simp only [rangeC, List.getElem?_cons_succ]
    rw [rangeC_get n (lo + c) c i (by omega)]
    congr 2; push_cast; rw [Int.add_mul]; omega
theorem rangeC_length : ∀ (n : Nat) (lo c : Int), (rangeC lo c n).length = n
  | 0, _, _ => rfl
  | n + 1, lo, c => by simp [rangeC, rangeC_length n]
theorem iw_rangeC {lo c : Int} {n : Nat} : IW T K κ S0 H0 ι0 (rangeC lo c n, none) (Itc lo c n) := by
  intro κ' H ι S hκ e w hg i
  refine ⟨fun hi => ?_, fun hi => ?_⟩
  · have hi : i < n := by rw [← rangeC_length n lo c]; exact hi
    refine ⟨hi, fun x H' ⟨e1, e2⟩ => ?_⟩
    subst e1 e2
    exact ⟨Ext.refl, w, _, rangeC_get n lo c i hi, by simp only [Rep]⟩
  · have hi : i = (rangeC lo c n).length := hi
    rw [rangeC_length] at hi
    exact Nat.le_of_eq hi.symm
theorem iw_str {z : Str} (hz : PyData.strOk z = true) : IW T K κ S0 H0 ι0 (z.cps.toList.map sgn, none) (Its z) := by
  intro κ' H ι S hκ e w hg i
  refine ⟨fun hi => ?_, fun hi => ?_⟩
  · have hi : i < z.cps.size := by have : i < (z.cps.toList.map sgn).length := hi; simpa using this
    refine ⟨hi, fun x H' ⟨e1, c, hc, e2⟩ => ?_⟩
    subst e1 e2
    refine ⟨Ext.refl, w, sgn c, by simp [hc], ?_⟩
    unfold sgn
    simp only [Rep]
    refine ⟨trivial, strOk_of (l := [c]) fun c' hc' => ?_⟩
    rw [List.mem_singleton.mp hc']
    exact strOk_mem hz (by rw [← Array.getElem?_toList] at hc; exact List.mem_of_getElem? hc)
  · have : i = (z.cps.toList.map sgn).length := hi
    exact Nat.le_of_eq (by simpa using this.symm)
theorem RepK.get {H : Hp} {ι κ : List Addr} : ∀ {ds : List (Ky × D)} {vs : List (Ky × V)} {i : Nat} {kd : Ky × D}, RepK K H ι κ ds vs → ds[i]? = some kd → ∃ v, vs[i]? = some (kd.1, v) ∧ Rep K H ι κ kd.2 v ∧ KyOk kd.1
  | [], _, _, _, _, e => by simp at e
  | (j, d) :: ds, vs, 0, kd, h, e => by
    simp only [RepK] at h
    obtain ⟨v, r, rfl, q, q', ok⟩ := h
    simp at e; subst e
    exact ⟨v, rfl, q, ok⟩
  | (j, d) :: ds, vs, i + 1, kd, h, e => by
    simp only [RepK] at h
    obtain ⟨v, r, rfl, q, q', ok⟩ := h
    obtain ⟨w, h1, h2⟩ := RepK.get (i := i) q' (by simpa using e)
    exact ⟨w, by simpa using h1, h2⟩
theorem dic_row {kvs : List (Ky × D)} {v : V} (w : Wd T K H0 ι0 κ S0) (r : Rep K H0 ι0 κ (.dic kvs) v) : ∃ a o vs, v = .ref a ∧ H0 a = some (.frz o (.dK vs)) ∧ ∀ κ' H ι, (∀ a ∈ κ', a ∈ κ ∨ H0 a = none) → Ext H0 ι0 H ι → H a = some (.frz o (.dK vs)) ∧ RepK K H ι κ' kvs vs := by
  simp only [Rep] at r
  obtain ⟨a, o, vs, rfl, h1, h2⟩ := r
  exact ⟨a, o, vs, rfl, h1, fun κ' H ι hκ e => ⟨e.frz w.mut h1, RepK.mono e w.mut hκ h2⟩⟩
theorem iw_keys {kvs : List (Ky × D)} {vs : List (Ky × V)} {o : Obj} (h : ∀ κ' H ι, (∀ a ∈ κ', a ∈ κ ∨ H0 a = none) → Ext H0 ι0 H ι → H a = some (.frz o (.dK vs)) ∧ RepK K H ι κ' kvs vs) : IW T K κ S0 H0 ι0 (kvs.map fun kv => kv.1.d, none) (Itk a o vs) := by
  intro κ' H ι S hκ e w hg i
  obtain ⟨h1, h2⟩ := h κ' H ι hκ e
  have hl := (RepK.keys h2).2
  refine ⟨fun hi => ?_, fun hi => ?_⟩
  · have hi : i < kvs.length := by have : i < (kvs.map fun kv => kv.1.d).length := hi; simpa using this
    refine ⟨⟨h1, by omega⟩, fun x H' ⟨e1, k, v, hv, e2⟩ => ?_⟩
    subst e1 e2
    obtain ⟨u, hu, ru, ok⟩ := RepK.get h2 (List.getElem?_eq_getElem hi)
    rw [hv] at hu
    cases hu
    exact ⟨Ext.refl, w, _, by simp [hi], Ky.rep ok⟩
  · have : i = (kvs.map fun kv => kv.1.d).length := hi
    simp at this
    exact ⟨h1, by omega⟩
theorem iw_vals {kvs : List (Ky × D)} {vs : List (Ky × V)} {o : Obj} (h : ∀ κ' H ι, (∀ a ∈ κ', a ∈ κ ∨ H0 a = none) → Ext H0 ι0 H ι → H a = some (.frz o (.dK vs)) ∧ RepK K H ι κ' kvs vs) : IW T K κ S0 H0 ι0 (kvs.map fun kv => kv.2, none) (Itd a o vs) := by
  intro κ' H ι S hκ e w hg i
  obtain ⟨h1, h2⟩ := h κ' H ι hκ e
  have hl := (RepK.keys h2).2
  refine ⟨fun hi => ?_, fun hi => ?_⟩
  · have hi : i < kvs.length := by have : i < (kvs.map fun kv => kv.2).length := hi; simpa using this
    refine ⟨⟨h1, by omega⟩, fun x H' ⟨e1, k, hv⟩ => ?_⟩
    subst e1
    obtain ⟨u, hu, ru, ok⟩ := RepK.get h2 (List.getElem?_eq_getElem hi)
    rw [hv] at hu
    cases hu
    exact ⟨Ext.refl, w, _, by simp [hi], ru⟩
  · have : i = (kvs.map fun kv => kv.2).length := hi
    simp at this
    exact ⟨h1, by omega⟩
theorem iw_items {kvs : List (Ky × D)} {vs : List (Ky × V)} {o : Obj} (h : ∀ κ' H ι, (∀ a ∈ κ', a ∈ κ ∨ H0 a = none) → Ext H0 ι0 H ι → H a = some (.frz o (.dK vs)) ∧ RepK K H ι κ' kvs vs) : IW T K κ S0 H0 ι0 (kvs.map fun kv => .tup [kv.1.d, kv.2], none) (ItiF a o vs) := by
  intro κ' H ι S hκ e w hg i
  obtain ⟨h1, h2⟩ := h κ' H ι hκ e
  have hl := (RepK.keys h2).2
  refine ⟨fun hi => ?_, fun hi => ?_⟩
  · have hi : i < kvs.length := by have : i < (kvs.map fun kv => D.tup [kv.1.d, kv.2]).length := hi; simpa using this
    refine ⟨⟨h1, by omega⟩, fun x H' ⟨q, k, v, hv, e2, hq⟩ => ?_⟩
    obtain ⟨u, hu, ru, ok⟩ := RepK.get h2 (List.getElem?_eq_getElem hi)
    rw [hv] at hu
    cases hu
    subst e2
    obtain ⟨e1, w1, r1⟩ := pair_new w hq (Ky.rep ok) ru
    exact ⟨e1, w1, _, by simp [hi], r1⟩
  · have : i = (kvs.map fun kv => D.tup [kv.1.d, kv.2]).length := hi
    simp at this
    exact ⟨h1, by omega⟩
theorem rev_get {α : Type} {xs : List α} {i : Nat} (h : i < xs.length) : xs.reverse[i]? = xs[xs.length - 1 - i]? := by
  rw [List.getElem?_reverse h]
theorem RowL.iwr (h : RowL T K κ S0 H0 ι0 xs none a) : IW T K κ S0 H0 ι0 (xs.reverse, none) (Itv K a xs.length) := by
  intro κ' H ι S hκ e w hg i
  obtain ⟨vs, h1, h2⟩ := h κ' H ι S hκ e w rfl
  have hl := RepL.length h2
  refine ⟨fun hi => ?_, fun hi => ?_⟩
  · have hi : i < xs.length := by have : i < xs.reverse.length := hi; simpa using this
    refine ⟨⟨hi, vs, vs[xs.length - 1 - i]'(by omega), h1, by simp⟩, fun x H' ⟨e1, y⟩ => ?_⟩
    subst e1
    obtain ⟨u, hu, ru⟩ := RepL.get h2 (List.getElem?_eq_getElem (show xs.length - 1 - i < xs.length by omega))
    have : x = u := Option.some.inj ((y vs h1).symm.trans hu)
    subst this
    refine ⟨Ext.refl, w, _, ?_, ru⟩
    show xs.reverse[i]? = _
    rw [rev_get hi, List.getElem?_eq_getElem]
  · have : i = xs.reverse.length := hi
    simp at this
    exact Nat.le_of_eq this.symm
theorem RowT.iwr (h : RowT T K κ H0 ι0 xs a) : IW T K κ S0 H0 ι0 (xs.reverse, none) (RT.ItvT K a xs.length) := by
  intro κ' H ι S hκ e w hg i
  obtain ⟨vs, h1, h2⟩ := h κ' H ι S hκ e w
  have hl := RepL.length h2
  refine ⟨fun hi => ?_, fun hi => ?_⟩
  · have hi : i < xs.length := by have : i < xs.reverse.length := hi; simpa using this
    refine ⟨⟨hi, vs, vs[xs.length - 1 - i]'(by omega), h1, by simp⟩, fun x H' ⟨e1, y⟩ => ?_⟩
    subst e1
    obtain ⟨u, hu, ru⟩ := RepL.get h2 (List.getElem?_eq_getElem (show xs.length - 1 - i < xs.length by omega))
    have : x = u := Option.some.inj ((y vs h1).symm.trans hu)
    subst this
    refine ⟨Ext.refl, w, _, ?_, ru⟩
    show xs.reverse[i]? = _
    rw [rev_get hi, List.getElem?_eq_getElem]
  · have : i = xs.reverse.length := hi
    simp at this
    exact Nat.le_of_eq this.symm
end
end MP
end

section
set_option Elab.async false
set_option linter.all false
set_option maxRecDepth 100000
set_option maxHeartbeats 2000000
/-! MpM2: enumerate of a tuple, zip of lists and tuples in any mix. -/
namespace MP
open PySem PySem.Spec PyProof.Rows
open AutoSeq1 (wpAny_loadPart')
/-- the new iterator over the tuple -/
abbrev tIter (q : Addr) : Obj := { cls := .type "tuple_iterator", data := .fields #[.ref q, .int 0 0] }
abbrev eNew (i : Addr) : Obj := { cls := .type "enumerate", data := .fields #[.none, .bool false, .ref i, rawInt 0, .none, .none] }
theorem meets_enumT (q : Addr) (ws : Array Value) (j : Nat) (dd : Option Addr) (sl : Array (Option Value)) : Meets (Builtin.«enumerate.__new__» ⟨[.type "enumerate", .ref q], []⟩) (fun _ R s =>
    s.heap.get? q = some { cls := .type "tuple", dict := dd, data := .seq ws j, slots := sl } ∧ R (.ok (.ret (.ref (s.heap.push (tIter q)).objs.size))) { s with heap := (s.heap.push (tIter q)).push (eNew s.heap.objs.size) }) :=
  .of_wp fun prog w A R st hh => by
    obtain ⟨hp, g0, d0, t0, o0⟩ := st
    obtain ⟨hq, hr⟩ := hh
    have isSub := sub_enumerate
    have hT : Heap.IsTuple (Shared.heap ⟨hp, g0, d0, t0, o0⟩) q ws := ⟨_, hq, rfl, j, rfl⟩
    wp_walk using wpAny_loadPart' hq
    refine wpAny_stack_any fun fr => wpAny_pure ?_
    split
    · rename_i cc _ _ _ _ _
      cases (cc == Value.type "enumerate") <;> (wp_walk using wpAny_loadPart' hq, wpAny_pyIter_tuple hT; exact ⟨_, rfl, hr⟩)
    · wp_walk using wpAny_loadPart' hq, wpAny_pyIter_tuple hT
      exact ⟨_, rfl, hr⟩
section
variable {prog : Program} {w : World} {A : Around} {E : Value → Shared → Prop} {s : Shared}
theorem call_enumT {q : Addr} {ws : Array Value} {Q : Value → Shared → Prop} (hT : s.heap.IsTuple q ws)
    (hk : ∀ h', IsEnum h' (s.heap.objs.size + 1) s.heap.objs.size 0 .none → h'.IsTupleIter s.heap.objs.size q 0 → (∀ b o, s.heap.get? b = some o → h'.get? b = some o) → Q (.ref (s.heap.objs.size + 1)) { s with heap := h' }) :
    wpAny (model prog w) A (call (.type "enumerate") [.ref q]) Q E s := by
  obtain ⟨⟨cc, dd, dt, sl⟩, hq, ec, j, ed⟩ := hT
  obtain rfl : cc = .type "tuple" := ec
  obtain rfl : dt = .seq ws j := ed
  refine callType_new F.called_enumerate (by decide) (F.typeCall_enumerate_1 _) (F.newCall_enumerate_1 _) (fun ob => F.args_object_init_2 ob _) F.entry_enumerate_new (meets_enumT q ws j dd sl) ⟨hq, ?_⟩
  have hz : (s.heap.push (tIter q)).objs.size = s.heap.objs.size + 1 := Heap.size_push ..
  have he : IsEnum ((s.heap.push (tIter q)).push (eNew s.heap.objs.size)) (s.heap.objs.size + 1) s.heap.objs.size 0 .none := by
    have e1 := Heap.get?_push_size (s.heap.push (tIter q)) (o := eNew s.heap.objs.size) rfl
    rw [hz] at e1
    exact e1
  show _ ∧ _
  rw [hz]
  exact ⟨⟨_, he, rfl⟩, hk _ he ⟨_, Heap.get?_push_of_some _ (Heap.get?_push_size _ rfl), rfl, rfl⟩ fun b o e => Heap.get?_push_of_some _ (Heap.get?_push_of_some _ e)⟩
end
/-- an iterator at its end, as a source that gives nothing more -/
theorem stuck_tuple {prog : Program} {w : World} {A : Around} (hh : A.handled = none) {it a : Addr} {ws : Array Value} {i : Nat} (hx : ws[i]? = none) (hat : a ≠ it) :
    Draws prog w A it [it, a] i (fun _ _ => True) (fun j h => j = i ∧ h.IsTupleIter it a i ∧ h.IsTuple a ws) where
  live := fun _ _ ⟨_, st, _⟩ => let ⟨o, ho, _⟩ := st; ⟨o, ho⟩
  frame := fun _ _ _ ⟨e, st, pt⟩ hk => ⟨e, st.at fun o e => hk it (by simp) o e, pt.at fun o e => hk a (by simp) o e⟩
  item := fun j s Q E hj ⟨e, _⟩ _ => absurd hj (by omega)
  done := fun s Q E ⟨_, st, pt⟩ hE => wpAny_nextOf_tuple_end hh st pt hx hE
theorem stuck_list {prog : Program} {w : World} {A : Around} (hh : A.handled = none) {it a : Addr} {ws : Array Value} {i : Nat} (hx : ws[i]? = none) (hat : a ≠ it) :
    Draws prog w A it [it, a] i (fun _ _ => True) (fun j h => j = i ∧ h.IsListIter it a i ∧ h.IsList a ws) where
  live := fun _ _ ⟨_, st, _⟩ => let ⟨o, ho, _⟩ := st; ⟨o, ho⟩
  frame := fun _ _ _ ⟨e, st, pt⟩ hk => ⟨e, st.at fun o e => hk it (by simp) o e, pt.at fun o e => hk a (by simp) o e⟩
  item := fun j s Q E hj ⟨e, _⟩ _ => absurd hj (by omega)
  done := fun s Q E ⟨_, st, pt⟩ hE => wpAny_nextOf_list_end hh st pt hx hE
open L2
def ItX (t : Bool) (h : Heap) (it a : Addr) (i : Nat) : Prop := if t = true then h.IsTupleIter it a i else h.IsListIter it a i
def SeX (t : Bool) (h : Heap) (a : Addr) (ws : Array Value) : Prop := if t = true then h.IsTuple a ws else h.IsList a ws
theorem ItX.at {t : Bool} {h h' : Heap} {it a : Addr} {i : Nat} (x : ItX t h it a i) (k : ∀ o, h.get? it = some o → h'.get? it = some o) : ItX t h' it a i := by
  cases t with
  | true => exact Heap.IsTupleIter.at x k
  | false => exact Heap.IsListIter.at x k
theorem ItX.obj {t : Bool} {h : Heap} {it a : Addr} {i : Nat} (x : ItX t h it a i) : ∃ o, h.get? it = some o ∧ ∀ v, o.data ≠ .cell v := by
  cases t with
  | true => obtain ⟨o, e, _, d⟩ := (show h.IsTupleIter it a i from x); exact ⟨o, e, fun v q => by rw [d] at q; cases q⟩
  | false => obtain ⟨o, e, _, d⟩ := (show h.IsListIter it a i from x); exact ⟨o, e, fun v q => by rw [d] at q; cases q⟩
theorem seX {X : Cx} {pins : List (Addr × Obj)} {σ : L2.St} {H : Hp} {s : Shared} {t : Bool} {a : Addr} {xs : List V} (I : L2.Inv X pins σ H s) (h : SqX X.K t H a xs) : ∃ ws : List Value, Vals xs ws ∧ SeX t s.heap a ws.toArray ∧ a < s.heap.objs.size := by
  cases t with
  | true => obtain ⟨ws, rv, pt, _⟩ := I.tuple h; obtain ⟨o, ho, _⟩ := id pt; exact ⟨ws, rv, pt, Heap.lt_size ho⟩
  | false => obtain ⟨ws, rv, pt, _⟩ := I.list h; exact ⟨ws, rv, pt.isList, pt.lt⟩
theorem sqX_inj {X : Cx} {pins : List (Addr × Obj)} {σ : L2.St} {H : Hp} {s : Shared} {t : Bool} {a : Addr} {xs ys : List V} (I : L2.Inv X pins σ H s) (h : SqX X.K t H a xs) (h' : SqX X.K t H a ys) : xs = ys := by
  cases t with
  | true => exact I.tuple_inj h h'
  | false => exact I.list_inj h h'
theorem drawX {prog : Program} {w : World} {A : Around} (hh : A.handled = none) (t : Bool) {it a : Addr} (hne : a ≠ it) (ws : Array Value) : Draws prog w A it [it, a] ws.size (fun i v => ws[i]? = some v) (fun i h => ItX t h it a i ∧ SeX t h a ws) := by
  cases t with
  | true => exact Draws.tuple hh it a hne ws
  | false => exact Draws.list hh it a hne ws
theorem begX (t : Bool) (a : Addr) (ws : Array Value) : ∃ o, Begins (.ref a) o (fun h => SeX t h a ws) ∧ ∀ (h : Heap) (it : Addr), h.get? it = some o → ItX t h it a 0 := by
  cases t with
  | true => exact ⟨_, begins_tuple a ws, fun h it e => ⟨_, e, rfl, rfl⟩⟩
  | false => exact ⟨_, begins_list a ws, fun h it e => ⟨_, e, rfl, rfl⟩⟩
theorem stuckX {prog : Program} {w : World} {A : Around} (hh : A.handled = none) (t : Bool) {it a : Addr} {ws : Array Value} {i : Nat} (hx : ws[i]? = none) (hat : a ≠ it) : Draws prog w A it [it, a] i (fun _ _ => True) (fun j h => j = i ∧ ItX t h it a i ∧ SeX t h a ws) := by
  cases t with
  | true => exact stuck_tuple hh hx hat
  | false => exact stuck_list hh hx hat
theorem turn_enumX {t : Bool} {P : Program} {w : World} {K : PySem.W.Frag} {tes : List Expr} {m : Nat} {tp : Pos} (a e it : Addr) (hat : a ≠ it) (hae : a ≠ e) :
    Turn P w K (.Tuple tes m tp) (IteX K t a) [e, it] e (fun i h => (∃ old, IsEnum h e it ((i : Nat) : Int) old) ∧ ItX t h it a i ∧ e ≠ it) where
  mem := List.mem_cons_self
  obj := fun i h st b hb => by
    obtain ⟨⟨old, he⟩, hi, _⟩ := st
    rcases List.mem_cons.mp hb with z | z
    · rw [z]; exact ⟨_, he, fun v q => nomatch q⟩
    · rw [List.mem_singleton.mp z]; exact hi.obj
  keep := fun i h h' ⟨⟨old, he⟩, hi, hne⟩ k => ⟨⟨old, k e (by simp) _ he⟩, hi.at fun o q => k it (by simp) o q, hne⟩
  item := by
    intro X hP hw hK hc i pins s σ H E I hf ⟨⟨old, he⟩, hit, hne⟩ ⟨xs, x, hq, hx⟩
    subst hP hw hK
    obtain ⟨ws, rv, pt, _⟩ := seX I hq
    obtain ⟨u, hu, ru⟩ := rv.get hx
    have hel : e < s.heap.objs.size := Heap.lt_size he
    have hil : it < s.heap.objs.size := by obtain ⟨_, q, _⟩ := hit.obj; exact Heap.lt_size q
    have hl : i < ws.toArray.size := by
      have := (List.getElem?_eq_some_iff.mp hu).1
      simpa using this
    refine wpAny_pyNext_enum_itemD (drawX (A := X.A.in1) (I.ok.hd hc) t hat ws.toArray) he ⟨hit, pt⟩ hl hne (by simp [hne, Ne.symm hae]) fun x1 h' tk hP1 ho hst hT hsz hk => ?_
    have hx1 : x1 = u := by
      have := hP1
      simp only [List.getElem?_toArray] at this
      rw [hu] at this
      exact (Option.some.inj this).symm
    subst hx1
    refine ⟨_, rfl, wpAny_letOwnedTupleGo_enum (s := { s with heap := h', toks := tk + 1 }) ho fun h2 he2 sb => ?_⟩
    have hT2 : h2.get? s.heap.objs.size = some { cls := .type "tuple", data := .seq #[.int i tk, x1] } := (sb.2 _ (Nat.ne_of_gt hel)).trans hT
    have new : ObjOk X.prog X.w (upd H s.heap.objs.size (.frz { cls := .type "tuple", data := .seq #[.int i tk, x1] } (.tup [.int (i : Nat), x]))) h2 s.heap.objs.size (.frz { cls := .type "tuple", data := .seq #[.int i tk, x1] } (.tup [.int (i : Nat), x])) :=
      ⟨hT2, by show 2 ≤ sizeLine; decide, [.int i tk, x1], .cons ⟨_, rfl⟩ (.cons ru .nil), ⟨_, hT2, rfl, _, rfl⟩⟩
    have I1 : L2.Inv X pins σ (upd H s.heap.objs.size (.frz { cls := .type "tuple", data := .seq #[.int i tk, x1] } (.tup [.int (i : Nat), x]))) { s with heap := h2, toks := tk + 1 } :=
      I.turnedNew (ch := [e, it]) (fun b ob hb q => (sb.2 b (fun z => hb (by simp [z]))).trans (hk b ob (fun z => hb (by simp [z])) (fun z => hb (by simp [z])) q)) hf (Nat.le_refl _) new
    refine ⟨.ref s.heap.objs.size, _, I1, rfl, ⟨_, x, rfl, ⟨I.hok.fresh (Nat.le_refl _), _, rfl, rfl⟩, fun ys hy => by rw [sqX_inj I hy hq]; exact hx⟩, ⟨⟨x1, ?_⟩, hst.1.at fun o q => (sb.2 it (Ne.symm hne)).trans q, hne⟩, fun b hb => ?_⟩
    · rw [show ((i + 1 : Nat) : Int) = (i : Int) + 1 by omega]; exact he2
    · have hb' : b < s.heap.objs.size := by
        rcases List.mem_cons.mp hb with z | z
        · rw [z]; exact hel
        · rw [List.mem_singleton.mp z]; exact hil
      rw [upd_ne (Nat.ne_of_lt hb')]
      exact (hf b hb).1
  done := by
    intro X hP hw hK hc i pins s σ H E I hf ⟨⟨old, he⟩, hit, hne⟩ ⟨xs, hq, hx⟩
    subst hP hw hK
    obtain ⟨ws, rv, pt, _⟩ := seX I hq
    obtain ⟨f0, f1, f2, f3, f4, f5⟩ := hf it (by simp)
    have hl := rv.length
    exact wpAny_pyNext_enum_endD (stuckX (A := X.A.in1) (I.ok.hd hc) t (ws := ws.toArray) (by simp; omega) hat) he ⟨rfl, hit, pt⟩ fun h' eb => ⟨rfl, I.turned (t' := s.toks) (fun b o hb q => eb b o hb q) f0 f1 f3 f4 f5⟩
  self := fun A i s Q E ⟨⟨_, he⟩, _⟩ h => wpAny_pyIter_enum he h
def iEnumX (K : PySem.W.Frag) (t : Bool) (ta : TA) : TI := fun σ H R => ta σ H fun vs H1 => ∃ a xs, vs = [.ref a] ∧ SqX K t H1 a xs ∧ R (IteX K t a) H1
theorem call_enumX (t : Bool) {prog : Program} {w : World} {A : Around} {E : Value → Shared → Prop} {s : Shared} {q : Addr} {ws : Array Value} {Q : Value → Shared → Prop} (hT : SeX t s.heap q ws)
    (hk : ∀ h', IsEnum h' (s.heap.objs.size + 1) s.heap.objs.size 0 .none → ItX t h' s.heap.objs.size q 0 → (∀ b o, s.heap.get? b = some o → h'.get? b = some o) → Q (.ref (s.heap.objs.size + 1)) { s with heap := h' }) :
    wpAny (model prog w) A (call (.type "enumerate") [.ref q]) Q E s := by
  cases t with
  | true => exact call_enumT hT hk
  | false => exact call_enumerate_list hT fun h' h1 h2 _ h3 => hk h' h1 h2 h3
theorem pi_enumX (t : Bool) {X : Cx} {e : Expr} {ta : TA} {p pos tpos : Pos} {elts : List Expr} {kk : Nat} (hg : Gl X "enumerate") (hm : X.mg "enumerate" = none) (ha : PA X [e] ta) (hs : starEach [e] X.env = [(false, eval e X.env)] := by rfl) :
    PI X (.Tuple elts kk tpos) (.Call (.Name "enumerate" p) [e] [] pos) (iEnumX X.K t ta) := by
  refine ⟨fun pn s σ H R I hh => Call_ (ld_blt I hg hm boot_enumerate (PyProof.Rows.callWith_type1 (thn (ha.run pos pn s σ H _ I hh) fun us s1 hq => ?_) hs rfl))⟩
  obtain ⟨vs, H1, I1, r1, a, xs, rfl, hx, q⟩ := hq
  cases r1 with
  | cons r rr =>
    cases rr
    cases r
    obtain ⟨ws, rv, pt, hal⟩ := seX I1 hx
    refine call_enumX t pt fun h' he hit hk => wpAny_pyIter_enum he ?_
    refine ⟨s1.heap.objs.size + 1, [s1.heap.objs.size + 1, s1.heap.objs.size], _, _, H1, rfl, I1.kept (t' := s1.toks) hk, turn_enumX a (s1.heap.objs.size + 1) s1.heap.objs.size (Nat.ne_of_lt hal) (Nat.ne_of_lt (Nat.lt_succ_of_lt hal)), ⟨⟨.none, he⟩, hit, Nat.succ_ne_self _⟩, fun b hb => ?_, q⟩
    have hle : s1.heap.objs.size ≤ b := by
      rcases List.mem_cons.mp hb with z | z
      · rw [z]; exact Nat.le_succ _
      · rw [List.mem_singleton.mp z]; exact Nat.le_refl _
    exact I1.fpOk hle (I1.hok.fresh hle)
/-! zip -/
def iZipM (K : PySem.W.Frag) (ta : TA) : TI := fun σ H R => ta σ H fun vs H1 => ∃ t u a b xs ys, vs = [.ref a, .ref b] ∧ SqX K t H1 a xs ∧ SqX K u H1 b ys ∧ R (ItzM K t u a b) H1
theorem sepOf {z TI TO i1 i2 a b : Addr} (D : ZipApart z TI TO i1 i2 a b) : ZipSep2 z TI TO i1 i2 [i1, a] [i2, b] := by
  obtain ⟨d1, d2, d3, d4, d5, d6, d7, d8, d9, d10, d11, d12, d13, d14, d15, d16, d17, d18⟩ := D
  refine ⟨d1, d2, d5, d6, by simp, ?_, ?_, d7, by simp, ?_, ?_, ?_, ?_⟩ <;> simp only [List.mem_cons, List.not_mem_nil, or_false, not_or] <;> constructor <;> first | assumption | (apply Ne.symm; assumption)
theorem turn_zipM {P : Program} {w : World} {K : PySem.W.Frag} {tes : List Expr} {m : Nat} {tp : Pos} {t u : Bool} {a b z TI TO i1 i2 : Addr} (D : ZipApart z TI TO i1 i2 a b) :
    Turn P w K (.Tuple tes m tp) (ItzM K t u a b) [z, TI, TO, i1, i2] z (fun i h => IsZip h z TI TO .none ∧ IsTupOf2 h TI (.ref i1) (.ref i2) ∧ (∃ x y, IsTupOf2 h TO x y) ∧ ItX t h i1 a i ∧ ItX u h i2 b i) where
  mem := List.mem_cons_self
  obj := fun i h ⟨hz, hTI, ⟨x, y, hTO⟩, h1, h2⟩ c hc => by
    have e' : c = z ∨ c = TI ∨ c = TO ∨ c = i1 ∨ c = i2 := by simpa using hc
    rcases e' with q | q | q | q | q <;> rw [q]
    · exact ⟨_, hz, fun v q => nomatch q⟩
    · exact ⟨_, hTI, fun v q => nomatch q⟩
    · exact ⟨_, hTO, fun v q => nomatch q⟩
    · exact h1.obj
    · exact h2.obj
  keep := fun i h h' ⟨hz, hTI, ⟨x, y, hTO⟩, h1, h2⟩ k => ⟨k z (by simp) _ hz, k TI (by simp) _ hTI, ⟨x, y, k TO (by simp) _ hTO⟩, h1.at fun o q => k i1 (by simp) o q, h2.at fun o q => k i2 (by simp) o q⟩
  item := by
    intro X hP hw hK hc i pins s σ H E I hf ⟨hz, hTI, ⟨x0, y0, hTO⟩, h1, h2⟩ ⟨xs, ys, x, y, hqx, hqy, hx, hy⟩
    subst hP hw hK
    obtain ⟨ws, rv, p1, _⟩ := seX I hqx
    obtain ⟨ws2, rv2, p2, _⟩ := seX I hqy
    obtain ⟨v1, hv1, ru⟩ := rv.get hx
    obtain ⟨v2, hv2, ru2⟩ := rv2.get hy
    have hzl : z < s.heap.objs.size := Heap.lt_size hz
    have l1 : i < ws.toArray.size := by simpa using (List.getElem?_eq_some_iff.mp hv1).1
    have l2 : i < ws2.toArray.size := by simpa using (List.getElem?_eq_some_iff.mp hv2).1
    refine wpAny_pyNext_zipD2_item (sepOf D) (drawX (A := X.A.in1) (I.ok.hd hc) t D.l1i1 ws.toArray) (drawX (A := X.A.in1) (I.ok.hd hc) u D.l2i2 ws2.toArray) hz hTI hTO ⟨h1, p1⟩ ⟨h2, p2⟩ l1 l2 fun x1 x2 h' tk e1 e2 z' TO' st1 st2 hT hsz hk => ?_
    have ex1 : x1 = v1 := by
      have e1 := e1
      simp only [List.getElem?_toArray] at e1
      rw [hv1] at e1
      exact (Option.some.inj e1).symm
    have ex2 : x2 = v2 := by
      have e2 := e2
      simp only [List.getElem?_toArray] at e2
      rw [hv2] at e2
      exact (Option.some.inj e2).symm
    subst ex1 ex2
    refine ⟨_, rfl, wpAny_letOwnedTupleGo_zip (s := { s with heap := h', toks := tk }) z' fun h3 z3 sb => ?_⟩
    have hT3 : h3.get? s.heap.objs.size = some { cls := .type "tuple", data := .seq #[x1, x2] } := (sb.2 _ (Nat.ne_of_gt hzl)).trans hT
    have new : ObjOk X.prog X.w (upd H s.heap.objs.size (.frz { cls := .type "tuple", data := .seq #[x1, x2] } (.tup [x, y]))) h3 s.heap.objs.size (.frz { cls := .type "tuple", data := .seq #[x1, x2] } (.tup [x, y])) := ⟨hT3, by show 2 ≤ sizeLine; decide, [x1, x2], .cons ru (.cons ru2 .nil), ⟨_, hT3, rfl, _, rfl⟩⟩
    have I1 : L2.Inv X pins σ (upd H s.heap.objs.size (.frz { cls := .type "tuple", data := .seq #[x1, x2] } (.tup [x, y]))) { s with heap := h3, toks := tk } := I.turnedNew (ch := [z, TI, TO, i1, i2]) (fun c o hb q => (sb.2 c (fun w => hb (by simp [w]))).trans (hk c o (fun w => hb (by simp [w])) (fun w => hb (by simp [w])) (fun w => hb (by simp [w])) (fun w => hb (by simp [w])) q)) hf (Nat.le_refl _) new
    refine ⟨.ref s.heap.objs.size, _, I1, rfl, ⟨_, x, y, rfl, ⟨I.hok.fresh (Nat.le_refl _), _, rfl, rfl⟩, fun l hl => by rw [sqX_inj I hl hqx]; exact hx, fun l hl => by rw [sqX_inj I hl hqy]; exact hy⟩, ⟨z3, (sb.2 _ D.TIz).trans (hk _ _ D.TIz D.TITO D.TIi1 D.TIi2 hTI), ⟨x1, x2, (sb.2 _ D.TOz).trans TO'⟩, st1.1.at fun o q => (sb.2 _ D.i1z).trans q, st2.1.at fun o q => (sb.2 _ D.i2z).trans q⟩, fun c hcm => ?_⟩
    have hlt : c < s.heap.objs.size := by
      have e' : c = z ∨ c = TI ∨ c = TO ∨ c = i1 ∨ c = i2 := by simpa using hcm
      rcases e' with q | q | q | q | q <;> rw [q]
      · exact hzl
      · exact Heap.lt_size hTI
      · exact Heap.lt_size hTO
      · obtain ⟨_, e, _⟩ := h1.obj; exact Heap.lt_size e
      · obtain ⟨_, e, _⟩ := h2.obj; exact Heap.lt_size e
    rw [upd_ne (Nat.ne_of_lt hlt)]
    exact (hf c hcm).1
  done := by
    intro X hP hw hK hc i pins s σ H E I hf ⟨hz, hTI, ⟨x0, y0, hTO⟩, h1, h2⟩ ⟨xs, ys, hqx, hqy, hend⟩
    subst hP hw hK
    obtain ⟨ws, rv, p1, _⟩ := seX I hqx
    obtain ⟨ws2, rv2, p2, _⟩ := seX I hqy
    have n1 := rv.length
    have n2 := rv2.length
    have fin : ∀ h' tk, (∀ c o, c ≠ z → c ≠ TO → c ≠ i1 → c ≠ i2 → s.heap.get? c = some o → h'.get? c = some o) → (none : Option Value) = none ∧ L2.Inv X pins σ H { s with heap := h', toks := tk } := fun h' tk hk =>
      ⟨rfl, I.turnedL (t' := tk) (ch := [z, TI, TO, i1, i2]) (fun c o hb q => hk c o (fun w => hb (by simp [w])) (fun w => hb (by simp [w])) (fun w => hb (by simp [w])) (fun w => hb (by simp [w])) q) hf⟩
    have go : ∀ {nn mm : Nat} {P1 P2 : Nat → Value → Prop} {S1 S2 : Nat → Heap → Prop} (_ : Draws X.prog X.w X.A.in1 i1 [i1, a] nn P1 S1) (_ : Draws X.prog X.w X.A.in1 i2 [i2, b] mm P2 S2) (_ : S1 i s.heap) (_ : S2 i s.heap) (_ : i ≤ nn) (_ : i ≤ mm) (_ : i = nn ∨ i = mm),
        wpAny (model X.prog X.w) X.A (pyNext (.ref z)) (fun r s1 => r = none ∧ L2.Inv X pins σ H s1) E s := fun D1 D2 s1 s2 a1 a2 a3 => wpAny_pyNext_zipD2_end (sepOf D) D1 D2 hz hTI hTO s1 s2 a1 a2 a3 fin
    have dA := drawX (prog := X.prog) (w := X.w) (A := X.A.in1) (I.ok.hd hc) t D.l1i1 ws.toArray
    have dB := drawX (prog := X.prog) (w := X.w) (A := X.A.in1) (I.ok.hd hc) u D.l2i2 ws2.toArray
    by_cases c1 : i < ws.length
    · have kB := stuckX (prog := X.prog) (w := X.w) (A := X.A.in1) (I.ok.hd hc) u (i := i) (ws := ws2.toArray) (by simp; omega) D.l2i2
      exact go dA kB ⟨h1, p1⟩ ⟨rfl, h2, p2⟩ (by simp; omega) (Nat.le_refl _) (.inr rfl)
    · have kA := stuckX (prog := X.prog) (w := X.w) (A := X.A.in1) (I.ok.hd hc) t (i := i) (ws := ws.toArray) (by simp; omega) D.l1i1
      by_cases c2 : i < ws2.length
      · exact go kA dB ⟨rfl, h1, p1⟩ ⟨h2, p2⟩ (Nat.le_refl _) (by simp; omega) (.inl rfl)
      · have kB := stuckX (prog := X.prog) (w := X.w) (A := X.A.in1) (I.ok.hd hc) u (i := i) (ws := ws2.toArray) (by simp; omega) D.l2i2
        exact go kA kB ⟨rfl, h1, p1⟩ ⟨rfl, h2, p2⟩ (Nat.le_refl _) (Nat.le_refl _) (.inl rfl)
  self := fun A i s Q E ⟨hz, _⟩ h => wpAny_pyIter_zip hz h
theorem pi_zipM {X : Cx} {e e2 : Expr} {ta : TA} {p pos tpos : Pos} {elts : List Expr} {kk : Nat} (hg : Gl X "zip") (hm : X.mg "zip" = none) (ha : PA X [e, e2] ta)
    (hs : starEach [e, e2] X.env = (false, eval e X.env) :: starEach [e2] X.env := by rfl) (hpl : (backTo pos (starEach [e2] X.env)).any (·.1) = false := by rfl) :
    PI X (.Tuple elts kk tpos) (.Call (.Name "zip" p) [e, e2] [] pos) (iZipM X.K ta) := by
  refine ⟨fun pins s σ H R I h => Call_ (ld_blt I hg hm PyProof.Rows.boot_zip (PyProof.Rows.callWith_type1 (thn (ha.run pos pins s σ H _ I h) fun us s1 hh => ?_) hs hpl))⟩
  obtain ⟨vs, H1, I1, r1, t, u, a, b, xs, ys, rfl, hqx, hqy, q⟩ := hh
  cases r1 with
  | cons r rr =>
    cases rr with
    | cons r' rr =>
      cases rr
      cases r
      cases r'
      obtain ⟨ws, rv, p1, la⟩ := seX I1 hqx
      obtain ⟨ws2, rv2, p2, lb⟩ := seX I1 hqy
      obtain ⟨o1, B1, k1⟩ := begX t a ws.toArray
      obtain ⟨o2, B2, k2⟩ := begX u b ws2.toArray
      refine zip_begins2 B1 B2 p1 p2 fun h' hz hTI hTO e1 e2 hsz hk => wpAny_pyIter_zip hz ?_
      refine ⟨s1.heap.objs.size + 4, [s1.heap.objs.size + 4, s1.heap.objs.size + 2, s1.heap.objs.size + 3, s1.heap.objs.size, s1.heap.objs.size + 1], _, _, H1, rfl, I1.kept (t' := s1.toks) hk, turn_zipM (PySem.W.ktu_apart s1.heap.objs.size a b la lb), ⟨hz, hTI, ⟨_, _, hTO⟩, k1 _ _ e1, k2 _ _ e2⟩, fun c hc => ?_, q⟩
      have hle : s1.heap.objs.size ≤ c := by
        have e' : c = s1.heap.objs.size + 4 ∨ c = s1.heap.objs.size + 2 ∨ c = s1.heap.objs.size + 3 ∨ c = s1.heap.objs.size ∨ c = s1.heap.objs.size + 1 := by simpa using hc
        rcases e' with q | q | q | q | q <;> rw [q] <;> first | exact Nat.le_refl _ | exact Nat.le_add_right _ _
      exact I1.fpOk hle (I1.hok.fresh hle)
/-! the pairs of a locked dict -/
theorem turn_itmF {P : Program} {w : World} {K : PySem.W.Frag} {d : Addr} {o : Obj} {es : Array DictEntry} {ep : Nat} {kvs : List (Key × V)} {tes : List Expr} {m : Nat} {tp : Pos} (it : Addr) (hod : o.data = .dict es ep) :
    Turn P w K (.Tuple tes m tp) (ItiF d o kvs) [it] it (fun i h => ∃ ok ov, IsItemIter h it d i kvs.length ep ok ov) where
  mem := List.mem_cons_self
  obj := fun i h ⟨ok, ov, e⟩ b hb => by rw [List.mem_singleton.mp hb]; exact ⟨_, e, fun v z => nomatch z⟩
  keep := fun i h h' ⟨ok, ov, e⟩ k => ⟨ok, ov, k it List.mem_cons_self _ e⟩
  item := by
    intro X hP hw hK hc i pn s σ H E I hf ⟨ok, ov, he⟩ ⟨hd, hi⟩
    subst hP hw hK
    obtain ⟨hs, hgd, hx, es', ep', vs, hdt, hsz, kv, hm⟩ := I.frzK hd
    obtain ⟨rfl, rfl⟩ := dict_ep hod hdt
    have hkv : kvs[i]? = some kvs[i] := List.getElem?_eq_getElem hi
    generalize kvs[i] = p at hkv
    obtain ⟨k, v⟩ := p
    obtain ⟨u, hu, ru⟩ := kv_get kv hkv
    have hl : kvs.length = vs.length := Paired.length kv
    rw [hl] at he
    have hlt : it < s.heap.objs.size := Heap.lt_size he
    refine wpAny_pyNext_items_item he hm hu fun key h' hkey ho hT hz hk => ⟨_, rfl, wpAny_letOwnedTupleGo_items (s := { s with heap := h' }) ho fun h2 he2 sb => ?_⟩
    have hT2 : h2.get? s.heap.objs.size = some { cls := .type "tuple", data := .seq #[key, u] } := (sb.2 _ (Nat.ne_of_gt hlt)).trans hT
    have new : ObjOk X.prog X.w (upd H s.heap.objs.size (.frz { cls := .type "tuple", data := .seq #[key, u] } (.tup [kV k, v]))) h2 s.heap.objs.size (.frz { cls := .type "tuple", data := .seq #[key, u] } (.tup [kV k, v])) :=
      ⟨hT2, by show 2 ≤ sizeLine; decide, [key, u], .cons (relV_key (show keyIs k key = true from hkey)) (.cons ru .nil), ⟨_, hT2, rfl, _, rfl⟩⟩
    have I1 := I.turnedNew (t' := s.toks) (ch := [it]) (fun b ob hb e => (sb.2 b (fun z => hb (by simp [z]))).trans (hk b ob (fun z => hb (by simp [z])) e)) hf (Nat.le_refl _) new
    refine ⟨.ref s.heap.objs.size, _, I1, rfl, ⟨_, k, v, hkv, rfl, I.hok.fresh (Nat.le_refl _), _, rfl, rfl⟩, ⟨key, u, by rw [hl]; exact he2⟩, fun b hb => ?_⟩
    rw [List.mem_singleton.mp hb, upd_ne (Nat.ne_of_lt hlt)]
    exact (hf it List.mem_cons_self).1
  done := by
    intro X hP hw hK hc i pn s σ H E I hf ⟨ok, ov, he⟩ ⟨hd, hi⟩
    subst hP hw hK
    obtain ⟨f0, f1, f2, f3, f4, f5⟩ := hf it List.mem_cons_self
    obtain ⟨hs, hgd, hx, es', ep', vs, hdt, hsz, kv, hm⟩ := I.frzK hd
    obtain ⟨rfl, rfl⟩ := dict_ep hod hdt
    have hl : kvs.length = vs.length := Paired.length kv
    rw [hl] at he
    exact wpAny_pyNext_items_end (I.ok.hd hc) he hm (List.getElem?_eq_none (by omega)) fun h' eb => ⟨rfl, I.turned (t' := s.toks) (fun b ob hb q => eb b ob hb q) f0 f1 f3 f4 f5⟩
  self := fun A i s Q E ⟨_, _, e⟩ h => PySem.W.kcp_self e h
def iItemsF (td : TE) : TI := fun σ H R => td σ H fun x H1 => ∃ d o kvs, x = .ref d ∧ H1 d = some (.frz o (.dK kvs)) ∧ R (ItiF d o kvs) H1
theorem pi_itemsF {X : Cx} {e : Expr} {td : TE} {elts : List Expr} {kk : Nat} {tpos apos cpos : Pos} (he : PE X e td) (hbase : attributeBase e "items" X.env (eval e X.env) = eval e X.env := by rfl) (hline : (apos.endLine == cpos.line) = true := by rfl) :
    PI X (.Tuple elts kk tpos) (.Call (.Attribute e "items" apos) [] [] cpos) (iItemsF td) := by
  refine ⟨fun pn s σ H R I hh => wpAny_Call_method (T := "dict") (id := "dict.items") hbase rfl hline F.plainAttrs_dict F.slot_dict_items F.type_dict_items (thn (he.run pn s σ H _ I hh) fun u s1 hq => ?_)⟩
  obtain ⟨x, H1, I1, rx, d, o, kvs, rfl, hd, q⟩ := hq
  obtain rfl : u = Value.ref d := rx
  obtain ⟨hs, hgd, hx, es, ep, vs, hdt, hsz, kv, hm⟩ := I1.frzK hd
  have hl : kvs.length = vs.length := Paired.length kv
  refine ⟨hm.dictOf.typeIs, hm.dictOf.mapOf.noDict, ?_⟩
  have I2 := I1.kept (t' := s1.toks) (h' := s1.heap.push { cls := .type "dict_items", data := .fields #[.ref d] }) fun b ob q => Heap.get?_push_of_some _ q
  have fin : wpAny (model X.prog X.w) X.A (pyIter (.ref s1.heap.objs.size)) (PIE X pn σ (.Tuple elts kk tpos) R) X.xe { s1 with heap := s1.heap.push { cls := .type "dict_items", data := .fields #[.ref d] } } :=
    wpAny_pyIter_items (d := d) (knd := mixKind X.prog X.w) ⟨_, Heap.get?_push_size _ rfl, rfl, rfl⟩ (hm.push _) (pi_one (tk := s1.toks) I2 _ (turn_itmF _ hdt) ⟨.none, .none, by rw [hl]; exact Heap.get?_push_size _ rfl⟩ q)
  exact method_meetsIn F.slot_dict_items F.entry_dict_items rfl (PySem.evalArgs_none ⟨rfl, hm.dictOf.typeIs, F.args_dict_items_1 _, _, meets_dict_items (mixKind X.prog X.w) d hs, ⟨vs, hm.dictOf⟩, fin⟩)
end MP
end

section
set_option Elab.async false
set_option linter.all false
set_option maxRecDepth 100000
/-! MpM3: list(enumerate(x)). -/
namespace MP
open PySem PySem.Spec PyProof.Rows L2
section
variable {prog : Program} {w : World} {A : Around} {E : Value → Shared → Prop} {s : Shared}
/-- the next pair while the pair that was given out before is still held -/
theorem enum_heldD {e it T : Addr} {fp : List Addr} {n i : Nat} {P : Nat → Value → Prop} {St : Nat → Heap → Prop} {old : Value} {f : Bool} {oT : Obj} {Q : Value → Shared → Prop}
    (D : Draws prog w A it fp n P St) (he : IsEnumHeld s.heap e it i old T f) (hT : s.heap.get? T = some oT) (hTe : T ≠ e) (hTi : T ≠ it) (hst : St i s.heap) (hlt : i < n) (hne : e ≠ it) (hef : e ∉ fp)
    (hQ : ∀ x h' tk, P i x → IsEnumHeld h' e it ((i : Int) + 1) old T true → St (i + 1) h' → h'.get? s.heap.objs.size = some { cls := .type "tuple", data := .seq #[.int i tk, x] } →
      (∀ b o, b ≠ e → b ≠ it → s.heap.get? b = some o → h'.get? b = some o) → Q (.ref s.heap.objs.size) { s with heap := h', toks := tk + 1 }) :
    wpAny (model prog w) A (Builtin.«enumerate.__next__» ⟨[.ref e], []⟩) (fun fin s' => ∃ v, fin = .done (.ret v) ∧ Q v s') E s := by
  obtain ⟨g0, gs, dr, t0, os⟩ := s
  show wpAny _ _ (field (.ref e) 2 >>= _) _ _ _
  refine wpAny_bind (wpAny_field he rfl (x := .ref it) rfl ?_)
  refine wpAny_bind (D.item i _ _ _ hlt hst fun x g1 tk px st1 sb1 => ?_)
  have sb1 : Heap.SameBut it g0 g1 := sb1
  have e1 : IsEnumHeld g1 e it i old T f := (sb1.2 e hne).trans he
  show wpAny _ _ (field (.ref e) 3 >>= _) _ _ ⟨g1, gs, dr, tk, os⟩
  refine wpAny_bind (wpAny_field e1 rfl (x := rawInt i) rfl ?_)
  show wpAny _ _ (field (.ref e) 4 >>= _) _ _ ⟨g1, gs, dr, tk, os⟩
  refine wpAny_bind (wpAny_field e1 rfl (x := .none) rfl ?_)
  show wpAny _ _ (mkInt i >>= _) _ _ ⟨g1, gs, dr, tk, os⟩
  refine wpAny_bind (wpAny_mkInt ?_)
  show wpAny _ _ (setField (.ref e) 3 (rawInt ((i : Int) + 1)) >>= _) _ _ ⟨g1, gs, dr, tk + 1, os⟩
  refine wpAny_bind (wpAny_setField_rec e1 (by simp) fun g2 e2 sb2 => ?_)
  have sb2 : Heap.SameBut e g1 g2 := sb2
  have e2 : IsEnumHeld g2 e it ((i : Int) + 1) old T f := e2
  show wpAny _ _ (setField (.ref e) 4 .none >>= _) _ _ ⟨g2, gs, dr, tk + 1, os⟩
  refine wpAny_bind (wpAny_setField_rec e2 (by simp) fun g3 e3 sb3 => ?_)
  have sb3 : Heap.SameBut e g2 g3 := sb3
  have e3 : IsEnumHeld g3 e it ((i : Int) + 1) old T f := e3
  show wpAny _ _ (newTuple [.int i tk, x] >>= _) _ _ ⟨g3, gs, dr, tk + 1, os⟩
  refine wpAny_bind (wpAny_newTuple ?_)
  have hz : g3.objs.size = g0.objs.size := by rw [sb3.1, sb2.1, sb1.1]
  have e4 : IsEnumHeld (g3.push { cls := .type "tuple", data := .seq #[.int i tk, x] }) e it ((i : Int) + 1) old T f := Heap.get?_push_of_some _ e3
  have kp : ∀ b o, b ≠ e → b ≠ it → g0.get? b = some o → (g3.push { cls := .type "tuple", data := .seq #[.int i tk, x] }).get? b = some o := fun b o n1 n2 q =>
    Heap.get?_push_of_some _ (sb3.extBut b o n1 (sb2.extBut b o n1 (sb1.extBut b o n2 q)))
  have t4 : (g3.push { cls := .type "tuple", data := .seq #[.int i tk, x] }).get? g0.objs.size = some { cls := .type "tuple", data := .seq #[.int i tk, x] } := by rw [← hz]; exact Heap.get?_push_size _ rfl
  have s4 : St (i + 1) (g3.push { cls := .type "tuple", data := .seq #[.int i tk, x] }) := D.frame _ _ _ st1 fun b hb o y => by
    have n1 : b ≠ e := fun q => hef (q ▸ hb)
    exact Heap.get?_push_of_some _ (sb3.extBut b o n1 (sb2.extBut b o n1 y))
  generalize hg4 : g3.push { cls := .type "tuple", data := .seq #[.int i tk, x] } = g4 at e4 kp t4 s4
  show wpAny _ _ (Builtin.SmallTypes.ownedTupleIsFree (.ref e) >>= _) _ _ ⟨g4, gs, dr, tk + 1, os⟩
  rw [hz]
  have hl : e < g0.objs.size := Heap.lt_size he
  refine wpAny_bind (wpAny_tupleHeld_enum (s := ⟨g4, gs, dr, tk + 1, os⟩) e4 (kp T oT hTe hTi hT) fun g5 e5 sb5 => ?_)
  have sb5 : Heap.SameBut e g4 g5 := sb5
  simp only [Bool.false_eq_true, if_false]
  refine wpAny_pure ⟨_, rfl, hQ x g5 tk px e5 (D.frame _ _ _ s4 fun b hb o y => ?_) (sb5.extBut _ _ (Nat.ne_of_gt hl) t4) fun b o n1 n2 q => sb5.extBut b o n1 (kp b o n1 n2 q)⟩
  exact sb5.extBut b o (fun q => hef (q ▸ hb)) y
theorem enum_next_heldD {e it T : Addr} {fp : List Addr} {n i : Nat} {P : Nat → Value → Prop} {St : Nat → Heap → Prop} {old : Value} {f : Bool} {oT : Obj} {Q : Option Value → Shared → Prop}
    (D : Draws prog w A.in1 it fp n P St) (he : IsEnumHeld s.heap e it i old T f) (hT : s.heap.get? T = some oT) (hTe : T ≠ e) (hTi : T ≠ it) (hst : St i s.heap) (hlt : i < n) (hne : e ≠ it) (hef : e ∉ fp)
    (hQ : ∀ x h' tk, P i x → IsEnumHeld h' e it ((i : Int) + 1) old T true → St (i + 1) h' → h'.get? s.heap.objs.size = some { cls := .type "tuple", data := .seq #[.int i tk, x] } →
      (∀ b o, b ≠ e → b ≠ it → s.heap.get? b = some o → h'.get? b = some o) → Q (some (.ref s.heap.objs.size)) { s with heap := h', toks := tk + 1 }) :
    wpAny (model prog w) A (pyNext (.ref e)) Q E s := by
  have ty : s.TypeIs (.ref e) "enumerate" := ⟨_, he, rfl⟩
  unfold pyNext
  refine wpAny_bind (wpAny_attempt (wpAny_callSpecial?_slot (name := Str.ofString "__next__") ty F.slot_enumerate_next ?_))
  refine wpAny_call_entry F.slot_enumerate_next ty F.entry_enumerate_next ?_ (F.args_enumerate_next_1 _)
  exact enum_heldD D he hT hTe hTi hst hlt hne hef fun x h' tk a b c d k => wpAny_pure (hQ x h' tk a b c d k)
theorem enum_end_heldD {e it T : Addr} {fp : List Addr} {n : Nat} {P : Nat → Value → Prop} {St : Nat → Heap → Prop} {i : Int} {old : Value} {f : Bool} {Q : Option Value → Shared → Prop}
    (D : Draws prog w A.in1 it fp n P St) (he : IsEnumHeld s.heap e it i old T f) (hst : St n s.heap) (hQ : ∀ h', Heap.ExtBut it s.heap h' → Q none { s with heap := h' }) : wpAny (model prog w) A (pyNext (.ref e)) Q E s := by
  have ty : s.TypeIs (.ref e) "enumerate" := ⟨_, he, rfl⟩
  unfold pyNext
  refine wpAny_bind (wpAny_attempt (wpAny_callSpecial?_slot (name := Str.ofString "__next__") ty F.slot_enumerate_next ?_))
  refine wpAny_call_entry F.slot_enumerate_next ty F.entry_enumerate_next ?_ (F.args_enumerate_next_1 _)
  show wpAny _ _ (field (.ref e) 2 >>= _) _ _ _
  refine wpAny_bind (wpAny_field he rfl (x := .ref it) rfl ?_)
  refine wpAny_bind (D.done _ _ _ hst fun g1 x eb hx => ?_)
  obtain ⟨o, ho, hc⟩ := hx
  exact wpAny_bind (wpAny_isInstance (b := true) (T := "StopIteration") ⟨o, ho, hc⟩ isSubtype_stop (wpAny_pure (hQ _ eb)))
end
theorem enum_no_len : typeLookup (.type "enumerate") "__len__" = pure none := am_miss_of_fast (by decide +kernel)
theorem enum_no_hint : typeLookup (.type "enumerate") "__length_hint__" = pure none := am_miss_of_fast (by decide +kernel)
/-- list(o): a loop that draws o and fills the list at q; P m acc H h: at most m turns are left, acc stands in the list -/
structure LRun (X : Cx) (pins : List (Addr × Obj)) (σ : L2.St) (A1 : Around) (a q : Addr) (P : Nat → List V → Hp → Heap → Prop) (Rr : List V → Hp → Prop) : Prop where
  fr : ∀ m acc H h h', P m acc H h → (∀ b o, b ≠ q → h.get? b = some o → h'.get? b = some o) → P m acc H h'
  nx : ∀ m acc H s E, L2.Inv X pins σ H s → P m acc H s.heap → wpAny (model X.prog X.w) A1.in1 (pyNext (.ref a)) (fun r s' => match r with
    | some u => ∃ v H', L2.Inv X pins σ H' s' ∧ RelV v u ∧ H' q = some (.lst acc) ∧ acc.length < sizeLine ∧ ∃ m', m' < m ∧ P m' (acc ++ [v]) (upd H' q (.lst (acc ++ [v]))) s'.heap
    | none => ∃ H', L2.Inv X pins σ H' s' ∧ Rr acc H') E s
section
variable {X : Cx} {pins : List (Addr × Obj)} {σ : L2.St} {A1 : Around} {a q : Addr} {P : Nat → List V → Hp → Heap → Prop} {Rr : List V → Hp → Prop} {Rs : Result → Shared → Prop}
theorem lrun_loop (L : LRun X pins σ A1 a q P Rr) (hdone : ∀ acc H s, L2.Inv X pins σ H s → Rr acc H → Rs (.ok (.ret .none)) s) :
    ∀ (m : Nat) (acc : List V) (H : Hp) (s : Shared), L2.Inv X pins σ H s → P m acc H s.heap → codeAny (model X.prog X.w) A1 (.builtin "list.extend.loop" ⟨[.ref q, .ref a, .none], []⟩) Rs s := by
  intro m
  induction m using Nat.strongRecOn with
  | _ m ih =>
    intro acc H s I hP
    refine codeAny_builtin PySem.F.entry_extend_loop ?_
    rw [Around.under_plainId PySem.F.plain_extend_loop _]
    show wpAny _ A1.in1 (pyNext (.ref a) >>= _) _ _ s
    refine wpAny_bind (wpAny_mono (L.nx m acc H s _ I hP) (fun r s' hr => ?_) fun _ _ z => z)
    cases r with
    | none =>
      obtain ⟨H', I', hR⟩ := hr
      exact wpAny_pure (hdone acc H' s' I' hR)
    | some u =>
      obtain ⟨v, H', I', rv, hq', hlen, m', hm, hP'⟩ := hr
      show wpAny _ A1.in1 (updateSeq q (·.push u) >>= _) _ _ _
      obtain ⟨z, its, k, r2, hl, e⟩ := I'.lstM hq'
      refine wpAny_bind (wpAny_updateSeq e rfl (wpAny_pure ⟨plainId_quiet PySem.F.plain_extend_loop _, ?_⟩) (by rw [List.size_toArray]; omega) (by show (its.toArray.push u).size ≤ _; rw [Array.size_push, List.size_toArray]; omega))
      have I2 := I'.lset (f := (·.push u)) (its' := its ++ [u]) (t' := s'.toks) hq' e (by simp) (r2.append (.cons rv .nil)) (by simp only [List.length_append, List.length_singleton]; omega)
      exact ih m' hm (acc ++ [v]) _ _ I2 (L.fr _ _ _ _ _ hP' fun b o hb x => (Heap.get?_update_other _ _ (Ne.symm hb)).trans x)
/-- an object that is its own iterator and tells nothing of its length -/
structure SelfIt (X : Cx) (a : Addr) (T : String) (s : Shared) : Prop where
  ty : s.TypeIs (.ref a) T
  it : ∀ (A : Around) (Q : Value → Shared → Prop) (E : Value → Shared → Prop), Q (.ref a) s → wpAny (model X.prog X.w) A (pyIter (.ref a)) Q E s
theorem lrun_extend {T : String} {m : Nat} {s : Shared} {H : Hp} (L : LRun X pins σ A1 a q P Rr) (hdone : ∀ acc H s, L2.Inv X pins σ H s → Rr acc H → Rs (.ok (.ret .none)) s) (hne : q ≠ a) (hT1 : (Value.type T == Value.type "list") = false) (hT2 : (Value.type T == Value.type "tuple") = false)
    (n1 : typeLookup (.type T) "__len__" = pure none) (n2 : typeLookup (.type T) "__length_hint__" = pure none) (I : L2.Inv X pins σ H s) (ss : SelfIt X a T s) (hq : H q = some (.lst [])) (hP : P m [] H s.heap) (hE : Value → Shared → Prop) :
    wpAny (model X.prog X.w) A1.in1 (Builtin.List.listExtendWith (.ref q) (.ref a) .none)
      (fun fin s' => match fin with | .done f => Rs (.ok f) s' | .again c' => c'.quiet = true ∧ codeAny (model X.prog X.w) A1 c' Rs s') hE s := by
  unfold Builtin.List.listExtendWith
  refine wpAny_bind (wpAny_typeOf ss.ty ?_)
  have g1 : Builtin.List.listSameRef (.ref q) (.ref a) = false := by simp only [Builtin.List.listSameRef, beq_eq_false_iff_ne]; exact hne
  simp only [g1, hT1, hT2, Bool.or_false, Bool.false_eq_true, if_false]
  refine wpAny_bind (ss.it _ _ _ ?_)
  refine wpAny_bind (wpAny_holding ?_)
  unfold Builtin.List.listLengthHint
  refine wpAny_bind (wpAny_specialOf ss.ty n1 ?_)
  show wpAny _ A1.in1 (specialOf (Value.ref a) (Str.ofString "__length_hint__") >>= _) _ _ _
  refine wpAny_bind (wpAny_specialOf ss.ty n2 (wpAny_pure ?_))
  show wpAny _ A1.in1 (rule "list.extend.makes-room" >>= fun _ => Builtin.List.listTouch (.ref q) >>= fun _ => again (.builtin "list.extend.loop" ⟨[.ref q, .ref a, .none], []⟩)) _ _ _
  obtain ⟨z, its, k, r3, hl3, e3⟩ := I.lstM hq
  cases r3
  refine wpAny_bind (wpAny_rule (wpAny_bind ?_))
  show wpAny _ _ (updateSeq q (·.push .none) >>= fun _ => updateSeq q (·.pop)) _ _ _
  refine wpAny_bind (wpAny_updateSeq e3 rfl ?_)
  have I2 := I.lset (ys := [.non]) (its' := [Value.none]) (f := (·.push Value.none)) (t' := s.toks) hq e3 (by simp) (.cons rfl .nil) (by simp only [List.length_singleton, sizeLine_eq]; decide)
  obtain ⟨z4, its4, k4, r4, hl4, e4⟩ := I2.lstM upd_same
  obtain ⟨u4, rfl, ru4⟩ := r4.one
  refine wpAny_updateSeq e4 rfl ?_ (by show 1 ≤ _; rw [sizeLine_eq]; omega) (by exact Nat.zero_le _)
  refine wpAny_pure ⟨plainId_quiet PySem.F.plain_extend_loop _, lrun_loop L hdone m [] H _ ?_ (L.fr _ _ _ _ _ hP fun b o hb x => ?_)⟩
  · have I3 := I2.lset (ys := []) (its' := []) (its := [u4]) (f := (·.pop)) (t' := s.toks) upd_same e4 (by rfl) .nil (Nat.zero_le _)
    have hH : upd (upd H q (.lst [.non])) q (.lst []) = H := by
      rw [upd_upd]
      funext b
      by_cases hb : b = q
      · subst hb; rw [upd_same, hq]
      · rw [upd_ne hb]
    rw [hH] at I3
    exact I3
  · exact (Heap.get?_update_other _ _ (Ne.symm hb)).trans ((Heap.get?_update_other _ _ (Ne.symm hb)).trans x)
theorem lrun_call {T : String} {s : Shared} {H : Hp} {Q : Value → Shared → Prop} (hT1 : (Value.type T == Value.type "list") = false) (hT2 : (Value.type T == Value.type "tuple") = false)
    (n1 : typeLookup (.type T) "__len__" = pure none) (n2 : typeLookup (.type T) "__length_hint__" = pure none) (I : L2.Inv X pins σ H s) (ss : ∀ s', (∀ b o, s.heap.get? b = some o → s'.heap.get? b = some o) → SelfIt X a T s') (hal : a < s.heap.objs.size)
    (L : H s.heap.objs.size = none → LRun X pins σ X.A.in1 a s.heap.objs.size P Rr) (hdone : ∀ acc H s', L2.Inv X pins σ H s' → Rr acc H → Q (.ref s.heap.objs.size) s') {m : Nat} (hP : ∀ h', (∀ b o, s.heap.get? b = some o → h'.get? b = some o) → P m [] (upd H s.heap.objs.size (.lst [])) h') :
    wpAny (model X.prog X.w) X.A (call (.type "list") [.ref a]) Q X.xe s := by
  refine callType_codes (Q₁ := fun ob s1 => ob = .ref s.heap.objs.size ∧ s1 = { s with heap := s.heap.push { cls := .type "list", data := .seq #[] } }) PySem.F.called_list (PySem.F.typeCall_list_1 _) PySem.F.entry_list_init (code_list_new _ ⟨rfl, rfl⟩) fun ob s1 hh => ?_
  obtain ⟨rfl, rfl⟩ := hh
  have hS : (s.heap.push { cls := .type "list", data := .seq #[] }).get? s.heap.objs.size = some { cls := .type "list", data := .seq #[] } := Heap.get?_push_size _ rfl
  have fr : H s.heap.objs.size = none := I.hok.fresh (Nat.le_refl _)
  refine ⟨⟨_, hS, rfl⟩, PySem.F.args_list_init_2 _ _, ?_⟩
  have I1 : L2.Inv X pins σ (upd H s.heap.objs.size (.lst [])) { s with heap := s.heap.push { cls := .type "list", data := .seq #[] } } := I.lnew (t' := s.toks) (its := []) .nil (Nat.zero_le _)
  generalize hq : s.heap.objs.size = q at *
  show wpAny _ _ (do let old ← Builtin.List.listItems (.ref q); Builtin.List.listUpdate (.ref q) (fun _ => #[]); letGo old.toList.reverse; Builtin.List.listExtendWith (.ref q) (.ref a) .none) _ _ _
  refine wpAny_bind ?_
  unfold Builtin.List.listItems
  refine wpAny_bind (wpAny_seqItems hS rfl (wpAny_pure ?_))
  show wpAny _ _ (updateSeq q (fun _ => #[]) >>= fun _ => letGo (#[] : Array Value).toList.reverse >>= fun _ => Builtin.List.listExtendWith (.ref q) (.ref a) .none) _ _ _
  refine wpAny_bind (wpAny_updateSeq hS rfl ?_)
  have I2 := I1.lset (ys := []) (its' := []) (its := []) (f := fun _ => #[]) (t' := s.toks) upd_same hS rfl .nil (Nat.zero_le _)
  rw [upd_upd] at I2
  refine wpAny_bind (wpAny_letGo ?_)
  have kp : ∀ b o, s.heap.get? b = some o → ((s.heap.push { cls := .type "list", data := .seq #[] }).update q (Obj.mapSeq fun _ => #[])).get? b = some o := fun b o x =>
    (Heap.get?_update_other _ _ (by rw [← hq]; exact Nat.ne_of_gt (Heap.lt_size x))).trans (Heap.get?_push_of_some _ x)
  exact lrun_extend (A1 := X.A.in1) (Rs := wants (fun r s2 => r = .none ∧ Q (.ref q) s2) X.xe) (L fr) (fun acc H' s' I' hR => ⟨rfl, hdone acc H' s' I' hR⟩) (Nat.ne_of_gt hal) hT1 hT2 n1 n2 I2 (ss _ kp) upd_same (hP _ kp) _
end
/-- where the pair that was given out before stands -/
def EnSt (q e it : Addr) (i : Nat) (h : Heap) : Prop := (∃ old, IsEnum h e it ((i : Nat) : Int) old) ∨ ∃ old T f oT, IsEnumHeld h e it ((i : Nat) : Int) old T f ∧ h.get? T = some oT ∧ T ≠ e ∧ T ≠ it ∧ T ≠ q
section
variable {X : Cx} {pins : List (Addr × Obj)} {σ : L2.St} {A1 : Around} {e it q : Addr} {fp : List Addr} {n : Nat} {P : Nat → Value → Prop} {St : Nat → Heap → Prop} {Vx : List V → Hp → Prop} {xat : Nat → V → Prop}
theorem enum_lrun (hh : A1.handled = none) (hD : ∀ A : Around, A.handled = none → Draws X.prog X.w A it fp n P St) (hn : n ≤ sizeLine) (hv : ∀ i u, P i u → ∃ x, RelV x u ∧ xat i x) (hne : e ≠ it) (hef : e ∉ fp) (hqf : q ∉ fp) (hqe : q ≠ e) (hqi : q ≠ it)
    (he2 : ∀ H, H e = none → FpOk X pins H e) (hi2 : ∀ H, H it = none → FpOk X pins H it)
    (hV : ∀ acc H p x ob, acc.length < n → Vx acc H → xat acc.length x → H q = some (.lst acc) → H p = none → ob.dict = none → Vx (acc ++ [.ref p]) (upd (upd H p (.frz ob (.tup [.int (acc.length : Nat), x]))) q (.lst (acc ++ [.ref p])))) :
    LRun X pins σ A1 e q (fun m acc H h => m = n - acc.length ∧ acc.length ≤ n ∧ EnSt q e it acc.length h ∧ St acc.length h ∧ H e = none ∧ H it = none ∧ H q = some (.lst acc) ∧ Vx acc H) (fun acc H => acc.length = n ∧ Vx acc H ∧ H q = some (.lst acc)) where
  fr := by
    rintro m acc H h h' ⟨a1, a2, a3, a4, a5, a6, a7, a8⟩ k
    refine ⟨a1, a2, ?_, (hD A1 hh).frame _ _ _ a4 fun b hb o x => k b o (fun z => hqf (z ▸ hb)) x, a5, a6, a7, a8⟩
    rcases a3 with ⟨old, x⟩ | ⟨old, T, f, oT, x, hT, n1, n2, n3⟩
    · exact .inl ⟨old, k _ _ (Ne.symm hqe) x⟩
    · exact .inr ⟨old, T, f, oT, k _ _ (Ne.symm hqe) x, k _ _ n3 hT, n1, n2, n3⟩
  nx := by
    rintro m acc H s E I ⟨rfl, a2, a3, a4, a5, a6, a7, a8⟩
    have hin : (A1.in1).in1.handled = none := hh
    have D := hD A1.in1.in1 hin
    by_cases hlt : acc.length < n
    · have step : ∀ (x1 : Value) (h' : Heap) (tk : Nat), P acc.length x1 → EnSt q e it (acc.length + 1) h' → St (acc.length + 1) h' → h'.get? s.heap.objs.size = some { cls := .type "tuple", data := .seq #[.int acc.length tk, x1] } →
          (∀ b o, b ≠ e → b ≠ it → s.heap.get? b = some o → h'.get? b = some o) →
          ∃ v H', L2.Inv X pins σ H' { s with heap := h', toks := tk + 1 } ∧ RelV v (.ref s.heap.objs.size) ∧ H' q = some (.lst acc) ∧ acc.length < sizeLine ∧ ∃ m', m' < n - acc.length ∧ (m' = n - (acc ++ [v]).length ∧ (acc ++ [v]).length ≤ n ∧ EnSt q e it (acc ++ [v]).length h' ∧ St (acc ++ [v]).length h' ∧
            upd H' q (.lst (acc ++ [v])) e = none ∧ upd H' q (.lst (acc ++ [v])) it = none ∧ upd H' q (.lst (acc ++ [v])) q = some (.lst (acc ++ [v])) ∧ Vx (acc ++ [v]) (upd H' q (.lst (acc ++ [v])))) := by
        intro x1 h' tk hP hen hst hT hk
        obtain ⟨x, rx, hxa⟩ := hv _ _ hP
        have fr : H s.heap.objs.size = none := I.hok.fresh (Nat.le_refl _)
        have new : ObjOk X.prog X.w (upd H s.heap.objs.size (.frz { cls := .type "tuple", data := .seq #[.int acc.length tk, x1] } (.tup [.int (acc.length : Nat), x]))) h' s.heap.objs.size (.frz { cls := .type "tuple", data := .seq #[.int acc.length tk, x1] } (.tup [.int (acc.length : Nat), x])) :=
          ⟨hT, by show 2 ≤ sizeLine; rw [sizeLine_eq]; decide, [.int acc.length tk, x1], .cons ⟨_, rfl⟩ (.cons rx .nil), ⟨_, hT, rfl, _, rfl⟩⟩
        have I1 := I.turnedNew (t' := tk + 1) (ch := [e, it]) (fun b ob hb w => hk b ob (fun z => hb (by simp [z])) (fun z => hb (by simp [z])) w) (fun b hb => by
          rcases List.mem_cons.mp hb with z | z
          · rw [z]; exact he2 H a5
          · rw [List.mem_singleton.mp z]; exact hi2 H a6) (Nat.le_refl _) new
        have neq : ∀ {b : Addr} {u : HO}, H b = some u → b ≠ s.heap.objs.size := fun w z => by rw [z, fr] at w; cases w
        have hes : e ≠ s.heap.objs.size := by
          rcases a3 with ⟨old, w⟩ | ⟨old, T, f, oT, w, _⟩ <;> exact Nat.ne_of_lt (Heap.lt_size w)
        have his : it ≠ s.heap.objs.size := by
          obtain ⟨o, w⟩ := (hD A1 hh).live _ _ a4
          exact Nat.ne_of_lt (Heap.lt_size w)
        have hle : (acc ++ [V.ref s.heap.objs.size]).length = acc.length + 1 := by simp
        refine ⟨.ref s.heap.objs.size, _, I1, rfl, by rw [upd_ne (neq a7)]; exact a7, by omega, n - (acc.length + 1), by omega, by rw [hle], by omega, by rw [hle]; exact hen, by rw [hle]; exact hst, ?_, ?_, upd_same, hV acc H _ x _ hlt a8 hxa a7 fr rfl⟩
        · rw [upd_ne (Ne.symm hqe), upd_ne hes]; exact a5
        · rw [upd_ne (Ne.symm hqi), upd_ne his]; exact a6
      have ltq : ∀ {b : Addr} {o : Obj}, s.heap.get? b = some o → s.heap.objs.size ≠ b := fun w => Nat.ne_of_gt (Heap.lt_size w)
      have hqs : s.heap.objs.size ≠ q := by
        obtain ⟨z, its, k, r3, hl3, e3⟩ := I.lstM a7
        exact ltq e3
      have his : s.heap.objs.size ≠ it := by
        obtain ⟨o, w⟩ := (hD A1 hh).live _ _ a4
        exact ltq w
      rcases a3 with ⟨old, w⟩ | ⟨old, T, f, oT, w, hT, n1, n2, n3⟩
      · refine wpAny_pyNext_enum_itemD D w a4 hlt hne hef fun x1 h' tk hP ho hst hT hsz hk => ?_
        exact step x1 h' tk hP (.inr ⟨_, s.heap.objs.size, false, _, by rw [show ((acc.length + 1 : Nat) : Int) = (acc.length : Int) + 1 by omega]; exact ho, hT, ltq w, his, hqs⟩) hst hT hk
      · refine enum_next_heldD D w hT n1 n2 a4 hlt hne hef fun x1 h' tk hP ho hst hT2 hk => ?_
        exact step x1 h' tk hP (.inr ⟨_, T, true, oT, by rw [show ((acc.length + 1 : Nat) : Int) = (acc.length : Int) + 1 by omega]; exact ho, hk T oT n1 n2 hT, n1, n2, n3⟩) hst hT2 hk
    · have hen : acc.length = n := by omega
      rw [hen] at a3 a4
      have fin : ∀ h', Heap.ExtBut it s.heap h' → ∃ H', L2.Inv X pins σ H' { s with heap := h' } ∧ acc.length = n ∧ Vx acc H' ∧ H' q = some (.lst acc) := fun h' eb => by
        obtain ⟨f0, f1, f2, f3, f4, f5⟩ := hi2 H a6
        exact ⟨H, I.turned (t' := s.toks) (fun b o hb w => eb b o hb w) f0 f1 f3 f4 f5, hen, a8, a7⟩
      rcases a3 with ⟨old, w⟩ | ⟨old, T, f, oT, w, hT, n1, n2, n3⟩
      · exact wpAny_pyNext_enum_endD D w a4 fin
      · exact enum_end_heldD D w a4 fin
end
end MP
end

section
set_option Elab.async false
set_option linter.all false
set_option maxRecDepth 100000
/-! MpN: the texts that are walked. -/
namespace MP
open PySem PySem.Spec PyProof.Rows L2
section
variable {T : Tab} {N : List Str} {Γ : Ctx} {k : Nat} {X : Cx} {W : WX} {sc : Scope} {x y z : Ex} {a b c e tg : Expr} {xs : List Ex} {es : List Expr} {pos p apos tpos : Pos}
theorem RowT.iwe {K : PySem.W.Frag} {κ : List Addr} {S0 : Sto} {H0 : Hp} {ι0 : List Addr} {xs : List D} {a : Addr} {g : Option Nat} (h : RowT T K κ H0 ι0 xs a) : IW T K κ S0 H0 ι0 (enumD 0 xs, g) (IteX K true a) := by
  intro κ' H ι S hκ e w hg i
  obtain ⟨vs, h1, h2⟩ := h κ' H ι S hκ e w
  have hl := RepL.length h2
  have hl2 : (enumD 0 xs).length = xs.length := enumD_length xs 0
  refine ⟨fun hi => ?_, fun hi => ?_⟩
  · have hi : i < xs.length := by rw [← hl2]; exact hi
    refine ⟨⟨vs, vs[i]'(by omega), h1, by simp⟩, fun x H' ⟨q, y, hv, hq, hy⟩ => ?_⟩
    obtain ⟨u, hu, ru⟩ := RepL.get h2 (List.getElem?_eq_getElem hi)
    have : y = u := Option.some.inj ((hy vs h1).symm.trans hu)
    subst this hv
    obtain ⟨e1, w1, r1⟩ := pair_new (d := .int (i : Nat)) (x := .int (i : Nat)) w hq (by simp only [Rep]) ru
    refine ⟨e1, w1, _, ?_, r1⟩
    show (enumD 0 xs)[i]? = _
    rw [enumD_get, List.getElem?_eq_getElem hi]
    simp
  · have hi : i = (enumD 0 xs).length := hi
    exact ⟨vs, h1, by omega⟩
theorem PostI.of {K : PySem.W.Frag} {κ : List Addr} {σ : L2.St} {H : Hp} {ι : List Addr} {S : Sto} {o : Option (List D × Option Nat)} {Q : It → Hp → Prop} (h : PostI T K κ W σ H ι (R.of o S) Q) : ∃ p, o = some p ∧ PostI T K κ W σ H ι (.ok p S) Q := by
  cases o with
  | none => exact h.elim
  | some d => exact ⟨d, rfl, h⟩
/-- an argument list of one -/
theorem tA1 {x : Ex} {σ : L2.St} {H : Hp} {Q : List V → Hp → Prop} (h : tE T X.K W Γ x σ H fun v H1 => Q [v] H1) : tA T X.K W Γ [x] σ H Q := by
  obtain ⟨ι, κ, S, ρ, w, en, p⟩ := h
  refine ⟨ι, κ, S, ρ, w, en, ?_⟩
  simp only [evL, R.bind]
  cases hy : evE Γ x ρ S with
  | no => rw [hy] at p; exact p
  | exc C fs S2 => rw [hy] at p; exact p
  | ok d2 S2 =>
    rw [hy] at p
    intro vs H' ι' e' w' q
    have q : RepL X.K H' ι' κ [d2] vs := q
    obtain ⟨u, rfl, hu⟩ := RepL.one q
    exact p u H' ι' e' w' hu
theorem star1 {env : PySem.Env} (h : plainE a = true) : starEach [a] env = [(false, eval a env)] := star_plain h
/-- any exception or none -/
theorem i_itv (ha : Snd T X W Γ x a) : PI X tg a (tI T X.K W Γ (.itv x)) := by
  refine PI.some fun σ H Rk ⟨ι, κ, S, ρ, w, en, p⟩ => ?_
  simp only [evI] at p
  cases hx : evE Γ x ρ S with
  | no => rw [hx] at p; exact p.elim
  | exc C fs S1 => rw [hx] at p; exact ⟨_, pi_list ha.pe, ι, κ, S, ρ, w, en, by rw [hx]; exact p⟩
  | ok d S1 =>
    have key : ∀ {Q1 : V → Hp → Prop}, (∀ v H1 ι1, Ext H ι H1 ι1 → Wd T X.K H1 ι1 κ S1 → Rep X.K H1 ι1 κ d v → PostI T X.K κ W σ H1 ι1 (R.of (itemsOf d S1) S1) Rk → Q1 v H1) → tE T X.K W Γ x σ H Q1 := fun {Q1} f =>
      ⟨ι, κ, S, ρ, w, en, PostI.bind p fun d' S1' v H1 ι1 he e1 w1 r1 p1 => by rw [hx] at he; cases he; exact f v H1 ι1 e1 w1 r1 p1⟩
    cases d with
    | str z => exact ⟨_, pi_str ha.pe, key fun v H1 ι1 e1 w1 r1 p1 => by
        simp only [Rep] at r1
        exact ⟨z, r1.1, PostI.val p1 w1 (iw_str r1.2)⟩⟩
    | dic kvs => exact ⟨_, pi_keys ha.pe, key fun v H1 ι1 e1 w1 r1 p1 => by
        obtain ⟨ad, o, vs, rfl, h1, h2⟩ := dic_row w1 r1
        exact ⟨ad, o, rfl, .inl ⟨vs, h1, PostI.val p1 w1 (iw_keys h2)⟩⟩⟩
    | tup ds => exact ⟨_, pi_tup ha.pe, key fun v H1 ι1 e1 w1 r1 p1 => by
        simp only [Rep] at r1
        obtain ⟨ad, vs, rfl, h1, h2⟩ := r1
        exact ⟨ad, rfl, ⟨vs, h1.1⟩, PostI.val p1 w1 (RowT.iw fun κ' H ι S hκ e w' => ⟨vs, e.rdT w1.mut h1.1, RepL.mono e w1.mut hκ h2⟩)⟩⟩
    | _ => exact ⟨_, pi_list ha.pe, key fun v H1 ι1 e1 w1 r1 p1 => by
        obtain ⟨q, hq, p2⟩ := PostI.of p1
        obtain ⟨xs, g⟩ := q
        rcases row_of w1 r1 hq with ⟨_, h⟩ | ⟨_, h⟩ | ⟨ad, rfl, h | ⟨_, _, h⟩⟩
        · cases h
        · cases h
        · obtain ⟨vs, h1, _⟩ := h κ H1 ι1 S1 (fun _ z => .inl z) Ext.refl w1 (by cases g <;> simp [held])
          exact ⟨ad, rfl, ⟨vs, h1⟩, PostI.val p2 w1 h.iw⟩
        · cases h⟩
theorem i_rg1 (g : Gd T N Γ k X W sc) (hg : glB sc "range" = true) (ha : Snd T X W Γ x a) : PI X tg (.Call (.Name "range" p) [a] [] pos) (tI T X.K W Γ (.rg1 x)) := by
  refine PI.wk (pi_range1 (g.gl hg) (g.glo.blt _ (by decide)) (SndL.cons ha .nil).pa (star1 ha.pl)) fun σ H R ⟨ι, κ, S, ρ, w, en, p⟩ => ?_
  simp only [evI] at p
  refine tA1 ⟨ι, κ, S, ρ, w, en, PostI.bind p fun d S1 v H1 ι1 hq1 e1 w1 r1 p1 => ?_⟩
  split at p1
  · rename_i j
    have r1 : Rep X.K H1 ι1 κ (.int j) v := r1
    simp only [Rep] at r1
    split at p1
    · rename_i hj
      unfold SMALL at hj
      exact ⟨j, by rw [r1], by omega, by omega, PostI.val p1 w1 iw_range⟩
    · exact p1.elim
  · exact p1.elim
theorem tA2 {x y : Ex} {σ : L2.St} {H : Hp} {Q : List V → Hp → Prop} (h : tE T X.K W Γ x σ H fun v H1 => tE T X.K W Γ y σ H1 fun u H2 => Q [v, u] H2) : tCons (tE T X.K W Γ x) (tCons (tE T X.K W Γ y) tNil) σ H Q := h
theorem i_rg2 (g : Gd T N Γ k X W sc) (hg : glB sc "range" = true) (ha : Snd T X W Γ x a) (hb : Snd T X W Γ y b) : PI X tg (.Call (.Name "range" p) [a, b] [] pos) (tI T X.K W Γ (.rg2 x y)) := by
  refine PI.wk (pi_range2 (g.gl hg) (g.glo.blt _ (by decide)) (pa_cons ha.pe (pa_cons hb.pe pa_nil (star_plain hb.pl)) (star_plain ha.pl)) (by rw [star_plain ha.pl, star1 hb.pl]) (star1 hb.pl)) fun σ H R ⟨ι, κ, S, ρ, w, en, p⟩ => ?_
  simp only [evI] at p
  refine ⟨ι, κ, S, ρ, w, en, PostI.bind p fun d S1 v H1 ι1 hq1 e1 w1 r1 p1 => ⟨ι1, κ, S1, ρ, w1, en.up e1 w, PostI.bind p1 fun d2 S2 u H2 ι2 hq2 e2 w2 r2 p2 => ?_⟩⟩
  split at p2
  · rename_i i j
    have r1 : Rep X.K H1 ι1 κ (.int i) v := r1
    have r2 : Rep X.K H2 ι2 κ (.int j) u := r2
    simp only [Rep] at r1 r2
    split at p2
    · rename_i hj
      unfold SMALL at hj
      exact ⟨i, j, by rw [r1, r2], ⟨by omega, by omega, by omega, by omega⟩, PostI.val p2 w2 iw_range⟩
    · exact p2.elim
  · exact p2.elim
theorem rgcUp {i j c : Int} (h1 : -1000000000000000000 ≤ i) (h2 : i ≤ 1000000000000000000) (h3 : -1000000000000000000 ≤ j) (h4 : j ≤ 1000000000000000000) (h5 : 1 ≤ c) (h6 : c ≤ 1000000) : RgC i j c (rgN i j c) := by
  have hs : Builtin.Range.rangeSize i j c = (rgN i j c : Int) := by
    unfold Builtin.Range.rangeSize rgN
    rw [if_pos (by omega)]
    split
    · have := Int.ediv_nonneg (a := j - i - 1) (b := c) (by omega) (by omega)
      omega
    · rfl
  have hb : i < j → (j - i - 1) / c ≤ j - i - 1 := fun h => Int.ediv_le_self c (by omega)
  have hp : (rgN i j c : Int) ≤ 2000000000000000001 := by
    unfold rgN
    split
    · rename_i h
      have := hb h
      omega
    · omega
  refine ⟨by omega, by omega, ?_, hs⟩
  unfold Builtin.Range.small
  rw [hs]
  have hlast : i < j → (rgN i j c : Int) * c ≤ j - i - 1 + c := fun h => by
    have e : (rgN i j c : Int) = (j - i - 1) / c + 1 := by
      unfold rgN
      rw [if_pos h]
      have := Int.ediv_nonneg (a := j - i - 1) (b := c) (by omega) (by omega)
      omega
    rw [e, Int.add_mul]
    have := Int.ediv_mul_le (j - i - 1) (b := c) (by omega)
    omega
  simp only [Builtin.Range.rangeFitsLong, Bool.and_eq_true, Bool.or_eq_true, decide_eq_true_eq, beq_iff_eq, show (c > 0) by omega, if_true]
  all_goals (repeat' split) <;> omega
theorem i_rg3 (g : Gd T N Γ k X W sc) (hg : glB sc "range" = true) (ha : Snd T X W Γ x a) (hb : Snd T X W Γ y b) (hc : Snd T X W Γ z c) : PI X tg (.Call (.Name "range" p) [a, b, c] [] pos) (tI T X.K W Γ (.rg3 x y z)) := by
  have hp : PA X [a, b, c] (tCons (tE T X.K W Γ x) (tCons (tE T X.K W Γ y) (tCons (tE T X.K W Γ z) tNil))) := pa_cons ha.pe (pa_cons hb.pe (pa_cons hc.pe pa_nil (star_plain hc.pl)) (star_plain hb.pl)) (star_plain ha.pl)
  refine PI.wk (pi_range3 (g.gl hg) (g.glo.blt _ (by decide)) hp (star_plain ha.pl) (back_plain (by simp [hb.pl, hc.pl]))) fun σ H R ⟨ι, κ, S, ρ, w, en, p⟩ => ?_
  simp only [evI] at p
  refine ⟨ι, κ, S, ρ, w, en, PostI.bind p fun d S1 v H1 ι1 hq1 e1 w1 r1 p1 => ⟨ι1, κ, S1, ρ, w1, en.up e1 w, PostI.bind p1 fun d2 S2 u H2 ι2 hq2 e2 w2 r2 p2 => ⟨ι2, κ, S2, ρ, w2, (en.up e1 w).up e2 w1, PostI.bind p2 fun d3 S3 u3 H3 ι3 hq3 e3 w3 r3 p3 => ?_⟩⟩⟩
  split at p3
  · rename_i i j l
    have r1 : Rep X.K H1 ι1 κ (.int i) v := r1
    have r2 : Rep X.K H2 ι2 κ (.int j) u := r2
    have r3 : Rep X.K H3 ι3 κ (.int l) u3 := r3
    simp only [Rep] at r1 r2 r3
    split at p3
    · rename_i hj
      unfold SMALL at hj
      split at p3
      · rename_i e
        subst e
        exact ⟨i, j, -1, (i - j).toNat, by rw [r1, r2, r3], RgC.neg (by omega) (by omega) (by omega) (by omega), PostI.val p3 w3 iw_rangeC⟩
      · split at p3
        · rename_i hk
          exact ⟨i, j, l, rgN i j l, by rw [r1, r2, r3], rgcUp (by omega) (by omega) (by omega) (by omega) hk.1 hk.2, PostI.val p3 w3 iw_rangeC⟩
        · exact p3.elim
    · exact p3.elim
  · exact p3.elim
/-- by the value that comes -/
theorem one_case {x : Ex} {F : D → Sto → Option (List D × Option Nat)} {σ : L2.St} {H : Hp} {ι κ : List Addr} {S : Sto} {ρ : Env} {Rk : It → Hp → Prop} {P : Prop} (w : Wd T X.K H ι κ S) (en : EnvR X.K H ι κ σ ρ)
    (pp : PostI T X.K κ W σ H ι ((evE Γ x ρ S).bind fun x S => R.of (F x S) S) Rk) (he : (∀ Q1 : V → Hp → Prop, tE T X.K W Γ x σ H Q1) → P)
    (hk : ∀ d S1 q, F d S1 = some q → (∀ Q1 : V → Hp → Prop, (∀ v H1 ι1, Wd T X.K H1 ι1 κ S1 → Rep X.K H1 ι1 κ d v → (∀ J, IW T X.K κ S1 H1 ι1 q J → Rk J H1) → Q1 v H1) → tE T X.K W Γ x σ H Q1) → P) : P := by
  cases hx : evE Γ x ρ S with
  | no => rw [hx] at pp; exact pp.elim
  | exc C fs S1 =>
    rw [hx] at pp
    exact he fun Q1 => ⟨ι, κ, S, ρ, w, en, by rw [hx]; exact pp⟩
  | ok d S1 =>
    have pp' := pp
    rw [hx] at pp'
    obtain ⟨q, hq, _⟩ := PostI.of (show PostI T X.K κ W σ H ι (R.of (F d S1) S1) Rk from pp')
    refine hk d S1 q hq fun Q1 f => ⟨ι, κ, S, ρ, w, en, PostI.bind pp fun d' S1' v H1 ι1 he e1 w1 r1 p1 => ?_⟩
    rw [hx] at he
    cases he
    refine f v H1 ι1 w1 r1 fun J hJ => ?_
    have p1 : PostI T X.K κ W σ H1 ι1 (R.of (F d S1) S1) Rk := p1
    rw [hq] at p1
    exact PostI.val p1 w1 hJ
theorem i_enm (g : Gd T N Γ k X W sc) {tes : List Expr} {kk : Nat} (hg : glB sc "enumerate" = true) (ha : Snd T X W Γ x a) : PI X (.Tuple tes kk tpos) (.Call (.Name "enumerate" p) [a] [] pos) (tI T X.K W Γ (.enm x)) := by
  refine PI.some fun σ H Rk ⟨ι, κ, S, ρ, w, en, pp⟩ => ?_
  simp only [evI] at pp
  have hL := pi_enumX false (tpos := tpos) (elts := tes) (kk := kk) (p := p) (pos := pos) (g.gl hg) (g.glo.blt _ (by decide)) (SndL.cons ha .nil).pa (star1 ha.pl)
  have hT := pi_enumX true (tpos := tpos) (elts := tes) (kk := kk) (p := p) (pos := pos) (g.gl hg) (g.glo.blt _ (by decide)) (SndL.cons ha .nil).pa (star1 ha.pl)
  refine one_case w en pp (fun h => ⟨_, hL, tA1 (h _)⟩) fun d S1 q hq key => ?_
  have gen : (∀ z, d ≠ .str z) → (∀ z, d ≠ .dic z) → (∀ z, d ≠ .tup z) → enmD d S1 = (itemsOf d S1).map (fun p => (enumD 0 p.1, p.2)) → ∃ t, PI X (.Tuple tes kk tpos) (.Call (.Name "enumerate" p) [a] [] pos) t ∧ t σ H Rk := fun n1 n2 n3 he => by
    rw [he] at hq
    obtain ⟨⟨xs, g'⟩, h1, h2⟩ := Option.map_eq_some_iff.mp hq
    refine ⟨_, hL, tA1 (key _ fun v H1 ι1 w1 r1 f => ?_)⟩
    rcases row_of w1 r1 h1 with ⟨_, h⟩ | ⟨_, h⟩ | ⟨ad, rfl, h | ⟨_, _, h⟩⟩
    · exact absurd h (n1 _)
    · exact absurd h (n2 _)
    · obtain ⟨vs, h3, _⟩ := h κ H1 ι1 S1 (fun _ z => .inl z) Ext.refl w1 (by cases g' <;> simp [held])
      exact ⟨ad, vs, rfl, h3, f _ (by rw [← h2]; exact h.iwe)⟩
    · exact absurd h (n3 _)
  cases d with
  | tup ds =>
    refine ⟨_, hT, tA1 (key _ fun v H1 ι1 w1 r1 f => ?_)⟩
    simp only [Rep] at r1
    obtain ⟨ad, vs, rfl, h1, h2⟩ := r1
    have : q = (enumD 0 ds, none) := (Option.some.inj hq).symm
    exact ⟨ad, vs, rfl, h1.1, f _ (by rw [this]; exact RowT.iwe fun κ' H ι S hκ e w' => ⟨vs, e.rdT w1.mut h1.1, RepL.mono e w1.mut hκ h2⟩)⟩
  | str z => cases hq
  | dic z => cases hq
  | _ => exact gen (by intro z h; cases h) (by intro z h; cases h) (by intro z h; cases h) rfl
theorem i_itm {tes : List Expr} {kk : Nat} (ha : Snd T X W Γ x a) (hb : call0E a = false) (hl : (apos.endLine == pos.line) = true) : PI X (.Tuple tes kk tpos) (.Call (.Attribute a "items" apos) [] [] pos) (tI T X.K W Γ (.itm x)) := by
  refine PI.some fun σ H Rk ⟨ι, κ, S, ρ, w, en, pp⟩ => ?_
  simp only [evI] at pp
  have hL := pi_itemsF (tpos := tpos) (elts := tes) (kk := kk) ha.pe (base_plain hb) hl
  refine one_case (F := fun x _ => itmD x) w en pp (fun h => ⟨_, hL, h _⟩) fun d S1 q hq key => ?_
  cases d with
  | dic kvs =>
    refine ⟨_, hL, key _ fun v H1 ι1 w1 r1 f => ?_⟩
    obtain ⟨ad, o, vs, rfl, h1, h2⟩ := dic_row w1 r1
    have : q = (kvs.map fun kv => .tup [kv.1.d, kv.2], none) := (Option.some.inj hq).symm
    exact ⟨ad, o, vs, rfl, h1, f _ (by rw [this]; exact iw_items h2)⟩
  | _ => cases hq
theorem i_vls (ha : Snd T X W Γ x a) (hb : call0E a = false) (hl : (apos.endLine == pos.line) = true) : PI X tg (.Call (.Attribute a "values" apos) [] [] pos) (tI T X.K W Γ (.vls x)) := by
  refine PI.some fun σ H Rk ⟨ι, κ, S, ρ, w, en, pp⟩ => ?_
  simp only [evI] at pp
  have hL := pi_values (tg := tg) ha.pe (base_plain hb) hl
  refine one_case (F := fun x _ => vlsD x) w en pp (fun h => ⟨_, hL, h _⟩) fun d S1 q hq key => ?_
  cases d with
  | dic kvs =>
    refine ⟨_, hL, key _ fun v H1 ι1 w1 r1 f => ?_⟩
    obtain ⟨ad, o, vs, rfl, h1, h2⟩ := dic_row w1 r1
    have : q = (kvs.map fun kv => kv.2, none) := (Option.some.inj hq).symm
    exact ⟨ad, o, vs, rfl, h1, f _ (by rw [this]; exact iw_vals h2)⟩
  | _ => cases hq
theorem i_rvd (g : Gd T N Γ k X W sc) (hg : glB sc "reversed" = true) (ha : Snd T X W Γ x a) : PI X tg (.Call (.Name "reversed" p) [a] [] pos) (tI T X.K W Γ (.rvd x)) := by
  refine PI.some fun σ H Rk ⟨ι, κ, S, ρ, w, en, pp⟩ => ?_
  simp only [evI] at pp
  have hL := RT.pi_revA (tg := tg) (p := p) (pos := pos) (g.gl hg) (g.glo.blt _ (by decide)) ha.pe (star_plain ha.pl)
  refine one_case (F := fun x _ => rvdD x) w en pp (fun h => ⟨_, hL, h _⟩) fun d S1 q hq key => ?_
  cases d with
  | tup ds =>
    refine ⟨_, hL, key _ fun v H1 ι1 w1 r1 f => ?_⟩
    simp only [Rep] at r1
    obtain ⟨ad, vs, rfl, h1, h2⟩ := r1
    have : q = (ds.reverse, none) := (Option.some.inj hq).symm
    exact ⟨ad, vs, rfl, .inr ⟨h1.1, f _ (by rw [this, ← RepL.length h2]; exact RowT.iwr fun κ' H ι S hκ e w' => ⟨vs, e.rdT w1.mut h1.1, RepL.mono e w1.mut hκ h2⟩)⟩⟩
  | lst ds =>
    refine ⟨_, hL, key _ fun v H1 ι1 w1 r1 f => ?_⟩
    simp only [Rep] at r1
    obtain ⟨ad, vs, rfl, h1, hn, hk, h2⟩ := r1
    have : q = (ds.reverse, none) := (Option.some.inj hq).symm
    exact ⟨ad, vs, rfl, .inl ⟨.of h1, f _ (by rw [this, ← RepL.length h2]; exact RowL.iwr fun κ' H ι S hκ e w' _ => ⟨vs, .of (e.keep _ _ hn h1), RepL.mono e w1.mut hκ h2⟩)⟩⟩
  | rol ns =>
    refine ⟨_, hL, key _ fun v H1 ι1 w1 r1 f => ?_⟩
    obtain ⟨ad, rfl, h⟩ := rol_row w1.mut r1
    have : q = ((ns.map D.int).reverse, none) := (Option.some.inj hq).symm
    exact ⟨ad, _, rfl, .inl ⟨h _ _ Ext.refl, f _ (by rw [this, List.length_map, ← List.length_map (f := D.int)]; exact RowL.iwr fun κ' H ι S hκ e w' _ => ⟨_, h H ι e, RepL.ints ns⟩)⟩⟩
  | _ => cases hq
/-! zip -/
def RowX (T : Tab) (K : PySem.W.Frag) (t : Bool) (κ : List Addr) (H0 : Hp) (ι0 : List Addr) (xs : List D) (a : Addr) : Prop :=
  ∀ κ' H ι S, (∀ a ∈ κ', a ∈ κ ∨ H0 a = none) → Ext H0 ι0 H ι → Wd T K H ι κ' S → ∃ vs, SqX K t H a vs ∧ RepL K H ι κ' xs vs
theorem RowX.iwz {K : PySem.W.Frag} {κ : List Addr} {S0 : Sto} {H0 : Hp} {ι0 : List Addr} {xs ys : List D} {a b : Addr} {t u : Bool} (h : RowX T K t κ H0 ι0 xs a) (h' : RowX T K u κ H0 ι0 ys b) : IW T K κ S0 H0 ι0 (zipD xs ys, none) (ItzM K t u a b) := by
  intro κ' H ι S hκ e w hg i
  obtain ⟨vs, h1, h2⟩ := h κ' H ι S hκ e w
  obtain ⟨us, h3, h4⟩ := h' κ' H ι S hκ e w
  have hl := RepL.length h2
  have hl' := RepL.length h4
  have hz := zipD_length xs ys
  refine ⟨fun hi => ?_, fun hi => ?_⟩
  · have hi : i < (zipD xs ys).length := hi
    have hi1 : i < xs.length := by omega
    have hi2 : i < ys.length := by omega
    refine ⟨⟨vs, us, vs[i]'(by omega), us[i]'(by omega), h1, h3, by simp, by simp⟩, fun x H' ⟨q, y, z, hv, hq, hy, hy'⟩ => ?_⟩
    obtain ⟨u, hu, ru⟩ := RepL.get h2 (List.getElem?_eq_getElem hi1)
    obtain ⟨u', hu', ru'⟩ := RepL.get h4 (List.getElem?_eq_getElem hi2)
    have e1 : y = u := Option.some.inj ((hy vs h1).symm.trans hu)
    have e2 : z = u' := Option.some.inj ((hy' us h3).symm.trans hu')
    subst e1 e2 hv
    obtain ⟨e1, w1, r1⟩ := pair_new w hq ru ru'
    refine ⟨e1, w1, _, ?_, r1⟩
    show (zipD xs ys)[i]? = _
    rw [zipD_get, List.getElem?_eq_getElem hi1, List.getElem?_eq_getElem hi2]
  · have hi : i = (zipD xs ys).length := hi
    exact ⟨vs, us, h1, h3, by omega⟩
def stT : D → Bool
  | .tup _ => true
  | _ => false
theorem still_row {K : PySem.W.Frag} {κ : List Addr} {H0 : Hp} {ι0 : List Addr} {S0 : Sto} {d : D} {v : V} {xs : List D} (w : Wd T K H0 ι0 κ S0) (r : Rep K H0 ι0 κ d v) (e : stillOf d = some xs) : ∃ a, v = .ref a ∧ RowX T K (stT d) κ H0 ι0 xs a := by
  cases d with
  | tup ds => cases e; simp only [Rep] at r; obtain ⟨a, vs, rfl, h1, h2⟩ := r; exact ⟨a, rfl, fun κ' H ι S hκ e w' => ⟨vs, (show SqX K true H a vs from e.rdT w.mut h1.1), RepL.mono e w.mut hκ h2⟩⟩
  | lst ds => cases e; simp only [Rep] at r; obtain ⟨a, vs, rfl, h1, hn, hk, h2⟩ := r; exact ⟨a, rfl, fun κ' H ι S hκ e w' => ⟨vs, by exact .of (e.keep _ _ hn h1), RepL.mono e w.mut hκ h2⟩⟩
  | rol ns => cases e; obtain ⟨a, rfl, h⟩ := rol_row w.mut r; exact ⟨a, rfl, fun κ' H ι S hκ e w' => ⟨_, by exact h H ι e, RepL.ints ns⟩⟩
  | _ => cases e
theorem RowX.up {K : PySem.W.Frag} {t : Bool} {κ : List Addr} {H0 H1 : Hp} {ι0 ι1 : List Addr} {S1 : Sto} {xs : List D} {a : Addr} (h : RowX T K t κ H0 ι0 xs a) (e : Ext H0 ι0 H1 ι1) (w : Wd T K H1 ι1 κ S1) : RowX T K t κ H1 ι1 xs a := fun κ' H ι S hκ e' w' =>
  h κ' H ι S (fun a z => (hκ a z).elim .inl fun q => .inr (Ext.none e w.mut q)) (e.trans e') w'
theorem i_zp (g : Gd T N Γ k X W sc) {tes : List Expr} {kk : Nat} (hg : glB sc "zip" = true) (ha : Snd T X W Γ x a) (hb : Snd T X W Γ y b) : PI X (.Tuple tes kk tpos) (.Call (.Name "zip" p) [a, b] [] pos) (tI T X.K W Γ (.zp x y)) := by
  refine PI.wk (pi_zipM (tpos := tpos) (elts := tes) (kk := kk) (p := p) (pos := pos) (g.gl hg) (g.glo.blt _ (by decide)) (pa_cons ha.pe (pa_cons hb.pe pa_nil (star_plain hb.pl)) (star_plain ha.pl)) (star_plain ha.pl) (back_plain (by simp [hb.pl]))) fun σ H Rk ⟨ι, κ, S, ρ, w, en, pp⟩ => ?_
  simp only [evI] at pp
  refine ⟨ι, κ, S, ρ, w, en, PostI.bind pp fun d S1 v H1 ι1 hq1 e1 w1 r1 p1 => ⟨ι1, κ, S1, ρ, w1, en.up e1 w, PostI.bind p1 fun d2 S2 u H2 ι2 hq2 e2 w2 r2 p2 => ?_⟩⟩
  obtain ⟨q, hq, p3⟩ := PostI.of p2
  unfold zpD at hq
  split at hq
  · rename_i xs ys h1 h2
    cases hq
    obtain ⟨a1, rfl, k1⟩ := still_row w1 r1 h1
    obtain ⟨a2, rfl, k2⟩ := still_row w2 r2 h2
    have k1 := k1.up e2 w2
    obtain ⟨vs, h3, _⟩ := k1 κ H2 ι2 S2 (fun _ z => .inl z) Ext.refl w2
    obtain ⟨us, h4, _⟩ := k2 κ H2 ι2 S2 (fun _ z => .inl z) Ext.refl w2
    exact ⟨_, _, a1, a2, vs, us, rfl, h3, h4, PostI.val p3 w2 (k1.iwz k2)⟩
  · cases hq
end
end MP
end

section
set_option Elab.async false
set_option linter.all false
set_option maxRecDepth 100000
/-! MpN2: x[::-1], a list or a tuple. -/
namespace MP
open PySem PySem.Spec PyProof.Rows L2
theorem adj_rev (n : Nat) : Builtin.Slice.sliceAdjust none none (-1) (n : Int) = ((n : Int) - 1, -1) := by
  unfold Builtin.Slice.sliceAdjust
  simp
theorem places_rev (n : Nat) : Builtin.Slice.slicePlaces ((n : Int) - 1) (-1) (-1) = n := by
  unfold Builtin.Slice.slicePlaces
  rw [if_neg (by decide)]
  split
  · simp
  · simp; omega
theorem fm_map {α β : Type} {f : α → Option β} {g : α → β} : ∀ {l : List α}, (∀ m ∈ l, f m = some (g m)) → l.filterMap f = l.map g
  | [], _ => rfl
  | x :: l, h => by
    rw [List.filterMap_cons, h x List.mem_cons_self, List.map_cons, fm_map fun m hm => h m (List.mem_cons_of_mem _ hm)]
theorem pick_rev (ws : List Value) : ((List.range ws.length).filterMap fun (m : Nat) => ws.toArray[(((ws.length : Nat) : Int) - 1 + (m : Int) * (-1)).toNat]?) = ws.reverse := by
  rw [fm_map (g := fun m => ws[ws.length - 1 - m]?.getD .none)]
  · refine List.ext_getElem (by simp) fun i h1 h2 => ?_
    have hi : i < ws.length := by simpa using h1
    simp only [List.getElem_map, List.getElem_range, List.getElem_reverse]
    rw [List.getElem?_eq_getElem (show ws.length - 1 - i < ws.length by omega)]
    rfl
  · intro m hm
    have hm := List.mem_range.mp hm
    have e : (((ws.length : Nat) : Int) - 1 + (m : Int) * (-1)).toNat = ws.length - 1 - m := by omega
    rw [e]
    simp only [List.getElem?_toArray]
    rw [List.getElem?_eq_getElem (by omega)]
    rfl
section
variable {prog : Program} {w : World} {A : Around} {E : Value → Shared → Prop} {s : Shared}
theorem applied_rev {sl : Addr} {t : Tok} {n : Nat} {Q : Int × Int × Nat → Shared → Prop} (hs : s.heap.IsSliceOf sl .none .none (.int (-1) t)) (h : Q ((n : Int) - 1, -1, n) s) : wpAny (model prog w) A (Builtin.Slice.sliceApplied (.ref sl) (pure (n : Int))) Q E s := by
  obtain ⟨o, ho, _, hd⟩ := id hs
  unfold Builtin.Slice.sliceApplied Builtin.Slice.sliceFields
  refine wpAny_bind (wpAny_bind (wpAny_field ho hd (x := .none) rfl (wpAny_bind (wpAny_field ho hd (x := .none) rfl (wpAny_bind (wpAny_field ho hd (x := .int (-1) t) rfl (wpAny_pure ?_)))))))
  refine wpAny_bind (slicePart_int ?_)
  show wpAny _ _ (if ((-1 : Int) == 0) = true then _ else _) _ _ s
  rw [if_neg (by decide)]
  refine wpAny_bind (slicePart_none (wpAny_bind (slicePart_none (wpAny_bind (wpAny_pure ?_)))))
  show wpAny _ _ (match Builtin.Slice.sliceAdjust none none (-1) (n : Int) with | (lo, hi) => pure (lo, (-1 : Int), Builtin.Slice.slicePlaces lo hi (-1))) _ _ s
  rw [adj_rev]
  show wpAny _ _ (pure ((n : Int) - 1, (-1 : Int), Builtin.Slice.slicePlaces ((n : Int) - 1) (-1) (-1))) _ _ s
  rw [places_rev]
  exact wpAny_pure h
theorem item_rev {q sl : Addr} {ws : List Value} {t : Tok} {Q : Value → Shared → Prop} (ht : IsTup s.heap q ws.toArray) (hs : s.heap.IsSliceOf sl .none .none (.int (-1) t)) (hz : ws.length ≤ sizeLine)
    (h : Q (.ref s.heap.objs.size) { s with heap := s.heap.push { cls := .type "tuple", data := .seq ws.reverse.toArray } }) : wpAny (model prog w) A (getItem (.ref q) (.ref sl)) Q E s := by
  have hok : sizeOk (.seq ws.reverse.toArray) := by
    show ws.reverse.toArray.size ≤ sizeLine
    simpa using hz
  obtain ⟨o, ho, hc, _⟩ := id hs
  have hTs : s.TypeIs (.ref sl) "slice" := ⟨o, ho, hc⟩
  unfold getItem
  try with_reducible refine wpAny_holding ?_
  first | refine wpAny_bind (wpAny_pure ?_) | skip
  refine wpAny_bind (wpAny_sequenceKey ht.typeIs (by decide) ?_)
  refine wpAny_bind (wpAny_callSpecial?_slot (name := Str.ofString "__getitem__") ht.typeIs PyProof.Rows.slot_tuple_getitem (wpAny_call_entry PyProof.Rows.slot_tuple_getitem ht.typeIs entry_tuple_getitem ?_ (args_tuple_getitem _ _)))
  show wpAny _ _ (Builtin.Tuple.tupleItemsOf (.ref q) >>= _) _ _ s
  refine wpAny_bind (tupleItemsOf_ ht (wpAny_bind (wpAny_typeOf hTs ?_)))
  rw [if_pos (by decide)]
  refine wpAny_bind (applied_rev (n := ws.toArray.size) hs ?_)
  have hno : ¬ (((((ws.toArray.size : Nat) : Int) - 1 == 0 && (-1 : Int) == 1) && ws.toArray.size == ws.toArray.size) = true) := by
    intro z
    rw [Bool.and_eq_true, Bool.and_eq_true] at z
    exact absurd z.1.2 (by decide)
  show wpAny _ _ (if ((((ws.toArray.size : Nat) : Int) - 1 == 0 && (-1 : Int) == 1) && ws.toArray.size == ws.toArray.size) = true then _ else _) _ _ s
  rw [if_neg hno]
  have e : ((List.range ws.toArray.size).filterMap fun (k : Nat) => ws.toArray[(((ws.toArray.size : Nat) : Int) - 1 + (k : Int) * (-1)).toNat]?).toArray = ws.reverse.toArray := by
    have := pick_rev ws
    simp only [List.size_toArray]
    rw [this]
  rw [e]
  first
    | exact wpAny_bind (m := Builtin.Tuple.tupleExact _) (wpAny_newObj_type (wpAny_pure ⟨_, rfl, wpAny_pure h⟩) hok)
    | exact wpAny_bind (m := Builtin.Tuple.tupleExact _) (wpAny_newObj_type (wpAny_bind (wpAny_pure (wpAny_pure ⟨_, rfl, wpAny_pure h⟩))) hok)
    | exact wpAny_bind (wpAny_bind (m := Builtin.Tuple.tupleExact _) (wpAny_newObj_type (wpAny_pure ⟨_, rfl, wpAny_pure h⟩) hok))
end
/-- x[::-1] -/
def tRevA (K : PySem.W.Frag) (te : TE) : TE := fun σ H Q => te σ H fun x H1 => ∃ a xs, x = .ref a ∧ ((SqL K H1 a xs ∧ ∀ p, H1 p = none → Q (.ref p) (upd H1 p (.lst xs.reverse))) ∨ (SqT K H1 a xs ∧ NewT H1 xs.reverse Q))
theorem pe_revA {X : Cx} {e : Expr} {te : TE} {j : Nat} {p1 p2 p3 pos : Pos} (he : PE X e te) : PE X (.Subscript e (.Slice none none (some (.UnaryOp .USub (.Constant (.int 1) j p1) p2)) p3) pos) (tRevA X.K te) := by
  refine ⟨fun pins s σ H Q I h => Subscript_ (thn (he.run pins s σ H _ I h) fun v s1 hh => ?_)⟩
  obtain ⟨x, H1, I1, r1, a, xs, rfl, q⟩ := hh
  cases r1
  have st1 : PO X (some (.UnaryOp .USub (.Constant (.int 1) j p1) p2)) (tPart (tUn (rU fun i => .int (-i)) (tC (.int 1)))) := po_some (pe_un un_neg pe_int)
  refine wpAny_Slice (thn (po_none.run pins s1 σ H1 (fun o H2 => o = none ∧ H2 = H1) I1 ⟨rfl, rfl⟩) fun vl s2 g2 => ?_)
  obtain ⟨_, _, I2, pl, rfl, rfl⟩ := g2
  refine thn (po_none.run pins s2 σ _ (fun o H3 => o = none ∧ H3 = _) I2 ⟨rfl, rfl⟩) fun vu s3 g3 => ?_
  obtain ⟨_, _, I3, pu, rfl, rfl⟩ := g3
  refine thn (st1.run pins s3 σ _ (fun o H4 => o = some (-1) ∧ H4 = _) I3 ⟨1, rfl, -1, rfl, rfl, rfl⟩) fun vs s4 g4 => ?_
  obtain ⟨_, H4, I4, ps, rfl, rfl⟩ := g4
  cases pl
  cases pu
  cases ps with
  | int _ tk =>
    have I5 : L2.Inv X pins σ H4 { s4 with heap := s4.heap.push { cls := .type "slice", data := .fields #[.none, .none, .int (-1) tk] } } := I4.kept (t' := s4.toks) fun b ob z => Heap.get?_push_of_some _ z
    show wpAny (model X.prog X.w) X.A (subscriptTail e (.Slice none none (some (.UnaryOp .USub (.Constant (.int 1) j p1) p2)) p3) (.ref a) (.ref s4.heap.objs.size)) (EP X pins σ Q) X.xe { s4 with heap := s4.heap.push { cls := .type "slice", data := .fields #[.none, .none, .int (-1) tk] } }
    rcases q with ⟨hq, q⟩ | ⟨hq, q⟩
    · obtain ⟨ws, rv, pt, hz⟩ := I5.list hq
      have hl := rv.length
      refine tail_any (ops := [.ref a, .ref s4.heap.objs.size]) pt.isList.typeIs PySem.slot_list_getitem.lookup ?_ (by with_unfolding_all rfl)
      refine wpAny_getItem_list_slice pt.isList (Heap.IsSliceOf.new _ .none .none (.int (-1) tk)) .none .none (.int (-1) tk) (by decide) ?_ (by rw [List.size_toArray]; omega)
      rw [PySem.W.krv_pick]
      exact ⟨.ref _, _, I5.laid (t' := s4.toks) (o := .lst xs.reverse) (fun b ob z => Heap.get?_push_of_some _ z) (Nat.le_refl _) ⟨by rw [List.length_reverse]; exact hz, _, 0, rv.reverse, Heap.get?_push_size _ rfl⟩, rfl, q _ (I5.hok.fresh (Nat.le_refl _))⟩
    · obtain ⟨ws, rv, pt, hz⟩ := I5.tuple hq
      have hl := rv.length
      refine tail_any (ops := [.ref a, .ref s4.heap.objs.size]) pt.typeIs PyProof.Rows.slot_tuple_getitem.lookup ?_ (by with_unfolding_all rfl)
      refine item_rev pt (Heap.IsSliceOf.new _ .none .none (.int (-1) tk)) (by omega) ?_
      obtain ⟨x', H', J, rr, qq⟩ := newT_at (s := s4) (h1 := s4.heap.push { cls := .type "slice", data := .fields #[.none, .none, .int (-1) tk] }) (tk := s4.toks) I5 rv.reverse (by rw [List.length_reverse]; exact hz) q
      exact ⟨x', H', J, rr, qq⟩
section
variable {T : Tab} {Γ : Ctx} {X : Cx} {W : WX} {x : Ex} {a : Expr}
theorem s_rev {j : Nat} {p1 p2 p3 pos : Pos} (ha : Snd T X W Γ x a) : Snd T X W Γ (.rev x) (.Subscript a (.Slice none none (some (.UnaryOp .USub (.Constant (.int 1) j p1) p2)) p3) pos) := by
  refine .of rfl rfl (PE.wk (pe_revA ha.pe) fun σ H Q ⟨ι, κ, S, ρ, w, en, p⟩ => ?_) rfl
  simp only [evE] at p
  refine ⟨ι, κ, S, ρ, w, en, p.bind fun d S1 v H1 ι1 e1 w1 r1 p1 => ?_⟩
  have r1 : Rep X.K H1 ι1 κ d v := r1
  cases d with
  | tup ds =>
    simp only [Rep] at r1
    obtain ⟨ad, vs, rfl, h1, h2⟩ := r1
    exact ⟨ad, vs, rfl, .inr ⟨h1.1, p1.val.newT w1 (RepL.reverse h2)⟩⟩
  | lst ds =>
    simp only [Rep] at r1
    obtain ⟨ad, vs, rfl, h1, hn, hk, h2⟩ := r1
    exact ⟨ad, vs, rfl, .inl ⟨.of h1, fun q hq => (NPost.of w1 p1.val).lst w1 (RepL.reverse h2) hq⟩⟩
  | _ => exact p1.elim
end
end MP
end

section
set_option Elab.async false
set_option linter.all false
set_option maxRecDepth 100000
/-! MpO: targets; the blocks of comprehensions. -/
namespace MP
open PySem PySem.Spec PyProof.Rows L2
/-- alike outside vs -/
def Same (vs : List Nat) (σ σ' : L2.St) : Prop := σ'.length = σ.length ∧ ∀ i, i ∉ vs → σ'[i]? = σ[i]?
theorem Same.refl (vs : List Nat) (σ : L2.St) : Same vs σ σ := ⟨rfl, fun _ _ => rfl⟩
theorem Same.trans {vs us : List Nat} {σ σ' σ'' : L2.St} (a : Same vs σ σ') (b : Same us σ' σ'') : Same (vs ++ us) σ σ'' :=
  ⟨b.1.trans a.1, fun i h => (b.2 i fun z => h (List.mem_append_right _ z)).trans (a.2 i fun z => h (List.mem_append_left _ z))⟩
theorem Same.mono {vs us : List Nat} {σ σ' : L2.St} (a : Same vs σ σ') (h : ∀ i ∈ vs, i ∈ us) : Same us σ σ' := ⟨a.1, fun i z => a.2 i fun q => z (h i q)⟩
theorem wipe_get {σ : L2.St} : ∀ {vs : List Nat} {i : Nat}, (L2.wipe σ vs)[i]? = if i ∈ vs ∧ i < σ.length then some none else σ[i]?
  | [], i => by simp [L2.wipe]
  | v :: vs, i => by
    unfold L2.wipe
    by_cases hi : v = i
    · subst hi
      by_cases hv : v < σ.length
      · rw [List.getElem?_set_self (by rw [wipe_length]; exact hv), if_pos ⟨List.mem_cons_self, hv⟩]
      · rw [List.getElem?_eq_none (by rw [List.length_set, wipe_length]; omega), if_neg (fun z => hv z.2), List.getElem?_eq_none (by omega)]
    · rw [List.getElem?_set_ne hi, wipe_get]
      by_cases h : i ∈ vs ∧ i < σ.length
      · rw [if_pos h, if_pos ⟨List.mem_cons_of_mem _ h.1, h.2⟩]
      · rw [if_neg h, if_neg (fun z => h ⟨(List.mem_cons.mp z.1).resolve_left (fun e => hi e.symm), z.2⟩)]
theorem wipeM_length (ρ : Env) : ∀ vs : List Nat, (wipe ρ vs).length = ρ.length
  | [] => rfl
  | v :: vs => by unfold wipe; rw [List.length_set, wipeM_length ρ vs]
theorem wipeM_some {ρ : Env} {i : Nat} {d : D} : ∀ {vs : List Nat}, (wipe ρ vs)[i]? = some (some d) → ρ[i]? = some (some d) ∧ i ∉ vs
  | [], h => ⟨h, by simp⟩
  | v :: vs, h => by
    unfold wipe at h
    by_cases hi : v = i
    · subst hi
      by_cases hv : v < (wipe ρ vs).length
      · rw [List.getElem?_set_self hv] at h; cases h
      · rw [List.getElem?_eq_none (by simpa using hv)] at h; cases h
    · rw [List.getElem?_set_ne hi] at h
      obtain ⟨h1, h2⟩ := wipeM_some h
      exact ⟨h1, by simp only [List.mem_cons, not_or]; exact ⟨fun e => hi e.symm, h2⟩⟩
theorem Same.wipe {vs : List Nat} {σ σ' : L2.St} (a : Same vs σ σ') : L2.wipe σ' vs = L2.wipe σ vs := by
  refine List.ext_getElem? fun i => ?_
  rw [wipe_get, wipe_get, a.1]
  by_cases h : i ∈ vs ∧ i < σ.length
  · rw [if_pos h, if_pos h]
  · rw [if_neg h, if_neg h]
    by_cases hi : i ∈ vs
    · have : ¬ i < σ.length := fun z => h ⟨hi, z⟩
      rw [List.getElem?_eq_none (by rw [a.1]; omega), List.getElem?_eq_none (by omega)]
    · exact a.2 i hi
section
variable {K : PySem.W.Frag} {H : Hp} {ι κ : List Addr} {σ : L2.St} {ρ : Env}
theorem EnvR.wipe (h : EnvR K H ι κ σ ρ) (vs : List Nat) : EnvR K H ι κ (L2.wipe σ vs) (MP.wipe ρ vs) := by
  refine ⟨by rw [wipe_length, wipeM_length]; exact h.1, fun i d e => ?_⟩
  obtain ⟨h1, h2⟩ := wipeM_some e
  obtain ⟨v, h3, h4⟩ := h.2 i d h1
  exact ⟨v, by rw [wipe_get, if_neg (fun z => h2 z.1)]; exact h3, h4⟩
theorem EnvR.set {i : Nat} {d : D} {v : V} (h : EnvR K H ι κ σ ρ) (r : Rep K H ι κ d v) : EnvR K H ι κ (σ.set i (some v)) (ρ.set i (some d)) := by
  refine ⟨by simp [h.1], fun j e he => ?_⟩
  by_cases hj : i = j
  · subst hj
    by_cases hi : i < ρ.length
    · rw [List.getElem?_set_self hi] at he
      cases he
      exact ⟨v, by rw [List.getElem?_set_self (by rw [h.1]; exact hi)], r⟩
    · rw [List.getElem?_eq_none (by simp; omega)] at he; cases he
  · rw [List.getElem?_set_ne hj] at he
    rw [List.getElem?_set_ne hj]
    exact h.2 j e he
theorem same_set {i : Nat} {v : V} : Same [i] σ (σ.set i (some v)) := ⟨by simp, fun j h => by rw [List.getElem?_set_ne (fun z => h (by simp [z]))]⟩
end
/-! ### targets -/
def tG (T : Tab) (K : PySem.W.Frag) (t : Tg) : TG := fun v σ H k => ∃ ι κ S ρ d ρ', Wd T K H ι κ S ∧ EnvR K H ι κ σ ρ ∧ Rep K H ι κ d v ∧ bindT t d ρ = some ρ' ∧ ∀ σ', EnvR K H ι κ σ' ρ' → Same (slotsT t) σ σ' → k σ' H
def tGs (T : Tab) (K : PySem.W.Frag) (ts : List Tg) : TGs := fun vs σ H k => ∃ ι κ S ρ ds ρ', Wd T K H ι κ S ∧ EnvR K H ι κ σ ρ ∧ RepL K H ι κ ds vs ∧ bindTs ts ds ρ = some ρ' ∧ ∀ σ', EnvR K H ι κ σ' ρ' → Same (slotsTs ts) σ σ' → k σ' H
theorem PG.wk {X : Cx} {e : Expr} {t t' : TG} (h : PG X e t) (i : ∀ v σ H Q, t' v σ H Q → t v σ H Q) : PG X e t' := ⟨fun pins s σ H v u Q I r q => h.run pins s σ H v u Q I r (i v σ H Q q)⟩
theorem PG.some {X : Cx} {e : Expr} {t' : TG} (h : ∀ v σ H Q, t' v σ H Q → ∃ t, PG X e t ∧ t v σ H Q) : PG X e t' := ⟨fun pins s σ H v u Q I r q => by
  obtain ⟨t, h1, h2⟩ := h v σ H Q q
  exact h1.run pins s σ H v u Q I r h2⟩
theorem PGs.wk {X : Cx} {e : List Expr} {t t' : TGs} (h : PGs X e t) (i : ∀ v σ H Q, t' v σ H Q → t v σ H Q) : PGs X e t' := ⟨fun pins s σ H v u Q I r q => h.run pins s σ H v u Q I r (i v σ H Q q)⟩
theorem each_tgs {N : List Str} {sc : Scope} {env : PySem.Env} : ∀ {ts : List Tg} {es : List Expr}, mtTs N sc ts es = true → assignEach es env = es.map fun e => (false, assign e env)
  | [], [], _ => rfl
  | [], _ :: _, h => by simp [mtTs] at h
  | t :: ts, [], h => by simp [mtTs] at h
  | t :: ts, e :: es, h => by
    simp only [mtTs, Bool.and_eq_true] at h
    have ih := each_tgs (env := env) h.2
    have : assignEach (e :: es) env = (false, assign e env) :: assignEach es env := by
      cases e <;> first | rfl | (cases t <;> simp [mtT] at h)
    rw [this, ih]; rfl
theorem bindTs_len : ∀ {ts : List Tg} {ds : List D} {ρ ρ' : Env}, bindTs ts ds ρ = some ρ' → ds.length = ts.length
  | [], [], _, _, _ => rfl
  | [], _ :: _, _, _, h => by simp [bindTs] at h
  | _ :: _, [], _, _, h => by simp [bindTs] at h
  | t :: ts, d :: ds, ρ, ρ', h => by
    simp only [bindTs] at h
    split at h
    · simp [bindTs_len h]
    · cases h
theorem mtTs_len {N : List Str} {sc : Scope} : ∀ {ts : List Tg} {es : List Expr}, mtTs N sc ts es = true → ts.length = es.length
  | [], [], _ => rfl
  | [], _ :: _, h => by simp [mtTs] at h
  | _ :: _, [], h => by simp [mtTs] at h
  | t :: ts, e :: es, h => by
    simp only [mtTs, Bool.and_eq_true] at h
    simp [mtTs_len h.2]
section
variable {T : Tab} {N : List Str} {X : Cx} {sc : Scope}
mutual
theorem g_tg (hN : X.N = N) (nd : N.Nodup) (hc : X.calm = true) (hloc : ∀ x, locB sc x = true → L2.Loc X.env.scope x ∧ (X.fn x = true ∨ X.env.scope.names.lookup x = some .local)) : ∀ (t : Tg) (e : Expr), mtT N sc t e = true → PG X e (tG T X.K t)
  | .nm i, e, h => by
    cases e with
    | Name x p =>
      simp only [mtT, Bool.and_eq_true, decide_eq_true_eq] at h
      obtain ⟨h1, h2⟩ := hloc x h.2
      refine PG.wk (pg_name (by rw [hN]; exact nd) (by rw [hN]; exact h.1) h1 h2) fun v σ H Q ⟨ι, κ, S, ρ, d, ρ', w, en, r, hb, k⟩ => ?_
      simp only [bindT] at hb
      split at hb
      · cases hb
        refine k _ (en.set r) ?_
        simp only [slotsT]
        exact same_set
      · cases hb
    | _ => simp [mtT] at h
  | .tp ts, e, h => by
    cases e with
    | Tuple es m p =>
      simp only [mtT] at h
      have hp := g_tgs hN nd hc hloc ts es h
      have hl : (assignEach es X.env).length = es.length := by rw [each_tgs h]; simp
      have hf : (assignEach es X.env).findIdx? (·.1) = none := by
        rw [each_tgs h]
        simp
      refine PG.some fun v σ H Q ⟨ι, κ, S, ρ, d, ρ', w, en, r, hb, k⟩ => ?_
      have hlen : ∀ ds, bindTs ts ds ρ = some ρ' → ds.length = es.length := fun ds hb => (bindTs_len hb).trans (mtTs_len h)
      cases d with
      | tup ds =>
        simp only [bindT] at hb
        simp only [Rep] at r
        obtain ⟨a, vs, rfl, h1, h2⟩ := r
        exact ⟨_, pg_tup hc hp hl hf, a, vs, rfl, h1.1, by rw [← RepL.length h2]; exact hlen ds hb, ι, κ, S, ρ, ds, ρ', w, en, h2, hb, k⟩
      | lst ds =>
        simp only [bindT] at hb
        simp only [Rep] at r
        obtain ⟨a, vs, rfl, h1, hn, hk, h2⟩ := r
        exact ⟨_, pg_lst hc hp hl hf, a, vs, rfl, .of h1, by rw [← RepL.length h2]; exact hlen ds hb, ι, κ, S, ρ, ds, ρ', w, en, h2, hb, k⟩
      | _ => simp [bindT] at hb
    | _ => simp [mtT] at h
theorem g_tgs (hN : X.N = N) (nd : N.Nodup) (hc : X.calm = true) (hloc : ∀ x, locB sc x = true → L2.Loc X.env.scope x ∧ (X.fn x = true ∨ X.env.scope.names.lookup x = some .local)) : ∀ (ts : List Tg) (es : List Expr), mtTs N sc ts es = true → PGs X es (tGs T X.K ts)
  | [], [], _ => by
    refine PGs.wk pgs_nil fun vs σ H Q ⟨ι, κ, S, ρ, ds, ρ', w, en, r, hb, k⟩ => ?_
    cases ds with
    | nil =>
      simp only [bindTs] at hb
      cases hb
      simp only [RepL] at r
      exact ⟨r, k σ en (Same.refl _ _)⟩
    | cons d ds => simp [bindTs] at hb
  | [], _ :: _, h => by simp [mtTs] at h
  | t :: ts, [], h => by simp [mtTs] at h
  | t :: ts, e :: es, h => by
    have he := each_tgs (env := X.env) h
    simp only [mtTs, Bool.and_eq_true] at h
    have h1 := g_tg hN nd hc hloc t e h.1
    have h2 := g_tgs hN nd hc hloc ts es h.2
    refine PGs.wk (pgs_cons h1 h2 (by rw [he, each_tgs h.2]; rfl)) fun vs σ H Q ⟨ι, κ, S, ρ, ds, ρ', w, en, r, hb, k⟩ => ?_
    cases ds with
    | nil => simp [bindTs] at hb
    | cons d ds =>
      simp only [bindTs] at hb
      split at hb
      · rename_i ρ1 hb1
        simp only [RepL] at r
        obtain ⟨v, r0, rfl, q1, q2⟩ := r
        refine ⟨v, r0, rfl, ι, κ, S, ρ, d, ρ1, w, en, q1, hb1, fun σ1 en1 s1 => ⟨ι, κ, S, ρ1, ds, ρ', w, en1, q2, hb, fun σ2 en2 s2 => k σ2 en2 ?_⟩⟩
        simp only [slotsTs]
        exact s1.trans s2
      · cases hb
end
end
end MP
end

section
set_option Elab.async false
set_option linter.all false
set_option maxRecDepth 100000
/-! MpP: comprehensions. -/
namespace MP
open PySem PySem.Spec PyProof.Rows L2
abbrev NoW : WX := fun _ _ _ _ => False
section
variable {T : Tab} {N : List Str} {Γ : Ctx} {k : Nat} {X : Cx} {W : WX} {sc : Scope}
theorem Gd.blk (g : Gd T N Γ k X W sc) {s : Shared} {H : Hp} {scope : Scope} {cl : List (Str × Addr)} {C : Addr} {fp : List Addr} : Gd T N Γ k (X.blk s H scope (compEnvC scope cl C X.env) fp) NoW (relS scope sc) where
  sc := by rw [← g.sc]; rfl
  hN := g.hN
  nd := g.nd
  calm := g.calm
  room := g.room
  tk := fun u s' ⟨_, _, _, _, _, _, _, _, _, _, _, _, _, _, _, _, w⟩ => w.elim
  glo := g.glo
theorem blk_loc {s : Shared} {H : Hp} {scope : Scope} {cl : List (Str × Addr)} {C : Addr} {fp : List Addr} (x : Str) (h : locB scope x = true) :
    L2.Loc (X.blk s H scope (compEnvC scope cl C X.env) fp).env.scope x ∧ ((X.blk s H scope (compEnvC scope cl C X.env) fp).fn x = true ∨ (X.blk s H scope (compEnvC scope cl C X.env) fp).env.scope.names.lookup x = some .local) := by
  unfold locB at h
  split at h
  · rename_i hl
    have := lookup_relS_keep (sc := X.env.scope) (by decide) hl
    exact ⟨.inl this, .inr this⟩
  · rename_i hl
    have := lookup_relS_keep (sc := X.env.scope) (by decide) hl
    refine ⟨.inr this, .inl ?_⟩
    show (scope.names.lookup x == some .cell) = true
    rw [hl]; rfl
  · cases h
end
/-! turns -/
theorem held_refl (g : Option Nat) (S : Sto) : held g S S = true := by cases g <;> simp [held]
theorem held_trans {g : Option Nat} {S S' S'' : Sto} (a : held g S S' = true) (b : held g S' S'' = true) : held g S S'' = true := by
  cases g with
  | none => rfl
  | some n => exact decide_eq_true ((of_decide_eq_true a).trans (of_decide_eq_true b))
theorem compR_noExc {α : Type} {f : D → Sto → R (Option α)} (h : ∀ x S C fs S', f x S ≠ .exc C fs S') : ∀ {xs : List D} {S : Sto} {C fs S'}, compR f xs S ≠ .exc C fs S'
  | [], S, C, fs, S', e => by cases e
  | x :: xs, S, C, fs, S', e => by
    simp only [compR] at e
    cases hf : f x S with
    | ok o S1 =>
      rw [hf] at e
      simp only [R.bind] at e
      cases hr : compR f xs S1 with
      | ok ys S2 => rw [hr] at e; cases e
      | exc C' fs' S2 => exact compR_noExc h hr
      | no => rw [hr] at e; cases e
    | exc C' fs' S1 => exact h _ _ _ _ _ hf
    | no => rw [hf] at e; cases e
theorem compR_cons {α : Type} {f : D → Sto → R (Option α)} {x : D} {xs : List D} {S S2 : Sto} {ys : List α} (h : compR f (x :: xs) S = .ok ys S2) : ∃ o S1 rest, f x S = .ok o S1 ∧ compR f xs S1 = .ok rest S2 ∧ ys = match o with | some y => y :: rest | none => rest := by
  simp only [compR] at h
  cases hf : f x S with
  | ok o S1 =>
    rw [hf] at h
    simp only [R.bind] at h
    cases hr : compR f xs S1 with
    | ok rest S3 =>
      rw [hr] at h
      simp only [R.ok.injEq] at h
      exact ⟨o, S1, rest, rfl, by rw [← h.2]; exact hr, h.1.symm⟩
    | exc C' fs' S2 => rw [hr] at h; cases h
    | no => rw [hr] at h; cases h
  | exc C' fs' S1 => rw [hf] at h; cases h
  | no => rw [hf] at h; cases h
theorem bind_ok {α β : Type} {r : R α} {f : α → Sto → R β} {b : β} {S : Sto} (h : r.bind f = .ok b S) : ∃ a S1, r = .ok a S1 ∧ f a S1 = .ok b S := by
  cases r with
  | ok a S1 => exact ⟨a, S1, rfl, h⟩
  | exc C fs S1 => cases h
  | no => cases h
theorem noExc_ok {α : Type} {r : R α} {a : α} {S : Sto} (h : noExc r = .ok a S) : r = .ok a S := by
  cases r with
  | ok a S1 => exact h
  | exc C fs S1 => cases h
  | no => cases h
theorem noExc_exc {α : Type} {r : R α} {C fs S} : noExc r ≠ .exc C fs S := by
  cases r <;> simp [noExc]
theorem wipe_wipe (σ : L2.St) (vs : List Nat) : L2.wipe (L2.wipe σ vs) vs = L2.wipe σ vs := by
  refine List.ext_getElem? fun i => ?_
  rw [wipe_get, wipe_get, wipe_length]
  split <;> rfl
theorem Ext.over {H H' : Hp} {ι ι' : List Addr} {p : Addr} {o : HO} (e : Ext H ι H' ι') (hp : H p = Option.none) : Ext H ι (upd H' p o) ι' :=
  ⟨fun a u n q => by rw [upd_ne (ne_of_none q hp)]; exact e.keep a u n q, e.new, e.pre⟩
section
variable {T : Tab} {N : List Str} {Γ : Ctx} {k : Nat} {X : Cx} {W : WX} {sc : Scope} {x y z elt : Ex} {a b c e elt' it' tg' : Expr} {xs cnd : List Ex} {es ifs' : List Expr} {pos p apos tpos : Pos}
def tTs (T : Tab) (K : PySem.W.Frag) (W : WX) (Γ : Ctx) (xs : List Ex) : TT := fun σ H Q => ∃ ι κ S ρ, Wd T K H ι κ S ∧ EnvR K H ι κ σ ρ ∧ Post T K κ W σ relB H ι (evAll Γ xs ρ S) Q
theorem pts_of (h : SndL T X W Γ cnd ifs') (hl : cnd.length ≤ 1) (ht : ifs'.all tst = true) : PTs X ifs' (tTs T X.K W Γ cnd) := by
  cases h with
  | nil =>
    refine ⟨fun pins s σ H Q I ⟨ι, κ, S, ρ, w, en, p⟩ => pts_nil.run pins s σ H Q I ?_⟩
    simp only [evAll] at p
    exact p true H ι Ext.refl w rfl
  | cons h t =>
    cases t with
    | nil =>
      simp only [List.all_cons, Bool.and_eq_true] at ht
      rename_i x0 e0
      refine ⟨fun pins s σ H Q I ⟨ι, κ, S, ρ, w, en, p⟩ => (pts_one (h.pt ht.1)).run pins s σ H Q I ⟨ι, κ, S, ρ, w, en, ?_⟩⟩
      rw [show evAll Γ [x0] ρ S = (evE Γ x0 ρ S).bind fun d S => match d with
        | .bl true => evAll Γ [] ρ S
        | .bl false => .ok false S
        | _ => .no from rfl] at p
      cases hx : evE Γ x0 ρ S with
      | ok d S1 =>
        rw [hx] at p
        cases d with
        | bl b => cases b <;> exact p
        | _ => exact p.elim
      | exc C fs S1 => rw [hx] at p; exact p
      | no => rw [hx] at p; exact p
    | cons h2 t2 => simp at hl
/-- what a block's turn finds -/
theorem lc_turn {ev : Env → Sto → R D} {al : Env → Sto → R Bool} {tg : Tg} {own : List Nat} {ρ : Env} {g : Option Nat} {d : D} {S S' : Sto} {o : Option D} (h : lcF ev al tg own ρ g d S = .ok o S') :
    ∃ ρ' c S1, bindT tg d (wipe ρ own) = some ρ' ∧ al ρ' S = .ok c S1 ∧ held g S S' = true ∧ ((c = true ∧ ∃ y, ev ρ' S1 = .ok y S' ∧ o = some y) ∨ (c = false ∧ S1 = S' ∧ o = none)) := by
  unfold lcF at h
  split at h
  · rename_i ρ' hb
    obtain ⟨c, S1, h1, h2⟩ := bind_ok (noExc_ok h)
    refine ⟨ρ', c, S1, hb, h1, ?_⟩
    cases c with
    | true =>
      rw [if_pos rfl] at h2
      obtain ⟨y, S2, h3, h4⟩ := bind_ok h2
      split at h4
      · rename_i hh
        cases h4
        exact ⟨hh, .inl ⟨rfl, y, h3, rfl⟩⟩
      · cases h4
    | false =>
      rw [if_neg Bool.false_ne_true] at h2
      split at h2
      · rename_i hh
        cases h2
        exact ⟨hh, .inr ⟨rfl, rfl, rfl⟩⟩
      · cases h2
  · cases h
theorem lc_noExc {ev : Env → Sto → R D} {al : Env → Sto → R Bool} {tg : Tg} {own : List Nat} {ρ : Env} {g : Option Nat} : ∀ x S C fs S', lcF ev al tg own ρ g x S ≠ .exc C fs S' := fun x S C fs S' h => by
  unfold lcF at h
  split at h
  · exact noExc_exc h
  · cases h
theorem i_lc {it : Ex} {tg : Tg} {own : List Nat} (hsl : ∀ i ∈ slotsT tg, i ∈ own) {σ : L2.St} {H : Hp} {Q : VK} (h : tN T X.K W Γ (.lc elt tg it cnd own) σ H Q) :
    tLc (tI T X.K W Γ it) (tG T X.K tg) (tTs T X.K NoW Γ cnd) (tE T X.K NoW Γ elt) own σ H Q := by
  obtain ⟨ι, κ, S, ρ, w, en, p⟩ := h
  simp only [evE] at p
  refine ⟨ι, κ, S, ρ, w, en, ?_⟩
  cases hi : evI Γ it ρ S with
  | no => rw [hi] at p; exact p.elim
  | exc C fs S1 => rw [hi] at p; exact p
  | ok pr S1 =>
    rw [hi] at p
    simp only [R.bind] at p
    intro J H1 ι1 e1 w1 iw D hD
    generalize hn : pr.1.length = n
    have hDk : ∀ a ∈ D :: κ, a ∈ κ ∨ H1 a = none := fun a z => (List.mem_cons.mp z).elim (fun e => .inr (by rw [e]; exact hD)) .inl
    have en1 : EnvR X.K H1 ι1 κ σ ρ := en.up e1 w
    cases hc : compR (lcF (fun ρ S => evE Γ elt ρ S) (fun ρ S => evAll Γ cnd ρ S) tg own ρ pr.2) pr.1 S1 with
    | no => rw [hc] at p; exact p.elim
    | exc C fs S2 => exact absurd hc (compR_noExc lc_noExc)
    | ok ys S2 =>
      rw [hc] at p
      simp only at p
      split at p
      rotate_left
      · exact p.elim
      rename_i hlen
      refine ⟨fun i m H2 => m = n - i ∧ i ≤ n ∧ ∃ ι2 S3 done rest acc, compR (lcF (fun ρ S => evE Γ elt ρ S) (fun ρ S => evAll Γ cnd ρ S) tg own ρ pr.2) (pr.1.drop i) S3 = .ok rest S2 ∧ done ++ rest = ys ∧ Ext H1 ι1 H2 ι2 ∧ Wd T X.K H2 ι2 (D :: κ) S3 ∧ H2 D = some (.lst acc) ∧
        RepL X.K H2 ι2 (D :: κ) done acc ∧ held pr.2 S1 S3 = true, ⟨n, by simp, Nat.zero_le _, ι1, S1, [], ys, [], by simpa using hc, rfl, Ext.fresh w1 hD, w1.hide hD, upd_same, by simp only [RepL], held_refl _ _⟩, ?_⟩
      rintro i m H2 ⟨rfl, hin, ι2, S3, done, rest, acc, hr, hd, e2, w2, hacc, racc, hh⟩
      obtain ⟨igo, istop⟩ := iw (D :: κ) H2 ι2 S3 hDk e2 w2 hh i
      by_cases hlt : i < n
      · obtain ⟨go, yl⟩ := igo (by rw [hn]; exact hlt)
        refine .inr ⟨go, fun H' => ∃ m', m' = n - (i + 1) ∧ _, fun H' ⟨m', h1, h2⟩ => ⟨m', by omega, h1, by omega, h2⟩, fun x H3 hy => ?_⟩
        obtain ⟨e3, w3, d, hdx, rd⟩ := yl x H3 hy
        have hdrop : pr.1.drop i = d :: pr.1.drop (i + 1) := by
          obtain ⟨hlt', he⟩ := List.getElem?_eq_some_iff.mp hdx
          rw [List.drop_eq_getElem_cons hlt', he]
        rw [hdrop] at hr
        obtain ⟨o, S4, rest', hf, hr', hrest⟩ := compR_cons hr
        obtain ⟨ρ', c, S5, hb, hall, hheld, hcase⟩ := lc_turn hf
        have hDn : D ∉ ι2 := w2.dj D List.mem_cons_self
        have enw : EnvR X.K H3 ι2 (D :: κ) (L2.wipe σ own) (wipe ρ own) := ((en1.mono e2 w1.mut hDk).up e3 w2).wipe own
        refine ⟨ι2, D :: κ, S3, wipe ρ own, d, ρ', w3, enw, rd, hb, fun σ' en' sm => ⟨((sm.mono hsl).wipe).trans (wipe_wipe _ _), ι2, D :: κ, S3, ρ', w3, en', ?_⟩⟩
        rw [hall]
        intro g H4 ι4 e4 w4 hg
        obtain rfl : c = g := hg
        have hD3 : H3 D = some (.lst acc) := e3.keep D _ hDn hacc
        have hD4 : H4 D = some (.lst acc) := e4.keep D _ hDn hD3
        rcases hcase with ⟨rfl, y, hy, rfl⟩ | ⟨rfl, rfl, rfl⟩
        · rw [if_pos rfl]
          refine ⟨ι4, D :: κ, S5, ρ', w4, en'.up e4 w3, ?_⟩
          rw [hy]
          intro u H5 ι5 e5 w5 ru
          have ru : Rep X.K H5 ι5 (D :: κ) y u := ru
          have hD5 : H5 D = some (.lst acc) := e5.keep D _ (w4.dj D List.mem_cons_self) hD4
          have r5 := RepL.append (RepL.up (RepL.up (RepL.up racc e3 w2) e4 w3) e5 w4) (show RepL X.K H5 ι5 (D :: κ) [y] [u] by simp only [RepL]; exact ⟨u, [], rfl, ru, rfl⟩)
          have hys : done ++ [y] ++ rest' = ys := by rw [← hd, hrest]; simp
          refine ⟨acc, hD5, ?_, n - (i + 1), rfl, ι5, S4, done ++ [y], rest', acc ++ [u], hr', hys, Ext.over (((e2.trans e3).trans e4).trans e5) hD, w5.over List.mem_cons_self hD5 True.intro, upd_same, RepL.over List.mem_cons_self hD5 True.intro r5, held_trans hh hheld⟩
          have h1 := RepL.length racc
          have h2 : (done ++ [y] ++ rest').length = ys.length := by rw [hys]
          simp at h2
          have h3 := LIM_line (n := ys.length) hlen
          omega
        · rw [if_neg Bool.false_ne_true]
          exact ⟨n - (i + 1), rfl, ι4, S5, done, rest', acc, hr', by rw [← hd, hrest], (e2.trans e3).trans e4, w4, hD4, RepL.up (RepL.up racc e3 w2) e4 w3, held_trans hh hheld⟩
      · have hi' : i = n := by omega
        subst hi'
        rw [List.drop_of_length_le (by omega)] at hr
        simp only [compR, R.ok.injEq] at hr
        obtain ⟨rfl, rfl⟩ := hr
        rw [List.append_nil] at hd
        subst hd
        exact .inl ⟨istop hn.symm, p D H2 ι2 (Ext.none e1 w1.mut hD) (e1.trans e2) w2 ⟨acc, hacc, racc⟩⟩
theorem own_of {own : List Nat} (h : (own.all fun i => decide (i < N.length)) = true) : (ownOf N own).map (·.2) = own := by
  unfold ownOf
  induction own with
  | nil => rfl
  | cons i is ih =>
    simp only [List.all_cons, Bool.and_eq_true, decide_eq_true_eq] at h
    rw [List.filterMap_cons, List.getElem?_eq_getElem h.1]
    simp only [Option.map_some, List.map_cons]
    rw [ih h.2]
theorem s_lc (g : Gd T N Γ k X W sc) {it : Ex} {tg : Tg} {own : List Nat} {scope : Scope} (hi : PI X tg' it' (tI T X.K W Γ it)) (hf : plainE it' = true) (htg : mtT N scope tg tg' = true) (hsl : ∀ i ∈ slotsT tg, i ∈ own) (hown : (own.all fun i => decide (i < N.length)) = true)
    (hb : blkC N sc scope (ownOf N own) = true) (hcl : cnd.length ≤ 1) (hts : ifs'.all tst = true) (hc : ∀ X' W', Gd T N Γ k X' W' (relS scope sc) → X'.K = X.K → SndL T X' W' Γ cnd ifs') (he : ∀ X' W', Gd T N Γ k X' W' (relS scope sc) → X'.K = X.K → Snd T X' W' Γ elt elt') :
    Snd T X W Γ (.lc elt tg it cnd own) (.ListComp elt' [⟨tg', it', ifs', 0⟩] scope pos) := by
  refine .ofN rfl rfl (PE.wk (pe_lc (own := ownOf N own) (g := tG T X.K tg) (tt := tTs T X.K NoW Γ cnd) (te := tE T X.K NoW Γ elt) g.calm (by rw [g.hN]; exact g.nd) hi (by rw [g.hN, g.sc]; exact blkOk_by hb) (fun s H C cl fp => g_tg (X := X.blk s H scope (compEnvC scope cl C X.env) fp) (sc := scope) g.hN g.nd g.calm (fun x h => blk_loc x h) tg tg' htg) (fun s H C cl fp => ?_) (fun s H C cl fp => ?_) (folded_plain hf)) fun σ H Q h => ?_)
  · exact pts_of (hc _ _ g.blk rfl) hcl hts
  · exact (he _ _ g.blk rfl).pe
  · rw [own_of hown]; exact i_lc hsl h
/-! dicts -/
theorem dc_turn {ek ev : Env → Sto → R D} {al : Env → Sto → R Bool} {tg : Tg} {own : List Nat} {ρ : Env} {g : Option Nat} {d : D} {S S' : Sto} {o : Option (Ky × D)} (h : dcF ek ev al tg own ρ g d S = .ok o S') :
    ∃ ρ' c S1, bindT tg d (wipe ρ own) = some ρ' ∧ al ρ' S = .ok c S1 ∧ held g S S' = true ∧ ((c = true ∧ ∃ y z kk S2, ek ρ' S1 = .ok y S2 ∧ ev ρ' S2 = .ok z S' ∧ y.ky = some kk ∧ o = some (kk, z)) ∨ (c = false ∧ S1 = S' ∧ o = none)) := by
  unfold dcF at h
  split at h
  · rename_i ρ' hb
    obtain ⟨c, S1, h1, h2⟩ := bind_ok (noExc_ok h)
    refine ⟨ρ', c, S1, hb, h1, ?_⟩
    cases c with
    | true =>
      rw [if_pos rfl] at h2
      obtain ⟨y, S2, h3, h4⟩ := bind_ok h2
      obtain ⟨z, S3, h5, h6⟩ := bind_ok h4
      split at h6
      · rename_i kk hk
        split at h6
        · rename_i hh
          cases h6
          exact ⟨hh, .inl ⟨rfl, y, z, kk, S2, h3, h5, hk, rfl⟩⟩
        · cases h6
      · cases h6
    | false =>
      rw [if_neg Bool.false_ne_true] at h2
      split at h2
      · rename_i hh
        cases h2
        exact ⟨hh, .inr ⟨rfl, rfl, rfl⟩⟩
      · cases h2
  · cases h
theorem dc_noExc {ek ev : Env → Sto → R D} {al : Env → Sto → R Bool} {tg : Tg} {own : List Nat} {ρ : Env} {g : Option Nat} : ∀ x S C fs S', dcF ek ev al tg own ρ g x S ≠ .exc C fs S' := fun x S C fs S' h => by
  unfold dcF at h
  split at h
  · exact noExc_exc h
  · cases h
theorem vput_len {kvs : List (Ky × D)} {k : Ky} {d : D} : (vput kvs k d).length ≤ kvs.length + 1 := by
  unfold vput
  split <;> simp
theorem merge_len : ∀ (more kvs : List (Ky × D)), (merge kvs more).length ≤ kvs.length + more.length
  | [], kvs => by simp [merge]
  | m :: more, kvs => by
    have h1 := merge_len more (vput kvs m.1 m.2)
    have h2 := vput_len (kvs := kvs) (k := m.1) (d := m.2)
    show (merge (vput kvs m.1 m.2) more).length ≤ _
    simp; omega
theorem merge_snoc (kvs more : List (Ky × D)) (k : Ky) (d : D) : merge kvs (more ++ [(k, d)]) = vput (merge kvs more) k d := by
  unfold merge; rw [List.foldl_append]; rfl
theorem i_dc {kx vx it : Ex} {tg : Tg} {own : List Nat} (hsl : ∀ i ∈ slotsT tg, i ∈ own) {σ : L2.St} {H : Hp} {Q : VK} (h : tN T X.K W Γ (.dc kx vx tg it cnd own) σ H Q) :
    tDc (tI T X.K W Γ it) (tG T X.K tg) (tTs T X.K NoW Γ cnd) (tE T X.K NoW Γ kx) (tE T X.K NoW Γ vx) own σ H Q := by
  obtain ⟨ι, κ, S, ρ, w, en, p⟩ := h
  simp only [evE] at p
  refine ⟨ι, κ, S, ρ, w, en, ?_⟩
  cases hi : evI Γ it ρ S with
  | no => rw [hi] at p; exact p.elim
  | exc C fs S1 => rw [hi] at p; exact p
  | ok pr S1 =>
    rw [hi] at p
    simp only [R.bind] at p
    intro J H1 ι1 e1 w1 iw D hD
    generalize hn : pr.1.length = n
    have hDk : ∀ a ∈ D :: κ, a ∈ κ ∨ H1 a = none := fun a z => (List.mem_cons.mp z).elim (fun e => .inr (by rw [e]; exact hD)) .inl
    have en1 : EnvR X.K H1 ι1 κ σ ρ := en.up e1 w
    cases hc : compR (dcF (fun ρ S => evE Γ kx ρ S) (fun ρ S => evE Γ vx ρ S) (fun ρ S => evAll Γ cnd ρ S) tg own ρ pr.2) pr.1 S1 with
    | no => rw [hc] at p; exact p.elim
    | exc C fs S2 => exact absurd hc (compR_noExc dc_noExc)
    | ok ys S2 =>
      rw [hc] at p
      simp only at p
      split at p
      rotate_left
      · exact p.elim
      rename_i hlen
      refine ⟨fun i m H2 => m = n - i ∧ i ≤ n ∧ ∃ ι2 S3 done rest acc, compR (dcF (fun ρ S => evE Γ kx ρ S) (fun ρ S => evE Γ vx ρ S) (fun ρ S => evAll Γ cnd ρ S) tg own ρ pr.2) (pr.1.drop i) S3 = .ok rest S2 ∧ done ++ rest = ys ∧ Ext H1 ι1 H2 ι2 ∧ Wd T X.K H2 ι2 (D :: κ) S3 ∧ H2 D = some (.dK acc) ∧
        RepK X.K H2 ι2 (D :: κ) (merge [] done) acc ∧ held pr.2 S1 S3 = true, ⟨n, by simp, Nat.zero_le _, ι1, S1, [], ys, [], by simpa using hc, rfl, Ext.fresh w1 hD, w1.hide hD, upd_same, by simp only [merge, List.foldl_nil, RepK], held_refl _ _⟩, ?_⟩
      rintro i m H2 ⟨rfl, hin, ι2, S3, done, rest, acc, hr, hd, e2, w2, hacc, racc, hh⟩
      obtain ⟨igo, istop⟩ := iw (D :: κ) H2 ι2 S3 hDk e2 w2 hh i
      by_cases hlt : i < n
      · obtain ⟨go, yl⟩ := igo (by rw [hn]; exact hlt)
        refine .inr ⟨go, fun H' => ∃ m', m' = n - (i + 1) ∧ _, fun H' ⟨m', h1, h2⟩ => ⟨m', by omega, h1, by omega, h2⟩, fun x H3 hy => ?_⟩
        obtain ⟨e3, w3, d, hdx, rd⟩ := yl x H3 hy
        have hdrop : pr.1.drop i = d :: pr.1.drop (i + 1) := by
          obtain ⟨hlt', he⟩ := List.getElem?_eq_some_iff.mp hdx
          rw [List.drop_eq_getElem_cons hlt', he]
        rw [hdrop] at hr
        obtain ⟨o, S4, rest', hf, hr', hrest⟩ := compR_cons hr
        obtain ⟨ρ', c, S5, hb, hall, hheld, hcase⟩ := dc_turn hf
        have hDn : D ∉ ι2 := w2.dj D List.mem_cons_self
        have enw : EnvR X.K H3 ι2 (D :: κ) (L2.wipe σ own) (wipe ρ own) := ((en1.mono e2 w1.mut hDk).up e3 w2).wipe own
        refine ⟨ι2, D :: κ, S3, wipe ρ own, d, ρ', w3, enw, rd, hb, fun σ' en' sm => ⟨((sm.mono hsl).wipe).trans (wipe_wipe _ _), ι2, D :: κ, S3, ρ', w3, en', ?_⟩⟩
        rw [hall]
        intro g H4 ι4 e4 w4 hg
        obtain rfl : c = g := hg
        have hD3 : H3 D = some (.dK acc) := e3.keep D _ hDn hacc
        have hD4 : H4 D = some (.dK acc) := e4.keep D _ hDn hD3
        have racc4 : RepK X.K H4 ι4 (D :: κ) (merge [] done) acc := RepK.mono (e3.trans e4) w2.mut (fun _ z => .inl z) racc
        rcases hcase with ⟨rfl, y, z, kk, S6, hy, hz, hk, rfl⟩ | ⟨rfl, rfl, rfl⟩
        · rw [if_pos rfl]
          refine ⟨ι4, D :: κ, S5, ρ', w4, en'.up e4 w3, ?_⟩
          rw [hy]
          intro u H5 ι5 e5 w5 ru
          have ru : Rep X.K H5 ι5 (D :: κ) y u := ru
          refine ⟨ι5, D :: κ, S6, ρ', w5, (en'.up e4 w3).up e5 w4, ?_⟩
          rw [hz]
          intro v H6 ι6 e6 w6 rv
          have rv : Rep X.K H6 ι6 (D :: κ) z v := rv
          have hD5 : H5 D = some (.dK acc) := e5.keep D _ (w4.dj D List.mem_cons_self) hD4
          have hD6 : H6 D = some (.dK acc) := e6.keep D _ (w5.dj D List.mem_cons_self) hD5
          obtain ⟨hkv, hko⟩ := ky_rep ru hk
          have r6 : RepK X.K H6 ι6 (D :: κ) (merge [] done) acc := RepK.mono (e5.trans e6) w4.mut (fun _ z => .inl z) racc4
          have r7 := RepK.put r6 rv hko
          have hys : done ++ [(kk, z)] ++ rest' = ys := by rw [← hd, hrest]; simp
          refine ⟨acc, kk, hkv, hD6, ?_, n - (i + 1), rfl, ι6, S4, done ++ [(kk, z)], rest', putK acc kk v, hr', hys, Ext.over ((((e2.trans e3).trans e4).trans e5).trans e6) hD, w6.over List.mem_cons_self hD6 True.intro, upd_same, ?_, held_trans hh hheld⟩
          · have h1 := (RepK.keys racc).2
            have h2 : (done ++ [(kk, z)] ++ rest').length = ys.length := by rw [hys]
            have h4 := merge_len done []
            simp at h2 h4
            have h3 := LIM_line (n := ys.length) hlen
            omega
          · rw [merge_snoc]
            exact RepK.over List.mem_cons_self hD6 True.intro r7
        · rw [if_neg Bool.false_ne_true]
          exact ⟨n - (i + 1), rfl, ι4, S5, done, rest', acc, hr', by rw [← hd, hrest], (e2.trans e3).trans e4, w4, hD4, racc4, held_trans hh hheld⟩
      · have hi' : i = n := by omega
        subst hi'
        rw [List.drop_of_length_le (by omega)] at hr
        simp only [compR, R.ok.injEq] at hr
        obtain ⟨rfl, rfl⟩ := hr
        rw [List.append_nil] at hd
        subst hd
        exact .inl ⟨istop hn.symm, p D H2 ι2 (Ext.none e1 w1.mut hD) (e1.trans e2) w2 ⟨acc, hacc, racc⟩⟩
theorem s_dc (g : Gd T N Γ k X W sc) {kx vx it : Ex} {kx' vx' : Expr} {tg : Tg} {own : List Nat} {scope : Scope} (hi : PI X tg' it' (tI T X.K W Γ it)) (hf : plainE it' = true) (htg : mtT N scope tg tg' = true) (hsl : ∀ i ∈ slotsT tg, i ∈ own) (hown : (own.all fun i => decide (i < N.length)) = true)
    (hb : blkC N sc scope (ownOf N own) = true) (hcl : cnd.length ≤ 1) (hts : ifs'.all tst = true) (hc : ∀ X' W', Gd T N Γ k X' W' (relS scope sc) → X'.K = X.K → SndL T X' W' Γ cnd ifs')
    (hk : ∀ X' W', Gd T N Γ k X' W' (relS scope sc) → X'.K = X.K → Snd T X' W' Γ kx kx') (he : ∀ X' W', Gd T N Γ k X' W' (relS scope sc) → X'.K = X.K → Snd T X' W' Γ vx vx') :
    Snd T X W Γ (.dc kx vx tg it cnd own) (.DictComp kx' vx' [⟨tg', it', ifs', 0⟩] scope pos) := by
  refine .ofN rfl rfl (PE.wk (pe_dc (own := ownOf N own) (g := tG T X.K tg) (tt := tTs T X.K NoW Γ cnd) (tk := tE T X.K NoW Γ kx) (tv := tE T X.K NoW Γ vx) g.calm (by rw [g.hN]; exact g.nd) hi (by rw [g.hN, g.sc]; exact blkOk_by hb) (fun s H C cl fp => g_tg (X := X.blk s H scope (compEnvC scope cl C X.env) fp) (sc := scope) g.hN g.nd g.calm (fun x h => blk_loc x h) tg tg' htg) (fun s H C cl fp => ?_) (fun s H C cl fp => ?_) (fun s H C cl fp => ?_) (folded_plain hf)) fun σ H Q h => ?_)
  · exact pts_of (hc _ _ g.blk rfl) hcl hts
  · exact (hk _ _ g.blk rfl).pe
  · exact (he _ _ g.blk rfl).pe
  · rw [own_of hown]; exact i_dc hsl h
end
end MP
end

section
set_option Elab.async false
set_option linter.all false
set_option maxRecDepth 100000
/-! MpN3: list(enumerate(x)) as data. -/
namespace MP
open PySem PySem.Spec PyProof.Rows L2
section
variable {T : Tab} {N : List Str} {Γ : Ctx} {k : Nat} {X : Cx} {W : WX} {sc : Scope} {x : Ex} {a : Expr} {pos p p2 pos2 : Pos}
theorem vals_get {xs : List V} {us : List Value} {i : Nat} {u : Value} (r : Vals xs us) (h : us[i]? = some u) : ∃ x, xs[i]? = some x ∧ RelV x u := by
  cases hx : xs[i]? with
  | none => rw [r.none_of hx] at h; cases h
  | some x =>
    obtain ⟨u', h1, h2⟩ := r.get hx
    rw [h1] at h
    cases h
    exact ⟨x, rfl, h2⟩
theorem lse_core {pins : List (Addr × Obj)} {s1 : Shared} {σ : L2.St} {H1 : Hp} {ι1 κ : List Addr} {S1 : Sto} {xs : List D} {Q : VK} {e it : Addr} {fp : List Addr} {P : Nat → Value → Prop} {St : Nat → Heap → Prop} {xat : Nat → V → Prop}
    (I : L2.Inv X pins σ H1 s1) (w1 : Wd T X.K H1 ι1 κ S1) (hc : X.calm = true) (he : IsEnum s1.heap e it 0 .none) (hst : St 0 s1.heap) (hD : ∀ A : Around, A.handled = none → Draws X.prog X.w A it fp xs.length P St) (hn : xs.length ≤ sizeLine) (hv : ∀ i u, P i u → ∃ x, RelV x u ∧ xat i x)
    (hx : ∀ i x, xat i x → ∃ d, xs[i]? = some d ∧ ∀ κ' H ι S, (∀ a ∈ κ', a ∈ κ ∨ H1 a = none) → Ext H1 ι1 H ι → Wd T X.K H ι κ' S → Rep X.K H ι κ' d x) (hne : e ≠ it) (hef : e ∉ fp) (hfp : ∀ b ∈ fp, b < s1.heap.objs.size)
    (fe : FpOk X pins H1 e) (fi : FpOk X pins H1 it) (p1 : PostN T X.K κ W σ H1 ι1 (.ok (.lst (enumD 0 xs)) S1) Q) : wpAny (model X.prog X.w) X.A (call (.type "list") [.ref e]) (EP X pins σ Q) X.xe s1 := by
  have hh : X.A.handled = none := I.ok.hd hc
  have hel : e < s1.heap.objs.size := Heap.lt_size he
  have hil : it < s1.heap.objs.size := by obtain ⟨o, w⟩ := (hD X.A hh).live _ _ hst; exact Heap.lt_size w
  generalize hq : s1.heap.objs.size = q
  have hqn : H1 q = none := by rw [← hq]; exact I.hok.fresh (Nat.le_refl _)
  have hdk : ∀ a ∈ q :: κ, a ∈ κ ∨ H1 a = none := fun a z => (List.mem_cons.mp z).elim (fun e => .inr (by rw [e]; exact hqn)) .inl
  refine lrun_call (T := "enumerate") rfl rfl enum_no_len enum_no_hint I (fun s' kp => ⟨⟨_, kp _ _ he, rfl⟩, fun A Q E hQ => wpAny_pyIter_enum (kp _ _ he) hQ⟩) hel
    (fun fr => enum_lrun (Vx := fun acc H => Ext H1 ι1 H ι1 ∧ Wd T X.K H ι1 (q :: κ) S1 ∧ RepL X.K H ι1 (q :: κ) ((enumD 0 xs).take acc.length) acc) (n := xs.length) (it := it) hh hD hn hv hne hef (fun z => Nat.lt_irrefl _ (hfp _ z)) (Nat.ne_of_gt hel) (Nat.ne_of_gt hil) (fun H z => ⟨z, fe.2⟩) (fun H z => ⟨z, fi.2⟩) ?_)
    (fun acc H s' I' hR => ?_) (fun h' kp => ⟨rfl, Nat.zero_le _, .inl ⟨_, kp _ _ he⟩, (hD X.A hh).frame _ _ _ hst fun b _ o z => kp b o z, ?_, ?_, upd_same, ?_⟩)
  · rintro acc H p x ob hlt ⟨e2, w2, r2⟩ hxa hqa hp ho
    rw [hq] at hqa ⊢
    obtain ⟨d, hd, rd⟩ := hx _ _ hxa
    have rd2 := rd _ _ _ _ hdk e2 w2
    have ri : Rep X.K H ι1 (q :: κ) (.int (acc.length : Nat)) (.int (acc.length : Nat)) := by simp only [Rep]
    obtain ⟨e3, w3, r3⟩ := pair_new w2 (show NewP H p (upd H p (.frz ob (.tup [.int (acc.length : Nat), x]))) [.int (acc.length : Nat), x] from ⟨hp, ob, ho, rfl⟩) ri rd2
    have hq3 : upd H p (.frz ob (.tup [.int (acc.length : Nat), x])) q = some (.lst acc) := by
      rw [upd_ne (fun z => by rw [z, hp] at hqa; cases hqa)]; exact hqa
    refine ⟨Ext.over (e2.trans e3) hqn, w3.over List.mem_cons_self hq3 True.intro, ?_⟩
    have hle : (acc ++ [V.ref p]).length = acc.length + 1 := by simp
    have hg : (enumD 0 xs)[acc.length]? = some (.tup [.int (acc.length : Nat), d]) := by
      rw [enumD_get, hd]; simp
    have ht : (enumD 0 xs).take (acc.length + 1) = (enumD 0 xs).take acc.length ++ [.tup [.int (acc.length : Nat), d]] := by
      rw [List.take_add_one, hg]; rfl
    rw [hle, ht]
    exact RepL.over List.mem_cons_self hq3 True.intro ((RepL.up r2 e3 w2).append (by simp only [RepL]; exact ⟨_, _, rfl, r3, rfl⟩))
  · obtain ⟨hl, ⟨e2, w2, r2⟩, hqa⟩ := hR
    rw [hq] at hqa ⊢
    rw [hl, ← enumD_length xs 0, List.take_length] at r2
    exact ⟨.ref q, H, I', rfl, p1 q H ι1 hqn e2 w2 ⟨acc, hqa, r2⟩⟩
  · rw [hq, upd_ne (by rw [← hq]; exact Nat.ne_of_lt hel)]; exact fe.1
  · rw [hq, upd_ne (by rw [← hq]; exact Nat.ne_of_lt hil)]; exact fi.1
  · rw [hq]
    exact ⟨Ext.fresh w1 hqn, w1.hide hqn, by simp only [List.length_nil, List.take_zero, RepL]⟩
theorem s_lse (g : Gd T N Γ k X W sc) (hl : glB sc "list" = true) (hg : glB sc "enumerate" = true) (ha : Snd T X W Γ x a) : Snd T X W Γ (.lse x) (.Call (.Name "list" p) [.Call (.Name "enumerate" p2) [a] [] pos2] [] pos) := by
  refine .ofN rfl rfl ⟨fun pins s σ H Q I ⟨ι, κ, S, ρ, w, en, pp⟩ => ?_⟩
  simp only [evE] at pp
  refine Call_Name (trees1 rfl) (ld_blt I (g.gl hl) (g.glo.blt _ (by decide)) boot_list (PySem.callWith_type1 ?_))
  refine Call_Name (trees1 ha.pl) (ld_blt I (g.gl hg) (g.glo.blt _ (by decide)) boot_enumerate (PySem.callWith_type1 ?_))
  refine thn (ha.pe.run pins s σ H _ I ⟨ι, κ, S, ρ, w, en, PostN.bind pp fun d S1 v H1 ι1 e1 w1 r1 p1 => (show ∃ ι1 S1 d xs, Wd T X.K H1 ι1 κ S1 ∧ Rep X.K H1 ι1 κ d v ∧ lseD d = some xs ∧ PostN T X.K κ W σ H1 ι1 (.ok (.lst xs) S1) Q from ?_)⟩) fun u s1 hq => ?_
  · cases hd : lseD d with
    | none => rw [hd] at p1; exact p1.elim
    | some xs => rw [hd] at p1; exact ⟨ι1, S1, d, xs, w1, r1, hd, p1⟩
  · obtain ⟨v, H1, I1, rv, ι1, S1, d, xs, w1, r1, hd, p1⟩ := hq
    have seq : ∀ {t : Bool} {ad : Addr} {ys : List V} {ds : List D}, v = .ref ad → SqX X.K t H1 ad ys → RepL X.K H1 ι1 κ ds ys → xs = enumD 0 ds → (ys.length ≤ sizeLine) →
        wpAny (model X.prog X.w) X.A (call (.type "enumerate") [u]) (fun e s2 => wpAny (model X.prog X.w) X.A (call (.type "list") [e]) (EP X pins σ Q) X.xe s2) X.xe s1 := fun {t ad ys ds} ev hs rl ex hz => by
      subst ev ex
      cases rv
      obtain ⟨ws, rw', pt, hal⟩ := seX I1 hs
      have hlen := RepL.length rl
      have hwl : ws.toArray.size = ds.length := by rw [List.size_toArray, ← rw'.length, hlen]
      refine call_enumX t pt fun h' he hit hk => ?_
      have I2 := I1.kept (t' := s1.toks) hk
      have f1 : FpOk X pins H1 (s1.heap.objs.size + 1) := I1.fpOk (Nat.le_succ _) (I1.hok.fresh (Nat.le_succ _))
      have f2 : FpOk X pins H1 s1.heap.objs.size := I1.fpOk (Nat.le_refl _) (I1.hok.fresh (Nat.le_refl _))
      have hsz : ∀ b, b = s1.heap.objs.size ∨ b = ad → b < h'.objs.size := fun b hb => by
        rcases hb with z | z
        · rw [z]; obtain ⟨o, q, _⟩ := hit.obj; exact Heap.lt_size q
        · rw [z]; exact Nat.lt_trans hal (by obtain ⟨o, q, _⟩ := hit.obj; exact Heap.lt_size q)
      exact lse_core (St := fun i h => ItX t h s1.heap.objs.size ad i ∧ SeX t h ad ws.toArray) (P := fun i v => ws.toArray[i]? = some v) (xat := fun i x => ys[i]? = some x) (fp := [s1.heap.objs.size, ad]) I2 w1 g.calm he
        ⟨hit, by cases t with
          | true => exact Heap.IsTuple.at pt fun o z => hk _ o z
          | false => exact Heap.IsList.at pt fun o z => hk _ o z⟩ (fun A hh => by rw [← hwl]; exact drawX hh t (Nat.ne_of_lt hal) ws.toArray) (by rw [hlen]; exact hz)
        (fun i u hu => by
          simp only [List.getElem?_toArray] at hu
          obtain ⟨x, hx, rx⟩ := vals_get rw' hu
          exact ⟨x, rx, hx⟩)
        (fun i x hx => by
          have hi : i < ds.length := by rw [hlen]; exact (List.getElem?_eq_some_iff.mp hx).1
          obtain ⟨u', hu', ru'⟩ := RepL.get rl (List.getElem?_eq_getElem hi)
          rw [hx] at hu'
          cases hu'
          exact ⟨_, List.getElem?_eq_getElem hi, fun κ' H ι S hκ ex _ => Rep.mono ex w1.mut hκ ru'⟩)
        (Nat.succ_ne_self _) (by simp; exact fun z => Nat.lt_irrefl _ (Nat.lt_trans (Nat.lt_succ_self _) (z ▸ hal))) (fun b hb => hsz b (by simpa using hb)) f1 f2 p1
    cases d with
    | tup ds =>
      simp only [lseD, Option.some.injEq] at hd
      simp only [Rep] at r1
      obtain ⟨ad, vs, ev, h1, h2⟩ := r1
      have hs : SqX X.K true H1 ad vs := h1.1
      obtain ⟨ws, rw', _, hz⟩ := I1.tuple h1.1
      exact seq ev hs h2 hd.symm hz
    | lst ds =>
      simp only [lseD, Option.some.injEq] at hd
      simp only [Rep] at r1
      obtain ⟨ad, vs, ev, h1, _, _, h2⟩ := r1
      have hs : SqX X.K false H1 ad vs := SqL.of h1
      obtain ⟨ws, rw', _, hz⟩ := I1.list (SqL.of h1)
      exact seq ev hs h2 hd.symm hz
    | str z =>
      simp only [lseD, Option.ite_none_right_eq_some, Option.some.injEq] at hd
      obtain ⟨hz, rfl⟩ := hd
      simp only [Rep] at r1
      obtain ⟨rfl, hok⟩ := r1
      obtain ⟨t, rfl⟩ := rv
      refine call_enumerate_str fun h' he hit hsz hk => ?_
      have I2 := I1.kept (t' := s1.toks) hk
      have f1 : FpOk X pins H1 (s1.heap.objs.size + 1) := I1.fpOk (Nat.le_succ _) (I1.hok.fresh (Nat.le_succ _))
      have f2 : FpOk X pins H1 s1.heap.objs.size := I1.fpOk (Nat.le_refl _) (I1.hok.fresh (Nat.le_refl _))
      have hlen : (z.cps.toList.map sgn).length = z.cps.size := by simp
      exact lse_core (St := fun i h => h.IsStrIter s1.heap.objs.size (strIterType z) z t i) (P := fun i v => ∃ c u, z.cps[i]? = some c ∧ v = .str ⟨#[c]⟩ u) (xat := fun i x => ∃ c, z.cps[i]? = some c ∧ x = .str ⟨#[c]⟩) (fp := [s1.heap.objs.size]) I2 w1 g.calm he hit
        (fun A hh => by
          rw [hlen]
          unfold strIterType
          split
          · exact Draws.strAscii hh _ z t
          · exact Draws.strWide hh _ z t) (by rw [hlen]; exact LIM_line hz)
        (fun i u ⟨c, tk, hc, hu⟩ => ⟨.str ⟨#[c]⟩, by rw [hu]; exact ⟨_, rfl⟩, c, hc, rfl⟩)
        (fun i x ⟨c, hc, hx⟩ => ⟨sgn c, by simp [hc], fun κ' H ι S hκ ex _ => by
          subst hx
          unfold sgn
          simp only [Rep]
          refine ⟨trivial, strOk_of (l := [c]) fun c' hc' => ?_⟩
          rw [List.mem_singleton.mp hc']
          exact strOk_mem hok (by rw [← Array.getElem?_toList] at hc; exact List.mem_of_getElem? hc)⟩)
        (Nat.succ_ne_self _) (by simp) (fun b hb => by
          rw [List.mem_singleton.mp hb]
          obtain ⟨o, q, _⟩ := hit
          exact Heap.lt_size q) f1 f2 p1
    | _ => simp [lseD] at hd
end
end MP
end

section
set_option Elab.async false
set_option linter.all false
set_option maxRecDepth 100000
/-! MpP2: {k: v, ..} -/
namespace MP
open PySem PySem.Spec PyProof.Rows L2
theorem R.bind_assoc {α β γ : Type} (r : R α) (f : α → Sto → R β) (g : β → Sto → R γ) : (r.bind f).bind g = r.bind fun a S => (f a S).bind g := by
  cases r <;> rfl
def relK (K : PySem.W.Frag) (κ : List Addr) : Hp → List Addr → List (Ky × D) → List (Ky × V) → Prop := fun H ι d v => RepK K H ι κ d v
def trsOf (T : Tab) (K : PySem.W.Frag) (W : WX) (Γ : Ctx) : List Ex → List (TE × TE)
  | k :: v :: r => (tE T K W Γ k, tE T K W Γ v) :: trsOf T K W Γ r
  | _ => []
section
variable {T : Tab} {N : List Str} {Γ : Ctx} {k : Nat} {X : Cx} {W : WX} {sc : Scope} {xs : List Ex} {es : List Expr} {pos : Pos}
theorem inter_trs : ∀ {ks : List (Option Expr)} {vs es : List Expr} {xs : List Ex}, inter ks vs = some es → SndL T X W Γ xs es → PPs X pos ks vs (trsOf T X.K W Γ xs) ∧ ks.length = vs.length ∧ ks.all (·.isSome) = true ∧ (∃ n, xs.length = 2 * n)
  | [], [], _, _, h, q => by
    simp only [inter, Option.some.injEq] at h
    subst h
    cases q
    exact ⟨pps_nil, rfl, rfl, 0, rfl⟩
  | some k :: ks, v :: vs, es, xs, h, q => by
    simp only [inter, Option.map_eq_some_iff] at h
    obtain ⟨r, hr, rfl⟩ := h
    cases q with
    | cons q1 q =>
      cases q with
      | cons q2 q =>
        obtain ⟨a, b, c, n, d⟩ := inter_trs hr q
        refine ⟨pps_cons q1.pe q2.pe a, by simp [b], by simpa using c, n + 1, by simp [d]; omega⟩
  | none :: _, _, _, _, h, _ => by simp [inter] at h
  | [], _ :: _, _, _, h, _ => by simp [inter] at h
  | some _ :: _, [], _, _, h, _ => by simp [inter] at h
theorem pairs_post {K : PySem.W.Frag} : ∀ (n : Nat) (es : List Ex) (σ : L2.St) (H : Hp) (ι κ : List Addr) (S : Sto) (ρ : Env) (Q : List (Ky × V) → Hp → Prop) (F : List (V × V) → Hp → Prop), es.length = 2 * n → (∀ vs H, Q vs H → F (vs.map fun kv => (kV kv.1, kv.2)) H) → Wd T K H ι κ S → EnvR K H ι κ σ ρ → Post T K κ W σ (relK K κ) H ι ((evL Γ es ρ S).bind fun ds S => R.of (prs ds) S) Q → tPairs (trsOf T K W Γ es) σ H F
  | 0, es, σ, H, ι, κ, S, ρ, Q, F, hl, hF, w, en, p => by
    cases es with
    | nil =>
      simp only [evL, R.bind, prs, R.of] at p
      exact hF [] H (p [] H ι Ext.refl w rfl)
    | cons _ _ => simp at hl
  | n + 1, es, σ, H, ι, κ, S, ρ, Q, F, hl, hF, w, en, p => by
    match es, hl with
    | k :: v :: r, hl =>
      have hlr : r.length = 2 * n := by simp at hl; omega
      show tE T K W Γ k σ H fun x H1 => tE T K W Γ v σ H1 fun y H2 => tPairs (trsOf T K W Γ r) σ H2 fun ps H3 => F ((x, y) :: ps) H3
      simp only [evL, R.bind_assoc] at p
      refine ⟨ι, κ, S, ρ, w, en, p.bind fun d S1 u H1 ι1 e1 w1 r1 p1 => ⟨ι1, κ, S1, ρ, w1, en.up e1 w, p1.bind fun d2 S2 u2 H2 ι2 e2 w2 r2 p2 => ?_⟩⟩
      refine pairs_post n r σ H2 ι2 κ S2 ρ (fun vs H => ∃ kk, u = kV kk ∧ Q ((kk, u2) :: vs) H) _ hlr ?_ w2 ((en.up e1 w).up e2 w1) ?_
      · rintro vs H3 ⟨kk, rfl, q⟩
        exact hF _ _ q
      · cases hr : evL Γ r ρ S2 with
        | no => rw [hr] at p2; exact p2.elim
        | exc C fs S3 => rw [hr] at p2; exact p2
        | ok ds S3 =>
          rw [hr] at p2
          have p2 : Post T K κ W σ (relK K κ) H2 ι2 (R.of (prs (d :: d2 :: ds)) S3) Q := p2
          show Post T K κ W σ (relK K κ) H2 ι2 (R.of (prs ds) S3) _
          simp only [prs] at p2
          cases hk : d.ky with
          | none => rw [hk] at p2; exact p2.elim
          | some kk =>
            rw [hk] at p2
            cases hp : prs ds with
            | none => rw [hp] at p2; exact p2.elim
            | some kvs =>
              rw [hp] at p2
              obtain ⟨hv, ho⟩ := ky_rep r1 hk
              intro g H3 ι3 e3 w3 rg
              refine ⟨kk, hv, p2 ((kk, u2) :: g) H3 ι3 e3 w3 ?_⟩
              show RepK K H3 ι3 κ ((kk, d2) :: kvs) ((kk, u2) :: g)
              simp only [RepK]
              exact ⟨u2, g, rfl, Rep.up r2 e3 w2, rg, ho⟩
theorem RepK.mergeD {K : PySem.W.Frag} {H : Hp} {ι κ : List Addr} : ∀ {more : List (Ky × D)} {ms : List (Ky × V)} {kvs : List (Ky × D)} {vs : List (Ky × V)}, RepK K H ι κ more ms → RepK K H ι κ kvs vs → RepK K H ι κ (MP.merge kvs more) (mergeK vs ms)
  | [], _, _, _, h, q => by
    simp only [RepK] at h
    subst h
    exact q
  | (k, d) :: more, _, kvs, vs, h, q => by
    simp only [RepK] at h
    obtain ⟨v, r, rfl, h1, h2, ok⟩ := h
    exact RepK.mergeD (kvs := vput kvs k d) (vs := putK vs k v) h2 (q.put h1 ok)
theorem RepK.len {K : PySem.W.Frag} {H : Hp} {ι κ : List Addr} : ∀ {kvs : List (Ky × D)} {vs : List (Ky × V)}, RepK K H ι κ kvs vs → vs.length = kvs.length
  | [], _, h => by
    simp only [RepK] at h
    rw [h]; rfl
  | (k, d) :: ds, _, h => by
    simp only [RepK] at h
    obtain ⟨v, r, rfl, _, h2, _⟩ := h
    simp [RepK.len h2]
theorem i_dsp {σ : L2.St} {H : Hp} {Q : VK} {n : Nat} (hn : xs.length = 2 * n) (h : tN T X.K W Γ (.dsp xs) σ H Q) : tDisp (trsOf T X.K W Γ xs) σ H Q := by
  obtain ⟨ι, κ, S, ρ, w, en, p⟩ := h
  simp only [evE] at p
  intro D hD
  have hDk : ∀ a ∈ D :: κ, a ∈ κ ∨ H a = none := fun a z => (List.mem_cons.mp z).elim (fun e => .inr (by rw [e]; exact hD)) .inl
  have hkD : ∀ (H' : Hp), ∀ a ∈ κ, a ∈ D :: κ ∨ H' a = none := fun H' a z => .inl (List.mem_cons_of_mem _ z)
  have w1 : Wd T X.K (upd H D (.dK [])) ι (D :: κ) S := w.hide hD
  have e1 : Ext H ι (upd H D (.dK [])) ι := Ext.fresh w hD
  have hDi : D ∉ ι := w.notin hD
  refine pairs_post n xs σ (upd H D (.dK [])) ι (D :: κ) S ρ (fun vs H2 => H2 D = some (.dK []) ∧ vs.length ≤ 15 ∧ Q (.ref D) (upd H2 D (.dK (mergeK [] vs)))) _ hn (fun vs H2 ⟨a, b, c⟩ => ⟨a, vs, rfl, b, c⟩) w1 (en.mono e1 w.mut hDk) ?_
  cases hr : evL Γ xs ρ S with
  | no => rw [hr] at p; exact p.elim
  | exc C fs S3 =>
    rw [hr] at p
    intro cls dx H' ι' e' w' ex
    refine p cls dx H' ι' (e1.trans e') w'.unhide ?_
    obtain ⟨c, a1, a2, a3⟩ := ex
    refine ⟨c, a1, a2, ?_⟩
    rcases a3 with a3 | ⟨f, d, a, v, b1, b2, b3, b4, b5⟩
    · exact .inl a3
    · exact .inr ⟨f, d, a, v, b1, b2, b3, b4, Rep.mono Ext.refl w'.mut (hkD _) b5⟩
  | ok ds S3 =>
    rw [hr] at p
    show Post T X.K (D :: κ) W σ (relK X.K (D :: κ)) (upd H D (.dK [])) ι (R.of (prs ds) S3) _
    have p : PostN T X.K κ W σ H ι ((R.of (prs ds) S3).bind fun kvs S => if kvs.length ≤ 15 then .ok (.dic (merge [] kvs)) S else .no) Q := p
    cases hp : prs ds with
    | none => rw [hp] at p; exact p.elim
    | some kvs =>
      rw [hp] at p
      have p : PostN T X.K κ W σ H ι (if kvs.length ≤ 15 then .ok (.dic (merge [] kvs)) S3 else .no) Q := p
      split at p
      · rename_i hl
        intro g H' ι' e' w' rg
        have rg : RepK X.K H' ι' (D :: κ) kvs g := rg
        have hD' : H' D = some (.dK []) := e'.keep D _ hDi upd_same
        refine ⟨hD', by rw [rg.len]; exact hl, p D _ ι' hD (Ext.over (e1.trans e') hD) (w'.over List.mem_cons_self hD' True.intro) ⟨_, upd_same, ?_⟩⟩
        exact RepK.over List.mem_cons_self hD' True.intro (RepK.mergeD rg (by simp only [RepK]))
      · exact p.elim
theorem s_dsp {ks : List (Option Expr)} {vs : List Expr} (h : SndL T X W Γ xs es) (hin : inter ks vs = some es) (hl : ks.length ≤ 15) (h0 : ks ≠ []) : Snd T X W Γ (.dsp xs) (.Dict ks vs pos) := by
  obtain ⟨a, b, c, n, d⟩ := inter_trs (pos := pos) hin h
  exact .ofN rfl rfl (PE.wk (pe_disp a c b h0 hl) fun σ H Q q => i_dsp d q)
end
end MP
end

section
set_option Elab.async false
set_option linter.all false
set_option maxRecDepth 100000
/-! MpP3: {k: v for .. for ..} -/
namespace MP
open PySem PySem.Spec PyProof.Rows L2
/-- a dict comprehension of two clauses -/
abbrev dcE (kx vx t0 i0 t1 i1 : Expr) (q0 q1 : List Expr) (sco : Scope) (po : Pos) : Expr := .DictComp kx vx [⟨t0, i0, q0, 0⟩, ⟨t1, i1, q1, 0⟩] sco po
theorem dcE_turn0 (kx vx t0 i0 t1 i1 : Expr) (q0 q1 : List Expr) (sco : Scope) (po : Pos) (nx ac : Value) (en : PySem.Env) :
    compTurn (dcE kx vx t0 i0 t1 i1 q0 q1 sco po) 0 nx ac en = (do
      standAt i0.pos
      match ← pyNext nx with
      | none => pure (.done .next)
      | some v =>
        letOwnedTupleGo t0 nx v
        assign t0 en v
        let mut go := true
        for c in q0 do
          if go then go ← isTrue c en (eval c en)
        if go then
          let y ← eval i1 en
          standAt i1.pos
          let y ← foldedSetIterable i1 en y
          let _ ← runOwn (.compStart (dcE kx vx t0 i0 t1 i1 q0 q1 sco po) 1 (← holding [y] (pyIter y)) ac en) en
        again (.compLoop (dcE kx vx t0 i0 t1 i1 q0 q1 sco po) 0 nx ac en)) := by rfl
theorem dcE_turn1 (kx vx t0 i0 t1 i1 : Expr) (q0 q1 : List Expr) (sco : Scope) (po : Pos) (nx : Value) (dd : Addr) (en : PySem.Env) :
    compTurn (dcE kx vx t0 i0 t1 i1 q0 q1 sco po) 1 nx (.ref dd) en = (do
      standAt i1.pos
      match ← pyNext nx with
      | none => pure (.done .next)
      | some v =>
        letOwnedTupleGo t1 nx v
        assign t1 en v
        let mut go := true
        for c in q1 do
          if go then go ← isTrue c en (eval c en)
        if go then
          (do
            let a ← eval kx en
            let b ← holding [a] (eval vx en)
            standAt { kx.pos with endLine := vx.pos.endLine, endCol := vx.pos.endCol }
            holding [a, b] (dictSet dd a b))
        again (.compLoop (dcE kx vx t0 i0 t1 i1 q0 q1 sco po) 1 nx (.ref dd) en)) := by rfl
section
variable {prog : Program} {w : World} {A : Around} {R : Result → Shared → Prop} {s : Shared} {kx vx t0 i0 t1 i1 : Expr} {q0 q1 : List Expr} {sco : Scope} {po : Pos} {nx ac : Value} {dd : Addr} {en : PySem.Env}
/-- how a raise goes on out of the block -/
abbrev nby (prog : Program) (w : World) (A : Around) (en : PySem.Env) (R : Result → Shared → Prop) : Value → Shared → Prop := notedBy (model prog w) A en fun e s' => R (.error e) s'
/-- the tests of a clause -/
abbrev tsts (en : PySem.Env) (qs : List Expr) : Sem Bool := forIn qs true fun c r => if r = true then do let go ← isTrue c en (eval c en); pure (ForInStep.yield go) else pure (ForInStep.yield r)
theorem dcE_loop0 (fs : ∀ y, foldedSetIterable i1 en y = pure y) (Iv : Nat → Shared → Prop)
    (tn : ∀ n s, Iv n s → wpAny (model prog w) A (pyNext nx) (fun r a₁ => match r with
      | none => R (.ok .next) a₁
      | some v => wpAny (model prog w) A (letOwnedTupleGo t0 nx v) (fun _ a₂ => wpAny (model prog w) A (assign t0 en v) (fun _ a₃ =>
          wpAny (model prog w) A (tsts en q0) (fun go a₄ =>
            if go = true then wpAny (model prog w) A (eval i1 en) (fun y a₅ => wpAny (model prog w) A (pyIter y) (fun nx1 a₆ =>
              codeAny (model prog w) A (.compStart (dcE kx vx t0 i0 t1 i1 q0 q1 sco po) 1 nx1 ac en) (fun r z => match r with
                | .ok _ => ∃ m, m < n ∧ Iv m z
                | .error _ => False) a₆) (nby prog w A en R) a₅) (nby prog w A en R) a₄
            else ∃ m, m < n ∧ Iv m a₄) (nby prog w A en R) a₃) (nby prog w A en R) a₂) (nby prog w A en R) a₁) (nby prog w A en R) s)
    (n : Nat) (h : Iv n s) : codeAny (model prog w) A (.compLoop (dcE kx vx t0 i0 t1 i1 q0 q1 sco po) 0 nx ac en) R s := by
  refine codeAny_loop rfl Iv (fun n s hs => ?_) n h
  show wpAny _ A ((compTurn (dcE kx vx t0 i0 t1 i1 q0 q1 sco po) 0 nx ac en).onRaise (fun x => do noteFrame x en; theTreesLotGoes x)) _ _ s
  refine wpAny_noted ?_
  rw [dcE_turn0]
  refine wpAny_bind (wpAny_standAt (wpAny_bind (wpAny_mono (tn n s hs) (fun r a₁ k₁ => ?_) fun _ _ z => z)))
  cases r with
  | none => exact wpAny_pure k₁
  | some v =>
    refine wpAny_bind (wpAny_mono k₁ (fun _ a₂ k₂ => ?_) fun _ _ z => z)
    refine wpAny_bind (wpAny_mono k₂ (fun _ a₃ k₃ => wpAny_bind (wpAny_mono k₃ (fun go a₄ k₄ => ?_) fun _ _ z => z)) fun _ _ z => z)
    cases go with
    | false => exact wpAny_pure ⟨rfl, k₄⟩
    | true =>
      refine wpAny_bind (wpAny_mono k₄ (fun y a₅ k₅ => ?_) fun _ _ z => z)
      refine wpAny_bind (wpAny_standAt (wpAny_bind (wpAny_of_eq (fs y) (wpAny_bind (wpAny_holding (wpAny_mono k₅ (fun nx1 a₆ k₆ => ?_) fun _ _ z => z))))))
      refine wpAny_bind (wpAny_runOwn ?_)
      rw [Around.mark_none]
      refine codeAny_mono k₆ fun r z hr => ?_
      cases r with
      | ok f => first
        | exact wpAny_pure ⟨rfl, hr⟩
        | exact wpAny_bind (wpAny_pure (wpAny_pure ⟨rfl, hr⟩))
      | error e => exact hr.elim
theorem dcE_loop1 (Iv : Nat → Shared → Prop)
    (tn : ∀ n s, Iv n s → wpAny (model prog w) A (pyNext nx) (fun r a₁ => match r with
      | none => R (.ok .next) a₁
      | some v => wpAny (model prog w) A (letOwnedTupleGo t1 nx v) (fun _ a₂ => wpAny (model prog w) A (assign t1 en v) (fun _ a₃ =>
          wpAny (model prog w) A (tsts en q1) (fun go a₄ =>
            if go = true then wpAny (model prog w) A (eval kx en) (fun a a₅ => wpAny (model prog w) A (eval vx en) (fun b a₆ =>
              wpAny (model prog w) A (dictSet dd a b) (fun _ a₇ => ∃ m, m < n ∧ Iv m a₇) (nby prog w A en R) a₆) (nby prog w A en R) a₅) (nby prog w A en R) a₄
            else ∃ m, m < n ∧ Iv m a₄) (nby prog w A en R) a₃) (nby prog w A en R) a₂) (nby prog w A en R) a₁) (nby prog w A en R) s)
    (n : Nat) (h : Iv n s) : codeAny (model prog w) A (.compLoop (dcE kx vx t0 i0 t1 i1 q0 q1 sco po) 1 nx (.ref dd) en) R s := by
  refine codeAny_loop rfl Iv (fun n s hs => ?_) n h
  show wpAny _ A ((compTurn (dcE kx vx t0 i0 t1 i1 q0 q1 sco po) 1 nx (.ref dd) en).onRaise (fun x => do noteFrame x en; theTreesLotGoes x)) _ _ s
  refine wpAny_noted ?_
  rw [dcE_turn1]
  refine wpAny_bind (wpAny_standAt (wpAny_bind (wpAny_mono (tn n s hs) (fun r a₁ k₁ => ?_) fun _ _ z => z)))
  cases r with
  | none => exact wpAny_pure k₁
  | some v =>
    refine wpAny_bind (wpAny_mono k₁ (fun _ a₂ k₂ => ?_) fun _ _ z => z)
    refine wpAny_bind (wpAny_mono k₂ (fun _ a₃ k₃ => wpAny_bind (wpAny_mono k₃ (fun go a₄ k₄ => ?_) fun _ _ z => z)) fun _ _ z => z)
    cases go with
    | false => exact wpAny_pure ⟨rfl, k₄⟩
    | true =>
      exact wpAny_bind (wpAny_bind (wpAny_mono k₄ (fun a a₅ k₅ => wpAny_bind (wpAny_holding (wpAny_mono k₅ (fun b a₆ k₆ => wpAny_bind (wpAny_standAt (wpAny_holding (wpAny_mono k₆ (fun _ a₇ k₇ => wpAny_pure ⟨rfl, k₇⟩) fun _ _ z => z)))) fun _ _ z => z))) fun _ _ z => z))
theorem dcE_start1 (h0 : codeAny (model prog w) A (.compLoop (dcE kx vx t0 i0 t1 i1 q0 q1 sco po) 1 nx ac en) R s)
    (h : wpAny (model prog w) A (pyIter nx) (fun y z => codeAny (model prog w) A (.compLoop (dcE kx vx t0 i0 t1 i1 q0 q1 sco po) 1 y ac en) R z) (nby prog w A en R) s) :
    codeAny (model prog w) A (.compStart (dcE kx vx t0 i0 t1 i1 q0 q1 sco po) 1 nx ac en) R s := by
  refine codeAny_of_tree ?_
  show wpAny _ _ ((compStart (dcE kx vx t0 i0 t1 i1 q0 q1 sco po) 1 nx ac en).onRaise (fun x => do noteFrame x en; standAt theWindowsPlace)) _ _ s
  refine wpAny_notedAt ?_
  unfold compStart
  show wpAny _ _ (ask >>= _) _ _ s
  refine wpAny_bind (wpAny_askSetting (wpAny_ite ?_))
  split
  · first
      | exact wpAny_bind (wpAny_pure (wpAny_pure (And.intro rfl h0)))
      | exact wpAny_pure (And.intro rfl h0)
  · first
      | exact wpAny_bind (wpAny_rule (wpAny_bind (wpAny_standAt (wpAny_bind (wpAny_mono h (fun y z k => wpAny_pure (And.intro rfl k)) fun _ _ x => x)))))
      | (refine wpAny_bind (wpAny_rule ?_); show wpAny _ _ (standAt i1.pos >>= _) _ _ s; exact wpAny_bind (wpAny_standAt (wpAny_bind (wpAny_mono h (fun y z k => wpAny_pure (And.intro rfl k)) fun _ _ x => x))))
end
/-- what is asked for {k: v for .. for ..}: vs all the block's names, us those of the second clause -/
def tDc2 (w0 : TI) (g0 : TG) (b0 : TT) (w1 : TI) (g1 : TG) (b1 : TT) (tk tv : TE) (vs us : List Nat) : TE := fun σ H Q => w0 σ H fun J Ha => ∀ dd, Ha dd = none → ∃ V : Nat → Nat → Hp → Prop, (∃ m, V 0 m (upd Ha dd (.dK []))) ∧ ∀ i m H, V i m H →
  (J.stop i H ∧ Q (.ref dd) H) ∨ (J.go i H ∧ ∃ Nx : Hp → Prop, (∀ h, Nx h → ∃ m', m' < m ∧ V (i + 1) m' h) ∧ ∀ x h, J.yld i H x h → g0 x (L2.wipe σ vs) h fun σ2 Hb => L2.wipe σ2 vs = L2.wipe σ vs ∧ b0 σ2 Hb fun c Hc =>
    if c = true then w1 σ2 Hc fun J1 Hd => ∃ V1 : Nat → Nat → Hp → Prop, (∃ m, V1 0 m Hd) ∧ ∀ j k H, V1 j k H →
      (J1.stop j H ∧ Nx H) ∨ (J1.go j H ∧ ∃ Ny : Hp → Prop, (∀ h, Ny h → ∃ k', k' < k ∧ V1 (j + 1) k' h) ∧ ∀ x h, J1.yld j H x h → g1 x (L2.wipe σ2 us) h fun σ3 He => L2.wipe σ3 us = L2.wipe σ2 us ∧ b1 σ3 He fun c Hf =>
        if c = true then tk σ3 Hf fun y Hg => tv σ3 Hg fun z Hh => ∃ kvs k, y = kV k ∧ Hh dd = some (.dK kvs) ∧ kvs.length < sizeLine ∧ Ny (upd Hh dd (.dK (putK kvs k z))) else Ny Hf)
    else Nx Hc)
section
variable {X : Cx}
/-- the parts of such a comprehension, each in the block -/
structure Dc2Ok (X : Cx) (kx vx t0 i0 t1 i1 : Expr) (q0 q1 : List Expr) (sco : Scope) (own : List (Str × Nat)) (us : List Nat) (w0 : TI) (g0 : TG) (b0 : TT) (w1 : TI) (g1 : TG) (b1 : TT) (tk tv : TE) : Prop where
  calm : X.calm = true
  nd : X.N.Nodup
  it : PI X t0 i0 w0
  blk : BlkOk X.N X.env.scope sco own
  us : ∀ i ∈ us, i ∈ own.map (·.2)
  pg0 : ∀ (s : Shared) (H : Hp) (C : Addr) (cl : List (Str × Addr)) (fp : List Addr), PG (X.blk s H sco (compEnvC sco cl C X.env) fp) t0 g0
  pt0 : ∀ (s : Shared) (H : Hp) (C : Addr) (cl : List (Str × Addr)) (fp : List Addr), PTs (X.blk s H sco (compEnvC sco cl C X.env) fp) q0 b0
  pi1 : ∀ (s : Shared) (H : Hp) (C : Addr) (cl : List (Str × Addr)) (fp : List Addr), PI (X.blk s H sco (compEnvC sco cl C X.env) fp) t1 i1 w1
  pg1 : ∀ (s : Shared) (H : Hp) (C : Addr) (cl : List (Str × Addr)) (fp : List Addr), PG (X.blk s H sco (compEnvC sco cl C X.env) fp) t1 g1
  pt1 : ∀ (s : Shared) (H : Hp) (C : Addr) (cl : List (Str × Addr)) (fp : List Addr), PTs (X.blk s H sco (compEnvC sco cl C X.env) fp) q1 b1
  pk : ∀ (s : Shared) (H : Hp) (C : Addr) (cl : List (Str × Addr)) (fp : List Addr), PE (X.blk s H sco (compEnvC sco cl C X.env) fp) kx tk
  pv : ∀ (s : Shared) (H : Hp) (C : Addr) (cl : List (Str × Addr)) (fp : List Addr), PE (X.blk s H sco (compEnvC sco cl C X.env) fp) vx tv
  fs0 : ∀ y, foldedSetIterable i0 X.env y = pure y
  fs1 : ∀ en y, foldedSetIterable i1 en y = pure y
theorem dc2_core {pins : List (Addr × Obj)} {s : Shared} {σ : L2.St} {H : Hp} {Q : VK} {kx vx t0 i0 t1 i1 : Expr} {q0 q1 : List Expr} {sco : Scope} {own : List (Str × Nat)} {us : List Nat} {po po' : Pos} {w0 w1 : TI} {g0 g1 : TG} {b0 b1 : TT} {tk tv : TE} {use : Option (Value → Sem Unit)} {Qf : Value → Shared → Prop}
    (o : Dc2Ok X kx vx t0 i0 t1 i1 q0 q1 sco own us w0 g0 b0 w1 g1 b1 tk tv) (I : Inv X pins σ H s) (h : tDc2 w0 g0 b0 w1 g1 b1 tk tv (own.map (·.2)) us σ H Q)
    (fin : ∀ dd C z m h, Inv X pins σ h z → Q (.ref dd) h → z.heap.Ns C m → FpOk X pins h C → compPost (model X.prog X.w) X.A X.xe use Qf (.ref dd) C (.ok .next) z) :
    wpAny (model X.prog X.w) X.A (comprehension (dcE kx vx t0 i0 t1 i1 q0 q1 sco po) sco X.env po' newDict false (eval i0 X.env) use) Qf X.xe s := by
  have cells : ∀ y ∈ sco.names, y.2 = .free → ∃ c, X.env.cells.lookup y.1 = some c := fun y hy e => (o.blk.free y hy e).elim (fun k => I.ok.has _ (.inl k)) fun k => I.ok.has _ (.inr k)
  refine wpAny_comprehension_free (use := use) rfl o.fs0 (closure_ok cells) o.blk.kind (fun y hy e => by rw [o.blk.uniq y hy, e])
    (thn (o.it.run pins s σ H _ I h) fun xv z1 hx => thn hx fun nv z2 h2 => ?_)
  obtain ⟨nx, fp, tn, J, Hb, e, I2, T, st2, f2, q⟩ := h2
  subst e
  refine wpAny_newObj_type (newEnv_comp ?_)
  generalize hD : z2.heap.objs.size = dd
  have hDn : Hb dd = none := I2.hok.fresh (Nat.le_of_eq hD)
  obtain ⟨V, ⟨m0, v0⟩, turn⟩ := q dd hDn
  generalize hz3 : ({ z2 with heap := z2.heap.push { cls := .type "dict", data := .dict #[] } } : Shared) = z3
  have I3 : Inv X pins σ (upd Hb dd (.dK [])) z3 := by
    rw [← hz3]
    refine I2.laid (t' := z2.toks) (fun b ob e => Heap.get?_push_of_some _ e) (Nat.le_of_eq hD) ?_
    rw [← hD]; exact dk_empty z2.heap I2.big
  have hp3 : z3.heap = z2.heap.push { cls := .type "dict", data := .dict #[] } := by rw [← hz3]
  have f3 : ∀ b ∈ fp, FpOk X pins (upd Hb dd (.dK [])) b ∧ b < z3.heap.objs.size := fun b hb => by
    obtain ⟨ob, e, _⟩ := T.obj _ _ st2 b hb
    have hlt := Heap.lt_size e
    refine ⟨⟨?_, (f2 b hb).2⟩, by rw [hp3, Heap.size_push]; exact Nat.lt_succ_of_lt hlt⟩
    rw [upd_ne (by rw [← hD]; exact Nat.ne_of_lt hlt)]
    exact (f2 b hb).1
  have st3 : tn 0 z3.heap := T.keep _ _ _ st2 fun b _ ob e => by rw [hp3]; exact Heap.get?_push_of_some _ e
  have I4 := block_start I3 o.blk o.nd f3
  show codeAny _ _ (.compStart (dcE kx vx t0 i0 t1 i1 q0 q1 sco po) 0 (.ref nx) (.ref dd) (compEnvC sco (cellsFrom (z3.heap.objs.size + 1) sco.names (cloFrom X.env.cells sco.names [])) z3.heap.objs.size X.env)) (compPost (model X.prog X.w) X.A X.xe use Qf (.ref dd) z3.heap.objs.size) { z3 with heap := pushCells (z3.heap.push { cls := .type "dict", data := .dict #[] }) sco.names }
  generalize hcl : cellsFrom (z3.heap.objs.size + 1) sco.names (cloFrom X.env.cells sco.names []) = cl at I4 ⊢
  have pg := o.pg0 z3 (upd Hb dd (.dK [])) z3.heap.objs.size cl fp
  have pt := o.pt0 z3 (upd Hb dd (.dK [])) z3.heap.objs.size cl fp
  have pi := o.pi1 z3 (upd Hb dd (.dK [])) z3.heap.objs.size cl fp
  have pgi := o.pg1 z3 (upd Hb dd (.dK [])) z3.heap.objs.size cl fp
  have pti := o.pt1 z3 (upd Hb dd (.dK [])) z3.heap.objs.size cl fp
  have pk := o.pk z3 (upd Hb dd (.dK [])) z3.heap.objs.size cl fp
  have pv := o.pv z3 (upd Hb dd (.dK [])) z3.heap.objs.size cl fp
  have nfp : ∀ b ∈ fp, (upd Hb dd (.dK [])) b = none := fun b hb => (f3 b hb).1.1
  generalize hce : compEnvC sco cl z3.heap.objs.size X.env = ce at I4 pg pt pi pgi pti pk pv ⊢
  have cL : ce.locals = z3.heap.objs.size := by subst hce; rfl
  generalize hH3 : upd Hb dd (.dK []) = Hc at I3 I4 pg pt pi pgi pti pk pv v0 nfp f3
  generalize hz4 : ({ z3 with heap := pushCells (z3.heap.push { cls := .type "dict", data := .dict #[] }) sco.names } : Shared) = z4 at I4 ⊢
  have st4 : tn 0 z4.heap := T.keep _ _ _ st3 fun b _ ob e => by rw [← hz4]; exact pushCells_keeps _ _ _ _ (Heap.get?_push_of_some _ e)
  generalize hB : X.blk z3 Hc sco ce fp = B at I4 pg pt pi pgi pti pk pv
  have Bc : B.prog = X.prog ∧ B.w = X.w ∧ B.K = X.K ∧ B.calm = X.calm ∧ B.A = X.A ∧ B.env = ce := by subst hB; exact ⟨rfl, rfl, rfl, rfl, rfl, rfl⟩
  have stat : ∀ {σ' : L2.St} {h : Hp} {z : Shared}, Inv B [] σ' h z → (∀ b ∈ fp, h b = none) → ∀ b ∈ fp, FpOk B [] h b := by
    subst hB
    exact fun {σ' h z} I' hn b hb => ⟨hn b hb, (I'.ok.exf b hb).1, I'.ok.exfs b hb, .inl hb, fun x c e => (I'.ok.exf b hb).2 x c e, fun p hp => absurd (show p ∈ ([] : List (Addr × Obj)) ++ [] from hp) (by simp)⟩
  have outer : codeAny (model X.prog X.w) X.A (.compLoop (dcE kx vx t0 i0 t1 i1 q0 q1 sco po) 0 (.ref nx) (.ref dd) ce) (compPost (model X.prog X.w) X.A X.xe use Qf (.ref dd) z3.heap.objs.size) z4 := by
    subst hB
    refine dcE_loop0 (o.fs1 ce) (fun n z => ∃ i h, Inv (X.blk z3 Hc sco ce fp) [] (L2.wipe σ (own.map (·.2))) h z ∧ tn i z.heap ∧ (∀ b ∈ fp, h b = none) ∧ V i n h) ?_ m0 ⟨0, Hc, I4, st4, nfp, v0⟩
    rintro n z5 ⟨i, H5, I5, st5, n5, v5⟩
    rcases turn i n H5 v5 with ⟨stop, qq⟩ | ⟨go, Nx, hNx, step⟩
    · refine thnF (T.done (X.blk z3 Hc sco ce fp) rfl rfl rfl o.calm i [] z5 _ H5 (fun _ _ => False) I5 (stat I5 n5) st5 stop) fun r z6 ⟨hr, I6⟩ => ?_
      subst hr
      have I7 : Inv X pins σ H5 z6 := I3.call' (ch := fp) I6.os I6.base I6.hok I6.bare fun b hb => ⟨(f3 b hb).1.2.2.2.1, (f3 b hb).1.2.1, (f3 b hb).1.2.2.2.2.1, (f3 b hb).1.2.2.2.2.2⟩
      have nC : H5 z3.heap.objs.size = none := by
        have z : H5 ce.locals = none := I6.free
        rw [cL] at z; exact z
      obtain ⟨m, hn, _⟩ := I6.loc
      have hn : z6.heap.Ns ce.locals m := hn
      rw [cL] at hn
      exact fin dd z3.heap.objs.size z6 m H5 I7 qq hn (I3.fpOk (Nat.le_refl _) nC)
    · refine thnF (T.item (X.blk z3 Hc sco ce fp) rfl rfl rfl o.calm i [] z5 _ H5 (fun _ _ => False) I5 (stat I5 n5) st5 go) fun r z6 ⟨u, hr, h6⟩ => ?_
      subst hr
      refine thnF h6 fun _ z7 ⟨x, H7, I7, r7, y7, st7, n7⟩ => ?_
      have I7' := I7.pinned (stat I7 n7) (T.obj _ _ st7)
      refine thnF (pg.run _ z7 _ H7 x u _ I7' r7 (step x H7 y7)) fun _ z8 ⟨σ8, H8, I8, hw8, q8⟩ => ?_
      refine thnF (pt.run _ z8 σ8 H8 _ I8 q8) fun c z9 ⟨H9, I9, q9⟩ => ?_
      have back : ∀ {σ9 : L2.St} {z : Shared} {h : Hp}, Inv (X.blk z3 Hc sco ce fp) ([] ++ pinsAt fp z7.heap) σ9 h z → (L2.wipe σ (own.map (·.2))).length = σ9.length → (∀ (j : Nat) v, (L2.wipe σ (own.map (·.2)))[j]? = some (some v) → σ9[j]? = some (some v)) → Nx h →
          ∃ m, m < n ∧ ∃ i h, Inv (X.blk z3 Hc sco ce fp) [] (L2.wipe σ (own.map (·.2))) h z ∧ tn i z.heap ∧ (∀ b ∈ fp, h b = none) ∧ V i m h := fun {σ9 z h} I' hl hk nx' => by
        obtain ⟨m', hm, v'⟩ := hNx h nx'
        have pin' : ∀ b ∈ fp, ∀ ob, z7.heap.get? b = some ob → z.heap.get? b = some ob ∧ h b = none := fun b hb ob e =>
          let p := I'.pin (b, ob) (List.mem_append_right _ (List.mem_append_right _ (mem_pinsAt hb e)))
          ⟨p.1, p.2.1⟩
        refine ⟨m', hm, i + 1, h, (I'.unpinned (pins := [])).weak hl hk, T.keep _ _ _ st7 fun b hb ob e => (pin' b hb ob e).1, fun b hb => ?_, v'⟩
        obtain ⟨ob, e, _⟩ := T.obj _ _ st7 b hb
        exact (pin' b hb ob e).2
      have l8 : (L2.wipe σ (own.map (·.2))).length = σ8.length := by rw [← hw8, L2.wipe_length]
      have k8 : ∀ (j : Nat) v, (L2.wipe σ (own.map (·.2)))[j]? = some (some v) → σ8[j]? = some (some v) := fun j v e => by
        rw [← hw8] at e; exact (wipe_some e).1
      have k9 : ∀ (j : Nat) v, (L2.wipe σ (own.map (·.2)))[j]? = some (some v) → (L2.wipe σ8 us)[j]? = some (some v) := fun j v e => by
        rw [← hw8] at e
        obtain ⟨e1, e2⟩ := wipe_some e
        rw [wipe_out fun z => e2 (o.us j z)]
        exact e1
      cases c with
      | false =>
        simp only [Bool.false_eq_true, if_false] at q9 ⊢
        exact back I9 l8 k8 q9
      | true =>
        simp only [if_true] at q9 ⊢
        refine thnF (pi.run _ z9 σ8 H9 _ I9 q9) fun xv za hx => thnF hx fun nv zb hb => ?_
        obtain ⟨ny, fq, tm, J1, Hj, e1, Ij, T1, stj, fj, V1, ⟨m1, v1⟩, turn1⟩ := hb
        subst e1
        have stat1 : ∀ {h : Hp}, (∀ b ∈ fq, h b = none) → ∀ b ∈ fq, FpOk (X.blk z3 Hc sco ce fp) ([] ++ pinsAt fp z7.heap) h b := fun hn b hb => ⟨hn b hb, (fj b hb).2⟩
        have inner : codeAny (model X.prog X.w) X.A (.compLoop (dcE kx vx t0 i0 t1 i1 q0 q1 sco po) 1 (.ref ny) (.ref dd) ce)
            (fun r z => match r with
              | .ok _ => ∃ m, m < n ∧ ∃ i h, Inv (X.blk z3 Hc sco ce fp) [] (L2.wipe σ (own.map (·.2))) h z ∧ tn i z.heap ∧ (∀ b ∈ fp, h b = none) ∧ V i m h
              | .error _ => False) zb := by
          refine dcE_loop1 (fun k z => ∃ j h, Inv (X.blk z3 Hc sco ce fp) ([] ++ pinsAt fp z7.heap) (L2.wipe σ8 us) h z ∧ tm j z.heap ∧ (∀ b ∈ fq, h b = none) ∧ V1 j k h) ?_ m1 ⟨0, Hj, Ij.weak (L2.wipe_length _ _) (fun j v e => (wipe_some e).1), stj, fun b hb => (fj b hb).1, v1⟩
          rintro k zc ⟨j, Hk, Ik, stk, nk, vk⟩
          rcases turn1 j k Hk vk with ⟨stop1, nx1⟩ | ⟨go1, Ny, hNy, step1⟩
          · refine thnF (T1.done (X.blk z3 Hc sco ce fp) rfl rfl rfl o.calm j _ zc (L2.wipe σ8 us) Hk (fun _ _ => False) Ik (stat1 nk) stk stop1) fun r zd ⟨hr, Id⟩ => ?_
            subst hr
            exact back Id (l8.trans (L2.wipe_length σ8 us).symm) k9 nx1
          · refine thnF (T1.item (X.blk z3 Hc sco ce fp) rfl rfl rfl o.calm j _ zc (L2.wipe σ8 us) Hk (fun _ _ => False) Ik (stat1 nk) stk go1) fun r zd ⟨u1, hr, hd⟩ => ?_
            subst hr
            refine thnF hd fun _ ze ⟨x1, He, Ie, re, ye, ste, ne⟩ => ?_
            have Ie' := Ie.pinned (stat1 ne) (T1.obj _ _ ste)
            refine thnF (pgi.run _ ze (L2.wipe σ8 us) He x1 u1 _ Ie' re (step1 x1 He ye)) fun _ zf ⟨σf, Hf, If, hwf, qf⟩ => ?_
            refine thnF (pti.run _ zf σf Hf _ If qf) fun c1 zg ⟨Hg, Ig, qg⟩ => ?_
            have back1 : ∀ {z : Shared} {h : Hp}, Inv (X.blk z3 Hc sco ce fp) (([] ++ pinsAt fp z7.heap) ++ pinsAt fq ze.heap) σf h z → Ny h → ∃ m, m < k ∧ ∃ j h, Inv (X.blk z3 Hc sco ce fp) ([] ++ pinsAt fp z7.heap) (L2.wipe σ8 us) h z ∧ tm j z.heap ∧ (∀ b ∈ fq, h b = none) ∧ V1 j m h := fun {z h} I' ny' => by
              obtain ⟨m', hm, v'⟩ := hNy h ny'
              have pin' : ∀ b ∈ fq, ∀ ob, ze.heap.get? b = some ob → z.heap.get? b = some ob ∧ h b = none := fun b hb ob e =>
                let p := I'.pin (b, ob) (List.mem_append_right _ (List.mem_append_right _ (mem_pinsAt hb e)))
                ⟨p.1, p.2.1⟩
              refine ⟨m', hm, j + 1, h, I'.unpinned.weak (by rw [← hwf, L2.wipe_length]) (fun j v e => by rw [← hwf] at e; exact (wipe_some e).1), T1.keep _ _ _ ste fun b hb ob e => (pin' b hb ob e).1, fun b hb => ?_, v'⟩
              obtain ⟨ob, e, _⟩ := T1.obj _ _ ste b hb
              exact (pin' b hb ob e).2
            cases c1 with
            | false =>
              simp only [Bool.false_eq_true, if_false] at qg ⊢
              exact back1 Ig qg
            | true =>
              simp only [if_true] at qg ⊢
              refine thnF (pk.run _ zg σf Hg _ Ig qg) fun a zh ⟨ya, Hh, Ih, rh, qh⟩ => ?_
              refine thnF (pv.run _ zh σf Hh _ Ih qh) fun b zi ⟨yb, Hi, Ii, ri, kvs, kk, ek, hDi, hzi, ny'⟩ => ?_
              subst ek
              exact d_dictSet (X := X.blk z3 Hc sco ce fp) Ii hDi hzi rh ri fun zj Ij => back1 Ij ny'
        exact dcE_start1 inner (T1.self X.A 0 _ _ _ stj inner)
  exact codeAny_compStart_dict outer (T.self X.A 0 _ _ _ st4 outer)
theorem pe_dc2 {kx vx t0 i0 t1 i1 : Expr} {q0 q1 : List Expr} {sco : Scope} {own : List (Str × Nat)} {us : List Nat} {po : Pos} {w0 w1 : TI} {g0 g1 : TG} {b0 b1 : TT} {tk tv : TE} (o : Dc2Ok X kx vx t0 i0 t1 i1 q0 q1 sco own us w0 g0 b0 w1 g1 b1 tk tv) :
    PE X (dcE kx vx t0 i0 t1 i1 q0 q1 sco po) (tDc2 w0 g0 b0 w1 g1 b1 tk tv (own.map (·.2)) us) := by
  refine ⟨fun pins s σ H Q I h => ?_⟩
  rw [arm_eval_DictComp]
  refine dc2_core o I h fun dd C z m h' I' q hn f => ⟨m, hn, fun hh sb => ?_⟩
  obtain ⟨f0, f1, f2, f3, f4, f5⟩ := f
  exact ⟨.ref dd, h', I'.turned (t' := z.toks) (fun b ob hb e => (sb.2 b hb).trans e) f0 f1 f3 f4 f5, rfl, q⟩
end
end MP
end

section
set_option Elab.async false
set_option linter.all false
set_option maxRecDepth 100000
/-! MpP4: {k: v for .. for ..} as data: the second clause walks a tuple. -/
namespace MP
open PySem PySem.Spec PyProof.Rows L2
section
variable {T : Tab} {N : List Str} {Γ : Ctx} {k : Nat} {X : Cx} {W : WX} {sc : Scope} {cnd cnd1 : List Ex} {ifs' ifs1' : List Expr} {it' tg' it1' tg1' : Expr} {pos : Pos}
theorem EnvR.over {K : PySem.W.Frag} {H : Hp} {ι κ : List Addr} {σ : L2.St} {ρ : Env} {p : Addr} {u o : HO} (hp : p ∈ κ) (hu : H p = some u) (mu : Mut (some u)) (h : EnvR K H ι κ σ ρ) : EnvR K (upd H p o) ι κ σ ρ :=
  ⟨h.1, fun i d q => let ⟨v, a, b⟩ := h.2 i d q; ⟨v, a, Rep.over hp hu mu b⟩⟩
theorem dc2_turn {ek ev : Env → Sto → R D} {al al1 : Env → Sto → R Bool} {eI : Env → Sto → R D} {tg tg1 : Tg} {own own1 : List Nat} {ρ : Env} {g : Option Nat} {d : D} {S S' : Sto} {o : Option (List (Ky × D))} (h : dc2F ek ev al al1 eI tg tg1 own own1 ρ g d S = .ok o S') :
    ∃ ρ' c S1, bindT tg d (wipe ρ own) = some ρ' ∧ al ρ' S = .ok c S1 ∧ held g S S' = true ∧ ((c = true ∧ ∃ xs S2 ys, eI ρ' S1 = .ok (.tup xs) S2 ∧ compR (dcF ek ev al1 tg1 own1 ρ' none) xs S2 = .ok ys S' ∧ o = some ys) ∨ (c = false ∧ S1 = S' ∧ o = none)) := by
  unfold dc2F at h
  split at h
  · rename_i ρ' hb
    obtain ⟨c, S1, h1, h2⟩ := bind_ok (noExc_ok h)
    refine ⟨ρ', c, S1, hb, h1, ?_⟩
    cases c with
    | true =>
      rw [if_pos rfl] at h2
      obtain ⟨q, S2, h3, h4⟩ := bind_ok h2
      obtain ⟨xs, S3, h5, h6⟩ := bind_ok h4
      obtain ⟨ys, S4, h7, h8⟩ := bind_ok h6
      cases q with
      | tup zs =>
        cases h5
        split at h8
        · rename_i hh
          cases h8
          exact ⟨hh, .inl ⟨rfl, _, _, _, h3, h7, rfl⟩⟩
        · cases h8
      | _ => cases h5
    | false =>
      rw [if_neg Bool.false_ne_true] at h2
      split at h2
      · rename_i hh
        cases h2
        exact ⟨hh, .inr ⟨rfl, rfl, rfl⟩⟩
      · cases h2
  · cases h
theorem dc2_noExc {ek ev : Env → Sto → R D} {al al1 : Env → Sto → R Bool} {eI : Env → Sto → R D} {tg tg1 : Tg} {own own1 : List Nat} {ρ : Env} {g : Option Nat} : ∀ x S C fs S', dc2F ek ev al al1 eI tg tg1 own own1 ρ g x S ≠ .exc C fs S' := fun x S C fs S' h => by
  unfold dc2F at h
  split at h
  · exact noExc_exc h
  · cases h
theorem i_dc2 {kx vx it it1 : Ex} {tg tg1 : Tg} {own own1 : List Nat} (hsl : ∀ i ∈ slotsT tg, i ∈ own) (hsl1 : ∀ i ∈ slotsT tg1, i ∈ own1) {σ : L2.St} {H : Hp} {Q : VK} (h : tN T X.K W Γ (.dc2 kx vx tg it cnd tg1 it1 cnd1 own own1) σ H Q) :
    tDc2 (tI T X.K W Γ it) (tG T X.K tg) (tTs T X.K NoW Γ cnd) (iTup X.K (tE T X.K NoW Γ it1)) (tG T X.K tg1) (tTs T X.K NoW Γ cnd1) (tE T X.K NoW Γ kx) (tE T X.K NoW Γ vx) own own1 σ H Q := by
  obtain ⟨ι, κ, S, ρ, w, en, p⟩ := h
  simp only [evE] at p
  refine ⟨ι, κ, S, ρ, w, en, ?_⟩
  cases hi : evI Γ it ρ S with
  | no => rw [hi] at p; exact p.elim
  | exc C fs S1 => rw [hi] at p; exact p
  | ok pr S1 =>
    rw [hi] at p
    simp only [R.bind] at p
    intro J H1 ι1 e1 w1 iw D hD
    generalize hn : pr.1.length = n
    have hDk : ∀ a ∈ D :: κ, a ∈ κ ∨ H1 a = none := fun a z => (List.mem_cons.mp z).elim (fun e => .inr (by rw [e]; exact hD)) .inl
    have en1 : EnvR X.K H1 ι1 κ σ ρ := en.up e1 w
    generalize hF : dc2F (fun ρ S => evE Γ kx ρ S) (fun ρ S => evE Γ vx ρ S) (fun ρ S => evAll Γ cnd ρ S) (fun ρ S => evAll Γ cnd1 ρ S) (fun ρ S => evE Γ it1 ρ S) tg tg1 own own1 ρ pr.2 = F at p
    cases hc : compR F pr.1 S1 with
    | no => rw [hc] at p; exact p.elim
    | exc C fs S2 => exact absurd hc (compR_noExc (by rw [← hF]; exact dc2_noExc))
    | ok yss S2 =>
      rw [hc] at p
      simp only at p
      split at p
      rotate_left
      · exact p.elim
      rename_i hlen
      refine ⟨fun i m H2 => m = n - i ∧ i ≤ n ∧ ∃ ι2 S3 done rest acc, compR F (pr.1.drop i) S3 = .ok rest S2 ∧ done ++ rest = yss ∧ Ext H1 ι1 H2 ι2 ∧ Wd T X.K H2 ι2 (D :: κ) S3 ∧ H2 D = some (.dK acc) ∧
        RepK X.K H2 ι2 (D :: κ) (merge [] done.flatten) acc ∧ held pr.2 S1 S3 = true, ⟨n, by simp, Nat.zero_le _, ι1, S1, [], yss, [], by simpa using hc, rfl, Ext.fresh w1 hD, w1.hide hD, upd_same, by simp only [List.flatten_nil, merge, List.foldl_nil, RepK], held_refl _ _⟩, ?_⟩
      rintro i m H2 ⟨rfl, hin, ι2, S3, done, rest, acc, hr, hd, e2, w2, hacc, racc, hh⟩
      obtain ⟨igo, istop⟩ := iw (D :: κ) H2 ι2 S3 hDk e2 w2 hh i
      by_cases hlt : i < n
      · obtain ⟨go, yl⟩ := igo (by rw [hn]; exact hlt)
        refine .inr ⟨go, fun H' => ∃ m', m' = n - (i + 1) ∧ _, fun H' ⟨m', h1, h2⟩ => ⟨m', by omega, h1, by omega, h2⟩, fun x H3 hy => ?_⟩
        obtain ⟨e3, w3, d, hdx, rd⟩ := yl x H3 hy
        have hdrop : pr.1.drop i = d :: pr.1.drop (i + 1) := by
          obtain ⟨hlt', he⟩ := List.getElem?_eq_some_iff.mp hdx
          rw [List.drop_eq_getElem_cons hlt', he]
        rw [hdrop] at hr
        obtain ⟨o, S4, rest', hf, hr', hrest⟩ := compR_cons hr
        rw [← hF] at hf
        obtain ⟨ρ', c, S5, hb, hall, hheld, hcase⟩ := dc2_turn hf
        have hDn : D ∉ ι2 := w2.dj D List.mem_cons_self
        have enw : EnvR X.K H3 ι2 (D :: κ) (L2.wipe σ own) (wipe ρ own) := ((en1.mono e2 w1.mut hDk).up e3 w2).wipe own
        refine ⟨ι2, D :: κ, S3, wipe ρ own, d, ρ', w3, enw, rd, hb, fun σ' en' sm => ⟨((sm.mono hsl).wipe).trans (wipe_wipe _ _), ι2, D :: κ, S3, ρ', w3, en', ?_⟩⟩
        rw [hall]
        intro g H4 ι4 e4 w4 hg
        obtain rfl : c = g := hg
        have hD3 : H3 D = some (.dK acc) := e3.keep D _ hDn hacc
        have hD4 : H4 D = some (.dK acc) := e4.keep D _ hDn hD3
        have racc4 : RepK X.K H4 ι4 (D :: κ) (merge [] done.flatten) acc := RepK.mono (e3.trans e4) w2.mut (fun _ z => .inl z) racc
        rcases hcase with ⟨rfl, xs, S6, ys, hxs, hys, rfl⟩ | ⟨rfl, rfl, rfl⟩
        · rw [if_pos rfl]
          have hyss : yss = done ++ (ys :: rest') := by rw [← hd, hrest]
          refine ⟨ι4, D :: κ, S5, ρ', w4, en'.up e4 w3, ?_⟩
          rw [hxs]
          intro u H5 ι5 e5 w5 ru
          have ru : Rep X.K H5 ι5 (D :: κ) (.tup xs) u := ru
          have ru' := ru
          simp only [Rep] at ru'
          obtain ⟨a, vs, rfl, hsq, _⟩ := ru'
          have hD5 : H5 D = some (.dK acc) := e5.keep D _ (w4.dj D List.mem_cons_self) hD4
          have racc5 : RepK X.K H5 ι5 (D :: κ) (merge [] (done.flatten ++ [])) acc := by rw [List.append_nil]; exact RepK.mono e5 w4.mut (fun _ z => .inl z) racc4
          refine ⟨a, rfl, ⟨vs, hsq.1⟩, fun j k H6 => k = xs.length - j ∧ j ≤ xs.length ∧ ∃ ι6 S7 dn rs acc, compR (dcF (fun ρ S => evE Γ kx ρ S) (fun ρ S => evE Γ vx ρ S) (fun ρ S => evAll Γ cnd1 ρ S) tg1 own1 ρ' none) (xs.drop j) S7 = .ok rs S4 ∧ dn ++ rs = ys ∧ Ext H1 ι1 H6 ι6 ∧ Wd T X.K H6 ι6 (D :: κ) S7 ∧ H6 D = some (.dK acc) ∧
            RepK X.K H6 ι6 (D :: κ) (merge [] (done.flatten ++ dn)) acc ∧ EnvR X.K H6 ι6 (D :: κ) σ' ρ' ∧ Rep X.K H6 ι6 (D :: κ) (.tup xs) (.ref a), ⟨xs.length, by simp, Nat.zero_le _, ι5, S6, [], ys, acc, by simpa using hys, rfl, ((e2.trans e3).trans e4).trans e5, w5, hD5, racc5, (en'.up e4 w3).up e5 w4, ru⟩, ?_⟩
          rintro j k' H6 ⟨rfl, hjn, ι6, S7, dn, rs, acc6, hrs, hdn, e6, w6, hD6, racc6, en6, ru6⟩
          have ru7 := ru6
          simp only [Rep] at ru7
          obtain ⟨a', vs6, hae, hsq6, rl6⟩ := ru7
          cases hae
          have hl6 := RepL.length rl6
          by_cases hjl : j < xs.length
          · refine .inr ⟨⟨vs6, vs6[j]'(by rw [← hl6]; exact hjl), hsq6.1, by simp⟩, fun H' => ∃ k', k' = xs.length - (j + 1) ∧ _, fun H' ⟨k', h1, h2⟩ => ⟨k', by omega, h1, by omega, h2⟩, fun x7 H7 ⟨eH, yx⟩ => ?_⟩
            subst eH
            have hxj : xs[j]? = some xs[j] := List.getElem?_eq_getElem hjl
            obtain ⟨u7, hu7, rd7⟩ := RepL.get rl6 hxj
            have hx7 : x7 = u7 := Option.some.inj ((yx vs6 hsq6.1).symm.trans hu7)
            subst hx7
            rw [List.drop_eq_getElem_cons hjl] at hrs
            obtain ⟨o7, S8, rs', hf7, hrs', hrs2⟩ := compR_cons hrs
            obtain ⟨ρ7, c7, S9, hb7, hall7, _, hcase7⟩ := dc_turn hf7
            refine ⟨ι6, D :: κ, S7, wipe ρ' own1, xs[j], ρ7, w6, en6.wipe own1, rd7, hb7, fun σ7 en7 sm7 => ⟨((sm7.mono hsl1).wipe).trans (wipe_wipe _ _), ι6, D :: κ, S7, ρ7, w6, en7, ?_⟩⟩
            rw [hall7]
            intro g8 H8 ι8 e8 w8 hg8
            obtain rfl : c7 = g8 := hg8
            have hD8 : H8 D = some (.dK acc6) := e8.keep D _ (w6.dj D List.mem_cons_self) hD6
            rcases hcase7 with ⟨rfl, y, z, kk, S10, hy, hz, hk, rfl⟩ | ⟨rfl, rfl, rfl⟩
            · rw [if_pos rfl]
              refine ⟨ι8, D :: κ, S9, ρ7, w8, en7.up e8 w6, ?_⟩
              rw [hy]
              intro u9 H9 ι9 e9 w9 ru9
              have ru9 : Rep X.K H9 ι9 (D :: κ) y u9 := ru9
              refine ⟨ι9, D :: κ, S10, ρ7, w9, (en7.up e8 w6).up e9 w8, ?_⟩
              rw [hz]
              intro v10 H10 ι10 e10 w10 rv10
              have rv10 : Rep X.K H10 ι10 (D :: κ) z v10 := rv10
              have hD9 : H9 D = some (.dK acc6) := e9.keep D _ (w8.dj D List.mem_cons_self) hD8
              have hD10 : H10 D = some (.dK acc6) := e10.keep D _ (w9.dj D List.mem_cons_self) hD9
              obtain ⟨hkv, hko⟩ := ky_rep ru9 hk
              have e610 := (e8.trans e9).trans e10
              have r10 : RepK X.K H10 ι10 (D :: κ) (merge [] (done.flatten ++ dn)) acc6 := RepK.mono e610 w6.mut (fun _ z => .inl z) racc6
              have r11 := RepK.put r10 rv10 hko
              have hys2 : dn ++ [(kk, z)] ++ rs' = ys := by rw [← hdn, hrs2]; simp
              refine ⟨acc6, kk, hkv, hD10, ?_, xs.length - (j + 1), rfl, ι10, S8, dn ++ [(kk, z)], rs', putK acc6 kk v10, hrs', hys2, Ext.over (e6.trans e610) hD, w10.over List.mem_cons_self hD10 True.intro, upd_same, ?_, (en6.up e610 w6).over List.mem_cons_self hD10 True.intro, Rep.over List.mem_cons_self hD10 True.intro (ru6.up e610 w6)⟩
              · have h1 := (RepK.keys racc6).2
                have h2 : yss.flatten.length = done.flatten.length + (dn.length + 1 + rs'.length + rest'.flatten.length) := by
                  rw [hyss, ← hys2]
                  simp only [List.flatten_append, List.flatten_cons, List.length_append, List.length_cons, List.length_nil]
                have h4 := merge_len (done.flatten ++ dn) []
                rw [List.length_append, List.length_nil, Nat.zero_add] at h4
                have h3 := LIM_line (n := yss.flatten.length) hlen
                omega
              · rw [← List.append_assoc, merge_snoc]
                exact RepK.over List.mem_cons_self hD10 True.intro r11
            · rw [if_neg Bool.false_ne_true]
              exact ⟨xs.length - (j + 1), rfl, ι8, S9, dn, rs', acc6, hrs', by rw [← hdn, hrs2], e6.trans e8, w8, hD8, RepK.mono e8 w6.mut (fun _ z => .inl z) racc6, en6.up e8 w6, ru6.up e8 w6⟩
          · have hj' : j = xs.length := by omega
            subst hj'
            rw [List.drop_length] at hrs
            simp only [compR, R.ok.injEq] at hrs
            obtain ⟨rfl, rfl⟩ := hrs
            rw [List.append_nil] at hdn
            subst hdn
            refine .inl ⟨⟨vs6, hsq6.1, by rw [← hl6]; exact Nat.le_refl _⟩, n - (i + 1), rfl, ι6, S7, done ++ [dn], rest', acc6, hr', by rw [hyss]; simp, e6, w6, hD6, ?_, held_trans hh hheld⟩
            rw [List.flatten_append]
            simpa only [List.flatten_cons, List.flatten_nil, List.append_nil] using racc6
        · rw [if_neg Bool.false_ne_true]
          exact ⟨n - (i + 1), rfl, ι4, S5, done, rest', acc, hr', by rw [← hd, hrest], (e2.trans e3).trans e4, w4, hD4, racc4, held_trans hh hheld⟩
      · have hi' : i = n := by omega
        subst hi'
        rw [List.drop_of_length_le (by omega)] at hr
        simp only [compR, R.ok.injEq] at hr
        obtain ⟨rfl, rfl⟩ := hr
        rw [List.append_nil] at hd
        subst hd
        exact .inl ⟨istop hn.symm, p D H2 ι2 (Ext.none e1 w1.mut hD) (e1.trans e2) w2 ⟨acc, hacc, racc⟩⟩
theorem dc2_ok (g : Gd T N Γ k X W sc) {kx vx it it1 : Ex} {kx' vx' : Expr} {tg tg1 : Tg} {own own1 : List Nat} {scope : Scope} (hi : PI X tg' it' (tI T X.K W Γ it)) (hf : plainE it' = true) (hf1 : plainE it1' = true) (htg : mtT N scope tg tg' = true) (htg1 : mtT N scope tg1 tg1' = true)
    (hb : blkC N sc scope (ownOf N own) = true) (hown : (own.all fun i => decide (i < N.length)) = true) (hus : ∀ i ∈ own1, i ∈ own) (hcl : cnd.length ≤ 1) (hts : ifs'.all tst = true) (hcl1 : cnd1.length ≤ 1) (hts1 : ifs1'.all tst = true)
    (hc : ∀ X' W', Gd T N Γ k X' W' (relS scope sc) → X'.K = X.K → SndL T X' W' Γ cnd ifs') (hc1 : ∀ X' W', Gd T N Γ k X' W' (relS scope sc) → X'.K = X.K → SndL T X' W' Γ cnd1 ifs1') (h1 : ∀ X' W', Gd T N Γ k X' W' (relS scope sc) → X'.K = X.K → Snd T X' W' Γ it1 it1')
    (hk : ∀ X' W', Gd T N Γ k X' W' (relS scope sc) → X'.K = X.K → Snd T X' W' Γ kx kx') (he : ∀ X' W', Gd T N Γ k X' W' (relS scope sc) → X'.K = X.K → Snd T X' W' Γ vx vx') :
    Dc2Ok X kx' vx' tg' it' tg1' it1' ifs' ifs1' scope (ownOf N own) own1 (tI T X.K W Γ it) (tG T X.K tg) (tTs T X.K NoW Γ cnd) (iTup X.K (tE T X.K NoW Γ it1)) (tG T X.K tg1) (tTs T X.K NoW Γ cnd1) (tE T X.K NoW Γ kx) (tE T X.K NoW Γ vx) where
  calm := g.calm
  nd := by rw [g.hN]; exact g.nd
  it := hi
  blk := by rw [g.hN, g.sc]; exact blkOk_by hb
  us := fun i hi => by rw [own_of hown]; exact hus i hi
  pg0 := fun s H C cl fp => g_tg (X := X.blk s H scope (compEnvC scope cl C X.env) fp) (sc := scope) g.hN g.nd g.calm (fun x h => blk_loc x h) tg tg' htg
  pt0 := fun s H C cl fp => pts_of (hc _ _ g.blk rfl) hcl hts
  pi1 := fun s H C cl fp => pi_tup (h1 _ _ g.blk rfl).pe
  pg1 := fun s H C cl fp => g_tg (X := X.blk s H scope (compEnvC scope cl C X.env) fp) (sc := scope) g.hN g.nd g.calm (fun x h => blk_loc x h) tg1 tg1' htg1
  pt1 := fun s H C cl fp => pts_of (hc1 _ _ g.blk rfl) hcl1 hts1
  pk := fun s H C cl fp => (hk _ _ g.blk rfl).pe
  pv := fun s H C cl fp => (he _ _ g.blk rfl).pe
  fs0 := folded_plain hf
  fs1 := fun en => folded_plain hf1
theorem s_dc2 {kx vx it it1 : Ex} {kx' vx' : Expr} {tg tg1 : Tg} {own own1 : List Nat} {scope : Scope} (hown : (own.all fun i => decide (i < N.length)) = true) (hsl : ∀ i ∈ slotsT tg, i ∈ own) (hsl1 : ∀ i ∈ slotsT tg1, i ∈ own1)
    (o : Dc2Ok X kx' vx' tg' it' tg1' it1' ifs' ifs1' scope (ownOf N own) own1 (tI T X.K W Γ it) (tG T X.K tg) (tTs T X.K NoW Γ cnd) (iTup X.K (tE T X.K NoW Γ it1)) (tG T X.K tg1) (tTs T X.K NoW Γ cnd1) (tE T X.K NoW Γ kx) (tE T X.K NoW Γ vx)) :
    Snd T X W Γ (.dc2 kx vx tg it cnd tg1 it1 cnd1 own own1) (.DictComp kx' vx' [⟨tg', it', ifs', 0⟩, ⟨tg1', it1', ifs1', 0⟩] scope pos) :=
  .ofN rfl rfl (PE.wk (pe_dc2 o) fun σ H Q h => by rw [own_of hown]; exact i_dc2 hsl hsl1 h)
theorem pln_plain {e : Expr} (h : plnE e = true) : plainE e = true := by
  cases e <;> first | rfl | (simp [plnE] at h)
end
end MP
end

section
set_option Elab.async false
set_option linter.all false
set_option maxRecDepth 100000
/-! MpQ: every matched expression is sound. -/
namespace MP
open PySem PySem.Spec PyProof.Rows L2
section
variable {T : Tab} {N : List Str} {Γ : Ctx} {k : Nat}
theorem tupE_of {e : Expr} (h : tupE e = true) : ∃ es m p, e = .Tuple es m p := by
  cases e <;> first | exact ⟨_, _, _, rfl⟩ | (simp [tupE] at h)
theorem Ty.nm_inj {t : Ty} {y : Str} (h : y = t.nm) : y = t.nm := h
theorem fresh_flat {x : Ex} {sc : Scope} {e : Expr} (hf : fresh x = true) (h : mtE T N x sc e = true) : flatE e = true := by
  cases x <;> first
    | (simp [fresh] at hf; done)
    | (simp only [mtE] at h; first | (cases h; done) | (split at h <;> first | rfl | cases h))
mutual
theorem sE : ∀ (x : Ex) (X : Cx) (W : WX) (sc : Scope) (e : Expr), Gd T N Γ k X W sc → mtE T N x sc e = true → Snd T X W Γ x e
  | .var i, X, W, sc, e, g, h => by
    cases e with
    | Name n p =>
      simp only [mtE, Bool.and_eq_true, decide_eq_true_eq] at h
      exact s_var g h.1.1 h.1.2 h.2
    | _ => simp [mtE] at h
  | .con d, X, W, sc, e, g, h => s_con (by simpa only [mtE] using h)
  | .glo n d, X, W, sc, e, g, h => by
    cases e with
    | Name y p =>
      simp only [mtE, Bool.and_eq_true, decide_eq_true_eq] at h
      obtain ⟨⟨⟨rfl, h2⟩, h3⟩, h4⟩ := h
      exact s_glo g h2 h3 h4
    | _ => simp [mtE] at h
  | .tup xs, X, W, sc, e, g, h => by
    cases e with
    | Tuple es m p => simp only [mtE] at h; exact s_tup (sL xs X W sc es g h)
    | _ => simp [mtE] at h
  | .lst xs, X, W, sc, e, g, h => by
    cases e with
    | List es p => simp only [mtE] at h; exact s_lst (sL xs X W sc es g h)
    | _ => simp [mtE] at h
  | .dk, X, W, sc, e, g, h => by
    simp only [mtE] at h
    split at h
    · exact s_dk
    · cases h
  | .dt, X, W, sc, e, g, h => by
    simp only [mtE] at h
    split at h
    · exact s_dt
    · cases h
  | .dsp xs, X, W, sc, e, g, h => by
    cases e with
    | Dict ks vs p =>
      simp only [mtE] at h
      split at h
      · rename_i els hin
        simp only [Bool.and_eq_true, decide_eq_true_eq, Bool.not_eq_true'] at h
        exact s_dsp (sL xs X W sc els g h.1.1) hin h.1.2 (by intro z; rw [z] at h; cases h.2)
      · cases h
    | _ => simp [mtE] at h
  | .mut x, X, W, sc, e, g, h => by
    simp only [mtE, Bool.and_eq_true] at h
    exact s_mut (fresh_flat h.1 h.2) (sE x X W sc e g h.2) h.1
  | .op o x y, X, W, sc, e, g, h => by
    cases e with
    | BinOp a o' b p =>
      simp only [mtE, Bool.and_eq_true, decide_eq_true_eq] at h
      obtain ⟨⟨rfl, h2⟩, h3⟩ := h
      exact s_op (sE x X W sc a g h2) (sE y X W sc b g h3)
    | _ => simp [mtE] at h
  | .neg x, X, W, sc, e, g, h => by
    simp only [mtE] at h
    split at h
    · exact s_neg (sE x X W sc _ g h)
    · cases h
  | .cmp o x y, X, W, sc, e, g, h => by
    simp only [mtE] at h
    split at h
    · simp only [Bool.and_eq_true, decide_eq_true_eq] at h
      obtain ⟨⟨rfl, h2⟩, h3⟩ := h
      exact s_cmp g (sE x X W sc _ g h2) (sE y X W sc _ g h3)
    · cases h
  | .chn o o' x y z, X, W, sc, e, g, h => by
    simp only [mtE] at h
    split at h
    · simp only [Bool.and_eq_true, decide_eq_true_eq] at h
      obtain ⟨⟨⟨⟨rfl, rfl⟩, h2⟩, h3⟩, h4⟩ := h
      exact s_chn g (sE x X W sc _ g h2) (sE y X W sc _ g h3) (sE z X W sc _ g h4)
    · cases h
  | .and xs, X, W, sc, e, g, h => by
    simp only [mtE] at h
    split at h
    · simp only [Bool.and_eq_true, decide_eq_true_eq] at h
      exact s_and (sL xs X W sc _ g h.1.1) (by intro z; rw [z] at h; simp at h) h.1.2
    · cases h
  | .or xs, X, W, sc, e, g, h => by
    simp only [mtE] at h
    split at h
    · simp only [Bool.and_eq_true, decide_eq_true_eq] at h
      exact s_or (sL xs X W sc _ g h.1.1) (by intro z; rw [z] at h; simp at h) h.1.2
    · cases h
  | .not x, X, W, sc, e, g, h => by
    simp only [mtE] at h
    split at h
    · simp only [Bool.and_eq_true] at h
      exact s_not (sE x X W sc _ g h.1) h.2
    · cases h
  | .ite x y z, X, W, sc, e, g, h => by
    cases e with
    | IfExp c a b p =>
      simp only [mtE, Bool.and_eq_true] at h
      exact s_ite (sE x X W sc _ g h.1.1.1) h.1.1.2 (sE y X W sc _ g h.1.2) (sE z X W sc _ g h.2)
    | _ => simp [mtE] at h
  | .ix x y, X, W, sc, e, g, h => by
    cases e with
    | Subscript a b p =>
      simp only [mtE, Bool.and_eq_true] at h
      exact s_ix g (sE x X W sc _ g h.1) (sE y X W sc _ g h.2)
    | _ => simp [mtE] at h
  | .sl x, X, W, sc, e, g, h => by
    simp only [mtE] at h
    split at h
    · exact s_sl (sE x X W sc _ g h)
    · cases h
  | .slL x y, X, W, sc, e, g, h => by
    simp only [mtE] at h
    split at h
    · simp only [Bool.and_eq_true] at h
      exact s_slL (sE x X W sc _ g h.1) (sE y X W sc _ g h.2)
    · cases h
  | .slH x y, X, W, sc, e, g, h => by
    simp only [mtE] at h
    split at h
    · simp only [Bool.and_eq_true] at h
      exact s_slH (sE x X W sc _ g h.1) (sE y X W sc _ g h.2)
    · cases h
  | .slB x y z, X, W, sc, e, g, h => by
    simp only [mtE] at h
    split at h
    · simp only [Bool.and_eq_true] at h
      exact s_slB (sE x X W sc _ g h.1.1) (sE y X W sc _ g h.1.2) (sE z X W sc _ g h.2)
    · cases h
  | .rev x, X, W, sc, e, g, h => by
    simp only [mtE] at h
    split at h
    · exact s_rev (sE x X W sc _ g h)
    · cases h
  | .call f xs, X, W, sc, e, g, h => by
    simp only [mtE] at h
    split at h
    · simp only [Bool.and_eq_true, decide_eq_true_eq] at h
      exact s_call g h.1.1.1 h.1.1.2 h.1.2 (sL xs X W sc _ g h.2)
    · cases h
  | .make C xs, X, W, sc, e, g, h => by
    simp only [mtE] at h
    split at h
    · simp only [Bool.and_eq_true] at h
      obtain ⟨⟨⟨h1, h2⟩, h3⟩, h4⟩ := h
      split at h1
      · rename_i cl hcl
        simp only [Bool.and_eq_true, decide_eq_true_eq] at h1
        exact s_make g hcl h1.1 h1.2 h2 h3 (sL xs X W sc _ g h4)
      · cases h1
    · cases h
  | .meth o m xs, X, W, sc, e, g, h => by
    simp only [mtE] at h
    split at h
    · simp only [Bool.and_eq_true, decide_eq_true_eq, Bool.not_eq_true'] at h
      obtain ⟨⟨⟨⟨⟨rfl, h1⟩, h2⟩, h3⟩, h4⟩, h5⟩ := h
      exact s_meth g (sE o X W sc _ g h4) (sL xs X W sc _ g h5) h3 h1 h2
    · cases h
  | .bi q xs, X, W, sc, e, g, h => by
    simp only [mtE] at h
    split at h
    · simp only [Bool.and_eq_true, decide_eq_true_eq] at h
      obtain ⟨⟨⟨rfl, h2⟩, h3⟩, h4⟩ := h
      have hl := sL xs X W sc _ g h3
      cases hl with
      | nil => simp at h4
      | cons a t => exact s_bi g h2 (.cons a t)
    · cases h
  | .isi x t, X, W, sc, e, g, h => by
    simp only [mtE] at h
    split at h
    · simp only [Bool.and_eq_true, decide_eq_true_eq] at h
      obtain ⟨⟨⟨⟨rfl, rfl⟩, h3⟩, h4⟩, h5⟩ := h
      exact s_isi g h3 h4 (sE x X W sc _ g h5)
    · cases h
  | .get1 o y, X, W, sc, e, g, h => by
    simp only [mtE] at h
    split at h
    · simp only [Bool.and_eq_true, decide_eq_true_eq, Bool.not_eq_true'] at h
      obtain ⟨⟨⟨⟨rfl, h1⟩, h2⟩, h3⟩, h4⟩ := h
      exact s_get1 g (sE o X W sc _ g h3) (sE y X W sc _ g h4) h2 h1
    · cases h
  | .get2 o y z, X, W, sc, e, g, h => by
    simp only [mtE] at h
    split at h
    · simp only [Bool.and_eq_true, decide_eq_true_eq, Bool.not_eq_true'] at h
      obtain ⟨⟨⟨⟨⟨rfl, h1⟩, h2⟩, h3⟩, h4⟩, h5⟩ := h
      exact s_get2 g (sE o X W sc _ g h3) (sE y X W sc _ g h4) (sE z X W sc _ g h5) h2 h1
    · cases h
  | .app o y, X, W, sc, e, g, h => by
    simp only [mtE] at h
    split at h
    · simp only [Bool.and_eq_true, decide_eq_true_eq, Bool.not_eq_true'] at h
      obtain ⟨⟨⟨⟨rfl, h1⟩, h2⟩, h3⟩, h4⟩ := h
      exact s_app (sE o X W sc _ g h3) (sE y X W sc _ g h4) h2 h1
    · cases h
  | .ext o y, X, W, sc, e, g, h => by
    simp only [mtE] at h
    split at h
    · simp only [Bool.and_eq_true, decide_eq_true_eq, Bool.not_eq_true'] at h
      obtain ⟨⟨⟨⟨rfl, h1⟩, h2⟩, h3⟩, h4⟩ := h
      exact s_ext (sE o X W sc _ g h3) (sE y X W sc _ g h4) h2 h1
    · cases h
  | .pop o, X, W, sc, e, g, h => by
    simp only [mtE] at h
    split at h
    · simp only [Bool.and_eq_true, decide_eq_true_eq, Bool.not_eq_true'] at h
      obtain ⟨⟨⟨rfl, h1⟩, h2⟩, h3⟩ := h
      exact s_pop (sE o X W sc _ g h3) h2 h1
    · cases h
  | .fld x f, X, W, sc, e, g, h => by
    simp only [mtE] at h
    split at h
    · simp only [Bool.and_eq_true, decide_eq_true_eq, Bool.not_eq_true'] at h
      obtain ⟨⟨⟨rfl, h1⟩, h2⟩, h3⟩ := h
      exact s_fld g h1 (sE x X W sc _ g h3) h2
    · cases h
  | .lc elt tg it cnd own, X, W, sc, e, g, h => by
    simp only [mtE] at h
    split at h
    · simp only [Bool.and_eq_true, decide_eq_true_eq] at h
      obtain ⟨⟨⟨⟨⟨⟨⟨⟨h1, h2⟩, h3⟩, h4⟩, h5⟩, h6⟩, h7⟩, h8⟩, h9⟩ := h
      obtain ⟨hi, hp⟩ := sI it X W sc _ _ g h1
      exact s_lc g hi hp h2 (by simpa using h8) h9 h7 h5 h4 (fun X' W' g' _ => sL cnd X' W' _ _ g' h3) (fun X' W' g' _ => sE elt X' W' _ _ g' h6)
    · cases h
  | .lc2 _ _ _ _ _ _ _, X, W, sc, e, g, h => by simp [mtE] at h
  | .dc kx vx tg it cnd own, X, W, sc, e, g, h => by
    simp only [mtE] at h
    split at h
    · simp only [Bool.and_eq_true, decide_eq_true_eq] at h
      obtain ⟨⟨⟨⟨⟨⟨⟨⟨⟨h1, h2⟩, h3⟩, h4⟩, h5⟩, h6⟩, h6'⟩, h7⟩, h8⟩, h9⟩ := h
      obtain ⟨hi, hp⟩ := sI it X W sc _ _ g h1
      exact s_dc g hi hp h2 (by simpa using h8) h9 h7 h5 h4 (fun X' W' g' _ => sL cnd X' W' _ _ g' h3) (fun X' W' g' _ => sE kx X' W' _ _ g' h6) (fun X' W' g' _ => sE vx X' W' _ _ g' h6')
    · cases h
  | .dc2 kx vx tg it cnd tg1 it1 cnd1 own own1, X, W, sc, e, g, h => by
    simp only [mtE] at h
    split at h
    · simp only [Bool.and_eq_true, decide_eq_true_eq] at h
      obtain ⟨⟨⟨⟨⟨⟨⟨⟨⟨⟨⟨⟨⟨⟨⟨⟨⟨h1, h2⟩, h3⟩, h4⟩, h5⟩, h6⟩, h7⟩, h8⟩, h9⟩, h10⟩, h11⟩, h12⟩, h13⟩, h14⟩, h15⟩, h16⟩, h17⟩, h18⟩ := h
      obtain ⟨hi, hp⟩ := sI it X W sc _ _ g h1
      exact s_dc2 h18 (by simpa using h15) (by simpa using h16) (dc2_ok g hi hp (pln_plain h7) h2 h8 h14 h18 (by simpa using h17) h5 h4 h11 h10 (fun X' W' g' _ => sL cnd X' W' _ _ g' h3) (fun X' W' g' _ => sL cnd1 X' W' _ _ g' h9) (fun X' W' g' _ => sE it1 X' W' _ _ g' h6) (fun X' W' g' _ => sE kx X' W' _ _ g' h12) (fun X' W' g' _ => sE vx X' W' _ _ g' h13))
    · cases h
  | .lse x, X, W, sc, e, g, h => by
    simp only [mtE] at h
    split at h
    · simp only [Bool.and_eq_true, decide_eq_true_eq] at h
      obtain ⟨⟨⟨⟨rfl, rfl⟩, h3⟩, h4⟩, h5⟩ := h
      exact s_lse g h3 h4 (sE x X W sc _ g h5)
    · cases h
  | .itv _, X, W, sc, e, g, h | .rg1 _, X, W, sc, e, g, h | .rg2 _ _, X, W, sc, e, g, h | .rg3 _ _ _, X, W, sc, e, g, h | .enm _, X, W, sc, e, g, h | .zp _ _, X, W, sc, e, g, h | .itm _, X, W, sc, e, g, h | .vls _, X, W, sc, e, g, h | .rvd _, X, W, sc, e, g, h => by
    simp [mtE] at h
theorem sL : ∀ (xs : List Ex) (X : Cx) (W : WX) (sc : Scope) (es : List Expr), Gd T N Γ k X W sc → mtL T N xs sc es = true → SndL T X W Γ xs es
  | [], X, W, sc, [], g, h => .nil
  | [], X, W, sc, _ :: _, g, h => by simp [mtL] at h
  | x :: xs, X, W, sc, [], g, h => by simp [mtL] at h
  | x :: xs, X, W, sc, e :: es, g, h => by
    simp only [mtL, Bool.and_eq_true] at h
    exact .cons (sE x X W sc e g h.1) (sL xs X W sc es g h.2)
theorem sI : ∀ (x : Ex) (X : Cx) (W : WX) (sc : Scope) (e tg : Expr), Gd T N Γ k X W sc → mtI T N x sc e (tupE tg) = true → PI X tg e (tI T X.K W Γ x) ∧ plainE e = true
  | .itv x, X, W, sc, e, tg, g, h => by
    simp only [mtI] at h
    have := sE x X W sc e g h
    exact ⟨i_itv this, this.pl⟩
  | .rg1 x, X, W, sc, e, tg, g, h => by
    simp only [mtI] at h
    split at h
    · simp only [Bool.and_eq_true, decide_eq_true_eq] at h
      obtain ⟨⟨rfl, h1⟩, h2⟩ := h
      exact ⟨i_rg1 g h1 (sE x X W sc _ g h2), rfl⟩
    · cases h
  | .rg2 x y, X, W, sc, e, tg, g, h => by
    simp only [mtI] at h
    split at h
    · simp only [Bool.and_eq_true, decide_eq_true_eq] at h
      obtain ⟨⟨⟨rfl, h1⟩, h2⟩, h3⟩ := h
      exact ⟨i_rg2 g h1 (sE x X W sc _ g h2) (sE y X W sc _ g h3), rfl⟩
    · cases h
  | .rg3 x y z, X, W, sc, e, tg, g, h => by
    simp only [mtI] at h
    split at h
    · simp only [Bool.and_eq_true, decide_eq_true_eq] at h
      obtain ⟨⟨⟨⟨rfl, h1⟩, h2⟩, h3⟩, h4⟩ := h
      exact ⟨i_rg3 g h1 (sE x X W sc _ g h2) (sE y X W sc _ g h3) (sE z X W sc _ g h4), rfl⟩
    · cases h
  | .enm x, X, W, sc, e, tg, g, h => by
    simp only [mtI] at h
    split at h
    · simp only [Bool.and_eq_true, decide_eq_true_eq] at h
      obtain ⟨⟨⟨rfl, h1⟩, h2⟩, h3⟩ := h
      obtain ⟨tes, m, tp, rfl⟩ := tupE_of h3
      exact ⟨i_enm g h1 (sE x X W sc _ g h2), rfl⟩
    · cases h
  | .zp x y, X, W, sc, e, tg, g, h => by
    simp only [mtI] at h
    split at h
    · simp only [Bool.and_eq_true, decide_eq_true_eq] at h
      obtain ⟨⟨⟨⟨rfl, h1⟩, h2⟩, h4⟩, h3⟩ := h
      obtain ⟨tes, m, tp, rfl⟩ := tupE_of h3
      exact ⟨i_zp g h1 (sE x X W sc _ g h2) (sE y X W sc _ g h4), rfl⟩
    · cases h
  | .itm x, X, W, sc, e, tg, g, h => by
    simp only [mtI] at h
    split at h
    · simp only [Bool.and_eq_true, decide_eq_true_eq, Bool.not_eq_true'] at h
      obtain ⟨⟨⟨⟨rfl, h1⟩, h2⟩, h4⟩, h3⟩ := h
      obtain ⟨tes, m, tp, rfl⟩ := tupE_of h3
      exact ⟨i_itm (sE x X W sc _ g h4) h2 h1, rfl⟩
    · cases h
  | .vls x, X, W, sc, e, tg, g, h => by
    simp only [mtI] at h
    split at h
    · simp only [Bool.and_eq_true, decide_eq_true_eq, Bool.not_eq_true'] at h
      obtain ⟨⟨⟨rfl, h1⟩, h2⟩, h4⟩ := h
      exact ⟨i_vls (sE x X W sc _ g h4) h2 h1, rfl⟩
    · cases h
  | .rvd x, X, W, sc, e, tg, g, h => by
    simp only [mtI] at h
    split at h
    · simp only [Bool.and_eq_true, decide_eq_true_eq] at h
      obtain ⟨⟨rfl, h1⟩, h2⟩ := h
      exact ⟨i_rvd g h1 (sE x X W sc _ g h2), rfl⟩
    · cases h
  | .var _, X, W, sc, e, tg, g, h | .con _, X, W, sc, e, tg, g, h | .glo _ _, X, W, sc, e, tg, g, h | .tup _, X, W, sc, e, tg, g, h | .lst _, X, W, sc, e, tg, g, h | .dk, X, W, sc, e, tg, g, h | .dt, X, W, sc, e, tg, g, h | .dsp _, X, W, sc, e, tg, g, h | .mut _, X, W, sc, e, tg, g, h
  | .op _ _ _, X, W, sc, e, tg, g, h | .neg _, X, W, sc, e, tg, g, h | .cmp _ _ _, X, W, sc, e, tg, g, h | .chn _ _ _ _ _, X, W, sc, e, tg, g, h | .and _, X, W, sc, e, tg, g, h | .or _, X, W, sc, e, tg, g, h | .not _, X, W, sc, e, tg, g, h | .ite _ _ _, X, W, sc, e, tg, g, h
  | .ix _ _, X, W, sc, e, tg, g, h | .sl _, X, W, sc, e, tg, g, h | .slL _ _, X, W, sc, e, tg, g, h | .slH _ _, X, W, sc, e, tg, g, h | .slB _ _ _, X, W, sc, e, tg, g, h | .rev _, X, W, sc, e, tg, g, h | .call _ _, X, W, sc, e, tg, g, h | .make _ _, X, W, sc, e, tg, g, h
  | .meth _ _ _, X, W, sc, e, tg, g, h | .bi _ _, X, W, sc, e, tg, g, h | .isi _ _, X, W, sc, e, tg, g, h | .get1 _ _, X, W, sc, e, tg, g, h | .get2 _ _ _, X, W, sc, e, tg, g, h | .app _ _, X, W, sc, e, tg, g, h | .ext _ _, X, W, sc, e, tg, g, h | .pop _, X, W, sc, e, tg, g, h | .fld _ _, X, W, sc, e, tg, g, h
  | .lc _ _ _ _ _, X, W, sc, e, tg, g, h | .lc2 _ _ _ _ _ _ _, X, W, sc, e, tg, g, h | .dc _ _ _ _ _ _, X, W, sc, e, tg, g, h | .dc2 _ _ _ _ _ _ _ _ _ _, X, W, sc, e, tg, g, h | .lse _, X, W, sc, e, tg, g, h => by simp [mtI] at h
end
end
end MP
end

section
set_option Elab.async false
set_option linter.all false
set_option maxRecDepth 100000
/-! MpR: statements, the simple ones. -/
namespace MP
open PySem PySem.Spec PyProof.Rows L2
structure GdS (T : Tab) (N : List Str) (Γ : Ctx) (k : Nat) (X : Cx) (W : WX) (sc : Scope) : Prop extends Gd T N Γ k X W sc where
  stk : X.stack = X.env :: X.outer
  frm : X.env.frame = some X.env.locals
  own : PassesOwn (model X.prog X.w) X.A X.env X.xe
  fn : ∀ x, X.env.scope.names.lookup x = some .cell → X.fn x = true
  kind : X.env.scope.kind = .function
  one : 1 ≤ k
theorem GdS.tr {T : Tab} {N : List Str} {Γ : Ctx} {k : Nat} {X : Cx} {W W' : WX} {sc : Scope} (g : GdS T N Γ k X W sc) {pn : List (Addr × Obj)} {xe : Value → Shared → Prop} (tk : Takes (X.tr pn xe) W') (ow : PassesOwn (model X.prog X.w) X.A X.env xe) : GdS T N Γ k (X.tr pn xe) W' sc where
  sc := g.sc
  hN := g.hN
  nd := g.nd
  calm := g.calm
  room := g.room
  tk := tk
  glo := g.glo
  stk := g.stk
  frm := g.frm
  own := ow
  fn := g.fn
  kind := g.kind
  one := g.one
def PostS (T : Tab) (K : PySem.W.Frag) (κ : List Addr) (W : WX) (D : Ends) (H : Hp) (ι : List Addr) (r : RS) : Prop := match r with
  | .ok (.nx ρ) S => ∀ σ H' ι', Ext H ι H' ι' → Wd T K H' ι' κ S → EnvR K H' ι' κ σ ρ → D.nx σ H'
  | .ok (.brk ρ) S => ∀ σ H' ι', Ext H ι H' ι' → Wd T K H' ι' κ S → EnvR K H' ι' κ σ ρ → D.bk σ H'
  | .ok (.cnt ρ) S => ∀ σ H' ι', Ext H ι H' ι' → Wd T K H' ι' κ S → EnvR K H' ι' κ σ ρ → D.ct σ H'
  | .ok (.ret d) S => ∀ v H' ι', Ext H ι H' ι' → Wd T K H' ι' κ S → Rep K H' ι' κ d v → D.rt v H'
  | .exc C fs ρ S => ∀ cls dx σ H' ι', Ext H ι H' ι' → Wd T K H' ι' κ S → EnvR K H' ι' κ σ ρ → ExR T K H' ι' κ C fs cls dx → W cls dx σ H'
  | .no => False
def tS (T : Tab) (K : PySem.W.Frag) (W : WX) (Γ : Ctx) (s : Sm) : TS := fun D σ H => ∃ ι κ S ρ, Wd T K H ι κ S ∧ EnvR K H ι κ σ ρ ∧ PostS T K κ W D H ι (evS Γ s ρ S)
def tSs (T : Tab) (K : PySem.W.Frag) (W : WX) (Γ : Ctx) (s : List Sm) : TS := fun D σ H => ∃ ι κ S ρ, Wd T K H ι κ S ∧ EnvR K H ι κ σ ρ ∧ PostS T K κ W D H ι (evSs Γ s ρ S)
theorem PS.wk {X : Cx} {e : Stmt} {t t' : TS} (h : PS X e t) (i : ∀ D σ H, t' D σ H → t D σ H) : PS X e t' := ⟨fun pins s σ H D I q => h.run pins s σ H D I (i D σ H q)⟩
theorem PSs.wk {X : Cx} {e : List Stmt} {t t' : TS} (h : PSs X e t) (i : ∀ D σ H, t' D σ H → t D σ H) : PSs X e t' := ⟨fun pins s σ H D I q => h.run pins s σ H D I (i D σ H q)⟩
section
variable {T : Tab} {K : PySem.W.Frag} {W : WX} {Γ : Ctx} {D : Ends} {H H1 : Hp} {ι ι1 κ : List Addr} {σ : L2.St} {ρ : Env} {S : Sto}
theorem PostS.trans {r : RS} (h : PostS T K κ W D H ι r) (e : Ext H ι H1 ι1) : PostS T K κ W D H1 ι1 r := by
  cases r with
  | ok f S => cases f <;> exact fun a H' ι' e' w q => h a H' ι' (e.trans e') w q
  | exc C fs ρ S => exact fun c d σ H' ι' e' w q => h c d σ H' ι' (e.trans e') w q
  | no => exact h
theorem PostS.go {α γ : Type} {rel : Hp → List Addr → α → γ → Prop} {r : R α} {k : α → Sto → RS} {Q1 : γ → Hp → Prop} (h : PostS T K κ W D H ι (r.go ρ k)) (en : EnvR K H ι κ σ ρ) (m : ∀ a ∈ ι, Mut (H a))
    (f : ∀ a S1 g H1 ι1, r = .ok a S1 → Ext H ι H1 ι1 → Wd T K H1 ι1 κ S1 → rel H1 ι1 a g → PostS T K κ W D H1 ι1 (k a S1) → Q1 g H1) : Post T K κ W σ rel H ι r Q1 := by
  cases r with
  | ok a S => exact fun g H' ι' e w q => f a S g H' ι' rfl e w q (PostS.trans h e)
  | exc C fs S => exact fun c d H' ι' e w q => h c d σ H' ι' e w (en.mono e m fun _ z => .inl z) q
  | no => exact h
theorem PostS.goI {r : R (List MP.D × Option Nat)} {k : (List MP.D × Option Nat) → Sto → RS} {Q1 : It → Hp → Prop} (h : PostS T K κ W D H ι (r.go ρ k)) (en : EnvR K H ι κ σ ρ) (m : ∀ a ∈ ι, Mut (H a))
    (f : ∀ a S1 g H1 ι1, r = .ok a S1 → Ext H ι H1 ι1 → Wd T K H1 ι1 κ S1 → IW T K κ S1 H1 ι1 a g → PostS T K κ W D H1 ι1 (k a S1) → Q1 g H1) : PostI T K κ W σ H ι r Q1 := by
  cases r with
  | ok a S => exact fun g H' ι' e w q => f a S g H' ι' rfl e w q (PostS.trans h e)
  | exc C fs S => exact fun c d H' ι' e w q => h c d σ H' ι' e w (en.mono e m fun _ z => .inl z) q
  | no => exact h
end
section
variable {T : Tab} {N : List Str} {Γ : Ctx} {k : Nat} {X : Cx} {W : WX} {sc : Scope} {x y z : Ex} {a b c e o : Expr} {xs : List Ex} {es : List Expr} {pos p : Pos}
theorem GdS.tgt (g : GdS T N Γ k X W sc) : ∀ x, locB sc x = true → L2.Loc X.env.scope x ∧ (X.fn x = true ∨ X.env.scope.names.lookup x = some .local) := fun x h => by
  refine ⟨g.loc h, ?_⟩
  unfold locB at h
  split at h
  · rename_i hl; right; rw [g.sc]; exact hl
  · rename_i hl; exact .inl (g.fn x (by rw [g.sc]; exact hl))
  · cases h
theorem GdS.tg (g : GdS T N Γ k X W sc) {t : Tg} {e : Expr} (h : mtT N sc t e = true) : PG X e (tG T X.K t) := g_tg g.hN g.nd g.calm g.tgt t e h
/-- behind the value, the target -/
theorem i_asg {t : Tg} {D : Ends} {σ : L2.St} {H : Hp} (h : tS T X.K W Γ (.asg t x) D σ H) : tAsg (tE T X.K W Γ x) (tG T X.K t) D σ H := by
  obtain ⟨ι, κ, S, ρ, w, en, p⟩ := h
  simp only [evS] at p
  refine ⟨ι, κ, S, ρ, w, en, PostS.go p en w.mut fun d S1 v H1 ι1 _ e1 w1 r1 p1 => ?_⟩
  split at p1
  · rename_i ρ' hb
    exact ⟨ι1, κ, S1, ρ, d, ρ', w1, en.up e1 w, r1, hb, fun σ' en' _ => p1 σ' H1 ι1 Ext.refl w1 en'⟩
  · exact p1.elim
def isLC : Expr → Bool
  | .ListComp _ _ _ _ | .SetComp _ _ _ _ | .DictComp _ _ _ _ _ => true
  | _ => false
theorem sw_plain {e : Expr} {t : Option Expr} {l : Nat} {env : PySem.Env} (h : isLC e = false) : swapsWith e t l env = pure false := by
  cases e <;> first | rfl | (simp [isLC] at h)
/-- name = value -/
theorem st_set (g : GdS T N Γ k X W sc) {t : Tg} {n : Str} {np : Pos} (ht : mtT N sc t (.Name n np) = true) (hx : Snd T X W Γ x e) (hl : isLC e = false) : PS X (.Assign [.Name n np] e pos) (tS T X.K W Γ (.asg t x)) := by
  cases t with
  | nm i =>
    simp only [mtT, Bool.and_eq_true, decide_eq_true_eq] at ht
    obtain ⟨h1, h2⟩ := g.tgt n ht.2
    refine PS.wk (ps_set (by rw [g.hN]; exact g.nd) (by rw [g.hN]; exact ht.1) h1 hx.pe (sw_plain hl) h2) fun D σ H h => ?_
    obtain ⟨ι, κ, S, ρ, w, en, p⟩ := h
    simp only [evS] at p
    refine ⟨ι, κ, S, ρ, w, en, PostS.go p en w.mut fun d S1 v H1 ι1 _ e1 w1 r1 p1 => ?_⟩
    simp only [bindT] at p1
    split at p1
    · rename_i ρ' hb
      split at hb
      · cases hb
        exact p1 _ H1 ι1 Ext.refl w1 ((en.up e1 w).set r1)
      · cases hb
    · exact p1.elim
  | tp ts => simp [mtT] at ht
/-- other targets -/
theorem st_asg (g : GdS T N Γ k X W sc) {t : Tg} {tg : Expr} (ht : mtT N sc t tg = true) (hx : Snd T X W Γ x e) (hs : swapsWithSole [tg] e pos.line X.env = pure false) (hw : swappedStores [tg] e X.env = pure none) (h1 : (assignEach [tg] X.env).map (·.2) = [assign tg X.env]) :
    PS X (.Assign [tg] e pos) (tS T X.K W Γ (.asg t x)) := PS.wk (ps_asg hx.pe (g.tg ht) hs hw h1) fun _ _ _ h => i_asg h
/-! name = [..], name = {..}, on one line -/
def rlkN (k : L2.St → Hp → Prop) : L2.St → Hp → Prop := fun σ H => k σ H ∨ ∃ a u, H a = some u ∧ Mut (some u) ∧ ∀ od, k σ (upd H a (.frz od u))
theorem PS.relock {X : Cx} {st : Stmt} {t : TS} (h : PS X st t) : PS X st (fun D σ H => t { D with nx := rlkN D.nx } σ H) := ⟨fun pins s σ H D I q => thn (h.run pins s σ H _ I q) fun f s1 z => by
  cases f with
  | next =>
    obtain ⟨σ', H', I', q'⟩ := z
    rcases q' with q' | ⟨a, u, hu, mu, q'⟩
    · exact ⟨σ', H', I', q'⟩
    · obtain ⟨od, I2⟩ := I'.lock hu mu
      exact ⟨_, _, I2, q' od⟩
  | brk => exact z
  | cont => exact z
  | ret u => exact z⟩
theorem tN.imp {K : PySem.W.Frag} {σ : L2.St} {H : Hp} {Q Q' : VK} (h : tN T K W Γ x σ H Q) (f : ∀ v H, Q v H → Q' v H) : tN T K W Γ x σ H Q' := by
  obtain ⟨ι, κ, S, ρ, w, en, p⟩ := h
  refine ⟨ι, κ, S, ρ, w, en, ?_⟩
  cases hr : evE Γ x ρ S with
  | ok d S' => rw [hr] at p; exact fun q H' ι' hn e w' z => f _ _ (p q H' ι' hn e w' z)
  | exc C fs S' => rw [hr] at p; exact p
  | no => rw [hr] at p; exact p
/-- what name = (y, a fresh one) asks, asked of the fresh one itself -/
theorem i_setN {K : PySem.W.Frag} {i : Nat} {D : Ends} {σ : L2.St} {H : Hp} (hy : y = x ∨ y = .mut x) (h : tS T K W Γ (.asg (.nm i) y) D σ H) : tN T K W Γ x σ H fun v H1 => rlkN D.nx (σ.set i (some v)) H1 := by
  obtain ⟨ι, κ, S, ρ, w, en, p⟩ := h
  simp only [evS] at p
  have h1 : tE T K W Γ y σ H fun v H1 => D.nx (σ.set i (some v)) H1 := ⟨ι, κ, S, ρ, w, en, PostS.go p en w.mut fun d S1 v H1 ι1 _ e1 w1 r1 p1 => by
    simp only [bindT] at p1
    split at p1
    · rename_i ρ' hb
      split at hb
      · cases hb
        exact p1 _ H1 ι1 Ext.refl w1 ((en.up e1 w).set r1)
      · cases hb
    · exact p1.elim⟩
  rcases hy with rfl | rfl
  · refine (tE_of_tN h1).imp fun v H q => ?_
    rcases q with q | ⟨a, u, _, hu, mu, q⟩
    · exact .inl q
    · exact .inr ⟨a, u, hu, mu, q⟩
  · exact (tN_mut h1).imp fun v H q => .inl q
theorem st_lc (g : GdS T N Γ k X W sc) {it elt : Ex} {cnd : List Ex} {tg : Tg} {own : List Nat} {scope : Scope} {elt' it' tg' : Expr} {ifs' : List Expr} {i : Nat} {n : Str} {np lp : Pos} (hy : y = .lc elt tg it cnd own ∨ y = .mut (.lc elt tg it cnd own)) (hN : N[i]? = some n) (hloc : sc.names.lookup n = some .local)
    (hln : (np.line == lp.line) = true) (hno : (scope.names.any fun (m, k) => m == n && (k == .local || k == .cell)) = false)
    (hi : PI X tg' it' (tI T X.K W Γ it)) (hf : plainE it' = true) (htg : mtT N scope tg tg' = true) (hsl : ∀ i ∈ slotsT tg, i ∈ own) (hown : (own.all fun i => decide (i < N.length)) = true)
    (hb : blkC N sc scope (ownOf N own) = true) (hcl : cnd.length ≤ 1) (hts : ifs'.all tst = true) (hc : ∀ X' W', Gd T N Γ k X' W' (relS scope sc) → SndL T X' W' Γ cnd ifs') (he : ∀ X' W', Gd T N Γ k X' W' (relS scope sc) → Snd T X' W' Γ elt elt') :
    PS X (.Assign [.Name n np] (.ListComp elt' [⟨tg', it', ifs', 0⟩] scope lp) pos) (tS T X.K W Γ (.asg (.nm i) y)) := by
  have hsw : swapsWith (.ListComp elt' [⟨tg', it', ifs', 0⟩] scope lp) (some (.Name n np)) pos.line X.env = pure true := sw_true g.kind (by rw [g.sc]; exact hloc) hln hno
  refine PS.wk (PS.relock (ps_setLc (i := i) (own := ownOf N own) (g := tG T X.K tg) (tt := tTs T X.K NoW Γ cnd) (te := tE T X.K NoW Γ elt) g.calm (by rw [g.hN]; exact g.nd) (by rw [g.hN]; exact hN) (by rw [g.sc]; exact hloc) hsw hi (by rw [g.hN, g.sc]; exact blkOk_by hb) (fun s H C cl fp => g_tg (X := X.blk s H scope (compEnvC scope cl C X.env) fp) (sc := scope) g.hN g.nd g.calm (fun x h => blk_loc x h) tg tg' htg) (fun s H C cl fp => ?_) (fun s H C cl fp => ?_) (folded_plain hf))) fun D σ H h => ?_
  · have gb := g.toGd.blk (s := s) (H := H) (scope := scope) (cl := cl) (C := C) (fp := fp)
    exact pts_of (hc _ _ gb) hcl hts
  · have gb := g.toGd.blk (s := s) (H := H) (scope := scope) (cl := cl) (C := C) (fp := fp)
    exact (he _ _ gb).pe
  · show tLc _ _ _ _ ((ownOf N own).map (·.2)) σ H _
    rw [own_of hown]
    exact i_lc (W := W) (X := X) hsl (i_setN hy h)
/-! small statements -/
theorem st_ex (hx : Snd T X W Γ x e) (hl : isLC e = false) : PS X (.Expr e pos) (tS T X.K W Γ (.ex x)) := by
  refine PS.wk (ps_expr hx.pe (sw_plain hl)) fun D σ H ⟨ι, κ, S, ρ, w, en, p⟩ => ?_
  simp only [evS] at p
  exact ⟨ι, κ, S, ρ, w, en, PostS.go p en w.mut fun d S1 v H1 ι1 _ e1 w1 r1 p1 => p1 σ H1 ι1 Ext.refl w1 (en.up e1 w)⟩
theorem st_ret (hx : Snd T X W Γ x e) : PS X (.Return (some e) pos) (tS T X.K W Γ (.ret x)) := by
  refine PS.wk (ps_ret hx.pe) fun D σ H ⟨ι, κ, S, ρ, w, en, p⟩ => ?_
  simp only [evS] at p
  exact ⟨ι, κ, S, ρ, w, en, PostS.go p en w.mut fun d S1 v H1 ι1 _ e1 w1 r1 p1 => p1 v H1 ι1 Ext.refl w1 r1⟩
theorem st_retN : PS X (.Return none pos) (tS T X.K W Γ .retN) := by
  refine PS.wk ps_retN fun D σ H ⟨ι, κ, S, ρ, w, en, p⟩ => ?_
  simp only [evS] at p
  exact p .non H ι Ext.refl w (by simp only [Rep])
theorem st_brk : PS X (.Break pos) (tS T X.K W Γ .brk) := by
  refine PS.wk ps_break fun D σ H ⟨ι, κ, S, ρ, w, en, p⟩ => ?_
  simp only [evS] at p
  exact p σ H ι Ext.refl w en
theorem st_cnt : PS X (.Continue pos) (tS T X.K W Γ .cnt) := by
  refine PS.wk ps_continue fun D σ H ⟨ι, κ, S, ρ, w, en, p⟩ => ?_
  simp only [evS] at p
  exact p σ H ι Ext.refl w en
theorem st_pas : PS X (.Pass pos) (tS T X.K W Γ .pas) := by
  refine PS.wk ps_pass fun D σ H ⟨ι, κ, S, ρ, w, en, p⟩ => ?_
  simp only [evS] at p
  exact p σ H ι Ext.refl w en
theorem st_if {sa sb : List Sm} {as bs : List Stmt} (hc : Snd T X W Γ x c) (ht : tst c = true) (ha : PSs X as (tSs T X.K W Γ sa)) (hb : PSs X bs (tSs T X.K W Γ sb)) : PS X (.If c as bs pos) (tS T X.K W Γ (.ifs x sa sb)) := by
  refine PS.wk (ps_if (hc.pt ht) ha hb) fun D σ H ⟨ι, κ, S, ρ, w, en, p⟩ => ?_
  simp only [evS] at p
  refine ⟨ι, κ, S, ρ, w, en, ?_⟩
  cases hx : evE Γ x ρ S with
  | ok d S1 =>
    rw [hx] at p
    cases d with
    | bl v =>
      intro g H' ι' e w' q
      obtain rfl : v = g := q
      have p : PostS T X.K κ W D H ι (match MP.D.bl v with | .bl true => evSs Γ sa ρ S1 | .bl false => evSs Γ sb ρ S1 | _ => .no) := p
      cases v with
      | true => rw [if_pos rfl]; exact ⟨ι', κ, S1, ρ, w', en.up e w, PostS.trans p e⟩
      | false => rw [if_neg Bool.false_ne_true]; exact ⟨ι', κ, S1, ρ, w', en.up e w, PostS.trans p e⟩
    | _ => exact p.elim
  | exc C fs S1 => rw [hx] at p; exact fun c d H' ι' e w' q => p c d σ H' ι' e w' (en.up e w) q
  | no => rw [hx] at p; exact p
theorem sts_nil : PSs X [] (tSs T X.K W Γ []) := by
  refine PSs.wk pss_nil fun D σ H ⟨ι, κ, S, ρ, w, en, p⟩ => ?_
  simp only [evSs] at p
  exact p σ H ι Ext.refl w en
theorem sts_cons {st : Stmt} {sts : List Stmt} {s : Sm} {ss : List Sm} (h1 : PS X st (tS T X.K W Γ s)) (h2 : PSs X sts (tSs T X.K W Γ ss)) : PSs X (st :: sts) (tSs T X.K W Γ (s :: ss)) := by
  refine PSs.wk (pss_cons h1 h2) fun D σ H ⟨ι, κ, S, ρ, w, en, p⟩ => ?_
  simp only [evSs] at p
  refine ⟨ι, κ, S, ρ, w, en, ?_⟩
  cases hs : evS Γ s ρ S with
  | ok f S1 =>
    rw [hs] at p
    cases f with
    | nx ρ1 => exact fun σ' H' ι' e w' en' => ⟨ι', κ, S1, ρ1, w', en', PostS.trans p e⟩
    | ret d => exact p
    | brk ρ1 => exact p
    | cnt ρ1 => exact p
  | exc C fs ρ1 S1 => rw [hs] at p; exact p
  | no => rw [hs] at p; exact p
end
end MP
end

section
set_option Elab.async false
set_option linter.all false
set_option maxRecDepth 100000
/-! MpS: loops; stores into lists, dicts, instances. -/
namespace MP
open PySem PySem.Spec PyProof.Rows L2
section
variable {T : Tab} {N : List Str} {Γ : Ctx} {k : Nat} {X : Cx} {W : WX} {sc : Scope} {x y z : Ex} {a b c e o : Expr} {xs : List Ex} {es : List Expr} {pos p p1 : Pos}
/-- name = {..} on one line -/
theorem ps_setDc {i : Nat} {y : Str} {py : Pos} {kx vx tg iter : Expr} {ifs : List Expr} {scope : Scope} {own : List (Str × Nat)} {pos spos : Pos} {wi : TI} {g : TG} {tt : TT} {tk tv : TE} (hc : X.calm = true) (hN : X.N.Nodup) (hy : X.N[i]? = some y) (hyl : X.env.scope.names.lookup y = some .local)
    (hsw : swapsWith (.DictComp kx vx [⟨tg, iter, ifs, 0⟩] scope pos) (some (.Name y py)) spos.line X.env = pure true) (hi : PI X tg iter wi) (ok : BlkOk X.N X.env.scope scope own)
    (hg : ∀ (s : Shared) (H : Hp) (C : Addr) (cl : List (Str × Addr)) (fp : List Addr), PG (X.blk s H scope (compEnvC scope cl C X.env) fp) tg g) (ht : ∀ (s : Shared) (H : Hp) (C : Addr) (cl : List (Str × Addr)) (fp : List Addr), PTs (X.blk s H scope (compEnvC scope cl C X.env) fp) ifs tt)
    (hk : ∀ (s : Shared) (H : Hp) (C : Addr) (cl : List (Str × Addr)) (fp : List Addr), PE (X.blk s H scope (compEnvC scope cl C X.env) fp) kx tk)
    (he : ∀ (s : Shared) (H : Hp) (C : Addr) (cl : List (Str × Addr)) (fp : List Addr), PE (X.blk s H scope (compEnvC scope cl C X.env) fp) vx tv) (hs : ∀ x, foldedSetIterable iter X.env x = pure x) :
    PS X (.Assign [.Name y py] (.DictComp kx vx [⟨tg, iter, ifs, 0⟩] scope pos) spos) (tAsg (tDc wi g tt tk tv (own.map (·.2))) (gName i)) := by
  refine ⟨fun pins s σ H D I h => ?_⟩
  rw [exec_Assign_Name_used _ _ _ _ hsw]
  refine wpAny_bind (wpAny_standAt (wpAny_bind ?_))
  show wpAny _ X.A (do let _ ← comprehension (.DictComp kx vx [⟨tg, iter, ifs, 0⟩] scope pos) scope X.env (firstIterPos [⟨tg, iter, ifs, 0⟩] pos) newDict false (eval iter X.env) (some (assign (.Name y py) X.env))) _ _ s
  have h : tDc wi g tt tk tv (own.map (·.2)) σ H (fun x H1 => gName i x σ H1 D.nx) := h
  refine wpAny_bind (thn (dc_core (Qf := fun _ s' => SP X pins D .next s') hc hN I hi ok hg ht hk he hs h fun L C s' m H' I' q hn f => ?_) fun _ s' hq => wpAny_pure (wpAny_pure hq))
  show wpAny _ _ (assign (.Name y py) X.env (.ref L)) _ _ _
  refine wpAny_assign_Name (store_ok2 (v := V.ref L) I' hN hy (.inl hyl) rfl (fun s2 I2 ⟨a, sb, ha⟩ => ?_) (.inr hyl))
  obtain ⟨f0, f1, f2, f3, f4, f5⟩ := f
  have haC : C ≠ a := by
    rcases ha with z | z
    · rw [z]; exact f1
    · exact fun e => f4 y a z e.symm
  refine ⟨m, hn.sameBut sb haC, fun h3 sb3 => ?_⟩
  exact ⟨_, H', I2.turned (t' := s2.toks) (fun b o hb e => (sb3.2 b hb).trans e) f0 f1 f3 f4 f5, q⟩
theorem sw_trueD {kx vx : Expr} {gs : List Comprehension} {scope : Scope} {pos py : Pos} {y : Str} {l : Nat} {env : PySem.Env} (hk : env.scope.kind = .function) (hy : env.scope.names.lookup y = some .local) (hl : (py.line == pos.line) = true)
    (ha : (scope.names.any fun (n, k) => n == y && (k == .local || k == .cell)) = false) : swapsWith (.DictComp kx vx gs scope pos) (some (.Name y py)) l env = pure true := by
  have ky : env.kindOf y = some .local := hy
  have hb : env.blockKind = .function := by unfold Env.blockKind; rw [hk]; rfl
  unfold swapsWith
  simp only [hb, ky, ha, Expr.pos, hl]
  rfl
theorem st_dc (g : GdS T N Γ k X W sc) {it kx vx : Ex} {cnd : List Ex} {tg : Tg} {own : List Nat} {scope : Scope} {kx' vx' it' tg' : Expr} {ifs' : List Expr} {i : Nat} {n : Str} {np lp : Pos} (hy : y = .dc kx vx tg it cnd own ∨ y = .mut (.dc kx vx tg it cnd own)) (hN : N[i]? = some n) (hloc : sc.names.lookup n = some .local)
    (hln : (np.line == lp.line) = true) (hno : (scope.names.any fun (m, k) => m == n && (k == .local || k == .cell)) = false)
    (hi : PI X tg' it' (tI T X.K W Γ it)) (hf : plainE it' = true) (htg : mtT N scope tg tg' = true) (hsl : ∀ i ∈ slotsT tg, i ∈ own) (hown : (own.all fun i => decide (i < N.length)) = true)
    (hb : blkC N sc scope (ownOf N own) = true) (hcl : cnd.length ≤ 1) (hts : ifs'.all tst = true) (hc : ∀ X' W', Gd T N Γ k X' W' (relS scope sc) → SndL T X' W' Γ cnd ifs')
    (hk : ∀ X' W', Gd T N Γ k X' W' (relS scope sc) → Snd T X' W' Γ kx kx') (he : ∀ X' W', Gd T N Γ k X' W' (relS scope sc) → Snd T X' W' Γ vx vx') :
    PS X (.Assign [.Name n np] (.DictComp kx' vx' [⟨tg', it', ifs', 0⟩] scope lp) pos) (tS T X.K W Γ (.asg (.nm i) y)) := by
  have hsw : swapsWith (.DictComp kx' vx' [⟨tg', it', ifs', 0⟩] scope lp) (some (.Name n np)) pos.line X.env = pure true := sw_trueD g.kind (by rw [g.sc]; exact hloc) hln hno
  refine PS.wk (PS.relock (ps_setDc (i := i) (own := ownOf N own) (g := tG T X.K tg) (tt := tTs T X.K NoW Γ cnd) (tk := tE T X.K NoW Γ kx) (tv := tE T X.K NoW Γ vx) g.calm (by rw [g.hN]; exact g.nd) (by rw [g.hN]; exact hN) (by rw [g.sc]; exact hloc) hsw hi (by rw [g.hN, g.sc]; exact blkOk_by hb) (fun s H C cl fp => g_tg (X := X.blk s H scope (compEnvC scope cl C X.env) fp) (sc := scope) g.hN g.nd g.calm (fun x h => blk_loc x h) tg tg' htg) (fun s H C cl fp => ?_) (fun s H C cl fp => ?_) (fun s H C cl fp => ?_) (folded_plain hf))) fun D σ H h => ?_
  · have gb := g.toGd.blk (s := s) (H := H) (scope := scope) (cl := cl) (C := C) (fp := fp)
    exact pts_of (hc _ _ gb) hcl hts
  · have gb := g.toGd.blk (s := s) (H := H) (scope := scope) (cl := cl) (C := C) (fp := fp)
    exact (hk _ _ gb).pe
  · have gb := g.toGd.blk (s := s) (H := H) (scope := scope) (cl := cl) (C := C) (fp := fp)
    exact (he _ _ gb).pe
  · show tDc _ _ _ _ _ ((ownOf N own).map (·.2)) σ H _
    rw [own_of hown]
    exact i_dc (W := W) (X := X) hsl (i_setN hy h)
theorem ps_setDc2 {i : Nat} {y : Str} {py : Pos} {kx vx t0 i0 t1 i1 : Expr} {q0 q1 : List Expr} {scope : Scope} {own : List (Str × Nat)} {us : List Nat} {pos spos : Pos} {w0 w1 : TI} {g0 g1 : TG} {b0 b1 : TT} {tk tv : TE} (hy : X.N[i]? = some y) (hyl : X.env.scope.names.lookup y = some .local)
    (hsw : swapsWith (dcE kx vx t0 i0 t1 i1 q0 q1 scope pos) (some (.Name y py)) spos.line X.env = pure true) (o : Dc2Ok X kx vx t0 i0 t1 i1 q0 q1 scope own us w0 g0 b0 w1 g1 b1 tk tv) :
    PS X (.Assign [.Name y py] (dcE kx vx t0 i0 t1 i1 q0 q1 scope pos) spos) (tAsg (tDc2 w0 g0 b0 w1 g1 b1 tk tv (own.map (·.2)) us) (gName i)) := by
  refine ⟨fun pins s σ H D I h => ?_⟩
  rw [exec_Assign_Name_used _ _ _ _ hsw]
  refine wpAny_bind (wpAny_standAt (wpAny_bind ?_))
  show wpAny _ X.A (do let _ ← comprehension (dcE kx vx t0 i0 t1 i1 q0 q1 scope pos) scope X.env (firstIterPos [⟨t0, i0, q0, 0⟩, ⟨t1, i1, q1, 0⟩] pos) newDict false (eval i0 X.env) (some (assign (.Name y py) X.env))) _ _ s
  have h : tDc2 w0 g0 b0 w1 g1 b1 tk tv (own.map (·.2)) us σ H (fun x H1 => gName i x σ H1 D.nx) := h
  refine wpAny_bind (thn (dc2_core (Qf := fun _ s' => SP X pins D .next s') o I h fun L C s' m H' I' q hn f => ?_) fun _ s' hq => wpAny_pure (wpAny_pure hq))
  show wpAny _ _ (assign (.Name y py) X.env (.ref L)) _ _ _
  refine wpAny_assign_Name (store_ok2 (v := V.ref L) I' o.nd hy (.inl hyl) rfl (fun s2 I2 ⟨a, sb, ha⟩ => ?_) (.inr hyl))
  obtain ⟨f0, f1, f2, f3, f4, f5⟩ := f
  have haC : C ≠ a := by
    rcases ha with z | z
    · rw [z]; exact f1
    · exact fun e => f4 y a z e.symm
  refine ⟨m, hn.sameBut sb haC, fun h3 sb3 => ?_⟩
  exact ⟨_, H', I2.turned (t' := s2.toks) (fun b o hb e => (sb3.2 b hb).trans e) f0 f1 f3 f4 f5, q⟩
theorem st_dc2 (g : GdS T N Γ k X W sc) {it it1 kx vx : Ex} {cnd cnd1 : List Ex} {tg tg1 : Tg} {own own1 : List Nat} {scope : Scope} {kx' vx' it' tg' it1' tg1' : Expr} {ifs' ifs1' : List Expr} {i : Nat} {n : Str} {np lp : Pos} (hy : y = .dc2 kx vx tg it cnd tg1 it1 cnd1 own own1 ∨ y = .mut (.dc2 kx vx tg it cnd tg1 it1 cnd1 own own1)) (hN : N[i]? = some n) (hloc : sc.names.lookup n = some .local)
    (hln : (np.line == lp.line) = true) (hno : (scope.names.any fun (m, k) => m == n && (k == .local || k == .cell)) = false)
    (hown : (own.all fun i => decide (i < N.length)) = true) (hsl : ∀ i ∈ slotsT tg, i ∈ own) (hsl1 : ∀ i ∈ slotsT tg1, i ∈ own1)
    (o : Dc2Ok X kx' vx' tg' it' tg1' it1' ifs' ifs1' scope (ownOf N own) own1 (tI T X.K W Γ it) (tG T X.K tg) (tTs T X.K NoW Γ cnd) (iTup X.K (tE T X.K NoW Γ it1)) (tG T X.K tg1) (tTs T X.K NoW Γ cnd1) (tE T X.K NoW Γ kx) (tE T X.K NoW Γ vx)) :
    PS X (.Assign [.Name n np] (.DictComp kx' vx' [⟨tg', it', ifs', 0⟩, ⟨tg1', it1', ifs1', 0⟩] scope lp) pos) (tS T X.K W Γ (.asg (.nm i) y)) := by
  have hsw : swapsWith (dcE kx' vx' tg' it' tg1' it1' ifs' ifs1' scope lp) (some (.Name n np)) pos.line X.env = pure true := sw_trueD g.kind (by rw [g.sc]; exact hloc) hln hno
  refine PS.wk (PS.relock (ps_setDc2 (i := i) (by rw [g.hN]; exact hN) (by rw [g.sc]; exact hloc) hsw o)) fun D σ H h => ?_
  show tDc2 _ _ _ _ _ _ _ _ ((ownOf N own).map (·.2)) own1 σ H _
  rw [own_of hown]
  exact i_dc2 (W := W) (X := X) hsl hsl1 (i_setN hy h)
/-! loops -/
theorem st_for (g : GdS T N Γ k X W sc) {t : Tg} {it : Ex} {tg it' : Expr} {body : List Sm} {sts : List Stmt} (ht : mtT N sc t tg = true) (hi : PI X tg it' (tI T X.K W Γ it)) (hf : plainE it' = true) (hb : PSs X sts (tSs T X.K W Γ body)) :
    PS X (.For tg it' sts [] pos) (tS T X.K W Γ (.fors t it body)) := by
  refine PS.wk (ps_for g.own g.calm hi (g.tg ht) hb (folded_plain hf)) fun D σ H ⟨ι, κ, S, ρ, w, en, p⟩ => ?_
  simp only [evS] at p
  refine ⟨ι, κ, S, ρ, w, en, PostS.goI p en w.mut fun pr S1 J H1 ι1 _ e1 w1 iw pp => ?_⟩
  generalize hn : pr.1.length = n
  refine ⟨fun i m σ2 H2 => m = n - i ∧ i ≤ n ∧ ∃ ι2 S2 ρ2, Ext H1 ι1 H2 ι2 ∧ Wd T X.K H2 ι2 κ S2 ∧ EnvR X.K H2 ι2 κ σ2 ρ2 ∧ held pr.2 S1 S2 = true ∧ PostS T X.K κ W D H2 ι2 (forR pr.2 (forF (fun ρ S => evSs Γ body ρ S) t) (pr.1.drop i) ρ2 S2), ⟨n, by simp, Nat.zero_le _, ι1, S1, ρ, Ext.refl, w1, en.up e1 w, held_refl _ _, by simpa using pp⟩, ?_⟩
  rintro i m σ2 H2 ⟨rfl, hin, ι2, S2, ρ2, e2, w2, en2, hh, p2⟩
  obtain ⟨igo, istop⟩ := iw κ H2 ι2 S2 (fun _ z => .inl z) e2 w2 hh i
  by_cases hlt : i < n
  · obtain ⟨go, yl⟩ := igo (by rw [hn]; exact hlt)
    refine .inr ⟨go, fun σ' H' => ∃ m', m' = n - (i + 1) ∧ _, fun σ' H' ⟨m', h1, h2⟩ => ⟨m', by omega, h1, by omega, h2⟩, fun v H3 hy => ?_⟩
    obtain ⟨e3, w3, d, hdx, rd⟩ := yl v H3 hy
    have hdrop : pr.1.drop i = d :: pr.1.drop (i + 1) := by
      obtain ⟨hlt', he⟩ := List.getElem?_eq_some_iff.mp hdx
      rw [List.drop_eq_getElem_cons hlt', he]
    rw [hdrop] at p2
    simp only [forR, forF] at p2
    have p2 := PostS.trans p2 e3
    cases hbt : bindT t d ρ2 with
    | none => rw [hbt] at p2; exact p2.elim
    | some ρ' =>
      rw [hbt] at p2
      refine ⟨ι2, κ, S2, ρ2, d, ρ', w3, en2.up e3 w2, rd, hbt, fun σ' en' _ => ⟨ι2, κ, S2, ρ', w3, en', ?_⟩⟩
      simp only at p2
      cases hev : evSs Γ body ρ' S2 with
      | ok f S3 =>
        rw [hev] at p2
        cases f with
        | nx ρ3 =>
          simp only at p2
          split at p2
          · rename_i hh3
            exact fun σ4 H4 ι4 e4 w4 en4 => ⟨n - (i + 1), rfl, ι4, S3, ρ3, (e2.trans e3).trans e4, w4, en4, held_trans hh hh3, PostS.trans p2 e4⟩
          · exact p2.elim
        | cnt ρ3 =>
          simp only at p2
          split at p2
          · rename_i hh3
            exact fun σ4 H4 ι4 e4 w4 en4 => ⟨n - (i + 1), rfl, ι4, S3, ρ3, (e2.trans e3).trans e4, w4, en4, held_trans hh hh3, PostS.trans p2 e4⟩
          · exact p2.elim
        | brk ρ3 => exact p2
        | ret d => exact p2
      | exc C fs ρ3 S3 => rw [hev] at p2; exact p2
      | no => rw [hev] at p2; exact p2
  · have hi' : i = n := by omega
    subst hi'
    rw [List.drop_of_length_le (by omega)] at p2
    simp only [forR] at p2
    exact .inl ⟨istop hn.symm, p2 σ2 H2 ι2 Ext.refl w2 en2⟩
theorem st_whl (g : GdS T N Γ k X W sc) {body : List Sm} {sts : List Stmt} (hc : Snd T X W Γ x c) (ht : tst c = true) (hb : PSs X sts (tSs T X.K W Γ body)) : PS X (.While c sts [] pos) (tS T X.K W Γ (.whl x body)) := by
  refine PS.wk (ps_while g.own (hc.pt ht) hb) fun D σ H ⟨ι, κ, S, ρ, w, en, p⟩ => ?_
  simp only [evS] at p
  refine ⟨fun m σ2 H2 => ∃ ι2 S2 ρ2, Wd T X.K H2 ι2 κ S2 ∧ EnvR X.K H2 ι2 κ σ2 ρ2 ∧ PostS T X.K κ W D H2 ι2 (whileR (fun ρ S => evE Γ x ρ S) (fun ρ S => evSs Γ body ρ S) m ρ2 S2), ⟨Γ.fuel, ι, S, ρ, w, en, p⟩, ?_⟩
  rintro m σ2 H2 ⟨ι2, S2, ρ2, w2, en2, p2⟩
  cases m with
  | zero => simp only [whileR] at p2; exact p2.elim
  | succ m =>
    simp only [whileR] at p2
    refine ⟨ι2, κ, S2, ρ2, w2, en2, ?_⟩
    cases hx : evE Γ x ρ2 S2 with
    | ok d S3 =>
      rw [hx] at p2
      cases d with
      | bl v =>
        intro g' H3 ι3 e3 w3 q
        obtain rfl : v = g' := q
        cases v with
        | true =>
          rw [if_pos rfl]
          have p2 : PostS T X.K κ W D H2 ι2 (match evSs Γ body ρ2 S3 with
            | .ok (.nx ρ') S' => whileR (fun ρ S => evE Γ x ρ S) (fun ρ S => evSs Γ body ρ S) m ρ' S'
            | .ok (.cnt ρ') S' => whileR (fun ρ S => evE Γ x ρ S) (fun ρ S => evSs Γ body ρ S) m ρ' S'
            | .ok (.brk ρ') S' => .ok (.nx ρ') S'
            | r => r) := p2
          have p2 := PostS.trans p2 e3
          refine ⟨fun σ4 H4 => ∃ ι4 S4 ρ4, Wd T X.K H4 ι4 κ S4 ∧ EnvR X.K H4 ι4 κ σ4 ρ4 ∧ PostS T X.K κ W D H4 ι4 (whileR (fun ρ S => evE Γ x ρ S) (fun ρ S => evSs Γ body ρ S) m ρ4 S4), fun σ4 H4 h => ⟨m, Nat.lt_succ_self m, h⟩, ι3, κ, S3, ρ2, w3, en2.up e3 w2, ?_⟩
          cases hev : evSs Γ body ρ2 S3 with
          | ok f S4 =>
            rw [hev] at p2
            cases f with
            | nx ρ4 => exact fun σ4 H4 ι4 e4 w4 en4 => ⟨ι4, S4, ρ4, w4, en4, PostS.trans p2 e4⟩
            | cnt ρ4 => exact fun σ4 H4 ι4 e4 w4 en4 => ⟨ι4, S4, ρ4, w4, en4, PostS.trans p2 e4⟩
            | brk ρ4 => exact p2
            | ret d => exact p2
          | exc C fs ρ4 S4 => rw [hev] at p2; exact p2
          | no => rw [hev] at p2; exact p2
        | false =>
          rw [if_neg Bool.false_ne_true]
          have p2 : PostS T X.K κ W D H2 ι2 (.ok (.nx ρ2) S3) := p2
          exact p2 σ2 H3 ι3 e3 w3 (en2.up e3 w2)
      | _ => exact p2.elim
    | exc C fs S3 => rw [hx] at p2; exact fun c d H' ι' e w' q => p2 c d σ2 H' ι' e w' (en2.up e w2) q
    | no => rw [hx] at p2; exact p2
end
end MP
end

section
set_option Elab.async false
set_option linter.all false
set_option maxRecDepth 100000
/-! MpT: stores. -/
namespace MP
open PySem PySem.Spec PyProof.Rows L2
def parB (sc : Scope) (ts vs : List Expr) : Bool := (vs.length == ts.length) && (ts.length == 2) && (match ts with
  | [.Name x p, .Name y q] => decide (sc.names.lookup x = some .local) && decide (sc.names.lookup y = some .local) && (q.line == p.line) && !(x == y)
  | _ => false) && !(vs.all (foldedForSure 8)) && !(vs.all (constantsAlone 8))
def noSwap (sc : Scope) (ts vs : List Expr) : Bool := !(ts.length == 2 || ts.length == 3) || (vs.length != ts.length) || vs.all (foldedForSure 8) || (ts.any fun
  | .Name x _ => !decide (sc.names.lookup x = some .local)
  | _ => true)
theorem filterMap_lt {α β : Type} {f : α → Option β} : ∀ {l : List α} {x : α}, x ∈ l → f x = none → (l.filterMap f).length < l.length
  | y :: l, x, h, e => by
    rcases List.mem_cons.mp h with rfl | h
    · rw [List.filterMap_cons, e]
      exact Nat.lt_succ_of_le (List.length_filterMap_le _ _)
    · have ih := filterMap_lt h e
      rw [List.filterMap_cons]
      cases f y with
      | none => exact Nat.lt_succ_of_lt ih
      | some z => exact Nat.succ_lt_succ ih
theorem no_star {vs : List Expr} (hp : vs.all plainE = true) : (vs.any fun | .Starred .. => true | _ => false) = false := by
  rw [List.any_eq_false]
  intro e he
  have := List.all_eq_true.mp hp e he
  cases e <;> first | (simp [plainE] at this; done) | simp
theorem par_eq {env : PySem.Env} {a b : Expr} {n m : Str} {np mp tp vp : Pos} {kt kv : Nat} (hk : env.scope.kind = .function) (hp : [a, b].all plainE = true) (hB : parB env.scope [.Name n np, .Name m mp] [a, b] = true) : swappedStores [.Tuple [.Name n np, .Name m mp] kt tp] (.Tuple [a, b] kv vp) env = pure (some [n, m]) := by
  simp only [parB, Bool.and_eq_true, Bool.not_eq_true', decide_eq_true_eq] at hB
  obtain ⟨⟨⟨_, ⟨⟨h1, h2⟩, h3⟩, h4⟩, h5⟩, h6⟩ := hB
  have hb : env.blockKind = .function := by unfold Env.blockKind; rw [hk]; rfl
  have k1 : env.kindOf n = some .local := h1
  have k2 : env.kindOf m = some .local := h2
  have h4' : (m == n) = false := by
    rw [Bool.eq_false_iff]; intro z; rw [beq_iff_eq.mp z] at h4; simp at h4
  unfold swappedStores
  simp only [hb, no_star hp, h5, h6, k1, k2]
  have hst : ¬ (([a, b].any fun x => match x with
      | Expr.Starred _ _ => true
      | _ => false) = true) := by rw [no_star hp]; exact Bool.false_ne_true
  split
  · rename_i z; exact absurd z (show ¬ (false = true) from Bool.false_ne_true)
  split
  · rename_i z; exact absurd z hst
  generalize hn : (List.filterMap _ [Expr.Name n np, Expr.Name m mp]) = names
  have hnm : names = [n, m] := by
    rw [← hn, List.filterMap_cons, List.filterMap_cons, List.filterMap_nil]
    have e1 : (Expr.Name n np).pos.line = np.line := rfl
    simp [k1, k2, beq_iff_eq.mp h3, e1]
  subst hnm
  have e2 : [n, m].eraseDups = [n, m] := by
    have : n ≠ m := fun z => by rw [z] at h4; simp at h4
    simp [List.eraseDups_cons, h4', this.symm]
  simp [e2]
theorem noSwap_eq {env : PySem.Env} {ts vs : List Expr} {kt kv : Nat} {tp vp : Pos} (hp : vs.all plainE = true) (h : noSwap env.scope ts vs = true) : swappedStores [.Tuple ts kt tp] (.Tuple vs kv vp) env = pure none := by
  unfold swappedStores
  simp only [no_star hp]
  by_cases c1 : (!(ts.length == 2 || ts.length == 3) || vs.length != ts.length || env.blockKind != .function) = true
  · rw [if_pos c1]
  · rw [if_neg c1]
    generalize hn : (List.filterMap _ ts) = names
    by_cases c2 : (names.length != ts.length || names.eraseDups.length != names.length) = true
    · rw [if_pos c2]; split <;> rfl
    · rw [if_neg c2]
      simp only [noSwap, Bool.or_eq_true] at h
      rcases h with ((h | h) | h) | h
      · exact absurd (by simp only [Bool.or_eq_true]; exact .inl (.inl h)) c1
      · exact absurd (by simp only [Bool.or_eq_true]; exact .inl (.inr h)) c1
      · rw [if_pos h]; split <;> rfl
      · exfalso
        apply c2
        simp only [Bool.or_eq_true]
        left
        have : names.length ≠ ts.length := by
          rw [← hn]
          have hx := List.any_eq_true.mp h
          obtain ⟨x, hx1, hx2⟩ := hx
          refine Nat.ne_of_lt (filterMap_lt hx1 ?_)
          cases x <;> first | rfl | skip
          rename_i id p
          have : ¬ env.kindOf id = some .local := by
            show ¬ env.scope.names.lookup id = some .local
            simpa using hx2
          simp [this]
        simpa using this
section
variable {T : Tab} {N : List Str} {Γ : Ctx} {k : Nat} {X : Cx} {W : WX} {sc : Scope} {x y z : Ex} {a b c e o : Expr} {xs : List Ex} {es : List Expr} {pos p p1 : Pos}
def rSet : TSet := fun o i v H Q => rSetL o i v H Q ∨ rSetD o i v H Q
theorem set_any (hu : X.A.units + 1 < cLine) : PSet X rSet := by
  intro pins s σ H o i v ov iv u Q I ro ri rv h
  rcases h with h | h
  · exact set_list pins s σ H o i v ov iv u Q I ro ri rv h
  · exact set_dict hu pins s σ H o i v ov iv u Q I ro ri rv h
theorem set_sound {κ : List Addr} {H : Hp} {ι : List Addr} {S S' : Sto} {d i v : MP.D} {dv iv vv : V} {Q : Hp → Prop} (w : Wd T X.K H ι κ S) (rd : Rep X.K H ι κ d dv) (ri : Rep X.K H ι κ i iv) (rv : Rep X.K H ι κ v vv) (e : setD d i v S = some S')
    (q : ∀ H', Ext H ι H' ι → Wd T X.K H' ι κ S' → Q H') : rSet dv iv vv H Q := by
  cases d with
  | ref n =>
    simp only [setD] at e
    have rd' := rd
    simp only [Rep] at rd'
    obtain ⟨a, rfl, ha⟩ := rd'
    split at e
    · rename_i xs hs
      obtain ⟨vs, h1, h2⟩ := w.ob n a _ ha hs
      split at e
      · rename_i j
        simp only [Rep] at ri
        obtain ⟨l, hl, rfl⟩ := Option.map_eq_some_iff.mp e
        exact .inl ⟨a, vs, j, l, rfl, ri, h1, by rw [← RepL.length h2]; exact hl, q _ (Ext.set (List.mem_of_getElem? ha)) (put_lst w ha (RepL.set l h2 rv))⟩
      · cases e
    · rename_i kvs hs
      obtain ⟨vs, h1, h2⟩ := w.ob n a _ ha hs
      split at e
      · rename_i kk hk
        split at e
        · rename_i hlen
          cases e
          obtain ⟨hv, hok⟩ := ky_rep ri hk
          refine .inr ⟨a, _, rfl, .inl ⟨vs, kk, h1, hv, ?_, rfl⟩, q _ (Ext.set (List.mem_of_getElem? ha)) (w.put ha ⟨_, upd_same, ?_⟩)⟩
          · rw [← (RepK.keys h2).2]
            have := LIM_line (n := kvs.length) (by omega)
            have h16 : sizeLine = 16777216 := sizeLine_eq
            unfold LIM at hlen; omega
          · exact RepK.mono (Ext.set (List.mem_of_getElem? ha)) w.mut (fun _ z => .inl z) (RepK.put h2 rv hok)
        · cases e
      · cases e
    · split at e
      · rename_i k hk
        simp [MP.D.tky] at hk
      · cases e
    · cases e
  | _ => simp [setD] at e
theorem sub_assign {i : Expr} {env : PySem.Env} (h : plainE i = true) : ∀ v, assign (.Subscript o i pos) env v = (do
      let ov ← holding [v] (eval o env)
      let iv ← holding [v, ov] (eval i env)
      standAt pos
      holding [v, ov, iv] (setItem ov iv v)
      release [v, ov, iv] []) := by
  intro v
  cases i <;> first | rfl | (simp [plainE] at h)
theorem st_sub (g : GdS T N Γ k X W sc) (ho : Snd T X W Γ x o) (hi : Snd T X W Γ y b) (hv : Snd T X W Γ z e) : PS X (.Assign [.Subscript o b p] e pos) (tS T X.K W Γ (.asgS x y z)) := by
  refine PS.wk (ps_asg hv.pe (pg_sub ho.pe hi.pe (set_any (by have := g.hu; omega)) (sub_assign hi.pl)) (by cases e <;> rfl) (by cases e <;> rfl) rfl) fun D σ H ⟨ι, κ, S, ρ, w, en, p⟩ => ?_
  simp only [evS] at p
  refine ⟨ι, κ, S, ρ, w, en, PostS.go p en w.mut fun d S1 v H1 ι1 _ e1 w1 r1 p1 => ⟨ι1, κ, S1, ρ, w1, en.up e1 w, PostS.go p1 (en.up e1 w) w1.mut fun d2 S2 v2 H2 ι2 _ e2 w2 r2 p2 => ⟨ι2, κ, S2, ρ, w2, (en.up e1 w).up e2 w1, PostS.go p2 ((en.up e1 w).up e2 w1) w2.mut fun d3 S3 v3 H3 ι3 _ e3 w3 r3 p3 => ?_⟩⟩⟩
  split at p3
  · rename_i S4 hs
    exact set_sound w3 (Rep.up r2 e3 w2) r3 (Rep.up (Rep.up r1 e2 w1) e3 w2) hs fun H' e' w' => p3 σ H' ι3 e' w' (((en.up e1 w).up e2 w1).up e3 w2 |>.up e' w3)
  · exact p3.elim
/-! fields -/
theorem setF_sound {κ : List Addr} {H : Hp} {ι : List Addr} {S S' : Sto} {d v : MP.D} {f : Str} {dv vv : V} {Q : Hp → Prop} (g : Gd T N Γ k X W sc) (hf : f ∈ T.flds) (w : Wd T X.K H ι κ S) (rd : Rep X.K H ι κ d dv) (rv : Rep X.K H ι κ v vv) (e : setF d f v S = some S')
    (q : ∀ H', Ext H ι H' ι → Wd T X.K H' ι κ S' → Q H') : ∃ a C dx fs, dv = .ref a ∧ H a = some (.ins C dx fs) ∧ Cls X.K C ∧ NoAttr X.K C f ∧ fs.length < 1000 ∧ Q (upd H a (.ins C dx (putF f vv fs))) := by
  unfold setF at e
  split at e
  · rename_i n
    simp only [Rep] at rd
    obtain ⟨a, rfl, ha⟩ := rd
    split at e
    · rename_i C fs hs
      obtain ⟨c, dx, gs, h1, h2, h3⟩ := w.ob n a _ ha hs
      split at e
      · rename_i hl
        cases e
        refine ⟨a, c, dx, gs, rfl, h2, g.glo.cls C c h1, g.glo.noat C c f h1 hf, by rw [← RepF.length h3]; omega, q _ (Ext.set (List.mem_of_getElem? ha)) (w.put ha ⟨c, dx, _, h1, upd_same, ?_⟩)⟩
        exact RepF.mono (Ext.set (List.mem_of_getElem? ha)) w.mut (fun _ z => .inl z) (putF_rep rv h3)
      · cases e
    · cases e
  · cases e
theorem st_fld (g : GdS T N Γ k X W sc) {f : Str} (hf : f ∈ T.flds) (ho : Snd T X W Γ x o) (hv : Snd T X W Γ z e) : PS X (.Assign [.Attribute o f p] e pos) (tS T X.K W Γ (.asgA x f z)) := by
  refine PS.wk (ps_fld ho.pe hv.pe (by cases e <;> rfl)) fun D σ H ⟨ι, κ, S, ρ, w, en, p⟩ => ?_
  simp only [evS] at p
  refine ⟨ι, κ, S, ρ, w, en, PostS.go p en w.mut fun d S1 v H1 ι1 _ e1 w1 r1 p1 => ⟨ι1, κ, S1, ρ, w1, en.up e1 w, PostS.go p1 (en.up e1 w) w1.mut fun d2 S2 v2 H2 ι2 _ e2 w2 r2 p2 => ?_⟩⟩
  split at p2
  · rename_i S4 hs
    exact setF_sound g.toGd hf w2 r2 (Rep.up r1 e2 w1) hs fun H' e' w' => p2 σ H' ι2 e' w' (((en.up e1 w).up e2 w1).up e' w2)
  · exact p2.elim
/-! augmented -/
def rInc (o : Operator) : TIp := fun x y H Q => ∃ i j m, x = .int i ∧ y = .int j ∧ incOp o (.int i) (.int j) = some (.int m) ∧ Q (.int m) H
theorem inc_sound (o : Operator) : PIp X o (rInc o) := by
  intro pins s σ H x y v u Q I rx ry ⟨i, j, m, ex, ey, h, q⟩
  cases o with
  | Add => simp only [incOp, Option.some.injEq, MP.D.int.injEq] at h; subst h; exact ip_add pins s σ H x y v u Q I rx ry ⟨i, j, ex, ey, q⟩
  | Sub => simp only [incOp, Option.some.injEq, MP.D.int.injEq] at h; subst h; exact ip_sub pins s σ H x y v u Q I rx ry ⟨i, j, ex, ey, q⟩
  | Mult =>
    simp only [incOp] at h
    split at h
    · rename_i hc
      simp only [Option.some.injEq, MP.D.int.injEq] at h
      subst h
      exact iop_mul pins s σ H x y v u Q I rx ry ⟨i, j, ex, ey, hc, q⟩
    · cases h
  | FloorDiv =>
    simp only [incOp] at h
    split at h
    · rename_i hc
      simp only [Option.some.injEq, MP.D.int.injEq] at h
      subst h
      exact iop_fdiv pins s σ H x y v u Q I rx ry ⟨i, j, ex, ey, hc, q⟩
    · cases h
  | _ => simp [incOp] at h
theorem inc_int {o : Operator} {d e z : MP.D} (h : incOp o d e = some z) : ∃ i j m, d = .int i ∧ e = .int j ∧ z = .int m := by
  unfold incOp at h
  split at h
  · cases h; exact ⟨_, _, _, rfl, rfl, rfl⟩
  · cases h; exact ⟨_, _, _, rfl, rfl, rfl⟩
  · split at h
    · cases h; exact ⟨_, _, _, rfl, rfl, rfl⟩
    · cases h
  · split at h
    · cases h; exact ⟨_, _, _, rfl, rfl, rfl⟩
    · cases h
  · cases h
theorem st_aug (g : GdS T N Γ k X W sc) {i : Nat} {n : Str} {op : Operator} (hN : N[i]? = some n) (hl : locB sc n = true) (hv : Snd T X W Γ z e) : PS X (.AugAssign (.Name n p) op e pos) (tS T X.K W Γ (.aug i op z)) := by
  obtain ⟨h1, h2⟩ := g.tgt n hl
  refine PS.wk (ps_aug (i := i) (by rw [g.hN]; exact g.nd) (by rw [g.hN]; exact hN) h1 hv.pe (inc_sound op) h2) fun D σ H ⟨ι, κ, S, ρ, w, en, p⟩ => ?_
  simp only [evS] at p
  split at p
  · rename_i d hd
    have : ρ[i]? = some (some d) := by
      unfold Env.get at hd
      split at hd <;> first | (rename_i h; rw [h, hd]) | cases hd
    obtain ⟨v, hv1, hv2⟩ := en.2 i d this
    refine ⟨v, hv1, ι, κ, S, ρ, w, en, PostS.go p en w.mut fun d2 S1 u H1 ι1 _ e1 w1 r1 p1 => ?_⟩
    split at p1
    · rename_i zz hz
      obtain ⟨i', j', m, rfl, rfl, rfl⟩ := inc_int hz
      have r1 : Rep X.K H1 ι1 κ (.int j') u := r1
      simp only [Rep] at hv2 r1
      exact ⟨i', j', m, hv2, r1, hz, p1 _ H1 ι1 Ext.refl w1 ((en.up e1 w).set (by simp only [Rep]))⟩
    · exact p1.elim
  · exact p.elim
theorem st_augA (g : GdS T N Γ k X W sc) {f : Str} {op : Operator} (hf : f ∈ T.flds) (ho : Snd T X W Γ x o) (hv : Snd T X W Γ z e) : PS X (.AugAssign (.Attribute o f p) op e pos) (tS T X.K W Γ (.augA x f op z)) := by
  refine PS.wk (ps_fldaug ho.pe hv.pe (inc_sound op)) fun D σ H ⟨ι, κ, S, ρ, w, en, p⟩ => ?_
  simp only [evS] at p
  refine ⟨ι, κ, S, ρ, w, en, PostS.go p en w.mut fun d S1 v H1 ι1 _ e1 w1 r1 p1 => ?_⟩
  split at p1
  · rename_i dv hd
    have r1 : Rep X.K H1 ι1 κ d v := r1
    have hd' := hd
    unfold fldD at hd
    split at hd
    · split at hd
      · rename_i n _ _ _ C fs hs
        have r1' := r1
        simp only [Rep] at r1'
        obtain ⟨ad, rfl, hn⟩ := r1'
        obtain ⟨c, dx, gs, h1, h2, h3⟩ := w1.ob _ ad _ hn hs
        obtain ⟨u, h4, h5⟩ := (lookup_rep h3).1 dv hd
        refine ⟨ad, c, dx, gs, u, rfl, h2, g.glo.cls C c h1, g.glo.noat C c f h1 hf, h4, ι1, κ, S1, ρ, w1, en.up e1 w, PostS.go p1 (en.up e1 w) w1.mut fun d2 S2 v2 H2 ι2 _ e2 w2 r2 p2 => ?_⟩
        split at p2
        rotate_left
        · exact p2.elim
        rename_i hsame
        split at p2
        · rename_i zz hz
          obtain ⟨i', j', m, rfl, rfl, rfl⟩ := inc_int hz
          have r2 : Rep X.K H2 ι2 κ (.int j') v2 := r2
          simp only [Rep] at h5 r2
          split at p2
          · rename_i S4 hs4
            simp only [sameC, hs] at hsame
            simp only [setF] at hs4
            cases hs2 : S2.get n with
            | none => rw [hs2] at hsame; cases hsame
            | some ob =>
              rw [hs2] at hsame hs4
              cases ob with
              | ins C2 fs2 =>
                obtain rfl := of_decide_eq_true hsame
                have hn2 := getE e2 hn
                obtain ⟨c2, dx2, gs2, k1, k2, k3⟩ := w2.ob _ ad _ hn2 hs2
                rw [h1] at k1
                cases k1
                simp only at hs4
                split at hs4
                · rename_i hl
                  cases hs4
                  refine ⟨i', j', m, h5, r2, hz, dx2, gs2, k2, by rw [← RepF.length k3]; omega, ?_⟩
                  have hm := List.mem_of_getElem? hn2
                  refine p2 σ _ ι2 (Ext.set hm) (w2.put hn2 ⟨c, dx2, _, h1, upd_same, ?_⟩) (((en.up e1 w).up e2 w1).up (Ext.set hm) w2)
                  exact RepF.mono (Ext.set hm) w2.mut (fun _ z => .inl z) (putF_rep (by simp only [Rep]) k3)
                · cases hs4
              | _ => cases hsame
          · exact p2.elim
        · exact p2.elim
      · cases hd
    · cases hd
  · exact p1.elim
theorem st_par (g : GdS T N Γ k X W sc) {i j : Nat} {n m : Str} {np mp tp vp : Pos} {kt kv : Nat} (hi : N[i]? = some n) (hj : N[j]? = some m) (hij : i ≠ j) (hB : parB sc [.Name n np, .Name m mp] [a, b] = true) (ha : SndL T X W Γ xs [a, b]) :
    PS X (.Assign [.Tuple [.Name n np, .Name m mp] kt tp] (.Tuple [a, b] kv vp) pos) (tS T X.K W Γ (.par [i, j] xs)) := by
  simp only [parB, Bool.and_eq_true, Bool.not_eq_true', decide_eq_true_eq] at hB
  have hB0 := hB
  obtain ⟨⟨⟨_, ⟨⟨h1, h2⟩, h3⟩, h4⟩, h5⟩, h6⟩ := hB
  have hw : swappedStores [.Tuple [.Name n np, .Name m mp] kt tp] (.Tuple [a, b] kv vp) X.env = pure (some [n, m]) := by
    exact par_eq g.kind ha.plain (by rw [g.sc]; simp only [parB, Bool.and_eq_true, Bool.not_eq_true', decide_eq_true_eq]; exact hB0)
  refine PS.wk (ps_par (i := i) (j := j) g.calm (by rw [g.hN]; exact g.nd) (by rw [g.hN]; exact hi) (by rw [g.hN]; exact hj) hij (by rw [g.sc]; exact h1) (by rw [g.sc]; exact h2) ha.pa hw rfl) fun D σ H ⟨ι, κ, S, ρ, w, en, p⟩ => ?_
  simp only [evS] at p
  refine ⟨ι, κ, S, ρ, w, en, PostS.go p en w.mut fun ds S1 vs H1 ι1 _ e1 w1 r1 p1 => ?_⟩
  have r1 : RepL X.K H1 ι1 κ ds vs := r1
  split at p1
  · rename_i ρ' hs
    cases ds with
    | nil => simp [setAll] at hs
    | cons d1 ds =>
      cases ds with
      | nil => simp [setAll] at hs
      | cons d2 ds =>
        cases ds with
        | nil =>
          obtain ⟨v, u, rfl, hv, hu⟩ := RepL.two r1
          simp only [setAll] at hs
          split at hs
          · split at hs
            · cases hs
              exact ⟨v, u, rfl, p1 _ H1 ι1 Ext.refl w1 (((en.up e1 w).set hv).set hu)⟩
            · cases hs
          · cases hs
        | cons _ _ => simp [setAll] at hs
  · exact p1.elim
end
end MP
end

section
set_option Elab.async false
set_option linter.all false
set_option maxRecDepth 100000
set_option maxHeartbeats 2000000
/-! MpZ: an own exception whose __init__ says super().__init__(text + str(x)) and keeps x in a field. -/
namespace MP
open PySem PySem.Spec PyProof.Rows L2
/-- what the written part says of it -/
structure SupC (K : PySem.W.Frag) (file : Str) (C fI : Addr) (qual : Str) (params : Arguments) (body : List Stmt) (scope : Scope) (fd : FuncData) : Prop where
  T : OexC K C
  fn : ∃ (name : Str) (cc cd : Addr) (dV kV doc pm ct oc : Value) (an od : Option Addr) (osl : Array (Option Value)), fd = PySem.W.fnX name qual params body scope [("__class__", cc)] dV kV doc pm an (.ref cd) ct ∧ K.lookup fI = some ⟨oc, od, .func fd, osl⟩ ∧ PySem.W.codeIn K (.ref cd) qual = true ∧
    (∃ (c1 : Value) (c2 : Option Addr) (vs : Array Value) (c3 : Array (Option Value)) (tf : Tok), K.lookup cd = some ⟨c1, c2, .fields vs, c3⟩ ∧ vs[2]? = some (.str file tf)) ∧ ∃ (c1 : Value) (c2 : Option Addr) (c3 : Array (Option Value)), K.lookup cc = some ⟨c1, c2, .cell (some (.ref C)), c3⟩
  sup : PySem.W.nsIn K mainGlobals "super" = some none
  opq : PySem.W.nsIn K cStatics "thirdparty.any" = some none
  up : ∃ cd, PySem.W.clsIn K C = some cd ∧ PySem.W.alongIn K "__init__" ((cd.mro.dropWhile (· != .ref C)).drop 1) = some (some (.builtin "ValueError.__init__"))
  own : PySem.W.mroIn K C (.ref C) = some true
  ve : PySem.W.mroIn K C (.type "ValueError") = some true
section
variable {X : Cx} {pins : List (Addr × Obj)} {σ : L2.St} {H : Hp} {s : Shared}
/-- the bound ValueError.__init__ called -/
theorem call_bound {A : Around} {E : Value → Shared → Prop} {C a u : Addr} {us : List Value} {Q : Value → Shared → Prop} (T : OexC X.K C) (I : L2.Inv X pins σ H s) (e : H a = some (exo a C none)) (hu : s.heap.get? u = some (PySem.W.kxs_mw "ValueError.__init__" a)) (hl : us.length ≤ sizeLine) (h : ∀ s', L2.Inv X pins σ H s' → Q .none s') :
    wpAny (model X.prog X.w) A (call (.ref u) us) Q E s := by
  obtain ⟨nm, q, N, bs, bm, sn, sub, ab, col, dd, k0, k1, k2, k3, k5, hC, hbm⟩ := T.cls
  obtain ⟨t1, ho⟩ := exo_at I.hok e
  have hC' := I.kIn _ _ hC
  obtain ⟨hp, g, d, t, os⟩ := s
  refine wpAny_call (codeAny_of_tree ?_)
  show wpAny _ A.in1 (callAny (.ref u) ⟨us, []⟩) _ _ _
  simp only [callAny]
  refine wpAny_bind (wpAny_load hu ?_)
  simp only [PySem.W.kxs_mw, show (Value.type "method-wrapper" == Value.type "method" || Value.type "method-wrapper" == Value.type "builtin_function_or_method" || Value.type "method-wrapper" == Value.type "method-wrapper") = true by decide, if_true]
  refine PySem.W.KFB.if_so (by decide) ?_
  refine wpAny_bind (PySem.ESX.check_bound F.excBase_ValueError hC' ho rfl ?_)
  refine wpAny_bind (wpAny_pure (wpAny_pure ⟨plainId_quiet F.excBase_ValueError.init.plain _, codeAny_builtin F.excBase_ValueError.initEntry ?_⟩))
  refine PySem.W.exc_init_tree (cls := .ref C) (t0 := t1) (dv := none) (c2 := .none) (c3 := .none) (b4 := .bool false) ho hl fun h' k hx _ => ?_
  have J := I.write (t' := t) (x := a) (e := a) (o := exo a C none) (by rw [e]; exact True.intro) (.inl rfl) k ⟨_, hx⟩ (exo_ok hx)
  have eu : upd H a (exo a C none) = H := by
    funext b
    by_cases hb : b = a
    · rw [hb, upd_same, e]
    · rw [upd_ne hb]
  rw [eu] at J
  exact h _ J
/-- text + str(v) gives a text -/
def MsgOk (z0 : Str) (v : V) : Prop := (∃ z, v = .str z ∧ z0.length + z.length ≤ sizeLine) ∨ ∃ i : Int, v = .int i ∧ i.natAbs < 1000000000000000000 ∧ z0.length ≤ 1000
theorem log2_small {i : Int} (h : i.natAbs < 1000000000000000000) : i.natAbs.log2 < 1920 := by
  have h1 : i.natAbs < 2 ^ 60 := Nat.lt_of_lt_of_le h (by decide)
  by_cases h0 : i.natAbs = 0
  · rw [h0]; decide
  · have := (Nat.log2_lt h0).mpr h1
    omega
theorem str_len {i : Int} (h : i.natAbs < 1000000000000000000) : (Str.ofString (toString i)).length ≤ 1921 := int_text_len_1921 (log2_small h)
/-- the promise: x is kept in f -/
def spSup (z0 f : Str) (C : Addr) : Sp := fun vs H Q _ => ∃ a v, vs = [.ref a, v] ∧ H a = some (exo a C none) ∧ MsgOk z0 v ∧ ∀ dx, H dx = none → dx ≠ a → Q .non (upd (upd H dx (exd dx [(f, v)])) a (exo a C (some dx)))
theorem sup_ok {CX : CXT} {P : Program} {w : World} {K : PySem.W.Frag} {mg : Str → Option Value} {base : Heap} {k : Nat} {file : Str} {C fI : Addr} {qual : Str} {params : Arguments} {body : List Stmt} {scope : Scope} {fd : FuncData} {x f z0 : Str} {ar : Arg} {j0 : Nat} {p0 p1 p2 p3 p4 p5 p6 p7 p8 p9 q1 q2 q3 q4 : Pos}
    (hs : SupC K file C fI qual params body scope fd) (hfile : ((P.main.file : Str) == file) = true) (htop : (P.main.scope.names.lookup ("super" : Str)).isSome = false) (S : NdefX.NScope ["self", x, "__class__"] ["self", x] ["__class__"] scope)
    (hb : body = [.Expr (.Call (.Attribute (.Call (.Name "super" p0) [] [] p1) "__init__" p2) [.BinOp (.Constant (.str z0) j0 p5) .Add (.Call (.Name "str" p6) [.Name x p7] [] p8) p9] [] p3) p4, .Assign [.Attribute (.Name "self" q1) f q2] (.Name x q3) q4])
    (hp : (params.posonlyargs ++ params.args).head? = some ar) (har : ar.arg = "self") (hks : scope.names.lookup ("super" : Str) = some .globalImplicit) (hst : scope.names.lookup ("str" : Str) = some .globalImplicit) (hstr : mg "str" = none) (hx : nmB x = true) (hno : PySem.W.findIn K (.ref C) f = some none) 
    (hev : ∀ env : PySem.Env, ∃ pl : Sem Bool, eval (.Call (.Attribute (.Call (.Name "super" p0) [] [] p1) "__init__" p2) [(.BinOp (.Constant (.str z0) j0 p5) .Add (.Call (.Name "str" p6) [.Name x p7] [] p8) p9)] [] p3) env = (do
      let ov ← attributeBase (.Call (.Name "super" p0) [] [] p1) "__init__" env (eval (.Call (.Name "super" p0) [] [] p1) env)
      standAt p2.atName
      let (g, first) ← holding [ov] (getMethod ov "__init__" pl)
      callWith p3 g first (backTo p3 (starEach [(.BinOp (.Constant (.str z0) j0 p5) .Add (.Call (.Name "str" p6) [.Name x p7] [] p8) p9)] env)) [])) :
    FnOk P w K mg base CX (k + 1) fI fd ["self", x] (spSup z0 f C) := by
  refine ⟨fun vs H Q E ⟨a, v, e, _⟩ => by rw [e]; rfl, fun A outer s H args us vs Q E hr e0 hbd r hsp => ?_⟩
  obtain ⟨name, cc, cd, dV, kV, doc, pm, ct, oc, an, od, osl, rfl, lk, hcd, ⟨c1, c2, fvs, c3, tf, hcode, hvs⟩, d1, d2, d3, hcell⟩ := hs.fn
  obtain ⟨a, v, rfl, ea, hmsg, hq⟩ := hsp
  obtain ⟨u1, u2, rfl, ru1, ru2⟩ := vals2 r
  obtain rfl : u1 = Value.ref a := ru1
  have KX : K.In s.heap := e0.mod.kin.keeps fun b o e => (e0.bs b o e).1
  have lim : s.heap.NoLimit := e0.mod.nolimit.keeps fun b o e => (e0.bs b o e).1
  let NFv : NdefX.NF := ⟨name, qual, params, body, scope, [("__class__", cc)], cd⟩
  have hcc0 : H cc = none := by
    have := e0.mod.kin _ _ hcell
    exact (e0.bs _ _ this).2
  have Cl : NdefX.CellsAt NFv.cl ["__class__"] [some (.ref C)] s.heap H := {
    len := rfl
    all := fun y c e => by
      have e : List.lookup y [(("__class__" : Str), cc)] = some c := e
      simp only [List.lookup] at e
      split at e
      · cases e; exact ⟨hcc0, _, _, KX _ _ hcell, rfl⟩
      · cases e
    inj := fun y z c e1 e2 => by
      have e1 : List.lookup y [(("__class__" : Str), cc)] = some c := e1
      have e2 : List.lookup z [(("__class__" : Str), cc)] = some c := e2
      simp only [List.lookup] at e1 e2
      split at e1
      · rename_i h1
        split at e2
        · rename_i h2
          rw [beq_iff_eq] at h1 h2
          rw [h1, h2]
        · cases e2
      · cases e1
    has := fun i y e => by
      have hi : i = 0 ∧ y = "__class__" := by
        cases i with
        | zero => exact ⟨rfl, (Option.some.inj e).symm⟩
        | succ i => simp at e
      obtain ⟨rfl, rfl⟩ := hi
      exact ⟨cc, rfl, fun v e => by cases e; exact ⟨_, rfl, _, KX _ _ hcell, rfl⟩⟩ }
  refine ks_codeAny_call_defAt (fd := PySem.W.fnX name qual params body scope [("__class__", cc)] dV kV doc pm an (.ref cd) ct) (body := body) (binds := [("self" : Str), x].zip [Value.ref a, u2]) hr.depth (KX _ _ lk) rfl lim (PySem.W.codeRec_of KX hcd) rfl hbd S.nocell (fun ⟨n, _⟩ hy => S.par n (List.of_mem_zip hy).1) (fun h₁ hns kp => ?_) S.co S.gen S.kind
  have I : L2.Inv (NdefX.ncx CX P w K mg base [("self" : Str), x, "__class__"] NFv fI A outer s H E) [] (NdefX.startF [("self" : Str), x, "__class__"] [.ref a, v] [some (.ref C)]) H { s with heap := h₁, toks := s.toks + ([("self" : Str), x].zip [Value.ref a, u2]).length } := NdefX.inv_startN S hr.hd e0 rfl r Cl hns kp
  show _root_.PySem.wpAt (model P w) (A.deeper (NdefX.envF NFv fI s.heap.objs.size)) (.func body (NdefX.envF NFv fI s.heap.objs.size)) (execs body (NdefX.envF NFv fI s.heap.objs.size)) _ _ _
  obtain ⟨cdv, hcv, hal⟩ := hs.up
  obtain ⟨oD, hD1, hD2⟩ : ∃ oD, K.lookup C = some oD ∧ oD.data = .cls cdv := by
    unfold PySem.W.clsIn at hcv
    split at hcv
    · rename_i ho; cases hcv; exact ⟨_, ho, rfl⟩
    · cases hcv
  have hC0 : H C = none := (e0.bs _ _ (e0.mod.kin _ _ hD1)).2
  have haC : a ≠ C := fun z => by rw [z, hC0] at ea; cases ea
  obtain ⟨mb, b1, b2⟩ := I.mod.blt
  have hmgS : mg "super" = none := PySem.W.mg_none_of I.mod.kin I.mod.glob hs.sup
  have hkc : scope.names.lookup ("__class__" : Str) = some .free := S.frk _ List.mem_cons_self
  have hka : scope.names.lookup ("self" : Str) = some .local := S.par _ List.mem_cons_self
  have hkx : scope.names.lookup x = some .local := S.par _ (List.mem_cons_of_mem _ List.mem_cons_self)
  have hxs : (("self" : Str) == x) = false := by
    have := S.nd
    simp only [List.nodup_cons, List.mem_cons, not_or] at this
    exact beq_false_of_ne this.1.1
  subst hb
  obtain ⟨pl, hev⟩ := hev (NdefX.envF NFv fI s.heap.objs.size)
  refine ks_wpAt_execs_cons (ks_wpAt_Expr_any (hi := by unfold interactive; rw [show (NdefX.envF NFv fI s.heap.objs.size).scope.kind = .function from S.kind]; rfl) (ks_wpAt_MethodCall (pl := pl) (he := hev) (ks_wpAt_super_base hks hkc (by decide) rfl (kp _ _ (KX _ _ lk)) rfl hp rfl (kp _ _ (KX _ _ hcode)) rfl hvs hfile htop ?_)))
  refine PySem.W.ks_loadName_global S.kind hks (Calls.loadGlobal_builtin (I.mod.glob.keeps I.bk) hmgS (b1.keeps I.bk) ((b2 _ (by decide)).trans (by decide +kernel : bootBuiltins "super" = some (.type "super"))) ⟨rfl, ?_⟩)
  refine wpAny_loadName_free S.kind hkc rfl ⟨_, kp _ _ (KX _ _ hcell), rfl⟩ ?_
  rw [har]
  refine wpAny_loadName_local S.kind hka hns (v := .ref a) (by simp [List.lookup, hxs]) ?_
  refine ks_wpAny_isType_cls (kp _ _ (KX _ _ hD1)) hD2 ⟨rfl, ?_⟩
  obtain ⟨t1, hxo⟩ := exo_at I.hok ea
  refine ks_wpAny_call_super (kp _ _ (KX _ _ hD1)) hD2 hxo rfl (fun c z => nomatch z) (PySem.W.looks_mroIn I.kIn hs.own) fun h2 hso k2 => ?_
  have I2 : L2.Inv (NdefX.ncx CX P w K mg base [("self" : Str), x, "__class__"] NFv fI A outer s H E) [] (NdefX.startF [("self" : Str), x, "__class__"] [.ref a, v] [some (.ref C)]) H { s with heap := h2, toks := s.toks + ([("self" : Str), x].zip [Value.ref a, u2]).length } := I.kept (t' := s.toks + ([("self" : Str), x].zip [Value.ref a, u2]).length) k2
  have J : PySem.W.InstAt h2 a _ C none := ⟨k2 _ _ hxo, rfl, rfl, trivial⟩
  refine PySem.W.kxs_getMethod PySem.W.kxs_ValueError hso (PySem.W.looks_opaque I2.kIn hs.opq) ((PySem.W.looks_clsIn I2.kIn hcv).andThen .now) rfl I2.kIn hal (J.type.andThen (PySem.W.looks_mroIn I2.kIn hs.ve)) haC (by decide) ?_
  have I3 := I2.kept (h' := h2.push (PySem.W.kxs_mw "ValueError.__init__" a)) (t' := s.toks + ([("self" : Str), x].zip [Value.ref a, u2]).length + 1) fun b o e => Heap.get?_push_of_some _ e
  obtain ⟨f0, f1, f2, _⟩ := I2.fpOk (H' := H) (b := h2.objs.size) (Nat.le_refl _) (I2.hok.fresh (Nat.le_refl _))
  have hget : (h2.push (PySem.W.kxs_mw "ValueError.__init__" a)).get? h2.objs.size = some (PySem.W.kxs_mw "ValueError.__init__" a) := Heap.get?_push_size _ rfl
  have I4 := I3.pins_of (pins' := [(h2.objs.size, PySem.W.kxs_mw "ValueError.__init__" a)]) fun p hp => by
    rw [List.mem_singleton.mp hp]
    exact ⟨hget, f0, f1, f2, fun v z => nomatch z⟩
  have hsl : s.heap.get? h2.objs.size = none := by
    cases z : s.heap.get? h2.objs.size with
    | none => rfl
    | some o =>
      exact absurd (Heap.lt_size (k2 _ _ (kp _ _ z))) (Nat.lt_irrefl _)
  have hvar : PE (NdefX.ncx CX P w K mg base [("self" : Str), x, "__class__"] NFv fI A outer s H E) (.Name x p7) (tVar 1) := pe_var rfl (.inl hkx) (nmB_dbg hx) (nmB_cd hx)
  refine PySem.W.kxs_callWith1 (i := "ValueError.__init__") (x := a) (h₀ := s.heap) (L := s.heap.objs.size) (news := [(h2.objs.size, PySem.W.kxs_mw "ValueError.__init__" a)]) (fun p hp => by
    rw [List.mem_singleton.mp hp]
    exact ⟨hget, f1, hsl⟩) List.mem_cons_self ?_
  have hpa : ∃ ta, PA (NdefX.ncx CX P w K mg base [("self" : Str), x, "__class__"] NFv fI A outer s H E) [.BinOp (.Constant (.str z0) j0 p5) .Add (.Call (.Name "str" p6) [.Name x p7] [] p8) p9] ta ∧ ta (NdefX.startF [("self" : Str), x, "__class__"] [.ref a, v] [some (.ref C)]) H (fun vs H1 => ∃ z : Str, vs = [.str z] ∧ H1 = H) := by
    have hstb : bootBuiltins "str" = some (.type "str") := by decide +kernel
    rcases hmsg with ⟨z, rfl, hz⟩ | ⟨i, rfl, hi, hz⟩
    · exact ⟨_, pa_cons (pe_op op_add_str pe_str (pe_callTy SkE.call_str_str hst hstr hstb (pa_cons hvar pa_nil))) pa_nil, ⟨.str z, rfl, z, rfl, z0, z, rfl, rfl, hz, z0 ++ z, rfl, rfl⟩⟩
    · refine ⟨_, pa_cons (pe_op op_add_str pe_str (pe_callTy call_str_int hst hstr hstb (pa_cons hvar pa_nil))) pa_nil, ⟨.int i, rfl, i, rfl, ?_, z0, _, rfl, rfl, ?_, _, rfl, rfl⟩⟩
      · exact log2_small hi
      · have := str_len hi
        rw [sizeLine_eq]
        show z0.length + (Str.ofString (toString i)).length ≤ _
        omega
  obtain ⟨ta, hpa, hta⟩ := hpa
  refine thn (hpa.run p3 _ _ _ H _ I4 hta) fun us s5 hh => ?_
  obtain ⟨vs, H1, I5, rv, z, rfl, rfl⟩ := hh
  have hu := (I5.pin (h2.objs.size, PySem.W.kxs_mw "ValueError.__init__" a) (List.mem_append_right _ List.mem_cons_self)).1
  refine ⟨hu, call_bound hs.T I5 ea hu (by rw [← rv.length, sizeLine_eq]; simp) fun s6 I6 => ?_⟩
  refine wpAt_of_wpAny ?_
  have I7 := I6.pins_of (pins' := []) fun p hp => by cases hp
  have hps := pss_one (ps_ost (p' := q2) (pos := q4) (f := f) (pe_var (X := NdefX.ncx CX P w K mg base [("self" : Str), x, "__class__"] NFv fI A outer s H1 E) (i := 0) (pos := q1) rfl (.inl hka)) (pe_var (X := NdefX.ncx CX P w K mg base [("self" : Str), x, "__class__"] NFv fI A outer s H1 E) (i := 1) (pos := q3) rfl (.inl hkx) (nmB_dbg hx) (nmB_cd hx)))
  refine wpAny_mono (hps.run [] _ _ H1 { nx := fun _ H' => Q .non H', rt := Q } I7 ⟨v, rfl, .ref a, rfl, a, C, rfl, hs.T, hno, .inl ⟨ea, fun dx d1 d2 => ?_⟩⟩) (fun fl s' hs' => ?_) fun e s' hs' => hs'
  · exact hq dx d1 d2
  · have fin : ∀ {σ' : L2.St} {H' : Hp} {v' : V} {u' : Value}, L2.Inv (NdefX.ncx CX P w K mg base [("self" : Str), x, "__class__"] NFv fI A outer s H1 E) [] σ' H' s' → L2.RelV v' u' → Q v' H' → CE outer P w H1 s Q u' s' := fun {σ' H' v' u'} J2 rv2 q2 => ⟨v', H', J2.os, J2.bare, J2.base, J2.hok, rv2, q2⟩
    cases fl with
    | ret u =>
      obtain ⟨v', σ', H', J2, rv2, q2⟩ := hs'
      exact fin J2 rv2 q2
    | next =>
      obtain ⟨σ', H', J2, q2⟩ := hs'
      exact fin (v' := V.non) (u' := Value.none) J2 rfl q2
    | brk =>
      obtain ⟨_, _, _, q2⟩ := hs'
      exact False.elim q2
    | cont =>
      obtain ⟨_, _, _, q2⟩ := hs'
      exact False.elim q2
end
end MP
end

section
set_option Elab.async false
set_option linter.all false
set_option maxRecDepth 100000
/-! MpZ2: a try statement whose clauses may have names. -/
namespace MP
open PySem PySem.Spec PyProof.Rows L2
/-- a clause: the class, the slot of its name, what its suite does -/
structure Cls3 where
  c : Value
  i : Option Nat
  ts : Addr → Value → Option Addr → TS
def gone3 (i : Nat) (D : Ends) : Ends := { nx := fun σ' H' => D.nx (σ'.set i none) H', rt := D.rt, bk := fun σ' H' => D.bk (σ'.set i none) H', ct := fun σ' H' => D.ct (σ'.set i none) H' }
def run3 (z : Cls3) (a : Addr) (cls : Value) (d : Option Addr) (D : Ends) (σ : L2.St) (H : Hp) : Prop := match z.i with
  | none => z.ts a cls d D σ H
  | some i => z.ts a cls d (gone3 i D) (σ.set i (some (.ref a))) H
def wMix (K : PySem.W.Frag) (Wout : WX) (D : Ends) : List Cls3 → WX
  | [] => Wout
  | z :: r => fun cls d σ H => ∃ b, PySem.W.exmOne K cls z.c = some b ∧ (b = true → ∀ a, H a = none → run3 z a cls d D σ H) ∧ (b = false → wMix K Wout D r cls d σ H)
def Nm3 (X : Cx) (i : Option Nat) (n : Option Str) : Prop := match i, n with
  | none, none => True
  | some i, some n => X.N[i]? = some n ∧ X.env.kindOf n = some .local
  | _, _ => False
inductive Mix (X : Cx) : List ExceptHandler → List Cls3 → Prop
  | nil : Mix X [] []
  | cons {x : Str} {n : Option Str} {z : Cls3} {b₀ : Stmt} {suite : List Stmt} {np p' : Pos} {hds : List ExceptHandler} {l : List Cls3} (hc : Names X x z.c) (hn : Nm3 X z.i n)
      (hsu : ∀ (a : Addr) (oe : Obj) (cls : Value) (d : Option Addr) (pn : List (Addr × Obj)), Zc cls d oe → (∃ vs, oe.data = .fields vs) → PSs (X.suite a ((a, oe) :: pn)) (b₀ :: suite) (z.ts a cls d)) (r : Mix X hds l) :
      Mix X (.ExceptHandler (some (.Name x np)) n (b₀ :: suite) p' :: hds) (z :: l)
section
variable {X : Cx} {body : List Stmt} {h₀ : ExceptHandler} {hds : List ExceptHandler} {l : List Cls3} {pos : Pos} {tb : WX → TS} {Wout : WX}
theorem ps_try_mix (hs : X.stack = X.env :: X.outer) (hf : X.env.frame = some X.env.locals) (hN : X.N.Nodup) (tk : Takes X Wout)
    (hb : ∀ (W : WX) (pn : List (Addr × Obj)) (xe : Value → Shared → Prop), Takes (X.tr pn xe) W → PassesOwn (model X.prog X.w) X.A X.env xe → PSs (X.tr pn xe) body (tb W))
    (hh : Mix X (h₀ :: hds) l) : PS X (.Try body (h₀ :: hds) [] [] pos) (fun D σ H => tb (wMix X.K Wout D l) D σ H) := by
  refine ⟨fun pn0 s σ H D I hyp => ?_⟩
  have okX := I.ok
  have hfrm : X.A.frames = some (X.env :: X.outer) := by rw [okX.frames, hs]
  refine wpAny_Try_except (wpAny_mono ((hb (wMix X.K Wout D l) (X.pn ++ pn0) (fun e s₁ => wpAny (model X.prog X.w) X.A (noteFrame e X.env) (fun _ s₂ => wpAny (model X.prog X.w) X.A (setFlight e none) (fun _ s₃ =>
    wpAny (model X.prog X.w) X.A (handleBy e X.env (h₀ :: hds)) (SP X pn0 D) X.xe s₃) X.xe s₂) X.xe s₁) (fun u s' xx => ?_) PassesOwn.looking).run [] s σ H D (I.toTry _) hyp) (fun fl s1 hsp => ?_) (fun e s1 he => he))
  · obtain ⟨a, B, sI, pn1, σ1, H1, cls, d, rfl, J0, nb, up, sky, na, os, ag, wm⟩ := xx
    have J : L2.Inv X pn0 σ1 H1 sI := J0.ofTry okX
    have sky2 : Sky B (X.env :: X.outer) a (Zc cls d) X.env.locals s'.heap := by rw [← hs]; exact sky
    show wpAny (model X.prog X.w) X.A (noteFrame (.ref a) X.env) _ _ _
    refine Sky.land Zc.steady hfrm hf sky2 fun h3 fl3 up3 => ?_
    have J3 : L2.Inv X pn0 σ1 H1 { s' with heap := h3 } := J.landed nb fl3.1 (up.trans up3) os ag
    obtain ⟨o3, v3, he3, hz3, hd3⟩ := fl3.there
    have offFr : a ∉ frs (X.env :: X.outer) := fun hm => by
      obtain ⟨_, o', e', hnf⟩ := fl3.2.2.1.mem hm
      rw [he3] at e'; cases e'
      exact hnf _ hd3
    have nL : a ≠ X.env.locals := fun z => offFr (List.mem_filterMap.mpr ⟨X.env, List.mem_cons_self, by rw [hf, z]⟩)
    have nF : a ∉ X.fs := fun hm => by
      obtain ⟨e, he, q⟩ := List.mem_filterMap.mp hm
      exact offFr (List.mem_filterMap.mpr ⟨e, List.mem_cons_of_mem _ he, q⟩)
    have S3 := J3.suite he3 hd3 na nL nF
    have go : ∀ {hl : List ExceptHandler} {l2 : List Cls3}, Mix X hl l2 → wMix X.K Wout D l2 cls d σ1 H1 → wpAny (model X.prog X.w) X.A (handleBy (.ref a) X.env hl) (SP X pn0 D) X.xe { s' with heap := h3 } := by
      intro hl l2 hk
      induction hk with
      | nil =>
        intro wo
        obtain ⟨k1, k2, k3, oe, vs, tb', oT, ts', he, hz, hd, hf1, hr⟩ := id fl3
        refine wpAny_handleBy_nil ?_
        unfold PySem.passOn
        refine wpAny_bind (wpAny_field he hd hf1 ?_)
        rw [if_neg (show ¬ ((Value.ref tb' == Value.none) = true) from by simp)]
        have last : wpAny (model X.prog X.w) X.A (setFlight (.ref a) X.env.frame) (fun _ s4 => wpAny (model X.prog X.w) X.A (throw (.ref a) : Sem Flow) (SP X pn0 D) X.xe s4) X.xe { s' with heap := h3 } := by
          rw [hf]
          exact HandSPX.setFlight_upZ fl3 fun h4 hh4 up4 => wpAny_throw (tk _ _ ⟨a, B, sI, pn0, σ1, H1, cls, d, rfl, J, nb, (up.trans up3).trans up4, .inr (.inr (by rw [hs]; exact hh4)), na, os, ag, wo⟩)
        first | exact wpAny_bind (wpAny_pure (wpAny_bind last)) | exact wpAny_bind last
      | @cons x n z b₀ suite np p' hds2 l3 hc hn hsu r ih =>
        intro wo
        obtain ⟨b, hb1, hyes, hno⟩ := wo
        refine wpAny_handleBy_cons (codeAny_handlers_test ?_) (by intro q; cases q)
        have LT : PySem.W.Looks (model X.prog X.w) h3 (typeOf (.ref a)) cls := fun A Q E s k q => wpAny_typeOf_ref (k _ _ he3) (by rw [hz3.1]; exact q)
        have LM := PySem.W.exm_one (M := model X.prog X.w) (J3.kIn) LT hb1
        have asked : ∀ {Q : Value → Shared → Prop} {E : Value → Shared → Prop}, Q z.c { s' with heap := h3 } → wpAny (model X.prog X.w) (X.A.mark (some (.ref a))) (eval (.Name x np) X.env) Q E { s' with heap := h3 } := fun {Q E} q => by
          obtain ⟨hg, hdbg, hm | ⟨hm, hv, hnn⟩⟩ := hc
          · exact ld_glob (X := X.suite a ((a, o3) :: (X.pn ++ pn0))) S3 hg hm q hdbg
          · exact ld_blt (X := X.suite a ((a, o3) :: (X.pn ++ pn0))) S3 hg hm hv q hnn hdbg
        refine asked (LM.here ?_)
        cases b with
        | false => exact ih (hno rfl)
        | true =>
          have hrun := hyes rfl a na
          obtain ⟨zc, zi, zts⟩ := z
          cases zi with
          | none =>
            cases n with
            | some n => exact hn.elim
            | none =>
              refine codeAny_handlers_suite (HandSPX.lands_againZ fl3 fun h4 fl4 up4 => ?_)
              have J4 : L2.Inv X pn0 σ1 H1 { s' with heap := h4 } := J.landed nb fl4.1 ((up.trans up3).trans up4) os ag
              obtain ⟨o4, v4, he4, hz4, hd4⟩ := fl4.there
              have S4 := J4.suite he4 hd4 na nL nF
              refine wpAny_mono ((hsu a o4 cls d (X.pn ++ pn0) hz4 ⟨_, hd4⟩).run [] _ _ H1 _ S4 hrun) (fun f s6 hsp => ?_) (fun _ _ z => False.elim z)
              cases f with
              | next => obtain ⟨σ6, H6, S6, q6⟩ := hsp; exact ⟨_, _, S6.unsuite okX, q6⟩
              | brk => obtain ⟨σ6, H6, S6, q6⟩ := hsp; exact ⟨_, _, S6.unsuite okX, q6⟩
              | cont => obtain ⟨σ6, H6, S6, q6⟩ := hsp; exact ⟨_, _, S6.unsuite okX, q6⟩
              | ret u => obtain ⟨v6, σ6, H6, S6, r6, q6⟩ := hsp; exact ⟨_, _, _, S6.unsuite okX, r6, q6⟩
          | some i =>
            cases n with
            | none => exact hn.elim
            | some n =>
              obtain ⟨hi, hln⟩ := hn
              refine codeAny_handlers_suite_as (HandSPX.lands_againZ fl3 fun h4 fl4 up4 => ?_)
              have J4 : L2.Inv X pn0 σ1 H1 { s' with heap := h4 } := J.landed nb fl4.1 ((up.trans up3).trans up4) os ag
              obtain ⟨o4, v4, he4, hz4, hd4⟩ := fl4.there
              have S4 := J4.suite he4 hd4 na nL nF
              refine store_ok (X := X.suite a ((a, o4) :: (X.pn ++ pn0))) (v := .ref a) S4 hN hi (.inl hln) rfl (fun s5 S5 => ?_) (.inr hln)
              refine wpAny_mono ((hsu a o4 cls d (X.pn ++ pn0) hz4 ⟨_, hd4⟩).run [] s5 _ H1 _ S5 hrun) (fun f s6 hsp => ?_) (fun _ _ z => False.elim z)
              have lets : ∀ {σ6 : L2.St} {H6 : Hp} {Q : Shared → Prop}, L2.Inv (X.suite a ((a, o4) :: (X.pn ++ pn0))) [] σ6 H6 s6 → (∀ s7, L2.Inv X pn0 (σ6.set i none) H6 s7 → Q s7) →
                  wpAny (model X.prog X.w) X.A (do bindName X.env n .none; unbindBehindTheSuite X.env n p') (fun _ s7 => Q s7) X.xe s6 := fun {σ6 H6 Q} S6 hq => gone_ok (S6.unsuite okX) hN hi hln hq
              cases f with
              | next => obtain ⟨σ6, H6, S6, q6⟩ := hsp; exact lets S6 fun s7 J7 => ⟨_, _, J7, q6⟩
              | brk => obtain ⟨σ6, H6, S6, q6⟩ := hsp; exact lets S6 fun s7 J7 => ⟨_, _, J7, q6⟩
              | cont => obtain ⟨σ6, H6, S6, q6⟩ := hsp; exact lets S6 fun s7 J7 => ⟨_, _, J7, q6⟩
              | ret u => obtain ⟨v6, σ6, H6, S6, r6, q6⟩ := hsp; exact lets S6 fun s7 J7 => ⟨_, _, _, J7, r6, q6⟩
    exact go hh wm
  · cases fl with
    | next => obtain ⟨σ1, H1, J1, q⟩ := hsp; exact wpAny_execs_nil ⟨σ1, H1, J1.ofTry okX, q⟩
    | brk => obtain ⟨σ1, H1, J1, q⟩ := hsp; exact ⟨σ1, H1, J1.ofTry okX, q⟩
    | cont => obtain ⟨σ1, H1, J1, q⟩ := hsp; exact ⟨σ1, H1, J1.ofTry okX, q⟩
    | ret u => obtain ⟨v, σ1, H1, J1, r, q⟩ := hsp; exact ⟨v, σ1, H1, J1.ofTry okX, r, q⟩
end
end MP
end

section
set_option Elab.async false
set_option linter.all false
set_option maxRecDepth 100000
/-! MpU: raise, try. -/
namespace MP
open PySem PySem.Spec PyProof.Rows L2
/-- an own exception that keeps one field -/
structure OwnX (P : Program) (K : PySem.W.Frag) (mg : Str → Option Value) (C : Addr) (f : Str) : Prop where
  xf : XfC K C
  no : PySem.W.findIn K (.ref C) f = some none
  T : OexC K C
  made : ∃ (fI : Addr) (fd : FuncData) (xn z0 : Str), PySem.W.findIn K (.ref C) "__init__" = some (some (.ref fI)) ∧ PySem.W.typeIn K (.ref fI) = some (.type "function") ∧ Binds K fd [("self" : Str), xn] [] ∧ z0.length ≤ 1000 ∧
    ∀ (w : World) (base : Heap) (CX : CXT) (k : Nat), FnOk P w K mg base CX (k + 1) fI fd [("self" : Str), xn] (spSup z0 f C)
structure ExcF (T : Tab) (P : Program) (K : PySem.W.Frag) (mg : Str → Option Value) (Γ : Ctx) : Prop where
  own : ∀ (C : Nat) (c : Cl) (f : Str), T.P.cls[C]? = some c → c.exc = some (some f) → OwnX P K mg (He.ga K c.name) f
  cls : ∀ (C : Nat) (c : Cl), T.P.cls[C]? = some c → c.exc = some none → ∃ B newId initId bmB, ExcBaseFacts B newId initId bmB ∧ PySem.W.excIn K (He.ga K c.name) bmB newId = true ∧ PySem.W.keepIn K (.ref (He.ga K c.name)) = true ∧
    PySem.W.subIn K (.ref (He.ga K c.name)) (.type "BaseException") = some true ∧ PySem.W.typeIn K (.ref (He.ga K c.name)) = some (.type "type")
  mg : ∀ (C : Nat) (c : Cl), T.P.cls[C]? = some c → c.exc.isSome = true → mg c.name = some (.ref (He.ga K c.name))
  exm : ∀ (C C' : Nat) (c c' : Cl), T.P.cls[C]? = some c → T.P.cls[C']? = some c' → c.exc.isSome = true → c'.exc.isSome = true → PySem.W.exmOne K (.ref (He.ga K c.name)) (.ref (He.ga K c'.name)) = some (T.P.sub C C')
  xf : ∀ (C : Nat) (c : Cl), T.P.cls[C]? = some c → Γ.xf C = c.exc
  sub : ∀ C C', Γ.sub C C' = T.P.sub C C'
/-! ### the match -/
mutual
def mtX (T : Tab) (N : List Str) (sc : Scope) (hx : Option Nat) : Sx → Expr → Bool
  | .con d, e => conM d e
  | .glo x d, e => match e with
    | .Name y _ => decide (x = y) && decide ((x, d) ∈ T.consts) && glB sc x && nmB x
    | _ => false
  | .var i, e => match e with
    | .Name x _ => decide (N[i]? = some x) && visB sc x && nmB x
    | _ => false
  | .xf f, e => match e with
    | .Attribute (.Name y _) g _ => (match hx with
      | some i => decide (N[i]? = some y) && decide (f = g) && visB sc y && nmB y
      | none => false)
    | _ => false
  | .tup es, e => match e with
    | .Tuple els _ _ => mtXs T N sc hx es els
    | _ => false
def mtXs (T : Tab) (N : List Str) (sc : Scope) (hx : Option Nat) : List Sx → List Expr → Bool
  | [], [] => true
  | x :: xs, e :: es => mtX T N sc hx x e && mtXs T N sc hx xs es
  | _, _ => false
end
def mtSh (T : Tab) (N : List Str) (sc : Scope) (hx : Option Nat) (h : Sh) (sts : List Stmt) : Bool := match h with
  | .ret e => (match sts with
    | [.Return (some e') _] => mtX T N sc hx e e'
    | _ => false)
  | .set i e => (match sts with
    | [.Assign [.Name n _] e' _] => decide (N[i]? = some n) && locB sc n && mtX T N sc hx e e' && !isLC e' && decide (hx ≠ some i)
    | _ => false)
  | .cnt => (match sts with
    | [.Continue _] => true
    | _ => false)
  | .pas => (match sts with
    | [.Pass _] => true
    | _ => false)
def mtNm (N : List Str) (sc : Scope) (i : Option Nat) (n : Option Str) : Bool := match i, n with
  | none, none => true
  | some i, some n => decide (N[i]? = some n) && decide (sc.names.lookup n = some .local)
  | _, _ => false
def mtHd (T : Tab) (N : List Str) (sc : Scope) (h : Hd) : ExceptHandler → Bool
  | .ExceptHandler (some (.Name x _)) nm suite _ => mtNm N sc h.x nm && (match T.P.cls[h.C]? with
    | some c => decide (c.name = x) && c.exc.isSome
    | none => false) && glB sc x && nmB x && mtSh T N sc h.x h.body suite
  | _ => false
def mtHds (T : Tab) (N : List Str) (sc : Scope) : List Hd → List ExceptHandler → Bool
  | [], [] => true
  | h :: hs, e :: es => mtHd T N sc h e && mtHds T N sc hs es
  | _, _ => false
section
variable {T : Tab} {N : List Str} {Γ : Ctx} {k : Nat} {X : Cx} {W : WX} {sc : Scope} {x y z : Ex} {a b c e o : Expr} {xs : List Ex} {es : List Expr} {pos p p1 : Pos}
/-! ### raise -/
theorem st_rai (g : GdS T N Γ k X W sc) (F : ExcF T X.prog X.K X.mg Γ) {C : Nat} {cl : Cl} {n : Str} {np cp : Pos} (hcl : T.P.cls[C]? = some cl) (hn : cl.name = n) (hx : cl.exc = some none) (hg : glB sc n = true) (hnm : nmB n = true) (ha : SndL T X W Γ (x :: xs) (e :: es)) :
    PS X (.Raise (some (.Call (.Name n np) (e :: es) [] cp)) none pos) (tS T X.K W Γ (.rai C (x :: xs))) := by
  obtain ⟨B, newId, initId, bmB, h1, h2, h3, h4, h5⟩ := F.cls C cl hcl hx
  have h6 := F.mg C cl hcl (by rw [hx]; rfl)
  rw [hn] at h2 h3 h4 h5 h6
  have hp := ha.pa
  cases ha with
  | cons h t =>
    refine PS.wk (ps_raise g.calm g.tk (pmk_ownA h1 h2 h6 h3 (raises_own h4 h5) (g.gl hg) hp (nmB_dbg hnm) (star_plain h.pl) (back_plain t.plain))) fun D σ H ⟨ι, κ, S, ρ, w, en, p⟩ => ?_
    simp only [evS] at p
    refine ⟨ι, κ, S, ρ, w, en, PostS.go p en w.mut fun ds S1 vs H1 ι1 _ e1 w1 r1 p1 => ?_⟩
    have r1 : RepL X.K H1 ι1 κ ds vs := r1
    rw [F.xf C cl hcl, hx] at p1
    simp only at p1
    split at p1
    · refine ⟨?_, p1 _ _ σ H1 ι1 Ext.refl w1 (en.up e1 w) ⟨cl, hcl, by rw [hn], .inl ⟨hx, rfl, rfl⟩⟩⟩
      rw [← RepL.length r1]
      show 1 ≤ sizeLine
      rw [sizeLine_eq]; decide
    · exact p1.elim
theorem PE.some {X : Cx} {e : Expr} {t' : TE} (h : ∀ σ H Q, t' σ H Q → ∃ t, PE X e t ∧ t σ H Q) : PE X e t' := ⟨fun pins s σ H Q I q => by
  obtain ⟨t, h1, h2⟩ := h σ H Q q
  exact h1.run pins s σ H Q I h2⟩
theorem msg_ok {K : PySem.W.Frag} {H : Hp} {ι κ : List Addr} {d : MP.D} {v : V} {z0 : Str} (h : msgD d = true) (r : Rep K H ι κ d v) (hz : z0.length ≤ 1000) : MsgOk z0 v := by
  cases d with
  | str z =>
    simp only [Rep] at r
    obtain ⟨rfl, _⟩ := r
    have : z.length ≤ 1000 := of_decide_eq_true h
    exact .inl ⟨z, rfl, by rw [sizeLine_eq]; omega⟩
  | int i =>
    simp only [Rep] at r
    subst r
    exact .inr ⟨i, rfl, of_decide_eq_true h, hz⟩
  | _ => simp [msgD] at h
theorem st_raiF (g : GdS T N Γ k X W sc) (F : ExcF T X.prog X.K X.mg Γ) {C : Nat} {cl : Cl} {n f : Str} {np cp : Pos} (hcl : T.P.cls[C]? = some cl) (hn : cl.name = n) (hx : cl.exc = some (some f)) (hg : glB sc n = true) (hnm : nmB n = true) (ha : Snd T X W Γ x e) :
    PS X (.Raise (some (.Call (.Name n np) [e] [] cp)) none pos) (tS T X.K W Γ (.rai C [x])) := by
  have O := F.own C cl f hcl hx
  obtain ⟨fI, fd, xn, z0, i1, i2, i3, i4, i5⟩ := O.made
  have h6 := F.mg C cl hcl (by rw [hx]; rfl)
  have hroom : Room (0 + 1 + 1) X.A := g.room.mono (by have := g.one; omega)
  have hmk := pmk_oex (X := X) (x := n) (e := e) (es := []) (p := np) (pos := cp) (CX := fun _ _ _ _ _ _ => False) (k := 0 + 1) (ds := []) (dvs := []) O.T i1 i2 (i5 _ _ _ 0) hroom i3 .nil (fun _ _ _ _ _ _ _ z => z.elim) (g.gl hg) (by rw [← hn]; exact h6) (SndL.cons ha .nil).pa (nmB_dbg hnm) (star_plain ha.pl) rfl
  refine PS.wk (ps_raise g.calm g.tk hmk) fun D σ H ⟨ι, κ, S, ρ, w, en, p⟩ => ?_
  simp only [evS] at p
  refine ⟨ι, κ, S, ρ, w, en, PostS.go p en w.mut fun ds S1 vs H1 ι1 hev e1 w1 r1 p1 => ?_⟩
  have rr : RepL X.K H1 ι1 κ ds vs := r1
  clear r1
  rw [F.xf C cl hcl, hx] at p1
  simp only at p1
  match ds, rr, p1 with
  | [d], rr, p1 =>
    simp only at p1
    split at p1
    · rename_i hmsg
      simp only [RepL] at rr
      obtain ⟨v, _, rfl, rv, rfl⟩ := rr
      refine ⟨by simp, fun a hfa => ⟨a, v, rfl, upd_same, msg_ok hmsg rv i4, fun dx d1 d2 => ?_⟩⟩
      have d3 : H1 dx = none := by rw [upd_ne d2] at d1; exact d1
      refine ⟨rfl, dx, [(f, v)], upd_same, by rw [upd_ne d2, upd_same], d3, ?_⟩
      have eh : upd (del (upd (upd (upd H1 a (exo a (He.ga X.K cl.name) none)) dx (exd dx [(f, v)])) a (exo a (He.ga X.K cl.name) (some dx))) a) dx (.xd [(f, v)]) = upd H1 dx (.xd [(f, v)]) := by
        funext b
        by_cases hb : b = dx
        · rw [hb, upd_same, upd_same]
        · rw [upd_ne hb, upd_ne hb]
          by_cases hb2 : b = a
          · rw [hb2, del_same, hfa]
          · rw [del_ne hb2, upd_ne hb2, upd_ne hb, upd_ne hb2]
      rw [eh]
      have ex := Ext.fresh (o := .xd [(f, v)]) w1 d3
      exact p1 _ _ σ _ ι1 ex (w1.fresh d3) ((en.up e1 w).up ex w1) ⟨cl, hcl, rfl, .inr ⟨f, d, dx, v, hx, rfl, rfl, upd_same, Rep.up rv ex w1⟩⟩
    · exact p1.elim
  | [], rr, p1 => exact p1.elim
  | _ :: _ :: _, rr, p1 => exact p1.elim
/-! ### what stands in a clause -/
theorem ExR.up {K : PySem.W.Frag} {H H' : Hp} {ι ι' κ : List Addr} {S : Sto} {C : Nat} {fs : List (Str × MP.D)} {cls : Value} {dx : Option Addr} (x : ExR T K H ι κ C fs cls dx) (e : Ext H ι H' ι') (w : Wd T K H ι κ S) : ExR T K H' ι' κ C fs cls dx := by
  obtain ⟨c, hc, e1, hx⟩ := x
  refine ⟨c, hc, e1, ?_⟩
  rcases hx with h | ⟨f, d, a, v, h1, h2, h3, h4, h5⟩
  · exact .inl h
  · refine .inr ⟨f, d, a, v, h1, h2, h3, e.keep a _ (fun z => ?_) h4, Rep.up h5 e w⟩
    obtain ⟨_, o, _, _, q⟩ := w.at_ z
    cases o with
    | lst ds => obtain ⟨vs, q, _⟩ := q; rw [h4] at q; cases q
    | dic ds => obtain ⟨vs, q, _⟩ := q; rw [h4] at q; cases q
    | dit ds => obtain ⟨vs, q, _⟩ := q; rw [h4] at q; cases q
    | ins C fs => obtain ⟨c, dx, gs, _, q, _⟩ := q; rw [h4] at q; cases q
theorem EnvR.clr {K : PySem.W.Frag} {H : Hp} {ι κ : List Addr} {σ : L2.St} {ρ : Env} {i : Nat} {x : Option V} (h : EnvR K H ι κ σ ρ) (hi : ∀ d, ρ[i]? ≠ some (some d)) : EnvR K H ι κ (σ.set i x) ρ := by
  refine ⟨by rw [List.length_set]; exact h.1, fun j d q => ?_⟩
  have ne : j ≠ i := fun z => hi d (z ▸ q)
  rw [List.getElem?_set_ne (Ne.symm ne)]
  exact h.2 j d q
theorem set_none_at {ρ : Env} {i : Nat} (d : MP.D) : (ρ.set i none)[i]? ≠ some (some d) := by
  rw [List.getElem?_set]
  split
  · split <;> simp
  · rename_i h; exact absurd rfl h
theorem EnvR.setN {K : PySem.W.Frag} {H : Hp} {ι κ : List Addr} {σ : L2.St} {ρ : Env} {i : Nat} {x : Option V} (h : EnvR K H ι κ σ ρ) : EnvR K H ι κ (σ.set i x) (ρ.set i none) := by
  refine ⟨by rw [List.length_set, List.length_set]; exact h.1, fun j d q => ?_⟩
  by_cases ne : j = i
  · subst ne; exact absurd q (set_none_at d)
  · rw [List.getElem?_set_ne (Ne.symm ne)] at q ⊢
    exact h.2 j d q
def tX (T : Tab) (K : PySem.W.Frag) (cls : Value) (dx : Option Addr) (a : Addr) (hx : Option Nat) (x : Sx) : TE := fun σ H Q => ∃ ι κ S ρ C fs d, Wd T K H ι κ S ∧ EnvR K H ι κ σ ρ ∧ ExR T K H ι κ C fs cls dx ∧ (∀ i, hx = some i → σ[i]? = some (some (.ref a))) ∧ evX fs x ρ = some d ∧ VPost T K ι κ H S d Q
def tXs (T : Tab) (K : PySem.W.Frag) (cls : Value) (dx : Option Addr) (a : Addr) (hx : Option Nat) (xs : List Sx) : TA := fun σ H Q => ∃ ι κ S ρ C fs ds, Wd T K H ι κ S ∧ EnvR K H ι κ σ ρ ∧ ExR T K H ι κ C fs cls dx ∧ (∀ i, hx = some i → σ[i]? = some (some (.ref a))) ∧ evXs fs xs ρ = some ds ∧ ∀ vs H' ι', Ext H ι H' ι' → Wd T K H' ι' κ S → RepL K H' ι' κ ds vs → Q vs H'
theorem mtX_plain {hx : Option Nat} {x : Sx} {e : Expr} (h : mtX T N sc hx x e = true) : plainE e = true := by
  cases x with
  | con d => cases e <;> first | rfl | (cases d <;> simp [mtX, conM] at h)
  | glo n d => cases e <;> first | rfl | (simp [mtX] at h)
  | var i => cases e <;> first | rfl | (simp [mtX] at h)
  | xf f => cases e <;> first | rfl | (simp [mtX] at h)
  | tup es => cases e <;> first | rfl | (simp [mtX] at h)
mutual
theorem x_pe (g : GdS T N Γ k X W sc) (F : ExcF T X.prog X.K X.mg Γ) {a : Addr} {oe : Obj} {cls : Value} {dx : Option Addr} {pn : List (Addr × Obj)} {hx : Option Nat} (hz : Zc cls dx oe) (hf : ∃ vs, oe.data = .fields vs) : ∀ (x : Sx) (e : Expr), mtX T N sc hx x e = true → PE (X.suite a ((a, oe) :: pn)) e (tX T X.K cls dx a hx x)
  | .con d, e, h => by
    simp only [mtX] at h
    unfold conM at h
    split at h
    · exact PE.wk pe_non fun σ H Q ⟨ι, κ, S, ρ, C, fs, d, w, en, xr, hs, he, q⟩ => by simp only [evX, Option.some.injEq] at he; subst he; exact q.same w (by simp only [Rep])
    · rename_i b c _ _
      obtain rfl : b = c := by simpa using h
      exact PE.wk pe_bl fun σ H Q ⟨ι, κ, S, ρ, C, fs, d, w, en, xr, hs, he, q⟩ => by simp only [evX, Option.some.injEq] at he; subst he; exact q.same w (by simp only [Rep])
    · obtain rfl := of_decide_eq_true h
      exact PE.wk pe_int fun σ H Q ⟨ι, κ, S, ρ, C, fs, d, w, en, xr, hs, he, q⟩ => by simp only [evX, Option.some.injEq] at he; subst he; exact q.same w (by simp only [Rep])
    · simp only [Bool.and_eq_true, decide_eq_true_eq] at h
      obtain ⟨rfl, hs⟩ := h
      exact PE.wk pe_str fun σ H Q ⟨ι, κ, S, ρ, C, fs, d, w, en, xr, _, he, q⟩ => by simp only [evX, Option.some.injEq] at he; subst he; exact q.same w (by simp only [Rep]; exact ⟨trivial, hs⟩)
    · cases h
  | .glo n d, e, h => by
    cases e with
    | Name y p =>
      simp only [mtX, Bool.and_eq_true, decide_eq_true_eq] at h
      obtain ⟨⟨⟨rfl, h2⟩, h3⟩, h4⟩ := h
      obtain ⟨u, v, k1, k2, k3⟩ := g.glo.con n d h2
      have hg : Gl (X.suite a ((a, oe) :: pn)) n := g.gl h3
      exact PE.wk (pe_glob hg k1 k2 (nmB_dbg h4)) fun σ H Q ⟨ι, κ, S, ρ, C, fs, d, w, en, xr, hs, he, q⟩ => by simp only [evX, Option.some.injEq] at he; subst he; exact q.same w (k3 H ι κ)
    | _ => simp [mtX] at h
  | .var i, e, h => by
    cases e with
    | Name n p =>
      simp only [mtX, Bool.and_eq_true, decide_eq_true_eq] at h
      have hv : Vis (X.suite a ((a, oe) :: pn)).env.scope n := g.vis h.1.2
      refine PE.wk (pe_var (by show X.N[i]? = _; rw [g.hN]; exact h.1.1) hv (nmB_dbg h.2) (nmB_cd h.2)) fun σ H Q ⟨ι, κ, S, ρ, C, fs, d, w, en, xr, hs, he, q⟩ => ?_
      simp only [evX] at he
      have : ρ[i]? = some (some d) := by
        unfold Env.get at he
        split at he <;> first | (rename_i h; rw [h, he]) | cases he
      obtain ⟨v, h1, h2⟩ := en.2 i d this
      exact ⟨v, h1, q.same w h2⟩
    | _ => simp [mtX] at h
  | .xf f, e, h => by
    cases e with
    | Attribute o y p =>
      cases o with
      | Name n p' =>
        simp only [mtX] at h
        split at h
        · rename_i i
          simp only [Bool.and_eq_true, decide_eq_true_eq] at h
          obtain ⟨⟨⟨h1, h2⟩, h3⟩, h4⟩ := h
          subst h2
          have hv : Vis (X.suite a ((a, oe) :: pn)).env.scope n := g.vis h3
          refine PE.some fun σ H Q ⟨ι, κ, S, ρ, C, fs, d, w, en, xr, hs, he, q⟩ => ?_
          obtain ⟨c, hc, e1, hxx⟩ := xr
          simp only [evX] at he
          rcases hxx with ⟨_, hfs, _⟩ | ⟨f', d', dd, v, k1, k2, k3, k4, k5⟩
          · rw [hfs] at he; cases he
          · rw [k2] at he
            simp only [List.lookup] at he
            split at he
            · rename_i hb
              have hb := beq_iff_eq.mp hb
              subst hb
              cases he
              have O := F.own C c f hc k1
              exact ⟨_, pe_xf (a := a) (cls := cls) (d := dx) (pn := pn) O.xf O.no hz hf (pe_var (i := i) (by show X.N[i]? = _; rw [g.hN]; exact h1) hv (nmB_dbg h4) (nmB_cd h4)), ⟨.ref a, hs i rfl, rfl, e1, dd, [(f, v)], v, k3, k4, by simp [List.lookup], q.same w k5⟩⟩
            · cases he
        · cases h
      | _ => simp [mtX] at h
    | _ => simp [mtX] at h
  | .tup xs, e, h => by
    cases e with
    | Tuple es m p =>
      simp only [mtX] at h
      refine PE.wk (pe_tupF (xs_pa g F hz hf xs es h)) fun σ H Q ⟨ι, κ, S, ρ, C, fs, d, w, en, xr, hs, he, q⟩ => ?_
      simp only [evX] at he
      split at he
      · rename_i ds hds
        split at he
        · rename_i hl
          cases he
          exact ⟨ι, κ, S, ρ, C, fs, ds, w, en, xr, hs, hds, fun vs H' ι' e' w' r' => ⟨LIM_line (by rw [← RepL.length r']; exact hl), VPost.newT (fun v H2 ι2 e2 w2 r2 => q v H2 ι2 (e'.trans e2) w2 r2) w' r'⟩⟩
        · cases he
      · cases he
    | _ => simp [mtX] at h
theorem xs_pa (g : GdS T N Γ k X W sc) (F : ExcF T X.prog X.K X.mg Γ) {a : Addr} {oe : Obj} {cls : Value} {dx : Option Addr} {pn : List (Addr × Obj)} {hx : Option Nat} (hz : Zc cls dx oe) (hf : ∃ vs, oe.data = .fields vs) : ∀ (xs : List Sx) (es : List Expr), mtXs T N sc hx xs es = true → PA (X.suite a ((a, oe) :: pn)) es (tXs T X.K cls dx a hx xs)
  | [], [], h => by
    refine PA.wk pa_nil fun σ H Q ⟨ι, κ, S, ρ, C, fs, ds, w, en, xr, hs, he, q⟩ => ?_
    simp only [evXs, Option.some.injEq] at he
    subst he
    exact q [] H ι Ext.refl w rfl
  | [], _ :: _, h => by simp [mtXs] at h
  | _ :: _, [], h => by simp [mtXs] at h
  | x :: xs, e :: es, h => by
    simp only [mtXs, Bool.and_eq_true] at h
    refine PA.wk (pa_cons (x_pe g F hz hf x e h.1) (xs_pa g F hz hf xs es h.2) (star_plain (mtX_plain h.1))) fun σ H Q ⟨ι, κ, S, ρ, C, fs, ds, w, en, xr, hs, he, q⟩ => ?_
    simp only [evXs] at he
    split at he
    · rename_i d dr h1 h2
      cases he
      refine ⟨ι, κ, S, ρ, C, fs, d, w, en, xr, hs, h1, fun v H1 ι1 e1 w1 r1 => ⟨ι1, κ, S, ρ, C, fs, dr, w1, en.up e1 w, xr.up e1 w, hs, h2, fun vs H2 ι2 e2 w2 r2 => q (v :: vs) H2 ι2 (e1.trans e2) w2 ?_⟩⟩
      simp only [RepL]
      exact ⟨v, vs, rfl, Rep.up r1 e2 w1, r2⟩
    · cases he
end
def tH (T : Tab) (K : PySem.W.Frag) (cls : Value) (dx : Option Addr) (a : Addr) (hx : Option Nat) (h : Sh) : TS := fun D σ H => ∃ ι κ S ρ C fs, Wd T K H ι κ S ∧ EnvR K H ι κ σ ρ ∧ ExR T K H ι κ C fs cls dx ∧ (∀ i, hx = some i → σ[i]? = some (some (.ref a))) ∧ PostS T K κ NoW D H ι (evH fs h ρ S)
theorem h_pss (g : GdS T N Γ k X W sc) (F : ExcF T X.prog X.K X.mg Γ) {a : Addr} {oe : Obj} {cls : Value} {dx : Option Addr} {pn : List (Addr × Obj)} {hx : Option Nat} (hz : Zc cls dx oe) (hf : ∃ vs, oe.data = .fields vs) (h : Sh) (sts : List Stmt) (hm : mtSh T N sc hx h sts = true) : PSs (X.suite a ((a, oe) :: pn)) sts (tH T X.K cls dx a hx h) := by
  cases h with
  | ret x =>
    simp only [mtSh] at hm
    split at hm
    · refine PSs.wk (pss_one (ps_ret (x_pe g F hz hf _ _ hm))) fun D σ H ⟨ι, κ, S, ρ, C, fs, w, en, xr, hs, p⟩ => ?_
      simp only [evH] at p
      split at p
      · rename_i d hd
        exact ⟨ι, κ, S, ρ, C, fs, d, w, en, xr, hs, hd, fun v H' ι' e' w' r' => p v H' ι' e' w' r'⟩
      · exact p.elim
    · cases hm
  | set i x =>
    simp only [mtSh] at hm
    split at hm
    · rename_i n np e' sp
      simp only [Bool.and_eq_true, decide_eq_true_eq, Bool.not_eq_true'] at hm
      obtain ⟨⟨⟨⟨h1, h2⟩, h3⟩, h4⟩, _⟩ := hm
      have hloc := g.tgt n h2
      refine PSs.wk (pss_one (ps_set (X := X.suite a ((a, oe) :: pn)) (by show X.N.Nodup; rw [g.hN]; exact g.nd) (by show X.N[i]? = _; rw [g.hN]; exact h1) hloc.1 (x_pe g F hz hf _ _ h3) (sw_plain h4) hloc.2)) fun D σ H ⟨ι, κ, S, ρ, C, fs, w, en, xr, hs, p⟩ => ?_
      simp only [evH] at p
      split at p
      · rename_i d hd
        split at p
        · exact ⟨ι, κ, S, ρ, C, fs, d, w, en, xr, hs, hd, fun v H' ι' e' w' r' => p _ H' ι' e' w' ((en.up e' w).set r')⟩
        · exact p.elim
      · exact p.elim
    · cases hm
  | cnt =>
    simp only [mtSh] at hm
    split at hm
    · refine PSs.wk (pss_one ps_continue) fun D σ H ⟨ι, κ, S, ρ, C, fs, w, en, xr, hs, p⟩ => ?_
      simp only [evH] at p
      exact p σ H ι Ext.refl w en
    · cases hm
  | pas =>
    simp only [mtSh] at hm
    split at hm
    · refine PSs.wk (pss_one ps_pass) fun D σ H ⟨ι, κ, S, ρ, C, fs, w, en, xr, hs, p⟩ => ?_
      simp only [evH] at p
      exact p σ H ι Ext.refl w en
    · cases hm
theorem postS_noW {K : PySem.W.Frag} {κ : List Addr} {D : Ends} {H : Hp} {ι : List Addr} {h : Sh} {fs : List (Str × MP.D)} {ρ : Env} {S : Sto} (p : PostS T K κ W D H ι (evH fs h ρ S)) : PostS T K κ NoW D H ι (evH fs h ρ S) := by
  cases h with
  | ret x => simp only [evH] at p ⊢; split at p <;> exact p
  | set i x =>
    simp only [evH] at p ⊢
    split at p
    · split at p
      · rename_i h; rw [if_pos h]; exact p
      · exact p.elim
    · exact p.elim
  | cnt => exact p
  | pas => exact p
/-- behind the suite the name is gone -/
theorem postS_gone {K : PySem.W.Frag} {κ : List Addr} {D : Ends} {H : Hp} {ι : List Addr} {h : Sh} {fs : List (Str × MP.D)} {ρ : Env} {S : Sto} {i : Nat} {sts : List Stmt} (hm : mtSh T N sc (some i) h sts = true) (p : PostS T K κ NoW D H ι (evH fs h (ρ.set i none) S)) : PostS T K κ NoW (gone3 i D) H ι (evH fs h (ρ.set i none) S) := by
  cases h with
  | ret x => simp only [evH] at p ⊢; split at p <;> exact p
  | set j x =>
    have ne : j ≠ i := by
      simp only [mtSh] at hm
      split at hm
      · simp only [Bool.and_eq_true, decide_eq_true_eq] at hm
        exact fun z => hm.2 (by rw [z])
      · cases hm
    simp only [evH] at p ⊢
    split at p
    · split at p
      · rename_i h; rw [if_pos h]
        intro σ H' ι' e w en
        refine p _ H' ι' e w (en.clr fun d => ?_)
        rw [List.getElem?_set_ne ne]
        exact set_none_at d
      · exact p.elim
    · exact p.elim
  | cnt => exact fun σ H' ι' e w en => p _ H' ι' e w (en.clr fun d => set_none_at d)
  | pas => exact fun σ H' ι' e w en => p _ H' ι' e w (en.clr fun d => set_none_at d)
/-! ### try -/
theorem hds_ok (g : GdS T N Γ k X W sc) (F : ExcF T X.prog X.K X.mg Γ) : ∀ (hs : List Hd) (es : List ExceptHandler), mtHds T N sc hs es = true → ∃ l : List Cls3, Mix X es l ∧
    ∀ (Wo : WX) (D : Ends) (C : Nat) (fs : List (Str × MP.D)) (ρ : Env) (S : Sto) (κ : List Addr) (H : Hp) (ι : List Addr), PostS T X.K κ Wo D H ι (handle Γ C fs ρ S hs) →
      ∀ cls dx σ' H' ι', Ext H ι H' ι' → Wd T X.K H' ι' κ S → EnvR X.K H' ι' κ σ' ρ → ExR T X.K H' ι' κ C fs cls dx → wMix X.K Wo D l cls dx σ' H'
  | [], [], _ => ⟨[], .nil, fun Wo D C fs ρ S κ H ι p cls dx σ' H' ι' e w en x => by simp only [handle] at p; exact p cls dx σ' H' ι' e w en x⟩
  | [], _ :: _, h => by simp [mtHds] at h
  | _ :: _, [], h => by simp [mtHds] at h
  | hd :: hs, eh :: es, h => by
    simp only [mtHds, Bool.and_eq_true] at h
    obtain ⟨l, h1, h2⟩ := hds_ok g F hs es h.2
    have hm := h.1
    unfold mtHd at hm
    split at hm
    · rename_i n np nm suite hp
      simp only [Bool.and_eq_true] at hm
      obtain ⟨⟨⟨⟨k1, k2⟩, k3⟩, k4⟩, k5⟩ := hm
      split at k2
      · rename_i cl hcl
        simp only [Bool.and_eq_true, decide_eq_true_eq] at k2
        obtain ⟨k2, k6⟩ := k2
        have hmg := F.mg hd.C cl hcl k6
        cases suite with
        | nil => exfalso; cases hh : hd.body <;> rw [hh] at k5 <;> simp [mtSh] at k5
        | cons b₀ suite =>
          have hnm : Nm3 X hd.x nm := by
            cases hdx : hd.x with
            | none =>
              cases nm with
              | none => exact trivial
              | some n' => rw [hdx] at k1; cases k1
            | some i =>
              cases nm with
              | none => rw [hdx] at k1; cases k1
              | some n' =>
                rw [hdx] at k1
                simp only [mtNm, Bool.and_eq_true, decide_eq_true_eq] at k1
                exact ⟨by rw [g.hN]; exact k1.1, by show X.env.scope.names.lookup n' = _; rw [g.sc]; exact k1.2⟩
          refine ⟨⟨.ref (He.ga X.K cl.name), hd.x, fun a cls d => tH T X.K cls d a hd.x hd.body⟩ :: l, .cons ⟨g.gl k3, nmB_dbg k4, .inl (by rw [← k2]; exact hmg)⟩ hnm (fun a oe cls d pn hz hf => h_pss g F hz hf hd.body _ k5) h1, ?_⟩
          intro Wo D C fs ρ S κ H ι p cls dx σ' H' ι' e w en x
          obtain ⟨c, hc, rfl, hx⟩ := id x
          have hexc : c.exc.isSome = true := by
            rcases hx with ⟨hx, _⟩ | ⟨f, d, a, v, hx, _⟩ <;> rw [hx] <;> rfl
          refine ⟨T.P.sub C hd.C, F.exm C hd.C c cl hc hcl hexc k6, fun hb a _ => ?_, fun hb => ?_⟩
          · simp only [handle] at p
            rw [F.sub, hb, if_pos rfl] at p
            unfold run3
            cases hdx : hd.x with
            | none =>
              rw [hdx] at p
              exact ⟨ι', κ, S, ρ, C, fs, w, en, x, (fun i z => by cases z), PostS.trans (postS_noW p) e⟩
            | some i =>
              rw [hdx] at p
              simp only at p
              split at p
              · rename_i hi
                rw [hdx] at k5
                refine ⟨ι', κ, S, ρ.set i none, C, fs, w, en.setN, x, fun j z => ?_, PostS.trans (postS_gone k5 (postS_noW p)) e⟩
                cases z
                rw [List.getElem?_set_self (by rw [en.1]; exact hi)]
              · exact p.elim
          · simp only [handle] at p
            rw [F.sub, hb, if_neg Bool.false_ne_true] at p
            exact h2 Wo D C fs ρ S κ H ι p _ dx σ' H' ι' e w en x
      · cases k2
    · cases hm
theorem st_try (g : GdS T N Γ k X W sc) (F : ExcF T X.prog X.K X.mg Γ) {body : List Sm} {sts : List Stmt} {hd : Hd} {hs : List Hd} {eh : ExceptHandler} {ehs : List ExceptHandler} (hb : ∀ X' W', GdS T N Γ k X' W' sc → X'.prog = X.prog → X'.K = X.K → X'.mg = X.mg → PSs X' sts (tSs T X'.K W' Γ body)) (hm : mtHds T N sc (hd :: hs) (eh :: ehs) = true) :
    PS X (.Try sts (eh :: ehs) [] [] pos) (tS T X.K W Γ (.try_ body (hd :: hs))) := by
  obtain ⟨l, h1, h2⟩ := hds_ok g F (hd :: hs) (eh :: ehs) hm
  refine PS.wk (ps_try_mix (tb := fun W' => tSs T X.K W' Γ body) (Wout := W) (l := l) g.stk g.frm (by rw [g.hN]; exact g.nd) g.tk (fun W' pn xe tk' ow => hb (X.tr pn xe) W' (g.tr tk' ow) rfl rfl rfl) h1) fun D σ H ⟨ι, κ, S, ρ, w, en, p⟩ => ?_
  simp only [evS] at p
  refine ⟨ι, κ, S, ρ, w, en, ?_⟩
  cases hev : evSs Γ body ρ S with
  | ok f S1 => rw [hev] at p; cases f <;> exact p
  | exc C fs ρ1 S1 => rw [hev] at p; exact h2 W D C fs ρ1 S1 κ H ι p
  | no => rw [hev] at p; exact p
end
end MP
end

section
set_option Elab.async false
set_option linter.all false
set_option maxRecDepth 100000
/-! MpV: every matched statement is sound. -/
namespace MP
open PySem PySem.Spec PyProof.Rows L2
def lcK (sc : Scope) (x : Str) (p : Pos) (s : Scope) (q : Pos) : Bool := (decide (sc.names.lookup x = some .local) && (p.line == q.line) && !(s.names.any fun (m, k) => m == x && (k == .local || k == .cell)))
def asgK (sc : Scope) (tg' e' : Expr) : Bool := match tg' with
  | .Name x p => (match e' with
    | .ListComp _ _ s q => lcK sc x p s q || decide (sc.names.lookup x = some .cell)
    | .DictComp _ _ _ s q => lcK sc x p s q || decide (sc.names.lookup x = some .cell)
    | .SetComp _ _ _ _ => false
    | _ => true)
  | .Tuple ts _ _ => (match e' with
    | .Tuple vs _ _ => noSwap sc ts vs && vs.all plainE
    | e' => !isLC e')
  | _ => false
mutual
def mtS (T : Tab) (N : List Str) (sc : Scope) : Sm → Stmt → Bool
  | .asg t e, st => match st with
    | .Assign [tg'] e' _ => mtT N sc t tg' && mtE T N e sc e' && asgK sc tg' e'
    | _ => false
  | .asgS o i e, st => match st with
    | .Assign [.Subscript o' i' _] e' _ => mtE T N o sc o' && mtE T N i sc i' && mtE T N e sc e'
    | _ => false
  | .asgA o f e, st => match st with
    | .Assign [.Attribute o' f' _] e' _ => decide (f = f') && decide (f ∈ T.flds) && mtE T N o sc o' && mtE T N e sc e'
    | _ => false
  | .par ns es, st => match st with
    | .Assign [.Tuple [.Name x xp, .Name y yp] _ _] (.Tuple [a, b] _ _) _ => (match ns with
      | [i, j] => decide (N[i]? = some x) && decide (N[j]? = some y) && decide (i ≠ j)
      | _ => false) && parB sc [.Name x xp, .Name y yp] [a, b] && mtL T N es sc [a, b]
    | _ => false
  | .swp _ _ _ _ _, _ => false
  | .aug i o e, st => match st with
    | .AugAssign (.Name x _) o' e' _ => decide (o = o') && decide (N[i]? = some x) && locB sc x && mtE T N e sc e'
    | _ => false
  | .augA o f op e, st => match st with
    | .AugAssign (.Attribute o' f' _) op' e' _ => decide (op = op') && decide (f = f') && decide (f ∈ T.flds) && mtE T N o sc o' && mtE T N e sc e'
    | _ => false
  | .ex e, st => match st with
    | .Expr e' _ => mtE T N e sc e' && !isLC e'
    | _ => false
  | .ret e, st => match st with
    | .Return (some e') _ => mtE T N e sc e'
    | _ => false
  | .retN, st => match st with
    | .Return none _ => true
    | _ => false
  | .ifs c a b, st => match st with
    | .If c' a' b' _ => mtE T N c sc c' && tst c' && mtSs T N sc a a' && mtSs T N sc b b'
    | _ => false
  | .fors t it body, st => match st with
    | .For tg' it' body' [] _ => mtT N sc t tg' && mtI T N it sc it' (tupE tg') && mtSs T N sc body body'
    | _ => false
  | .whl c body, st => match st with
    | .While c' body' [] _ => mtE T N c sc c' && tst c' && mtSs T N sc body body'
    | _ => false
  | .rai C es, st => match st with
    | .Raise (some (.Call (.Name x _) els [] _)) none _ => (match T.P.cls[C]? with
      | some c => decide (c.name = x) && (decide (c.exc = some none) || (c.exc.join.isSome && decide (es.length = 1)))
      | none => false) && glB sc x && nmB x && mtL T N es sc els && !es.isEmpty
    | _ => false
  | .try_ body hs, st => match st with
    | .Try body' ehs [] [] _ => mtSs T N sc body body' && mtHds T N sc hs ehs && !hs.isEmpty
    | _ => false
  | .brk, st => match st with
    | .Break _ => true
    | _ => false
  | .cnt, st => match st with
    | .Continue _ => true
    | _ => false
  | .pas, st => match st with
    | .Pass _ => true
    | _ => false
  | .any, _ => true
termination_by structural s => s
def mtSs (T : Tab) (N : List Str) (sc : Scope) : List Sm → List Stmt → Bool
  | [], [] => true
  | s :: ss, t :: ts => mtS T N sc s t && mtSs T N sc ss ts
  | _, _ => false
termination_by structural s => s
end
section
variable {T : Tab} {N : List Str} {Γ : Ctx} {k : Nat}
theorem lcK_ok {sc : Scope} {x : Str} {p : Pos} {s : Scope} {q : Pos} (h : lcK sc x p s q = true) : sc.names.lookup x = some .local ∧ (p.line == q.line) = true ∧ (s.names.any fun (m, k) => m == x && (k == .local || k == .cell)) = false := by
  simp only [lcK, Bool.and_eq_true, decide_eq_true_eq, Bool.not_eq_true'] at h
  exact ⟨h.1.1, h.1.2, h.2⟩
theorem sw_cell {e : Expr} {x : Str} {p : Pos} {l : Nat} {env : PySem.Env} (h : env.scope.names.lookup x = some .cell) : swapsWith e (some (.Name x p)) l env = pure false := by
  have k1 : env.kindOf x = some .cell := h
  cases e <;> first
    | rfl
    | (unfold swapsWith; simp only [k1]; rw [show ((some NameKind.cell : Option NameKind) == some NameKind.local) = false from rfl]; simp)
theorem mut_lc {x : Ex} {sc : Scope} {elt : Expr} {gs : List Comprehension} {s : Scope} {p : Pos} (h : mtE T N x sc (.ListComp elt gs s p) = true) : ∃ e0 tg it cnd own, (x = .lc e0 tg it cnd own ∨ x = .mut (.lc e0 tg it cnd own)) ∧ mtE T N (.lc e0 tg it cnd own) sc (.ListComp elt gs s p) = true := by
  have gen : ∀ y, mtE T N y sc (.ListComp elt gs s p) = true → (∃ e0 tg it cnd own, y = .lc e0 tg it cnd own) ∨ ∃ y', y = .mut y' := fun y hy => by
    cases y <;> first
      | exact .inl ⟨_, _, _, _, _, rfl⟩
      | exact .inr ⟨_, rfl⟩
      | (simp only [mtE] at hy; cases hy)
      | (rename_i d; cases d <;> simp [mtE, conM] at hy)
  rcases gen x h with ⟨e0, tg, it, cnd, own, rfl⟩ | ⟨y, rfl⟩
  · exact ⟨e0, tg, it, cnd, own, .inl rfl, h⟩
  · simp only [mtE, Bool.and_eq_true] at h
    rcases gen y h.2 with ⟨e0, tg, it, cnd, own, rfl⟩ | ⟨y', rfl⟩
    · exact ⟨e0, tg, it, cnd, own, .inr rfl, h.2⟩
    · simp [fresh] at h
theorem mut_dc {x : Ex} {sc : Scope} {kx vx : Expr} {gs : List Comprehension} {s : Scope} {p : Pos} (h : mtE T N x sc (.DictComp kx vx gs s p) = true) : (∃ e0 e1 tg it cnd own, (x = .dc e0 e1 tg it cnd own ∨ x = .mut (.dc e0 e1 tg it cnd own)) ∧ mtE T N (.dc e0 e1 tg it cnd own) sc (.DictComp kx vx gs s p) = true) ∨
    ∃ e0 e1 tg it cnd tg1 it1 cnd1 own own1, (x = .dc2 e0 e1 tg it cnd tg1 it1 cnd1 own own1 ∨ x = .mut (.dc2 e0 e1 tg it cnd tg1 it1 cnd1 own own1)) ∧ mtE T N (.dc2 e0 e1 tg it cnd tg1 it1 cnd1 own own1) sc (.DictComp kx vx gs s p) = true := by
  have gen : ∀ y, mtE T N y sc (.DictComp kx vx gs s p) = true → (∃ e0 e1 tg it cnd own, y = .dc e0 e1 tg it cnd own) ∨ (∃ e0 e1 tg it cnd tg1 it1 cnd1 own own1, y = .dc2 e0 e1 tg it cnd tg1 it1 cnd1 own own1) ∨ ∃ y', y = .mut y' := fun y hy => by
    cases y <;> first
      | exact .inl ⟨_, _, _, _, _, _, rfl⟩
      | exact .inr (.inl ⟨_, _, _, _, _, _, _, _, _, _, rfl⟩)
      | exact .inr (.inr ⟨_, rfl⟩)
      | (simp only [mtE] at hy; cases hy)
      | (rename_i d; cases d <;> simp [mtE, conM] at hy)
  rcases gen x h with ⟨e0, e1, tg, it, cnd, own, rfl⟩ | ⟨e0, e1, tg, it, cnd, tg1, it1, cnd1, own, own1, rfl⟩ | ⟨y, rfl⟩
  · exact .inl ⟨e0, e1, tg, it, cnd, own, .inl rfl, h⟩
  · exact .inr ⟨e0, e1, tg, it, cnd, tg1, it1, cnd1, own, own1, .inl rfl, h⟩
  · simp only [mtE, Bool.and_eq_true] at h
    rcases gen y h.2 with ⟨e0, e1, tg, it, cnd, own, rfl⟩ | ⟨e0, e1, tg, it, cnd, tg1, it1, cnd1, own, own1, rfl⟩ | ⟨y', rfl⟩
    · exact .inl ⟨e0, e1, tg, it, cnd, own, .inr rfl, h.2⟩
    · exact .inr ⟨e0, e1, tg, it, cnd, tg1, it1, cnd1, own, own1, .inr rfl, h.2⟩
    · simp [fresh] at h
theorem s_asg {t : Tg} {x : Ex} {X : Cx} {W : WX} {sc : Scope} {tg' e' : Expr} {pos : Pos} (g : GdS T N Γ k X W sc) (h1 : mtT N sc t tg' = true) (h2 : mtE T N x sc e' = true) (h3 : asgK sc tg' e' = true) : PS X (.Assign [tg'] e' pos) (tS T X.K W Γ (.asg t x)) := by
  have hx := sE x X W sc e' g.toGd h2
  unfold asgK at h3
  split at h3
  · rename_i n np
    have cellCase : sc.names.lookup n = some .cell → PS X (.Assign [.Name n np] e' pos) (tS T X.K W Γ (.asg t x)) := fun hc => by
      refine st_asg g h1 hx ?_ ?_ rfl
      · show swapsWith e' (some (.Name n np)) pos.line X.env = pure false
        exact sw_cell (by rw [g.sc]; exact hc)
      · cases e' <;> rfl
    split at h3
    · rename_i elt gs s q
      rcases Bool.or_eq_true_iff.mp h3 with h3 | h3
      · obtain ⟨k1, k2, k3⟩ := lcK_ok h3
        obtain ⟨e0, tg, it, cnd, own, hy, hm⟩ := mut_lc h2
        simp only [mtE] at hm
        split at hm
        · rename_i heq
          cases heq
          simp only [Bool.and_eq_true, decide_eq_true_eq] at hm
          obtain ⟨⟨⟨⟨⟨⟨⟨⟨m1, m2⟩, m3⟩, m4⟩, m5⟩, m6⟩, m7⟩, m8⟩, m9⟩ := hm
          obtain ⟨hi, hp⟩ := sI it X W sc _ _ g.toGd m1
          cases t with
          | nm i =>
            simp only [mtT, Bool.and_eq_true, decide_eq_true_eq] at h1
            exact st_lc g hy h1.1 k1 k2 k3 hi hp m2 (by simpa using m8) m9 m7 m5 m4 (fun X' W' g' => sL cnd X' W' _ _ g' m3) (fun X' W' g' => sE e0 X' W' _ _ g' m6)
          | tp ts => simp [mtT] at h1
        · cases hm
      · exact cellCase (of_decide_eq_true h3)
    · rename_i kx vx gs s q
      rcases Bool.or_eq_true_iff.mp h3 with h3 | h3
      · obtain ⟨k1, k2, k3⟩ := lcK_ok h3
        rcases mut_dc h2 with ⟨e0, e1, tg, it, cnd, own, hy, hm⟩ | ⟨e0, e1, tg, it, cnd, tg1, it1, cnd1, own, own1, hy, hm⟩
        · simp only [mtE] at hm
          split at hm
          · rename_i heq
            cases heq
            simp only [Bool.and_eq_true, decide_eq_true_eq] at hm
            obtain ⟨⟨⟨⟨⟨⟨⟨⟨⟨m1, m2⟩, m3⟩, m4⟩, m5⟩, m6⟩, m6'⟩, m7⟩, m8⟩, m9⟩ := hm
            obtain ⟨hi, hp⟩ := sI it X W sc _ _ g.toGd m1
            cases t with
            | nm i =>
              simp only [mtT, Bool.and_eq_true, decide_eq_true_eq] at h1
              exact st_dc g hy h1.1 k1 k2 k3 hi hp m2 (by simpa using m8) m9 m7 m5 m4 (fun X' W' g' => sL cnd X' W' _ _ g' m3) (fun X' W' g' => sE e0 X' W' _ _ g' m6) (fun X' W' g' => sE e1 X' W' _ _ g' m6')
            | tp ts => simp [mtT] at h1
          · cases hm
        · simp only [mtE] at hm
          split at hm
          · rename_i heq
            cases heq
            simp only [Bool.and_eq_true, decide_eq_true_eq] at hm
            obtain ⟨⟨⟨⟨⟨⟨⟨⟨⟨⟨⟨⟨⟨⟨⟨⟨⟨m1, m2⟩, m3⟩, m4⟩, m5⟩, m6⟩, m7⟩, m8⟩, m9⟩, m10⟩, m11⟩, m12⟩, m13⟩, m14⟩, m15⟩, m16⟩, m17⟩, m18⟩ := hm
            obtain ⟨hi, hp⟩ := sI it X W sc _ _ g.toGd m1
            cases t with
            | nm i =>
              simp only [mtT, Bool.and_eq_true, decide_eq_true_eq] at h1
              exact st_dc2 g hy h1.1 k1 k2 k3 m18 (by simpa using m15) (by simpa using m16) (dc2_ok g.toGd hi hp (pln_plain m7) m2 m8 m14 m18 (by simpa using m17) m5 m4 m11 m10 (fun X' W' g' _ => sL cnd X' W' _ _ g' m3) (fun X' W' g' _ => sL cnd1 X' W' _ _ g' m9) (fun X' W' g' _ => sE it1 X' W' _ _ g' m6) (fun X' W' g' _ => sE e0 X' W' _ _ g' m12) (fun X' W' g' _ => sE e1 X' W' _ _ g' m13))
            | tp ts => simp [mtT] at h1
          · cases hm
      · exact cellCase (of_decide_eq_true h3)
    · cases h3
    · rename_i k1 k2 k3
      have hl : isLC e' = false := by
        cases e' <;> first | rfl | exact absurd rfl (k1 _ _ _ _) | exact absurd rfl (k2 _ _ _ _ _) | exact absurd rfl (k3 _ _ _ _)
      exact st_set g h1 hx hl
  · rename_i ts m tp
    split at h3
    · rename_i vs m2 vp
      rw [Bool.and_eq_true] at h3
      exact st_asg g h1 hx rfl (noSwap_eq h3.2 (by rw [g.sc]; exact h3.1)) rfl
    · rename_i k1
      simp only [Bool.not_eq_true'] at h3
      refine st_asg g h1 hx (by show swapsWith e' (some (.Tuple ts m tp)) pos.line X.env = pure false; exact sw_plain h3) ?_ rfl
      cases e' <;> first | rfl | exact absurd rfl (k1 _ _ _)
  · cases h3
mutual
theorem sS : ∀ (s : Sm) (X : Cx) (W : WX) (sc : Scope) (st : Stmt), GdS T N Γ k X W sc → ExcF T X.prog X.K X.mg Γ → mtS T N sc s st = true → PS X st (tS T X.K W Γ s)
  | .asg t e, X, W, sc, st, g, F, h => by
    simp only [mtS] at h
    split at h
    · simp only [Bool.and_eq_true] at h
      exact s_asg g h.1.1 h.1.2 h.2
    · cases h
  | .asgS o i e, X, W, sc, st, g, F, h => by
    simp only [mtS] at h
    split at h
    · simp only [Bool.and_eq_true] at h
      exact st_sub g (sE o X W sc _ g.toGd h.1.1) (sE i X W sc _ g.toGd h.1.2) (sE e X W sc _ g.toGd h.2)
    · cases h
  | .asgA o f e, X, W, sc, st, g, F, h => by
    simp only [mtS] at h
    split at h
    · simp only [Bool.and_eq_true, decide_eq_true_eq] at h
      obtain ⟨⟨⟨rfl, h1⟩, h2⟩, h3⟩ := h
      exact st_fld g h1 (sE o X W sc _ g.toGd h2) (sE e X W sc _ g.toGd h3)
    · cases h
  | .par ns es, X, W, sc, st, g, F, h => by
    simp only [mtS] at h
    split at h
    · simp only [Bool.and_eq_true] at h
      obtain ⟨⟨h1, h2⟩, h3⟩ := h
      split at h1
      · simp only [Bool.and_eq_true, decide_eq_true_eq] at h1
        exact st_par g h1.1.1 h1.1.2 h1.2 h2 (sL es X W sc _ g.toGd h3)
      · cases h1
    · cases h
  | .swp _ _ _ _ _, X, W, sc, st, g, F, h => by simp [mtS] at h
  | .aug i o e, X, W, sc, st, g, F, h => by
    simp only [mtS] at h
    split at h
    · simp only [Bool.and_eq_true, decide_eq_true_eq] at h
      obtain ⟨⟨⟨rfl, h1⟩, h2⟩, h3⟩ := h
      exact st_aug g h1 h2 (sE e X W sc _ g.toGd h3)
    · cases h
  | .augA o f op e, X, W, sc, st, g, F, h => by
    simp only [mtS] at h
    split at h
    · simp only [Bool.and_eq_true, decide_eq_true_eq] at h
      obtain ⟨⟨⟨⟨rfl, rfl⟩, h1⟩, h2⟩, h3⟩ := h
      exact st_augA g h1 (sE o X W sc _ g.toGd h2) (sE e X W sc _ g.toGd h3)
    · cases h
  | .ex e, X, W, sc, st, g, F, h => by
    simp only [mtS] at h
    split at h
    · simp only [Bool.and_eq_true, Bool.not_eq_true'] at h
      exact st_ex (sE e X W sc _ g.toGd h.1) h.2
    · cases h
  | .ret e, X, W, sc, st, g, F, h => by
    simp only [mtS] at h
    split at h
    · exact st_ret (sE e X W sc _ g.toGd h)
    · cases h
  | .retN, X, W, sc, st, g, F, h => by
    simp only [mtS] at h
    split at h
    · exact st_retN
    · cases h
  | .ifs c a b, X, W, sc, st, g, F, h => by
    simp only [mtS] at h
    split at h
    · simp only [Bool.and_eq_true] at h
      exact st_if (sE c X W sc _ g.toGd h.1.1.1) h.1.1.2 (sSs a X W sc _ g F h.1.2) (sSs b X W sc _ g F h.2)
    · cases h
  | .fors t it body, X, W, sc, st, g, F, h => by
    simp only [mtS] at h
    split at h
    · simp only [Bool.and_eq_true] at h
      obtain ⟨hi, hp⟩ := sI it X W sc _ _ g.toGd h.1.2
      exact st_for g h.1.1 hi hp (sSs body X W sc _ g F h.2)
    · cases h
  | .whl c body, X, W, sc, st, g, F, h => by
    simp only [mtS] at h
    split at h
    · simp only [Bool.and_eq_true] at h
      exact st_whl g (sE c X W sc _ g.toGd h.1.1) h.1.2 (sSs body X W sc _ g F h.2)
    · cases h
  | .rai C es, X, W, sc, st, g, F, h => by
    simp only [mtS] at h
    split at h
    · simp only [Bool.and_eq_true] at h
      obtain ⟨⟨⟨⟨h1, h2⟩, h3⟩, h4⟩, h5⟩ := h
      split at h1
      · rename_i cl hcl
        simp only [Bool.and_eq_true, Bool.or_eq_true, decide_eq_true_eq] at h1
        have hl := sL es X W sc _ g.toGd h4
        obtain ⟨h0, h1⟩ := h1
        rcases h1 with h1 | ⟨h1, hlen⟩
        · cases hl with
          | nil => simp at h5
          | cons a t => exact st_rai g F hcl h0 h1 h2 h3 (.cons a t)
        · cases hl with
          | nil => simp at h5
          | cons a t =>
            cases t with
            | nil =>
              cases hce : cl.exc with
              | none => rw [hce] at h1; cases h1
              | some o =>
                cases o with
                | none => rw [hce] at h1; cases h1
                | some f => exact st_raiF g F hcl h0 hce h2 h3 a
            | cons _ _ => simp at hlen
      · cases h1
    · cases h
  | .try_ body hs, X, W, sc, st, g, F, h => by
    simp only [mtS] at h
    split at h
    · rename_i body' ehs _
      simp only [Bool.and_eq_true] at h
      obtain ⟨⟨h1, h2⟩, h3⟩ := h
      cases hs with
      | nil => simp at h3
      | cons hd hs =>
        cases ehs with
        | nil => simp [mtHds] at h2
        | cons eh ehs => exact st_try g F (fun X' W' g' hP hK hmg => sSs body X' W' sc _ g' (by rw [hP, hK, hmg]; exact F) h1) h2
    · cases h
  | .brk, X, W, sc, st, g, F, h => by
    simp only [mtS] at h
    split at h
    · exact st_brk
    · cases h
  | .cnt, X, W, sc, st, g, F, h => by
    simp only [mtS] at h
    split at h
    · exact st_cnt
    · cases h
  | .pas, X, W, sc, st, g, F, h => by
    simp only [mtS] at h
    split at h
    · exact st_pas
    · cases h
  | .any, X, W, sc, st, g, F, h => ⟨fun pins s σ H D I ⟨ι, κ, S, ρ, w, en, p⟩ => (show False from p).elim⟩
theorem sSs : ∀ (ss : List Sm) (X : Cx) (W : WX) (sc : Scope) (sts : List Stmt), GdS T N Γ k X W sc → ExcF T X.prog X.K X.mg Γ → mtSs T N sc ss sts = true → PSs X sts (tSs T X.K W Γ ss)
  | [], X, W, sc, [], g, F, h => sts_nil
  | [], X, W, sc, _ :: _, g, F, h => by simp [mtSs] at h
  | _ :: _, X, W, sc, [], g, F, h => by simp [mtSs] at h
  | s :: ss, X, W, sc, t :: ts, g, F, h => by
    simp only [mtSs, Bool.and_eq_true] at h
    exact sts_cons (sS s X W sc t g F h.1) (sSs ss X W sc ts g F h.2)
end
end
end MP
end

section
set_option Elab.async false
set_option linter.all false
set_option maxRecDepth 100000
/-! MpW: the end of a call; functions by levels. -/
namespace MP
open PySem PySem.Spec PyProof.Rows L2
section
variable {T : Tab} {K : PySem.W.Frag} {H H' : Hp} {ι ι' κ : List Addr} {S S' : Sto}
/-! what is told of a heap refers to its store -/
mutual
theorem Rep.below : ∀ {d : D} {v : V}, Rep K H ι κ d v → below ι.length d = true
  | .non, _, _ | .bl _, _, _ | .int _, _, _ | .str _, _, _ | .rol _, _, _ => by simp [MP.below]
  | .tup ds, v, h => by simp only [Rep] at h; obtain ⟨a, vs, _, _, q⟩ := h; simp only [MP.below]; exact RepL.below q
  | .lst ds, v, h => by simp only [Rep] at h; obtain ⟨a, vs, _, _, _, _, q⟩ := h; simp only [MP.below]; exact RepL.below q
  | .dic ds, v, h => by simp only [Rep] at h; obtain ⟨a, o, vs, _, _, q⟩ := h; simp only [MP.below]; exact RepK.below q
  | .dit ds, v, h => by simp only [Rep] at h; obtain ⟨a, o, vs, _, _, q⟩ := h; simp only [MP.below]; exact RepT.below q
  | .ref n, v, h => by
    simp only [Rep] at h
    obtain ⟨a, _, q⟩ := h
    simp only [MP.below]
    exact decide_eq_true (List.getElem?_eq_some_iff.mp q).1
theorem RepL.below : ∀ {d : List D} {v : List V}, RepL K H ι κ d v → belowL ι.length d = true
  | [], _, _ => by simp [belowL]
  | d :: ds, _, h => by simp only [RepL] at h; obtain ⟨v, r, _, q, q'⟩ := h; simp only [belowL, Rep.below q, RepL.below q']; rfl
theorem RepK.below : ∀ {d : List (Ky × D)} {v : List (Ky × V)}, RepK K H ι κ d v → belowK ι.length d = true
  | [], _, _ => by simp [belowK]
  | (k, d) :: ds, _, h => by simp only [RepK] at h; obtain ⟨v, r, _, q, q', _⟩ := h; simp only [belowK, Rep.below q, RepK.below q']; rfl
theorem RepT.below : ∀ {d : List (List Ky × D)} {v : List (List Ky × V)}, RepT K H ι κ d v → belowT ι.length d = true
  | [], _, _ => by simp [belowT]
  | (k, d) :: ds, _, h => by simp only [RepT] at h; obtain ⟨v, r, _, q, q'⟩ := h; simp only [belowT, Rep.below q, RepT.below q']; rfl
end
theorem RepF.below : ∀ {d : List (Str × D)} {v : List (Str × V)}, RepF K H ι κ d v → (d.all fun p => below ι.length p.2) = true
  | [], _, _ => rfl
  | (k, d) :: ds, _, ⟨v, r, _, q, q'⟩ => by simp only [List.all_cons, Rep.below q, RepF.below q']; rfl
theorem ref_back (hp : ι <+: ι') {n : Nat} {a : Addr} (hn : n < ι.length) (h : ι'[n]? = some a) : ι[n]? = some a := by
  obtain ⟨t, rfl⟩ := hp
  rw [List.getElem?_append_left hn] at h; exact h
/-! back to the store ahead of the call -/
mutual
theorem Rep.back (hp : ι <+: ι') : ∀ {d : D} {v : V}, below ι.length d = true → Rep K H ι' κ d v → Rep K H ι κ d v
  | .non, _, _, h | .bl _, _, _, h | .int _, _, _, h | .str _, _, _, h => by simpa only [Rep] using h
  | .tup ds, v, b, h => by
    simp only [Rep] at h ⊢
    simp only [MP.below] at b
    obtain ⟨a, vs, r, s, q⟩ := h
    exact ⟨a, vs, r, s, RepL.back hp b q⟩
  | .lst ds, v, b, h => by
    simp only [Rep] at h ⊢
    simp only [MP.below] at b
    obtain ⟨a, vs, r, s, n, n', q⟩ := h
    exact ⟨a, vs, r, s, fun z => n (hp.subset z), n', RepL.back hp b q⟩
  | .rol ns, v, b, h => by
    simp only [Rep] at h ⊢
    obtain ⟨a, r, s, q⟩ := h
    rcases s with ⟨s, n, n'⟩ | s
    · exact ⟨a, r, .inl ⟨s, fun z => n (hp.subset z), n'⟩, q⟩
    · exact ⟨a, r, .inr s, q⟩
  | .dic kvs, v, b, h => by
    simp only [Rep] at h ⊢
    simp only [MP.below] at b
    obtain ⟨a, o, vs, r, s, q⟩ := h
    exact ⟨a, o, vs, r, s, RepK.back hp b q⟩
  | .dit kvs, v, b, h => by
    simp only [Rep] at h ⊢
    simp only [MP.below] at b
    obtain ⟨a, o, vs, r, s, q⟩ := h
    exact ⟨a, o, vs, r, s, RepT.back hp b q⟩
  | .ref n, v, b, h => by
    simp only [Rep] at h ⊢
    simp only [MP.below] at b
    obtain ⟨a, r, s⟩ := h
    exact ⟨a, r, ref_back hp (of_decide_eq_true b) s⟩
theorem RepL.back (hp : ι <+: ι') : ∀ {d : List D} {v : List V}, belowL ι.length d = true → RepL K H ι' κ d v → RepL K H ι κ d v
  | [], _, _, h => by simpa only [RepL] using h
  | d :: ds, _, b, h => by
    simp only [RepL] at h ⊢
    simp only [belowL, Bool.and_eq_true] at b
    obtain ⟨v, r, rfl, q, q'⟩ := h
    exact ⟨v, r, rfl, Rep.back hp b.1 q, RepL.back hp b.2 q'⟩
theorem RepK.back (hp : ι <+: ι') : ∀ {d : List (Ky × D)} {v : List (Ky × V)}, belowK ι.length d = true → RepK K H ι' κ d v → RepK K H ι κ d v
  | [], _, _, h => by simpa only [RepK] using h
  | (k, d) :: ds, _, b, h => by
    simp only [RepK] at h ⊢
    simp only [belowK, Bool.and_eq_true] at b
    obtain ⟨v, r, rfl, q, q', ok⟩ := h
    exact ⟨v, r, rfl, Rep.back hp b.1 q, RepK.back hp b.2 q', ok⟩
theorem RepT.back (hp : ι <+: ι') : ∀ {d : List (List Ky × D)} {v : List (List Ky × V)}, belowT ι.length d = true → RepT K H ι' κ d v → RepT K H ι κ d v
  | [], _, _, h => by simpa only [RepT] using h
  | (k, d) :: ds, _, b, h => by
    simp only [RepT] at h ⊢
    simp only [belowT, Bool.and_eq_true] at b
    obtain ⟨v, r, rfl, q, q'⟩ := h
    exact ⟨v, r, rfl, Rep.back hp b.1 q, RepT.back hp b.2 q'⟩
end
theorem RepF.back (hp : ι <+: ι') : ∀ {d : List (Str × D)} {v : List (Str × V)}, (d.all fun p => MP.below ι.length p.2) = true → RepF K H ι' κ d v → RepF K H ι κ d v
  | [], _, _, h => h
  | (k, d) :: ds, _, b, ⟨v, r, e1, q, q'⟩ => by
    simp only [List.all_cons, Bool.and_eq_true] at b
    exact ⟨v, r, e1, Rep.back hp b.1 q, RepF.back hp b.2 q'⟩
def belowO (n : Nat) : O → Bool
  | .lst xs => belowL n xs
  | .dic kvs => belowK n kvs
  | .dit kvs => belowT n kvs
  | .ins _ fs => fs.all fun p => below n p.2
theorem ObR.below {a : Addr} {o : O} (h : ObR T K H ι κ a o) : belowO ι.length o = true := by
  cases o with
  | lst ds => obtain ⟨vs, _, r⟩ := h; exact RepL.below r
  | dic ds => obtain ⟨vs, _, r⟩ := h; exact RepK.below r
  | dit ds => obtain ⟨vs, _, r⟩ := h; exact RepT.below r
  | ins C fs => obtain ⟨c, dx, gs, _, _, r⟩ := h; exact RepF.below r
theorem ObR.back (hp : ι <+: ι') {a : Addr} {o : O} (b : belowO ι.length o = true) (h : ObR T K H ι' κ a o) : ObR T K H ι κ a o := by
  cases o with
  | lst ds => obtain ⟨vs, q, r⟩ := h; exact ⟨vs, q, RepL.back hp b r⟩
  | dic ds => obtain ⟨vs, q, r⟩ := h; exact ⟨vs, q, RepK.back hp b r⟩
  | dit ds => obtain ⟨vs, q, r⟩ := h; exact ⟨vs, q, RepT.back hp b r⟩
  | ins C fs => obtain ⟨c, dx, gs, q, r, t⟩ := h; exact ⟨c, dx, gs, q, r, RepF.back hp b t⟩
theorem Wd.back (w : Wd T K H ι κ S) (e : Ext H ι H' ι') (w' : Wd T K H' ι' κ S') (ho : oldOk S.length S S' = true) : Ext H ι H' ι ∧ Wd T K H' ι κ (S'.take S.length) := by
  have hl : S.length ≤ S'.length := by
    rw [← w.len, ← w'.len]; exact e.pre.length_le
  refine ⟨⟨e.keep, fun _ z => .inl z, List.prefix_refl _⟩, ⟨by rw [List.length_take, w.len]; omega, w.nd, w.dj, w'.kt, fun n a o h1 h2 => ?_⟩⟩
  have hn : n < S.length := by rw [← w.len]; exact (List.getElem?_eq_some_iff.mp h1).1
  rw [List.getElem?_take_of_lt hn] at h2
  have h3 := w'.ob n a o (getE e h1) h2
  refine h3.back e.pre ?_
  unfold oldOk at ho
  rw [List.all_eq_true] at ho
  have h4 := ho n (List.mem_range.mpr hn)
  rcases Bool.or_eq_true_iff.mp h4 with h4 | h4
  · have h5 : S'[n]? = S[n]? := of_decide_eq_true h4
    rw [h2] at h5
    exact (w.ob n a o h1 h5.symm).below
  · rw [h2] at h4
    rw [w.len]
    cases o with
    | lst xs => exact h4
    | dic xs => exact h4
    | dit xs => exact h4
    | ins C fs => exact h4
/-! laid open -/
theorem frz_sound (w' : Wd T K H' ι' κ S') (hp : ι <+: ι') : ∀ (m : Nat), (∀ {d d' : D} {v : V}, frz S' ι.length m d = some d' → Rep K H' ι' κ d v → Rep K H' ι κ d' v) ∧ (∀ {d d' : List D} {v : List V}, frzL S' ι.length m d = some d' → RepL K H' ι' κ d v → RepL K H' ι κ d' v) ∧
    (∀ {d d' : List (Ky × D)} {v : List (Ky × V)}, frzK S' ι.length m d = some d' → RepK K H' ι' κ d v → RepK K H' ι κ d' v) ∧ (∀ {d d' : List (List Ky × D)} {v : List (List Ky × V)}, frzT S' ι.length m d = some d' → RepT K H' ι' κ d v → RepT K H' ι κ d' v)
  | 0 => ⟨fun h => by simp [frz] at h, fun h => by simp [frzL] at h, fun h => by simp [frzK] at h, fun h => by simp [frzT] at h⟩
  | m + 1 => by
    obtain ⟨i1, i2, i3, i4⟩ := frz_sound w' hp m
    refine ⟨fun {d d' v} h r => ?_, fun {d d' v} h r => ?_, fun {d d' v} h r => ?_, fun {d d' v} h r => ?_⟩
    · simp only [frz] at h
      cases d with
      | ref i =>
        simp only at h
        simp only [Rep] at r
        obtain ⟨a, rfl, ha⟩ := r
        split at h
        · rename_i hi
          cases h
          simp only [Rep]
          exact ⟨a, rfl, ref_back hp hi ha⟩
        · rename_i hi
          split at h
          · rename_i xs hs
            obtain ⟨ys, hy, rfl⟩ := Option.map_eq_some_iff.mp h
            obtain ⟨vs, h1, h2⟩ := w'.ob i a _ ha hs
            simp only [Rep]
            refine ⟨a, vs, rfl, h1, fun z => ?_, fun z => w'.dj a z (List.mem_of_getElem? ha), i2 hy h2⟩
            obtain ⟨j, hj, e⟩ := List.mem_iff_getElem.mp z
            have h5 : ι'[j]? = some a := by
              obtain ⟨t, rfl⟩ := hp
              rw [List.getElem?_append_left hj, List.getElem?_eq_getElem hj, e]
            have h6 := (List.getElem?_eq_some_iff.mp ha)
            have h7 := (List.getElem?_eq_some_iff.mp h5)
            have : i = j := (List.getElem_inj w'.nd).mp (h6.2.trans h7.2.symm)
            omega
          · cases h
      | tup xs =>
        obtain ⟨ys, hy, rfl⟩ := Option.map_eq_some_iff.mp h
        simp only [Rep] at r ⊢
        obtain ⟨a, vs, e, s, q⟩ := r
        exact ⟨a, vs, e, s, i2 hy q⟩
      | lst xs =>
        obtain ⟨ys, hy, rfl⟩ := Option.map_eq_some_iff.mp h
        simp only [Rep] at r ⊢
        obtain ⟨a, vs, e, s, n, n', q⟩ := r
        exact ⟨a, vs, e, s, fun z => n (hp.subset z), n', i2 hy q⟩
      | dic xs =>
        obtain ⟨ys, hy, rfl⟩ := Option.map_eq_some_iff.mp h
        simp only [Rep] at r ⊢
        obtain ⟨a, o, vs, e, s, q⟩ := r
        exact ⟨a, o, vs, e, s, i3 hy q⟩
      | dit xs =>
        obtain ⟨ys, hy, rfl⟩ := Option.map_eq_some_iff.mp h
        simp only [Rep] at r ⊢
        obtain ⟨a, o, vs, e, s, q⟩ := r
        exact ⟨a, o, vs, e, s, i4 hy q⟩
      | non => cases h; exact Rep.back hp rfl r
      | bl b => cases h; exact Rep.back hp rfl r
      | int i => cases h; exact Rep.back hp rfl r
      | str x => cases h; exact Rep.back hp rfl r
      | rol ns => cases h; exact Rep.back hp rfl r
    · simp only [frzL] at h
      cases d with
      | nil => cases h; simpa only [RepL] using r
      | cons x xs =>
        simp only at h
        split at h
        · rename_i y ys h1 h2
          cases h
          simp only [RepL] at r ⊢
          obtain ⟨v, r', rfl, q, q'⟩ := r
          exact ⟨v, r', rfl, i1 h1 q, i2 h2 q'⟩
        · cases h
    · simp only [frzK] at h
      cases d with
      | nil => cases h; simpa only [RepK] using r
      | cons x xs =>
        obtain ⟨kx, x⟩ := x
        simp only at h
        split at h
        · rename_i y ys h1 h2
          cases h
          simp only [RepK] at r ⊢
          obtain ⟨v, r', rfl, q, q', ok⟩ := r
          exact ⟨v, r', rfl, i1 h1 q, i3 h2 q', ok⟩
        · cases h
    · simp only [frzT] at h
      cases d with
      | nil => cases h; simpa only [RepT] using r
      | cons x xs =>
        obtain ⟨kx, x⟩ := x
        simp only at h
        split at h
        · rename_i y ys h1 h2
          cases h
          simp only [RepT] at r ⊢
          obtain ⟨v, r', rfl, q, q'⟩ := r
          exact ⟨v, r', rfl, i1 h1 q, i4 h2 q'⟩
        · cases h
theorem gc_sound {W : WX} {σ : L2.St} {d : D} {Q : VK} (w : Wd T K H ι κ S) (h : Post T K κ W σ (relV K κ) H ι (gc S d S') Q) {v : V} (e : Ext H ι H' ι') (w' : Wd T K H' ι' κ S') (r : Rep K H' ι' κ d v) : Q v H' := by
  unfold gc at h
  split at h
  · rename_i ho
    obtain ⟨e2, w2⟩ := w.back e w' ho
    split at h
    · rename_i hb
      rw [← w.len] at hb
      exact h v H' ι e2 w2 (Rep.back e.pre hb r)
    · split at h
      · rename_i d' hf
        rw [← w.len] at hf h w2
        exact h v H' ι e2 w2 ((frz_sound w' e.pre 10000).1 hf r)
      · exact h v H' ι' e w' r
  · exact h v H' ι' e w' r
theorem gcX_sound {W : WX} {σ : L2.St} {C : Nat} {fs : List (Str × D)} {Q : VK} (w : Wd T K H ι κ S) (h : Post T K κ W σ (relV K κ) H ι (gcX S C fs S') Q) {cls : Value} {dx : Option Addr} (e : Ext H ι H' ι') (w' : Wd T K H' ι' κ S') (x : ExR T K H' ι' κ C fs cls dx) : W cls dx σ H' := by
  unfold gcX at h
  split at h
  · rename_i ho
    obtain ⟨e2, w2⟩ := w.back e w' ho.1
    refine h cls dx H' ι e2 w2 ?_
    obtain ⟨c, h1, h2, h3⟩ := x
    refine ⟨c, h1, h2, ?_⟩
    rcases h3 with h3 | ⟨f, d, a, v, k1, rfl, k3, k4, k5⟩
    · exact .inl h3
    · refine .inr ⟨f, d, a, v, k1, rfl, k3, k4, Rep.back e.pre ?_ k5⟩
      have := ho.2
      simp only [List.all_cons, List.all_nil, Bool.and_true] at this
      rw [w.len]; exact this
  · exact h cls dx H' ι' e w' x
end
end MP
end

section
set_option Elab.async false
set_option linter.all false
set_option maxRecDepth 100000
/-! MpX: functions by levels. -/
namespace MP
open PySem PySem.Spec PyProof.Rows L2
def DefAt (T : Tab) (K : PySem.W.Frag) (a : Addr) (fn : Fn) (fd : FuncData) : Prop :=
  ∃ x qual params body scope, FunD K x qual params body scope [] [] a fd ∧ FnScope fn.N fn.ps scope ∧ Binds K fd fn.ps [] ∧ mtSs T fn.N scope fn.body body = true
structure Stat (T : Tab) (P : Program) (K : PySem.W.Frag) (mg : Str → Option Value) (ad : Nat → Addr) : Prop where
  df : ∀ (f : Nat) (fn : Fn), T.P.fns[f]? = some fn → ∃ fd, DefAt T K (ad f) fn fd
  gl : ∀ (x : Str) (f : Nat), (x, f) ∈ T.gl → (∃ fn, T.P.fns[f]? = some fn) ∧ mg x = some (.ref (ad f)) ∧ PySem.W.keepIn K (.ref (ad f)) = true
  blt : ∀ x ∈ bltNames, mg x = none
  con : ∀ (x : Str) (d : D), (x, d) ∈ T.consts → ∃ u v, mg x = some u ∧ RelV v u ∧ ∀ H ι κ, Rep K H ι κ d v
  cls : ∀ (C : Nat) (c : Addr), T.cad K C = some c → Cls K c
  noat : ∀ (C : Nat) (c : Addr) (f : Str), T.cad K C = some c → f ∈ T.flds → NoAttr K c f
  meth : ∀ (C : Nat) (c : Addr) (cl : Cl) (m : Str) (f : Nat), T.cad K C = some c → T.P.cls[C]? = some cl → cl.meths.lookup m = some f → (∃ fn, T.P.fns[f]? = some fn) ∧ Meth K c m (ad f)
  make : ∀ (C : Nat) (c : Addr) (cl : Cl) (f : Nat), T.cad K C = some c → T.P.cls[C]? = some cl → cl.init = some f → (∃ fn, T.P.fns[f]? = some fn) ∧ mg cl.name = some (.ref c) ∧ Mk K c (ad f)
  ecls : ∀ (C : Nat) (c : Cl), T.P.cls[C]? = some c → c.exc = some none → ∃ B newId initId bmB, ExcBaseFacts B newId initId bmB ∧ PySem.W.excIn K (He.ga K c.name) bmB newId = true ∧ PySem.W.keepIn K (.ref (He.ga K c.name)) = true ∧
    PySem.W.subIn K (.ref (He.ga K c.name)) (.type "BaseException") = some true ∧ PySem.W.typeIn K (.ref (He.ga K c.name)) = some (.type "type")
  eown : ∀ (C : Nat) (c : Cl) (f : Str), T.P.cls[C]? = some c → c.exc = some (some f) → OwnX P K mg (He.ga K c.name) f
  emg : ∀ (C : Nat) (c : Cl), T.P.cls[C]? = some c → c.exc.isSome = true → mg c.name = some (.ref (He.ga K c.name))
  exm : ∀ (C C' : Nat) (c c' : Cl), T.P.cls[C]? = some c → T.P.cls[C']? = some c' → c.exc.isSome = true → c'.exc.isSome = true → PySem.W.exmOne K (.ref (He.ga K c.name)) (.ref (He.ga K c'.name)) = some (T.P.sub C C')
section
variable {T : Tab} {P : Program} {w : World} {K : PySem.W.Frag} {mg : Str → Option Value} {base : Heap} {ad : Nat → Addr}
def lev (T : Tab) (j : Nat) : Ctx := T.P.ctx (run T.P j)
theorem Stat.excF (st : Stat T P K mg ad) (j : Nat) : ExcF T P K mg (lev T j) where
  own := st.eown
  cls := st.ecls
  mg := st.emg
  exm := st.exm
  xf := fun C c h => by
    show (match T.P.cls[C]? with
      | some c => c.exc
      | none => none) = c.exc
    rw [h]
  sub := fun _ _ => rfl
def Lv (T : Tab) (P : Program) (w : World) (K : PySem.W.Frag) (mg : Str → Option Value) (base : Heap) (ad : Nat → Addr) (j : Nat) : Prop :=
  ∀ (f : Nat) (fn : Fn) (fd : FuncData), T.P.fns[f]? = some fn → DefAt T K (ad f) fn fd → Binds K fd fn.ps [] ∧ FnOk P w K mg base (L2.CX P w) (2 * j + 1) (ad f) fd fn.ps (spF T K (lev T j) fn.ps.length f)
theorem Lv.fdef (st : Stat T P K mg ad) {j : Nat} (h : Lv T P w K mg base ad j) {f : Nat} {fn : Fn} (hf : T.P.fns[f]? = some fn) : FDef T P w K mg base (lev T j) (2 * j + 1) (ad f) f := by
  obtain ⟨fd, hd⟩ := st.df f fn hf
  obtain ⟨h1, h2⟩ := h f fn fd hf hd
  refine ⟨fd, fn.ps, h1, h2, fun ds S => ?_⟩
  show run T.P j f ds S = .no ∨ _
  cases j with
  | zero => exact .inl rfl
  | succ j =>
    simp only [run, hf]
    by_cases hl : ds.length = fn.ps.length
    · exact .inr hl
    · rw [if_neg hl]; exact .inl rfl
theorem Stat.globals (st : Stat T P K mg ad) {j : Nat} (h : Lv T P w K mg base ad j) : Globals T P w K mg base (lev T j) (2 * j + 1) where
  fn := fun x f hx => by
    obtain ⟨⟨fn, h1⟩, h2, h3⟩ := st.gl x f hx
    exact ⟨ad f, h2, h3, h.fdef st h1⟩
  blt := st.blt
  con := st.con
  cls := st.cls
  noat := st.noat
  meth := fun C c m f hc hm => by
    have hm : (match T.P.cls[C]? with
      | some c => c.meths.lookup m
      | none => none) = some f := hm
    split at hm
    · rename_i cl hcl
      obtain ⟨⟨fn, h1⟩, h2⟩ := st.meth C c cl m f hc hcl hm
      exact ⟨ad f, h2, h.fdef st h1⟩
    · cases hm
  make := fun C c f cl hc hcl hI => by
    have hI : (match T.P.cls[C]? with
      | some c => c.init
      | none => none) = some f := hI
    rw [hcl] at hI
    obtain ⟨⟨fn, h1⟩, h2, h3⟩ := st.make C c cl f hc hcl hI
    exact ⟨h2, ad f, h3, h.fdef st h1⟩
theorem env_start {H : Hp} {ι κ : List Addr} {N : List Str} {ds : List D} {vs : List V} (r : RepL K H ι κ ds vs) (hn : vs.length ≤ N.length) : EnvR K H ι κ (L2.start N vs) (ds.map some ++ List.replicate (N.length - ds.length) none) := by
  have hl := RepL.length r
  refine ⟨by unfold L2.start; simp; omega, fun i d e => ?_⟩
  by_cases hi : i < ds.length
  · rw [List.getElem?_append_left (by simpa using hi), List.getElem?_map] at e
    cases hd : ds[i]? with
    | none => rw [hd] at e; cases e
    | some d' =>
      rw [hd] at e
      cases e
      obtain ⟨v, h1, h2⟩ := RepL.get r hd
      refine ⟨v, ?_, h2⟩
      unfold L2.start
      rw [List.getElem?_append_left (by simp; omega), List.getElem?_map, h1]
      rfl
  · rw [List.getElem?_append_right (by simp; omega), List.getElem?_replicate] at e
    split at e <;> cases e
theorem Stat.levels (st : Stat T P K mg ad) : ∀ j, Lv T P w K mg base ad j
  | 0 => fun f fn fd hf hd => by
    obtain ⟨x, qual, params, body, scope, h1, h2, h3, h4⟩ := hd
    refine ⟨h3, ⟨fun vs H Q E ⟨ι, κ, S, ds, _, _, hl, _⟩ => hl, fun A outer s H args us vs Q E _ _ _ _ ⟨ι, κ, S, ds, _, _, _, p⟩ => ?_⟩⟩
    exact p.elim
  | j + 1 => fun f fn fd hf hd => by
    have ih := st.levels j
    obtain ⟨x, qual, params, body, scope, h1, h2, h3, h4⟩ := hd
    refine ⟨h3, ?_⟩
    show FnOk P w K mg base (L2.CX P w) (2 * j + 1 + 1 + 1) (ad f) fd fn.ps _
    refine h1.ok h2 (fun vs H Q E ⟨ι, κ, S, ds, _, _, hl, _⟩ => hl) fun cdv A outer s H vs Q E hroom ⟨ι, κ, S, ds, w0, r0, hl, p⟩ => ?_
    refine ⟨tSs T K (fun cls d _ H => E cls d H) (lev T j) fn.body, ?_, ?_⟩
    · have g : GdS T fn.N (lev T j) (2 * j + 1) (cxOf (L2.CX P w) P w K mg base fn.N qual scope (ad f) cdv A outer s H E) (fun cls d _ H => E cls d H) scope := {
        sc := rfl
        hN := rfl
        nd := h2.nd
        calm := rfl
        room := hroom
        tk := takes_of rfl rfl rfl rfl
        glo := st.globals ih
        stk := rfl
        frm := rfl
        own := passes_of rfl
        fn := fun _ _ => rfl
        kind := h2.kind
        one := by omega }
      exact sSs fn.body _ _ scope body g (st.excF j) h4
    · have p : Post T K κ (fun c d _ H => E c d H) [] (relV K κ) H ι (run T.P (j + 1) f ds S) Q := p
      simp only [run, hf] at p
      have hds : ds.length = fn.ps.length := (RepL.length r0).trans hl
      rw [if_pos hds] at p
      have hN : fn.ps.length ≤ fn.N.length := by
        have := congrArg List.length h2.pre
        rw [List.length_take] at this; omega
      refine ⟨ι, κ, S, ds.map some ++ List.replicate (fn.N.length - ds.length) none, w0, env_start r0 (by omega), ?_⟩
      show PostS T K κ _ _ H ι (evSs (lev T j) fn.body _ S)
      have p : Post T K κ (fun c d _ H => E c d H) [] (relV K κ) H ι (fin S (evSs (lev T j) fn.body (ds.map some ++ List.replicate (fn.N.length - ds.length) none) S)) Q := p
      cases hev : evSs (lev T j) fn.body (ds.map some ++ List.replicate (fn.N.length - ds.length) none) S with
      | ok fl S1 =>
        rw [hev] at p
        cases fl with
        | nx ρ => exact fun σ' H' ι' e' w' _ => gc_sound w0 p e' w' (by simp only [Rep])
        | ret d => exact fun v H' ι' e' w' r' => gc_sound w0 p e' w' r'
        | brk ρ => exact p.elim
        | cnt ρ => exact p.elim
      | exc C fs ρ S1 => rw [hev] at p; exact fun cls dx σ' H' ι' e' w' _ x' => gcX_sound w0 p e' w' x'
      | no => rw [hev] at p; exact p
end
end MP
end

section
set_option Elab.async false
set_option linter.all false
set_option maxRecDepth 100000
/-! MpY: the facts of a law's head give what the functions lean on; the law's end. -/
namespace MP
open PySem PySem.Spec PyProof.Rows L2
/-! ### what the head's run tells beside He's facts -/
/-- an own exception with super().__init__(..) and a field: its text -/
structure OwnD where
  cls : Str
  fld : Str
  file : Str
  name : Str
  qual : Str
  params : Arguments
  body : List Stmt
  scope : Scope
def OwnD.C (o : OwnD) (K : PySem.W.Frag) : Addr := He.ga K o.cls
def OwnD.fI (o : OwnD) (K : PySem.W.Frag) : Addr := He.ma K (He.ga K o.cls) "__init__"
def oexB (K : PySem.W.Frag) (C : Addr) : Bool := (match K.lookup C with
  | some ⟨.type t, _, .cls cd, sl⟩ => (match cd.mro, sl.toList with
    | .ref C' :: bm, [_, _, _, _, some (.builtin n), _] => decide (t = "type") && decide (C' = C) && decide (n = "ValueError.__new__") && !cd.hasDel && cd.hasDict && PySem.HandSPX.refsVE bm
    | _, _ => false)
  | _ => false) && decide (PySem.W.findIn K (.ref C) "__setattr__" = some (some (.builtin "object.__setattr__"))) && decide (PySem.W.subIn K (.ref C) (.type "BaseException") = some true) && decide (PySem.W.typeIn K (.ref C) = some (.type "type")) && PySem.W.keepIn K (.ref C)
theorem oexB_ok {K : PySem.W.Frag} {C : Addr} (h : oexB K C = true) : OexC K C := by
  unfold oexB at h
  simp only [Bool.and_eq_true, decide_eq_true_eq] at h
  obtain ⟨⟨⟨⟨h1, h2⟩, h3⟩, h4⟩, h5⟩ := h
  refine ⟨?_, h2, h3, h4, h5⟩
  split at h1
  · rename_i t dd cd sl ho
    split at h1
    · rename_i C' bm k0 k1 k2 k3 n k5 hm hs
      simp only [Bool.and_eq_true, decide_eq_true_eq, Bool.not_eq_true'] at h1
      obtain ⟨⟨⟨⟨⟨rfl, rfl⟩, rfl⟩, hdel⟩, hhd⟩, hbm⟩ := h1
      obtain ⟨nm, bs, mro, ns, qn, hd, sn, sub, ab, col, del⟩ := cd
      dsimp only at hm hdel hhd
      subst hm hdel hhd
      obtain ⟨l⟩ := sl
      simp only at hs
      subst hs
      exact ⟨nm, qn, ns, bs, bm, sn, sub, ab, col, dd, k0, k1, k2, k3, k5, ho, hbm⟩
    · cases h1
  · cases h1
def cellB (K : PySem.W.Frag) (C cc : Addr) : Bool := match K.lookup cc with
  | some ⟨_, _, .cell (some (.ref D)), _⟩ => decide (D = C)
  | _ => false
def fileB (K : PySem.W.Frag) (file : Str) (cd : Addr) : Bool := match K.lookup cd with
  | some ⟨_, _, .fields vs, _⟩ => (match (vs[2]? : Option Value) with
    | some (Value.str f _) => decide (f = file)
    | _ => false)
  | _ => false
def closB (K : PySem.W.Frag) (file : Str) (C fI : Addr) : Bool := match K.lookup fI with
  | some ⟨_, _, .func fd, _⟩ => (match fd.closure, fd.code with
    | [(n, cc)], .ref cd => decide (n = "__class__") && decide (fd.defaults = .none) && cellB K C cc && (PySem.W.codeIn K (.ref cd) fd.qualname && fileB K file cd)
    | _, _ => false)
  | _ => false
def upB (K : PySem.W.Frag) (C : Addr) : Bool := match PySem.W.clsIn K C with
  | some cd => decide (PySem.W.alongIn K "__init__" ((cd.mro.dropWhile (· != .ref C)).drop 1) = some (some (.builtin "ValueError.__init__")))
  | none => false
def OwnD.ok (o : OwnD) (K : PySem.W.Frag) : Bool := oexB K (o.C K) && xfB K (o.C K) && decide (PySem.W.findIn K (.ref (o.C K)) o.fld = some none) && decide (PySem.W.findIn K (.ref (o.C K)) "__init__" = some (some (.ref (o.fI K)))) && decide (PySem.W.typeIn K (.ref (o.fI K)) = some (.type "function")) && closB K o.file (o.C K) (o.fI K) &&
  decide (PySem.W.nsIn K mainGlobals "super" = some none) && decide (PySem.W.nsIn K cStatics "thirdparty.any" = some none) && upB K (o.C K) && decide (PySem.W.mroIn K (o.C K) (.ref (o.C K)) = some true) && decide (PySem.W.mroIn K (o.C K) (.type "ValueError") = some true)
abbrev TxW : Type := Option (Str × Str × Arguments × FuncBody × Scope × Addr × Addr)
def txW (K : PySem.W.Frag) (a : Addr) : TxW := match K.lookup a with
  | some ⟨_, _, .func fd, _⟩ => some (fd.name, fd.qualname, fd.params, fd.body, fd.scope, fd.globals, fd.builtins)
  | _ => none
def OwnD.val (o : OwnD) : TxW := some (o.name, o.qual, o.params, .stmts o.body, o.scope, mainGlobals, builtinsNs)
structure OwnD.Is (o : OwnD) (K : PySem.W.Frag) : Prop where
  xf : XfC K (o.C K)
  no : PySem.W.findIn K (.ref (o.C K)) o.fld = some none
  iC : PySem.W.findIn K (.ref (o.C K)) "__init__" = some (some (.ref (o.fI K)))
  tI : PySem.W.typeIn K (.ref (o.fI K)) = some (.type "function")
  sup : ∃ (cc cd : Addr) (kV doc pm ct : Value) (an : Option Addr), SupC K o.file (o.C K) (o.fI K) o.qual o.params o.body o.scope (PySem.W.fnX o.name o.qual o.params o.body o.scope [("__class__", cc)] .none kV doc pm an (.ref cd) ct)
theorem OwnD.is (o : OwnD) {K : PySem.W.Frag} (h : o.ok K = true) (e : txW K (o.fI K) = o.val) : o.Is K := by
  unfold OwnD.ok at h
  simp only [Bool.and_eq_true, decide_eq_true_eq] at h
  obtain ⟨⟨⟨⟨⟨⟨⟨⟨⟨⟨h1, h2⟩, h3⟩, h4⟩, h5⟩, h6⟩, h7⟩, h8⟩, h9⟩, h10⟩, h11⟩ := h
  refine ⟨xfB_ok h2, h3, h4, h5, ?_⟩
  unfold closB at h6
  split at h6
  · rename_i oc od fd osl ho
    split at h6
    · rename_i n cc cd e1 e2
      simp only [Bool.and_eq_true, decide_eq_true_eq] at h6
      obtain ⟨⟨⟨k1, k2⟩, k3⟩, k4, k5⟩ := h6
      unfold txW at e
      rw [ho] at e
      obtain ⟨n1, n2, n3, n4, n5, n6, n7, n8, n9, n10, n11, n12, n13, n14, n15⟩ := fd
      simp only at e e1 e2 k2 k4
      unfold OwnD.val at e
      simp only [Option.some.injEq, Prod.mk.injEq] at e
      obtain ⟨g1, g2, g3, g4, g5, g6, g7⟩ := e
      subst g1 g2 g3 g4 g5 g6 g7 e1 e2 k1 k2
      unfold cellB at k3
      unfold fileB at k5
      split at k3
      · rename_i c1 c2 D c3 hc
        obtain rfl := of_decide_eq_true k3
        split at k5
        · rename_i d1 d2 vs d3 hd
          split at k5
          · rename_i f tf hf
            obtain rfl := of_decide_eq_true k5
            unfold upB at h9
            split at h9
            · rename_i cdt hcd
              exact ⟨cc, cd, _, _, _, _, _, oexB_ok h1, ⟨_, cc, cd, _, _, _, _, _, _, _, _, _, rfl, ho, k4, ⟨_, _, vs, _, tf, hd, hf⟩, _, _, _, hc⟩, h7, h8, ⟨cdt, hcd, of_decide_eq_true h9⟩, h10, h11⟩
            · cases h9
          · cases k5
        · cases k5
      · cases k3
    · cases h6
  · cases h6
/-- a constant of the module that is a tuple of numbers and texts -/
structure TupD where
  name : Str
  ds : List D
mutual
def datB (K : PySem.W.Frag) : D → Value → Bool
  | .int i, .int j _ => decide (i = j)
  | .str x, .str y _ => decide (x = y) && PyData.strOk x
  | .tup ds, .ref a => match K.lookup a with
    | some ⟨.type c, none, .seq its _, _⟩ => decide (c = "tuple") && decide (its.size ≤ sizeLine) && datL K ds its.toList
    | _ => false
  | _, _ => false
termination_by structural d => d
def datL (K : PySem.W.Frag) : List D → List Value → Bool
  | [], [] => true
  | d :: ds, u :: us => datB K d u && datL K ds us
  | _, _ => false
termination_by structural d => d
end
mutual
theorem datB_ok {K : PySem.W.Frag} {H : Hp} {ι κ : List Addr} : ∀ {d : D} {u : Value}, datB K d u = true → ∃ v, RelV v u ∧ Rep K H ι κ d v
  | .int i, u, h => by
    cases u <;> simp [datB] at h
    subst h
    exact ⟨.int i, ⟨_, rfl⟩, by simp only [Rep]⟩
  | .str x, u, h => by
    cases u <;> simp [datB] at h
    obtain ⟨rfl, hs⟩ := h
    exact ⟨.str x, ⟨_, rfl⟩, by simp only [Rep]; exact ⟨trivial, hs⟩⟩
  | .tup ds, u, h => by
    cases u with
    | ref a =>
      simp only [datB] at h
      split at h
      · rename_i c its n sl ho
        simp only [Bool.and_eq_true, decide_eq_true_eq] at h
        obtain ⟨⟨rfl, hz⟩, hi⟩ := h
        obtain ⟨vs, r1, r2⟩ := datL_ok (K := K) (H := H) (ι := ι) (κ := κ) hi
        refine ⟨.ref a, rfl, ?_⟩
        simp only [Rep]
        exact ⟨_, vs, rfl, ⟨.inr ⟨_, its, n, ho, rfl, rfl, hz, r1⟩, _, rfl, .inr ho⟩, r2⟩
      · cases h
    | _ => simp [datB] at h
  | .non, _, h | .bl _, _, h | .lst _, _, h | .rol _, _, h | .dic _, _, h | .dit _, _, h | .ref _, _, h => by simp [datB] at h
theorem datL_ok {K : PySem.W.Frag} {H : Hp} {ι κ : List Addr} : ∀ {ds : List D} {us : List Value}, datL K ds us = true → ∃ vs, Vals vs us ∧ RepL K H ι κ ds vs
  | [], [], _ => ⟨[], .nil, rfl⟩
  | [], _ :: _, h => by simp [datL] at h
  | _ :: _, [], h => by simp [datL] at h
  | d :: ds, u :: us, h => by
    simp only [datL, Bool.and_eq_true] at h
    obtain ⟨v, q1, q2⟩ := datB_ok (K := K) (H := H) (ι := ι) (κ := κ) h.1
    obtain ⟨vs, r1, r2⟩ := datL_ok (K := K) (H := H) (ι := ι) (κ := κ) h.2
    refine ⟨v :: vs, .cons q1 r1, ?_⟩
    simp only [RepL]
    exact ⟨_, _, rfl, q2, r2⟩
end
def TupD.ok (t : TupD) (K : PySem.W.Frag) : Bool := decide (PySem.W.nsIn K mainGlobals t.name = some (some (.ref (He.ga K t.name)))) && match K.lookup (He.ga K t.name) with
  | some ⟨.type c, none, .seq its _, _⟩ => decide (c = "tuple") && decide (its.size ≤ sizeLine) && datL K t.ds its.toList
  | _ => false
theorem TupD.rep (t : TupD) {K : PySem.W.Frag} (h : t.ok K = true) : PySem.W.nsIn K mainGlobals t.name = some (some (.ref (He.ga K t.name))) ∧ ∀ (H : Hp) (ι κ : List Addr), Rep K H ι κ (.tup t.ds) (.ref (He.ga K t.name)) := by
  unfold TupD.ok at h
  simp only [Bool.and_eq_true, decide_eq_true_eq] at h
  refine ⟨h.1, fun H ι κ => ?_⟩
  have h := h.2
  split at h
  · rename_i c its n sl ho
    simp only [Bool.and_eq_true, decide_eq_true_eq] at h
    obtain ⟨⟨rfl, hz⟩, hi⟩ := h
    obtain ⟨vs, r1, r2⟩ := datL_ok (K := K) (H := H) (ι := ι) (κ := κ) hi
    simp only [Rep]
    exact ⟨_, vs, rfl, ⟨.inr ⟨_, its, n, ho, rfl, rfl, hz, r1⟩, _, rfl, .inr ho⟩, r2⟩
  · cases h
abbrev AlE : Type := He.AlD × (Bool × List TxW)
def obsE (fa : List He.Fa) (ds : List He.DefD) (ow : List OwnD) (tp : List TupD) (K : PySem.W.Frag) : AlE := (He.obsD fa ds K, ((ow.all fun o => o.ok K) && tp.all fun t => t.ok K, ow.map fun o => txW K (o.fI K)))
def valE (ds : List He.DefD) (ow : List OwnD) : AlE := (He.valD ds, (true, ow.map OwnD.val))
def SaysE (fa : List He.Fa) (ds : List He.DefD) (ow : List OwnD) (tp : List TupD) (K : PySem.W.Frag) : Prop := obsE fa ds ow tp K = valE ds ow
def asE (g : Addr → Option Obj) : Nat → List Addr
  | 0 => [mainGlobals, cStatics]
  | n + 1 => He.growD g (asE g n)
def obsEG (n : Nat) (fa : List He.Fa) (ds : List He.DefD) (ow : List OwnD) (tp : List TupD) (g : Addr → Option Obj) : AlE := obsE fa ds ow tp (He.frG g (asE g n))
def hookE (n : Nat) (fa : List He.Fa) (ds : List He.DefD) (ow : List OwnD) (tp : List TupD) : PySem.W.Hook where
  α := AlE
  obs := fun s => obsEG n fa ds ow tp s.heap.get?
  val := fun _ => valE ds ow
  says := fun _ h => ∃ K : PySem.W.Frag, K.In h ∧ SaysE fa ds ow tp K
  of := fun _ _ e => ⟨_, He.frG_in, e⟩
  keeps := fun _ _ _ ⟨K, hK, c⟩ k => ⟨K, PySem.W.Frag.In.keeps hK k, c⟩
theorem obsEG_eq {n : Nat} {fa : List He.Fa} {ds : List He.DefD} {ow : List OwnD} {tp : List TupD} {g : Addr → Option Obj} {s : Shared} (h : ∀ a, g a = s.heap.get? a) : obsEG n fa ds ow tp g = (hookE n fa ds ow tp).obs s := by
  have e : g = s.heap.get? := funext h
  rw [e]; rfl
section
variable {fa : List He.Fa} {ds : List He.DefD} {ow : List OwnD} {tp : List TupD} {K : PySem.W.Frag}
theorem SaysE.d (c : SaysE fa ds ow tp K) : He.SaysD fa ds K := congrArg (fun z : AlE => z.1) c
theorem SaysE.own (c : SaysE fa ds ow tp K) {o : OwnD} (h : o ∈ ow) : o.Is K := by
  have c1 : ((ow.all fun o => o.ok K) && tp.all fun t => t.ok K) = true := congrArg (fun z : AlE => z.2.1) c
  have c2 : (ow.map fun o => txW K (o.fI K)) = ow.map OwnD.val := congrArg (fun z : AlE => z.2.2) c
  refine o.is (List.all_eq_true.mp (Bool.and_eq_true_iff.mp c1).1 o h) ?_
  exact List.map_inj_left.mp c2 o h
theorem SaysE.tup (c : SaysE fa ds ow tp K) {t : TupD} (h : t ∈ tp) : t.ok K = true := by
  have c1 : ((ow.all fun o => o.ok K) && tp.all fun t => t.ok K) = true := congrArg (fun z : AlE => z.2.1) c
  exact List.all_eq_true.mp (Bool.and_eq_true_iff.mp c1).2 t h
end
/-- the text of such an exception, in this program -/
def OwnD.Txt (o : OwnD) (P : Program) : Prop := ∃ (x z0 : Str) (ar : Arg) (j0 : Nat) (p0 p1 p2 p3 p4 p5 p6 p7 p8 p9 q1 q2 q3 q4 : Pos), ((P.main.file : Str) == o.file) = true ∧ (P.main.scope.names.lookup ("super" : Str)).isSome = false ∧ NdefX.NScope [("self" : Str), x, "__class__"] [("self" : Str), x] [("__class__" : Str)] o.scope ∧
  o.body = [.Expr (.Call (.Attribute (.Call (.Name "super" p0) [] [] p1) "__init__" p2) [.BinOp (.Constant (.str z0) j0 p5) .Add (.Call (.Name "str" p6) [.Name x p7] [] p8) p9] [] p3) p4, .Assign [.Attribute (.Name "self" q1) o.fld q2] (.Name x q3) q4] ∧
  (o.params.posonlyargs ++ o.params.args).head? = some ar ∧ ar.arg = "self" ∧ o.scope.names.lookup ("super" : Str) = some .globalImplicit ∧ o.scope.names.lookup ("str" : Str) = some .globalImplicit ∧ nmB x = true ∧ z0.length ≤ 1000 ∧
  (∀ env : PySem.Env, ∃ pl : Sem Bool, eval (.Call (.Attribute (.Call (.Name "super" p0) [] [] p1) "__init__" p2) [.BinOp (.Constant (.str z0) j0 p5) .Add (.Call (.Name "str" p6) [.Name x p7] [] p8) p9] [] p3) env = (do
      let ov ← attributeBase (.Call (.Name "super" p0) [] [] p1) "__init__" env (eval (.Call (.Name "super" p0) [] [] p1) env)
      standAt p2.atName
      let (g, first) ← holding [ov] (getMethod ov "__init__" pl)
      callWith p3 g first (backTo p3 (starEach [.BinOp (.Constant (.str z0) j0 p5) .Add (.Call (.Name "str" p6) [.Name x p7] [] p8) p9] env)) [])) ∧
  ∀ (cc : Addr) (cd kV doc pm ct : Value) (an : Option Addr) (us : List Value), us.length = 2 → bindArgs (PySem.W.fnX o.name o.qual o.params o.body o.scope [("__class__", cc)] .none kV doc pm an cd ct) ⟨us, []⟩ = pure ([("self" : Str), x].zip us)
theorem OwnD.ownX {o : OwnD} {P : Program} {K : PySem.W.Frag} {mg : Str → Option Value} (t : o.Txt P) (c : o.Is K) (hstr : mg "str" = none) : OwnX P K mg (He.ga K o.cls) o.fld := by
  obtain ⟨x, z0, ar, j0, p0, p1, p2, p3, p4, p5, p6, p7, p8, p9, q1, q2, q3, q4, t1, t2, t3, t4, t5, t6, t7, t8, t9, t10, t11, t12⟩ := t
  obtain ⟨cc, cd, kV, doc, pm, ct, an, hs⟩ := c.sup
  exact ⟨c.xf, c.no, hs.T, o.fI K, _, x, z0, c.iC, c.tI, .all (t12 cc (.ref cd) kV doc pm ct an), t10, fun w base CX k => sup_ok hs t1 t2 t3 t4 t5 t6 t7 t8 hstr t9 c.no t11⟩
structure Facts (T : Tab) (P : Program) (fa : List He.Fa) (ds : List He.DefD) (ow : List OwnD) (tp : List TupD) : Prop where
  df : ∀ (f : Nat) (fn : Fn), T.P.fns[f]? = some fn → ∃ d ∈ ds, d.at_ = fn.at_ ∧ d.dfl = [] ∧ d.kwd = [] ∧ FnScope fn.N fn.ps d.scope ∧ mtSs T fn.N d.scope fn.body d.body = true ∧
    ∀ (kV doc pm : Value) (an : Option Addr) (cdv ct : Value) (us : List Value), us.length = fn.ps.length → bindArgs (PySem.W.fnOf d.name d.qual d.params d.body d.scope .none kV doc pm an cdv ct) ⟨us, []⟩ = pure (fn.ps.zip us)
  gl : ∀ (x : Str) (f : Nat), (x, f) ∈ T.gl → ∃ fn, T.P.fns[f]? = some fn ∧ fn.at_ = (x, none) ∧ He.Fa.glo x ∈ fa
  free : ∀ x ∈ bltNames, He.Fa.free x ∈ fa
  con : ∀ (x : Str) (d : D), (x, d) ∈ T.consts → (∃ i, d = .int i ∧ He.Fa.int x i ∈ fa) ∨ (∃ z, d = .str z ∧ He.Fa.str x z ∈ fa ∧ PyData.strOk z = true) ∨ ∃ xs, d = .tup xs ∧ (⟨x, xs⟩ : TupD) ∈ tp
  cls : ∀ (C : Nat) (cl : Cl), T.P.cls[C]? = some cl → He.Fa.glo cl.name ∈ fa ∧ ((cl.exc = some none ∧ He.Fa.exc cl.name ∈ fa) ∨ ∃ o ∈ ow, cl.exc = some (some o.fld) ∧ o.cls = cl.name ∧ o.Txt P)
  exm : ∀ (C C' : Nat) (c c' : Cl), T.P.cls[C]? = some c → T.P.cls[C']? = some c' → He.Fa.exm c.name c'.name (T.P.sub C C') ∈ fa
def adOf (T : Tab) (K : PySem.W.Frag) (f : Nat) : Addr := match T.P.fns[f]? with
  | some fn => He.fAd K fn.at_
  | none => 0
theorem Facts.stat {T : Tab} {P : Program} {fa : List He.Fa} {ds : List He.DefD} {ow : List OwnD} {tp : List TupD} (F : Facts T P fa ds ow tp) {K : PySem.W.Frag} {h : Heap} {mg : Str → Option Value} (X : K.In h) (G : h.Ns mainGlobals mg) (c0 : SaysE fa ds ow tp K) : Stat T P K mg (adOf T K) := by
  have c := c0.d
  have noCad : ∀ C, T.cad K C = none := fun C => by
    unfold Tab.cad
    cases hC : T.P.cls[C]? with
    | none => rfl
    | some cl =>
      show (if cl.exc.isNone then some (He.ga K cl.name) else none) = none
      rcases (F.cls C cl hC).2 with ⟨h, _⟩ | ⟨o, _, h, _⟩ <;> rw [h] <;> rfl
  have fun_ : ∀ f fn, T.P.fns[f]? = some fn → ∃ d fd, d ∈ ds ∧ FunD K d.name d.qual d.params d.body d.scope [] [] (adOf T K f) fd ∧ FnScope fn.N fn.ps d.scope ∧ Binds K fd fn.ps [] ∧ mtSs T fn.N d.scope fn.body d.body = true := fun f fn hf => by
    obtain ⟨d, h1, h2, h3, h4, h5, h6, h7⟩ := F.df f fn hf
    obtain ⟨fd, k⟩ := c.defs h1
    have e1 : d.dvs K = [] := by unfold He.DefD.dvs; rw [h3]; rfl
    have e2 : d.kws K = [] := by unfold He.DefD.kws; rw [h4]; rfl
    rw [e1, e2, h2] at k
    have ea : adOf T K f = He.fAd K fn.at_ := by unfold adOf; rw [hf]
    rw [← ea] at k
    exact ⟨d, fd, h1, k, h5, k.bindsN h7, h6⟩
  refine ⟨fun f fn hf => ?_, fun x f hx => ?_, fun x hx => He.free_ok X G (c.facts (F.free x hx)), fun x d hx => ?_, fun C c' hc => ?_, fun C c' f hc => ?_, fun C c' cl m f hc => ?_, fun C c' cl f hc => ?_, fun C cl hC hn => ?_, fun C cl f hC hf => ?_, fun C cl hC _ => ?_, fun C C' a b hC hC' _ _ => He.exm_ok (c.facts (F.exm C C' a b hC hC'))⟩
  · obtain ⟨d, fd, _, k, h5, h6, h7⟩ := fun_ f fn hf
    exact ⟨fd, _, _, _, _, _, k, h5, h6, h7⟩
  · obtain ⟨fn, h1, h2, h3⟩ := F.gl x f hx
    obtain ⟨d, fd, _, k, _⟩ := fun_ f fn h1
    have ea : adOf T K f = He.ga K x := by unfold adOf; rw [h1]; show He.fAd K fn.at_ = _; rw [h2]; rfl
    exact ⟨⟨fn, h1⟩, by rw [ea]; exact He.glo_ok X G (c.facts h3), k.kp⟩
  · rcases F.con x d hx with ⟨i, rfl, hi⟩ | ⟨z, rfl, hz, hs⟩ | ⟨xs, rfl, ht⟩
    · obtain ⟨t, ht⟩ := He.int_ok X G (c.facts hi)
      exact ⟨_, .int i, ht, ⟨t, rfl⟩, fun H ι κ => by simp only [Rep]⟩
    · obtain ⟨t, ht⟩ := He.str_ok X G (c.facts hz)
      exact ⟨_, .str z, ht, ⟨t, rfl⟩, fun H ι κ => by simp only [Rep]; exact ⟨trivial, hs⟩⟩
    · obtain ⟨h1, h2⟩ := TupD.rep _ (c0.tup ht)
      exact ⟨_, .ref _, PySem.W.mg_of X G h1, rfl, h2⟩
  · rw [noCad C] at hc; cases hc
  · rw [noCad C] at hc; cases hc
  · rw [noCad C] at hc; cases hc
  · rw [noCad C] at hc; cases hc
  · rcases (F.cls C cl hC).2 with ⟨_, h2⟩ | ⟨o, _, h, _⟩
    · obtain ⟨k1, k2, k3, k4⟩ := He.exc_ok (c.facts h2)
      exact ⟨_, _, _, He.veBase, PySem.F.excBase_ValueError, k1, k2, k3, k4⟩
    · rw [h] at hn; cases hn
  · rcases (F.cls C cl hC).2 with ⟨h, _⟩ | ⟨o, ho, h, hn, ht⟩
    · rw [h] at hf; cases hf
    · rw [h] at hf
      cases hf
      rw [← hn]
      exact OwnD.ownX ht (c0.own ho) (He.free_ok X G (c.facts (F.free _ (by decide))))
  · exact He.glo_ok X G (c.facts (F.cls C cl hC).1)
/-- an exception's way out, in whatever world -/
def CXw (P : Program) : CXT := fun outer H s E u s' => ∃ w, L2.CX P w outer H s E u s'
theorem weak_cx {P : Program} {w : World} {K : PySem.W.Frag} {mg : Str → Option Value} {base : Heap} {k : Nat} {f : Addr} {fd : FuncData} {ps : List Str} {sp : Sp} (F : FnOk P w K mg base (L2.CX P w) k f fd ps sp) : FnOk P w K mg base (CXw P) k f fd ps sp :=
  ⟨F.len, fun A outer s H args us vs Q E hr he hb hv hs => codeAny_mono (F.run A outer s H args us vs Q E hr he hb hv hs) fun r s' h => by
    cases r with
    | error e => exact ⟨w, h⟩
    | ok fl => cases fl <;> exact h⟩
theorem no_cx {P : Program} (H : Hp) (s : Shared) (e : Value) (s' : Shared) : CXw P [] H s (fun _ _ _ => False) e s' → False := fun ⟨_, _, _, _, _, _, _, _, _, _, _, _, _, z⟩ => z
/-- what a law's walk asks of the head -/
theorem law_at {T : Tab} {P : Program} {fa : List He.Fa} {ds : List He.DefD} {ow : List OwnD} {tp : List TupD} (F : Facts T P fa ds ow tp) {w : World} {K : PySem.W.Frag} {h : Heap} {mg : Str → Option Value} {fa0 : Addr} {f : Nat} {fn : Fn} {x : Str} {j : Nat} (hf : T.P.fns[f]? = some fn) (hps : fn.ps = [x]) (hat : ∃ n, fn.at_ = (n, none) ∧ mg n = some (.ref fa0) ∧ He.Fa.glo n ∈ fa)
    (X : K.In h) (G : h.Ns mainGlobals mg) (c0 : SaysE fa ds ow tp K) (hrun : ∀ ns : List Int, ns.length ≤ 63 → ∃ S, run T.P j f [.rol ns] [] = .ok (.bl true) S) :
    ∃ (K : PySem.W.Frag) (fd : FuncData) (sp : Sp), K.In h ∧ (∀ (s : Shared) (u : Value), BindsTo s fd ⟨[u], []⟩ [(x, u)]) ∧ (∀ (H : Hp) (a : Addr) (ns : List Int), ns.length ≤ 63 → Only H → SqL K H a (ns.map V.int) → sp [.ref a] H (fun v _ => v = .bl true) fun _ _ _ => False) ∧
      ∀ base : Heap, K.In base → base.Ns mainGlobals mg → FnOk P w K mg base (CXw P) (2 * j + 1) fa0 fd [x] sp := by
  have c := c0.d
  have st := F.stat X G c0
  obtain ⟨d, h1, h2, h3, h4, h5, h6, h7⟩ := F.df f fn hf
  obtain ⟨fd, k⟩ := c.defs h1
  have e1 : d.dvs K = [] := by unfold He.DefD.dvs; rw [h3]; rfl
  have e2 : d.kws K = [] := by unfold He.DefD.kws; rw [h4]; rfl
  rw [e1, e2, h2] at k
  have ea : adOf T K f = He.fAd K fn.at_ := by unfold adOf; rw [hf]
  rw [← ea] at k
  have hd : DefAt T K (adOf T K f) fn fd := ⟨_, _, _, _, _, k, h5, k.bindsN h7, h6⟩
  have efa : adOf T K f = fa0 := by
    obtain ⟨n, hn, hm, hg⟩ := hat
    have := He.glo_ok X G (c.facts hg)
    rw [hm] at this
    rw [ea, hn]
    cases this
    rfl
  refine ⟨K, fd, spF T K (lev T j) fn.ps.length f, X, fun s u => ?_, fun H a ns hn hO hS => ?_, fun base kb gb => ?_⟩
  · have := k.bindsA h7 s [u] (by rw [hps]; rfl)
    rw [hps] at this
    exact this
  · obtain ⟨S, hS'⟩ := hrun ns hn
    refine ⟨[], [], [], [.rol ns], ⟨rfl, List.nodup_nil, fun a z => (by cases z), fun a z => (by cases z), fun n a o z => (by simp at z)⟩, ?_, by rw [hps]; rfl, ?_⟩
    · simp only [RepL, Rep]
      refine ⟨_, [], rfl, ⟨a, rfl, ?_, by unfold LIM; omega⟩, rfl⟩
      rcases hS with hS | hS
      · exact .inl ⟨hS, by simp, by simp⟩
      · exact .inr hS
    · show Post T K [] _ [] (relV K []) H [] (run T.P j f [.rol ns] []) _
      rw [hS']
      intro v H' ι' _ _ r
      have r : Rep K H' ι' [] (.bl true) v := r
      simpa only [Rep] using r
  · have := (st.levels (P := P) (w := w) (base := base) j f fn fd hf hd).2
    rw [efa] at this
    rw [hps] at this ⊢
    exact weak_cx this
end MP
end

section
set_option Elab.async false
set_option linter.all false
set_option maxRecDepth 100000
namespace K05
open PySem PySem.Spec PyProof.Rows L2 MP
abbrev R0 : PySem.Program := PySem.Challenge.pw_sizestold_k05_whole_equations
def top (i : Nat) : Stmt := R0.main.body.getD i (.Pass ⟨0, 0, 0, 0⟩)
def inC (i j : Nat) : Stmt := match top i with
  | .ClassDef _ _ _ b _ _ _ _ _ _ _ => b.getD j (.Pass ⟨0, 0, 0, 0⟩)
  | s => s
def T0 : Tab := ⟨P0, [(("is_integer" : Str), (0 : Nat)), (("is_name" : Str), (1 : Nat)), (("are_rows" : Str), (2 : Nat)), (("form_fault" : Str), (3 : Nat)), (("worth_by" : Str), (4 : Nat)), (("saying_fault" : Str), (5 : Nat)), (("is_so_by" : Str), (6 : Nat)), (("names_by" : Str), (7 : Nat)), (("equations_fault" : Str), (8 : Nat)), (("check_equations" : Str), (9 : Nat)), (("names_of" : Str), (10 : Nat)), (("solved_whole" : Str), (11 : Nat)), (("_are_integers" : Str), (12 : Nat)), (("is_solution" : Str), (13 : Nat)), (("_law_draws" : Str), (14 : Nat)), (("_law_equations" : Str), (15 : Nat)), (("_law_names" : Str), (16 : Nat)), (("_law_is_int" : Str), (17 : Nat)), (("_law_is_saying" : Str), (18 : Nat)), (("_law_due" : Str), (19 : Nat)), (("_law_word" : Str), (20 : Nat)), (("law" : Str), (21 : Nat))], [(("LETTERS" : Str), (.str "abcdefghijklmnopqrstuvwxyz" : D)), (("FIGURES" : Str), (.str "0123456789" : D)), (("MOST_NAME" : Str), (.int 8 : D)), (("FORM" : Str), (.tup [.str "form"] : D)), (("LEAST" : Str), (.str "least" : D)), (("ZERO" : Str), (.str "zero" : D)), (("MOST_EQUATIONS" : Str), (.int 40 : D)), (("MOST_NAMES" : Str), (.int 12 : D))], []⟩
theorem mf_is_integer : mtSs T0 f_is_integer.N (defScope (top 8)) f_is_integer.body (defBody (top 8)) = true := by decide +kernel
theorem sf_is_integer : FnScope f_is_integer.N f_is_integer.ps (defScope (top 8)) := ⟨rfl, rfl, rfl, by decide +kernel, rfl, by decide +kernel, by decide +kernel⟩
theorem mf_is_name : mtSs T0 f_is_name.N (defScope (top 9)) f_is_name.body (defBody (top 9)) = true := by decide +kernel
theorem sf_is_name : FnScope f_is_name.N f_is_name.ps (defScope (top 9)) := ⟨rfl, rfl, rfl, by decide +kernel, rfl, by decide +kernel, by decide +kernel⟩
theorem mf_are_rows : mtSs T0 f_are_rows.N (defScope (top 10)) f_are_rows.body (defBody (top 10)) = true := by decide +kernel
theorem sf_are_rows : FnScope f_are_rows.N f_are_rows.ps (defScope (top 10)) := ⟨rfl, rfl, rfl, by decide +kernel, rfl, by decide +kernel, by decide +kernel⟩
theorem mf_form_fault : mtSs T0 f_form_fault.N (defScope (top 11)) f_form_fault.body (defBody (top 11)) = true := by decide +kernel
theorem sf_form_fault : FnScope f_form_fault.N f_form_fault.ps (defScope (top 11)) := ⟨rfl, rfl, rfl, by decide +kernel, rfl, by decide +kernel, by decide +kernel⟩
theorem mf_worth_by : mtSs T0 f_worth_by.N (defScope (top 12)) f_worth_by.body (defBody (top 12)) = true := by decide +kernel
theorem sf_worth_by : FnScope f_worth_by.N f_worth_by.ps (defScope (top 12)) := ⟨rfl, rfl, rfl, by decide +kernel, rfl, by decide +kernel, by decide +kernel⟩
theorem mf_saying_fault : mtSs T0 f_saying_fault.N (defScope (top 16)) f_saying_fault.body (defBody (top 16)) = true := by decide +kernel
theorem sf_saying_fault : FnScope f_saying_fault.N f_saying_fault.ps (defScope (top 16)) := ⟨rfl, rfl, rfl, by decide +kernel, rfl, by decide +kernel, by decide +kernel⟩
theorem mf_is_so_by : mtSs T0 f_is_so_by.N (defScope (top 17)) f_is_so_by.body (defBody (top 17)) = true := by decide +kernel
theorem sf_is_so_by : FnScope f_is_so_by.N f_is_so_by.ps (defScope (top 17)) := ⟨rfl, rfl, rfl, by decide +kernel, rfl, by decide +kernel, by decide +kernel⟩
theorem mf_names_by : mtSs T0 f_names_by.N (defScope (top 21)) f_names_by.body (defBody (top 21)) = true := by decide +kernel
theorem sf_names_by : FnScope f_names_by.N f_names_by.ps (defScope (top 21)) := ⟨rfl, rfl, rfl, by decide +kernel, rfl, by decide +kernel, by decide +kernel⟩
theorem mf_equations_fault : mtSs T0 f_equations_fault.N (defScope (top 22)) f_equations_fault.body (defBody (top 22)) = true := by decide +kernel
theorem sf_equations_fault : FnScope f_equations_fault.N f_equations_fault.ps (defScope (top 22)) := ⟨rfl, rfl, rfl, by decide +kernel, rfl, by decide +kernel, by decide +kernel⟩
theorem mf_check_equations : mtSs T0 f_check_equations.N (defScope (top 23)) f_check_equations.body (defBody (top 23)) = true := by decide +kernel
theorem sf_check_equations : FnScope f_check_equations.N f_check_equations.ps (defScope (top 23)) := ⟨rfl, rfl, rfl, by decide +kernel, rfl, by decide +kernel, by decide +kernel⟩
theorem mf_names_of : mtSs T0 f_names_of.N (defScope (top 24)) f_names_of.body (defBody (top 24)) = true := by decide +kernel
theorem sf_names_of : FnScope f_names_of.N f_names_of.ps (defScope (top 24)) := ⟨rfl, rfl, rfl, by decide +kernel, rfl, by decide +kernel, by decide +kernel⟩
theorem mf_solved_whole : mtSs T0 f_solved_whole.N (defScope (top 31)) f_solved_whole.body (defBody (top 31)) = true := by decide +kernel
theorem sf_solved_whole : FnScope f_solved_whole.N f_solved_whole.ps (defScope (top 31)) := ⟨rfl, rfl, rfl, by decide +kernel, rfl, by decide +kernel, by decide +kernel⟩
theorem mf__are_integers : mtSs T0 f__are_integers.N (defScope (top 32)) f__are_integers.body (defBody (top 32)) = true := by decide +kernel
theorem sf__are_integers : FnScope f__are_integers.N f__are_integers.ps (defScope (top 32)) := ⟨rfl, rfl, rfl, by decide +kernel, rfl, by decide +kernel, by decide +kernel⟩
theorem mf_is_solution : mtSs T0 f_is_solution.N (defScope (top 33)) f_is_solution.body (defBody (top 33)) = true := by decide +kernel
theorem sf_is_solution : FnScope f_is_solution.N f_is_solution.ps (defScope (top 33)) := ⟨rfl, rfl, rfl, by decide +kernel, rfl, by decide +kernel, by decide +kernel⟩
theorem mf__law_draws : mtSs T0 f__law_draws.N (defScope (top 35)) f__law_draws.body (defBody (top 35)) = true := by decide +kernel
theorem sf__law_draws : FnScope f__law_draws.N f__law_draws.ps (defScope (top 35)) := ⟨rfl, rfl, rfl, by decide +kernel, rfl, by decide +kernel, by decide +kernel⟩
theorem mf__law_equations : mtSs T0 f__law_equations.N (defScope (top 36)) f__law_equations.body (defBody (top 36)) = true := by decide +kernel
theorem sf__law_equations : FnScope f__law_equations.N f__law_equations.ps (defScope (top 36)) := ⟨rfl, rfl, rfl, by decide +kernel, rfl, by decide +kernel, by decide +kernel⟩
theorem mf__law_names : mtSs T0 f__law_names.N (defScope (top 40)) f__law_names.body (defBody (top 40)) = true := by decide +kernel
theorem sf__law_names : FnScope f__law_names.N f__law_names.ps (defScope (top 40)) := ⟨rfl, rfl, rfl, by decide +kernel, rfl, by decide +kernel, by decide +kernel⟩
theorem mf__law_is_int : mtSs T0 f__law_is_int.N (defScope (top 42)) f__law_is_int.body (defBody (top 42)) = true := by decide +kernel
theorem sf__law_is_int : FnScope f__law_is_int.N f__law_is_int.ps (defScope (top 42)) := ⟨rfl, rfl, rfl, by decide +kernel, rfl, by decide +kernel, by decide +kernel⟩
theorem mf__law_is_saying : mtSs T0 f__law_is_saying.N (defScope (top 43)) f__law_is_saying.body (defBody (top 43)) = true := by decide +kernel
theorem sf__law_is_saying : FnScope f__law_is_saying.N f__law_is_saying.ps (defScope (top 43)) := ⟨rfl, rfl, rfl, by decide +kernel, rfl, by decide +kernel, by decide +kernel⟩
theorem mf__law_due : mtSs T0 f__law_due.N (defScope (top 44)) f__law_due.body (defBody (top 44)) = true := by decide +kernel
theorem sf__law_due : FnScope f__law_due.N f__law_due.ps (defScope (top 44)) := ⟨rfl, rfl, rfl, by decide +kernel, rfl, by decide +kernel, by decide +kernel⟩
theorem mf__law_word : mtSs T0 f__law_word.N (defScope (top 45)) f__law_word.body (defBody (top 45)) = true := by decide +kernel
theorem sf__law_word : FnScope f__law_word.N f__law_word.ps (defScope (top 45)) := ⟨rfl, rfl, rfl, by decide +kernel, rfl, by decide +kernel, by decide +kernel⟩
theorem mf_law : mtSs T0 f_law.N (defScope (top 46)) f_law.body (defBody (top 46)) = true := by decide +kernel
theorem sf_law : FnScope f_law.N f_law.ps (defScope (top 46)) := ⟨rfl, rfl, rfl, by decide +kernel, rfl, by decide +kernel, by decide +kernel⟩
def d_is_integer : He.DefD := ⟨("is_integer", none), "is_integer", "is_integer", defArgs (top 8), defBody (top 8), defScope (top 8), [], []⟩
def d_is_name : He.DefD := ⟨("is_name", none), "is_name", "is_name", defArgs (top 9), defBody (top 9), defScope (top 9), [], []⟩
def d_are_rows : He.DefD := ⟨("are_rows", none), "are_rows", "are_rows", defArgs (top 10), defBody (top 10), defScope (top 10), [], []⟩
def d_form_fault : He.DefD := ⟨("form_fault", none), "form_fault", "form_fault", defArgs (top 11), defBody (top 11), defScope (top 11), [], []⟩
def d_worth_by : He.DefD := ⟨("worth_by", none), "worth_by", "worth_by", defArgs (top 12), defBody (top 12), defScope (top 12), [], []⟩
def d_saying_fault : He.DefD := ⟨("saying_fault", none), "saying_fault", "saying_fault", defArgs (top 16), defBody (top 16), defScope (top 16), [], []⟩
def d_is_so_by : He.DefD := ⟨("is_so_by", none), "is_so_by", "is_so_by", defArgs (top 17), defBody (top 17), defScope (top 17), [], []⟩
def d_names_by : He.DefD := ⟨("names_by", none), "names_by", "names_by", defArgs (top 21), defBody (top 21), defScope (top 21), [], []⟩
def d_equations_fault : He.DefD := ⟨("equations_fault", none), "equations_fault", "equations_fault", defArgs (top 22), defBody (top 22), defScope (top 22), [], []⟩
def d_check_equations : He.DefD := ⟨("check_equations", none), "check_equations", "check_equations", defArgs (top 23), defBody (top 23), defScope (top 23), [], []⟩
def d_names_of : He.DefD := ⟨("names_of", none), "names_of", "names_of", defArgs (top 24), defBody (top 24), defScope (top 24), [], []⟩
def d_solved_whole : He.DefD := ⟨("solved_whole", none), "solved_whole", "solved_whole", defArgs (top 31), defBody (top 31), defScope (top 31), [], []⟩
def d__are_integers : He.DefD := ⟨("_are_integers", none), "_are_integers", "_are_integers", defArgs (top 32), defBody (top 32), defScope (top 32), [], []⟩
def d_is_solution : He.DefD := ⟨("is_solution", none), "is_solution", "is_solution", defArgs (top 33), defBody (top 33), defScope (top 33), [], []⟩
def d__law_draws : He.DefD := ⟨("_law_draws", none), "_law_draws", "_law_draws", defArgs (top 35), defBody (top 35), defScope (top 35), [], []⟩
def d__law_equations : He.DefD := ⟨("_law_equations", none), "_law_equations", "_law_equations", defArgs (top 36), defBody (top 36), defScope (top 36), [], []⟩
def d__law_names : He.DefD := ⟨("_law_names", none), "_law_names", "_law_names", defArgs (top 40), defBody (top 40), defScope (top 40), [], []⟩
def d__law_is_int : He.DefD := ⟨("_law_is_int", none), "_law_is_int", "_law_is_int", defArgs (top 42), defBody (top 42), defScope (top 42), [], []⟩
def d__law_is_saying : He.DefD := ⟨("_law_is_saying", none), "_law_is_saying", "_law_is_saying", defArgs (top 43), defBody (top 43), defScope (top 43), [], []⟩
def d__law_due : He.DefD := ⟨("_law_due", none), "_law_due", "_law_due", defArgs (top 44), defBody (top 44), defScope (top 44), [], []⟩
def d__law_word : He.DefD := ⟨("_law_word", none), "_law_word", "_law_word", defArgs (top 45), defBody (top 45), defScope (top 45), [], []⟩
def d_law : He.DefD := ⟨("law", none), "law", "law", defArgs (top 46), defBody (top 46), defScope (top 46), [], []⟩
def ds : List He.DefD := [d_is_integer, d_is_name, d_are_rows, d_form_fault, d_worth_by, d_saying_fault, d_is_so_by, d_names_by, d_equations_fault, d_check_equations, d_names_of, d_solved_whole, d__are_integers, d_is_solution, d__law_draws, d__law_equations, d__law_names, d__law_is_int, d__law_is_saying, d__law_due, d__law_word, d_law]
def fa : List He.Fa := [.glo "is_integer", .glo "is_name", .glo "are_rows", .glo "form_fault", .glo "worth_by", .glo "saying_fault", .glo "is_so_by", .glo "names_by", .glo "equations_fault", .glo "check_equations", .glo "names_of", .glo "solved_whole", .glo "_are_integers", .glo "is_solution", .glo "_law_draws", .glo "_law_equations", .glo "_law_names", .glo "_law_is_int", .glo "_law_is_saying", .glo "_law_due", .glo "_law_word", .glo "law", .glo "SizeError", .glo "BadEquations", .free "len", .free "int", .free "abs", .free "max", .free "min", .free "sum", .free "all", .free "any", .free "sorted", .free "list", .free "tuple", .free "dict", .free "str", .free "range", .free "enumerate", .free "zip", .free "reversed", .free "isinstance", .free "bool", .str "LETTERS" "abcdefghijklmnopqrstuvwxyz", .str "FIGURES" "0123456789", .int "MOST_NAME" (8), .str "LEAST" "least", .str "ZERO" "zero", .int "MOST_EQUATIONS" (40), .int "MOST_NAMES" (12), .exc "SizeError", .exc "BadEquations", .exm "SizeError" "SizeError" true, .exm "SizeError" "BadEquations" false, .exm "BadEquations" "SizeError" true, .exm "BadEquations" "BadEquations" true]
def ow : List OwnD := []
def tp : List TupD := [⟨"FORM", [.str "form"]⟩]
abbrev DfX (fn : Fn) : Prop := ∃ d ∈ ds, d.at_ = fn.at_ ∧ d.dfl = [] ∧ d.kwd = [] ∧ FnScope fn.N fn.ps d.scope ∧ mtSs T0 fn.N d.scope fn.body d.body = true ∧
    ∀ (kV doc pm : Value) (an : Option Addr) (cdv ct : Value) (us : List Value), us.length = fn.ps.length → bindArgs (PySem.W.fnOf d.name d.qual d.params d.body d.scope .none kV doc pm an cdv ct) ⟨us, []⟩ = pure (fn.ps.zip us)
theorem dfx_is_integer : DfX f_is_integer := ⟨d_is_integer, List.mem_of_getElem? (i := 0) rfl, rfl, rfl, rfl, sf_is_integer, mf_is_integer, fun _ _ _ _ _ _ us hl => match us, hl with | [_], _ => rfl⟩
theorem dfx_is_name : DfX f_is_name := ⟨d_is_name, List.mem_of_getElem? (i := 1) rfl, rfl, rfl, rfl, sf_is_name, mf_is_name, fun _ _ _ _ _ _ us hl => match us, hl with | [_], _ => rfl⟩
theorem dfx_are_rows : DfX f_are_rows := ⟨d_are_rows, List.mem_of_getElem? (i := 2) rfl, rfl, rfl, rfl, sf_are_rows, mf_are_rows, fun _ _ _ _ _ _ us hl => match us, hl with | [_], _ => rfl⟩
theorem dfx_form_fault : DfX f_form_fault := ⟨d_form_fault, List.mem_of_getElem? (i := 3) rfl, rfl, rfl, rfl, sf_form_fault, mf_form_fault, fun _ _ _ _ _ _ us hl => match us, hl with | [_], _ => rfl⟩
theorem dfx_worth_by : DfX f_worth_by := ⟨d_worth_by, List.mem_of_getElem? (i := 4) rfl, rfl, rfl, rfl, sf_worth_by, mf_worth_by, fun _ _ _ _ _ _ us hl => match us, hl with | [_, _], _ => rfl⟩
theorem dfx_saying_fault : DfX f_saying_fault := ⟨d_saying_fault, List.mem_of_getElem? (i := 5) rfl, rfl, rfl, rfl, sf_saying_fault, mf_saying_fault, fun _ _ _ _ _ _ us hl => match us, hl with | [_], _ => rfl⟩
theorem dfx_is_so_by : DfX f_is_so_by := ⟨d_is_so_by, List.mem_of_getElem? (i := 6) rfl, rfl, rfl, rfl, sf_is_so_by, mf_is_so_by, fun _ _ _ _ _ _ us hl => match us, hl with | [_, _], _ => rfl⟩
theorem dfx_names_by : DfX f_names_by := ⟨d_names_by, List.mem_of_getElem? (i := 7) rfl, rfl, rfl, rfl, sf_names_by, mf_names_by, fun _ _ _ _ _ _ us hl => match us, hl with | [_], _ => rfl⟩
theorem dfx_equations_fault : DfX f_equations_fault := ⟨d_equations_fault, List.mem_of_getElem? (i := 8) rfl, rfl, rfl, rfl, sf_equations_fault, mf_equations_fault, fun _ _ _ _ _ _ us hl => match us, hl with | [_], _ => rfl⟩
theorem dfx_check_equations : DfX f_check_equations := ⟨d_check_equations, List.mem_of_getElem? (i := 9) rfl, rfl, rfl, rfl, sf_check_equations, mf_check_equations, fun _ _ _ _ _ _ us hl => match us, hl with | [_], _ => rfl⟩
theorem dfx_names_of : DfX f_names_of := ⟨d_names_of, List.mem_of_getElem? (i := 10) rfl, rfl, rfl, rfl, sf_names_of, mf_names_of, fun _ _ _ _ _ _ us hl => match us, hl with | [_], _ => rfl⟩
theorem dfx_solved_whole : DfX f_solved_whole := ⟨d_solved_whole, List.mem_of_getElem? (i := 11) rfl, rfl, rfl, rfl, sf_solved_whole, mf_solved_whole, fun _ _ _ _ _ _ us hl => match us, hl with | [_], _ => rfl⟩
theorem dfx__are_integers : DfX f__are_integers := ⟨d__are_integers, List.mem_of_getElem? (i := 12) rfl, rfl, rfl, rfl, sf__are_integers, mf__are_integers, fun _ _ _ _ _ _ us hl => match us, hl with | [_], _ => rfl⟩
theorem dfx_is_solution : DfX f_is_solution := ⟨d_is_solution, List.mem_of_getElem? (i := 13) rfl, rfl, rfl, rfl, sf_is_solution, mf_is_solution, fun _ _ _ _ _ _ us hl => match us, hl with | [_, _], _ => rfl⟩
theorem dfx__law_draws : DfX f__law_draws := ⟨d__law_draws, List.mem_of_getElem? (i := 14) rfl, rfl, rfl, rfl, sf__law_draws, mf__law_draws, fun _ _ _ _ _ _ us hl => match us, hl with | [_, _], _ => rfl⟩
theorem dfx__law_equations : DfX f__law_equations := ⟨d__law_equations, List.mem_of_getElem? (i := 15) rfl, rfl, rfl, rfl, sf__law_equations, mf__law_equations, fun _ _ _ _ _ _ us hl => match us, hl with | [_, _, _], _ => rfl⟩
theorem dfx__law_names : DfX f__law_names := ⟨d__law_names, List.mem_of_getElem? (i := 16) rfl, rfl, rfl, rfl, sf__law_names, mf__law_names, fun _ _ _ _ _ _ us hl => match us, hl with | [_], _ => rfl⟩
theorem dfx__law_is_int : DfX f__law_is_int := ⟨d__law_is_int, List.mem_of_getElem? (i := 17) rfl, rfl, rfl, rfl, sf__law_is_int, mf__law_is_int, fun _ _ _ _ _ _ us hl => match us, hl with | [_], _ => rfl⟩
theorem dfx__law_is_saying : DfX f__law_is_saying := ⟨d__law_is_saying, List.mem_of_getElem? (i := 18) rfl, rfl, rfl, rfl, sf__law_is_saying, mf__law_is_saying, fun _ _ _ _ _ _ us hl => match us, hl with | [_], _ => rfl⟩
theorem dfx__law_due : DfX f__law_due := ⟨d__law_due, List.mem_of_getElem? (i := 19) rfl, rfl, rfl, rfl, sf__law_due, mf__law_due, fun _ _ _ _ _ _ us hl => match us, hl with | [_], _ => rfl⟩
theorem dfx__law_word : DfX f__law_word := ⟨d__law_word, List.mem_of_getElem? (i := 20) rfl, rfl, rfl, rfl, sf__law_word, mf__law_word, fun _ _ _ _ _ _ us hl => match us, hl with | [_, _, _], _ => rfl⟩
theorem dfx_law : DfX f_law := ⟨d_law, List.mem_of_getElem? (i := 21) rfl, rfl, rfl, rfl, sf_law, mf_law, fun _ _ _ _ _ _ us hl => match us, hl with | [_], _ => rfl⟩
theorem df_ : ∀ (f : Nat) (fn : Fn), T0.P.fns[f]? = some fn → DfX fn
  | 0, _, h => Option.some.inj (h.symm.trans (show T0.P.fns[0]? = some f_is_integer from rfl)) ▸ dfx_is_integer
  | 1, _, h => Option.some.inj (h.symm.trans (show T0.P.fns[1]? = some f_is_name from rfl)) ▸ dfx_is_name
  | 2, _, h => Option.some.inj (h.symm.trans (show T0.P.fns[2]? = some f_are_rows from rfl)) ▸ dfx_are_rows
  | 3, _, h => Option.some.inj (h.symm.trans (show T0.P.fns[3]? = some f_form_fault from rfl)) ▸ dfx_form_fault
  | 4, _, h => Option.some.inj (h.symm.trans (show T0.P.fns[4]? = some f_worth_by from rfl)) ▸ dfx_worth_by
  | 5, _, h => Option.some.inj (h.symm.trans (show T0.P.fns[5]? = some f_saying_fault from rfl)) ▸ dfx_saying_fault
  | 6, _, h => Option.some.inj (h.symm.trans (show T0.P.fns[6]? = some f_is_so_by from rfl)) ▸ dfx_is_so_by
  | 7, _, h => Option.some.inj (h.symm.trans (show T0.P.fns[7]? = some f_names_by from rfl)) ▸ dfx_names_by
  | 8, _, h => Option.some.inj (h.symm.trans (show T0.P.fns[8]? = some f_equations_fault from rfl)) ▸ dfx_equations_fault
  | 9, _, h => Option.some.inj (h.symm.trans (show T0.P.fns[9]? = some f_check_equations from rfl)) ▸ dfx_check_equations
  | 10, _, h => Option.some.inj (h.symm.trans (show T0.P.fns[10]? = some f_names_of from rfl)) ▸ dfx_names_of
  | 11, _, h => Option.some.inj (h.symm.trans (show T0.P.fns[11]? = some f_solved_whole from rfl)) ▸ dfx_solved_whole
  | 12, _, h => Option.some.inj (h.symm.trans (show T0.P.fns[12]? = some f__are_integers from rfl)) ▸ dfx__are_integers
  | 13, _, h => Option.some.inj (h.symm.trans (show T0.P.fns[13]? = some f_is_solution from rfl)) ▸ dfx_is_solution
  | 14, _, h => Option.some.inj (h.symm.trans (show T0.P.fns[14]? = some f__law_draws from rfl)) ▸ dfx__law_draws
  | 15, _, h => Option.some.inj (h.symm.trans (show T0.P.fns[15]? = some f__law_equations from rfl)) ▸ dfx__law_equations
  | 16, _, h => Option.some.inj (h.symm.trans (show T0.P.fns[16]? = some f__law_names from rfl)) ▸ dfx__law_names
  | 17, _, h => Option.some.inj (h.symm.trans (show T0.P.fns[17]? = some f__law_is_int from rfl)) ▸ dfx__law_is_int
  | 18, _, h => Option.some.inj (h.symm.trans (show T0.P.fns[18]? = some f__law_is_saying from rfl)) ▸ dfx__law_is_saying
  | 19, _, h => Option.some.inj (h.symm.trans (show T0.P.fns[19]? = some f__law_due from rfl)) ▸ dfx__law_due
  | 20, _, h => Option.some.inj (h.symm.trans (show T0.P.fns[20]? = some f__law_word from rfl)) ▸ dfx__law_word
  | 21, _, h => Option.some.inj (h.symm.trans (show T0.P.fns[21]? = some f_law from rfl)) ▸ dfx_law
  | n + 22, _, h => by cases h
theorem gl_ : ∀ (x : Str) (f : Nat), (x, f) ∈ T0.gl → ∃ fn, T0.P.fns[f]? = some fn ∧ fn.at_ = (x, none) ∧ He.Fa.glo x ∈ fa := fun x f h => by
  rcases List.mem_cons.mp h with h | h
  · cases h; exact ⟨_, rfl, rfl, List.mem_of_getElem? (i := 0) rfl⟩
  rcases List.mem_cons.mp h with h | h
  · cases h; exact ⟨_, rfl, rfl, List.mem_of_getElem? (i := 1) rfl⟩
  rcases List.mem_cons.mp h with h | h
  · cases h; exact ⟨_, rfl, rfl, List.mem_of_getElem? (i := 2) rfl⟩
  rcases List.mem_cons.mp h with h | h
  · cases h; exact ⟨_, rfl, rfl, List.mem_of_getElem? (i := 3) rfl⟩
  rcases List.mem_cons.mp h with h | h
  · cases h; exact ⟨_, rfl, rfl, List.mem_of_getElem? (i := 4) rfl⟩
  rcases List.mem_cons.mp h with h | h
  · cases h; exact ⟨_, rfl, rfl, List.mem_of_getElem? (i := 5) rfl⟩
  rcases List.mem_cons.mp h with h | h
  · cases h; exact ⟨_, rfl, rfl, List.mem_of_getElem? (i := 6) rfl⟩
  rcases List.mem_cons.mp h with h | h
  · cases h; exact ⟨_, rfl, rfl, List.mem_of_getElem? (i := 7) rfl⟩
  rcases List.mem_cons.mp h with h | h
  · cases h; exact ⟨_, rfl, rfl, List.mem_of_getElem? (i := 8) rfl⟩
  rcases List.mem_cons.mp h with h | h
  · cases h; exact ⟨_, rfl, rfl, List.mem_of_getElem? (i := 9) rfl⟩
  rcases List.mem_cons.mp h with h | h
  · cases h; exact ⟨_, rfl, rfl, List.mem_of_getElem? (i := 10) rfl⟩
  rcases List.mem_cons.mp h with h | h
  · cases h; exact ⟨_, rfl, rfl, List.mem_of_getElem? (i := 11) rfl⟩
  rcases List.mem_cons.mp h with h | h
  · cases h; exact ⟨_, rfl, rfl, List.mem_of_getElem? (i := 12) rfl⟩
  rcases List.mem_cons.mp h with h | h
  · cases h; exact ⟨_, rfl, rfl, List.mem_of_getElem? (i := 13) rfl⟩
  rcases List.mem_cons.mp h with h | h
  · cases h; exact ⟨_, rfl, rfl, List.mem_of_getElem? (i := 14) rfl⟩
  rcases List.mem_cons.mp h with h | h
  · cases h; exact ⟨_, rfl, rfl, List.mem_of_getElem? (i := 15) rfl⟩
  rcases List.mem_cons.mp h with h | h
  · cases h; exact ⟨_, rfl, rfl, List.mem_of_getElem? (i := 16) rfl⟩
  rcases List.mem_cons.mp h with h | h
  · cases h; exact ⟨_, rfl, rfl, List.mem_of_getElem? (i := 17) rfl⟩
  rcases List.mem_cons.mp h with h | h
  · cases h; exact ⟨_, rfl, rfl, List.mem_of_getElem? (i := 18) rfl⟩
  rcases List.mem_cons.mp h with h | h
  · cases h; exact ⟨_, rfl, rfl, List.mem_of_getElem? (i := 19) rfl⟩
  rcases List.mem_cons.mp h with h | h
  · cases h; exact ⟨_, rfl, rfl, List.mem_of_getElem? (i := 20) rfl⟩
  rcases List.mem_cons.mp h with h | h
  · cases h; exact ⟨_, rfl, rfl, List.mem_of_getElem? (i := 21) rfl⟩
  cases h
theorem free_ : ∀ x ∈ bltNames, He.Fa.free x ∈ fa := fun x h => by
  rcases List.mem_cons.mp h with h | h
  · cases h; exact List.mem_of_getElem? (i := 24) rfl
  rcases List.mem_cons.mp h with h | h
  · cases h; exact List.mem_of_getElem? (i := 25) rfl
  rcases List.mem_cons.mp h with h | h
  · cases h; exact List.mem_of_getElem? (i := 26) rfl
  rcases List.mem_cons.mp h with h | h
  · cases h; exact List.mem_of_getElem? (i := 27) rfl
  rcases List.mem_cons.mp h with h | h
  · cases h; exact List.mem_of_getElem? (i := 28) rfl
  rcases List.mem_cons.mp h with h | h
  · cases h; exact List.mem_of_getElem? (i := 29) rfl
  rcases List.mem_cons.mp h with h | h
  · cases h; exact List.mem_of_getElem? (i := 30) rfl
  rcases List.mem_cons.mp h with h | h
  · cases h; exact List.mem_of_getElem? (i := 31) rfl
  rcases List.mem_cons.mp h with h | h
  · cases h; exact List.mem_of_getElem? (i := 32) rfl
  rcases List.mem_cons.mp h with h | h
  · cases h; exact List.mem_of_getElem? (i := 33) rfl
  rcases List.mem_cons.mp h with h | h
  · cases h; exact List.mem_of_getElem? (i := 34) rfl
  rcases List.mem_cons.mp h with h | h
  · cases h; exact List.mem_of_getElem? (i := 35) rfl
  rcases List.mem_cons.mp h with h | h
  · cases h; exact List.mem_of_getElem? (i := 36) rfl
  rcases List.mem_cons.mp h with h | h
  · cases h; exact List.mem_of_getElem? (i := 37) rfl
  rcases List.mem_cons.mp h with h | h
  · cases h; exact List.mem_of_getElem? (i := 38) rfl
  rcases List.mem_cons.mp h with h | h
  · cases h; exact List.mem_of_getElem? (i := 39) rfl
  rcases List.mem_cons.mp h with h | h
  · cases h; exact List.mem_of_getElem? (i := 40) rfl
  rcases List.mem_cons.mp h with h | h
  · cases h; exact List.mem_of_getElem? (i := 41) rfl
  rcases List.mem_cons.mp h with h | h
  · cases h; exact List.mem_of_getElem? (i := 42) rfl
  cases h
theorem con_ : ∀ (x : Str) (d : D), (x, d) ∈ T0.consts → (∃ i, d = .int i ∧ He.Fa.int x i ∈ fa) ∨ (∃ z, d = .str z ∧ He.Fa.str x z ∈ fa ∧ PyData.strOk z = true) ∨ ∃ xs, d = .tup xs ∧ (⟨x, xs⟩ : TupD) ∈ tp := fun x d h => by
  rcases List.mem_cons.mp h with h | h
  · cases h; exact .inr (.inl ⟨_, rfl, List.mem_of_getElem? (i := 43) rfl, by decide +kernel⟩)
  rcases List.mem_cons.mp h with h | h
  · cases h; exact .inr (.inl ⟨_, rfl, List.mem_of_getElem? (i := 44) rfl, by decide +kernel⟩)
  rcases List.mem_cons.mp h with h | h
  · cases h; exact .inl ⟨_, rfl, List.mem_of_getElem? (i := 45) rfl⟩
  rcases List.mem_cons.mp h with h | h
  · cases h; exact .inr (.inr ⟨_, rfl, List.mem_of_getElem? (i := 0) rfl⟩)
  rcases List.mem_cons.mp h with h | h
  · cases h; exact .inr (.inl ⟨_, rfl, List.mem_of_getElem? (i := 46) rfl, by decide +kernel⟩)
  rcases List.mem_cons.mp h with h | h
  · cases h; exact .inr (.inl ⟨_, rfl, List.mem_of_getElem? (i := 47) rfl, by decide +kernel⟩)
  rcases List.mem_cons.mp h with h | h
  · cases h; exact .inl ⟨_, rfl, List.mem_of_getElem? (i := 48) rfl⟩
  rcases List.mem_cons.mp h with h | h
  · cases h; exact .inl ⟨_, rfl, List.mem_of_getElem? (i := 49) rfl⟩
  cases h
theorem cls_ : ∀ (C : Nat) (cl : Cl), T0.P.cls[C]? = some cl → He.Fa.glo cl.name ∈ fa ∧ ((cl.exc = some none ∧ He.Fa.exc cl.name ∈ fa) ∨ ∃ o ∈ ow, cl.exc = some (some o.fld) ∧ o.cls = cl.name ∧ o.Txt PySem.Challenge.rw_sizestold_k05_whole_equations.prog)
  | 0, _, h => by cases h; exact ⟨List.mem_of_getElem? (i := 22) rfl, .inl ⟨rfl, List.mem_of_getElem? (i := 50) rfl⟩⟩
  | 1, _, h => by cases h; exact ⟨List.mem_of_getElem? (i := 23) rfl, .inl ⟨rfl, List.mem_of_getElem? (i := 51) rfl⟩⟩
  | n + 2, _, h => by cases h
theorem exm_ : ∀ (C C' : Nat) (c c' : Cl), T0.P.cls[C]? = some c → T0.P.cls[C']? = some c' → He.Fa.exm c.name c'.name (T0.P.sub C C') ∈ fa
  | 0, 0, _, _, h, h2 => by cases h; cases h2; exact List.mem_of_getElem? (i := 52) rfl
  | 0, 1, _, _, h, h2 => by cases h; cases h2; exact List.mem_of_getElem? (i := 53) rfl
  | 0, m + 2, _, _, _, h => by cases h
  | 1, 0, _, _, h, h2 => by cases h; cases h2; exact List.mem_of_getElem? (i := 54) rfl
  | 1, 1, _, _, h, h2 => by cases h; cases h2; exact List.mem_of_getElem? (i := 55) rfl
  | 1, m + 2, _, _, _, h => by cases h
  | m + 2, _, _, _, h, _ => by cases h
theorem facts_ : Facts T0 PySem.Challenge.rw_sizestold_k05_whole_equations.prog fa ds ow tp := ⟨df_, gl_, free_, con_, cls_, exm_⟩
abbrev Rr : PySem.W.OpenRow := PySem.W.OpenLaw.row PySem.Challenge.rw_sizestold_k05_whole_equations
abbrev hk : PySem.W.Hook := hookE 5 fa ds ow tp
def ob (s : PySem.W.SharedT) : AlE := obsEG 5 fa ds ow tp (HandSHeadRun.getT s)
theorem ob_eq (s : PySem.W.SharedT) : ob s = hk.obs s.abs := obsEG_eq (HandSHeadRun.getT_eq s)
def loose : List Str := [("SizeError" : Str), ("BadEquations" : Str), ("LETTERS" : Str), ("FIGURES" : Str), ("MOST_NAME" : Str), ("FORM" : Str), ("is_integer" : Str), ("is_name" : Str), ("are_rows" : Str), ("form_fault" : Str), ("worth_by" : Str), ("LEAST" : Str), ("ZERO" : Str), ("saying_fault" : Str), ("is_so_by" : Str), ("MOST_EQUATIONS" : Str), ("MOST_NAMES" : Str), ("names_by" : Str), ("equations_fault" : Str), ("check_equations" : Str), ("names_of" : Str), ("_vector" : Str), ("Rows" : Str), ("_unit" : Str), ("Solving" : Str), ("common_of" : Str), ("solved_by" : Str), ("solved_whole" : Str), ("_are_integers" : Str), ("is_solution" : Str), ("_law_draws" : Str), ("_law_equations" : Str), ("_law_rows" : Str), ("_law_rank" : Str), ("_law_common" : Str), ("_law_names" : Str), ("_law_is_paper" : Str), ("_law_is_int" : Str), ("_law_is_saying" : Str), ("_law_due" : Str), ("_law_word" : Str)]
theorem runs (w : World) : HandSHeadRun.RunEq Rr (PySem.W.view Rr.prog [46]) hk ob 6000 loose w := by
  intro os
  kernel_rfl
end K05
open PySem PySem.W PySem.Calls PyProof.Rows
set_option maxHeartbeats 4000000 in
theorem law_done : PySem.Challenge.rw_sizestold_k05_whole_equations.Holds := by
  w_on; o_law
  refine HandSHeadRun.head_any (r := OpenLaw.row PySem.Challenge.rw_sizestold_k05_whole_equations) (q := view (OpenLaw.row PySem.Challenge.rw_sizestold_k05_whole_equations).prog [46]) (H := K05.hk) (ob := K05.ob) (M := 6000) (loose := K05.loose) (d := HandSHeadRun.topDef (OpenLaw.row PySem.Challenge.rw_sizestold_k05_whole_equations).prog 46) (kwd := []) K05.ob_eq
    (by kernel_rfl) (fun s => by kernel_rfl) K05.runs (by kernel_rfl) (by kernel_rfl) (by kernel_rfl) (by rfl) (by first | assumption | decide +kernel) (by decide +kernel) ⟨rfl, rfl, rfl, rfl, rfl, by decide +kernel⟩ ?hw ?hc
  case hw => w_witness2
  case hc =>
    refine L2.walk_ofE (l := PySem.Challenge.rw_sizestold_k05_whole_equations) (n := 63) (k := 2 * 11 + 1) (x := "script") (CX := MP.CXw (PySem.Challenge.rw_sizestold_k05_whole_equations).prog) rfl (by decide) (by kernel_rfl) ⟨rfl, by decide, by decide⟩ ?F MP.no_cx
    intro w mg fa0 h Y G hmg0
    obtain ⟨K, KX, c⟩ := Y
    have hmg : mg ("law" : PySem.Str) = some (.ref fa0) := by
      have e : (HandSHeadRun.topDef (OpenLaw.row PySem.Challenge.rw_sizestold_k05_whole_equations).prog 46).name = ("law" : PySem.Str) := by kernel_rfl
      rw [← e]
      exact hmg0
    exact MP.law_at K05.facts_ (j := 11) (f := 21) (fn := K05.f_law) rfl rfl ⟨"law", rfl, hmg, List.mem_of_getElem? (i := 21) rfl⟩ KX G c K05.always
end
theorem PySem.Challenge.cw_sizestold_k05_whole_equations_holds : PySem.Challenge.rw_sizestold_k05_whole_equations.Holds :=
  law_done
