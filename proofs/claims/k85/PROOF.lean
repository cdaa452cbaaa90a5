import PyProof.Rows.All
import Wide.All
import OpenK.AllK
import Wide.FinOn
import HandS.ForMost
import HandS.Exc
import HandS.TupAny
import HandS.Zip
import HandS.Walk
import KE.SortData
import KE.DataMinMax
import KE.DataFind
import KE.DataAny
import KE.DataCmp
import KE.DataEq
import HandS.IsInst
import HandS.SortInts
import PyProof.SeqIndex
import HandS.CallSlots
import HandS.Style
import KE.GoesMore
import KE.GoesEnum
import HandS.SetFor
import HandS.Conv
import HandS.Strs
import HandS.More
import HandS.Defaults
import HandS.Codes
import HandS.Words
import KE.KStateDown
import HandS.Ends
import HandS.WordsExc
import HandS.Head0
import HandS.Head1
import HandS.Head2
import HandS.HeadEnd
import HandS.HeadHook1
import HandS.HeadHook2
import HandS.HeadHook3
import PySem.Challenge.RW_lookonce_k85_whole_the_stand_behind_rows
set_option Elab.async false
set_option linter.all false
/-! DL.Ev: data, store, the small language, its evaluator. -/
namespace DL
open PySem L2

abbrev D := PyData
/-- a place of the store, as a datum -/
@[reducible] def rf (n : Nat) : D := .dict [(.int n, .none)]
/-- a list of ints that nobody may change (the script) -/
@[reducible] def ro (ns : List Int) : D := .dict [(.none, .list (ns.map .int))]
def isNone : D → Bool
  | .none => true
  | _ => false

mutual
def beqD : D → D → Bool
  | .none, .none => true
  | .bool a, .bool b => a == b
  | .int a, .int b => a == b
  | .str a, .str b => decide (a = b)
  | .list a, .list b => beqL a b
  | .tuple a, .tuple b => beqL a b
  | .dict a, .dict b => beqK a b
  | _, _ => false
def beqL : List D → List D → Bool
  | [], [] => true
  | a :: r, b :: s => beqD a b && beqL r s
  | _, _ => false
def beqK : List (D × D) → List (D × D) → Bool
  | [], [] => true
  | (a, x) :: r, (b, y) :: s => beqD a b && beqD x y && beqK r s
  | _, _ => false
end
mutual
@[simp] theorem beqD_refl : ∀ d : D, beqD d d = true
  | .none => rfl
  | .bool a => by simp [beqD]
  | .int a => by simp [beqD]
  | .str a => by simp [beqD]
  | .list a => by simpa [beqD] using beqL_refl a
  | .tuple a => by simpa [beqD] using beqL_refl a
  | .dict a => by simpa [beqD] using beqK_refl a
@[simp] theorem beqL_refl : ∀ d : List D, beqL d d = true
  | [] => rfl
  | a :: r => by simp [beqL, beqD_refl a, beqL_refl r]
@[simp] theorem beqK_refl : ∀ d : List (D × D), beqK d d = true
  | [] => rfl
  | (a, x) :: r => by simp [beqK, beqD_refl a, beqD_refl x, beqK_refl r]
end
mutual
theorem beqD_eq : ∀ {a b : D}, beqD a b = true → a = b
  | .none, b, h => by cases b <;> simp_all [beqD]
  | .bool a, b, h => by cases b <;> simp_all [beqD]
  | .int a, b, h => by cases b <;> simp_all [beqD]
  | .str a, b, h => by cases b <;> simp_all [beqD]
  | .list a, b, h => by
    cases b with
    | list b => rw [beqL_eq (a := a) (b := b) (by simpa [beqD] using h)]
    | _ => simp [beqD] at h
  | .tuple a, b, h => by
    cases b with
    | tuple b => rw [beqL_eq (a := a) (b := b) (by simpa [beqD] using h)]
    | _ => simp [beqD] at h
  | .dict a, b, h => by
    cases b with
    | dict b => rw [beqK_eq (a := a) (b := b) (by simpa [beqD] using h)]
    | _ => simp [beqD] at h
theorem beqL_eq : ∀ {a b : List D}, beqL a b = true → a = b
  | [], b, h => by cases b <;> simp_all [beqL]
  | a :: r, b, h => by
    cases b with
    | nil => simp [beqL] at h
    | cons b s =>
      simp [beqL] at h
      rw [beqD_eq h.1, beqL_eq h.2]
theorem beqK_eq : ∀ {a b : List (D × D)}, beqK a b = true → a = b
  | [], b, h => by cases b <;> simp_all [beqK]
  | (a, x) :: r, b, h => by
    cases b with
    | nil => simp [beqK] at h
    | cons b s =>
      obtain ⟨b, y⟩ := b
      simp [beqK] at h
      rw [beqD_eq h.1.1, beqD_eq h.1.2, beqK_eq h.2]
end

/-- what stands at a place of the store -/
inductive MO where
  | lst (xs : List D)
  | dct (kvs : List (D × D))
  | ins (c : Nat) (fs : List (Nat × D))
abbrev Store := List MO
inductive Res (α : Type) where
  | ok (a : α) (S : Store)
  | exc (c : Nat) (d : D) (S : Store)
  | bad
def Res.bind {α β : Type} : Res α → (α → Store → Res β) → Res β
  | .ok a S, f => f a S
  | .exc c d S, _ => .exc c d S
  | .bad, _ => .bad
@[simp] theorem Res.bind_ok {α β : Type} (a : α) (S : Store) (f : α → Store → Res β) : (Res.ok a S).bind f = f a S := rfl
@[simp] theorem Res.bind_exc {α β : Type} (c d S) (f : α → Store → Res β) : (Res.exc c d S).bind f = .exc c d S := rfl
@[simp] theorem Res.bind_bad {α β : Type} (f : α → Store → Res β) : (Res.bad).bind f = .bad := rfl

/-- a list's place -/
def locOf : D → Option Nat
  | .dict [(.int n, .none)] => some n.toNat
  | _ => none
/-- the list at a place -/
def atL (S : Store) (n : Nat) : Option (List D) := match S[n]? with
  | some (.lst xs) => some xs
  | _ => none
/-- a list's items, at a place or as it stands -/
def lstOf (S : Store) : D → Option (List D)
  | .list xs => some xs
  | .dict [(.int n, .none)] => atL S n.toNat
  | .dict [(.none, .list xs)] => some xs
  | _ => none
/-- .. of one that isn't the script -/
def lstOfM (S : Store) : D → Option (List D)
  | .list xs => some xs
  | .dict [(.int n, .none)] => atL S n.toNat
  | _ => none
def seqOf (S : Store) : D → Option (List D)
  | .tuple xs => some xs
  | .list xs => some xs
  | .dict [(.int n, .none)] => atL S n.toNat
  | .dict [(.none, .list xs)] => some xs
  | _ => none
/-- a datum with the list that stands at its place -/
def res (S : Store) : D → D
  | .dict [(.int n, .none)] => match atL S n.toNat with
    | some xs => .list xs
    | none => .dict [(.int n, .none)]
  | d => d
/-- a new list: at a place of its own, or never to be changed -/
def mkL (m : Bool) (xs : List D) (S : Store) : Res D := if xs.length ≤ sizeLine then (if m then .ok (rf S.length) (S ++ [.lst xs]) else .ok (.list xs) S) else .bad
def mkT (xs : List D) (S : Store) : Res D := if xs.length ≤ sizeLine then .ok (.tuple xs) S else .bad

def small64 (i : Int) : Bool := decide (-(2 ^ 64) < i ∧ i < 2 ^ 64)
def binV (o : Operator) (m : Bool) (a b : D) (S : Store) : Res D :=
  match o, a, b with
  | .Add, .int i, .int j => .ok (.int (i + j)) S
  | .Sub, .int i, .int j => .ok (.int (i - j)) S
  | .Mult, .int i, .int j => if small64 i || small64 j then .ok (.int (i * j)) S else .bad
  | .FloorDiv, .int i, .int j => if 0 < j ∧ j < 1073741824 then .ok (.int (i / j)) S else .bad
  | .Mod, .int i, .int j => if 0 < j then .ok (.int (i % j)) S else .bad
  | .Pow, .int i, .int j => if 0 ≤ j ∧ j ≤ 1000000 ∧ i.natAbs < 2 ^ 64 then .ok (.int (i ^ j.toNat)) S else .bad
  | .Add, .tuple x, .tuple y => mkT (x ++ y) S
  | .Add, a, b => match lstOfM S a, lstOfM S b with
    | some x, some y => mkL m (x ++ y) S
    | _, _ => .bad
  | _, _, _ => .bad

def eqOk (a b : D) : Bool := a.plain && b.plain && decide (min a.depth b.depth ≤ 60)
def ltOk (a b : D) : Bool := (a.plain && b.plain) && (PySem.W.alike a b && !isNone a && decide (min a.depth b.depth ≤ 60))
def inOk (xs : List D) (a : D) : Bool := PyData.plainAll xs && a.plain && decide (min (PyData.depthAll xs) a.depth ≤ 60)
def isConst : D → Bool
  | .none => true
  | .bool _ => true
  | _ => false
def cmpV (o : CmpOp) (a b : D) (S : Store) : Res D :=
  match o with
  | .Eq => if eqOk (res S a) (res S b) then .ok (.bool (PyData.eqv (res S a) (res S b))) S else .bad
  | .NotEq => if eqOk (res S a) (res S b) then .ok (.bool (!PyData.eqv (res S a) (res S b))) S else .bad
  | .Lt => if ltOk (res S a) (res S b) then .ok (.bool (PySem.W.dataLt (res S a) (res S b))) S else .bad
  | .Gt => if ltOk (res S a) (res S b) then .ok (.bool (PySem.W.dataLt (res S b) (res S a))) S else .bad
  | .LtE => if ltOk (res S a) (res S b) then .ok (.bool (!PySem.W.dataLt (res S b) (res S a))) S else .bad
  | .GtE => if ltOk (res S a) (res S b) then .ok (.bool (!PySem.W.dataLt (res S a) (res S b))) S else .bad
  | .Is => if isConst b then .ok (.bool (beqD a b)) S else .bad
  | .IsNot => if isConst b then .ok (.bool (!beqD a b)) S else .bad
  | .In => match seqOf S b with
    | some xs => if inOk xs (res S a) then .ok (.bool (xs.any fun y => PyData.eqv y (res S a))) S else .bad
    | none => .bad
  | .NotIn => match seqOf S b with
    | some xs => if inOk xs (res S a) then .ok (.bool (!xs.any fun y => PyData.eqv y (res S a))) S else .bad
    | none => .bad

/-- x op= y, of ints -/
def augV (o : Operator) (a b : D) (S : Store) : Res D := match a, b with
  | .int i, .int j => binV o false (.int i) (.int j) S
  | _, _ => .bad
/-- xs[i] -/
def atD (xs : List D) (i : Int) : Option D := atI xs i
def subV (a b : D) (S : Store) : Res D :=
  match b, seqOf S a with
  | .int i, some xs => match atI xs i with
    | some d => .ok d S
    | none => .bad
  | _, _ => .bad
/-- a table of the module with text keys, read -/
def kdV (kvs : List (Str × D)) (a : D) (S : Store) : Res D := match a with
  | .str z => match kvs.lookup z with
    | some d => .ok d S
    | none => .bad
  | _ => .bad
def cutD (xs : List D) (lo hi : Option Int) : List D := (xs.drop (HT.sIx xs.length 0 lo)).take (HT.sIx xs.length xs.length hi - HT.sIx xs.length 0 lo)
def slcV (m : Bool) (a : D) (l h : Option Int) (S : Store) : Res D :=
  match a with
  | .tuple xs => .ok (.tuple (cutD xs l h)) S
  | a => match lstOf S a with
    | some xs => mkL m (cutD xs l h) S
    | none => .bad
/-- a bound of a slice; ab: it isn't told -/
def Res.bnd (ab : Bool) (r : Res D) : Res (Option Int) := r.bind fun d S => match d with
  | .int i => .ok (some i) S
  | .none => if ab = true then .ok none S else .bad
  | _ => .bad

inductive Blt where
  | len | abs | int | list | tuple | sorted | sortset | all | any | sum | min1 | max1 | min2 | max2 | lrng1 | lrng2 | isT (t : Nat)
  deriving DecidableEq
inductive Mth where
  | append | remove | pop | popAt | extend | index
  deriving DecidableEq
/-- 0 int, 1 bool, 2 tuple, 3 str, 4 list -/
def isTy (S : Store) : Nat → D → Option Bool
  | 0, .int _ => some true | 0, .bool _ => some true
  | 1, .bool _ => some true
  | 2, .tuple _ => some true
  | 3, .str _ => some true
  | 4, .list _ => some true
  | t, d => if t ≤ 4 then (match d with
    | .dict _ => (lstOf S d).map fun _ => t == 4
    | _ => some false) else none
def intsOf : List D → Option (List Int)
  | [] => some []
  | .int i :: r => (intsOf r).map (i :: ·)
  | _ => none
def boolsOf : List D → Option (List Bool)
  | [] => some []
  | .bool b :: r => (boolsOf r).map (b :: ·)
  | _ => none
def alikeB (xs : List D) : Bool := xs.all fun x => xs.all fun y => PySem.W.alike x y
def isTup1 : D → Bool
  | .tuple (_ :: _) => true
  | _ => false
def isTupN : D → Bool
  | .tuple _ => true
  | .none => true
  | _ => false
def sortOk (xs : List D) : Bool := PyData.plainAll xs && alikeB xs && (xs.all isTup1 || xs.all fun x => !isTupN x) && xs.all fun x => decide (x.depth ≤ 60)
def sortD (xs : List D) : List D := xs.mergeSort (PySem.W.dataLe false id)
/-- ascending, each once -/
def uins (x : Int) : List Int → List Int
  | [] => [x]
  | y :: r => if x < y then x :: y :: r else if x = y then y :: r else y :: uins x r
def usort (xs : List Int) : List Int := xs.foldr uins []
/-- the ints i .. j - 1 -/
def rngD (i j : Int) : List D := (List.range (j - i).toNat).map fun (k : Nat) => .int (i + (k : Int))
def lenV : List D → Store → Res D
  | [a], S => match seqOf S a with
    | some xs => .ok (.int xs.length) S
    | none => .bad
  | _, _ => .bad
def absV : List D → Store → Res D
  | [.int i], S => .ok (.int (if i < 0 then -i else i)) S
  | _, _ => .bad
def intV : List D → Store → Res D
  | [.int i], S => .ok (.int i) S
  | _, _ => .bad
def listV (m : Bool) : List D → Store → Res D
  | [a], S => match seqOf S a with
    | some xs => mkL m xs S
    | none => .bad
  | _, _ => .bad
def tupleV : List D → Store → Res D
  | [a], S => match seqOf S a with
    | some xs => .ok (.tuple xs) S
    | none => .bad
  | _, _ => .bad
def sortedV (m : Bool) : List D → Store → Res D
  | [a], S => match seqOf S a with
    | some xs => if sortOk xs then mkL m (sortD xs) S else .bad
    | none => .bad
  | _, _ => .bad
/-- sorted(set(x)) of a list of ints -/
def sortsetV (m : Bool) : List D → Store → Res D
  | [a], S => match seqOf S a with
    | some xs => match intsOf xs with
      | some is => if is.length < 64 then mkL m ((usort is).map .int) S else .bad
      | none => .bad
    | none => .bad
  | _, _ => .bad
def allV : List D → Store → Res D
  | [a], S => match lstOf S a with
    | some xs => match boolsOf xs with
      | some bs => .ok (.bool (bs.all id)) S
      | none => .bad
    | none => .bad
  | _, _ => .bad
def anyV : List D → Store → Res D
  | [a], S => match lstOf S a with
    | some xs => match boolsOf xs with
      | some bs => .ok (.bool (bs.any id)) S
      | none => .bad
    | none => .bad
  | _, _ => .bad
def sumV : List D → Store → Res D
  | [a], S => match lstOf S a with
    | some xs => match intsOf xs with
      | some is => .ok (.int is.sum) S
      | none => .bad
    | none => .bad
  | _, _ => .bad
def max2V : List D → Store → Res D
  | [.int i, .int j], S => .ok (.int (if j > i then j else i)) S
  | _, _ => .bad
def min2V : List D → Store → Res D
  | [.int i, .int j], S => .ok (.int (if j < i then j else i)) S
  | _, _ => .bad
def isTV (t : Nat) : List D → Store → Res D
  | [a], S => match isTy S t a with
    | some b => .ok (.bool b) S
    | none => .bad
  | _, _ => .bad
/-- list(range(j)), list(range(i, j)) -/
def lrng1V (m : Bool) : List D → Store → Res D
  | [.int j], S => if -(2 ^ 62) ≤ j ∧ j ≤ 16777216 then mkL m (rngD 0 j) S else .bad
  | _, _ => .bad
def lrng2V (m : Bool) : List D → Store → Res D
  | [.int i, .int j], S => if 0 ≤ i ∧ i ≤ 16777216 ∧ 0 ≤ j ∧ j ≤ 16777216 then mkL m (rngD i j) S else .bad
  | _, _ => .bad
def bltV (b : Blt) (m : Bool) : List D → Store → Res D := match b with
  | .len => lenV
  | .abs => absV
  | .int => intV
  | .list => listV m
  | .tuple => tupleV
  | .sorted => sortedV m
  | .sortset => sortsetV m
  | .all => allV
  | .any => anyV
  | .sum => sumV
  | .max2 => max2V
  | .min2 => min2V
  | .isT t => isTV t
  | .lrng1 => lrng1V m
  | .lrng2 => lrng2V m
  | _ => fun _ _ => .bad
def setL (S : Store) (n : Nat) (xs : List D) : Store := S.set n (.lst xs)
def appendV (n : Nat) (xs : List D) : List D → Store → Res D
  | [a], S => if xs.length < sizeLine then .ok .none (setL S n (xs ++ [a])) else .bad
  | _, _ => .bad
def removeV (n : Nat) (xs : List D) : List D → Store → Res D
  | [a], S => if inOk xs (res S a) then (match SeqAt.dataPlace xs (res S a) with
    | some j => .ok .none (setL S n (xs.eraseIdx j))
    | none => .bad) else .bad
  | _, _ => .bad
def popAtV (n : Nat) (xs : List D) : List D → Store → Res D
  | [.int i], S => match ixN xs.length i with
    | some j => match xs[j]? with
      | some y => .ok y (setL S n (xs.eraseIdx j))
      | none => .bad
    | none => .bad
  | _, _ => .bad
def popV (n : Nat) (xs : List D) : List D → Store → Res D
  | [], S => match xs[xs.length - 1]? with
    | some y => .ok y (setL S n xs.dropLast)
    | none => .bad
  | _, _ => .bad
def extendV (n : Nat) (xs : List D) : List D → Store → Res D
  | [a], S => match lstOf S a with
    | some ys => if xs.length + ys.length ≤ sizeLine then .ok .none (setL S n (xs ++ ys)) else .bad
    | none => .bad
  | _, _ => .bad
/-- o.index(x) of a list -/
def indexV (o : D) : List D → Store → Res D
  | [a], S => match lstOfM S o with
    | some xs => if inOk xs (res S a) then (match SeqAt.dataPlace xs (res S a) with
      | some j => .ok (.int j) S
      | none => .bad) else .bad
    | none => .bad
  | _, _ => .bad
def onL (f : Nat → List D → List D → Store → Res D) (o : D) (vs : List D) (S : Store) : Res D := match locOf o with
  | some n => match atL S n with
    | some xs => f n xs vs S
    | none => .bad
  | none => .bad
def mthV (k : Mth) (o : D) (vs : List D) (S : Store) : Res D := match k with
  | .append => onL appendV o vs S
  | .remove => onL removeV o vs S
  | .popAt => onL popAtV o vs S
  | .pop => onL popV o vs S
  | .extend => onL extendV o vs S
  | .index => indexV o vs S

/-- targets: names and rows of them -/
inductive Tg where
  | nm (i : Nat)
  | tup (l : List Tg)
abbrev Env := List (Option D)
mutual
def bindT : Tg → D → Env → Option Env
  | .nm i, d, env => some (env.set i (some d))
  | .tup ts, d, env => match d with
    | .tuple xs => bindTs ts xs env
    | _ => none
def bindTs : List Tg → List D → Env → Option Env
  | [], [], env => some env
  | t :: ts, x :: xs, env => (bindT t x env).bind fun env' => bindTs ts xs env'
  | _, _, _ => none
end
inductive IK where
  | val | rng1 | rng2 | enum | zip
  deriving DecidableEq
/-- what is walked, and the place that must stand still meanwhile -/
abbrev ItR := Res (List D × Option Nat)
def valI : List D → Store → ItR
  | [a], S => match seqOf S a with
    | some xs => .ok (xs, locOf a) S
    | none => .bad
  | _, _ => .bad
def rng1I : List D → Store → ItR
  | [.int j], S => if -(2 ^ 62) ≤ j ∧ j < 2 ^ 62 ∧ j ≤ sizeLine then .ok ((List.range j.toNat).map fun (i : Nat) => .int (i : Int), none) S else .bad
  | _, _ => .bad
def rng2I : List D → Store → ItR
  | [.int i, .int j], S => if (-(2 ^ 62) ≤ i ∧ i < 2 ^ 62 ∧ -(2 ^ 62) ≤ j ∧ j < 2 ^ 62) ∧ j - i ≤ sizeLine then .ok ((List.range (j - i).toNat).map fun (k : Nat) => .int (i + (k : Int)), none) S else .bad
  | _, _ => .bad
def enumI : List D → Store → ItR
  | [a], S => match seqOf S a with
    | some xs => .ok (xs.mapIdx fun i x => .tuple [.int i, x], locOf a) S
    | none => .bad
  | _, _ => .bad
def zipI : List D → Store → ItR
  | [a, b], S => match a, b with
    | .tuple xs, .tuple ys => .ok (List.zipWith (fun x y => .tuple [x, y]) xs ys, none) S
    | a, b => match lstOf S a, lstOf S b, locOf b with
      | some xs, some ys, none => .ok (List.zipWith (fun x y => .tuple [x, y]) xs ys, locOf a) S
      | _, _, _ => .bad
  | _, _ => .bad
def itemsV (k : IK) : List D → Store → ItR := match k with
  | .val => valI
  | .rng1 => rng1I
  | .rng2 => rng2I
  | .enum => enumI
  | .zip => zipI
def still (g : Option Nat) (S0 S : Store) : Bool := match g with
  | none => true
  | some n => match atL S0 n, atL S n with
    | some xs, some ys => beqL xs ys
    | _, _ => false

/-- expressions -/
inductive Ex where
  | c (d : D)
  | v (i : Nat)
  | bin (o : Operator) (m : Bool) (a b : Ex)
  | cmp (o : CmpOp) (a b : Ex)
  | chain (o o' : CmpOp) (a b c : Ex)
  | neg (a : Ex)
  | not (a : Ex)
  | and (a b : Ex)
  | or (a b : Ex)
  | ite (t a b : Ex)
  | tup (l : List Ex)
  | lst (m : Bool) (l : List Ex)
  | sub (a b : Ex)
  | kd (kvs : List (Str × D)) (a : Ex)
  | slc (m : Bool) (a lo hi : Ex)
  | call (f : Nat) (l : List Ex) (dd : List D)
  | blt (b : Blt) (m : Bool) (l : List Ex)
  | mth (k : Mth) (o : Ex) (l : List Ex)
  | comp (m : Bool) (own : List Nat) (t : Tg) (k : IK) (its : List Ex) (ifs : List Ex) (elt : Ex)

def isAbs : Ex → Bool
  | .c .none => true
  | _ => false
def wipeE (env : Env) : List Nat → Env
  | [] => env
  | v :: vs => (wipeE env vs).set v none
/-- a comprehension's turns -/
def compLoop (g : Option Nat) (S0 : Store) (f : D → Store → Res (Option D)) : List D → List D → Store → Res (List D)
  | [], acc, S => if still g S0 S then .ok acc S else .bad
  | x :: r, acc, S => if still g S0 S then (f x S).bind fun o S' => compLoop g S0 f r (match o with | some y => acc ++ [y] | none => acc) S' else .bad
/-- .. where the list has a place of its own from the start -/
def compLoopM (g : Option Nat) (S0 : Store) (n : Nat) (f : D → Store → Res (Option D)) : List D → Store → Res Unit
  | [], S => if still g S0 S then .ok () S else .bad
  | x :: r, S => if still g S0 S then (f x S).bind fun o S' => match o with
      | some y => match atL S' n with
        | some acc => if acc.length < sizeLine then compLoopM g S0 n f r (setL S' n (acc ++ [y])) else .bad
        | none => .bad
      | none => compLoopM g S0 n f r S' else .bad
def Res.noexc {α : Type} : Res α → Res α
  | .exc _ _ _ => .bad
  | r => r
@[simp] theorem Res.noexc_ok {α : Type} (a : α) (S : Store) : (Res.ok a S).noexc = .ok a S := rfl
@[simp] theorem Res.noexc_bad {α : Type} : (Res.bad : Res α).noexc = .bad := rfl
def compEnd (m : Bool) (g : Option Nat) (S0 : Store) (f : D → Store → Res (Option D)) (items : List D) (S : Store) : Res D :=
  if m = true then Res.noexc (compLoopM g S0 S.length f items (S ++ [.lst []])) |>.bind fun _ S' => .ok (rf S.length) S'
  else Res.noexc (compLoop g S0 f items [] S) |>.bind fun acc S' => if acc.length ≤ sizeLine then .ok (.list acc) S' else .bad
def asBool : D → Option Bool
  | .bool b => some b
  | _ => none
def Res.test {β : Type} (r : Res D) (f : Bool → Store → Res β) : Res β := r.bind fun d S => match asBool d with
  | some b => f b S
  | none => .bad
abbrev FS := Nat → List D → Store → Res D
mutual
def ev (F : FS) : Ex → Env → Store → Res D
  | .c d, _, S => .ok d S
  | .v i, env, S => match env[i]? with
    | some (some d) => .ok d S
    | _ => .bad
  | .bin o m a b, env, S => (ev F a env S).bind fun x S1 => (ev F b env S1).bind fun y S2 => binV o m x y S2
  | .cmp o a b, env, S => (ev F a env S).bind fun x S1 => (ev F b env S1).bind fun y S2 => cmpV o x y S2
  | .chain o o' a b c, env, S => (ev F a env S).bind fun x S1 => (ev F b env S1).bind fun y S2 => (cmpV o x y S2).test fun k S3 =>
      if k = true then (ev F c env S3).bind fun z S4 => cmpV o' y z S4 else .ok (.bool false) S3
  | .neg a, env, S => (ev F a env S).bind fun x S1 => match x with
    | .int i => .ok (.int (-i)) S1
    | _ => .bad
  | .not a, env, S => (ev F a env S).test fun b S1 => .ok (.bool (!b)) S1
  | .and a b, env, S => (ev F a env S).test fun k S1 => if k = true then ev F b env S1 else .ok (.bool false) S1
  | .or a b, env, S => (ev F a env S).test fun k S1 => if k = true then .ok (.bool true) S1 else ev F b env S1
  | .ite t a b, env, S => (ev F t env S).test fun k S1 => if k = true then ev F a env S1 else ev F b env S1
  | .tup l, env, S => (evs F l env S).bind fun xs S1 => mkT xs S1
  | .lst m l, env, S => (evs F l env S).bind fun xs S1 => mkL m xs S1
  | .sub a b, env, S => (ev F a env S).bind fun x S1 => (ev F b env S1).bind fun y S2 => subV x y S2
  | .kd kvs a, env, S => (ev F a env S).bind fun x S1 => kdV kvs x S1
  | .slc m a lo hi, env, S => (ev F a env S).bind fun x S1 => (Res.bnd (isAbs lo) (ev F lo env S1)).bind fun y S2 => (Res.bnd (isAbs hi) (ev F hi env S2)).bind fun z S3 => slcV m x y z S3
  | .call f l dd, env, S => (evs F l env S).bind fun xs S1 => F f (xs ++ dd) S1
  | .blt b m l, env, S => (evs F l env S).bind fun xs S1 => bltV b m xs S1
  | .mth k o l, env, S => (ev F o env S).bind fun x S1 => match lstOf S1 x with
    | none => .bad
    | some _ => (evs F l env S1).bind fun xs S2 => mthV k x xs S2
  | .comp m own t k its ifs elt, env, S => (evs F its env S).bind fun vs S1 => (itemsV k vs S1).bind fun (items, g) S2 =>
      compEnd m g S2 (fun x S3 => match bindT t x (wipeE env own) with
        | none => .bad
        | some env' => (evAll F ifs env' S3).bind fun b S4 => if b = true then (ev F elt env' S4).bind fun y S5 => .ok (some y) S5 else .ok none S4) items S2
def evs (F : FS) : List Ex → Env → Store → Res (List D)
  | [], _, S => .ok [] S
  | a :: r, env, S => (ev F a env S).bind fun x S1 => (evs F r env S1).bind fun xs S2 => .ok (x :: xs) S2
def evAll (F : FS) : List Ex → Env → Store → Res Bool
  | [], _, S => .ok true S
  | a :: r, env, S => (ev F a env S).test fun k S1 => if k = true then evAll F r env S1 else .ok false S1
end

/-! ### statements -/
inductive Sm where
  | asg (t : Tg) (e : Ex)
  | setS (o i e : Ex)
  | aug (i : Nat) (op : Operator) (e : Ex)
  | ifs (t : Ex) (a b : List Sm)
  | whl (t : Ex) (b : List Sm)
  | frl (t : Tg) (k : IK) (its : List Ex) (b : List Sm)
  | ret (e : Ex)
  | exp (e : Ex)
  | pass | brk | cont
  | try0 (b : List Sm)
  | raise (c : Nat) (e : Ex)
  | never
inductive Out where
  | nx (env : Env) (S : Store)
  | rt (d : D) (S : Store)
  | bk (env : Env) (S : Store)
  | ct (env : Env) (S : Store)
  | exc (c : Nat) (d : D) (env : Env) (S : Store)
  | bad
def Res.out {α : Type} (env : Env) : Res α → (α → Store → Out) → Out
  | .ok a S, f => f a S
  | .exc c d S, _ => .exc c d env S
  | .bad, _ => .bad
@[simp] theorem Res.out_ok {α : Type} (env a) (S : Store) (f : α → Store → Out) : Res.out env (Res.ok a S) f = f a S := rfl
@[simp] theorem Res.out_exc {α : Type} (env c d S) (f : α → Store → Out) : Res.out env (Res.exc c d S) f = .exc c d env S := rfl
@[simp] theorem Res.out_bad {α : Type} (env) (f : α → Store → Out) : Res.out env (Res.bad) f = .bad := rfl
def Res.outB (env : Env) (r : Res D) (f : Bool → Store → Out) : Out := Res.out env r fun d S => match asBool d with
  | some b => f b S
  | none => .bad
/-- where nothing may be raised -/
def Out.noexc : Out → Out
  | .exc _ _ _ _ => .bad
  | o => o
def Out.seq : Out → (Env → Store → Out) → Out
  | .nx env S, f => f env S
  | o, _ => o
def setItemV (o i v : D) (S : Store) : Option Store := match locOf o, i with
  | some n, .int j => (atL S n).bind fun xs => (ixN xs.length j).map fun k => setL S n (xs.set k v)
  | _, _ => none
def forLoop (g : Option Nat) (S0 : Store) (f : D → Env → Store → Out) : List D → Env → Store → Out
  | [], env, S => if still g S0 S then .nx env S else .bad
  | x :: r, env, S => if still g S0 S then (match f x env S with
    | .nx env' S' => forLoop g S0 f r env' S'
    | .ct env' S' => forLoop g S0 f r env' S'
    | .bk env' S' => .nx env' S'
    | o => o) else .bad
def whlLoop (c : Env → Store → Res D) (f : Env → Store → Out) : Nat → Env → Store → Out
  | 0, _, _ => .bad
  | n + 1, env, S => Res.outB env (c env S) fun k S1 => if k = true then (match f env S1 with
    | .nx env' S' => whlLoop c f n env' S'
    | .ct env' S' => whlLoop c f n env' S'
    | .bk env' S' => .nx env' S'
    | o => o) else .nx env S1
/-- the most turns of a while -/
def whlMost : Nat := 1000000
mutual
def exec (F : FS) : Sm → Env → Store → Out
  | .asg t e, env, S => Res.out env (ev F e env S) fun d S1 => match bindT t d env with
    | some env' => .nx env' S1
    | none => .bad
  | .setS o i e, env, S => Res.out env (ev F e env S) fun d S1 => Res.out env (ev F o env S1) fun x S2 => Res.out env (ev F i env S2) fun y S3 => match setItemV x y d S3 with
    | some S4 => .nx env S4
    | none => .bad
  | .aug i op e, env, S => match env[i]? with
    | some (some x) => Res.out env (ev F e env S) fun y S1 => Res.out env (augV op x y S1) fun z S2 => .nx (env.set i (some z)) S2
    | _ => .bad
  | .ifs t a b, env, S => Res.outB env (ev F t env S) fun k S1 => if k = true then execs F a env S1 else execs F b env S1
  | .whl t b, env, S => whlLoop (ev F t) (execs F b) whlMost env S
  | .frl t k its b, env, S => Res.out env (evs F its env S) fun vs S1 => Res.out env (itemsV k vs S1) fun (items, g) S2 =>
      forLoop g S2 (fun x env1 S3 => match bindT t x env1 with
        | none => .bad
        | some env2 => execs F b env2 S3) items env S2
  | .ret e, env, S => Res.out env (ev F e env S) fun d S1 => .rt d S1
  | .exp e, env, S => Res.out env (ev F e env S) fun _ S1 => .nx env S1
  | .pass, env, S => .nx env S
  | .brk, env, S => .bk env S
  | .cont, env, S => .ct env S
  | .try0 b, env, S => (execs F b env S).noexc
  | .raise c e, env, S => Res.out env (ev F e env S) fun d S1 => .exc c d env S1
  | .never, _, _ => .bad
def execs (F : FS) : List Sm → Env → Store → Out
  | [], env, S => .nx env S
  | a :: r, env, S => (exec F a env S).seq fun env' S' => execs F r env' S'
end

/-! ### defs -/
mutual
/-- no place from n on is named -/
def below (n : Nat) : D → Bool
  | .list xs => belowL n xs
  | .tuple xs => belowL n xs
  | .dict [(.int k, .none)] => decide (k.toNat < n)
  | .dict [(.none, .list xs)] => (intsOf xs).isSome
  | .dict _ => false
  | _ => true
def belowL (n : Nat) : List D → Bool
  | [] => true
  | x :: r => below n x && belowL n r
end
def belowO (n : Nat) : MO → Bool
  | .lst xs => belowL n xs
  | .dct kvs => kvs.all fun p => below n p.1 && below n p.2
  | .ins _ fs => fs.all fun p => below n p.2
def beqO : MO → MO → Bool
  | .lst a, .lst b => beqL a b
  | .dct a, .dct b => beqK a b
  | _, _ => false
/-- the places that were there ahead, if nothing newer is named in them -/
def keepable : Store → Store → Nat → Bool
  | [], _, _ => true
  | _ :: _, [], _ => false
  | a :: r, b :: s, n => (beqO a b || belowO n b) && keepable r s n
/-- at a def's end: what nobody can reach any more is dropped; a list that is handed out is never changed again, if the def says so -/
def handOut (fz : Bool) (n : Nat) (S : Store) (d : D) : D := match fz, locOf d with
  | true, some k => if n ≤ k then (match atL S k with
    | some xs => .list xs
    | none => d) else d
  | _, _ => d
def gc (fz : Bool) (S0 : Store) : Out → Res D
  | .rt d S => if below S0.length (handOut fz S0.length S d) && keepable S0 S S0.length then .ok (handOut fz S0.length S d) (S.take S0.length) else .ok d S
  | .nx _ S => if keepable S0 S S0.length then .ok .none (S.take S0.length) else .ok .none S
  | .exc c d _ S => if below S0.length d && keepable S0 S S0.length then .exc c d (S.take S0.length) else .exc c d S
  | _ => .bad
structure Fn where
  slots : Nat
  pars : Nat
  body : List Sm
  fz : Bool := true
def run (tab : Nat → Option Fn) : Nat → FS
  | 0, _, _, _ => .bad
  | n + 1, f, vs, S => match tab f with
    | none => .bad
    | some fn => if vs.length = fn.pars then gc fn.fz S (execs (run tab n) fn.body (vs.map some ++ List.replicate (fn.slots - fn.pars) none) S) else .bad
end DL

set_option linter.all false
/-! DL.Rel: how data stand in the abstract heap. -/
namespace DL
open PySem L2
/-- what of the program is known by number: the classes of exceptions and the name of their field -/
structure Tb where
  ca : Nat → Addr
  cf : Nat → Str

/-- where the places of the store lie, and what else nobody may name (a list that a comprehension is making) -/
structure Mu where
  pl : List Addr
  rv : List Addr
/-- neither -/
def Free (μ : Mu) (a : Addr) : Prop := a ∉ μ.pl ∧ a ∉ μ.rv
/-- a list that nobody may change: the script, or one of the kit's -/
def SqR (K : PySem.W.Frag) (H : Hp) (a : Addr) (xs : List V) : Prop :=
  (∃ o, H a = some (.frz o (.lst xs))) ∨
    ∃ (o : Obj) (its : Array Value) (n : Nat), K.lookup a = some o ∧ o.cls = .type "list" ∧ o.dict = none ∧ o.data = .seq its n ∧ its.size ≤ sizeLine ∧ Vals xs its.toList
theorem SqR.sql {K : PySem.W.Frag} {H : Hp} {a : Addr} {xs : List V} (h : SqR K H a xs) : SqL K H a xs := by
  rcases h with ⟨o, h⟩ | h
  · exact .inl (.inr ⟨o, h⟩)
  · exact .inr h
mutual
/-- v stands for d: μ tells where the places of the store lie -/
inductive Rep (K : PySem.W.Frag) (μ : Mu) (H : Hp) : V → D → Prop
  | non : Rep K μ H .non .none
  | bl (b : Bool) : Rep K μ H (.bl b) (.bool b)
  | int (i : Int) : Rep K μ H (.int i) (.int i)
  | str (x : Str) : Rep K μ H (.str x) (.str x)
  | lst {a : Addr} {xs : List V} {ds : List D} : Free μ a → H a = some (.lst xs) → RepL K μ H xs ds → Rep K μ H (.ref a) (.list ds)
  | ro {a : Addr} {ns : List Int} : SqR K H a (ns.map V.int) → Rep K μ H (.ref a) (ro ns)
  | tup {a : Addr} {xs : List V} {ds : List D} : SqT K H a xs → RepL K μ H xs ds → Rep K μ H (.ref a) (.tuple ds)
  | rf {a : Addr} {n : Nat} : μ.pl[n]? = some a → Rep K μ H (.ref a) (rf n)
inductive RepL (K : PySem.W.Frag) (μ : Mu) (H : Hp) : List V → List D → Prop
  | nil : RepL K μ H [] []
  | cons {v : V} {vs : List V} {d : D} {ds : List D} : Rep K μ H v d → RepL K μ H vs ds → RepL K μ H (v :: vs) (d :: ds)
end
section
variable {K : PySem.W.Frag} {μ μ' : Mu} {H H' : Hp}
/-- what must stay that data stay -/
structure Keeps (μ μ' : Mu) (H H' : Hp) : Prop where
  tup : ∀ b xs, Rd H b (.tup xs) → Rd H' b (.tup xs)
  lst : ∀ b xs, Free μ b → H b = some (.lst xs) → Free μ' b ∧ H' b = some (.lst xs)
  frz : ∀ b o u, H b = some (.frz o u) → H' b = some (.frz o u)
  at_ : ∀ (n : Nat) a, μ.pl[n]? = some a → μ'.pl[n]? = some a
mutual
theorem Rep.keep (k : Keeps μ μ' H H') : ∀ (d : D) (v : V), Rep K μ H v d → Rep K μ' H' v d
  | .none, _, h => by cases h; exact .non
  | .bool _, _, h => by cases h; exact .bl _
  | .int _, _, h => by cases h; exact .int _
  | .str _, _, h => by cases h; exact .str _
  | .list ds, _, h => by
    cases h with
    | lst h1 h2 h3 =>
      obtain ⟨k1, k2⟩ := k.lst _ _ h1 h2
      exact .lst k1 k2 (RepL.keep k ds _ h3)
  | .tuple ds, _, h => by
    cases h with
    | tup h1 h2 =>
      refine .tup ?_ (RepL.keep k ds _ h2)
      rcases h1 with h1 | h1
      · exact .inl (k.tup _ _ h1)
      · exact .inr h1
  | .dict kvs, _, h => by
    cases h with
    | rf h1 => exact .rf (k.at_ _ _ h1)
    | ro h1 => exact .ro (by rcases h1 with ⟨o, h1⟩ | h1; exact .inl ⟨o, k.frz _ _ _ h1⟩; exact .inr h1)
theorem RepL.keep (k : Keeps μ μ' H H') : ∀ (ds : List D) (vs : List V), RepL K μ H vs ds → RepL K μ' H' vs ds
  | [], _, h => by cases h; exact .nil
  | d :: ds, _, h => by
    cases h with
    | cons h1 h2 => exact .cons (Rep.keep k d _ h1) (RepL.keep k ds _ h2)
end
/-- data stay -/
structure Mono (K : PySem.W.Frag) (μ : Mu) (H : Hp) (μ' : Mu) (H' : Hp) : Prop where
  pre : ∃ ν, μ'.pl = μ.pl ++ ν
  mono : ∀ v d, Rep K μ H v d → Rep K μ' H' v d
/-- the heap goes on: places and data stay, and what nobody may name -/
structure Ext (K : PySem.W.Frag) (μ : Mu) (H : Hp) (μ' : Mu) (H' : Hp) : Prop extends Mono K μ H μ' H' where
  rv : μ'.rv = μ.rv
  same : ∀ a ∈ μ.rv, H' a = H a
theorem Mono.refl : Mono K μ H μ H := ⟨⟨[], by simp⟩, fun _ _ h => h⟩
theorem Mono.trans {μ'' : Mu} {H'' : Hp} (a : Mono K μ H μ' H') (b : Mono K μ' H' μ'' H'') : Mono K μ H μ'' H'' := by
  obtain ⟨⟨ν, e⟩, m⟩ := a
  obtain ⟨⟨ν', e'⟩, m'⟩ := b
  exact ⟨⟨ν ++ ν', by rw [e', e, List.append_assoc]⟩, fun v d h => m' v d (m v d h)⟩
theorem Ext.refl : Ext K μ H μ H := ⟨.refl, rfl, fun _ _ => rfl⟩
theorem Ext.trans {μ'' : Mu} {H'' : Hp} (a : Ext K μ H μ' H') (b : Ext K μ' H' μ'' H'') : Ext K μ H μ'' H'' :=
  ⟨a.toMono.trans b.toMono, b.rv.trans a.rv, fun x hx => (b.same x (by rw [a.rv]; exact hx)).trans (a.same x hx)⟩
theorem Mono.monoL (e : Mono K μ H μ' H') : ∀ {vs : List V} {ds : List D}, RepL K μ H vs ds → RepL K μ' H' vs ds
  | [], _, h => by cases h; exact .nil
  | v :: vs, _, h => by
    cases h with
    | cons h1 h2 => exact .cons (e.mono _ _ h1) (e.monoL h2)
theorem RepL.ints : ∀ {ns : List Int}, RepL K μ H (ns.map V.int) (ns.map .int)
  | [] => .nil
  | i :: ns => .cons (.int i) RepL.ints
theorem RepL.length : ∀ {vs : List V} {ds : List D}, RepL K μ H vs ds → vs.length = ds.length
  | [], _, h => by cases h; rfl
  | v :: vs, _, h => by
    cases h with
    | cons h1 h2 => simp [RepL.length h2]
theorem RepL.get {i : Nat} : ∀ {vs : List V} {ds : List D} {d : D}, RepL K μ H vs ds → ds[i]? = some d → ∃ v, vs[i]? = some v ∧ Rep K μ H v d := by
  induction i with
  | zero =>
    intro vs ds d h e
    cases h with
    | nil => simp at e
    | cons h1 h2 => simp at e; subst e; exact ⟨_, rfl, h1⟩
  | succ i ih =>
    intro vs ds d h e
    cases h with
    | nil => simp at e
    | cons h1 h2 =>
      obtain ⟨v, e1, r⟩ := ih h2 (by simpa using e)
      exact ⟨v, by simpa using e1, r⟩
theorem RepL.getV {i : Nat} : ∀ {vs : List V} {ds : List D} {v : V}, RepL K μ H vs ds → vs[i]? = some v → ∃ d, ds[i]? = some d ∧ Rep K μ H v d := by
  induction i with
  | zero =>
    intro vs ds d h e
    cases h with
    | nil => simp at e
    | cons h1 h2 => simp at e; subst e; exact ⟨_, rfl, h1⟩
  | succ i ih =>
    intro vs ds d h e
    cases h with
    | nil => simp at e
    | cons h1 h2 =>
      obtain ⟨v, e1, r⟩ := ih h2 (by simpa using e)
      exact ⟨v, by simpa using e1, r⟩
theorem RepL.append : ∀ {vs ws : List V} {ds es : List D}, RepL K μ H vs ds → RepL K μ H ws es → RepL K μ H (vs ++ ws) (ds ++ es)
  | [], _, _, _, h, g => by cases h; exact g
  | v :: vs, _, _, _, h, g => by
    cases h with
    | cons h1 h2 => exact .cons h1 (RepL.append h2 g)
theorem RepL.take : ∀ (n : Nat) {vs : List V} {ds : List D}, RepL K μ H vs ds → RepL K μ H (vs.take n) (ds.take n)
  | 0, _, _, _ => by simp; exact .nil
  | n + 1, [], _, h => by cases h; simp; exact .nil
  | n + 1, v :: vs, _, h => by
    cases h with
    | cons h1 h2 => exact .cons h1 (RepL.take n h2)
theorem RepL.drop : ∀ (n : Nat) {vs : List V} {ds : List D}, RepL K μ H vs ds → RepL K μ H (vs.drop n) (ds.drop n)
  | 0, _, _, h => by simpa using h
  | n + 1, [], _, h => by cases h; simp; exact .nil
  | n + 1, v :: vs, _, h => by
    cases h with
    | cons h1 h2 => simpa using RepL.drop n h2
theorem RepL.set {x : V} {d : D} (r : Rep K μ H x d) : ∀ {vs : List V} {ds : List D} (n : Nat), RepL K μ H vs ds → RepL K μ H (vs.set n x) (ds.set n d)
  | [], _, _, h => by cases h; exact .nil
  | v :: vs, _, 0, h => by
    cases h with
    | cons h1 h2 => exact .cons r h2
  | v :: vs, _, n + 1, h => by
    cases h with
    | cons h1 h2 => exact .cons h1 (RepL.set r n h2)
theorem RepL.eraseIdx : ∀ {vs : List V} {ds : List D} (n : Nat), RepL K μ H vs ds → RepL K μ H (vs.eraseIdx n) (ds.eraseIdx n)
  | [], _, _, h => by cases h; simp; exact .nil
  | v :: vs, _, 0, h => by
    cases h with
    | cons h1 h2 => exact h2
  | v :: vs, _, n + 1, h => by
    cases h with
    | cons h1 h2 => exact .cons h1 (RepL.eraseIdx n h2)
theorem RepL.dropLast : ∀ {vs : List V} {ds : List D}, RepL K μ H vs ds → RepL K μ H vs.dropLast ds.dropLast
  | [], _, h => by cases h; simp; exact .nil
  | [v], _, h => by
    cases h with
    | cons h1 h2 => cases h2; exact .nil
  | v :: w :: vs, _, h => by
    cases h with
    | cons h1 h2 =>
      have := RepL.dropLast h2
      cases h2 with
      | cons h3 h4 => exact .cons h1 this

theorem map_int_inj : ∀ {ns ms : List Int}, ns.map PyData.int = ms.map PyData.int → ns = ms
  | [], [], _ => rfl
  | [], _ :: _, h => by simp at h
  | _ :: _, [], h => by simp at h
  | i :: ns, j :: ms, h => by
    simp only [List.map_cons, List.cons.injEq, PyData.int.injEq] at h
    rw [h.1, map_int_inj h.2]
theorem ro_inv {x : V} {d : D} {ns : List Int} (r : Rep K μ H x d) (e : d = ro ns) : ∃ a, x = .ref a ∧ SqR K H a (ns.map V.int) := by
  cases r with
  | ro h =>
    have e' : PyData.dict [(.none, .list ((‹List Int› : List Int).map .int))] = PyData.dict [(.none, .list (ns.map .int))] := e
    simp only [PyData.dict.injEq, List.cons.injEq, Prod.mk.injEq, PyData.list.injEq, true_and, and_true] at e'
    rw [map_int_inj e'] at h
    exact ⟨_, rfl, h⟩
  | rf h =>
    have e' : PyData.dict [(.int _, .none)] = PyData.dict [(.none, .list (ns.map .int))] := e
    simp at e'
  | _ => cases e
/-- what stands at a place -/
def MOk (K : PySem.W.Frag) (μ : Mu) (H : Hp) (a : Addr) : MO → Prop
  | .lst ds => ∃ xs, H a = some (.lst xs) ∧ RepL K μ H xs ds
  | .dct _ => False
  | .ins _ _ => False
/-- the store stands in the heap -/
structure RelS (K : PySem.W.Frag) (μ : Mu) (S : Store) (H : Hp) : Prop where
  len : μ.pl.length = S.length
  nd : μ.pl.Nodup
  at_ : ∀ (n : Nat) o, S[n]? = some o → ∃ a, μ.pl[n]? = some a ∧ MOk K μ H a o
  rv : ∀ a ∈ μ.rv, a ∉ μ.pl ∧ ∃ o, H a = some o
/-- the slots -/
structure RelE (K : PySem.W.Frag) (μ : Mu) (H : Hp) (env : Env) (σ : L2.St) : Prop where
  len : env.length = σ.length
  at_ : ∀ (i : Nat) d, env[i]? = some (some d) → ∃ v, σ[i]? = some (some v) ∧ Rep K μ H v d
theorem RelE.monoW {env : Env} {σ : L2.St} (r : RelE K μ H env σ) (e : Mono K μ H μ' H') : RelE K μ' H' env σ :=
  ⟨r.len, fun i d h => let ⟨v, h1, h2⟩ := r.at_ i d h; ⟨v, h1, e.mono _ _ h2⟩⟩
theorem RelE.mono {env : Env} {σ : L2.St} (r : RelE K μ H env σ) (e : Ext K μ H μ' H') : RelE K μ' H' env σ := r.monoW e.toMono
theorem RelE.set {env : Env} {σ : L2.St} {d : D} {v : V} (r : RelE K μ H env σ) (i : Nat) (h : Rep K μ H v d) : RelE K μ H (env.set i (some d)) (σ.set i (some v)) := by
  refine ⟨by simp [r.len], fun j d' e => ?_⟩
  by_cases hj : i = j
  · subst hj
    by_cases hi : i < env.length
    · rw [List.getElem?_set_self hi] at e
      cases e
      exact ⟨v, by rw [List.getElem?_set_self (by rw [← r.len]; exact hi)], h⟩
    · rw [List.getElem?_eq_none (by simpa using hi)] at e
      cases e
  · rw [List.getElem?_set_ne hj] at e
    obtain ⟨w, h1, h2⟩ := r.at_ j d' e
    exact ⟨w, by rw [List.getElem?_set_ne hj]; exact h1, h2⟩
theorem RelE.wipe {env : Env} {σ : L2.St} (r : RelE K μ H env σ) : ∀ vs : List Nat, RelE K μ H (wipeE env vs) (L2.wipe σ vs)
  | [] => r
  | v :: vs => by
    have ih := RelE.wipe r vs
    show RelE K μ H ((wipeE env vs).set v none) ((L2.wipe σ vs).set v none)
    refine ⟨by simp [ih.len], fun j d' e => ?_⟩
    by_cases hj : v = j
    · subst hj
      by_cases hi : v < (wipeE env vs).length
      · rw [List.getElem?_set_self hi] at e; cases e
      · rw [List.getElem?_eq_none (by simpa using hi)] at e; cases e
    · rw [List.getElem?_set_ne hj] at e
      obtain ⟨w, h1, h2⟩ := ih.at_ j d' e
      exact ⟨w, by rw [List.getElem?_set_ne hj]; exact h1, h2⟩

theorem Rd.new {p a : Addr} {o u : HO} (hp : H p = none) (h : Rd H a u) : Rd (upd H p o) a u := by
  have hne : a ≠ p := by
    rintro rfl
    rcases h with h | ⟨_, h⟩ <;> (rw [hp] at h; cases h)
  rcases h with h | ⟨ob, h⟩
  · exact .inl (by rw [upd_ne hne]; exact h)
  · exact .inr ⟨ob, by rw [upd_ne hne]; exact h⟩
theorem Keeps.new {p : Addr} {o : HO} (hp : H p = none) : Keeps μ μ H (upd H p o) :=
  ⟨fun b xs h => Rd.new hp h, fun b xs hb h => ⟨hb, by rw [upd_ne (ne_of_none h hp)]; exact h⟩, fun b o u h => by rw [upd_ne (ne_of_none h hp)]; exact h, fun n a h => h⟩
theorem MOk.keep {a : Addr} (k : Keeps μ μ' H H') (ha : ∀ xs, H a = some (.lst xs) → H' a = some (.lst xs)) : ∀ {o : MO}, MOk K μ H a o → MOk K μ' H' a o
  | .lst ds, ⟨xs, h1, h2⟩ => ⟨xs, ha _ h1, RepL.keep k _ _ h2⟩
/-- a new thing that is no place -/
theorem RelS.new {S : Store} {p : Addr} {o : HO} (r : RelS K μ S H) (hp : H p = none) : RelS K μ S (upd H p o) ∧ Ext K μ H μ (upd H p o) := by
  have hr : ∀ a ∈ μ.rv, upd H p o a = H a := fun a ha => by
    obtain ⟨_, u, e⟩ := r.rv a ha
    rw [upd_ne (ne_of_none e hp)]
  refine ⟨⟨r.len, r.nd, fun n m e => ?_, fun a ha => ?_⟩, ⟨⟨⟨[], by simp⟩, fun v d h => Rep.keep (Keeps.new hp) d v h⟩, rfl, hr⟩⟩
  · obtain ⟨a, h1, h2⟩ := r.at_ n m e
    exact ⟨a, h1, h2.keep (Keeps.new hp) fun xs q => by rw [upd_ne (ne_of_none q hp)]; exact q⟩
  · obtain ⟨h1, u, e⟩ := r.rv a ha
    exact ⟨h1, u, by rw [hr a ha]; exact e⟩
theorem RelS.lst_at {S : Store} (r : RelS K μ S H) {n : Nat} {ds : List D} (e : atL S n = some ds) : ∃ a xs, μ.pl[n]? = some a ∧ H a = some (.lst xs) ∧ RepL K μ H xs ds := by
  unfold atL at e
  split at e
  · rename_i xs h
    cases e
    obtain ⟨a, h1, xs', h2, h3⟩ := r.at_ n _ h
    exact ⟨a, xs', h1, h2, h3⟩
  · cases e
theorem mem_of_get {a : Addr} {n : Nat} (h : μ.pl[n]? = some a) : a ∈ μ.pl := List.mem_of_getElem? h
theorem nodup_at {a : Addr} {n m : Nat} (nd : μ.pl.Nodup) (h1 : μ.pl[n]? = some a) (h2 : μ.pl[m]? = some a) : n = m := by
  obtain ⟨l1, e1⟩ := List.getElem?_eq_some_iff.mp h1
  obtain ⟨l2, e2⟩ := List.getElem?_eq_some_iff.mp h2
  exact (List.getElem_inj nd).mp (e1.trans e2.symm)
theorem RelS.lst_of_mem {S : Store} (r : RelS K μ S H) {a : Addr} (h : a ∈ μ.pl) : ∃ xs, H a = some (.lst xs) := by
  obtain ⟨n, hn, e⟩ := List.getElem_of_mem h
  have hs : n < S.length := by rw [← r.len]; exact hn
  obtain ⟨b, h1, h2⟩ := r.at_ n S[n] (by simp [hs])
  rw [List.getElem?_eq_getElem hn] at h1
  cases h1
  rw [← e]
  cases q : S[n] with
  | lst ds => rw [q] at h2; obtain ⟨xs, h3, _⟩ := h2; exact ⟨xs, h3⟩
  | dct _ => rw [q] at h2; exact h2.elim
  | ins _ _ => rw [q] at h2; exact h2.elim
theorem RelS.free {S : Store} {p : Addr} (r : RelS K μ S H) (hp : H p = none) : Free μ p := by
  refine ⟨fun hm => ?_, fun hm => ?_⟩
  · obtain ⟨xs, e⟩ := r.lst_of_mem hm
    rw [hp] at e; cases e
  · obtain ⟨_, o, e⟩ := r.rv p hm
    rw [hp] at e; cases e
/-- a new place -/
theorem RelS.place {S : Store} {p : Addr} {xs : List V} {ds : List D} (r : RelS K μ S H) (hp : H p = none) (h : RepL K μ H xs ds) :
    RelS K ⟨μ.pl ++ [p], μ.rv⟩ (S ++ [.lst ds]) (upd H p (.lst xs)) ∧ Ext K μ H ⟨μ.pl ++ [p], μ.rv⟩ (upd H p (.lst xs)) ∧ Rep K ⟨μ.pl ++ [p], μ.rv⟩ (upd H p (.lst xs)) (.ref p) (rf S.length) := by
  have hpm := (r.free hp).1
  have k : Keeps μ ⟨μ.pl ++ [p], μ.rv⟩ H (upd H p (.lst xs)) := by
    refine ⟨fun b xs h => Rd.new hp h, fun b xs hb h => ⟨⟨?_, hb.2⟩, by rw [upd_ne (ne_of_none h hp)]; exact h⟩, fun b o u h => by rw [upd_ne (ne_of_none h hp)]; exact h, fun n a h => ?_⟩
    · have : b ≠ p := ne_of_none h hp
      simp [hb.1, this]
    · obtain ⟨l, _⟩ := List.getElem?_eq_some_iff.mp h
      show (μ.pl ++ [p])[n]? = some a
      rw [List.getElem?_append_left l]; exact h
  have hr : ∀ a ∈ μ.rv, upd H p (.lst xs) a = H a := fun a ha => by
    obtain ⟨_, u, e⟩ := r.rv a ha
    rw [upd_ne (ne_of_none e hp)]
  refine ⟨⟨by simp [r.len], ?_, fun n m e => ?_, fun a ha => ?_⟩, ⟨⟨⟨[p], rfl⟩, fun v d h => Rep.keep k d v h⟩, rfl, hr⟩, .rf (by rw [← r.len]; simp)⟩
  · show (μ.pl ++ [p]).Nodup
    rw [List.nodup_append]
    refine ⟨r.nd, by simp, fun a ha b hb => ?_⟩
    simp at hb
    subst hb
    rintro rfl
    exact hpm ha
  · by_cases hn : n < S.length
    · rw [List.getElem?_append_left hn] at e
      obtain ⟨a, h1, h2⟩ := r.at_ n m e
      exact ⟨a, k.at_ _ _ h1, h2.keep k fun xs q => by rw [upd_ne (ne_of_none q hp)]; exact q⟩
    · rw [List.getElem?_append_right (by omega)] at e
      have : n - S.length = 0 := by
        cases hk : n - S.length with
        | zero => rfl
        | succ j => rw [hk] at e; simp at e
      rw [this] at e
      simp at e
      subst e
      have hn' : n = μ.pl.length := by rw [r.len]; omega
      refine ⟨p, by rw [hn']; simp, xs, upd_same, RepL.keep k _ _ h⟩
  · obtain ⟨h1, u, e⟩ := r.rv a ha
    refine ⟨?_, u, by rw [hr a ha]; exact e⟩
    have : a ≠ p := ne_of_none e hp
    simp [h1, this]
/-- a place is changed -/
theorem RelS.set {S : Store} {n : Nat} {a : Addr} {xs : List V} {ds : List D} (r : RelS K μ S H) (ha : μ.pl[n]? = some a) (h : RepL K μ H xs ds) :
    RelS K μ (setL S n ds) (upd H a (.lst xs)) ∧ Ext K μ H μ (upd H a (.lst xs)) := by
  obtain ⟨ys, hy⟩ := r.lst_of_mem (mem_of_get ha)
  have k : Keeps μ μ H (upd H a (.lst xs)) := by
    refine ⟨fun b zs h => ?_, fun b zs hb h => ⟨hb, ?_⟩, fun b o u h => by rw [upd_ne (ne_of h hy (by intro z; cases z))]; exact h, fun _ _ h => h⟩
    · rcases h with h | ⟨ob, h⟩
      · exact .inl (by rw [upd_ne (ne_of h hy (by intro z; cases z))]; exact h)
      · exact .inr ⟨ob, by rw [upd_ne (ne_of h hy (by intro z; cases z))]; exact h⟩
    · have hne : b ≠ a := by rintro rfl; exact hb.1 (mem_of_get ha)
      rw [upd_ne hne]; exact h
  have hr : ∀ b ∈ μ.rv, upd H a (.lst xs) b = H b := fun b hb => by
    obtain ⟨h1, _⟩ := r.rv b hb
    rw [upd_ne (by rintro rfl; exact h1 (mem_of_get ha))]
  refine ⟨⟨by simp [setL, r.len], r.nd, fun m o e => ?_, fun b hb => ?_⟩, ⟨⟨⟨[], by simp⟩, fun v d h => Rep.keep k d v h⟩, rfl, hr⟩⟩
  · unfold setL at e
    by_cases hm : n = m
    · subst hm
      by_cases hi : n < S.length
      · rw [List.getElem?_set_self hi] at e
        cases e
        exact ⟨a, ha, xs, upd_same, RepL.keep k _ _ h⟩
      · rw [List.getElem?_eq_none (by simpa using hi)] at e; cases e
    · rw [List.getElem?_set_ne hm] at e
      obtain ⟨b, h1, h2⟩ := r.at_ m o e
      refine ⟨b, h1, h2.keep k fun zs q => ?_⟩
      have : b ≠ a := by rintro rfl; exact hm (nodup_at r.nd ha h1)
      rw [upd_ne this]; exact q
  · obtain ⟨h1, u, e⟩ := r.rv b hb
    exact ⟨h1, u, by rw [hr b hb]; exact e⟩
/-! ### a list that is being made: nobody can name it -/
theorem RelS.reserve {S : Store} {p : Addr} {xs : List V} (r : RelS K μ S H) (hp : H p = none) :
    RelS K ⟨μ.pl, p :: μ.rv⟩ S (upd H p (.lst xs)) ∧ Mono K μ H ⟨μ.pl, p :: μ.rv⟩ (upd H p (.lst xs)) := by
  have k : Keeps μ ⟨μ.pl, p :: μ.rv⟩ H (upd H p (.lst xs)) := by
    refine ⟨fun b xs h => Rd.new hp h, fun b xs hb h => ⟨⟨hb.1, ?_⟩, by rw [upd_ne (ne_of_none h hp)]; exact h⟩, fun b o u h => by rw [upd_ne (ne_of_none h hp)]; exact h, fun n a h => h⟩
    have : b ≠ p := ne_of_none h hp
    simp [hb.2, this]
  refine ⟨⟨r.len, r.nd, fun n m e => ?_, fun a ha => ?_⟩, ⟨⟨[], by simp⟩, fun v d h => Rep.keep k d v h⟩⟩
  · obtain ⟨a, h1, h2⟩ := r.at_ n m e
    exact ⟨a, h1, h2.keep k fun xs q => by rw [upd_ne (ne_of_none q hp)]; exact q⟩
  · rcases List.mem_cons.mp ha with rfl | ha
    · exact ⟨(r.free hp).1, _, upd_same⟩
    · obtain ⟨h1, u, e⟩ := r.rv a ha
      exact ⟨h1, u, by rw [upd_ne (ne_of_none e hp)]; exact e⟩
/-- the reserved list grows -/
theorem RelS.grow {S : Store} {p : Addr} {ws xs : List V} (r : RelS K μ S H) (hp : p ∈ μ.rv) (hw : H p = some (.lst ws)) :
    RelS K μ S (upd H p (.lst xs)) ∧ Mono K μ H μ (upd H p (.lst xs)) := by
  have k : Keeps μ μ H (upd H p (.lst xs)) := by
    refine ⟨fun b zs h => ?_, fun b zs hb h => ⟨hb, ?_⟩, fun b o u h => by rw [upd_ne (ne_of h hw (by intro z; cases z))]; exact h, fun _ _ h => h⟩
    · rcases h with h | ⟨ob, h⟩
      · exact .inl (by rw [upd_ne (ne_of h hw (by intro z; cases z))]; exact h)
      · exact .inr ⟨ob, by rw [upd_ne (ne_of h hw (by intro z; cases z))]; exact h⟩
    · have hne : b ≠ p := by rintro rfl; exact hb.2 hp
      rw [upd_ne hne]; exact h
  refine ⟨⟨r.len, r.nd, fun n m e => ?_, fun a ha => ?_⟩, ⟨⟨[], by simp⟩, fun v d h => Rep.keep k d v h⟩⟩
  · obtain ⟨a, h1, h2⟩ := r.at_ n m e
    refine ⟨a, h1, h2.keep k fun zs q => ?_⟩
    have : a ≠ p := by rintro rfl; exact (r.rv _ hp).1 (mem_of_get h1)
    rw [upd_ne this]; exact q
  · obtain ⟨h1, u, e⟩ := r.rv a ha
    by_cases hap : a = p
    · subst hap; exact ⟨h1, _, upd_same⟩
    · exact ⟨h1, u, by rw [upd_ne hap]; exact e⟩
theorem Keeps.drop {ρ : List Addr} (h : ∀ a ∈ ρ, a ∈ μ.rv) : Keeps μ ⟨μ.pl, ρ⟩ H H :=
  ⟨fun _ _ h => h, fun b xs hb e => ⟨⟨hb.1, fun hm => hb.2 (h b hm)⟩, e⟩, fun _ _ _ h => h, fun _ _ h => h⟩
/-- some are let go -/
theorem RelS.unreserve {S : Store} {ρ : List Addr} (r : RelS K μ S H) (h : ∀ a ∈ ρ, a ∈ μ.rv) : RelS K ⟨μ.pl, ρ⟩ S H ∧ Mono K μ H ⟨μ.pl, ρ⟩ H := by
  refine ⟨⟨r.len, r.nd, fun n m e => ?_, fun a ha => r.rv a (h a ha)⟩, ⟨⟨[], by simp⟩, fun v d q => Rep.keep (Keeps.drop h) d v q⟩⟩
  obtain ⟨a, h1, h2⟩ := r.at_ n m e
  exact ⟨a, h1, h2.keep (Keeps.drop h) fun xs q => q⟩
end
end DL

set_option linter.all false
/-! DL.Val: the operations by values. -/
namespace DL
open PySem L2
section
variable {K : PySem.W.Frag} {μ : Mu} {S : Store} {H : Hp}
theorem lst_of {x : V} {d : D} {ds : List D} (rs : RelS K μ S H) (r : Rep K μ H x d) (e : lstOf S d = some ds) : ∃ a xs, x = .ref a ∧ SqL K H a xs ∧ RepL K μ H xs ds := by
  cases r with
  | lst h1 h2 h3 => simp [lstOf] at e; subst e; exact ⟨_, _, rfl, .inl (.inl h2), h3⟩
  | ro h1 => simp [lstOf] at e; subst e; exact ⟨_, _, rfl, h1.sql, .ints⟩
  | rf h1 =>
    simp [lstOf] at e
    obtain ⟨a, xs, e1, e2, e3⟩ := rs.lst_at e
    rw [h1] at e1
    cases e1
    exact ⟨_, xs, rfl, .inl (.inl e2), e3⟩
  | _ => simp [lstOf] at e
theorem lstM_of {x : V} {d : D} {ds : List D} (rs : RelS K μ S H) (r : Rep K μ H x d) (e : lstOfM S d = some ds) : ∃ a xs, x = .ref a ∧ Rd H a (.lst xs) ∧ RepL K μ H xs ds := by
  cases r with
  | lst h1 h2 h3 => simp [lstOfM] at e; subst e; exact ⟨_, _, rfl, .inl h2, h3⟩
  | rf h1 =>
    simp [lstOfM] at e
    obtain ⟨a, xs, e1, e2, e3⟩ := rs.lst_at e
    rw [h1] at e1
    cases e1
    exact ⟨_, xs, rfl, .inl e2, e3⟩
  | _ => simp [lstOfM] at e
theorem seq_of {x : V} {d : D} {ds : List D} (rs : RelS K μ S H) (r : Rep K μ H x d) (e : seqOf S d = some ds) : ∃ a xs, x = .ref a ∧ (SqL K H a xs ∨ SqT K H a xs) ∧ RepL K μ H xs ds := by
  cases r with
  | tup h1 h2 => simp [seqOf] at e; subst e; exact ⟨_, _, rfl, .inr h1, h2⟩
  | lst h1 h2 h3 => simp [seqOf] at e; subst e; exact ⟨_, _, rfl, .inl (.inl (.inl h2)), h3⟩
  | ro h1 => simp [seqOf] at e; subst e; exact ⟨_, _, rfl, .inl h1.sql, .ints⟩
  | rf h1 =>
    simp [seqOf] at e
    obtain ⟨a, xs, e1, e2, e3⟩ := rs.lst_at e
    rw [h1] at e1
    cases e1
    exact ⟨_, xs, rfl, .inl (.inl (.inl e2)), e3⟩
  | _ => simp [seqOf] at e
mutual
theorem dp_of : ∀ (d : D) (x : V), Rep K μ H x d → d.plain = true → Dp K H x d
  | .none, _, h, _ => by cases h; exact .non
  | .bool _, _, h, _ => by cases h; exact .bl _
  | .int _, _, h, _ => by cases h; exact .int _
  | .str _, _, h, _ => by cases h; exact .str _
  | .list ds, _, h, p => by
    cases h with
    | lst h1 h2 h3 => exact .lst (.inl (.inl h2)) (dpL_of ds _ h3 (by simpa [PyData.plain] using p))
  | .tuple ds, _, h, p => by
    cases h with
    | tup h1 h2 => exact .tup h1 (dpL_of ds _ h2 (by simpa [PyData.plain] using p))
  | .dict _, _, h, p => by simp [PyData.plain] at p
theorem dpL_of : ∀ (ds : List D) (xs : List V), RepL K μ H xs ds → PyData.plainAll ds = true → DpAll K H xs ds
  | [], _, h, _ => by cases h; exact .nil
  | d :: ds, _, h, p => by
    cases h with
    | cons h1 h2 =>
      have p' : d.plain = true ∧ PyData.plainAll ds = true := by simpa [PyData.plainAll] using p
      exact .cons (dp_of d _ h1 p'.1) (dpL_of ds _ h2 p'.2)
end
theorem res_dp {x : V} {d : D} (rs : RelS K μ S H) (r : Rep K μ H x d) (p : (res S d).plain = true) : Dp K H x (res S d) := by
  cases r with
  | rf h1 =>
    rename_i a n
    simp [res] at p ⊢
    cases e : atL S n with
    | none => rw [e] at p; simp [PyData.plain] at p
    | some ds =>
      rw [e] at p
      obtain ⟨b, xs, e1, e2, e3⟩ := rs.lst_at e
      rw [h1] at e1
      cases e1
      exact .lst (.inl (.inl e2)) (dpL_of ds _ e3 (by simpa [PyData.plain] using p))
  | ro h1 => simp [res, PyData.plain] at p
  | non => exact .non
  | bl => exact .bl _
  | int => exact .int _
  | str => exact .str _
  | lst h1 h2 h3 => exact dp_of _ _ (.lst h1 h2 h3) p
  | tup h1 h2 => exact dp_of _ _ (.tup h1 h2) p
theorem mk_ok {m : Bool} {xs : List V} {ds : List D} {d : D} {S' : Store} {Q : VK} (rs : RelS K μ S H) (h : RepL K μ H xs ds) (e : mkL m ds S = .ok d S')
    (q : ∀ z μ' H', RelS K μ' S' H' → Ext K μ H μ' H' → Rep K μ' H' z d → Q z H') : xs.length ≤ sizeLine ∧ ∀ p, H p = none → Q (.ref p) (upd H p (.lst xs)) := by
  unfold mkL at e
  by_cases hz : ds.length ≤ sizeLine
  · rw [if_pos hz] at e
    refine ⟨by rw [h.length]; exact hz, fun p hp => ?_⟩
    cases m with
    | true =>
      simp at e
      obtain ⟨e1, e2⟩ := e
      subst e1 e2
      obtain ⟨h1, h2, h3⟩ := rs.place hp h
      exact q _ _ _ h1 h2 h3
    | false =>
      simp at e
      obtain ⟨e1, e2⟩ := e
      subst e1 e2
      obtain ⟨h1, h2⟩ := rs.new (o := .lst xs) hp
      exact q _ _ _ h1 h2 (.lst (rs.free hp) upd_same (h2.monoL h))
  · rw [if_neg hz] at e; cases e
theorem mkT_ok {xs : List V} {ds : List D} {d : D} {S' : Store} {Q : VK} (rs : RelS K μ S H) (h : RepL K μ H xs ds) (e : mkT ds S = .ok d S')
    (q : ∀ z μ' H', RelS K μ' S' H' → Ext K μ H μ' H' → Rep K μ' H' z d → Q z H') : xs.length ≤ sizeLine ∧ ∀ p, H p = none → Q (.ref p) (upd H p (.tup xs)) := by
  unfold mkT at e
  by_cases hz : ds.length ≤ sizeLine
  · rw [if_pos hz] at e
    cases e
    refine ⟨by rw [h.length]; exact hz, fun p hp => ?_⟩
    obtain ⟨h1, h2⟩ := rs.new (o := .tup xs) hp
    exact q _ _ _ h1 h2 (.tup (.inl (.inl upd_same)) (h2.monoL h))
  · rw [if_neg hz] at e; cases e
end
section
variable {X : Cx} {pins : List (Addr × Obj)} {σ : L2.St} {H : Hp} {s : Shared}
theorem Inv_lstR {l : Addr} {xs : List V} (I : Inv X pins σ H s) (r : Rd H l (.lst xs)) : xs.length ≤ sizeLine ∧ ∃ (its : List Value) (n : Nat), Vals xs its ∧ xs.length = its.length ∧ s.heap.get? l = some { cls := .type "list", data := .seq its.toArray n } := by
  obtain ⟨z, its, n, r, e⟩ := r.ok I.hok
  exact ⟨z, its, n, r, r.length, e⟩
/-- a two-place operation, by data -/
def rOp (K : PySem.W.Frag) (f : D → D → Store → Res D) : R2 := fun x y H Q => ∃ μ S a b d S', RelS K μ S H ∧ Rep K μ H x a ∧ Rep K μ H y b ∧ f a b S = .ok d S' ∧
  ∀ z μ' H', RelS K μ' S' H' → Ext K μ H μ' H' → Rep K μ' H' z d → Q z H'
theorem small64_iff {i : Int} : small64 i = true ↔ -(2 ^ 64) < i ∧ i < 2 ^ 64 := by simp [small64]
theorem op_bin (o : Operator) (m : Bool) : OpR X (binaryOp o) (rOp X.K (binV o m)) := by
  intro pins s σ H x y v u Q I rx ry h
  obtain ⟨μ, S, a, b, d, S', rs, ra, rb, e, q⟩ := h
  unfold binV at e
  split at e
  · cases ra; cases rb; cases e
    exact op_add pins s σ H _ _ v u Q I rx ry ⟨_, _, rfl, rfl, q _ _ _ rs .refl (.int _)⟩
  · cases ra; cases rb; cases e
    exact op_sub pins s σ H _ _ v u Q I rx ry ⟨_, _, rfl, rfl, q _ _ _ rs .refl (.int _)⟩
  · cases ra; cases rb
    split at e
    · rename_i hc
      cases e
      refine op_mul pins s σ H _ _ v u Q I rx ry ⟨_, _, rfl, rfl, ?_, q _ _ _ rs .refl (.int _)⟩
      rw [Bool.or_eq_true, small64_iff, small64_iff] at hc
      exact hc
    · cases e
  · cases ra; cases rb
    split at e
    · rename_i hc
      cases e
      exact op_fdiv pins s σ H _ _ v u Q I rx ry ⟨_, _, rfl, rfl, hc, q _ _ _ rs .refl (.int _)⟩
    · cases e
  · cases ra; cases rb
    split at e
    · rename_i hc
      cases e
      exact op_mod pins s σ H _ _ v u Q I rx ry ⟨_, _, rfl, rfl, hc, q _ _ _ rs .refl (.int _)⟩
    · cases e
  · cases ra; cases rb
    split at e
    · rename_i hc
      cases e
      exact op_pow pins s σ H _ _ v u Q I rx ry ⟨_, _, rfl, rfl, hc, q _ _ _ rs .refl (.int _)⟩
    · cases e
  · cases ra with
    | tup t1 l1 =>
    cases rb with
    | tup t2 l2 =>
    rename_i xs ys a1 vs1 a2 vs2
    have hz : xs.length + ys.length ≤ sizeLine ∧ d = .tuple (xs ++ ys) ∧ S' = S := by
      unfold mkT at e
      split at e
      · rename_i hc; cases e; exact ⟨by simpa using hc, rfl, rfl⟩
      · cases e
    obtain ⟨hz, e1, e2⟩ := hz
    subst e1 e2
    refine op_catA pins s σ H _ _ v u Q I rx ry ⟨a1, a2, vs1, vs2, rfl, rfl, t1, t2, by rw [l1.length, l2.length]; exact hz, fun h0 => ?_, fun _ h0 => ?_, fun _ _ p hp => ?_⟩
    · refine q _ _ _ rs .refl (.tup t2 ?_)
      subst h0
      cases l1
      exact l2
    · refine q _ _ _ rs .refl (.tup t1 ?_)
      subst h0
      cases l2
      simpa using l1
    · obtain ⟨h1, h2⟩ := rs.new (o := .tup (vs1 ++ vs2)) hp
      exact q _ _ _ h1 h2 (.tup (.inl (.inl upd_same)) (h2.monoL (l1.append l2)))
  · split at e
    · rename_i xs ys e1 e2
      obtain ⟨l, vs, rfl, h1, l1⟩ := lstM_of rs ra e1
      obtain ⟨b', ws, rfl, h2, l2⟩ := lstM_of rs rb e2
      obtain ⟨hz, q'⟩ := mk_ok rs (l1.append l2) e q
      cases rx
      cases ry
      obtain ⟨z, its, n, r, hl, e⟩ := Inv_lstR I h1
      obtain ⟨z2, its2, n2, r2, hl2, e2⟩ := Inv_lstR I h2
      have hz' : vs.length + ws.length ≤ sizeLine := by simpa using hz
      refine PySem.P.add_list e e2 ?_ (by rw [List.size_toArray, List.size_toArray]; omega)
      have ea : its.toArray ++ its2.toArray = (its ++ its2).toArray := by simp
      rw [ea]
      exact ⟨.ref _, _, I.lnew (t' := s.toks) (r.append r2) (by rw [List.length_append]; omega), rfl, q' _ I.fresh⟩
    · cases e
  · cases e

def rOp0 (K : PySem.W.Frag) (f : D → D → Store → Res D) : R2 := rOp K f
theorem ltOk_ok {a b : D} (h : ltOk a b = true) : (a.plain = true ∧ b.plain = true) ∧ PySem.W.alike a b = true ∧ a ≠ .none ∧ min a.depth b.depth ≤ 60 := by
  simp only [ltOk, Bool.and_eq_true, decide_eq_true_eq] at h
  obtain ⟨hp, ⟨h1, h2⟩, h3⟩ := h
  exact ⟨hp, h1, by rintro rfl; simp [isNone] at h2, h3⟩
theorem eqOk_ok {a b : D} (h : eqOk a b = true) : a.plain = true ∧ b.plain = true ∧ min a.depth b.depth ≤ 60 := by
  simp only [eqOk, Bool.and_eq_true, decide_eq_true_eq] at h
  exact ⟨h.1.1, h.1.2, h.2⟩
theorem inOk_ok {xs : List D} {a : D} (h : inOk xs a = true) : PyData.plainAll xs = true ∧ a.plain = true ∧ min (PyData.depthAll xs) a.depth ≤ 60 := by
  simp only [inOk, Bool.and_eq_true, decide_eq_true_eq] at h
  exact ⟨h.1.1, h.1.2, h.2⟩
/-- data that read: what a comparison asks -/
theorem reads_of {μ : Mu} {S : Store} {x : V} {v : Value} {d : D} (I : Inv X pins σ H s) (rs : RelS X.K μ S H) (r : Rep X.K μ H x d) (rx : RelV x v) (p : (res S d).plain = true) : ∃ as, Reads s.heap v (res S d) as :=
  Dp.reads I _ x v (res_dp rs r p) rx
theorem readsL_of {μ : Mu} {S : Store} {x : V} {v : Value} {d : D} {xs : List D} (I : Inv X pins σ H s) (rs : RelS X.K μ S H) (r : Rep X.K μ H x d) (rx : RelV x v) (e : seqOf S d = some xs) (p : PyData.plainAll xs = true) :
    (∃ as, Reads s.heap v (.list xs) as) ∨ ∃ as, Reads s.heap v (.tuple xs) as := by
  obtain ⟨a, vs, rfl, h1, h2⟩ := seq_of rs r e
  rcases h1 with h1 | h1
  · exact .inl (Dp.reads I _ _ _ (.lst h1 (dpL_of _ _ h2 p)) rx)
  · exact .inr (Dp.reads I _ _ _ (.tup h1 (dpL_of _ _ h2 p)) rx)
/-- is a constant -/
theorem is_const {x y : V} {v u : Value} {a b : D} {M : Model} {A : Around} {K : PySem.W.Frag} {μ : Mu} {H : Hp} (rx : RelV x v) (ra : Rep K μ H x a) (ry : RelV y u) (rb : Rep K μ H y b) (hb : isConst b = true) :
    PySem.plainIs v u = true ∧ (beqD a b = true → v = u) ∧ (beqD a b = false → v ≠ u) := by
  cases b with
  | none =>
    cases rb
    cases ry
    cases ra <;> first
      | (cases rx; simp [PySem.plainIs, beqD]; done)
      | (obtain ⟨t, rfl⟩ := rx; simp [PySem.plainIs, beqD]; done)
  | bool k =>
    cases rb
    cases ry
    cases ra <;> first
      | (cases rx; simp [PySem.plainIs, beqD]; done)
      | (obtain ⟨t, rfl⟩ := rx; simp [PySem.plainIs, beqD]; done)
  | _ => simp [isConst] at hb
theorem op_cmp (o : CmpOp) (hu : X.A.units + 200 < cLine) : OpR X (compareOp o) (rOp X.K (cmpV o)) := by
  intro pins s σ H x y v u Q I rx ry h
  obtain ⟨μ, S, a, b, d, S', rs, ra, rb, e, q⟩ := h
  have fin : ∀ k, d = .bool k → S' = S → EP X pins σ Q (.bool k) s := fun k e1 e2 => by
    subst e1 e2
    exact ⟨.bl k, H, I, rfl, q _ _ _ rs .refl (.bl k)⟩
  cases o with
  | Eq =>
    simp only [cmpV] at e
    split at e
    · rename_i hc
      obtain ⟨p1, p2, p3⟩ := eqOk_ok hc
      obtain ⟨as, r1⟩ := reads_of I rs ra rx p1
      obtain ⟨bs, r2⟩ := reads_of I rs rb ry p2
      cases e
      exact SeqAt.eq_plain r1 r2 p1 p2 (by omega) (fin _ rfl rfl)
    · cases e
  | NotEq =>
    simp only [cmpV] at e
    split at e
    · rename_i hc
      obtain ⟨p1, p2, p3⟩ := eqOk_ok hc
      obtain ⟨as, r1⟩ := reads_of I rs ra rx p1
      obtain ⟨bs, r2⟩ := reads_of I rs rb ry p2
      cases e
      exact SeqAt.ne_plain r1 r2 p1 p2 (by omega) (fin _ rfl rfl)
    · cases e
  | Lt =>
    simp only [cmpV] at e
    split at e
    · rename_i hc
      obtain ⟨⟨p1, p2⟩, h1, h2, h3⟩ := ltOk_ok hc
      obtain ⟨as, r1⟩ := reads_of I rs ra rx p1
      obtain ⟨bs, r2⟩ := reads_of I rs rb ry p2
      cases e
      exact PySem.W.lt_data r1 r2 h1 h2 (by omega) (fin _ rfl rfl)
    · cases e
  | Gt =>
    simp only [cmpV] at e
    split at e
    · rename_i hc
      obtain ⟨⟨p1, p2⟩, h1, h2, h3⟩ := ltOk_ok hc
      obtain ⟨as, r1⟩ := reads_of I rs ra rx p1
      obtain ⟨bs, r2⟩ := reads_of I rs rb ry p2
      cases e
      exact PySem.W.gt_data r1 r2 h1 h2 (by omega) (fin _ rfl rfl)
    · cases e
  | LtE =>
    simp only [cmpV] at e
    split at e
    · rename_i hc
      obtain ⟨⟨p1, p2⟩, h1, h2, h3⟩ := ltOk_ok hc
      obtain ⟨as, r1⟩ := reads_of I rs ra rx p1
      obtain ⟨bs, r2⟩ := reads_of I rs rb ry p2
      cases e
      exact PySem.W.le_data r1 r2 h1 h2 (by omega) (fin _ rfl rfl)
    · cases e
  | GtE =>
    simp only [cmpV] at e
    split at e
    · rename_i hc
      obtain ⟨⟨p1, p2⟩, h1, h2, h3⟩ := ltOk_ok hc
      obtain ⟨as, r1⟩ := reads_of I rs ra rx p1
      obtain ⟨bs, r2⟩ := reads_of I rs rb ry p2
      cases e
      exact PySem.W.ge_data r1 r2 h1 h2 (by omega) (fin _ rfl rfl)
    · cases e
  | Is =>
    simp only [cmpV] at e
    split at e
    · rename_i hc
      cases e
      obtain ⟨h1, h2, h3⟩ := is_const (M := model X.prog X.w) (A := X.A) rx ra ry rb hc
      cases hk : beqD a b with
      | true =>
        cases h2 hk
        exact wpAny_is_self h1 (fin _ (by rw [hk]) rfl)
      | false => exact wpAny_is_other h1 (h3 hk) (fin _ (by rw [hk]) rfl)
    · cases e
  | IsNot =>
    simp only [cmpV] at e
    split at e
    · rename_i hc
      cases e
      obtain ⟨h1, h2, h3⟩ := is_const (M := model X.prog X.w) (A := X.A) rx ra ry rb hc
      cases hk : beqD a b with
      | true =>
        cases h2 hk
        exact wpAny_isNot_self h1 (fin _ (by rw [hk]; rfl) rfl)
      | false => exact wpAny_isNot_other h1 (h3 hk) (fin _ (by rw [hk]; rfl) rfl)
    · cases e
  | In =>
    simp only [cmpV] at e
    split at e
    · rename_i xs hs
      split at e
      · rename_i hc
        obtain ⟨p1, p2, p3⟩ := inOk_ok hc
        obtain ⟨as, r1⟩ := reads_of I rs ra rx p2
        cases e
        rcases readsL_of I rs rb ry hs p1 with ⟨bs, r2⟩ | ⟨bs, r2⟩
        · exact SeqAt.in_list_data r2 r1 p1 p2 (by omega) (fin _ rfl rfl)
        · exact SeqAt.in_tuple_data r2 r1 p1 p2 (by omega) (fin _ rfl rfl)
      · cases e
    · cases e
  | NotIn =>
    simp only [cmpV] at e
    split at e
    · rename_i xs hs
      split at e
      · rename_i hc
        obtain ⟨p1, p2, p3⟩ := inOk_ok hc
        obtain ⟨as, r1⟩ := reads_of I rs ra rx p2
        cases e
        rcases readsL_of I rs rb ry hs p1 with ⟨bs, r2⟩ | ⟨bs, r2⟩
        · exact SeqAt.notIn_list_data r2 r1 p1 p2 (by omega) (fin _ rfl rfl)
        · exact SeqAt.notIn_tuple_data r2 r1 p1 p2 (by omega) (fin _ rfl rfl)
      · cases e
    · cases e
end
end DL

set_option linter.all false
/-! DL.Val2: subscripts, slices, calls of built-ins, methods. -/
namespace PySem.W
open PySem PySem.Calls PyProof.Rows
section
variable {prog : Program} {w : World} {A : Around} {E : Value → Shared → Prop} {s : Shared}
/-- sorted(x) of whatever collects as vs, data that are alike -/
theorem sorted_coll {x : Value} {vs : List Value} {ds : List PyData} {R : Value → PyData → Prop} {Q : Value → Shared → Prop}
    (hcol : ∀ (Q' : List Value → Shared → Prop) (E' : Value → Shared → Prop), (∀ h', (∀ b o, s.heap.get? b = some o → h'.get? b = some o) → Q' vs { s with heap := h' }) → wpAny (model prog w) A.in1 (collect x) Q' E' s)
    (hL : vs.length ≤ sizeLine) (e : EachIs R vs ds) (er : EachIs (fun v b => ∃ as, Reads s.heap v b as) vs ds) (hal : AllAlike ds) (hk : Sortable ds) (hu : ∀ b, b ∈ ds → A.units + 2 + b.depth < cLine)
    (h : ∀ (h1 h' : Heap) (d : Addr) (out : List Value), EachIs R out (ds.mergeSort (dataLe false id)) → (∀ b o, s.heap.get? b = some o → h1.get? b = some o) → (∀ b o, h1.get? b = some o → h'.get? b = some o) → h1.objs.size ≤ d →
      (∃ n, h'.get? d = some (seqObj "list" out.toArray n)) → Q (.ref d) { s with heap := h' }) :
    wpAny (model prog w) A (call (.builtin "sorted") [x]) Q E s := by
  refine call_function_entry_kw (kw := []) kind_sorted plain_sorted entry_sorted (args_sorted1 _) ?_
  unfold Builtin.«sorted»
  refine wpAny_bind (m := checkCount "sorted" 1 1 _) (wpAny_pure ?_)
  refine wpAny_bind (hcol _ _ fun h1 k1 => ?_)
  refine wpAny_bind (wpAny_newList ?_ hL)
  have hat : (h1.push (seqObj "list" vs.toArray 0)).get? h1.objs.size = some (seqObj "list" vs.toArray 0) := Heap.get?_push_size _ rfl
  have hlt : ∀ b o, s.heap.get? b = some o → b ≠ h1.objs.size := fun b o q z => by
    subst z
    exact Nat.lt_irrefl _ (Heap.lt_size (k1 _ o q))
  have er' : EachIs (fun v b => ∃ as, Reads (sortingHeap (h1.push (seqObj "list" vs.toArray 0)) h1.objs.size vs) v b as) vs ds := er.mono fun _ _ ⟨as, r⟩ => ⟨as, PyProof.Rows.Reads.keeps (fun b o q => sortingHeap_old (hlt b o q) (Heap.get?_push_of_some _ (k1 b o q))) r⟩
  have hal' : AllAlike (ds.map id) := by rw [List.map_id]; exact hal
  have hk' : Sortable (ds.map id) := by rw [List.map_id]; exact hk
  refine wpAny_bind (wpAny_holding (wpAny_call_entry_kw slot_list_sort ⟨_, hat, rfl⟩ entry_list_sort (kw := []) ?body (args_list_sort _)))
  case body =>
    refine list_sort_vals (s := { s with heap := h1.push (seqObj "list" vs.toArray 0) }) hat
      (SortsAt.data (s := { s with heap := sortingHeap (h1.push (seqObj "list" vs.toArray 0)) h1.objs.size vs }) er' hal hk (fun d hd => hu d hd)) hL ?_
    obtain ⟨c, hc⟩ := sortedHeap_at (vs := vs) (out := (sortVals (dataKind (sortingHeap (h1.push (seqObj "list" vs.toArray 0)) h1.objs.size vs) ds) false vs vs).toArray) hat
    refine ⟨_, rfl, wpAny_pure ⟨_, rfl, ?_⟩⟩
    have ev := sortVals_data (enc := id) (bs := ds) (h' := sortingHeap (h1.push (seqObj "list" vs.toArray 0)) h1.objs.size vs) false e er' hal'
    rw [List.map_id] at ev
    refine h h1 _ _ _ ev k1 (fun b o q => ?_) (Nat.le_refl _) ⟨c, hc⟩
    have hb : b ≠ h1.objs.size := fun z => by subst z; exact Nat.lt_irrefl _ (Heap.lt_size q)
    rw [sortedHeap_old hb (Heap.lt_size (Heap.get?_push_of_some _ q))]
    exact Heap.get?_push_of_some _ q
end
end PySem.W
namespace DL
open PySem L2
section
variable {X : Cx}
/-- what a call by data asks -/
def rC (K : PySem.W.Frag) (f : List D → Store → Res D) : List V → Hp → VK → Prop := fun xs H Q => ∃ μ S ds d S', RelS K μ S H ∧ RepL K μ H xs ds ∧ f ds S = .ok d S' ∧
  ∀ z μ' H', RelS K μ' S' H' → Ext K μ H μ' H' → Rep K μ' H' z d → Q z H'
theorem RepL.one {K : PySem.W.Frag} {μ : Mu} {H : Hp} {xs : List V} {d : D} (h : RepL K μ H xs [d]) : ∃ x, xs = [x] ∧ Rep K μ H x d := by
  cases h with
  | cons h1 h2 => cases h2; exact ⟨_, rfl, h1⟩
theorem RepL.two {K : PySem.W.Frag} {μ : Mu} {H : Hp} {xs : List V} {d e : D} (h : RepL K μ H xs [d, e]) : ∃ x y, xs = [x, y] ∧ Rep K μ H x d ∧ Rep K μ H y e := by
  cases h with
  | cons h1 h2 =>
    obtain ⟨y, rfl, h3⟩ := h2.one
    exact ⟨_, _, rfl, h1, h3⟩
theorem ix_seqD : IxR X (rOp X.K subV) := by
  intro value slice pins s σ H x y v u Q I rx ry h hs
  obtain ⟨μ, S, a, b, d, S', rs, ra, rb, e, q⟩ := h
  unfold subV at e
  split at e
  · rename_i i xs hq
    split at e
    · rename_i d' hd
      cases e
      cases rb
      obtain ⟨p, vs, rfl, h1, h2⟩ := seq_of rs ra hq
      unfold atI at hd
      cases hj : ixN xs.length i with
      | none => rw [hj] at hd; cases hd
      | some j =>
        rw [hj] at hd
        obtain ⟨w, e1, r1⟩ := h2.get (show xs[j]? = some d from hd)
        have hat : atI vs i = some w := by
          unfold atI
          rw [h2.length, hj]
          exact e1
        refine ix_seq value slice pins s σ H _ _ v u Q I rx ry ?_ hs
        rcases h1 with h1 | h1
        · exact .inl ⟨p, vs, i, w, rfl, rfl, h1, hat, q _ _ _ rs .refl r1⟩
        · exact .inr (.inl ⟨p, vs, i, w, rfl, rfl, h1, hat, q _ _ _ rs .refl r1⟩)
    · cases e
  · cases e
theorem cut_whole {α : Type} (xs : List α) (lo hi : Option Int) (h : HT.sIx xs.length 0 lo = 0 ∧ HT.sIx xs.length xs.length hi = xs.length) : (xs.drop (HT.sIx xs.length 0 lo)).take (HT.sIx xs.length xs.length hi - HT.sIx xs.length 0 lo) = xs := by
  rw [h.1, h.2]
  simp
theorem RepL.cut {K : PySem.W.Frag} {μ : Mu} {H : Hp} {xs : List V} {ds : List D} (h : RepL K μ H xs ds) (lo hi : Option Int) : RepL K μ H (cutV xs lo hi) (cutD ds lo hi) := by
  unfold cutV cutD
  rw [h.length]
  exact (h.drop _).take _
/-- a slice by data -/
def rSlD (K : PySem.W.Frag) (m : Bool) : V → Option Int → Option Int → Hp → VK → Prop := fun x lo hi H Q => ∃ μ S a d S', RelS K μ S H ∧ Rep K μ H x a ∧ slcV m a lo hi S = .ok d S' ∧
  ∀ z μ' H', RelS K μ' S' H' → Ext K μ H μ' H' → Rep K μ' H' z d → Q z H'
theorem sl_D (m : Bool) : SlR X (rSlD X.K m) := by
  intro pins s σ H x v vl vu lo hi sl Q I rx hs pl pu h
  obtain ⟨μ, S, a, d, S', rs, ra, e, q⟩ := h
  refine (sl_tupA.or sl_list) pins s σ H x v vl vu lo hi sl Q I rx hs pl pu ?_
  unfold slcV at e
  split at e
  · rename_i xs
    cases e
    cases ra with
    | tup t1 l1 =>
      rename_i p vs
      refine .inl ⟨p, vs, rfl, t1, fun hw => ?_, fun hw p' hp => ?_⟩
      · refine q _ _ _ rs .refl (.tup t1 ?_)
        have : cutD xs lo hi = xs := by
          unfold cutD
          exact cut_whole xs lo hi (by rw [l1.length] at hw; exact hw)
        rw [this]
        exact l1
      · obtain ⟨h1, h2⟩ := rs.new (o := .tup (cutV vs lo hi)) hp
        exact q _ _ _ h1 h2 (.tup (.inl (.inl upd_same)) (h2.monoL (l1.cut lo hi)))
  · split at e
    · rename_i xs hx
      obtain ⟨p, vs, rfl, h1, h2⟩ := lst_of rs ra hx
      obtain ⟨_, q'⟩ := mk_ok rs (h2.cut lo hi) e q
      exact .inr ⟨p, vs, rfl, h1, q'⟩
    · cases e
theorem intsOf_eq : ∀ {xs : List D} {is : List Int}, intsOf xs = some is → xs = is.map .int
  | [], is, h => by simp [intsOf] at h; subst h; rfl
  | .int i :: r, is, h => by
    simp [intsOf] at h
    obtain ⟨a, h1, h2⟩ := h
    subst h2
    rw [intsOf_eq h1]; rfl
  | .none :: _, _, h => by simp [intsOf] at h
  | .bool _ :: _, _, h => by simp [intsOf] at h
  | .str _ :: _, _, h => by simp [intsOf] at h
  | .list _ :: _, _, h => by simp [intsOf] at h
  | .tuple _ :: _, _, h => by simp [intsOf] at h
  | .dict _ :: _, _, h => by simp [intsOf] at h
theorem boolsOf_eq : ∀ {xs : List D} {is : List Bool}, boolsOf xs = some is → xs = is.map .bool
  | [], is, h => by simp [boolsOf] at h; subst h; rfl
  | .bool i :: r, is, h => by
    simp [boolsOf] at h
    obtain ⟨a, h1, h2⟩ := h
    subst h2
    rw [boolsOf_eq h1]; rfl
  | .none :: _, _, h => by simp [boolsOf] at h
  | .int _ :: _, _, h => by simp [boolsOf] at h
  | .str _ :: _, _, h => by simp [boolsOf] at h
  | .list _ :: _, _, h => by simp [boolsOf] at h
  | .tuple _ :: _, _, h => by simp [boolsOf] at h
  | .dict _ :: _, _, h => by simp [boolsOf] at h
theorem RepL.intsV {K : PySem.W.Frag} {μ : Mu} {H : Hp} : ∀ {xs : List V} {is : List Int}, RepL K μ H xs (is.map .int) → xs = is.map V.int
  | [], [], _ => rfl
  | [], _ :: _, h => by cases h
  | _ :: _, [], h => by cases h
  | x :: xs, i :: is, h => by
    cases h with
    | cons h1 h2 =>
      cases h1
      rw [RepL.intsV h2]; rfl
theorem RepL.boolsV {K : PySem.W.Frag} {μ : Mu} {H : Hp} : ∀ {xs : List V} {is : List Bool}, RepL K μ H xs (is.map .bool) → xs = is.map V.bl
  | [], [], _ => rfl
  | [], _ :: _, h => by cases h
  | _ :: _, [], h => by cases h
  | x :: xs, i :: is, h => by
    cases h with
    | cons h1 h2 =>
      cases h1
      rw [RepL.boolsV h2]; rfl

theorem alikeB_ok {xs : List D} (h : alikeB xs = true) : PySem.W.AllAlike xs := by
  intro d hd d' hd'
  simp only [alikeB, List.all_eq_true] at h
  exact h d hd d' hd'
theorem sortOk_ok {xs : List D} (h : sortOk xs = true) : PyData.plainAll xs = true ∧ PySem.W.AllAlike xs ∧ PySem.W.Sortable xs ∧ ∀ x ∈ xs, x.depth ≤ 60 := by
  simp only [sortOk, Bool.and_eq_true, Bool.or_eq_true, List.all_eq_true, decide_eq_true_eq] at h
  obtain ⟨⟨⟨h0, h1⟩, h2⟩, h3⟩ := h
  refine ⟨h0, alikeB_ok h1, ?_, h3⟩
  rcases h2 with h2 | h2
  · refine .inl fun d hd => ?_
    have := h2 d hd
    unfold isTup1 at this
    split at this
    · rename_i x r; exact ⟨x, r, rfl⟩
    · cases this
  · refine .inr fun d hd => ?_
    have := h2 d hd
    refine ⟨by rintro rfl; simp [isTupN] at this, fun ys => by rintro rfl; simp [isTupN] at this⟩
theorem plainAll_mem : ∀ {xs : List D} {x : D}, PyData.plainAll xs = true → x ∈ xs → x.plain = true
  | [], _, _, h => by cases h
  | y :: ys, x, p, h => by
    have p' : y.plain = true ∧ PyData.plainAll ys = true := by simpa [PyData.plainAll] using p
    rcases List.mem_cons.mp h with rfl | h
    · exact p'.1
    · exact plainAll_mem p'.2 h
/-- item by item: a value, and what it stands for -/
theorem each_of {K : PySem.W.Frag} {μ : Mu} {H : Hp} : ∀ {xs : List V} {us : List Value} {ds : List D}, Vals xs us → RepL K μ H xs ds → PySem.W.EachIs (fun u d => ∃ x, RelV x u ∧ Rep K μ H x d) us ds
  | [], _, _, .nil, h => by cases h; exact .nil
  | x :: xs, _, _, .cons r t, h => by
    cases h with
    | cons h1 h2 => exact .cons ⟨x, r, h1⟩ (each_of t h2)
theorem of_each {K : PySem.W.Frag} {μ : Mu} {H : Hp} : ∀ {us : List Value} {ds : List D}, PySem.W.EachIs (fun u d => ∃ x, RelV x u ∧ Rep K μ H x d) us ds → ∃ xs, Vals xs us ∧ RepL K μ H xs ds
  | [], _, h => by cases h; exact ⟨[], .nil, .nil⟩
  | u :: us, _, h => by
    cases h with
    | cons h1 h2 =>
      obtain ⟨x, r, p⟩ := h1
      obtain ⟨xs, t, q⟩ := of_each h2
      exact ⟨x :: xs, .cons r t, .cons p q⟩
theorem each_reads {pins : List (Addr × Obj)} {s : Shared} {σ : L2.St} {H : Hp} {μ : Mu} (I : Inv X pins σ H s) : ∀ {xs : List V} {us : List Value} {ds : List D}, Vals xs us → RepL X.K μ H xs ds → PyData.plainAll ds = true → PySem.W.EachIs (fun v d => ∃ as, Reads s.heap v d as) us ds
  | [], _, _, .nil, h, _ => by cases h; exact .nil
  | x :: xs, _, _, .cons r t, h, p => by
    cases h with
    | cons h1 h2 =>
      have p' := plainAll_mem p List.mem_cons_self
      exact .cons (Dp.reads I _ x _ (dp_of _ _ h1 p') r) (each_reads I t h2 (by simp only [PyData.plainAll, Bool.and_eq_true] at p; exact p.2))
theorem collect_seq {pins : List (Addr × Obj)} {s : Shared} {σ : L2.St} {H : Hp} {A : Around} {p : Addr} {xs : List V} (I : Inv X pins σ H s) (h : SqL X.K H p xs ∨ SqT X.K H p xs) :
    xs.length ≤ sizeLine ∧ ∃ its : List Value, Vals xs its ∧ ∀ (Q' : List Value → Shared → Prop) (E' : Value → Shared → Prop), (∀ h', (∀ b o, s.heap.get? b = some o → h'.get? b = some o) → Q' its { s with heap := h' }) → wpAny (model X.prog X.w) A (collect (.ref p)) Q' E' s := by
  rcases h with h | h
  · obtain ⟨its, r, ⟨o, n, e, c, _, d⟩, z⟩ := I.list h
    refine ⟨z, its, r, fun Q' E' q => wpAny_collect_seq p (.inl rfl) e c d (fun h' k => ?_) ?_⟩
    · simpa using q h' k
    · have := r.length
      simp only [List.size_toArray]; omega
  · obtain ⟨its, r, ⟨o, e, c, n, d⟩, z⟩ := I.tuple h
    refine ⟨z, its, r, fun Q' E' q => wpAny_collect_seq p (.inr rfl) e c d (fun h' k => ?_) ?_⟩
    · simpa using q h' k
    · have := r.length
      simp only [List.size_toArray]; omega
theorem call_sortedD (hu : X.A.units + 200 < cLine) {m : Bool} : CallR X (.builtin "sorted") (rC X.K (sortedV m)) := by
  intro pins s σ H xs us Q I r h
  obtain ⟨μ, S, ds, d, S', rs, rl, e, q⟩ := h
  match ds, e with
  | [a], e =>
    obtain ⟨x, rfl, ra⟩ := rl.one
    obtain ⟨u, rfl, rx⟩ := vals1 r
    simp only [sortedV] at e
    cases hs : seqOf S a with
    | none => rw [hs] at e; cases e
    | some zs =>
      rw [hs] at e
      dsimp only at e
      by_cases hk : sortOk zs = true
      · rw [if_pos hk] at e
        obtain ⟨p1, p2, p3, p4⟩ := sortOk_ok hk
        obtain ⟨p, vs, rfl, h1, h2⟩ := seq_of rs ra hs
        cases rx
        obtain ⟨z, its, rv, hc⟩ := collect_seq (A := X.A.in1) I h1
        refine PySem.W.sorted_coll hc (by rw [← rv.length]; exact z) (each_of rv h2) (each_reads I rv h2 p1) p2 p3 (fun b hb => by have := p4 b hb; omega) fun h1 h' dd out eo k1 k2 hsz ⟨n, hd⟩ => ?_
        obtain ⟨ys, r1, r2⟩ := of_each eo
        obtain ⟨hz, q'⟩ := mk_ok rs r2 e q
        have I1 : Inv X pins σ H { s with heap := h1 } := I.kept (t' := s.toks) k1
        exact ⟨.ref dd, _, I1.laid (h' := h') (t' := s.toks) k2 hsz (show ObjOk X.prog X.w _ _ _ (.lst ys) from ⟨hz, out, n, r1, hd⟩), rfl, q' _ (I1.hok.fresh hsz)⟩
      · rw [if_neg hk] at e; cases e
  | [], e => cases e
  | _ :: _ :: _, e => cases e
theorem call_lenD : CallR X (.builtin "len") (rC X.K lenV) := by
  intro pins s σ H xs us Q I r h
  obtain ⟨μ, S, ds, d, S', rs, rl, e, q⟩ := h
  match ds, e with
  | [a], e =>
    obtain ⟨x, rfl, ra⟩ := rl.one
    simp only [lenV] at e
    cases hs : seqOf S a with
    | none => rw [hs] at e; cases e
    | some zs =>
      rw [hs] at e
      cases e
      obtain ⟨p, vs, rfl, h1, h2⟩ := seq_of rs ra hs
      refine call_len pins s σ H _ us Q I r ⟨_, (zs.length : Nat), rfl, ?_, q _ _ _ rs .refl (.int _)⟩
      rcases h1 with h1 | h1
      · exact .inl ⟨vs, h1, by rw [h2.length]⟩
      · exact .inr ⟨vs, h1, by rw [h2.length]⟩
  | [], e => cases e
  | _ :: _ :: _, e => cases e
theorem call_absD : CallR X (.builtin "abs") (rC X.K absV) := by
  intro pins s σ H xs us Q I r h
  obtain ⟨μ, S, ds, d, S', rs, rl, e, q⟩ := h
  unfold absV at e
  split at e
  · obtain ⟨x, rfl, ra⟩ := rl.one
    cases ra
    cases e
    exact call_abs pins s σ H _ us Q I r ⟨_, rfl, q _ _ _ rs .refl (.int _)⟩
  · cases e
theorem call_intD : CallR X (.type "int") (rC X.K intV) := by
  intro pins s σ H xs us Q I r h
  obtain ⟨μ, S, ds, d, S', rs, rl, e, q⟩ := h
  unfold intV at e
  split at e
  · obtain ⟨x, rfl, ra⟩ := rl.one
    cases ra
    cases e
    exact call_int1 pins s σ H _ us Q I r (.inl ⟨_, rfl, q _ _ _ rs .refl (.int _)⟩)
  · cases e
theorem call_max2D (hc : X.calm = true) : CallR X (.builtin "max") (rC X.K max2V) := by
  intro pins s σ H xs us Q I r h
  obtain ⟨μ, S, ds, d, S', rs, rl, e, q⟩ := h
  unfold max2V at e
  split at e
  · obtain ⟨x, y, rfl, ra, rb⟩ := rl.two
    cases ra
    cases rb
    cases e
    exact call_max2 hc pins s σ H _ us Q I r ⟨_, _, rfl, q _ _ _ rs .refl (.int _)⟩
  · cases e
theorem call_min2D (hc : X.calm = true) : CallR X (.builtin "min") (rC X.K min2V) := by
  intro pins s σ H xs us Q I r h
  obtain ⟨μ, S, ds, d, S', rs, rl, e, q⟩ := h
  unfold min2V at e
  split at e
  · obtain ⟨x, y, rfl, ra, rb⟩ := rl.two
    cases ra
    cases rb
    cases e
    exact call_min2 hc pins s σ H _ us Q I r ⟨_, _, rfl, q _ _ _ rs .refl (.int _)⟩
  · cases e
theorem call_listD {m : Bool} : CallR X (.type "list") (rC X.K (listV m)) := by
  intro pins s σ H xs us Q I r h
  obtain ⟨μ, S, ds, d, S', rs, rl, e, q⟩ := h
  match ds, e with
  | [a], e =>
    obtain ⟨x, rfl, ra⟩ := rl.one
    simp only [listV] at e
    cases hs : seqOf S a with
    | none => rw [hs] at e; cases e
    | some zs =>
      rw [hs] at e
      obtain ⟨p, vs, rfl, h1, h2⟩ := seq_of rs ra hs
      obtain ⟨hz, q'⟩ := mk_ok rs h2 e q
      exact call_list_of pins s σ H _ us Q I r ⟨p, vs, rfl, h1, q'⟩
  | [], e => cases e
  | _ :: _ :: _, e => cases e
theorem call_tupleD : CallR X (.type "tuple") (rC X.K tupleV) := by
  intro pins s σ H xs us Q I r h
  obtain ⟨μ, S, ds, d, S', rs, rl, e, q⟩ := h
  match ds, e with
  | [a], e =>
    obtain ⟨x, rfl, ra⟩ := rl.one
    simp only [tupleV] at e
    cases hs : seqOf S a with
    | none => rw [hs] at e; cases e
    | some zs =>
      rw [hs] at e
      cases e
      obtain ⟨p, vs, rfl, h1, h2⟩ := seq_of rs ra hs
      refine call_tuple_of pins s σ H _ us Q I r ⟨p, vs, rfl, ?_⟩
      rcases h1 with h1 | h1
      · refine .inl ⟨h1, fun l hl => ?_⟩
        obtain ⟨g1, g2⟩ := rs.new (o := .tup vs) hl
        exact q _ _ _ g1 g2 (.tup (.inl (.inl upd_same)) (g2.monoL h2))
      · exact .inr ⟨h1, q _ _ _ rs .refl (.tup h1 h2)⟩
  | [], e => cases e
  | _ :: _ :: _, e => cases e
theorem call_allD (hc : X.calm = true) : CallR X (.builtin "all") (rC X.K allV) := by
  intro pins s σ H xs us Q I r h
  obtain ⟨μ, S, ds, d, S', rs, rl, e, q⟩ := h
  match ds, e with
  | [a], e =>
    obtain ⟨x, rfl, ra⟩ := rl.one
    simp only [allV] at e
    cases hs : lstOf S a with
    | none => rw [hs] at e; cases e
    | some zs =>
      rw [hs] at e
      cases hb : boolsOf zs with
      | none => simp [hb] at e
      | some bs =>
        simp only [hb] at e
        cases e
        obtain ⟨p, vs, rfl, h1, h2⟩ := lst_of rs ra hs
        rw [boolsOf_eq hb] at h2
        rw [h2.boolsV] at h1
        exact cr_all hc pins s σ H _ us Q I r ⟨p, bs, rfl, h1, q _ _ _ rs .refl (.bl _)⟩
  | [], e => cases e
  | _ :: _ :: _, e => cases e
theorem call_anyD (hc : X.calm = true) : CallR X (.builtin "any") (rC X.K anyV) := by
  intro pins s σ H xs us Q I r h
  obtain ⟨μ, S, ds, d, S', rs, rl, e, q⟩ := h
  match ds, e with
  | [a], e =>
    obtain ⟨x, rfl, ra⟩ := rl.one
    simp only [anyV] at e
    cases hs : lstOf S a with
    | none => rw [hs] at e; cases e
    | some zs =>
      rw [hs] at e
      cases hb : boolsOf zs with
      | none => simp [hb] at e
      | some bs =>
        simp only [hb] at e
        cases e
        obtain ⟨p, vs, rfl, h1, h2⟩ := lst_of rs ra hs
        rw [boolsOf_eq hb] at h2
        rw [h2.boolsV] at h1
        exact cr_any hc pins s σ H _ us Q I r ⟨p, bs, rfl, h1, q _ _ _ rs .refl (.bl _)⟩
  | [], e => cases e
  | _ :: _ :: _, e => cases e
theorem call_sumD (hc : X.calm = true) : CallR X (.builtin "sum") (rC X.K sumV) := by
  intro pins s σ H xs us Q I r h
  obtain ⟨μ, S, ds, d, S', rs, rl, e, q⟩ := h
  match ds, e with
  | [a], e =>
    obtain ⟨x, rfl, ra⟩ := rl.one
    simp only [sumV] at e
    cases hs : lstOf S a with
    | none => rw [hs] at e; cases e
    | some zs =>
      rw [hs] at e
      cases hb : intsOf zs with
      | none => simp [hb] at e
      | some bs =>
        simp only [hb] at e
        cases e
        obtain ⟨p, vs, rfl, h1, h2⟩ := lst_of rs ra hs
        rw [intsOf_eq hb] at h2
        rw [h2.intsV] at h1
        exact cr_sum hc pins s σ H _ us Q I r ⟨p, bs, rfl, h1, q _ _ _ rs .refl (.int _)⟩
  | [], e => cases e
  | _ :: _ :: _, e => cases e

/-! ### methods of lists -/
/-- what a method's call by data asks -/
def rM (K : PySem.W.Frag) (f : D → List D → Store → Res D) : V → List V → Hp → VK → Prop := fun x xs H Q => ∃ μ S o ds d S', RelS K μ S H ∧ Rep K μ H x o ∧ RepL K μ H xs ds ∧ f o ds S = .ok d S' ∧
  ∀ z μ' H', RelS K μ' S' H' → Ext K μ H μ' H' → Rep K μ' H' z d → Q z H'
theorem onL_ok {f : Nat → List D → List D → Store → Res D} {o : D} {vs : List D} {S S' : Store} {d : D} (e : onL f o vs S = .ok d S') : ∃ n xs, locOf o = some n ∧ atL S n = some xs ∧ f n xs vs S = .ok d S' := by
  unfold onL at e
  split at e
  · rename_i n hn
    split at e
    · rename_i xs hx; exact ⟨n, xs, hn, hx, e⟩
    · cases e
  · cases e
theorem loc_of {K : PySem.W.Frag} {μ : Mu} {H : Hp} {S : Store} {x : V} {o : D} {n : Nat} {ds : List D} (rs : RelS K μ S H) (r : Rep K μ H x o) (hn : locOf o = some n) (hx : atL S n = some ds) : ∃ a xs, x = .ref a ∧ μ.pl[n]? = some a ∧ H a = some (.lst xs) ∧ RepL K μ H xs ds := by
  cases r with
  | rf h1 =>
    simp [locOf] at hn
    subst hn
    obtain ⟨a, xs, e1, e2, e3⟩ := rs.lst_at hx
    rw [h1] at e1
    cases e1
    exact ⟨_, xs, rfl, h1, e2, e3⟩
  | _ => simp [locOf] at hn
theorem mt_appendD : MtR X "list.append" (rM X.K (onL appendV)) := by
  intro pins s σ H x xs v us Q I rx rv h
  obtain ⟨μ, S, o, ds, d, S', rs, ro, rl, e, q⟩ := h
  obtain ⟨n, zs, hn, hx, e⟩ := onL_ok e
  obtain ⟨a, ys, rfl, h1, h2, h3⟩ := loc_of rs ro hn hx
  unfold appendV at e
  split at e
  · split at e
    · rename_i hz
      cases e
      obtain ⟨y, rfl, ry⟩ := rl.one
      obtain ⟨g1, g2⟩ := rs.set h1 (h3.append (.cons ry .nil))
      exact mt_append pins s σ H _ _ v us Q I rx rv ⟨a, ys, y, rfl, rfl, h2, by rw [h3.length]; exact hz, q _ _ _ g1 g2 .non⟩
    · cases e
  · cases e
theorem mt_popAtD (hm : True) : MtR X "list.pop" (rM X.K (onL popAtV)) := by
  intro pins s σ H x xs v us Q I rx rv h
  obtain ⟨μ, S, o, ds, d, S', rs, ro, rl, e, q⟩ := h
  obtain ⟨n, zs, hn, hx, e⟩ := onL_ok e
  obtain ⟨a, ys, rfl, h1, h2, h3⟩ := loc_of rs ro hn hx
  unfold popAtV at e
  split at e
  · rename_i i S0
    split at e
    · rename_i j hj
      split at e
      · rename_i y hy
        cases e
        obtain ⟨w, rfl, rw'⟩ := rl.one
        cases rw'
        obtain ⟨g1, g2⟩ := rs.set h1 (h3.eraseIdx j)
        obtain ⟨yv, e1, r1⟩ := h3.get hy
        obtain ⟨k1, k2, k3, k4⟩ := ixN_seq hj
        have hz := (I.lstM h2).1
        rw [h3.length] at hz
        have hs : (sizeLine : Nat) < 2 ^ 63 := line63
        exact mt_popAt pins s σ H _ _ v us Q I rx rv ⟨a, ys, i, j, yv, rfl, rfl, h2, by omega, by omega, by rw [h3.length]; exact k1, e1, q _ _ _ g1 g2 (g2.mono _ _ r1)⟩
      · cases e
    · cases e
  · cases e
theorem mt_popD : MtR X "list.pop" (rM X.K (onL popV)) := by
  intro pins s σ H x xs v us Q I rx rv h
  obtain ⟨μ, S, o, ds, d, S', rs, ro, rl, e, q⟩ := h
  obtain ⟨n, zs, hn, hx, e⟩ := onL_ok e
  obtain ⟨a, ys, rfl, h1, h2, h3⟩ := loc_of rs ro hn hx
  unfold popV at e
  split at e
  · split at e
    · rename_i y hy
      cases e
      cases rl
      obtain ⟨g1, g2⟩ := rs.set h1 h3.dropLast
      obtain ⟨yv, e1, r1⟩ := h3.get hy
      exact mt_pop pins s σ H _ _ v us Q I rx rv ⟨a, ys, yv, rfl, rfl, h2, by rw [h3.length]; exact e1, q _ _ _ g1 g2 (g2.mono _ _ r1)⟩
    · cases e
  · cases e
theorem mt_removeD (hu : X.A.units + 200 < cLine) : MtR X "list.remove" (rM X.K (onL removeV)) := by
  intro pins s σ H x xs v us Q I rx rv h
  obtain ⟨μ, S, o, ds, d, S', rs, ro, rl, e, q⟩ := h
  obtain ⟨n, zs, hn, hx, e⟩ := onL_ok e
  obtain ⟨a, ys, rfl, h1, h2, h3⟩ := loc_of rs ro hn hx
  unfold removeV at e
  split at e
  · split at e
    · rename_i hk
      split at e
      · rename_i j hj
        cases e
        obtain ⟨p1, p2, p3⟩ := inOk_ok hk
        obtain ⟨y, rfl, ry⟩ := rl.one
        obtain ⟨w, rfl, rw'⟩ := rv.one
        cases rx
        obtain ⟨as, r1⟩ := reads_of I rs ry rw' p2
        obtain ⟨z, its, m, rr, hl, ho⟩ := I.lstM h2
        obtain ⟨bs, r2⟩ := PySem.W.each_readsAll (h := s.heap) id (vs := its) (bs := zs) (each_reads I rr h3 p1)
        rw [List.map_id] at r2
        obtain ⟨g1, g2⟩ := rs.set h1 (h3.eraseIdx j)
        refine SeqAt.remove_list_data (vs := its.toArray) ⟨_, ho, rfl, m, rfl⟩ (by simpa using r2) r1 p1 p2 (by omega) hj (by simp; omega) ?_
        exact ⟨.non, _, I.lset (t' := s.toks) (its' := its.eraseIdx j) h2 ho (by simp) (rr.eraseIdx j) (Nat.le_trans (len_erase _ _) z), rfl, q _ _ _ g1 g2 .non⟩
      · cases e
    · cases e
  · cases e

theorem mt_indexD (hu : X.A.units + 200 < cLine) : MtR X "list.index" (rM X.K indexV) := by
  intro pins s σ H x xs v us Q I rx rv h
  obtain ⟨μ, S, o, ds, d, S', rs, ro, rl, e, q⟩ := h
  unfold indexV at e
  split at e
  · split at e
    · rename_i zs hx
      split at e
      · rename_i hk
        split at e
        · rename_i j hj
          cases e
          obtain ⟨p1, p2, p3⟩ := inOk_ok hk
          obtain ⟨a, ys, rfl, h2, h3⟩ := lstM_of rs ro hx
          obtain ⟨y, rfl, ry⟩ := rl.one
          obtain ⟨w, rfl, rw'⟩ := rv.one
          cases rx
          obtain ⟨as, r1⟩ := reads_of I rs ry rw' p2
          obtain ⟨z, its, m, rr, hl, ho⟩ := Inv_lstR I h2
          obtain ⟨bs, r2⟩ := PySem.W.each_readsAll (h := s.heap) id (vs := its) (bs := zs) (each_reads I rr h3 p1)
          rw [List.map_id] at r2
          rename_i ad _ _
          have hj' : zs.findIdx? (fun y => PyData.eqv y (res S ad)) = some j := hj
          obtain ⟨hj1, hit, hno⟩ := List.findIdx?_eq_some_iff_getElem.mp hj'
          have hlz : its.length = zs.length := by rw [← hl, h3.length]
          have hsz : (sizeLine : Nat) < 2 ^ 63 - 1 := by decide
          have hz : zs.length ≤ sizeLine := by rw [← h3.length]; exact z
          refine call_meets F.slot_list_index ⟨_, ho, rfl⟩ F.entry_list_index (F.args_list_index_2 _ _)
            (SeqAt.list_index2_found a its.toArray m none #[] w (fun k => PyData.eqv (zs.getD k .none) (res S ad)) j (by simp; omega) (Nat.zero_le _) (by omega) ?_ fun k hk' _ hlt => ?_) ⟨ho, fun k hk' => ?_, ?_⟩
          · simp [hj1, hit]
          · have := hno k hlt
            have hk2 : k < zs.length := by omega
            simp [hk2]
            simpa using this
          · obtain ⟨cs, rk, _, hm, hd⟩ := PySem.W.readsAll_at r2 k its[k] (by simp)
            exact SeqAt.eqAt_plain _ _ _ _ _ _ _ _ rk r1 (plainAll_mem p1 hm) p2 (by show X.A.units + 1 + _ < _; omega)
          · exact ⟨.int j, H, I.tok _, ⟨_, rfl⟩, q _ _ _ rs .refl (.int _)⟩
        · cases e
      · cases e
    · cases e
  · cases e
end
end DL

set_option linter.all false
/-! DL.PE: expressions, by data. -/
namespace DL
open PySem L2
/-- an exception as it stands: class number c, with d at its field -/
def ExcAt (K : PySem.W.Frag) (T : Tb) (μ : Mu) (H : Hp) (c : Nat) (d : D) (cls : Value) (od : Option Addr) : Prop :=
  cls = .ref (T.ca c) ∧ ∃ dx v, od = some dx ∧ H dx = some (.xd [(T.cf c, v)]) ∧ Rep K μ H v d
/-- what is wanted behind -/
def Post (K : PySem.W.Frag) (T : Tb) (μ : Mu) (H : Hp) {α β : Type} (R : Mu → Hp → β → α → Prop) (Q : β → Hp → Prop) (E : XK) : Res α → Prop
  | .ok a S' => ∀ z μ' H', RelS K μ' S' H' → Ext K μ H μ' H' → R μ' H' z a → Q z H'
  | .exc c d S' => ∀ cls od μ' H', ExcAt K T μ' H' c d cls od → RelS K μ' S' H' → Ext K μ H μ' H' → E cls od H'
  | .bad => False
section
variable {K : PySem.W.Frag} {T : Tb} {μ μ1 : Mu} {H H1 : Hp} {α β γ δ : Type} {R : Mu → Hp → β → α → Prop} {R' : Mu → Hp → δ → γ → Prop} {Q Q' : β → Hp → Prop} {E : XK}
theorem Post.mono {r : Res α} (h : Post K T μ H R Q E r) (hq : ∀ z H', Q z H' → Q' z H') : Post K T μ H R Q' E r := by
  cases r with
  | ok a S => exact fun z μ' H' h1 h2 h3 => hq _ _ (h z μ' H' h1 h2 h3)
  | exc c d S => exact h
  | bad => exact h
theorem Post.ext {r : Res α} (h : Post K T μ H R Q E r) (e : Ext K μ H μ1 H1) : Post K T μ1 H1 R Q E r := by
  cases r with
  | ok a S => exact fun z μ' H' h1 h2 h3 => h z μ' H' h1 (e.trans h2) h3
  | exc c d S => exact fun cls od μ' H' h0 h1 h2 => h cls od μ' H' h0 h1 (e.trans h2)
  | bad => exact h
/-- two runs, one behind the other -/
theorem Post.bind {r : Res γ} {f : γ → Store → Res α} (h : Post K T μ H R Q E (r.bind f)) :
    Post K T μ H R' (fun z H1 => ∃ μ1 a S1, RelS K μ1 S1 H1 ∧ Ext K μ H μ1 H1 ∧ R' μ1 H1 z a ∧ Post K T μ1 H1 R Q E (f a S1)) E r := by
  cases r with
  | ok a S => exact fun z μ' H' h1 h2 h3 => ⟨μ', a, S, h1, h2, h3, Post.ext h h2⟩
  | exc c d S => exact h
  | bad => exact h
end
/-- a value as a datum -/
abbrev RV (K : PySem.W.Frag) : Mu → Hp → V → D → Prop := Rep K
abbrev RVs (K : PySem.W.Frag) : Mu → Hp → List V → List D → Prop := RepL K
def RB : Mu → Hp → Bool → Bool → Prop := fun _ _ b c => b = c
/-- an expression's reading by its evaluation -/
def tE (K : PySem.W.Frag) (T : Tb) (F : FS) (W : WX) (x : Ex) : TE := fun σ H Q => ∃ μ S env, RelS K μ S H ∧ RelE K μ H env σ ∧ Post K T μ H (RV K) Q (fun c o H' => W c o σ H') (ev F x env S)
def tEs (K : PySem.W.Frag) (T : Tb) (F : FS) (W : WX) (l : List Ex) : TA := fun σ H Q => ∃ μ S env, RelS K μ S H ∧ RelE K μ H env σ ∧ Post K T μ H (RVs K) Q (fun c o H' => W c o σ H') (evs F l env S)
/-- a test -/
def evT (F : FS) (x : Ex) (env : Env) (S : Store) : Res Bool := (ev F x env S).test fun b S' => .ok b S'
def tT (K : PySem.W.Frag) (T : Tb) (F : FS) (W : WX) (x : Ex) : TT := fun σ H Q => ∃ μ S env, RelS K μ S H ∧ RelE K μ H env σ ∧ Post K T μ H RB Q (fun c o H' => W c o σ H') (evT F x env S)
theorem PE_imp {X : Cx} {e : Expr} {t t' : TE} (h : PE X e t) (i : ∀ σ H Q, t' σ H Q → t σ H Q) : PE X e t' := ⟨fun pins s σ H Q I hw => h.run pins s σ H Q I (i σ H Q hw)⟩
theorem PT_imp {X : Cx} {e : Expr} {t t' : TT} (h : PT X e t) (i : ∀ σ H Q, t' σ H Q → t σ H Q) : PT X e t' := ⟨fun pins s σ H Q I hw => h.run pins s σ H Q I (i σ H Q hw)⟩
theorem PA_imp {X : Cx} {es : List Expr} {t t' : TA} (h : PA X es t) (i : ∀ σ H Q, t' σ H Q → t σ H Q) : PA X es t' := ⟨fun pos pins s σ H Q I hw => h.run pos pins s σ H Q I (i σ H Q hw)⟩

section
variable {K : PySem.W.Frag} {T : Tb} {F : FS} {W : WX}
/-- an operation that raises nothing -/
def NoExc {α : Type} (r : Res α) : Prop := ∀ c d S, r ≠ .exc c d S
theorem Post.ok_of {μ : Mu} {H : Hp} {α β : Type} {R : Mu → Hp → β → α → Prop} {Q : β → Hp → Prop} {E : XK} {r : Res α} (h : Post K T μ H R Q E r) (n : NoExc r) :
    ∃ a S', r = .ok a S' ∧ ∀ z μ' H', RelS K μ' S' H' → Ext K μ H μ' H' → R μ' H' z a → Q z H' := by
  cases r with
  | ok a S => exact ⟨a, S, rfl, h⟩
  | exc c d S => exact absurd rfl (n c d S)
  | bad => exact h.elim
theorem nx_ok {α : Type} {a : α} {S : Store} : NoExc (Res.ok a S) := fun _ _ _ h => by cases h
theorem nx_bad {α : Type} : NoExc (Res.bad : Res α) := fun _ _ _ h => by cases h
theorem nx_mkL {m : Bool} {xs : List D} {S : Store} : NoExc (mkL m xs S) := by
  unfold mkL
  split
  · split
    · exact nx_ok
    · exact nx_ok
  · exact nx_bad
theorem nx_mkT {xs : List D} {S : Store} : NoExc (mkT xs S) := by
  unfold mkT
  split
  · exact nx_ok
  · exact nx_bad
theorem nx_bin {o : Operator} {m : Bool} {a b : D} {S : Store} : NoExc (binV o m a b S) := by
  unfold binV
  repeat' split
  all_goals first | exact nx_ok | exact nx_bad | exact nx_mkT | exact nx_mkL
theorem nx_cmp {o : CmpOp} {a b : D} {S : Store} : NoExc (cmpV o a b S) := by
  unfold cmpV
  repeat' split
  all_goals first | exact nx_ok | exact nx_bad
theorem nx_sub {a b : D} {S : Store} : NoExc (subV a b S) := by
  unfold subV
  repeat' split
  all_goals first | exact nx_ok | exact nx_bad
theorem nx_slc {m : Bool} {a : D} {b c : Option Int} {S : Store} : NoExc (slcV m a b c S) := by
  unfold slcV
  repeat' split
  all_goals first | exact nx_ok | exact nx_bad | exact nx_mkL
theorem nx_blt {b : Blt} {m : Bool} {vs : List D} {S : Store} : NoExc (bltV b m vs S) := by
  unfold bltV
  split <;> (first | unfold lenV | unfold absV | unfold intV | unfold listV | unfold tupleV | unfold sortedV | unfold sortsetV | unfold allV | unfold anyV | unfold sumV | unfold max2V | unfold min2V | unfold isTV | unfold lrng1V | unfold lrng2V | skip)
  all_goals repeat' split
  all_goals first | exact nx_ok | exact nx_bad | exact nx_mkL | (intro _ _ _ h; cases h)
theorem nx_mth {k : Mth} {o : D} {vs : List D} {S : Store} : NoExc (mthV k o vs S) := by
  unfold mthV onL
  split <;> (first | unfold appendV | unfold removeV | unfold popAtV | unfold popV | unfold extendV | unfold indexV | skip)
  all_goals repeat' split
  all_goals first | exact nx_ok | exact nx_bad

variable {X : Cx} {a b c e : Expr} {xa xb xc : Ex} {pos : Pos} {m : Bool}
theorem e_bin {o : Operator} (ha : PE X a (tE X.K T F W xa)) (hb : PE X b (tE X.K T F W xb)) : PE X (.BinOp a o b pos) (tE X.K T F W (.bin o m xa xb)) := by
  refine PE_imp (pe_op (op_bin o m) ha hb) fun σ H Q ⟨μ, S, env, rs, re, h⟩ => ?_
  refine ⟨μ, S, env, rs, re, (Post.bind h).mono fun x H1 ⟨μ1, d, S1, rs1, e1, r1, h1⟩ => ?_⟩
  refine ⟨μ1, S1, env, rs1, re.mono e1, (Post.bind h1).mono fun y H2 ⟨μ2, d2, S2, rs2, e2, r2, h2⟩ => ?_⟩
  obtain ⟨z, S', ez, q⟩ := h2.ok_of nx_bin
  exact ⟨μ2, S2, d, d2, z, S', rs2, e2.mono _ _ r1, r2, ez, q⟩
theorem e_cmp {o : CmpOp} (hu : X.A.units + 200 < cLine) (hm : behindInMarks o b = false) (ha : PE X a (tE X.K T F W xa)) (hb : PE X b (tE X.K T F W xb)) : PE X (.Compare a [o] [b] pos) (tE X.K T F W (.cmp o xa xb)) := by
  refine PE_imp (pe_cmpR (op_cmp o hu) ha hb hm) fun σ H Q ⟨μ, S, env, rs, re, h⟩ => ?_
  refine ⟨μ, S, env, rs, re, (Post.bind h).mono fun x H1 ⟨μ1, d, S1, rs1, e1, r1, h1⟩ => ?_⟩
  refine ⟨μ1, S1, env, rs1, re.mono e1, (Post.bind h1).mono fun y H2 ⟨μ2, d2, S2, rs2, e2, r2, h2⟩ => ?_⟩
  obtain ⟨z, S', ez, q⟩ := h2.ok_of nx_cmp
  exact ⟨μ2, S2, d, d2, z, S', rs2, e2.mono _ _ r1, r2, ez, q⟩

/-! ### tests -/
theorem test_bind {β : Type} (r : Res D) (f : Bool → Store → Res β) : r.test f = (r.test .ok).bind f := by
  cases r with
  | ok d S =>
    simp only [Res.test, Res.bind_ok]
    cases asBool d <;> rfl
  | exc c d S => rfl
  | bad => rfl
theorem bind_bind {α β γ : Type} (r : Res α) (f : α → Store → Res β) (g : β → Store → Res γ) : (r.bind f).bind g = r.bind fun a S => (f a S).bind g := by cases r <;> rfl
theorem bool_of {K : PySem.W.Frag} {μ : Mu} {H : Hp} {z : V} {d : D} {b : Bool} (r : Rep K μ H z d) (h : asBool d = some b) : z = .bl b := by
  cases r <;> simp [asBool] at h
  subst h
  rfl
theorem Post.test {K : PySem.W.Frag} {T : Tb} {μ : Mu} {H : Hp} {Q : Bool → Hp → Prop} {E : XK} {r : Res D} (h : Post K T μ H RB Q E (r.test .ok)) : Post K T μ H (RV K) (fun x H1 => ∃ k, x = .bl k ∧ Q k H1) E r := by
  cases r with
  | ok d S =>
    simp only [Res.test, Res.bind_ok] at h
    intro z μ' H' h1 h2 h3
    cases hb : asBool d with
    | none => rw [hb] at h; exact h.elim
    | some k =>
      rw [hb] at h
      exact ⟨k, bool_of h3 hb, h k μ' H' h1 h2 rfl⟩
  | exc c d S => exact h
  | bad => exact h
/-- the reading of a test by its value's -/
theorem tT_tE {σ : L2.St} {H : Hp} {Q : Bool → Hp → Prop} {x : Ex} (h : tT K T F W x σ H Q) : tE K T F W x σ H fun z H1 => ∃ k, z = .bl k ∧ Q k H1 :=
  let ⟨μ, S, env, rs, re, h⟩ := h
  ⟨μ, S, env, rs, re, h.test⟩
theorem t_val {e : Expr} {x : Ex} (h : PE X e (tE X.K T F W x)) (he : ∀ whole, isTrue e X.env whole = (do let v ← whole; standAt e.pos; holding [v] (truthy v))) : PT X e (tT X.K T F W x) :=
  PT_imp (pt_val h he) fun σ H Q h => tT_tE h
theorem imp_cmp {o : CmpOp} {σ : L2.St} {H : Hp} {Q : VK} (h : tE K T F W (.cmp o xa xb) σ H Q) : tOp (rOp K (cmpV o)) (tE K T F W xa) (tE K T F W xb) σ H Q := by
  obtain ⟨μ, S, env, rs, re, h⟩ := h
  refine ⟨μ, S, env, rs, re, (Post.bind h).mono fun x H1 ⟨μ1, d, S1, rs1, e1, r1, h1⟩ => ?_⟩
  refine ⟨μ1, S1, env, rs1, re.mono e1, (Post.bind h1).mono fun y H2 ⟨μ2, d2, S2, rs2, e2, r2, h2⟩ => ?_⟩
  obtain ⟨z, S', ez, q⟩ := h2.ok_of nx_cmp
  exact ⟨μ2, S2, d, d2, z, S', rs2, e2.mono _ _ r1, r2, ez, q⟩
theorem t_cmp {o : CmpOp} (hu : X.A.units + 200 < cLine) (hm : behindInMarks o b = false) (ha : PE X a (tE X.K T F W xa)) (hb : PE X b (tE X.K T F W xb)) : PT X (.Compare a [o] [b] pos) (tT X.K T F W (.cmp o xa xb)) :=
  PT_imp (pt_cmpR (op_cmp o hu) ha hb hm) fun σ H Q h => imp_cmp (tT_tE h)
theorem imp_chain {o o' : CmpOp} {σ : L2.St} {H : Hp} {Q : VK} (h : tE K T F W (.chain o o' xa xb xc) σ H Q) : tChain (rOp K (cmpV o)) (rOp K (cmpV o')) (tE K T F W xa) (tE K T F W xb) (tE K T F W xc) σ H Q := by
  obtain ⟨μ, S, env, rs, re, h⟩ := h
  refine ⟨μ, S, env, rs, re, (Post.bind h).mono fun x H1 ⟨μ1, d, S1, rs1, e1, r1, h1⟩ => ?_⟩
  refine ⟨μ1, S1, env, rs1, re.mono e1, (Post.bind h1).mono fun y H2 ⟨μ2, d2, S2, rs2, e2, r2, h2⟩ => ?_⟩
  rw [test_bind] at h2
  cases hc : cmpV o d d2 S2 with
  | exc c d' S' => exact absurd hc (nx_cmp c d' S')
  | bad => rw [hc] at h2; exact h2.elim
  | ok k S3 =>
    rw [hc] at h2
    refine ⟨μ2, S2, d, d2, k, S3, rs2, e2.mono _ _ r1, r2, hc, fun z μ3 H3 rs3 e3 r3 => ?_⟩
    simp only [Res.test, Res.bind_ok] at h2
    cases hb : asBool k with
    | none => rw [hb] at h2; exact h2.elim
    | some q =>
      rw [hb] at h2
      refine ⟨q, bool_of r3 hb, ?_⟩
      simp only [Res.bind_ok] at h2
      cases q with
      | true =>
        simp only [if_true] at h2 ⊢
        refine ⟨μ3, S3, env, rs3, ((re.mono e1).mono e2).mono e3, (Post.bind (Post.ext h2 e3)).mono fun w H4 ⟨μ4, d4, S4, rs4, e4, r4, h4⟩ => ?_⟩
        obtain ⟨z', S', ez, q'⟩ := h4.ok_of nx_cmp
        exact ⟨μ4, S4, d2, d4, z', S', rs4, e4.mono _ _ (e3.mono _ _ r2), r4, ez, q'⟩
      | false =>
        exact h2 (.bl false) μ3 H3 rs3 e3 (.bl false)
theorem e_chain {o o' : CmpOp} (hu : X.A.units + 200 < cLine) (hm : lastMarks [o, o'] [b, c] = false) (ha : PE X a (tE X.K T F W xa)) (hb : PE X b (tE X.K T F W xb)) (hc : PE X c (tE X.K T F W xc)) : PE X (.Compare a [o, o'] [b, c] pos) (tE X.K T F W (.chain o o' xa xb xc)) :=
  PE_imp (pe_chain (op_cmp o hu) (op_cmp o' hu) ha hb hc hm) fun σ H Q h => imp_chain h
theorem t_chain {o o' : CmpOp} (hu : X.A.units + 200 < cLine) (hm : lastMarks [o, o'] [b, c] = false) (ha : PE X a (tE X.K T F W xa)) (hb : PE X b (tE X.K T F W xb)) (hc : PE X c (tE X.K T F W xc)) : PT X (.Compare a [o, o'] [b, c] pos) (tT X.K T F W (.chain o o' xa xb xc)) :=
  PT_imp (pt_chain (op_cmp o hu) (op_cmp o' hu) ha hb hc hm) fun σ H Q h => imp_chain (tT_tE h)
/-! ### and, or, not, if -/
theorem ev_and {env : Env} {S : Store} : ev F (.and xa xb) env S = (evT F xa env S).bind fun k S1 => if k = true then ev F xb env S1 else .ok (.bool false) S1 := by
  show Res.test _ _ = _
  rw [test_bind]; rfl
theorem ev_or {env : Env} {S : Store} : ev F (.or xa xb) env S = (evT F xa env S).bind fun k S1 => if k = true then .ok (.bool true) S1 else ev F xb env S1 := by
  show Res.test _ _ = _
  rw [test_bind]; rfl
theorem ev_not {env : Env} {S : Store} : ev F (.not xa) env S = (evT F xa env S).bind fun k S1 => .ok (.bool (!k)) S1 := by
  show Res.test _ _ = _
  rw [test_bind]; rfl
theorem ev_ite {env : Env} {S : Store} : ev F (.ite xa xb xc) env S = (evT F xa env S).bind fun k S1 => if k = true then ev F xb env S1 else ev F xc env S1 := by
  show Res.test _ _ = _
  rw [test_bind]; rfl
theorem evT_eq {x : Ex} {env : Env} {S : Store} : evT F x env S = (ev F x env S).bind fun d S' => match asBool d with | some b => .ok b S' | none => .bad := rfl
variable {rest : List Expr}
theorem t_and (ha : PT X a (tT X.K T F W xa)) (hb : PW X (.BoolOp .And (b :: rest) pos) (tT X.K T F W xb)) : PW X (.BoolOp .And (a :: b :: rest) pos) (tT X.K T F W (.and xa xb)) := by
  refine ⟨fun wh pins s σ H Q I hw => (pw_and ha hb).run wh pins s σ H Q I ?_⟩
  obtain ⟨μ, S, env, rs, re, h⟩ := hw
  rw [evT_eq, ev_and, bind_bind] at h
  refine ⟨μ, S, env, rs, re, (Post.bind h).mono fun k H1 ⟨μ1, k', S1, rs1, e1, r1, h1⟩ => ?_⟩
  cases (show k = k' from r1)
  cases k with
  | true => exact ⟨μ1, S1, env, rs1, re.mono e1, h1⟩
  | false => exact h1 false μ1 H1 rs1 .refl rfl
theorem t_or (ha : PT X a (tT X.K T F W xa)) (hb : PW X (.BoolOp .Or (b :: rest) pos) (tT X.K T F W xb)) : PW X (.BoolOp .Or (a :: b :: rest) pos) (tT X.K T F W (.or xa xb)) := by
  refine ⟨fun wh pins s σ H Q I hw => (pw_or ha hb).run wh pins s σ H Q I ?_⟩
  obtain ⟨μ, S, env, rs, re, h⟩ := hw
  rw [evT_eq, ev_or, bind_bind] at h
  refine ⟨μ, S, env, rs, re, (Post.bind h).mono fun k H1 ⟨μ1, k', S1, rs1, e1, r1, h1⟩ => ?_⟩
  cases (show k = k' from r1)
  cases k with
  | false => exact ⟨μ1, S1, env, rs1, re.mono e1, h1⟩
  | true => exact h1 true μ1 H1 rs1 .refl rfl
theorem e_and (ha : PE X a (tE X.K T F W xa)) (hb : PE X (.BoolOp .And (b :: rest) pos) (tE X.K T F W xb)) : PE X (.BoolOp .And (a :: b :: rest) pos) (tE X.K T F W (.and xa xb)) := by
  refine PE_imp (pe_and ha hb) fun σ H Q ⟨μ, S, env, rs, re, h⟩ => ?_
  rw [ev_and] at h
  refine ⟨μ, S, env, rs, re, (Post.test (Post.bind (R' := RB) h)).mono fun x H1 ⟨k, hx, μ1, k', S1, rs1, e1, r1, h1⟩ => ⟨k, hx, ?_⟩⟩
  cases (show k = k' from r1)
  cases k with
  | true => exact ⟨μ1, S1, env, rs1, re.mono e1, h1⟩
  | false => exact h1 (.bl false) μ1 H1 rs1 .refl (.bl false)
theorem e_or (ha : PE X a (tE X.K T F W xa)) (hb : PE X (.BoolOp .Or (b :: rest) pos) (tE X.K T F W xb)) : PE X (.BoolOp .Or (a :: b :: rest) pos) (tE X.K T F W (.or xa xb)) := by
  refine PE_imp (pe_or ha hb) fun σ H Q ⟨μ, S, env, rs, re, h⟩ => ?_
  rw [ev_or] at h
  refine ⟨μ, S, env, rs, re, (Post.test (Post.bind (R' := RB) h)).mono fun x H1 ⟨k, hx, μ1, k', S1, rs1, e1, r1, h1⟩ => ⟨k, hx, ?_⟩⟩
  cases (show k = k' from r1)
  cases k with
  | false => exact ⟨μ1, S1, env, rs1, re.mono e1, h1⟩
  | true => exact h1 (.bl true) μ1 H1 rs1 .refl (.bl true)
theorem e_not (ha : PE X a (tE X.K T F W xa)) : PE X (.UnaryOp .Not a pos) (tE X.K T F W (.not xa)) := by
  refine PE_imp (pe_not ha) fun σ H Q ⟨μ, S, env, rs, re, h⟩ => ?_
  rw [ev_not] at h
  refine ⟨μ, S, env, rs, re, (Post.test (Post.bind (R' := RB) h)).mono fun x H1 ⟨k, hx, μ1, k', S1, rs1, e1, r1, h1⟩ => ⟨k, hx, ?_⟩⟩
  cases (show k = k' from r1)
  exact h1 (.bl _) μ1 H1 rs1 .refl (.bl _)
theorem t_not (ha : PT X a (tT X.K T F W xa)) : PT X (.UnaryOp .Not a pos) (tT X.K T F W (.not xa)) := by
  refine PT_imp (pt_not ha) fun σ H Q ⟨μ, S, env, rs, re, h⟩ => ?_
  rw [evT_eq, ev_not, bind_bind] at h
  refine ⟨μ, S, env, rs, re, (Post.bind h).mono fun k H1 ⟨μ1, k', S1, rs1, e1, r1, h1⟩ => ?_⟩
  cases (show k = k' from r1)
  exact h1 _ μ1 H1 rs1 .refl rfl
theorem e_ite (ha : PT X a (tT X.K T F W xa)) (hb : PE X b (tE X.K T F W xb)) (hc : PE X c (tE X.K T F W xc)) : PE X (.IfExp a b c pos) (tE X.K T F W (.ite xa xb xc)) := by
  refine PE_imp (pe_ifExp ha hb hc) fun σ H Q ⟨μ, S, env, rs, re, h⟩ => ?_
  rw [ev_ite] at h
  refine ⟨μ, S, env, rs, re, (Post.bind h).mono fun k H1 ⟨μ1, k', S1, rs1, e1, r1, h1⟩ => ?_⟩
  cases (show k = k' from r1)
  cases k with
  | true => exact ⟨μ1, S1, env, rs1, re.mono e1, h1⟩
  | false => exact ⟨μ1, S1, env, rs1, re.mono e1, h1⟩
theorem t_ite (ha : PT X a (tT X.K T F W xa)) (hb : PT X b (tT X.K T F W xb)) (hc : PT X c (tT X.K T F W xc)) : PT X (.IfExp a b c pos) (tT X.K T F W (.ite xa xb xc)) := by
  refine ⟨fun pins s σ H Q I ⟨μ, S, env, rs, re, h⟩ => ?_⟩
  rw [evT_eq, ev_ite, bind_bind] at h
  have h0 := ha.run pins s σ H (fun k H1 => ∃ μ1 k' S1, RelS X.K μ1 S1 H1 ∧ Ext X.K μ H μ1 H1 ∧ RB μ1 H1 k k' ∧ Post X.K T μ1 H1 RB Q (fun c o H' => W c o σ H') (Res.bind (if k' = true then ev F xb env S1 else ev F xc env S1) fun d S' => match asBool d with | some b => .ok b S' | none => .bad)) I ⟨μ, S, env, rs, re, Post.bind h⟩
  have e : ∀ wh, isTrue (.IfExp a b c pos) X.env wh = (do if ← isTrue a X.env (eval a X.env) then isTrue b X.env (eval b X.env) else isTrue c X.env (eval c X.env)) := fun _ => rfl
  rw [e]
  refine wpAny_bind (thn h0 fun k s1 ⟨H1, I1, μ1, k', S1, rs1, e1, r1, h1⟩ => ?_)
  cases (show k = k' from r1)
  cases k with
  | true => exact hb.run pins s1 σ H1 Q I1 ⟨μ1, S1, env, rs1, re.mono e1, h1⟩
  | false => exact hc.run pins s1 σ H1 Q I1 ⟨μ1, S1, env, rs1, re.mono e1, h1⟩
end
end DL

set_option linter.all false
/-! DL.PE2: names, displays, subscripts, calls, methods. -/
namespace DL
open PySem L2
section
variable {K : PySem.W.Frag} {T : Tb} {F : FS} {W : WX} {X : Cx} {a b c e : Expr} {xa xb xc : Ex} {pos : Pos} {m : Bool}
theorem e_var {i : Nat} {x : Str} (hN : X.N[i]? = some x) (hv : Vis X.env.scope x) (hd : (x == ("__debug__" : Str)) = false) (hcd : (x == ("__classdict__" : Str)) = false) : PE X (.Name x pos) (tE X.K T F W (.v i)) := by
  refine PE_imp (pe_var hN hv hd hcd) fun σ H Q ⟨μ, S, env, rs, re, h⟩ => ?_
  simp only [ev] at h
  split at h
  · rename_i d hi
    obtain ⟨v, e1, r1⟩ := re.at_ i d hi
    exact ⟨v, e1, h v μ H rs .refl r1⟩
  · exact h.elim
/-- a constant, whatever the rule -/
theorem e_const {d : D} {v : V} (h : PE X e (fun _ H Q => Q v H)) (r : ∀ μ H, Rep X.K μ H v d) : PE X e (tE X.K T F W (.c d)) :=
  PE_imp h fun σ H Q ⟨μ, S, env, rs, re, h⟩ => h v μ H rs .refl (r μ H)
theorem e_neg (ha : PE X a (tE X.K T F W xa)) : PE X (.UnaryOp .USub a pos) (tE X.K T F W (.neg xa)) := by
  refine PE_imp (pe_un un_neg ha) fun σ H Q ⟨μ, S, env, rs, re, h⟩ => ?_
  refine ⟨μ, S, env, rs, re, (Post.bind h).mono fun x H1 ⟨μ1, d, S1, rs1, e1, r1, h1⟩ => ?_⟩
  split at h1
  · cases r1
    exact ⟨_, rfl, h1 (.int _) μ1 H1 rs1 .refl (.int _)⟩
  · exact h1.elim
/-! ### argument lists -/
def notStar : Expr → Bool
  | .Starred _ _ => false
  | _ => true
theorem star_cons {es : List Expr} {env : PySem.Env} (h : notStar e = true) : starEach (e :: es) env = (false, eval e env) :: starEach es env := by
  cases e <;> first | rfl | (simp [notStar] at h)
theorem star_none {p : Pos} {env : PySem.Env} : ∀ {es : List Expr}, es.all notStar = true → (backTo p (starEach es env)).any (·.1) = false
  | [], _ => rfl
  | e :: es, h => by
    simp only [List.all_cons, Bool.and_eq_true] at h
    rw [star_cons h.1]
    show (backTo p ((false, eval e env) :: starEach es env)).any (·.1) = false
    unfold backTo
    simp only [List.map_cons, List.any_cons, Bool.false_or]
    exact star_none h.2
theorem star_all {p : Pos} {env : PySem.Env} : ∀ {es : List Expr}, es.all notStar = true → (backTo p (starEach es env)).all (fun x => !x.1) = true
  | [], _ => rfl
  | e :: es, h => by
    simp only [List.all_cons, Bool.and_eq_true] at h
    rw [star_cons h.1]
    unfold backTo
    simp only [List.map_cons, List.all_cons, Bool.not_false, Bool.true_and]
    exact star_all h.2
theorem es_nil : PA X [] (tEs X.K T F W []) :=
  PA_imp pa_nil fun σ H Q ⟨μ, S, env, rs, re, h⟩ => h [] μ H rs .refl .nil
theorem es_cons {es : List Expr} {l : List Ex} (hn : notStar e = true) (ha : PE X e (tE X.K T F W xa)) (hr : PA X es (tEs X.K T F W l)) : PA X (e :: es) (tEs X.K T F W (xa :: l)) := by
  refine PA_imp (pa_cons ha hr (star_cons hn)) fun σ H Q ⟨μ, S, env, rs, re, h⟩ => ?_
  refine ⟨μ, S, env, rs, re, (Post.bind h).mono fun x H1 ⟨μ1, d, S1, rs1, e1, r1, h1⟩ => ?_⟩
  refine ⟨μ1, S1, env, rs1, re.mono e1, (Post.bind h1).mono fun xs H2 ⟨μ2, ds, S2, rs2, e2, r2, h2⟩ => ?_⟩
  exact h2 (x :: xs) μ2 H2 rs2 .refl (.cons (e2.mono _ _ r1) r2)
/-! ### displays -/
theorem e_tup {es : List Expr} {l : List Ex} {k : Nat} (h : PA X es (tEs X.K T F W l)) : PE X (.Tuple es k pos) (tE X.K T F W (.tup l)) := by
  refine PE_imp (pe_tup h) fun σ H Q ⟨μ, S, env, rs, re, h⟩ => ?_
  refine ⟨μ, S, env, rs, re, (Post.bind h).mono fun xs H1 ⟨μ1, ds, S1, rs1, e1, r1, h1⟩ => ?_⟩
  obtain ⟨z, S', ez, q⟩ := h1.ok_of nx_mkT
  exact mkT_ok rs1 r1 ez q
theorem e_lst {es : List Expr} {l : List Ex} (h : PA X es (tEs X.K T F W l)) : PE X (.List es pos) (tE X.K T F W (.lst m l)) := by
  refine PE_imp (pe_lst h) fun σ H Q ⟨μ, S, env, rs, re, h⟩ => ?_
  refine ⟨μ, S, env, rs, re, (Post.bind h).mono fun xs H1 ⟨μ1, ds, S1, rs1, e1, r1, h1⟩ => ?_⟩
  obtain ⟨z, S', ez, q⟩ := h1.ok_of nx_mkL
  exact mk_ok rs1 r1 ez q
/-! ### subscripts -/
def notSlice : Expr → Bool
  | .Slice .. => false
  | _ => true
theorem plainIx_of (h : notSlice b = true) : PlainIx b := by
  intro o i
  cases b <;> first | rfl | (simp [notSlice] at h)
theorem e_sub (hs : notSlice b = true) (ha : PE X a (tE X.K T F W xa)) (hb : PE X b (tE X.K T F W xb)) : PE X (.Subscript a b pos) (tE X.K T F W (.sub xa xb)) := by
  refine PE_imp (pe_ix ix_seqD ha hb (plainIx_of hs)) fun σ H Q ⟨μ, S, env, rs, re, h⟩ => ?_
  refine ⟨μ, S, env, rs, re, (Post.bind h).mono fun x H1 ⟨μ1, d, S1, rs1, e1, r1, h1⟩ => ?_⟩
  refine ⟨μ1, S1, env, rs1, re.mono e1, (Post.bind h1).mono fun y H2 ⟨μ2, d2, S2, rs2, e2, r2, h2⟩ => ?_⟩
  obtain ⟨z, S', ez, q⟩ := h2.ok_of nx_sub
  exact ⟨μ2, S2, d, d2, z, S', rs2, e2.mono _ _ r1, r2, ez, q⟩
/-- a bound of a slice -/
def tO (K : PySem.W.Frag) (T : Tb) (F : FS) (W : WX) (x : Ex) : TO := fun σ H Q => ∃ μ S env, RelS K μ S H ∧ RelE K μ H env σ ∧ Post K T μ H (fun _ _ (o o' : Option Int) => o = o') Q (fun c o H' => W c o σ H') (Res.bnd (isAbs x) (ev F x env S))
theorem PO_imp {o : Option Expr} {t t' : TO} (h : PO X o t) (i : ∀ σ H Q, t' σ H Q → t σ H Q) : PO X o t' := ⟨fun pins s σ H Q I hw => h.run pins s σ H Q I (i σ H Q hw)⟩
theorem o_none : PO X none (tO X.K T F W (.c .none)) :=
  PO_imp po_none fun σ H Q ⟨μ, S, env, rs, re, h⟩ => h none μ H rs .refl rfl
theorem o_some {x : Ex} (hx : isAbs x = false) (ha : PE X a (tE X.K T F W x)) : PO X (some a) (tO X.K T F W x) := by
  refine PO_imp (po_some ha) fun σ H Q ⟨μ, S, env, rs, re, h⟩ => ⟨μ, S, env, rs, re, ?_⟩
  cases hr : ev F x env S with
  | exc c d S' => rw [hr] at h; exact h
  | bad => rw [hr] at h; exact h
  | ok d S' =>
    rw [hr, hx] at h
    simp only [Res.bnd, Res.bind_ok] at h
    intro z μ' H' h1 h2 h3
    cases h3 with
    | int i => exact ⟨i, rfl, h (some i) μ' H' h1 h2 rfl⟩
    | _ => exact h.elim
theorem e_slc {lo hi : Option Expr} {xl xh : Ex} {p2 : Pos} (ha : PE X a (tE X.K T F W xa)) (hl : PO X lo (tO X.K T F W xl)) (hh : PO X hi (tO X.K T F W xh)) : PE X (.Subscript a (.Slice lo hi none p2) pos) (tE X.K T F W (.slc m xa xl xh)) := by
  refine PE_imp (pe_slice (sl_D m) ha hl hh) fun σ H Q ⟨μ, S, env, rs, re, h⟩ => ?_
  refine ⟨μ, S, env, rs, re, (Post.bind h).mono fun x H1 ⟨μ1, d, S1, rs1, e1, r1, h1⟩ => ?_⟩
  refine ⟨μ1, S1, env, rs1, re.mono e1, (Post.bind h1).mono fun l H2 ⟨μ2, l', S2, rs2, e2, r2, h2⟩ => ?_⟩
  cases r2
  refine ⟨μ2, S2, env, rs2, (re.mono e1).mono e2, (Post.bind h2).mono fun u H3 ⟨μ3, u', S3, rs3, e3, r3, h3⟩ => ?_⟩
  cases r3
  obtain ⟨z, S', ez, q⟩ := h3.ok_of nx_slc
  exact ⟨μ3, S3, d, z, S', rs3, e3.mono _ _ (e2.mono _ _ r1), ez, q⟩

/-! ### built-ins called -/
/-- the name of a built-in, and whether it is a class -/
def bltId : Blt → Option (String × Bool)
  | .len => some ("len", false)
  | .abs => some ("abs", false)
  | .int => some ("int", true)
  | .list => some ("list", true)
  | .tuple => some ("tuple", true)
  | .sorted => some ("sorted", false)
  | .all => some ("all", false)
  | .any => some ("any", false)
  | .sum => some ("sum", false)
  | .max2 => some ("max", false)
  | .min2 => some ("min", false)
  | _ => none
theorem bltFn {b : Blt} {n : String} (hu : X.A.units + 200 < cLine) (hc : X.calm = true) (h : bltId b = some (n, false)) : CallR X (.builtin n) (rC X.K (bltV b m)) ∧ bootBuiltins (Str.ofString n) = some (.builtin n) ∧ Str.ofString n ≠ "__name__" ∧ ((Str.ofString n) == ("__debug__" : Str)) = false := by
  cases b <;> simp [bltId] at h <;> subst h
  · exact ⟨call_lenD, by decide +kernel, by decide +kernel, by decide +kernel⟩
  · exact ⟨call_absD, by decide +kernel, by decide +kernel, by decide +kernel⟩
  · exact ⟨call_sortedD hu, by decide +kernel, by decide +kernel, by decide +kernel⟩
  · exact ⟨call_allD hc, by decide +kernel, by decide +kernel, by decide +kernel⟩
  · exact ⟨call_anyD hc, by decide +kernel, by decide +kernel, by decide +kernel⟩
  · exact ⟨call_sumD hc, by decide +kernel, by decide +kernel, by decide +kernel⟩
  · exact ⟨call_min2D hc, by decide +kernel, by decide +kernel, by decide +kernel⟩
  · exact ⟨call_max2D hc, by decide +kernel, by decide +kernel, by decide +kernel⟩
theorem bltTy {b : Blt} {n : String} (h : bltId b = some (n, true)) : CallR X (.type n) (rC X.K (bltV b m)) ∧ bootBuiltins (Str.ofString n) = some (.type n) ∧ Str.ofString n ≠ "__name__" ∧ ((Str.ofString n) == ("__debug__" : Str)) = false := by
  cases b <;> simp [bltId] at h <;> subst h
  · exact ⟨call_intD, by decide +kernel, by decide +kernel, by decide +kernel⟩
  · exact ⟨call_listD, by decide +kernel, by decide +kernel, by decide +kernel⟩
  · exact ⟨call_tupleD, by decide +kernel, by decide +kernel, by decide +kernel⟩
theorem e_blt {b : Blt} {n : String} {cl : Bool} {es : List Expr} {l : List Ex} {p : Pos} (hu : X.A.units + 200 < cLine) (hc : X.calm = true) (hb : bltId b = some (n, cl)) (hg : Gl X (Str.ofString n)) (hm : X.mg (Str.ofString n) = none)
    (hn : notStar e = true) (hns : es.all notStar = true) (h : PA X (e :: es) (tEs X.K T F W l)) : PE X (.Call (.Name (Str.ofString n) p) (e :: es) [] pos) (tE X.K T F W (.blt b m l)) := by
  have fin : ∀ σ H Q, tE X.K T F W (.blt b m l) σ H Q → tCB (rC X.K (bltV b m)) (tEs X.K T F W l) σ H Q := fun σ H Q ⟨μ, S, env, rs, re, h⟩ => by
    refine ⟨μ, S, env, rs, re, (Post.bind h).mono fun xs H1 ⟨μ1, ds, S1, rs1, e1, r1, h1⟩ => ?_⟩
    obtain ⟨z, S', ez, q⟩ := h1.ok_of nx_blt
    exact ⟨μ1, S1, ds, z, S', rs1, r1, ez, q⟩
  cases cl with
  | false =>
    obtain ⟨h1, h2, h3, h4⟩ := bltFn (X := X) (m := m) hu hc hb
    exact PE_imp (pe_callB h1 hg hm h2 h h3 h4 (star_cons hn) (star_none hns)) fin
  | true =>
    obtain ⟨h1, h2, h3, h4⟩ := bltTy (X := X) (m := m) hb
    exact PE_imp (pe_callTy h1 hg hm h2 h h3 h4 (star_cons hn) (star_none hns)) fin
/-! ### methods of lists -/
def mthId : Mth → String
  | .append => "append"
  | .remove => "remove"
  | .pop => "pop"
  | .popAt => "pop"
  | .extend => "extend"
  | .index => "index"
/-- a receiver that is no call -/
def plainRecv : Expr → Bool
  | .Name .. => true
  | .Subscript .. => true
  | .Attribute .. => true
  | _ => false
theorem base_of {o : Expr} {f : Str} {env : PySem.Env} (h : plainRecv o = true) : attributeBase o f env (eval o env) = eval o env := by
  cases o <;> first | rfl | (simp [plainRecv] at h)
theorem tyV_lst {μ : Mu} {S : Store} {H : Hp} {x : V} {d : D} {ds : List D} (rs : RelS K μ S H) (r : Rep K μ H x d) (h : lstOf S d = some ds) : tyV K "list" x H := by
  obtain ⟨a, xs, rfl, h1, h2⟩ := lst_of rs r h
  exact .inl ⟨rfl, xs, h1⟩
theorem imp_mth {k : Mth} {l : List Ex} {r : V → List V → Hp → VK → Prop} (hr : r = rM K (mthV k)) {σ : L2.St} {H : Hp} {Q : VK} (h : tE K T F W (.mth k xa l) σ H Q) : tBM K "list" r (tE K T F W xa) (tEs K T F W l) σ H Q := by
  subst hr
  obtain ⟨μ, S, env, rs, re, h⟩ := h
  refine ⟨μ, S, env, rs, re, (Post.bind h).mono fun x H1 ⟨μ1, d, S1, rs1, e1, r1, h1⟩ => ?_⟩
  cases hl : lstOf S1 d with
  | none => rw [hl] at h1; exact h1.elim
  | some ds =>
    rw [hl] at h1
    refine ⟨tyV_lst rs1 r1 hl, μ1, S1, env, rs1, re.mono e1, (Post.bind h1).mono fun xs H2 ⟨μ2, d2, S2, rs2, e2, r2, h2⟩ => ?_⟩
    obtain ⟨z, S', ez, q⟩ := h2.ok_of nx_mth
    exact ⟨μ2, S2, d, d2, z, S', rs2, e2.mono _ _ r1, r2, ez, q⟩
theorem few_of {es : List Expr} {env : PySem.Env} {cpos : Pos} (hn : (e :: es).all notStar = true) (hl : es.length < 20) :
    ((backTo cpos (starEach (e :: es) env)).all (fun x => !x.1) && (backToKw cpos (keywordEach [] env)).all (fun x => x.1.isSome)
      && decide ((e :: es).length + ([] : List Keyword).length + (if ([] : List Keyword).isEmpty then 0 else 1) < 30)) = true := by
  rw [star_all hn]
  simp [backToKw, keywordEach]
  omega
theorem e_mth {k : Mth} {o : Expr} {xo : Ex} {es : List Expr} {l : List Ex} {apos : Pos} (hu : X.A.units + 200 < cLine) (hk : k ≠ .pop ∧ k ≠ .extend) (ho : plainRecv o = true) (hl : (apos.endLine == pos.line) = true) (hn : notStar e = true) (hns : es.all notStar = true) (hz : es.length < 20)
    (h1 : PE X o (tE X.K T F W xo)) (h2 : PA X (e :: es) (tEs X.K T F W l)) : PE X (.Call (.Attribute o (Str.ofString (mthId k)) apos) (e :: es) [] pos) (tE X.K T F W (.mth k xo l)) := by
  have hall : (e :: es).all notStar = true := by simp [hn, hns]
  cases k with
  | append => exact PE_imp (pe_bm PySem.F.plainAttrs_list PySem.F.slot_list_append PySem.F.type_list_append mt_appendD h1 h2 (base_of ho) (few_of hall hz) hl (star_cons hn) (star_none hns)) fun σ H Q h => imp_mth rfl h
  | remove => exact PE_imp (pe_bm PySem.F.plainAttrs_list PySem.F.slot_list_remove PySem.F.type_list_remove (mt_removeD hu) h1 h2 (base_of ho) (few_of hall hz) hl (star_cons hn) (star_none hns)) fun σ H Q h => imp_mth rfl h
  | popAt => exact PE_imp (pe_bm PySem.F.plainAttrs_list PySem.F.slot_list_pop PySem.F.type_list_pop (mt_popAtD trivial) h1 h2 (base_of ho) (few_of hall hz) hl (star_cons hn) (star_none hns)) fun σ H Q h => imp_mth rfl h
  | index => exact PE_imp (pe_bm PySem.F.plainAttrs_list PySem.F.slot_list_index PySem.F.type_list_index (mt_indexD hu) h1 h2 (base_of ho) (few_of hall hz) hl (star_cons hn) (star_none hns)) fun σ H Q h => imp_mth rfl h
  | pop => exact absurd rfl hk.1
  | extend => exact absurd rfl hk.2
theorem e_pop {o : Expr} {xo : Ex} {apos : Pos} (ho : plainRecv o = true) (hl : (apos.endLine == pos.line) = true) (h1 : PE X o (tE X.K T F W xo)) : PE X (.Call (.Attribute o (Str.ofString "pop") apos) [] [] pos) (tE X.K T F W (.mth .pop xo [])) := by
  refine PE_imp (pe_bm0 PySem.F.plainAttrs_list PySem.F.slot_list_pop PySem.F.type_list_pop mt_popD h1 (base_of ho) hl) fun σ H Q ⟨μ, S, env, rs, re, h⟩ => ?_
  refine ⟨μ, S, env, rs, re, (Post.bind h).mono fun x H1 ⟨μ1, d, S1, rs1, e1, r1, h1⟩ => ?_⟩
  cases hl : lstOf S1 d with
  | none => rw [hl] at h1; exact h1.elim
  | some ds =>
    rw [hl] at h1
    obtain ⟨z, S', ez, q⟩ := Post.ok_of (r := mthV .pop d [] S1) h1 nx_mth
    exact ⟨tyV_lst rs1 r1 hl, μ1, S1, d, [], z, S', rs1, r1, .nil, ez, q⟩
/-! ### calls of the program's own defs -/
/-- a def's promise: it does what g does -/
def spF (K : PySem.W.Frag) (T : Tb) (g : List D → Store → Res D) (np : Nat) : Sp := fun vs H Q E => vs.length = np ∧ ∃ μ S ds, RelS K μ S H ∧ RepL K μ H vs ds ∧ Post K T μ H (RV K) Q E (g ds S)
/-- keywords in the parameters' order -/
def KwOk (K : PySem.W.Frag) (fd : FuncData) (ps : List Str) (k : Nat) : Prop :=
  ∀ (s : Shared) (us ws : List Value), K.In s.heap → us.length = k → ws.length = ps.length - k → BindsTo s fd ⟨us, (ps.drop k).zip ws⟩ (ps.zip (us ++ ws))
section
variable {k n : Nat} {f : Nat} {ad : Addr} {fd : FuncData} {ps : List Str} {ds : List Value} {dvs : List V} {dd : List D} {x : Str} {p : Pos} {l : List Ex} {es : List Expr}
theorem spF_of {μ : Mu} {S : Store} {H : Hp} {Q : VK} {E : XK} {g : List D → Store → Res D} {vs : List V} {xs : List D} (hlen : ∀ ds S, ds.length ≠ n → g ds S = .bad) (rs : RelS K μ S H) (r : RepL K μ H vs xs) (h : Post K T μ H (RV K) Q E (g xs S)) : spF K T g n vs H Q E := by
  refine ⟨?_, μ, S, xs, rs, r, h⟩
  rw [r.length]
  by_cases e : xs.length = n
  · exact e
  · rw [hlen xs S e] at h; exact h.elim
theorem imp_call {σ : L2.St} {H : Hp} {Q : VK} (hlen : ∀ ds S, ds.length ≠ n → F f ds S = .bad) (hd : ∀ μ H, RepL K μ H dvs dd) (h : tE K T F W (.call f l dd) σ H Q) : tCallSD (spF K T (F f) n) dvs (WE W) (tEs K T F W l) σ H Q := by
  obtain ⟨μ, S, env, rs, re, h⟩ := h
  exact ⟨μ, S, env, rs, re, (Post.bind h).mono fun xs H1 ⟨μ1, xd, S1, rs1, e1, r1, h1⟩ => spF_of hlen rs1 (r1.append (hd _ _)) h1⟩
theorem e_call (Fn : FnOk X.prog X.w X.K X.mg X.base (CX X.prog X.w) k ad fd ps (spF X.K T (F f) n)) (hr : Room k X.A) (hg : Gl X x) (hm : X.mg x = some (.ref ad)) (hk : PySem.W.keepIn X.K (.ref ad) = true) (hb : Binds X.K fd ps ds) (hv : Vals dvs ds) (hd : ∀ μ H, RepL X.K μ H dvs dd)
    (hlen : ∀ ds S, ds.length ≠ n → F f ds S = .bad) (tk : Takes X W) (hdb : (x == ("__debug__" : Str)) = false) (hn : notStar e = true) (hns : es.all notStar = true) (h : PA X (e :: es) (tEs X.K T F W l)) : PE X (.Call (.Name x p) (e :: es) [] pos) (tE X.K T F W (.call f l dd)) :=
  PE_imp (pe_callSD Fn hr hg hm hk hb hv (fun σ => passAt tk σ) h hdb (star_cons hn) (star_none hns)) fun σ H Q h => imp_call hlen hd h
theorem e_call0 (Fn : FnOk X.prog X.w X.K X.mg X.base (CX X.prog X.w) k ad fd ps (spF X.K T (F f) n)) (hr : Room k X.A) (hg : Gl X x) (hm : X.mg x = some (.ref ad)) (hk : PySem.W.keepIn X.K (.ref ad) = true) (hb : Binds X.K fd ps ds) (hv : Vals dvs ds) (hd : ∀ μ H, RepL X.K μ H dvs dd)
    (hlen : ∀ ds S, ds.length ≠ n → F f ds S = .bad) (tk : Takes X W) (hdb : (x == ("__debug__" : Str)) = false) : PE X (.Call (.Name x p) [] [] pos) (tE X.K T F W (.call f [] dd)) := by
  refine ⟨fun pins s σ H Q I ⟨μ, S, env, rs, re, h⟩ => ?_⟩
  refine wpAny_Call_Name_kw (ld_glob I hg hm ?_ hdb)
  exact PySem.W.callWith_K0 I.kIn hk (run_fnSD (us := []) (vs := []) (E := WE W) Fn hr hb hv (passAt tk σ) I .nil (spF_of hlen rs (hd _ _) h))
/-- the callee runs, keywords among the arguments -/
theorem run_kw {pins : List (Addr × Obj)} {σ : L2.St} {H : Hp} {s : Shared} {Q : VK} {us ws : List Value} {vs zs : List V} {j : Nat} {sp : Sp} (Fn : FnOk X.prog X.w X.K X.mg X.base (CX X.prog X.w) k ad fd ps sp) (hr : Room k X.A) (hb : KwOk X.K fd ps j) (tk : Takes X W)
    (I : Inv X pins σ H s) (r : Vals vs us) (rz : Vals zs ws) (h1 : us.length = j) (h2 : ws.length = ps.length - j) (h : sp (vs ++ zs) H Q (WE W σ)) : wpAny (model X.prog X.w) X.A (call (.ref ad) us ((ps.drop j).zip ws)) (EP X pins σ Q) X.xe s := by
  refine wpAny_call (codeAny_mono (Fn.run X.A X.stack s H ⟨us, (ps.drop j).zip ws⟩ (us ++ ws) (vs ++ zs) Q (WE W σ) hr I.env0 (hb s us ws I.kIn h1 h2) (r.append rz) h) fun q s' hq => ?_)
  cases q with
  | error e => exact passAt tk σ pins H s e s' I hq
  | ok fl =>
    cases fl with
    | ret u => exact I.after hq
    | next => exact hq.elim
    | brk => exact hq.elim
    | cont => exact hq.elim
/-- keywords' values -/
def tKs (K : PySem.W.Frag) (T : Tb) (F : FS) (W : WX) (l : List Ex) : TA := tEs K T F W l
theorem PK_imp {kws : List Keyword} {t t' : TA} (h : PK X kws t) (i : ∀ σ H Q, t' σ H Q → t σ H Q) : PK X kws t' := ⟨fun pos pins s σ H Q I hw => h.run pos pins s σ H Q I (i σ H Q hw)⟩
theorem ks_nil : PK X [] (tKs X.K T F W []) :=
  PK_imp pk_nil fun σ H Q ⟨μ, S, env, rs, re, h⟩ => h [] μ H rs .refl .nil
theorem ks_cons {nm : Option Str} {kp : Pos} {kws : List Keyword} {l : List Ex} (ha : PE X e (tE X.K T F W xa)) (hr : PK X kws (tKs X.K T F W l)) : PK X (⟨nm, e, kp⟩ :: kws) (tKs X.K T F W (xa :: l)) := by
  refine PK_imp (pk_cons ha hr) fun σ H Q ⟨μ, S, env, rs, re, h⟩ => ?_
  refine ⟨μ, S, env, rs, re, (Post.bind h).mono fun x H1 ⟨μ1, d, S1, rs1, e1, r1, h1⟩ => ?_⟩
  refine ⟨μ1, S1, env, rs1, re.mono e1, (Post.bind h1).mono fun xs H2 ⟨μ2, ds, S2, rs2, e2, r2, h2⟩ => ?_⟩
  exact h2 (x :: xs) μ2 H2 rs2 .refl (.cons (e2.mono _ _ r1) r2)
theorem evs_app {l1 l2 : List Ex} {env : Env} : ∀ {S : Store}, evs F (l1 ++ l2) env S = (evs F l1 env S).bind fun xs S1 => (evs F l2 env S1).bind fun ys S2 => .ok (xs ++ ys) S2 := by
  induction l1 with
  | nil =>
    intro S
    show evs F l2 env S = (Res.ok [] S).bind _
    simp only [Res.bind_ok, List.nil_append]
    cases evs F l2 env S <;> rfl
  | cons x l1 ih =>
    intro S
    have e1 : evs F (x :: l1 ++ l2) env S = (ev F x env S).bind fun d S1 => (evs F (l1 ++ l2) env S1).bind fun ys S2 => .ok (d :: ys) S2 := rfl
    have e2 : evs F (x :: l1) env S = (ev F x env S).bind fun d S1 => (evs F l1 env S1).bind fun ys S2 => .ok (d :: ys) S2 := rfl
    rw [e1, e2]
    cases ev F x env S with
    | ok d S1 =>
      simp only [Res.bind_ok, ih]
      cases evs F l1 env S1 with
      | ok xs S2 =>
        simp only [Res.bind_ok]
        cases evs F l2 env S2 <;> rfl
      | exc c d S2 => rfl
      | bad => rfl
    | exc c d S1 => rfl
    | bad => rfl
theorem evs_len {l : List Ex} {env : Env} : ∀ {S S' : Store} {xs : List D}, evs F l env S = .ok xs S' → xs.length = l.length := by
  induction l with
  | nil => intro S S' xs h; cases h; rfl
  | cons x l ih =>
    intro S S' xs h
    have h' : ((ev F x env S).bind fun d S1 => (evs F l env S1).bind fun ys S2 => .ok (d :: ys) S2) = .ok xs S' := h
    cases e1 : ev F x env S with
    | ok d S1 =>
      rw [e1] at h'
      simp only [Res.bind_ok] at h'
      cases e2 : evs F l env S1 with
      | ok ys S2 =>
        rw [e2] at h'
        cases h'
        simp [ih e2]
      | exc c d S2 => rw [e2] at h'; cases h'
      | bad => rw [e2] at h'; cases h'
    | exc c d S1 => rw [e1] at h'; cases h'
    | bad => rw [e1] at h'; cases h'
/-- the names of keywords, all told -/
def kwNames (kws : List Keyword) : List Str := kws.filterMap (·.1)
def kwAll (kws : List Keyword) : Bool := kws.all (·.1.isSome)
theorem kw_each {kws : List Keyword} {env : PySem.Env} {p : Pos} : (backToKw p (keywordEach kws env)).map (·.1) = kws.map (·.1) := by
  induction kws with
  | nil => rfl
  | cons a r ih =>
    obtain ⟨nm, v, kp⟩ := a
    show nm :: (backToKw p (keywordEach r env)).map (·.1) = nm :: r.map (·.1)
    rw [ih]
theorem kw_all {kws : List Keyword} {env : PySem.Env} {p : Pos} (h : kwAll kws = true) : (backToKw p (keywordEach kws env)).all (·.1.isSome) = true := by
  have := kw_each (kws := kws) (env := env) (p := p)
  have e : (backToKw p (keywordEach kws env)).all (·.1.isSome) = ((backToKw p (keywordEach kws env)).map (·.1)).all Option.isSome := by rw [List.all_map]; rfl
  rw [e, this, List.all_map]
  exact h
theorem kw_names {kws : List Keyword} {env : PySem.Env} {p : Pos} : (backToKw p (keywordEach kws env)).filterMap (·.1) = kwNames kws := by
  have e : (backToKw p (keywordEach kws env)).filterMap (·.1) = ((backToKw p (keywordEach kws env)).map (·.1)).filterMap id := by rw [List.filterMap_map]; rfl
  rw [e, kw_each, List.filterMap_map]
  rfl
theorem kw_plain {kws : List Keyword} {env : PySem.Env} {p : Pos} (h : kwAll kws = true) : (backToKw p (keywordEach kws env)).any (·.1.isNone) = false := by
  have h2 := kw_all (env := env) (p := p) h
  rw [List.any_eq_false]
  intro a ha
  have := List.all_eq_true.mp h2 a ha
  cases hh : a.1 <;> simp_all
theorem Post.lenL {μ : Mu} {H : Hp} {Q : List V → Hp → Prop} {E : XK} {l : List Ex} {env : Env} {S : Store} (h : Post K T μ H (RVs K) Q E (evs F l env S)) : Post K T μ H (RVs K) (fun vs H' => vs.length = l.length ∧ Q vs H') E (evs F l env S) := by
  cases hr : evs F l env S with
  | ok xs S' =>
    rw [hr] at h
    exact fun z μ' H' h1 h2 h3 => ⟨by rw [RepL.length h3, evs_len hr], h z μ' H' h1 h2 h3⟩
  | exc c d S' => rw [hr] at h; exact h
  | bad => rw [hr] at h; exact h
/-- f(.., k = v, ..), the keywords in the parameters' order -/
theorem e_callK {kws : List Keyword} {l2 : List Ex} (Fn : FnOk X.prog X.w X.K X.mg X.base (CX X.prog X.w) k ad fd ps (spF X.K T (F f) n)) (hr : Room k X.A) (hg : Gl X x) (hm : X.mg x = some (.ref ad)) (hk : PySem.W.keepIn X.K (.ref ad) = true) (hb : KwOk X.K fd ps l.length)
    (hlen : ∀ ds S, ds.length ≠ n → F f ds S = .bad) (tk : Takes X W) (hdb : (x == ("__debug__" : Str)) = false) (hka : kwAll kws = true) (hkn : kwNames kws = ps.drop l.length) (hl2 : l2.length = ps.length - l.length)
    (hns : es.all notStar = true) (hes : es = [] → l = []) (h : PA X es (tEs X.K T F W l)) (h2 : PK X kws (tKs X.K T F W l2)) : PE X (.Call (.Name x p) es kws pos) (tE X.K T F W (.call f (l ++ l2) [])) := by
  refine ⟨fun pins s σ H Q I ⟨μ, S, env, rs, re, h0⟩ => ?_⟩
  have h0' : Post X.K T μ H (RV X.K) Q (fun c o H' => W c o σ H') (((evs F l env S).bind fun xs S1 => (evs F l2 env S1).bind fun ys S2 => .ok (xs ++ ys) S2).bind fun xs S1 => F f (xs ++ []) S1) := by
    rw [← evs_app]; exact h0
  rw [bind_bind] at h0'
  have key : ∀ (us : List Value) (s1 : Shared), AP X pins σ (fun vs H1 => vs.length = l.length ∧ ∃ μ1 a S1, RelS X.K μ1 S1 H1 ∧ Ext X.K μ H μ1 H1 ∧ RepL X.K μ1 H1 vs a ∧ Post X.K T μ1 H1 (RV X.K) Q (fun c o H' => W c o σ H') (((evs F l2 env S1).bind fun ys S2 => .ok (a ++ ys) S2).bind fun xs S1 => F f (xs ++ []) S1)) us s1 →
      wpAny (model X.prog X.w) X.A (evalAll ((backToKw pos (keywordEach kws X.env)).map (·.2))) (fun ks s₂ => X.K.In s₂.heap ∧ wpAny (model X.prog X.w) X.A (call (.ref ad) us (((backToKw pos (keywordEach kws X.env)).filterMap (·.1)).zip ks)) (EP X pins σ Q) X.xe s₂) X.xe s1 := by
    intro us s1 ⟨vs, H1, I1, r1, hl1, μ1, a, S1, rs1, e1, ra, h1⟩
    rw [bind_bind] at h1
    refine thn (h2.run pos pins s1 σ H1 _ I1 ⟨μ1, S1, env, rs1, re.mono e1, Post.lenL (Post.bind (R' := RVs X.K) h1)⟩) fun ws s2 ⟨zs, H2, I2, rz, hz, μ2, b, S2, rs2, e2, rb, h3⟩ => ⟨I2.kIn, ?_⟩
    rw [kw_names, hkn]
    refine run_kw Fn hr hb tk I2 r1 rz (by rw [← r1.length]; exact hl1) (by rw [← rz.length, hz, hl2]) ?_
    simp only [Res.bind_ok, List.append_nil] at h3
    exact spF_of hlen rs2 ((e2.monoL ra).append rb) h3
  refine wpAny_Call_Name_kw (ld_glob I hg hm ?_ hdb)
  cases es with
  | nil =>
    refine PySem.W.callWith_KW0 (h₀ := X.base) I.ok.mod.kin hk (kw_all hka) ?_ (by rw [kw_plain hka]; rfl)
    cases hes rfl
    exact key [] s ⟨[], H, I, .nil, rfl, μ, [], S, rs, .refl, .nil, by simpa [evs] using h0'⟩
  | cons e es =>
    simp only [List.all_cons, Bool.and_eq_true] at hns
    refine PySem.W.callWith_KW (h₀ := X.base) I.ok.mod.kin hk (kw_all hka) (thn (h.run pos pins s σ H _ I ⟨μ, S, env, rs, re, Post.lenL (Post.bind (R' := RVs X.K) h0')⟩) fun us s1 h => key us s1 h) ?_ (star_cons hns.1)
    rw [kw_plain hka, star_none (by simp [hns])]
    rfl
end
end
end DL

set_option linter.all false
set_option maxRecDepth 100000
/-! DL.It: what loops walk. -/
namespace PySem
theorem enum_new1 {v : Value} {o : Obj} {H : Heap → Prop} (B : Begins v o H) :
    Meets (Builtin.«enumerate.__new__» ⟨[.type "enumerate", v], []⟩) (fun _ R s => H s.heap ∧
      R (.ok (.ret (.ref (s.heap.push o).objs.size))) { s with heap := (s.heap.push o).push { cls := .type "enumerate", data := .fields #[.none, .bool false, .ref s.heap.objs.size, rawInt 0, .none, .none] } }) :=
  .of_wp fun prog w A R s h => by
    obtain ⟨hp, g, d, tk, os⟩ := s
    obtain ⟨h1, h⟩ := h
    have hsub := sub_enumerate
    have q1 : ∀ {A' : Around} {E : Value → Shared → Prop} {Q : Value → Shared → Prop}, Q (.ref hp.objs.size) ⟨hp.push o, g, d, tk, os⟩ → wpAny (model prog w) A' (pyIter v) Q E ⟨hp, g, d, tk, os⟩ :=
      fun q => B.iter prog w _ _ ⟨hp, g, d, tk, os⟩ _ h1 q
    wp_walk using q1
    refine wpAny_stack_any fun st => wpAny_pure ?_
    split
    · rename_i c _ _ _ _ _
      cases (c == Value.type "enumerate") <;> (wp_walk using q1; exact ⟨_, rfl, h⟩)
    · wp_walk using q1
      exact ⟨_, rfl, h⟩
theorem enum_begins1 {prog : Program} {w : World} {A : Around} {E : Value → Shared → Prop} {s : Shared} {v : Value} {o : Obj} {H : Heap → Prop} {Q : Value → Shared → Prop} (B : Begins v o H) (h1 : H s.heap)
    (h : ∀ h', IsEnum h' (s.heap.objs.size + 1) s.heap.objs.size 0 .none → h'.get? s.heap.objs.size = some o → h'.objs.size = s.heap.objs.size + 2 →
      (∀ b ob, s.heap.get? b = some ob → h'.get? b = some ob) → Q (.ref (s.heap.objs.size + 1)) { s with heap := h' }) :
    wpAny (model prog w) A (call (.type "enumerate") [v]) Q E s := by
  refine callType_new F.called_enumerate (by decide) (F.typeCall_enumerate_1 _) (F.newCall_enumerate_1 _) (fun obj => F.args_object_init_2 obj _) F.entry_enumerate_new
    (enum_new1 B) ⟨h1, ?_⟩
  have hz : (s.heap.push o).objs.size = s.heap.objs.size + 1 := Heap.size_push ..
  show _ ∧ _
  rw [hz]
  have he : IsEnum ((s.heap.push o).push { cls := .type "enumerate", data := .fields #[.none, .bool false, .ref s.heap.objs.size, rawInt 0, .none, .none] }) (s.heap.objs.size + 1) s.heap.objs.size 0 .none := by
    have q := Heap.get?_push_size (s.heap.push o) (o := { cls := .type "enumerate", data := .fields #[.none, .bool false, .ref s.heap.objs.size, rawInt 0, .none, .none] }) rfl
    rw [hz] at q
    exact q
  exact ⟨⟨_, he, rfl⟩, h _ he (Heap.get?_push_of_some _ (Heap.get?_push_size _ B.free)) (by rw [Heap.size_push, hz]) fun b o x => Heap.get?_push_of_some _ (Heap.get?_push_of_some _ x)⟩
end PySem
namespace DL
open PySem L2 PySem.Spec PyProof.Rows
/-- enumerate(a tuple): each item in a new pair -/
def IteT (K : PySem.W.Frag) (a : Addr) : L2.It :=
  ⟨fun i H => ∃ (xs : List V) (x : V), SqT K H a xs ∧ xs[i]? = some x, fun i H v H' => ∃ T x, v = .ref T ∧ H T = none ∧ H' = upd H T (.tup [.int (i : Nat), x]) ∧ ∀ xs, SqT K H a xs → xs[i]? = some x, fun i H => ∃ xs : List V, SqT K H a xs ∧ xs.length = i⟩
theorem turn_enumT {P : Program} {w : World} {K : PySem.W.Frag} {elts : List Expr} {kk : Nat} {tpos : Pos} (a e it : Addr) :
    Turn P w K (.Tuple elts kk tpos) (IteT K a) [e, it] e (fun i h => (∃ old, IsEnum h e it ((i : Nat) : Int) old) ∧ h.IsTupleIter it a i ∧ e ≠ it) where
  mem := by simp
  obj := fun i h st b hb => by
    obtain ⟨⟨old, he⟩, ⟨o, ho, hc, hd⟩, _⟩ := st
    rcases (show b = e ∨ b = it by simpa using hb) with z | z
    · subst z; exact ⟨_, he, fun v q => nomatch q⟩
    · subst z; exact ⟨o, ho, fun v q => by rw [hd] at q; cases q⟩
  keep := fun i h h' st k => let ⟨⟨old, he⟩, hi, hne⟩ := st; ⟨⟨old, k e (by simp) _ he⟩, hi.at fun o q => k it (by simp) o q, hne⟩
  item := by
    intro X hP hw hK hc i pins s σ H E I hf st hg
    subst hP hw hK
    obtain ⟨⟨old, he⟩, hit, hne⟩ := st
    obtain ⟨xs, x, hq, hx⟩ := hg
    obtain ⟨its, rv, p, hz⟩ := I.tuple hq
    obtain ⟨u, hu, ru⟩ := rv.get hx
    have hel : e < s.heap.objs.size := Heap.lt_size he
    have hil : it < s.heap.objs.size := by obtain ⟨_, q, _⟩ := hit; exact Heap.lt_size q
    have pt : s.heap.IsTuple a its.toArray := p
    have hai : a ≠ it := by
      obtain ⟨o1, q1, c1, _⟩ := pt
      obtain ⟨o2, q2, c2, _⟩ := hit
      rintro rfl
      rw [q1] at q2; cases q2
      rw [c1] at c2
      simp at c2
    have hae : e ≠ a := by
      obtain ⟨o1, q1, c1, _⟩ := pt
      rintro rfl
      rw [he] at q1; cases q1
      simp at c1
    have hlt : i < its.length := (List.getElem?_eq_some_iff.mp hu).1
    refine wpAny_pyNext_enum_itemD (Draws.tuple (A := X.A.in1) (I.ok.hd hc) it a hai its.toArray) he ⟨hit, pt⟩ (by simpa using hlt) hne (by simp [hne, hae]) fun y h' tk hy ho hit' hT hsz hk => ?_
    obtain rfl : y = u := by
      have : its.toArray[i]? = some y := hy
      simp at this
      rw [hu] at this
      exact (Option.some.inj this).symm
    refine ⟨_, rfl, wpAny_letOwnedTupleGo_enum (s := { s with heap := h', toks := tk + 1 }) ho fun h'' he' sb => ?_⟩
    have hT2 : h''.get? s.heap.objs.size = some { cls := .type "tuple", data := .seq #[.int i tk, y] } := (sb.2 _ (Nat.ne_of_gt hel)).trans hT
    have new : ObjOk X.prog X.w (upd H s.heap.objs.size (.tup [.int (i : Nat), x])) h'' s.heap.objs.size (.tup [.int (i : Nat), x]) :=
      ⟨by show 2 ≤ sizeLine; decide, [.int i tk, y], .cons ⟨_, rfl⟩ (.cons ru .nil), ⟨_, hT2, rfl, _, rfl⟩⟩
    have I1 : Inv X pins σ (upd H s.heap.objs.size (.tup [.int (i : Nat), x])) { s with heap := h'', toks := tk + 1 } :=
      I.turnedNew (ch := [e, it]) (fun b ob hb q => (sb.2 b (fun z => hb (by simp [z]))).trans (hk b ob (fun z => hb (by simp [z])) (fun z => hb (by simp [z])) q)) hf (Nat.le_refl _) new
    refine ⟨.ref s.heap.objs.size, _, I1, rfl, ⟨_, x, rfl, I.hok.fresh (Nat.le_refl _), rfl, fun ys hy => by rw [I.tuple_inj hy hq]; exact hx⟩, ⟨⟨y, ?_⟩, hit'.1.at fun o q => (sb.2 it (Ne.symm hne)).trans q, hne⟩, fun b hb => ?_⟩
    · have e1 : ((i + 1 : Nat) : Int) = (i : Int) + 1 := by omega
      rw [e1]; exact he'
    · have hb' : b < s.heap.objs.size := by
        rcases (show b = e ∨ b = it by simpa using hb) with z | z
        · rw [z]; exact hel
        · rw [z]; exact hil
      rw [upd_ne (Nat.ne_of_lt hb')]
      exact (hf b hb).1
  done := by
    intro X hP hw hK hc i pins s σ H E I hf st hg
    subst hP hw hK
    obtain ⟨⟨old, he⟩, hit, hne⟩ := st
    obtain ⟨xs, hq, hx⟩ := hg
    obtain ⟨its, rv, p, hz⟩ := I.tuple hq
    have pt : s.heap.IsTuple a its.toArray := p
    obtain ⟨f0, f1, f2, f3, f4, f5⟩ := hf it (by simp)
    have hl := rv.length
    have hai : a ≠ it := by
      obtain ⟨o1, q1, c1, _⟩ := pt
      obtain ⟨o2, q2, c2, _⟩ := hit
      rintro rfl
      rw [q1] at q2; cases q2
      rw [c1] at c2
      simp at c2
    have hit' : s.heap.IsTupleIter it a its.toArray.size := by
      have : its.toArray.size = i := by simp; omega
      rw [this]; exact hit
    exact wpAny_pyNext_enum_endD (Draws.tuple (A := X.A.in1) (I.ok.hd hc) it a hai its.toArray) he ⟨hit', pt⟩ fun h' eb => ⟨rfl, I.turned (t' := s.toks) (fun b o hb q => eb b o hb q) f0 f1 f3 f4 f5⟩
  self := fun A i s Q E st h => let ⟨⟨_, he⟩, _⟩ := st; wpAny_pyIter_enum he h

theorem walk_enumT {K : PySem.W.Frag} {a : Addr} {xs : List V} : Walk (IteT K a) xs.length (fun H => SqT K H a xs) (fun i H v H' => ∃ T x, v = .ref T ∧ H T = none ∧ H' = upd H T (.tup [.int (i : Nat), x]) ∧ ∀ xs, SqT K H a xs → xs[i]? = some x) where
  goes i H hi h := ⟨xs, xs[i], h, by simp [hi]⟩
  stops H h := ⟨xs, h, rfl⟩
  yields i H x H' _ _ y := y
section
variable {K : PySem.W.Frag} {T : Tb} {F : FS} {W : WX} {X : Cx} {tg a b e : Expr} {xa xb : Ex} {pos : Pos}
/-- items are walked: J tells them, one by one, as long as the list stands still -/
structure WkD (K : PySem.W.Frag) (J : L2.It) (items : List D) (g : Option Nat) (S0 : Store) (μ1 : Mu) (H1 : Hp) : Prop where
  walk : ∃ (G : Hp → Prop) (Y : Nat → Hp → V → Hp → Prop), Walk J items.length G Y ∧ (∀ μ S H, RelS K μ S H → Mono K μ1 H1 μ H → still g S0 S = true → G H) ∧
    (∀ i x H H' μ S d, items[i]? = some d → RelS K μ S H → Mono K μ1 H1 μ H → still g S0 S = true → Y i H x H' → RelS K μ S H' ∧ Ext K μ H μ H' ∧ Rep K μ H' x d)
def evI (F : FS) (k : IK) (its : List Ex) (env : Env) (S : Store) : Res ((List D × Option Nat) × Store) := ((evs F its env S).bind fun vs S1 => itemsV k vs S1).bind fun p S2 => .ok (p, S2) S2
def tI (K : PySem.W.Frag) (T : Tb) (F : FS) (W : WX) (k : IK) (its : List Ex) : TI := fun σ H R => ∃ μ S env, RelS K μ S H ∧ RelE K μ H env σ ∧ Post K T μ H (fun μ1 H1 (J : L2.It) p => WkD K J p.1.1 p.1.2 p.2 μ1 H1) R (fun c o H' => W c o σ H') (evI F k its env S)
theorem PI_imp {t t' : TI} (h : PI X tg e t) (i : ∀ σ H Q, t' σ H Q → t σ H Q) : PI X tg e t' := ⟨fun pins s σ H Q I hw => h.run pins s σ H Q I (i σ H Q hw)⟩
theorem nx_items {k : IK} {vs : List D} {S : Store} : NoExc (itemsV k vs S) := by
  unfold itemsV
  split <;> (first | unfold valI | unfold rng1I | unfold rng2I | unfold enumI | unfold zipI)
  all_goals repeat' split
  all_goals first | exact nx_ok | exact nx_bad
theorem items_store {k : IK} {vs : List D} {S S' : Store} {p : List D × Option Nat} (h : itemsV k vs S = .ok p S') : S' = S := by
  unfold itemsV at h
  split at h <;> (first | unfold valI at h | unfold rng1I at h | unfold rng2I at h | unfold enumI at h | unfold zipI at h)
  all_goals repeat' split at h
  all_goals first | (cases h; rfl) | (cases h)
/-- the loop's items by the walked values -/
theorem imp_items {k : IK} {its : List Ex} {σ : L2.St} {H : Hp} {R : L2.It → Hp → Prop} (h : tI K T F W k its σ H R) : tEs K T F W its σ H fun vs H1 => ∃ μ1 S1 ds p, RelS K μ1 S1 H1 ∧ RepL K μ1 H1 vs ds ∧ itemsV k ds S1 = .ok p S1 ∧ ∀ J, WkD K J p.1 p.2 S1 μ1 H1 → R J H1 := by
  obtain ⟨μ, S, env, rs, re, h⟩ := h
  unfold evI at h
  rw [bind_bind] at h
  refine ⟨μ, S, env, rs, re, (Post.bind h).mono fun vs H1 ⟨μ1, ds, S1, rs1, e1, r1, h1⟩ => ?_⟩
  cases hp : itemsV k ds S1 with
  | exc c d S' => exact absurd hp (nx_items c d S')
  | bad => rw [hp] at h1; exact h1.elim
  | ok p S' =>
    cases items_store hp
    rw [hp] at h1
    exact ⟨μ1, S1, ds, p, rs1, r1, hp, fun J w => h1 J μ1 H1 rs1 .refl w⟩
theorem keep_tup {μ1 μ : Mu} {H1 H : Hp} {a : Addr} {ds : List D} (r : Rep K μ1 H1 (.ref a) (.tuple ds)) (e : Mono K μ1 H1 μ H) : ∃ xs, SqT K H a xs ∧ RepL K μ H xs ds := by
  have := e.mono _ _ r
  cases this with
  | tup h1 h2 => exact ⟨_, h1, h2⟩
theorem sqT_inj {H : Hp} {a : Addr} {xs ys : List V} (h1 : Rd H a (.tup xs)) (h2 : Rd H a (.tup ys)) : xs = ys := by
  rcases h1 with h1 | ⟨o, h1⟩ <;> rcases h2 with h2 | ⟨o', h2⟩ <;> rw [h1] at h2 <;> simp at h2
  · exact h2
  · exact h2.2
/-- the list that is walked, as it stands now -/
theorem keep_lst {μ1 μ : Mu} {H1 H : Hp} {S0 S : Store} {a : Addr} {d : D} {ds : List D} (rs0 : RelS K μ1 S0 H1) (r : Rep K μ1 H1 (.ref a) d) (hd : lstOf S0 d = some ds) (rs : RelS K μ S H) (e : Mono K μ1 H1 μ H) (st : still (locOf d) S0 S = true) : ∃ xs, SqL K H a xs ∧ RepL K μ H xs ds := by
  have r' := e.mono _ _ r
  cases r with
  | lst _ _ _ =>
    cases r' with
    | lst h1 h2 h3 =>
      simp [lstOf] at hd
      subst hd
      exact ⟨_, .inl (.inl h2), h3⟩
  | ro _ =>
    simp [lstOf] at hd
    subst hd
    obtain ⟨a', e1, h1⟩ := ro_inv r' rfl
    cases e1
    exact ⟨_, h1.sql, .ints⟩
  | rf h1 =>
    rename_i n
    simp [lstOf] at hd
    simp only [locOf, still, Int.toNat_natCast, hd] at st
    cases hS : atL S n with
    | none => simp [hS] at st
    | some ys =>
      rw [hS] at st
      have := beqL_eq (show beqL ds ys = true from st)
      subst this
      obtain ⟨b, xs, e1, e2, e3⟩ := rs.lst_at hS
      cases r' with
      | rf h2 =>
        rw [h2] at e1
        cases e1
        exact ⟨xs, .inl (.inl e2), e3⟩
  | _ => simp [lstOf] at hd
theorem wk_list {μ1 : Mu} {H1 : Hp} {S0 : Store} {a : Addr} {d : D} {ds : List D} (rs0 : RelS K μ1 S0 H1) (r : Rep K μ1 H1 (.ref a) d) (hd : lstOf S0 d = some ds) : WkD K (Itl K a) ds (locOf d) S0 μ1 H1 := by
  refine ⟨fun H => ∃ xs, SqL K H a xs ∧ xs.length = ds.length, fun i H x H' => H' = H ∧ ∀ xs, SqL K H a xs → xs[i]? = some x, ⟨fun i H hi ⟨xs, h, hl⟩ => ?_, fun H ⟨xs, h, hl⟩ => ?_, fun i H x H' _ _ y => y⟩, fun μ S H rs e st => ?_, fun i x H H' μ S d' hi rs e st y => ?_⟩
  · exact ⟨xs, xs[i]'(by omega), h, by simp⟩
  · exact ⟨xs, h, by omega⟩
  · obtain ⟨xs, h1, h2⟩ := keep_lst rs0 r hd rs e st
    exact ⟨xs, h1, h2.length⟩
  · obtain ⟨rfl, y⟩ := y
    obtain ⟨xs, h1, h2⟩ := keep_lst rs0 r hd rs e st
    obtain ⟨v, e1, r1⟩ := h2.get hi
    rw [y xs h1] at e1
    cases e1
    exact ⟨rs, .refl, r1⟩
theorem wk_tup {μ1 : Mu} {H1 : Hp} {S0 : Store} {a : Addr} {ds : List D} (r : Rep K μ1 H1 (.ref a) (.tuple ds)) : WkD K (Itt K a) ds none S0 μ1 H1 := by
  refine ⟨fun H => ∃ xs, SqT K H a xs ∧ xs.length = ds.length, fun i H x H' => H' = H ∧ ∀ xs, SqT K H a xs → xs[i]? = some x, ⟨fun i H hi ⟨xs, h, hl⟩ => ?_, fun H ⟨xs, h, hl⟩ => ?_, fun i H x H' _ _ y => y⟩, fun μ S H rs e st => ?_, fun i x H H' μ S d' hi rs e st y => ?_⟩
  · exact ⟨xs, xs[i]'(by omega), h, by simp⟩
  · exact ⟨xs, h, by omega⟩
  · obtain ⟨xs, h1, h2⟩ := keep_tup r e
    exact ⟨xs, h1, h2.length⟩
  · obtain ⟨rfl, y⟩ := y
    obtain ⟨xs, h1, h2⟩ := keep_tup r e
    obtain ⟨v, e1, r1⟩ := h2.get hi
    rw [y xs h1] at e1
    cases e1
    exact ⟨rs, .refl, r1⟩
/-- a pair newly laid -/
theorem new_pair {μ : Mu} {S : Store} {H : Hp} {p : Addr} {x y : V} {dx dy : D} (rs : RelS K μ S H) (hp : H p = none) (hx : Rep K μ H x dx) (hy : Rep K μ H y dy) :
    RelS K μ S (upd H p (.tup [x, y])) ∧ Ext K μ H μ (upd H p (.tup [x, y])) ∧ Rep K μ (upd H p (.tup [x, y])) (.ref p) (.tuple [dx, dy]) := by
  obtain ⟨h1, h2⟩ := rs.new (o := .tup [x, y]) hp
  exact ⟨h1, h2, .tup (.inl (.inl upd_same)) (.cons (h2.mono _ _ hx) (.cons (h2.mono _ _ hy) .nil))⟩
theorem enum_get {ds : List D} {i : Nat} {d : D} (h : (ds.mapIdx fun i x => PyData.tuple [.int i, x])[i]? = some d) : ∃ x, ds[i]? = some x ∧ d = .tuple [.int i, x] := by
  rw [List.getElem?_mapIdx] at h
  cases hx : ds[i]? with
  | none => rw [hx] at h; simp at h
  | some x => rw [hx] at h; simp at h; exact ⟨x, rfl, h.symm⟩
theorem wk_enumL {μ1 : Mu} {H1 : Hp} {S0 : Store} {a : Addr} {d : D} {ds : List D} (rs0 : RelS K μ1 S0 H1) (r : Rep K μ1 H1 (.ref a) d) (hd : lstOf S0 d = some ds) : WkD K (Ite K a) (ds.mapIdx fun i x => .tuple [.int i, x]) (locOf d) S0 μ1 H1 := by
  refine ⟨fun H => ∃ xs, SqL K H a xs ∧ xs.length = ds.length, fun i H v H' => ∃ T x, v = .ref T ∧ H T = none ∧ H' = upd H T (.tup [.int (i : Nat), x]) ∧ ∀ xs, SqL K H a xs → xs[i]? = some x, ⟨fun i H hi ⟨xs, h, hl⟩ => ?_, fun H ⟨xs, h, hl⟩ => ?_, fun i H x H' _ _ y => y⟩, fun μ S H rs e st => ?_, fun i x H H' μ S d' hi rs e st y => ?_⟩
  · simp at hi
    exact ⟨xs, xs[i]'(by omega), h, by simp⟩
  · exact ⟨xs, h, by simp; omega⟩
  · obtain ⟨xs, h1, h2⟩ := keep_lst rs0 r hd rs e st
    exact ⟨xs, h1, h2.length⟩
  · obtain ⟨p, x', rfl, hp, rfl, y⟩ := y
    obtain ⟨xs, h1, h2⟩ := keep_lst rs0 r hd rs e st
    obtain ⟨dx, hi', rfl⟩ := enum_get hi
    obtain ⟨v, e1, r1⟩ := h2.get hi'
    rw [y xs h1] at e1
    cases e1
    exact new_pair rs hp (.int _) r1
theorem wk_enumT {μ1 : Mu} {H1 : Hp} {S0 : Store} {a : Addr} {ds : List D} (r : Rep K μ1 H1 (.ref a) (.tuple ds)) : WkD K (IteT K a) (ds.mapIdx fun i x => .tuple [.int i, x]) none S0 μ1 H1 := by
  refine ⟨fun H => ∃ xs, SqT K H a xs ∧ xs.length = ds.length, fun i H v H' => ∃ T x, v = .ref T ∧ H T = none ∧ H' = upd H T (.tup [.int (i : Nat), x]) ∧ ∀ xs, SqT K H a xs → xs[i]? = some x, ⟨fun i H hi ⟨xs, h, hl⟩ => ?_, fun H ⟨xs, h, hl⟩ => ?_, fun i H x H' _ _ y => y⟩, fun μ S H rs e st => ?_, fun i x H H' μ S d' hi rs e st y => ?_⟩
  · simp at hi
    exact ⟨xs, xs[i]'(by omega), h, by simp⟩
  · exact ⟨xs, h, by simp; omega⟩
  · obtain ⟨xs, h1, h2⟩ := keep_tup r e
    exact ⟨xs, h1, h2.length⟩
  · obtain ⟨p, x', rfl, hp, rfl, y⟩ := y
    obtain ⟨xs, h1, h2⟩ := keep_tup r e
    obtain ⟨dx, hi', rfl⟩ := enum_get hi
    obtain ⟨v, e1, r1⟩ := h2.get hi'
    rw [y xs h1] at e1
    cases e1
    exact new_pair rs hp (.int _) r1
theorem wk_rng {μ1 : Mu} {H1 : Hp} {S0 : Store} {lo : Int} {n : Nat} : WkD K (Itr lo n) ((List.range n).map fun (k : Nat) => .int (lo + (k : Int))) none S0 μ1 H1 := by
  refine ⟨fun _ => True, fun i H x H' => H' = H ∧ x = .int (lo + i), ⟨fun i H hi _ => ?_, fun H _ => ?_, fun i H x H' _ _ y => y⟩, fun _ _ _ _ _ _ => trivial, fun i x H H' μ S d' hi rs e st y => ?_⟩
  · show i < n
    simpa using hi
  · show n ≤ _
    simp
  · obtain ⟨rfl, rfl⟩ := y
    by_cases hn : i < n
    · simp [hn] at hi
      subst hi
      exact ⟨rs, .refl, .int _⟩
    · simp [hn] at hi
theorem zip_get {xs ys : List D} {i : Nat} {d : D} (h : (List.zipWith (fun x y => PyData.tuple [x, y]) xs ys)[i]? = some d) : ∃ x y, xs[i]? = some x ∧ ys[i]? = some y ∧ d = .tuple [x, y] := by
  rw [List.getElem?_zipWith] at h
  cases hx : xs[i]? with
  | none => simp [hx] at h
  | some x =>
    cases hy : ys[i]? with
    | none => simp [hx, hy] at h
    | some y => simp [hx, hy] at h; exact ⟨x, y, rfl, rfl, h.symm⟩

/-- over a list or a tuple -/
theorem i_val (ha : PE X e (tE X.K T F W xa)) : PI X tg e (tI X.K T F W .val [xa]) := by
  refine ⟨fun pins s σ H R I h => ?_⟩
  have h' := imp_items h
  obtain ⟨μ, S, env, rs, re, h1⟩ := h'
  have h2 : Post X.K T μ H (RV X.K) (fun z H1 => ∃ a, z = .ref a ∧ ((∃ xs, SqL X.K H1 a xs) ∧ R (Itl X.K a) H1 ∨ (∃ xs, SqT X.K H1 a xs) ∧ R (Itt X.K a) H1)) (fun c o H' => W c o σ H') (ev F xa env S) := by
    have h3 : Post X.K T μ H (RVs X.K) (fun vs H1 => ∃ μ1 S1 ds p, RelS X.K μ1 S1 H1 ∧ RepL X.K μ1 H1 vs ds ∧ itemsV .val ds S1 = .ok p S1 ∧ ∀ J, WkD X.K J p.1 p.2 S1 μ1 H1 → R J H1) (fun c o H' => W c o σ H') ((ev F xa env S).bind fun x S1 => .ok [x] S1) := by
      have e0 : evs F [xa] env S = (ev F xa env S).bind fun x S1 => .ok [x] S1 := by
        show (ev F xa env S).bind _ = _
        cases ev F xa env S <;> rfl
      rw [← e0]
      exact h1
    cases hr : ev F xa env S with
    | exc c d S' => rw [hr] at h3; exact h3
    | bad => rw [hr] at h3; exact h3
    | ok d S' =>
      rw [hr] at h3
      intro z μ' H' g1 g2 g3
      obtain ⟨μ1, S1, ds, p, rs1, r1, hp, q⟩ := h3 [z] μ' H' g1 g2 (.cons g3 .nil)
      match ds, hp with
      | [a], hp =>
        have ra : Rep X.K μ1 H' z a := by cases r1 with | cons h _ => exact h
        simp only [itemsV, valI] at hp
        cases hs : seqOf S1 a with
        | none => rw [hs] at hp; cases hp
        | some xs =>
          rw [hs] at hp
          cases hp
          cases ra with
          | tup t1 l1 =>
            simp [seqOf] at hs
            subst hs
            exact ⟨_, rfl, .inr ⟨⟨_, t1⟩, q _ (wk_tup (.tup t1 l1))⟩⟩
          | lst t0 t1 l1 =>
            have hl : lstOf S1 (.list ‹List D›) = some xs := by simpa [seqOf, lstOf] using hs
            exact ⟨_, rfl, .inl ⟨⟨_, .inl (.inl t1)⟩, q _ (wk_list rs1 (.lst t0 t1 l1) hl)⟩⟩
          | rf t1 =>
            have hl : lstOf S1 (rf ‹Nat›) = some xs := by simpa [seqOf, lstOf] using hs
            obtain ⟨a, ys, e1, k1, k2⟩ := lst_of rs1 (.rf t1) hl
            cases e1
            exact ⟨_, rfl, .inl ⟨⟨_, k1⟩, q _ (wk_list rs1 (.rf t1) hl)⟩⟩
          | ro t1 =>
            have hl : lstOf S1 (ro ‹List Int›) = some xs := by simpa [seqOf, lstOf] using hs
            exact ⟨_, rfl, .inl ⟨⟨_, t1.sql⟩, q _ (wk_list rs1 (.ro t1) hl)⟩⟩
          | _ => simp [seqOf] at hs
      | [], hp => cases hp
      | _ :: _ :: _, hp => cases hp
  refine thn (ha.run pins s σ H _ I ⟨μ, S, env, rs, re, h2⟩) fun v s1 ⟨x, H1, I1, r1, a, ex, q1⟩ => ?_
  subst ex
  cases r1
  rcases q1 with ⟨⟨xs, hq⟩, q⟩ | ⟨⟨xs, hq⟩, q⟩
  · obtain ⟨its, rv, p, hz⟩ := I1.list hq
    refine wpAny_pyIter_list p.isList ⟨s1.heap.objs.size, [s1.heap.objs.size], _, _, H1, rfl, I1.kept (t' := s1.toks) fun b o e => Heap.get?_push_of_some _ e, turn_list a _, ⟨_, Heap.get?_push_size _ rfl, rfl, rfl⟩, fun b hb => ?_, q⟩
    obtain rfl : b = s1.heap.objs.size := by simpa using hb
    exact I1.fpOk (Nat.le_refl _) (I1.hok.fresh (Nat.le_refl _))
  · obtain ⟨its, rv, p, hz⟩ := I1.tuple hq
    refine wpAny_pyIter_tuple (show s1.heap.IsTuple a its.toArray from p) ⟨s1.heap.objs.size, [s1.heap.objs.size], _, _, H1, rfl, I1.kept (t' := s1.toks) fun b o e => Heap.get?_push_of_some _ e, turn_tuple a _, ⟨_, Heap.get?_push_size _ rfl, rfl, rfl⟩, fun b hb => ?_, q⟩
    obtain rfl : b = s1.heap.objs.size := by simpa using hb
    exact I1.fpOk (Nat.le_refl _) (I1.hok.fresh (Nat.le_refl _))
theorem i_rng1 {p : Pos} (hg : Gl X "range") (hm : X.mg "range" = none) (hn : notStar a = true) (ha : PA X [a] (tEs X.K T F W [xa])) : PI X tg (.Call (.Name "range" p) [a] [] pos) (tI X.K T F W .rng1 [xa]) := by
  refine PI_imp (pi_range1 hg hm ha (star_cons hn)) fun σ H R h => ?_
  obtain ⟨μ, S, env, rs, re, h⟩ := imp_items h
  refine ⟨μ, S, env, rs, re, h.mono fun vs H1 ⟨μ1, S1, ds, p, rs1, r1, hp, q⟩ => ?_⟩
  have hp : rng1I ds S1 = .ok p S1 := hp
  unfold rng1I at hp
  split at hp <;> try (cases hp; done)
  obtain ⟨z, rfl, rz⟩ := r1.one
  cases rz
  split at hp
  · rename_i j hj
    cases hp
    refine ⟨_, rfl, hj.1, hj.2.1, q _ ?_⟩
    have := wk_rng (K := X.K) (μ1 := μ1) (H1 := H1) (S0 := S1) (lo := 0) (n := Int.toNat ‹Int›)
    simpa using this
  · cases hp
theorem i_rng2 {p : Pos} (hg : Gl X "range") (hm : X.mg "range" = none) (hn : notStar a = true) (hnb : notStar b = true) (ha : PA X [a, b] (tEs X.K T F W [xa, xb])) : PI X tg (.Call (.Name "range" p) [a, b] [] pos) (tI X.K T F W .rng2 [xa, xb]) := by
  refine PI_imp (pi_range2 hg hm ha (by rw [star_cons hn, star_cons hnb]; rfl) (star_cons hnb)) fun σ H R h => ?_
  obtain ⟨μ, S, env, rs, re, h⟩ := imp_items h
  refine ⟨μ, S, env, rs, re, h.mono fun vs H1 ⟨μ1, S1, ds, p, rs1, r1, hp, q⟩ => ?_⟩
  have hp : rng2I ds S1 = .ok p S1 := hp
  unfold rng2I at hp
  split at hp <;> try (cases hp; done)
  obtain ⟨z, y, rfl, rz, ry⟩ := r1.two
  cases rz
  cases ry
  split at hp
  · rename_i j hj
    cases hp
    exact ⟨_, _, rfl, hj.1, q _ wk_rng⟩
  · cases hp

theorem i_enum {elts : List Expr} {kk : Nat} {tpos p : Pos} (hg : Gl X "enumerate") (hm : X.mg "enumerate" = none) (hn : notStar a = true) (ha : PA X [a] (tEs X.K T F W [xa])) : PI X (.Tuple elts kk tpos) (.Call (.Name "enumerate" p) [a] [] pos) (tI X.K T F W .enum [xa]) := by
  refine ⟨fun pins s σ H R I h => ?_⟩
  obtain ⟨μ, S, env, rs, re, h⟩ := imp_items h
  refine Call_ (ld_blt I hg hm boot_enumerate (PyProof.Rows.callWith_type1 (thn (ha.run pos pins s σ H _ I ⟨μ, S, env, rs, re, h⟩) fun us s1 ⟨vs, H1, I1, rv, μ1, S1, ds, p, rs1, r1, hp, q⟩ => ?_) (star_cons hn) rfl))
  have hp : enumI ds S1 = .ok p S1 := hp
  obtain ⟨d, rfl⟩ : ∃ d, ds = [d] := by
    unfold enumI at hp
    split at hp
    · exact ⟨_, rfl⟩
    · cases hp
  obtain ⟨z, rfl, rz⟩ := r1.one
  obtain ⟨u, rfl, ru⟩ := vals1 rv
  simp only [enumI] at hp
  cases hs : seqOf S1 d with
  | none => rw [hs] at hp; cases hp
  | some xs =>
    rw [hs] at hp
    cases hp
    have hL : ∀ (a : Addr), z = .ref a → lstOf S1 d = some xs → wpAny (model X.prog X.w) X.A (call (.type "enumerate") ([] ++ [u])) (fun v s2 => wpAny (model X.prog X.w) X.A (pyIter v) (PIE X pins σ (.Tuple elts kk tpos) R) X.xe s2) X.xe s1 := by
      rintro a rfl hl
      obtain ⟨_, ys, e1, k1, k2⟩ := lst_of rs1 rz hl
      cases e1
      cases ru
      obtain ⟨its, rv', p', hz⟩ := I1.list k1
      refine call_enumerate_list p'.isList fun h' he hit hsz hk => wpAny_pyIter_enum he ?_
      have I2 : Inv X pins σ H1 { s1 with heap := h' } := I1.kept (t' := s1.toks) hk
      refine ⟨s1.heap.objs.size + 1, [s1.heap.objs.size + 1, s1.heap.objs.size], _, _, H1, rfl, I2, turn_enum a (s1.heap.objs.size + 1) s1.heap.objs.size, ⟨⟨.none, he⟩, hit, Nat.succ_ne_self _⟩, fun b hb => ?_, q _ (wk_enumL rs1 rz hl)⟩
      have hle : s1.heap.objs.size ≤ b := by
        rcases (show b = s1.heap.objs.size + 1 ∨ b = s1.heap.objs.size by simpa using hb) with z | z
        · rw [z]; exact Nat.le_add_right _ _
        · rw [z]; exact Nat.le_refl _
      exact I1.fpOk hle (I1.hok.fresh hle)
    cases rz with
    | tup t1 l1 =>
      rename_i a ys _
      cases ru
      simp [seqOf] at hs
      subst hs
      obtain ⟨its, rv', p', hz⟩ := I1.tuple t1
      refine enum_begins1 (begins_tuple a its.toArray) p' fun h' he hit hsz hk => wpAny_pyIter_enum he ?_
      have I2 : Inv X pins σ H1 { s1 with heap := h' } := I1.kept (t' := s1.toks) hk
      refine ⟨s1.heap.objs.size + 1, [s1.heap.objs.size + 1, s1.heap.objs.size], _, _, H1, rfl, I2, turn_enumT a (s1.heap.objs.size + 1) s1.heap.objs.size, ⟨⟨.none, he⟩, ⟨_, hit, rfl, rfl⟩, Nat.succ_ne_self _⟩, fun b hb => ?_, q _ (wk_enumT (.tup t1 l1))⟩
      have hle : s1.heap.objs.size ≤ b := by
        rcases (show b = s1.heap.objs.size + 1 ∨ b = s1.heap.objs.size by simpa using hb) with z | z
        · rw [z]; exact Nat.le_add_right _ _
        · rw [z]; exact Nat.le_refl _
      exact I1.fpOk hle (I1.hok.fresh hle)
    | lst t0 t1 l1 => exact hL _ rfl (by simpa [seqOf, lstOf] using hs)
    | rf t1 => exact hL _ rfl (by simpa [seqOf, lstOf] using hs)
    | ro t1 => exact hL _ rfl (by simpa [seqOf, lstOf] using hs)
    | _ => simp [seqOf] at hs
theorem wk_zipT {μ1 : Mu} {H1 : Hp} {S0 : Store} {a b : Addr} {xs ys : List D} (r : Rep K μ1 H1 (.ref a) (.tuple xs)) (r' : Rep K μ1 H1 (.ref b) (.tuple ys)) : WkD K (RZ.ItzT K a b) (List.zipWith (fun x y => .tuple [x, y]) xs ys) none S0 μ1 H1 := by
  refine ⟨fun H => ∃ us vs, SqT K H a us ∧ us.length = xs.length ∧ SqT K H b vs ∧ vs.length = ys.length, fun i H v H' => ∃ T x y, v = .ref T ∧ H T = none ∧ H' = upd H T (.tup [x, y]) ∧ (∀ xs, SqT K H a xs → xs[i]? = some x) ∧ ∀ ys, SqT K H b ys → ys[i]? = some y, ⟨fun i H hi ⟨us, vs, h, hl, h', hl'⟩ => ?_, fun H ⟨us, vs, h, hl, h', hl'⟩ => ?_, fun i H x H' _ _ y => y⟩, fun μ S H rs e st => ?_, fun i x H H' μ S d' hi rs e st y => ?_⟩
  · simp at hi
    exact ⟨us, vs, us[i]'(by omega), vs[i]'(by omega), h, h', by simp, by simp⟩
  · refine ⟨us, vs, h, h', ?_⟩
    simp
    omega
  · obtain ⟨us, h1, h2⟩ := keep_tup r e
    obtain ⟨vs, h3, h4⟩ := keep_tup r' e
    exact ⟨us, vs, h1, h2.length, h3, h4.length⟩
  · obtain ⟨p, x', y', rfl, hp, rfl, yx, yy⟩ := y
    obtain ⟨us, h1, h2⟩ := keep_tup r e
    obtain ⟨vs, h3, h4⟩ := keep_tup r' e
    obtain ⟨dx, dy, ex, ey, rfl⟩ := zip_get hi
    obtain ⟨v, e1, r1⟩ := h2.get ex
    obtain ⟨w, e2, r2⟩ := h4.get ey
    rw [yx us h1] at e1
    rw [yy vs h3] at e2
    cases e1; cases e2
    exact new_pair rs hp r1 r2
theorem wk_zipL {μ1 : Mu} {H1 : Hp} {S0 : Store} {a b : Addr} {d d2 : D} {xs ys : List D} (rs0 : RelS K μ1 S0 H1) (r : Rep K μ1 H1 (.ref a) d) (hd : lstOf S0 d = some xs) (r' : Rep K μ1 H1 (.ref b) d2) (hd2 : lstOf S0 d2 = some ys) (hb : locOf d2 = none) : WkD K (Itz K a b) (List.zipWith (fun x y => .tuple [x, y]) xs ys) (locOf d) S0 μ1 H1 := by
  have st2 : ∀ S, still (locOf d2) S0 S = true := fun S => by rw [hb]; rfl
  refine ⟨fun H => ∃ us vs, SqL K H a us ∧ us.length = xs.length ∧ SqL K H b vs ∧ vs.length = ys.length, fun i H v H' => ∃ T x y, v = .ref T ∧ H T = none ∧ H' = upd H T (.tup [x, y]) ∧ (∀ xs, SqL K H a xs → xs[i]? = some x) ∧ ∀ ys, SqL K H b ys → ys[i]? = some y, ⟨fun i H hi ⟨us, vs, h, hl, h', hl'⟩ => ?_, fun H ⟨us, vs, h, hl, h', hl'⟩ => ?_, fun i H x H' _ _ y => y⟩, fun μ S H rs e st => ?_, fun i x H H' μ S d' hi rs e st y => ?_⟩
  · simp at hi
    exact ⟨us, vs, us[i]'(by omega), vs[i]'(by omega), h, h', by simp, by simp⟩
  · refine ⟨us, vs, h, h', ?_⟩
    simp
    omega
  · obtain ⟨us, h1, h2⟩ := keep_lst rs0 r hd rs e st
    obtain ⟨vs, h3, h4⟩ := keep_lst rs0 r' hd2 rs e (st2 S)
    exact ⟨us, vs, h1, h2.length, h3, h4.length⟩
  · obtain ⟨p, x', y', rfl, hp, rfl, yx, yy⟩ := y
    obtain ⟨us, h1, h2⟩ := keep_lst rs0 r hd rs e st
    obtain ⟨vs, h3, h4⟩ := keep_lst rs0 r' hd2 rs e (st2 S)
    obtain ⟨dx, dy, ex, ey, rfl⟩ := zip_get hi
    obtain ⟨v, e1, r1⟩ := h2.get ex
    obtain ⟨w, e2, r2⟩ := h4.get ey
    rw [yx us h1] at e1
    rw [yy vs h3] at e2
    cases e1; cases e2
    exact new_pair rs hp r1 r2
theorem i_zip {elts : List Expr} {kk : Nat} {tpos p : Pos} (hg : Gl X "zip") (hm : X.mg "zip" = none) (hn : notStar a = true) (hnb : notStar b = true) (ha : PA X [a, b] (tEs X.K T F W [xa, xb])) : PI X (.Tuple elts kk tpos) (.Call (.Name "zip" p) [a, b] [] pos) (tI X.K T F W .zip [xa, xb]) := by
  refine PI_imp (RZ.pi_zipA hg hm ha (star_cons hn) (star_none (by simp [hnb]))) fun σ H R h => ?_
  obtain ⟨μ, S, env, rs, re, h⟩ := imp_items h
  refine ⟨μ, S, env, rs, re, h.mono fun vs H1 ⟨μ1, S1, ds, p, rs1, r1, hp, q⟩ => ?_⟩
  have hp : zipI ds S1 = .ok p S1 := hp
  unfold zipI at hp
  split at hp <;> try (cases hp; done)
  obtain ⟨z, y, rfl, rz, ry⟩ := r1.two
  split at hp
  · cases hp
    cases rz with
    | tup t1 l1 =>
    cases ry with
    | tup t2 l2 => exact ⟨_, _, _, _, rfl, .inr ⟨t1, t2, q _ (wk_zipT (.tup t1 l1) (.tup t2 l2))⟩⟩
  · split at hp
    · rename_i hx hy hb
      cases hp
      obtain ⟨a, us, rfl, k1, k2⟩ := lst_of rs1 rz hx
      obtain ⟨b, ws, rfl, k3, k4⟩ := lst_of rs1 ry hy
      exact ⟨_, _, _, _, rfl, .inl ⟨k1, k3, q _ (wk_zipL rs1 rz hx ry hy hb)⟩⟩
    · cases hp
end
end DL

set_option linter.all false
set_option maxRecDepth 100000
/-! DL.St: targets and statements, by data. -/
namespace DL
open PySem L2 PySem.Spec PyProof.Rows
/-- what is wanted behind a statement -/
def PostS (K : PySem.W.Frag) (T : Tb) (μ : Mu) (H : Hp) (Dn : Ends) (W : WX) : Out → Prop
  | .nx env' S' => ∀ σ' μ' H', RelS K μ' S' H' → Ext K μ H μ' H' → RelE K μ' H' env' σ' → Dn.nx σ' H'
  | .bk env' S' => ∀ σ' μ' H', RelS K μ' S' H' → Ext K μ H μ' H' → RelE K μ' H' env' σ' → Dn.bk σ' H'
  | .ct env' S' => ∀ σ' μ' H', RelS K μ' S' H' → Ext K μ H μ' H' → RelE K μ' H' env' σ' → Dn.ct σ' H'
  | .rt d S' => ∀ z μ' H', RelS K μ' S' H' → Ext K μ H μ' H' → Rep K μ' H' z d → Dn.rt z H'
  | .exc c d env' S' => ∀ cls od σ' μ' H', ExcAt K T μ' H' c d cls od → RelS K μ' S' H' → Ext K μ H μ' H' → RelE K μ' H' env' σ' → W cls od σ' H'
  | .bad => False
section
variable {K : PySem.W.Frag} {T : Tb} {F : FS} {W : WX} {μ μ1 : Mu} {H H1 : Hp} {Dn Dn' : Ends}
theorem PostS.ext {o : Out} (h : PostS K T μ H Dn W o) (e : Ext K μ H μ1 H1) : PostS K T μ1 H1 Dn W o := by
  cases o with
  | nx env S => exact fun σ' μ' H' h1 h2 h3 => h σ' μ' H' h1 (e.trans h2) h3
  | bk env S => exact fun σ' μ' H' h1 h2 h3 => h σ' μ' H' h1 (e.trans h2) h3
  | ct env S => exact fun σ' μ' H' h1 h2 h3 => h σ' μ' H' h1 (e.trans h2) h3
  | rt d S => exact fun z μ' H' h1 h2 h3 => h z μ' H' h1 (e.trans h2) h3
  | exc c d env S => exact fun cls od σ' μ' H' h0 h1 h2 h3 => h cls od σ' μ' H' h0 h1 (e.trans h2) h3
  | bad => exact h
theorem PostS.out {α β : Type} {R : Mu → Hp → β → α → Prop} {env : Env} {σ : L2.St} {r : Res α} {f : α → Store → Out} (re : RelE K μ H env σ) (h : PostS K T μ H Dn W (Res.out env r f)) :
    Post K T μ H R (fun z H1 => ∃ μ1 a S1, RelS K μ1 S1 H1 ∧ Ext K μ H μ1 H1 ∧ R μ1 H1 z a ∧ PostS K T μ1 H1 Dn W (f a S1)) (fun c o H' => W c o σ H') r := by
  cases r with
  | ok a S => exact fun z μ' H' h1 h2 h3 => ⟨μ', a, S, h1, h2, h3, h.ext h2⟩
  | exc c d S => exact fun cls od μ' H' h0 h1 h2 => h cls od σ μ' H' h0 h1 h2 (re.mono h2)
  | bad => exact h
/-- a statement's reading by its run -/
def tS (K : PySem.W.Frag) (T : Tb) (F : FS) (W : WX) (st : Sm) : TS := fun Dn σ H => ∃ μ S env, RelS K μ S H ∧ RelE K μ H env σ ∧ PostS K T μ H Dn W (exec F st env S)
def tSs (K : PySem.W.Frag) (T : Tb) (F : FS) (W : WX) (l : List Sm) : TS := fun Dn σ H => ∃ μ S env, RelS K μ S H ∧ RelE K μ H env σ ∧ PostS K T μ H Dn W (execs F l env S)
theorem PS_imp {X : Cx} {st : Stmt} {t t' : TS} (h : PS X st t) (i : ∀ D σ H, t' D σ H → t D σ H) : PS X st t' := ⟨fun pins s σ H D I hw => h.run pins s σ H D I (i D σ H hw)⟩
theorem PSs_imp {X : Cx} {st : List Stmt} {t t' : TS} (h : PSs X st t) (i : ∀ D σ H, t' D σ H → t D σ H) : PSs X st t' := ⟨fun pins s σ H D I hw => h.run pins s σ H D I (i D σ H hw)⟩
variable {X : Cx} {e a b : Expr} {x xa xb : Ex} {pos : Pos} {st : Stmt} {rest sa sb : List Stmt} {y : Sm} {l la lb : List Sm}
theorem s_nil : PSs X [] (tSs X.K T F W []) :=
  PSs_imp pss_nil fun D σ H ⟨μ, S, env, rs, re, h⟩ => h σ μ H rs .refl re
theorem s_cons (h1 : PS X st (tS X.K T F W y)) (h2 : PSs X rest (tSs X.K T F W l)) : PSs X (st :: rest) (tSs X.K T F W (y :: l)) := by
  refine PSs_imp (pss_cons h1 h2) fun D σ H ⟨μ, S, env, rs, re, h⟩ => ⟨μ, S, env, rs, re, ?_⟩
  have h : PostS X.K T μ H D W ((exec F y env S).seq fun env' S' => execs F l env' S') := h
  cases ho : exec F y env S with
  | nx env' S' => rw [ho] at h; exact fun σ' μ' H' h1 h2 h3 => ⟨μ', S', env', h1, h3, PostS.ext h h2⟩
  | bk env' S' => rw [ho] at h; exact h
  | ct env' S' => rw [ho] at h; exact h
  | rt d S' => rw [ho] at h; exact h
  | exc c d env' S' => rw [ho] at h; exact h
  | bad => rw [ho] at h; exact h
theorem s_pass : PS X (.Pass pos) (tS X.K T F W .pass) := PS_imp ps_pass fun D σ H ⟨μ, S, env, rs, re, h⟩ => h σ μ H rs .refl re
theorem s_brk : PS X (.Break pos) (tS X.K T F W .brk) := PS_imp ps_break fun D σ H ⟨μ, S, env, rs, re, h⟩ => h σ μ H rs .refl re
theorem s_cont : PS X (.Continue pos) (tS X.K T F W .cont) := PS_imp ps_continue fun D σ H ⟨μ, S, env, rs, re, h⟩ => h σ μ H rs .refl re
theorem s_never : PS X st (tS X.K T F W .never) := PS_imp ps_never fun D σ H ⟨μ, S, env, rs, re, h⟩ => h
theorem s_ret (he : PE X e (tE X.K T F W x)) : PS X (.Return (some e) pos) (tS X.K T F W (.ret x)) := by
  refine PS_imp (ps_ret he) fun D σ H ⟨μ, S, env, rs, re, h⟩ => ⟨μ, S, env, rs, re, (PostS.out (R := RV X.K) re h).mono fun z H1 ⟨μ1, d, S1, rs1, e1, r1, h1⟩ => h1 z μ1 H1 rs1 .refl r1⟩
theorem s_retN : PS X (.Return none pos) (tS X.K T F W (.ret (.c .none))) :=
  PS_imp ps_retN fun D σ H ⟨μ, S, env, rs, re, h⟩ => h .non μ H rs .refl .non
theorem s_exp (hs : swapsWith e none pos.line X.env = pure false) (he : PE X e (tE X.K T F W x)) : PS X (.Expr e pos) (tS X.K T F W (.exp x)) := by
  refine PS_imp (ps_expr he hs) fun D σ H ⟨μ, S, env, rs, re, h⟩ => ⟨μ, S, env, rs, re, (PostS.out (R := RV X.K) re h).mono fun z H1 ⟨μ1, d, S1, rs1, e1, r1, h1⟩ => h1 σ μ1 H1 rs1 .refl (re.mono e1)⟩
theorem outB_eq {env : Env} {r : Res D} {f : Bool → Store → Out} : Res.outB env r f = Res.out env (r.test .ok) f := by
  cases r with
  | ok d S =>
    simp only [Res.outB, Res.out_ok, Res.test, Res.bind_ok]
    cases asBool d <;> rfl
  | exc c d S => rfl
  | bad => rfl
theorem s_ifs (ht : PT X e (tT X.K T F W x)) (ha : PSs X sa (tSs X.K T F W la)) (hb : PSs X sb (tSs X.K T F W lb)) : PS X (.If e sa sb pos) (tS X.K T F W (.ifs x la lb)) := by
  refine PS_imp (ps_if ht ha hb) fun D σ H ⟨μ, S, env, rs, re, h⟩ => ?_
  have h : PostS X.K T μ H D W (Res.outB env (ev F x env S) fun k S1 => if k = true then execs F la env S1 else execs F lb env S1) := h
  rw [outB_eq] at h
  refine ⟨μ, S, env, rs, re, (PostS.out (R := RB) re h).mono fun k H1 ⟨μ1, k', S1, rs1, e1, r1, h1⟩ => ?_⟩
  cases (show k = k' from r1)
  cases k with
  | true => exact ⟨μ1, S1, env, rs1, re.mono e1, h1⟩
  | false => exact ⟨μ1, S1, env, rs1, re.mono e1, h1⟩
/-! ### targets -/
mutual
def tgSlots : Tg → List Nat
  | .nm i => [i]
  | .tup l => tgSlotsL l
def tgSlotsL : List Tg → List Nat
  | [] => []
  | t :: ts => tgSlots t ++ tgSlotsL ts
end
theorem wipe_out' {v : Option V} {i : Nat} : ∀ {vs : List Nat} {σ : L2.St}, i ∉ vs → L2.wipe (σ.set i v) vs = (L2.wipe σ vs).set i v
  | [], _, _ => rfl
  | w :: vs, σ, h => by
    simp only [List.mem_cons, not_or] at h
    show (L2.wipe (σ.set i v) vs).set w none = ((L2.wipe σ vs).set w none).set i v
    rw [wipe_out' h.2, List.set_comm _ _ h.1]
theorem wipe_in {v : Option V} {i : Nat} : ∀ {vs : List Nat} {σ : L2.St}, i ∈ vs → L2.wipe (σ.set i v) vs = L2.wipe σ vs
  | w :: vs, σ, h => by
    show (L2.wipe (σ.set i v) vs).set w none = (L2.wipe σ vs).set w none
    by_cases hi : i ∈ vs
    · rw [wipe_in hi]
    · rw [wipe_out' hi]
      rcases List.mem_cons.mp h with rfl | h
      · rw [List.set_set]
      · exact absurd h hi
theorem wipe_wipe {vs ws : List Nat} : ∀ {σ : L2.St}, (∀ i ∈ ws, i ∈ vs) → L2.wipe (L2.wipe σ ws) vs = L2.wipe σ vs := by
  induction ws with
  | nil => intros; rfl
  | cons w ws ih =>
    intro σ h
    show L2.wipe ((L2.wipe σ ws).set w none) vs = _
    rw [wipe_in (h w (by simp)), ih fun i hi => h i (by simp [hi])]
/-- only the slots in is may differ -/
def SameBut (is : List Nat) (σ σ' : L2.St) : Prop := ∀ vs, (∀ i ∈ is, i ∈ vs) → L2.wipe σ' vs = L2.wipe σ vs
def tG (K : PySem.W.Frag) (t : Tg) : TG := fun v σ H Q => ∃ μ S env d env', RelS K μ S H ∧ RelE K μ H env σ ∧ Rep K μ H v d ∧ bindT t d env = some env' ∧ ∀ σ' μ' H', RelS K μ' S H' → Ext K μ H μ' H' → RelE K μ' H' env' σ' → SameBut (tgSlots t) σ σ' → Q σ' H'
def tGs (K : PySem.W.Frag) (ts : List Tg) : TGs := fun vs σ H Q => ∃ μ S env ds env', RelS K μ S H ∧ RelE K μ H env σ ∧ RepL K μ H vs ds ∧ bindTs ts ds env = some env' ∧ ∀ σ' μ' H', RelS K μ' S H' → Ext K μ H μ' H' → RelE K μ' H' env' σ' → SameBut (tgSlotsL ts) σ σ' → Q σ' H'
theorem PG_imp {t t' : TG} (h : PG X e t) (i : ∀ v σ H Q, t' v σ H Q → t v σ H Q) : PG X e t' := ⟨fun pins s σ H v u Q I r hw => h.run pins s σ H v u Q I r (i v σ H Q hw)⟩
theorem PGs_imp {es : List Expr} {t t' : TGs} (h : PGs X es t) (i : ∀ v σ H Q, t' v σ H Q → t v σ H Q) : PGs X es t' := ⟨fun pins s σ H v u Q I r hw => h.run pins s σ H v u Q I r (i v σ H Q hw)⟩
theorem g_name {i : Nat} {nm : Str} (hN : X.N.Nodup) (hi : X.N[i]? = some nm) (hx : Loc X.env.scope nm) (hf : X.fn nm = true ∨ X.env.scope.names.lookup nm = some .local) : PG X (.Name nm pos) (tG X.K (.nm i)) := by
  refine PG_imp (pg_name hN hi hx hf) fun v σ H Q ⟨μ, S, env, d, env', rs, re, r, hb, q⟩ => ?_
  cases hb
  exact q _ μ H rs .refl (re.set i r) fun vs h => wipe_in (h i (by simp [tgSlots]))
theorem gs_nil : PGs X [] (tGs X.K []) := by
  refine PGs_imp pgs_nil fun v σ H Q ⟨μ, S, env, ds, env', rs, re, r, hb, q⟩ => ?_
  cases ds with
  | nil => cases hb; cases r; exact ⟨rfl, q σ μ H rs .refl re fun vs h => rfl⟩
  | cons d ds => cases hb
theorem asg_cons {es : List Expr} {env : PySem.Env} (h : notStar e = true) : assignEach (e :: es) env = (false, assign e env) :: assignEach es env := by
  cases e <;> first | rfl | (simp [notStar] at h)
theorem asg_len {env : PySem.Env} : ∀ {es : List Expr}, es.all notStar = true → (assignEach es env).length = es.length ∧ (assignEach es env).findIdx? (·.1) = none
  | [], _ => ⟨rfl, rfl⟩
  | e :: es, h => by
    simp only [List.all_cons, Bool.and_eq_true] at h
    obtain ⟨h1, h2⟩ := asg_len (es := es) (env := env) h.2
    rw [asg_cons h.1]
    refine ⟨by simp [h1], ?_⟩
    rw [List.findIdx?_cons]
    simp [h2]
theorem gs_cons {es : List Expr} {t : Tg} {ts : List Tg} (hn : notStar e = true) (h1 : PG X e (tG X.K t)) (h2 : PGs X es (tGs X.K ts)) : PGs X (e :: es) (tGs X.K (t :: ts)) := by
  refine PGs_imp (pgs_cons h1 h2 (by rw [asg_cons hn]; rfl)) fun v σ H Q ⟨μ, S, env, ds, env', rs, re, r, hb, q⟩ => ?_
  cases ds with
  | nil => cases hb
  | cons d ds =>
    cases r with
    | cons r1 r2 =>
      have hb : (bindT t d env).bind (fun env2 => bindTs ts ds env2) = some env' := hb
      cases hb1 : bindT t d env with
      | none => rw [hb1] at hb; cases hb
      | some env2 =>
        rw [hb1] at hb
        refine ⟨_, _, rfl, μ, S, env, d, env2, rs, re, r1, hb1, fun σ2 μ2 H2 rs2 e2 re2 sb2 => ?_⟩
        exact ⟨μ2, S, env2, ds, env', rs2, re2, e2.monoL r2, hb, fun σ3 μ3 H3 rs3 e3 re3 sb3 => q σ3 μ3 H3 rs3 (e2.trans e3) re3 fun vs h => (sb3 vs fun i hi => h i (by simp [tgSlotsL, hi])).trans (sb2 vs fun i hi => h i (by simp [tgSlotsL, hi]))⟩
theorem bindTs_len : ∀ {ts : List Tg} {ds : List PyData} {env env' : Env}, bindTs ts ds env = some env' → ts.length = ds.length
  | [], [], _, _, _ => rfl
  | [], _ :: _, _, _, h => by cases h
  | _ :: _, [], _, _, h => by cases h
  | t :: ts, d :: ds, env, env', h => by
    have h : (bindT t d env).bind (fun env2 => bindTs ts ds env2) = some env' := h
    cases hb1 : bindT t d env with
    | none => rw [hb1] at h; cases h
    | some env2 =>
      rw [hb1] at h
      simp [bindTs_len h]
theorem g_tup {es : List Expr} {ts : List Tg} {k : Nat} (hc : X.calm = true) (hn : es.all notStar = true) (hl : es.length = ts.length) (h : PGs X es (tGs X.K ts)) : PG X (.Tuple es k pos) (tG X.K (.tup ts)) := by
  refine PG_imp (pg_tup (n := es.length) hc h (asg_len hn).1 (asg_len hn).2) fun v σ H Q ⟨μ, S, env, d, env', rs, re, r, hb, q⟩ => ?_
  cases r with
  | tup t1 l1 => exact ⟨_, _, rfl, t1, by rw [l1.length, hl, bindTs_len hb], μ, S, env, _, env', rs, re, l1, hb, q⟩
  | _ => simp [bindT] at hb
end
end DL

set_option linter.all false
set_option maxRecDepth 100000
/-! DL.St2: assignments, loops, comprehensions, by data. -/
namespace DL
open PySem L2 PySem.Spec PyProof.Rows
section
variable {K : PySem.W.Frag} {T : Tb} {F : FS} {W : WX} {μ μ1 : Mu} {H H1 : Hp} {Dn Dn' : Ends} {X : Cx} {e tg a b o i : Expr} {x xa xb xo xi : Ex} {pos : Pos} {st : Stmt} {rest sa sb : List Stmt} {y : Sm} {l la lb : List Sm} {t : Tg}
/-- a value to a target -/
theorem asg_imp {σ : L2.St} (h : tS K T F W (.asg t x) Dn σ H) : tAsg (tE K T F W x) (tG K t) Dn σ H := by
  obtain ⟨μ, S, env, rs, re, h⟩ := h
  refine ⟨μ, S, env, rs, re, (PostS.out (R := RV K) re h).mono fun z H1 ⟨μ1, d, S1, rs1, e1, r1, h1⟩ => ?_⟩
  cases hb : bindT t d env with
  | none => rw [hb] at h1; exact h1.elim
  | some env' =>
    rw [hb] at h1
    exact ⟨μ1, S1, env, d, env', rs1, re.mono e1, r1, hb, fun σ' μ' H' h2 h3 h4 _ => h1 σ' μ' H' h2 h3 h4⟩
theorem notStar_each {env : PySem.Env} (h : notStar tg = true) : (assignEach [tg] env).map (·.2) = [assign tg env] := by rw [asg_cons h]; rfl
theorem s_asg (hn : notStar tg = true) (hs : swapsWithSole [tg] e pos.line X.env = pure false) (hw : swappedStores [tg] e X.env = pure none) (he : PE X e (tE X.K T F W x)) (hg : PG X tg (tG X.K t)) : PS X (.Assign [tg] e pos) (tS X.K T F W (.asg t x)) :=
  PS_imp (ps_asg he hg hs hw (notStar_each hn)) fun Dn σ H h => asg_imp h
theorem s_set {j : Nat} {nm : Str} {pos' : Pos} (hN : X.N.Nodup) (hi : X.N[j]? = some nm) (hx : Loc X.env.scope nm) (he : PE X e (tE X.K T F W x)) (hs : swapsWith e (some (.Name nm pos')) pos.line X.env = pure false) (hf : X.fn nm = true ∨ X.env.scope.names.lookup nm = some .local) :
    PS X (.Assign [.Name nm pos'] e pos) (tS X.K T F W (.asg (.nm j) x)) := by
  refine PS_imp (ps_set hN hi hx he hs hf) fun Dn σ H h => ?_
  obtain ⟨μ, S, env, rs, re, h⟩ := h
  exact ⟨μ, S, env, rs, re, (PostS.out (R := RV X.K) re h).mono fun z H1 ⟨μ1, d, S1, rs1, e1, r1, h1⟩ => h1 _ μ1 H1 rs1 .refl ((re.mono e1).set j r1)⟩
/-! ### a, b = x, y with plain local names -/
def setsL (σ : L2.St) : List Nat → List V → L2.St
  | i :: is, v :: vs => setsL (σ.set i (some v)) is vs
  | _, _ => σ
def setsE (env : Env) : List Nat → List PyData → Env
  | i :: is, v :: vs => setsE (env.set i (some v)) is vs
  | _, _ => env
theorem setsL_comm {v : V} {i : Nat} : ∀ {is : List Nat} {vs : List V} {σ : L2.St}, i ∉ is → setsL (σ.set i (some v)) is vs = (setsL σ is vs).set i (some v)
  | [], _, _, _ => by simp [setsL]
  | _ :: _, [], _, _ => by simp [setsL]
  | j :: is, w :: vs, σ, h => by
    simp only [List.mem_cons, not_or] at h
    show setsL ((σ.set i (some v)).set j (some w)) is vs = (setsL (σ.set j (some w)) is vs).set i (some v)
    rw [List.set_comm _ _ h.1, setsL_comm h.2]
theorem setsL_snoc {v : V} {i : Nat} : ∀ {is : List Nat} {vs : List V} {σ : L2.St}, is.length = vs.length → setsL σ (is ++ [i]) (vs ++ [v]) = (setsL σ is vs).set i (some v)
  | [], [], _, _ => rfl
  | [], _ :: _, _, h => by cases h
  | _ :: _, [], _, h => by cases h
  | j :: is, w :: vs, σ, h => setsL_snoc (is := is) (vs := vs) (by simpa using h)
theorem setsL_rev : ∀ {is : List Nat} {vs : List V} {σ : L2.St}, is.Nodup → is.length = vs.length → setsL σ is.reverse vs.reverse = setsL σ is vs
  | [], [], _, _, _ => rfl
  | [], _ :: _, _, _, h => by cases h
  | _ :: _, [], _, _, h => by cases h
  | j :: is, w :: vs, σ, hn, h => by
    rw [List.nodup_cons] at hn
    have hl : is.length = vs.length := by simpa using h
    rw [List.reverse_cons, List.reverse_cons, setsL_snoc (by simpa using hl), setsL_rev hn.2 hl]
    exact (setsL_comm hn.1).symm
theorem sets_rel : ∀ {is : List Nat} {vs : List V} {ds : List PyData} {env : Env} {σ : L2.St}, RelE K μ H env σ → RepL K μ H vs ds → RelE K μ H (setsE env is ds) (setsL σ is vs)
  | [], _, _, _, _, r, _ => by simpa [setsE, setsL] using r
  | i :: is, [], _, _, _, r, h => by cases h; exact r
  | i :: is, v :: vs, _, env, σ, r, h => by
    cases h with
    | cons h1 h2 => exact sets_rel (env := env.set i (some _)) (σ := σ.set i (some v)) (r.set i h1) h2
theorem bind_nms : ∀ {is : List Nat} {ds : List PyData} {env : Env}, is.length = ds.length → bindTs (is.map Tg.nm) ds env = some (setsE env is ds)
  | [], [], _, _ => rfl
  | [], _ :: _, _, h => by cases h
  | _ :: _, [], _, h => by cases h
  | i :: is, d :: ds, env, h => bind_nms (is := is) (ds := ds) (by simpa using h)
theorem Vals_rev : ∀ {vs : List V} {us : List Value}, Vals vs us → Vals vs.reverse us.reverse
  | [], _, .nil => .nil
  | v :: vs, _, .cons r t => by
    rw [List.reverse_cons, List.reverse_cons]
    exact (Vals_rev t).append (.cons r .nil)
/-- the stores, one by one -/
theorem stores_run {pins : List (Addr × Obj)} {H : Hp} {Q : Unit → Shared → Prop} (hN : X.N.Nodup) (nms : List Str) : ∀ {is : List Nat} {vs : List V} {us : List Value} {σ : L2.St} {s : Shared}, Inv X pins σ H s → Vals vs us → (∀ p ∈ is.zip nms, X.N[p.1]? = some p.2 ∧ X.env.scope.names.lookup p.2 = some .local) → is.length = nms.length → nms.length = vs.length →
    (∀ s', Inv X pins (setsL σ is vs) H s' → Q () s') → wpAny (model X.prog X.w) X.A (assignInOrder (nms.map fun n => bindName X.env n) us) Q X.xe s := by
  induction nms with
  | nil =>
    intro is vs us σ s I r _ h1 h2 q
    cases is with
    | nil =>
      cases vs with
      | nil => cases r; exact assignInOrder_nil (q s I)
      | cons v vs => cases h2
    | cons i is => cases h1
  | cons nm nms ih =>
    intro is vs us σ s I r h hl1 hl2 q
    cases is with
    | nil => cases hl1
    | cons i is =>
      cases vs with
      | nil => cases hl2
      | cons v vs =>
        cases r with
        | cons r1 r2 =>
          obtain ⟨h1, h2⟩ := h (i, nm) (by simp)
          refine assignInOrder_cons (wpAny_bindName (store_ok I hN h1 (.inl h2) r1 (fun s2 I2 => ?_) (.inr h2)))
          exact ih I2 r2 (fun p hp => h p (by simp [hp])) (by simpa using hl1) (by simpa using hl2) q
/-- the names of targets -/
def tgNames (ts : List Expr) : List Str := ts.filterMap fun
  | .Name id _ => some id
  | _ => none
theorem s_swap {ts es : List Expr} {is : List Nat} {nms : List Str} {k k2 : Nat} {pt pt2 : Pos} (hc : X.calm = true) (hN : X.N.Nodup) (hp : ∀ p ∈ is.zip nms, X.N[p.1]? = some p.2 ∧ X.env.scope.names.lookup p.2 = some .local) (hl : is.length = nms.length) (hnd : is.Nodup)
    (hs : swapsWithSole [.Tuple ts k pt] (.Tuple es k2 pt2) pos.line X.env = pure false) (hw : swappedStores [.Tuple ts k pt] (.Tuple es k2 pt2) X.env = pure (some nms)) (he : PE X (.Tuple es k2 pt2) (tE X.K T F W x)) :
    PS X (.Assign [.Tuple ts k pt] (.Tuple es k2 pt2) pos) (tS X.K T F W (.asg (.tup (is.map Tg.nm)) x)) := by
  refine ⟨fun pins s σ H Dn I h => ?_⟩
  obtain ⟨μ, S, env, rs, re, h⟩ := h
  rw [exec_Assign_arm]
  refine wpAny_bind (wpAny_standAt ?_)
  rw [hs]
  refine wpAny_bind (wpAny_pure ?_)
  rw [if_neg (by decide)]
  refine wpAny_bind (thn (he.run pins s σ H _ I ⟨μ, S, env, rs, re, PostS.out (R := RV X.K) re h⟩) fun u s1 ⟨z, H1, I1, r1, μ1, d, S1, rs1, e1, rz, h1⟩ => ?_)
  rw [hw]
  refine wpAny_bind (wpAny_pure ?_)
  cases hb : bindT (.tup (is.map Tg.nm)) d env with
  | none => rw [hb] at h1; exact h1.elim
  | some env' =>
    rw [hb] at h1
    cases rz with
    | tup t1 l1 =>
      rename_i ad vs ds
      have hb : bindTs (is.map Tg.nm) ds env = some env' := hb
      have hlen : is.length = ds.length := by simpa using bindTs_len hb
      rw [bind_nms hlen] at hb
      cases hb
      cases r1
      obtain ⟨its, rv, ht, hz⟩ := I1.tuple t1
      show wpAny (model X.prog X.w) X.A (do rule "assign.swapped-stores"; let items ← unpackItems (.ref ad) nms.length none; assignInOrder (nms.reverse.map fun n => bindName X.env n) items.reverse; pure Flow.next) _ _ _
      have hsz : its.toArray.size = nms.length := by
        have := rv.length
        have := l1.length
        simp
        omega
      rw [← hsz]
      refine wpAny_bind (wpAny_rule (wpAny_bind (unpackItems_tuple (items := its.toArray) (I.ok.hd hc) ht fun h' hx' => ?_)))
      have I3 := I1.kept (h' := h') (t' := s1.toks) fun b o e => hx' b o (Nat.ne_of_lt (Heap.lt_size e)) e
      have hvl : is.length = vs.length := by rw [hlen, l1.length]
      refine wpAny_bind (stores_run hN _ I3 (vs := vs.reverse) (is := is.reverse) (by simpa using Vals_rev rv) (fun p hp' => ?_) (by simpa using hl) (by simp; omega) fun s' I4 => wpAny_pure ?_)
      · rw [List.zip_eq_zipWith, ← List.reverse_zipWith hl] at hp'
        exact hp p (by simpa [List.zip_eq_zipWith] using hp')
      · rw [setsL_rev hnd hvl] at I4
        exact ⟨_, _, I4, h1 _ μ1 H1 rs1 .refl (sets_rel (re.mono e1) l1)⟩
    | _ => simp [bindT] at hb

/-! ### o[i] = v; a name changed by an operator -/
theorem s_setS {ip : Pos} (hn : plainRecv tg = true ∨ True) (hs : notSlice i = true) (hss : swapsWithSole [.Subscript o i ip] e pos.line X.env = pure false) (hw : swappedStores [.Subscript o i ip] e X.env = pure none) (he : PE X e (tE X.K T F W x)) (ho : PE X o (tE X.K T F W xo)) (hi : PE X i (tE X.K T F W xi)) :
    PS X (.Assign [.Subscript o i ip] e pos) (tS X.K T F W (.setS xo xi x)) := by
  have hA : ∀ v, assign (.Subscript o i ip) X.env v = (do
      let ov ← holding [v] (eval o X.env)
      let iv ← holding [v, ov] (eval i X.env)
      standAt ip
      holding [v, ov, iv] (setItem ov iv v)
      release [v, ov, iv] []) := by
    intro v
    cases i <;> first | rfl | (simp [notSlice] at hs)
  refine PS_imp (ps_asg he (pg_sub ho hi set_list hA) hss hw rfl) fun Dn σ H ⟨μ, S, env, rs, re, h⟩ => ?_
  refine ⟨μ, S, env, rs, re, (PostS.out (R := RV X.K) re h).mono fun z H1 ⟨μ1, d, S1, rs1, e1, r1, h1⟩ => ?_⟩
  refine ⟨μ1, S1, env, rs1, re.mono e1, (PostS.out (R := RV X.K) (re.mono e1) h1).mono fun zo H2 ⟨μ2, do_, S2, rs2, e2, r2, h2⟩ => ?_⟩
  refine ⟨μ2, S2, env, rs2, (re.mono e1).mono e2, (PostS.out (R := RV X.K) ((re.mono e1).mono e2) h2).mono fun zi H3 ⟨μ3, di, S3, rs3, e3, r3, h3⟩ => ?_⟩
  cases hsv : setItemV do_ di d S3 with
  | none => rw [hsv] at h3; exact h3.elim
  | some S4 =>
    rw [hsv] at h3
    unfold setItemV at hsv
    split at hsv
    · rename_i n j hn
      cases hx : atL S3 n with
      | none => rw [hx] at hsv; cases hsv
      | some xs =>
        rw [hx] at hsv
        cases hk : ixN xs.length j with
        | none => simp [hk] at hsv
        | some k =>
          simp [hk] at hsv
          subst hsv
          cases r3
          obtain ⟨ad, vs, rfl, k1, k2, k3⟩ := loc_of rs3 (e3.mono _ _ r2) hn hx
          obtain ⟨g1, g2⟩ := rs3.set k1 (k3.set (e3.mono _ _ (e2.mono _ _ r1)) k)
          refine ⟨ad, vs, j, k, rfl, rfl, k2, by rw [k3.length]; exact hk, ?_⟩
          exact h3 σ μ3 _ g1 g2 ((((re.mono e1).mono e2).mono e3).mono g2)
    · cases hsv
theorem ip_bin {op : Operator} (h : op = .Add ∨ op = .Sub ∨ op = .Mult) (m : Bool) : PIp X op (fun x y H Q => ∃ μ S i j d S', RelS X.K μ S H ∧ x = .int i ∧ y = .int j ∧ binV op m (.int i) (.int j) S = .ok d S' ∧ ∀ z μ' H', RelS X.K μ' S' H' → Ext X.K μ H μ' H' → Rep X.K μ' H' z d → Q z H') := by
  intro pins s σ H x y v u Q I rx ry ⟨μ, S, i, j, d, S', rs, e1, e2, e, q⟩
  rcases h with rfl | rfl | rfl
  · cases e
    exact iop_add pins s σ H x y v u Q I rx ry ⟨i, j, e1, e2, q _ _ _ rs .refl (.int _)⟩
  · cases e
    exact iop_sub pins s σ H x y v u Q I rx ry ⟨i, j, e1, e2, q _ _ _ rs .refl (.int _)⟩
  · simp only [binV] at e
    split at e
    · rename_i hc
      cases e
      refine iop_mul pins s σ H x y v u Q I rx ry ⟨i, j, e1, e2, ?_, q _ _ _ rs .refl (.int _)⟩
      rw [Bool.or_eq_true, small64_iff, small64_iff] at hc
      exact hc
    · cases e
/-! ### loops -/
theorem loop_post {o : Out} {f : Env → Store → Out} {N : L2.St → Hp → Prop} (h : PostS K T μ H Dn W (match o with
    | .nx env' S' => f env' S'
    | .ct env' S' => f env' S'
    | .bk env' S' => .nx env' S'
    | o => o)) (hN : ∀ env' S' σ' μ' H', RelS K μ' S' H' → Ext K μ H μ' H' → RelE K μ' H' env' σ' → PostS K T μ' H' Dn W (f env' S') → N σ' H') :
    PostS K T μ H { Dn with nx := N, ct := N, bk := Dn.nx } W o := by
  cases o with
  | nx env S => exact fun σ' μ' H' h1 h2 h3 => hN env S σ' μ' H' h1 h2 h3 (PostS.ext h h2)
  | ct env S => exact fun σ' μ' H' h1 h2 h3 => hN env S σ' μ' H' h1 h2 h3 (PostS.ext h h2)
  | bk env S => exact h
  | rt d S => exact h
  | exc c d env S => exact h
  | bad => exact h
theorem frl_eq {k : IK} {its : List Ex} {env : Env} {S : Store} : exec F (.frl t k its l) env S = Res.out env (evI F k its env S) fun p S2 =>
    forLoop p.1.2 p.2 (fun x env1 S3 => match bindT t x env1 with
      | none => .bad
      | some env2 => execs F l env2 S3) p.1.1 env S2 := by
  show Res.out env (evs F its env S) _ = _
  unfold evI
  cases evs F its env S with
  | ok vs S1 =>
    simp only [Res.out_ok, Res.bind_ok]
    cases hp : itemsV k vs S1 with
    | ok p S2 => obtain ⟨p1, p2⟩ := p; rfl
    | exc c d S2 => rfl
    | bad => rfl
  | exc c d S1 => rfl
  | bad => rfl
theorem s_frl {k : IK} {its : List Ex} {iter : Expr} {body : List Stmt} (hp : PassesOwn (model X.prog X.w) X.A X.env X.xe) (hc : X.calm = true) (hi : PI X tg iter (tI X.K T F W k its)) (hg : PG X tg (tG X.K t)) (hb : PSs X body (tSs X.K T F W l))
    (hs : ∀ x, foldedSetIterable iter X.env x = pure x) : PS X (.For tg iter body [] pos) (tS X.K T F W (.frl t k its l)) := by
  refine PS_imp (ps_for hp hc hi hg hb hs) fun Dn σ H ⟨μ, S, env, rs, re, h⟩ => ?_
  rw [frl_eq] at h
  refine ⟨μ, S, env, rs, re, (PostS.out (R := fun μ1 H1 (J : L2.It) p => WkD X.K J p.1.1 p.1.2 p.2 μ1 H1) re h).mono fun J H1 ⟨μ1, ⟨⟨items, g⟩, S0⟩, S1, rs1, e1, ⟨G, Y, wk, wG, wY⟩, h1⟩ => ?_⟩
  simp only at wk wG wY h1
  refine for_it wk (fun i σ' H' => ∃ μ' S' env', RelS X.K μ' S' H' ∧ Ext X.K μ1 H1 μ' H' ∧ RelE X.K μ' H' env' σ' ∧ PostS X.K T μ' H' Dn W (forLoop g S0 (fun x env1 S3 => match bindT t x env1 with | none => .bad | some env2 => execs F l env2 S3) (items.drop i) env' S'))
    ⟨μ1, S1, env, rs1, .refl, re.mono e1, by simpa using h1⟩ (fun i σ' H' hi ⟨μ', S', env', rs', e', re', h'⟩ => ?_) (fun i x σ' H' H2 hi ⟨μ', S', env', rs', e', re', h'⟩ hy => ?_) (fun σ' H' ⟨μ', S', env', rs', e', re', h'⟩ => ?_)
  · refine wG μ' S' H' rs' e'.toMono ?_
    cases hs' : still g S0 S' with
    | true => rfl
    | false =>
      cases hd : items.drop i with
      | nil => rw [hd] at h'; unfold forLoop at h'; rw [hs'] at h'; exact h'.elim
      | cons d r => rw [hd] at h'; unfold forLoop at h'; rw [hs'] at h'; exact h'.elim
  · have hdr : items.drop i = items[i] :: items.drop (i + 1) := by rw [List.drop_eq_getElem_cons hi]
    rw [hdr] at h'
    unfold forLoop at h'
    cases hs' : still g S0 S' with
    | false => rw [hs'] at h'; exact h'.elim
    | true =>
      rw [hs'] at h'
      simp only [if_true] at h'
      obtain ⟨rs2, e2, r2⟩ := wY i x H' H2 μ' S' items[i] (by simp [hi]) rs' e'.toMono hs' hy
      cases hb : bindT t items[i] env' with
      | none => rw [hb] at h'; exact h'.elim
      | some env2 =>
        rw [hb] at h'
        simp only at h'
        refine ⟨μ', S', env', items[i], env2, rs2, re'.mono e2, r2, hb, fun σ3 μ3 H3 rs3 e3 re3 _ => ⟨μ3, S', env2, rs3, re3, ?_⟩⟩
        refine loop_post (PostS.ext (PostS.ext h' e2) e3) fun env4 S4 σ4 μ4 H4 rs4 e4 re4 p4 => ⟨μ4, S4, env4, rs4, ((e'.trans e2).trans e3).trans e4, re4, p4⟩
  · rw [List.drop_length] at h'
    unfold forLoop at h'
    split at h'
    · exact h' σ' μ' H' rs' .refl re'
    · exact h'.elim
theorem s_whl {c : Expr} {body : List Stmt} (hp : PassesOwn (model X.prog X.w) X.A X.env X.xe) (ht : PT X c (tT X.K T F W x)) (hb : PSs X body (tSs X.K T F W l)) : PS X (.While c body [] pos) (tS X.K T F W (.whl x l)) := by
  refine PS_imp (ps_while hp ht hb) fun Dn σ H ⟨μ, S, env, rs, re, h⟩ => ?_
  refine ⟨fun m σ' H' => ∃ μ' S' env', RelS X.K μ' S' H' ∧ RelE X.K μ' H' env' σ' ∧ PostS X.K T μ' H' Dn W (whlLoop (ev F x) (execs F l) m env' S'), ⟨whlMost, μ, S, env, rs, re, h⟩, fun m σ' H' ⟨μ', S', env', rs', re', h'⟩ => ?_⟩
  cases m with
  | zero => exact h'.elim
  | succ m =>
    have h' : PostS X.K T μ' H' Dn W (Res.outB env' (ev F x env' S') fun k S1 => if k = true then (match execs F l env' S1 with
      | .nx env' S' => whlLoop (ev F x) (execs F l) m env' S'
      | .ct env' S' => whlLoop (ev F x) (execs F l) m env' S'
      | .bk env' S' => .nx env' S'
      | o => o) else .nx env' S1) := h'
    rw [outB_eq] at h'
    refine ⟨μ', S', env', rs', re', (PostS.out (R := RB) re' h').mono fun k H1 ⟨μ1, k', S1, rs1, e1, r1, h1⟩ => ?_⟩
    cases (show k = k' from r1)
    cases k with
    | true =>
      refine ⟨fun σ2 H2 => ∃ μ2 S2 env2, RelS X.K μ2 S2 H2 ∧ RelE X.K μ2 H2 env2 σ2 ∧ PostS X.K T μ2 H2 Dn W (whlLoop (ev F x) (execs F l) m env2 S2), fun σ2 H2 h2 => ⟨m, Nat.lt_succ_self m, h2⟩, μ1, S1, env', rs1, re'.mono e1, ?_⟩
      exact loop_post h1 fun env2 S2 σ2 μ2 H2 rs2 e2 re2 p2 => ⟨μ2, S2, env2, rs2, re2, p2⟩
    | false => exact h1 σ' μ1 H1 rs1 .refl (re'.mono e1)
end
end DL

set_option linter.all false
set_option maxRecDepth 100000
/-! DL.Comp: list comprehensions, by data. -/
namespace DL
open PySem L2 PySem.Spec PyProof.Rows
/-- nothing may be raised -/
def W0 : WX := fun _ _ _ _ => False
section
variable {K : PySem.W.Frag} {T : Tb} {F : FS} {W : WX} {μ μ1 : Mu} {H H1 : Hp} {X : Cx} {e tg iter elt c : Expr} {x : Ex} {pos : Pos} {t : Tg}
/-- a clause's tests -/
def tTs (K : PySem.W.Frag) (T : Tb) (F : FS) (W : WX) (l : List Ex) : TT := fun σ H Q => ∃ μ S env, RelS K μ S H ∧ RelE K μ H env σ ∧ Post K T μ H RB Q (fun c o H' => W c o σ H') (evAll F l env S)
theorem forIn_no {env : PySem.Env} : ∀ (ifs : List Expr), (forIn ifs false fun c r => if r = true then do let ok ← isTrue c env (eval c env); pure (ForInStep.yield ok) else pure (ForInStep.yield r) : Sem Bool) = pure false
  | [] => rfl
  | c :: ifs => by
    rw [List.forIn_cons]
    show (pure (ForInStep.yield false) >>= _ : Sem Bool) = _
    rw [pure_bind]
    exact forIn_no ifs
theorem ts_nil : PTs X [] (tTs X.K T F W []) := ⟨fun pins s σ H Q I ⟨μ, S, env, rs, re, h⟩ => pts_nil.run pins s σ H Q I (h true μ H rs .refl rfl)⟩
theorem ts_cons {ifs : List Expr} {l : List Ex} (h : PT X c (tT X.K T F W x)) (hr : PTs X ifs (tTs X.K T F W l)) : PTs X (c :: ifs) (tTs X.K T F W (x :: l)) := by
  refine ⟨fun pins s σ H Q I ⟨μ, S, env, rs, re, h0⟩ => ?_⟩
  have h0 : Post X.K T μ H RB Q (fun c o H' => W c o σ H') ((ev F x env S).test fun k S1 => if k = true then evAll F l env S1 else .ok false S1) := h0
  rw [test_bind] at h0
  rw [List.forIn_cons]
  show wpAny (model X.prog X.w) X.A ((do let ok ← isTrue c X.env (eval c X.env); pure (ForInStep.yield ok)) >>= _) _ _ s
  refine wpAny_bind (wpAny_bind (thn (h.run pins s σ H _ I ⟨μ, S, env, rs, re, Post.bind h0⟩) fun k s1 ⟨H1, I1, μ1, k', S1, rs1, e1, r1, h1⟩ => wpAny_pure ?_))
  cases (show k = k' from r1)
  cases k with
  | true => exact hr.run pins s1 σ H1 Q I1 ⟨μ1, S1, env, rs1, re.mono e1, h1⟩
  | false =>
    show wpAny (model X.prog X.w) X.A (forIn ifs false _) _ _ s1
    rw [forIn_no]
    exact wpAny_pure ⟨H1, I1, h1 false μ1 H1 rs1 .refl rfl⟩
theorem noexc_bind {α β : Type} (r : Res α) (f : α → Store → Res β) : (r.bind f).noexc = r.noexc.bind fun a S => (f a S).noexc := by cases r <;> rfl
/-- a run within a comprehension: what follows is still asked from where it began -/
theorem Post.step {α β γ δ : Type} {R : Mu → Hp → β → α → Prop} {R' : Mu → Hp → δ → γ → Prop} {Q : β → Hp → Prop} {E E' : XK} {r : Res γ} {f : γ → Store → Res α} {μ3 : Mu} {H3 : Hp} (h : Post K T μ H R Q E (r.noexc.bind f)) :
    Post K T μ3 H3 R' (fun z H4 => ∃ μ4 a S4, RelS K μ4 S4 H4 ∧ Ext K μ3 H3 μ4 H4 ∧ R' μ4 H4 z a ∧ Post K T μ H R Q E (f a S4)) E' r := by
  cases r with
  | ok a S => exact fun z μ' H' h1 h2 h3 => ⟨μ', a, S, h1, h2, h3, h⟩
  | exc c d S => exact h.elim
  | bad => exact h.elim
/-- the turns of a comprehension -/
def compF (F : FS) (own : List Nat) (t : Tg) (ifs : List Ex) (x : Ex) (env : Env) : D → Store → Res (Option D) := fun y S3 => match bindT t y (wipeE env own) with
  | none => .bad
  | some env' => (evAll F ifs env' S3).bind fun b S4 => if b = true then (ev F x env' S4).bind fun y S5 => .ok (some y) S5 else .ok none S4
theorem comp_eq {m : Bool} {own : List Nat} {k : IK} {its ifs : List Ex} {env : Env} {S : Store} : ev F (.comp m own t k its ifs x) env S = (evI F k its env S).bind fun p S2 => compEnd m p.1.2 p.2 (compF F own t ifs x env) p.1.1 S2 := by
  show (evs F its env S).bind _ = _
  unfold evI
  rw [bind_bind]
  cases evs F its env S with
  | ok vs S1 =>
    simp only [Res.bind_ok]
    cases hp : itemsV k vs S1 with
    | ok p S2 => obtain ⟨p1, p2⟩ := p; rfl
    | exc c d S2 => rfl
    | bad => rfl
  | exc c d S1 => rfl
  | bad => rfl
theorem compLoop_len {g : Option Nat} {S0 : Store} {f : D → Store → Res (Option D)} : ∀ {items acc : List D} {S S' : Store} {r : List D}, compLoop g S0 f items acc S = .ok r S' → acc.length ≤ r.length
  | [], acc, S, S', r, h => by
    unfold compLoop at h
    split at h
    · cases h; exact Nat.le_refl _
    · cases h
  | y :: ys, acc, S, S', r, h => by
    unfold compLoop at h
    split at h
    · cases hf : f y S with
      | ok o S1 =>
        rw [hf] at h
        have := compLoop_len (items := ys) h
        cases o with
        | none => exact this
        | some z => simp at this; omega
      | exc c d S1 => rw [hf] at h; cases h
      | bad => rw [hf] at h; cases h
    · cases h
/-- what follows the turns, the list not at a place of its own -/
def fin0 (acc : List D) (S' : Store) : Res D := if acc.length ≤ sizeLine then .ok (.list acc) S' else .bad
theorem e_comp0 {own : List (Str × Nat)} {k : IK} {its ifs : List Ex} (hsl : ∀ i ∈ tgSlots t, i ∈ own.map (·.2)) :
    ∀ σ H Q, tE X.K T F W (.comp false (own.map (·.2)) t k its ifs x) σ H Q → tLc (tI X.K T F W k its) (tG X.K t) (tTs X.K T F W0 ifs) (tE X.K T F W0 x) (own.map (·.2)) σ H Q := by
  intro σ H Q ⟨μ, S, env, rs, re, h⟩
  rw [comp_eq] at h
  refine ⟨μ, S, env, rs, re, (Post.bind (R' := fun μ1 H1 (J : L2.It) p => WkD X.K J p.1.1 p.1.2 p.2 μ1 H1) h).mono fun J H1 ⟨μ1, ⟨⟨items, g⟩, S0⟩, S1, rs1, e1, ⟨G, Y, wk, wG, wY⟩, h1⟩ D hD => ?_⟩
  simp only at wk wG wY h1
  have h1 : Post X.K T μ1 H1 (RV X.K) Q (fun c o H' => W c o σ H') ((compLoop g S0 (compF F (own.map (·.2)) t ifs x env) items [] S1).noexc.bind fin0) := h1
  have bad_of : ∀ {S' : Store} {acc r : List PyData}, still g S0 S' = false → Post X.K T μ1 H1 (RV X.K) Q (fun c o H' => W c o σ H') ((compLoop g S0 (compF F (own.map (·.2)) t ifs x env) r acc S').noexc.bind fin0) → False := by
    intro S' acc r hs h'
    cases r with
    | nil => unfold compLoop at h'; rw [hs] at h'; exact h'
    | cons d r => unfold compLoop at h'; rw [hs] at h'; exact h'
  obtain ⟨g1, g2⟩ := rs1.reserve (xs := []) hD
  have hrv : ∀ a ∈ μ1.rv, a ≠ D := fun a ha => by
    obtain ⟨_, o, e⟩ := rs1.rv a ha
    exact ne_of_none e hD
  refine lc_it wk (fun i H' => ∃ μ' S' acc vs, RelS X.K μ' S' H' ∧ Mono X.K μ1 H1 μ' H' ∧ μ'.rv = D :: μ1.rv ∧ (∀ a ∈ μ1.rv, H' a = H1 a) ∧ H' D = some (.lst vs) ∧ RepL X.K μ' H' vs acc ∧ Post X.K T μ1 H1 (RV X.K) Q (fun c o H' => W c o σ H') ((compLoop g S0 (compF F (own.map (·.2)) t ifs x env) (items.drop i) acc S').noexc.bind fin0))
    ⟨_, S1, [], [], g1, g2, rfl, fun a ha => by rw [upd_ne (hrv a ha)], upd_same, .nil, by simpa using h1⟩ (fun i H' hi ⟨μ', S', acc, vs, rs', e', hv, hsm, hD', ra, h'⟩ => ?_) (fun i z H' H2 hi ⟨μ', S', acc, vs, rs', e', hv, hsm, hD', ra, h'⟩ hy => ?_) (fun H' ⟨μ', S', acc, vs, rs', e', hv, hsm, hD', ra, h'⟩ => ?_)
  · refine wG μ' S' H' rs' e' ?_
    cases hs' : still g S0 S' with
    | true => rfl
    | false => exact (bad_of hs' h').elim
  · have hdr : items.drop i = items[i] :: items.drop (i + 1) := by rw [List.drop_eq_getElem_cons hi]
    cases hs' : still g S0 S' with
    | false => exact (bad_of hs' h').elim
    | true =>
      obtain ⟨rs2, e2, r2⟩ := wY i z H' H2 μ' S' items[i] (by simp [hi]) rs' e' hs' hy
      rw [hdr] at h'
      unfold compLoop at h'
      rw [hs'] at h'
      simp only [if_true] at h'
      rw [noexc_bind, bind_bind] at h'
      have hDr : D ∈ μ'.rv := by rw [hv]; exact List.mem_cons_self
      -- wherever we go, the list so far and what was reserved stand
      have go : ∀ {μ3 : Mu} {H3 : Hp}, Ext X.K μ' H' μ3 H3 → μ3.rv = D :: μ1.rv ∧ (∀ a ∈ μ1.rv, H3 a = H1 a) ∧ H3 D = some (.lst vs) ∧ RepL X.K μ3 H3 vs acc := fun e3 =>
        ⟨e3.rv.trans hv, fun a ha => (e3.same a (by rw [hv]; exact List.mem_cons_of_mem _ ha)).trans (hsm a ha), (e3.same D hDr).trans hD', e3.monoL ra⟩
      cases hb : bindT t items[i] (wipeE env (own.map (·.2))) with
      | none =>
        have hf : compF F (own.map (·.2)) t ifs x env items[i] S' = .bad := by unfold compF; rw [hb]
        rw [hf] at h'
        exact h'.elim
      | some env2 =>
        have hf : compF F (own.map (·.2)) t ifs x env items[i] S' = (evAll F ifs env2 S').bind fun b S4 => if b = true then (ev F x env2 S4).bind fun y S5 => .ok (some y) S5 else .ok none S4 := by unfold compF; rw [hb]
        rw [hf, noexc_bind, bind_bind] at h'
        have reW : RelE X.K μ' H2 (wipeE env (own.map (·.2))) (L2.wipe σ (own.map (·.2))) := (((re.mono e1).monoW (e'.trans e2.toMono))).wipe _
        refine ⟨μ', S', _, items[i], env2, rs2, reW, r2, hb, fun σ3 μ3 H3 rs3 e3 re3 sb3 => ⟨?_, ?_⟩⟩
        · rw [sb3 _ hsl]
          exact wipe_wipe fun i hi => hi
        · have e03 := e'.trans (e2.trans e3).toMono
          refine ⟨μ3, S', env2, rs3, re3, (Post.step (R' := RB) h').mono fun b H4 ⟨μ4, b', S4, rs4, e4, rb, h4⟩ => ?_⟩
          cases (show b = b' from rb)
          have e24 := (e2.trans e3).trans e4
          cases b with
          | false =>
            obtain ⟨k1, k2, k3, k4⟩ := go e24
            simp only [Bool.false_eq_true, if_false, Res.noexc_ok, Res.bind_ok] at h4
            exact ⟨μ4, S4, acc, vs, rs4, e03.trans e4.toMono, k1, k2, k3, k4, h4⟩
          | true =>
            simp only [if_true] at h4
            rw [noexc_bind, bind_bind] at h4
            simp only [if_true]
            refine ⟨μ4, S4, env2, rs4, re3.mono e4, (Post.step (R' := RV X.K) h4).mono fun yv H5 ⟨μ5, yd, S5, rs5, e5, ry, h5⟩ => ?_⟩
            simp only [Res.noexc_ok, Res.bind_ok] at h5
            obtain ⟨k1, k2, k3, k4⟩ := go (e24.trans e5)
            have hlen : acc.length < sizeLine := by
              cases hcl : compLoop g S0 (compF F (own.map (·.2)) t ifs x env) (items.drop (i + 1)) (acc ++ [yd]) S5 with
              | ok r S6 =>
                rw [hcl] at h5
                have hl := compLoop_len hcl
                simp only [Res.noexc_ok, Res.bind_ok, fin0] at h5
                split at h5
                · simp at hl; omega
                · exact h5.elim
              | exc c d S6 => rw [hcl] at h5; exact h5.elim
              | bad => rw [hcl] at h5; exact h5.elim
            obtain ⟨q1, q2⟩ := rs5.grow (xs := vs ++ [yv]) (by rw [k1]; exact List.mem_cons_self) k3
            refine ⟨vs, k3, by rw [k4.length]; exact hlen, μ5, S5, acc ++ [yd], vs ++ [yv], q1, (e03.trans (e4.trans e5).toMono).trans q2, k1, fun a ha => ?_, upd_same, (q2.monoL k4).append (.cons (q2.mono _ _ ry) .nil), h5⟩
            rw [upd_ne (hrv a ha)]
            exact k2 a ha
  · rw [List.drop_length] at h'
    unfold compLoop at h'
    split at h'
    · simp only [Res.noexc_ok, Res.bind_ok, fin0] at h'
      split at h'
      · obtain ⟨q1, q2⟩ := rs'.unreserve (ρ := μ1.rv) (fun a ha => by rw [hv]; exact List.mem_cons_of_mem _ ha)
        refine h' _ _ H' q1 ⟨e'.trans q2, rfl, hsm⟩ (.lst ⟨?_, fun hm => hrv D hm rfl⟩ hD' (q2.monoL ra))
        exact (rs'.rv D (by rw [hv]; exact List.mem_cons_self)).1
      · exact h'.elim
    · exact h'.elim

/-- .. the list at a place of its own from the start -/
theorem e_comp1 {own : List (Str × Nat)} {k : IK} {its ifs : List Ex} (hsl : ∀ i ∈ tgSlots t, i ∈ own.map (·.2)) :
    ∀ σ H Q, tE X.K T F W (.comp true (own.map (·.2)) t k its ifs x) σ H Q → tLc (tI X.K T F W k its) (tG X.K t) (tTs X.K T F W0 ifs) (tE X.K T F W0 x) (own.map (·.2)) σ H Q := by
  intro σ H Q ⟨μ, S, env, rs, re, h⟩
  rw [comp_eq] at h
  refine ⟨μ, S, env, rs, re, (Post.bind (R' := fun μ1 H1 (J : L2.It) p => WkD X.K J p.1.1 p.1.2 p.2 μ1 H1) h).mono fun J H1 ⟨μ1, ⟨⟨items, g⟩, S0⟩, S1, rs1, e1, ⟨G, Y, wk, wG, wY⟩, h1⟩ D hD => ?_⟩
  simp only at wk wG wY h1
  have h1 : Post X.K T μ1 H1 (RV X.K) Q (fun c o H' => W c o σ H') ((compLoopM g S0 S1.length (compF F (own.map (·.2)) t ifs x env) items (S1 ++ [.lst []])).noexc.bind fun _ S' => .ok (rf S1.length) S') := h1
  have bad_of : ∀ {S' : Store} {r : List PyData}, still g S0 S' = false → Post X.K T μ1 H1 (RV X.K) Q (fun c o H' => W c o σ H') ((compLoopM g S0 S1.length (compF F (own.map (·.2)) t ifs x env) r S').noexc.bind fun _ S' => .ok (rf S1.length) S') → False := by
    intro S' r hs h'
    cases r with
    | nil => unfold compLoopM at h'; rw [hs] at h'; exact h'
    | cons d r => unfold compLoopM at h'; rw [hs] at h'; exact h'
  obtain ⟨g1, g2, g3⟩ := rs1.place (xs := []) (ds := []) hD .nil
  have hn0 : (μ1.pl ++ [D])[S1.length]? = some D := by rw [← rs1.len]; simp
  refine lc_it wk (fun i H' => ∃ μ' S', RelS X.K μ' S' H' ∧ Ext X.K μ1 H1 μ' H' ∧ μ'.pl[S1.length]? = some D ∧ Post X.K T μ1 H1 (RV X.K) Q (fun c o H' => W c o σ H') ((compLoopM g S0 S1.length (compF F (own.map (·.2)) t ifs x env) (items.drop i) S').noexc.bind fun _ S' => .ok (rf S1.length) S'))
    ⟨_, _, g1, g2, hn0, by simpa using h1⟩ (fun i H' hi ⟨μ', S', rs', e', hn, h'⟩ => ?_) (fun i z H' H2 hi ⟨μ', S', rs', e', hn, h'⟩ hy => ?_) (fun H' ⟨μ', S', rs', e', hn, h'⟩ => ?_)
  · refine wG μ' S' H' rs' e'.toMono ?_
    cases hs' : still g S0 S' with
    | true => rfl
    | false => exact (bad_of hs' h').elim
  · have hdr : items.drop i = items[i] :: items.drop (i + 1) := by rw [List.drop_eq_getElem_cons hi]
    cases hs' : still g S0 S' with
    | false => exact (bad_of hs' h').elim
    | true =>
      obtain ⟨rs2, e2, r2⟩ := wY i z H' H2 μ' S' items[i] (by simp [hi]) rs' e'.toMono hs' hy
      rw [hdr] at h'
      unfold compLoopM at h'
      rw [hs'] at h'
      simp only [if_true] at h'
      rw [noexc_bind, bind_bind] at h'
      have go : ∀ {μ3 : Mu} {H3 : Hp}, Ext X.K μ' H' μ3 H3 → μ3.pl[S1.length]? = some D := fun e3 => by
        obtain ⟨ν, e⟩ := e3.pre
        obtain ⟨l, _⟩ := List.getElem?_eq_some_iff.mp hn
        rw [e, List.getElem?_append_left l]
        exact hn
      cases hb : bindT t items[i] (wipeE env (own.map (·.2))) with
      | none =>
        have hf : compF F (own.map (·.2)) t ifs x env items[i] S' = .bad := by unfold compF; rw [hb]
        rw [hf] at h'
        exact h'.elim
      | some env2 =>
        have hf : compF F (own.map (·.2)) t ifs x env items[i] S' = (evAll F ifs env2 S').bind fun b S4 => if b = true then (ev F x env2 S4).bind fun y S5 => .ok (some y) S5 else .ok none S4 := by unfold compF; rw [hb]
        rw [hf, noexc_bind, bind_bind] at h'
        have reW : RelE X.K μ' H2 (wipeE env (own.map (·.2))) (L2.wipe σ (own.map (·.2))) := (((re.mono e1).mono (e'.trans e2))).wipe _
        refine ⟨μ', S', _, items[i], env2, rs2, reW, r2, hb, fun σ3 μ3 H3 rs3 e3 re3 sb3 => ⟨?_, ?_⟩⟩
        · rw [sb3 _ hsl]
          exact wipe_wipe fun i hi => hi
        · have e03 := e'.trans (e2.trans e3)
          refine ⟨μ3, S', env2, rs3, re3, (Post.step (R' := RB) h').mono fun b H4 ⟨μ4, b', S4, rs4, e4, rb, h4⟩ => ?_⟩
          cases (show b = b' from rb)
          have e24 := (e2.trans e3).trans e4
          cases b with
          | false =>
            simp only [Bool.false_eq_true, if_false, Res.noexc_ok, Res.bind_ok] at h4
            exact ⟨μ4, S4, rs4, e03.trans e4, go e24, h4⟩
          | true =>
            simp only [if_true] at h4
            rw [noexc_bind, bind_bind] at h4
            simp only [if_true]
            refine ⟨μ4, S4, env2, rs4, re3.mono e4, (Post.step (R' := RV X.K) h4).mono fun yv H5 ⟨μ5, yd, S5, rs5, e5, ry, h5⟩ => ?_⟩
            simp only [Res.noexc_ok, Res.bind_ok] at h5
            cases hat : atL S5 S1.length with
            | none => rw [hat] at h5; exact h5.elim
            | some acc =>
              rw [hat] at h5
              simp only at h5
              split at h5
              · rename_i hlen
                have hn5 := go (e24.trans e5)
                obtain ⟨a, ws, k1, k2, k3⟩ := rs5.lst_at hat
                rw [hn5] at k1
                cases k1
                obtain ⟨q1, q2⟩ := rs5.set hn5 (k3.append (.cons ry .nil))
                exact ⟨ws, k2, by rw [k3.length]; exact hlen, μ5, _, q1, (e03.trans (e4.trans e5)).trans q2, hn5, h5⟩
              · exact h5.elim
  · rw [List.drop_length] at h'
    unfold compLoopM at h'
    split at h'
    · exact h' _ μ' H' rs' e' (.rf hn)
    · exact h'.elim
/-- a comprehension, whatever the list's place -/
theorem imp_comp {m : Bool} {own : List (Str × Nat)} {k : IK} {its ifs : List Ex} (hsl : ∀ i ∈ tgSlots t, i ∈ own.map (·.2)) :
    ∀ σ H Q, tE X.K T F W (.comp m (own.map (·.2)) t k its ifs x) σ H Q → tLc (tI X.K T F W k its) (tG X.K t) (tTs X.K T F W0 ifs) (tE X.K T F W0 x) (own.map (·.2)) σ H Q := by
  cases m with
  | true => exact e_comp1 hsl
  | false => exact e_comp0 hsl
section
variable {m : Bool} {own : List (Str × Nat)} {scope : Scope} {k : IK} {its ifs : List Ex} {ifsE : List Expr}
theorem e_lc (hc : X.calm = true) (hN : X.N.Nodup) (hi : PI X tg iter (tI X.K T F W k its)) (ok : BlkOk X.N X.env.scope scope own) (hsl : ∀ i ∈ tgSlots t, i ∈ own.map (·.2))
    (hg : ∀ (s : Shared) (H : Hp) (C : Addr) (cl : List (Str × Addr)) (fp : List Addr), PG (X.blk s H scope (compEnvC scope cl C X.env) fp) tg (tG X.K t))
    (ht : ∀ (s : Shared) (H : Hp) (C : Addr) (cl : List (Str × Addr)) (fp : List Addr), PTs (X.blk s H scope (compEnvC scope cl C X.env) fp) ifsE (tTs X.K T F W0 ifs))
    (he : ∀ (s : Shared) (H : Hp) (C : Addr) (cl : List (Str × Addr)) (fp : List Addr), PE (X.blk s H scope (compEnvC scope cl C X.env) fp) elt (tE X.K T F W0 x))
    (hs : ∀ y, foldedSetIterable iter X.env y = pure y) : PE X (.ListComp elt [⟨tg, iter, ifsE, 0⟩] scope pos) (tE X.K T F W (.comp m (own.map (·.2)) t k its ifs x)) :=
  PE_imp (pe_lc hc hN hi ok hg ht he hs) (imp_comp hsl)
theorem s_setLc {j : Nat} {nm : Str} {py spos : Pos} (hc : X.calm = true) (hN : X.N.Nodup) (hy : X.N[j]? = some nm) (hyl : X.env.scope.names.lookup nm = some .local) (hsw : swapsWith (.ListComp elt [⟨tg, iter, ifsE, 0⟩] scope pos) (some (.Name nm py)) spos.line X.env = pure true)
    (hi : PI X tg iter (tI X.K T F W k its)) (ok : BlkOk X.N X.env.scope scope own) (hsl : ∀ i ∈ tgSlots t, i ∈ own.map (·.2))
    (hg : ∀ (s : Shared) (H : Hp) (C : Addr) (cl : List (Str × Addr)) (fp : List Addr), PG (X.blk s H scope (compEnvC scope cl C X.env) fp) tg (tG X.K t))
    (ht : ∀ (s : Shared) (H : Hp) (C : Addr) (cl : List (Str × Addr)) (fp : List Addr), PTs (X.blk s H scope (compEnvC scope cl C X.env) fp) ifsE (tTs X.K T F W0 ifs))
    (he : ∀ (s : Shared) (H : Hp) (C : Addr) (cl : List (Str × Addr)) (fp : List Addr), PE (X.blk s H scope (compEnvC scope cl C X.env) fp) elt (tE X.K T F W0 x))
    (hs : ∀ y, foldedSetIterable iter X.env y = pure y) : PS X (.Assign [.Name nm py] (.ListComp elt [⟨tg, iter, ifsE, 0⟩] scope pos) spos) (tS X.K T F W (.asg (.nm j) (.comp m (own.map (·.2)) t k its ifs x))) := by
  refine PS_imp (ps_setLc hc hN hy hyl hsw hi ok hg ht he hs) fun Dn σ H ⟨μ, S, env, rs, re, h⟩ => ?_
  refine imp_comp hsl σ H _ ⟨μ, S, env, rs, re, (PostS.out (R := RV X.K) re h).mono fun z H1 ⟨μ1, d, S1, rs1, e1, r1, h1⟩ => h1 _ μ1 H1 rs1 .refl ((re.mono e1).set j r1)⟩
end
end
end DL

set_option linter.all false
set_option maxRecDepth 100000
/-! DL.More: isinstance. -/
namespace DL
open PySem L2 PySem.Spec PyProof.Rows
/-- the built-in classes that are asked for -/
def tyNm : Nat → String
  | 0 => "int"
  | 1 => "bool"
  | 2 => "tuple"
  | 3 => "str"
  | _ => "list"
/-- the built-in class of a datum that is no list -/
def tyD : D → String
  | .none => "NoneType"
  | .bool _ => "bool"
  | .int _ => "int"
  | .str _ => "str"
  | .tuple _ => "tuple"
  | _ => "list"
theorem kit_tab : ∀ t ≤ 4, (kitB "NoneType" (tyNm t) = some false) ∧ (kitB "bool" (tyNm t) = some (t == 0 || t == 1)) ∧ (kitB "int" (tyNm t) = some (t == 0)) ∧ (kitB "str" (tyNm t) = some (t == 3)) ∧ (kitB "tuple" (tyNm t) = some (t == 2)) ∧ (kitB "list" (tyNm t) = some (t == 4)) := by
  decide +kernel
section
variable {K : PySem.W.Frag} {T : Tb} {F : FS} {W : WX} {X : Cx} {a : Expr} {xa : Ex} {pos : Pos} {μ : Mu} {S : Store} {H : Hp}
theorem isT_ok {t : Nat} {x : V} {d : D} {b : Bool} (ht : t ≤ 4) (rs : RelS K μ S H) (r : Rep K μ H x d) (h : isTy S t d = some b) : ∃ tv, TyX K H x tv ∧ PySem.W.kitOne K tv (.type (tyNm t)) = some b := by
  obtain ⟨k0, k1, k2, k3, k4, k5⟩ := kit_tab t ht
  cases r with
  | non =>
    refine ⟨_, .base .non, kit_ty ?_⟩
    rw [k0]
    unfold isTy at h
    match t, ht, h with
    | 0, _, h => simpa using h
    | 1, _, h => simpa using h
    | 2, _, h => simpa using h
    | 3, _, h => simpa using h
    | 4, _, h => simpa using h
  | bl c =>
    refine ⟨_, .base (.bl c), kit_ty ?_⟩
    rw [k1]
    unfold isTy at h
    match t, ht, h with
    | 0, _, h => simpa using h
    | 1, _, h => simpa using h
    | 2, _, h => simpa using h
    | 3, _, h => simpa using h
    | 4, _, h => simpa using h
  | int c =>
    refine ⟨_, .base (.int c), kit_ty ?_⟩
    rw [k2]
    unfold isTy at h
    match t, ht, h with
    | 0, _, h => simpa using h
    | 1, _, h => simpa using h
    | 2, _, h => simpa using h
    | 3, _, h => simpa using h
    | 4, _, h => simpa using h
  | str c =>
    refine ⟨_, .base (.str c), kit_ty ?_⟩
    rw [k3]
    unfold isTy at h
    match t, ht, h with
    | 0, _, h => simpa using h
    | 1, _, h => simpa using h
    | 2, _, h => simpa using h
    | 3, _, h => simpa using h
    | 4, _, h => simpa using h
  | tup t1 l1 =>
    refine ⟨.type "tuple", ?_, kit_ty ?_⟩
    · rcases t1 with (t1 | ⟨o, t1⟩) | ⟨o, its, n, e1, e2, _⟩
      · exact .base (.tup t1)
      · exact .fTuple t1
      · exact .kTuple e1 e2
    · rw [k4]
      unfold isTy at h
      match t, ht, h with
      | 0, _, h => simpa using h
      | 1, _, h => simpa using h
      | 2, _, h => simpa using h
      | 3, _, h => simpa using h
      | 4, _, h => simpa using h
  | lst t0 t1 l1 =>
    refine ⟨_, .base (.lst t1), kit_ty ?_⟩
    rw [k5]
    unfold isTy at h
    match t, ht, h with
    | 0, _, h => simpa using h
    | 1, _, h => simpa using h
    | 2, _, h => simpa using h
    | 3, _, h => simpa using h
    | 4, _, h => simpa using h
  | ro t1 =>
    refine ⟨.type "list", (by rcases t1 with ⟨o, t1⟩ | ⟨o, its, n, k1, k2, _⟩; exact .base (.frz t1); exact .kList k1 k2), kit_ty ?_⟩
    rw [k5]
    unfold isTy at h
    match t, ht, h with
    | 0, _, h => simpa [lstOf] using h
    | 1, _, h => simpa [lstOf] using h
    | 2, _, h => simpa [lstOf] using h
    | 3, _, h => simpa [lstOf] using h
    | 4, _, h => simpa [lstOf] using h
  | rf t1 =>
    rename_i ad n
    have hs : (lstOf S (rf n)).map (fun _ => t == 4) = some b := by
      unfold isTy at h
      match t, ht, h with
      | 0, _, h => simpa using h
      | 1, _, h => simpa using h
      | 2, _, h => simpa using h
      | 3, _, h => simpa using h
      | 4, _, h => simpa using h
    cases hl : lstOf S (rf n) with
    | none => rw [hl] at hs; cases hs
    | some xs =>
      rw [hl] at hs
      cases hs
      simp only [lstOf, Int.toNat_natCast] at hl
      obtain ⟨b', ws, e1, e2, e3⟩ := rs.lst_at hl
      rw [t1] at e1
      cases e1
      exact ⟨_, .base (.lst e2), kit_ty k5⟩
theorem tyBoot : ∀ t ≤ 4, bootBuiltins (Str.ofString (tyNm t)) = some (.type (tyNm t)) ∧ Str.ofString (tyNm t) ≠ "__name__" ∧ ((Str.ofString (tyNm t)) == ("__debug__" : Str)) = false := by
  intro t ht
  match t, ht with
  | 0, _ => exact ⟨by decide +kernel, by decide +kernel, by decide +kernel⟩
  | 1, _ => exact ⟨by decide +kernel, by decide +kernel, by decide +kernel⟩
  | 2, _ => exact ⟨by decide +kernel, by decide +kernel, by decide +kernel⟩
  | 3, _ => exact ⟨by decide +kernel, by decide +kernel, by decide +kernel⟩
  | 4, _ => exact ⟨by decide +kernel, by decide +kernel, by decide +kernel⟩
theorem nx_isT {t : Nat} {vs : List D} : NoExc (isTV t vs S) := by
  unfold isTV
  repeat' split
  all_goals first | exact nx_ok | exact nx_bad
theorem e_isT {t : Nat} {p q : Pos} (ht : t ≤ 4) (hg : Gl X "isinstance") (hm : X.mg "isinstance" = none) (hg2 : Gl X (Str.ofString (tyNm t))) (hm2 : X.mg (Str.ofString (tyNm t)) = none) (hn : notStar a = true) (ha : PE X a (tE X.K T F W xa)) :
    PE X (.Call (.Name "isinstance" p) [a, .Name (Str.ofString (tyNm t)) q] [] pos) (tE X.K T F W (.blt (.isT t) false [xa])) := by
  obtain ⟨b1, b2, b3⟩ := tyBoot t ht
  refine PE_imp (pe_callB call_isi hg hm (by decide +kernel) (pa_cons ha (pa_cons (pe_bltn (v := .ty (tyNm t)) hg2 hm2 b1 rfl b2 b3) pa_nil) (star_cons hn)) (by decide +kernel) (by decide +kernel) (star_cons hn) (star_none (by simp [notStar]))) fun σ H Q ⟨μ, S, env, rs, re, h⟩ => ?_
  have h : Post X.K T μ H (RV X.K) Q (fun c o H' => W c o σ H') ((ev F xa env S).bind fun d S1 => isTV t [d] S1) := by
    have e0 : ev F (.blt (.isT t) false [xa]) env S = (ev F xa env S).bind fun d S1 => isTV t [d] S1 := by
      show ((ev F xa env S).bind fun x S1 => (evs F [] env S1).bind fun xs S2 => .ok (x :: xs) S2).bind _ = _
      cases ev F xa env S <;> rfl
    rw [← e0]
    exact h
  refine ⟨μ, S, env, rs, re, (Post.bind h).mono fun x H1 ⟨μ1, d, S1, rs1, e1, r1, h1⟩ => ?_⟩
  obtain ⟨z, S', ez, q'⟩ := h1.ok_of nx_isT
  simp only [isTV] at ez
  cases hi : isTy S1 t d with
  | none => rw [hi] at ez; cases ez
  | some b =>
    rw [hi] at ez
    cases ez
    obtain ⟨tv, k1, k2⟩ := isT_ok ht rs1 r1 hi
    exact ⟨x, .ty (tyNm t), tv, _, b, rfl, .ty _, k1, k2, q' _ _ _ rs1 .refl (.bl b)⟩
end
end DL

set_option linter.all false
set_option maxRecDepth 100000
set_option maxHeartbeats 4000000
/-! DL.Set: sorted(set(xs)) of a list of ints, list(range(..)). -/
namespace DL
open PySem L2 PySem.Spec PyProof.Rows
/-- a new set's object -/
abbrev nset (w : World) : Obj := { cls := .type "set", dict := none, data := .set #[] 0 (.fresh 0 0 (!w.params.followText "set-order")) }
section
variable {P : Program} {w : World} {A : Around} {E : Value → Shared → Prop} {s : Shared}
set_option maxHeartbeats 8000000 in
/-- set(xs) of a list of ints -/
theorem set_lstI {l : Addr} {us : Array Value} (ns : List Int) {Q : Value → Shared → Prop} (hd : A.handled = none) (hL : s.heap.IsList l us) (hI : IntsAre us.toList ns) (few : ns.length + 1 < scanBound)
    (h : ∀ (h' : Heap) (tk c : Nat), SetR w h' s.heap.objs.size (fun j => decide (j ∈ ns)) c → c ≤ ns.length → (∀ b o, s.heap.get? b = some o → h'.get? b = some o) → Q (.ref s.heap.objs.size) { s with heap := h', toks := tk }) :
    wpAny (model P w) A (call (.type "set") [.ref l]) Q E s := by
  have z : us.size = ns.length := by rw [← IntsAre.length hI, Array.length_toList]
  obtain ⟨_, _, m1⟩ := F.called_set.mro
  have m2 := F.called_set.made; have m3 := F.called_set.sub; have m4 := F.called_set.notType; have m5 := F.called_set.canCreate; have m6 := F.typeCall_set_1 (.ref l)
  refine wpAny_call (codeAny_of_tree ?_)
  show wpAny _ _ (callAny (.type "set") _) _ _ _
  refine wpAny_pure ⟨Code.quiet_builtin _ (by decide +kernel), codeAny_builtin F.entry_type_call ?_⟩
  rw [Around.under_plain (weight_type_call_type "set" [.ref l] []) rfl]
  repeat (any_goals (first | assumption | wp_step))
  refine codeAny_mono (code_set_led1 (.ref l) (E := E) (Q₁ := fun o s1 => o = .ref s.heap.objs.size ∧ s1 = { s with heap := s.heap.push (nset w) }) ⟨rfl, rfl⟩) fun r s1 hr => ?_
  cases r with
  | error e => exact hr
  | ok f =>
    cases f with
    | ret ob =>
      obtain ⟨rfl, rfl⟩ := hr
      have gS : (s.heap.push (nset w)).get? s.heap.objs.size = some (nset w) := Heap.get?_push_size _ rfl
      have tS : Shared.TypeIs { s with heap := s.heap.push (nset w) } (.ref s.heap.objs.size) "set" := ⟨_, gS, rfl⟩
      have i1 := F.called_set.init.lookup; have i2 := F.called_set.init.bind (.ref s.heap.objs.size)
      repeat (any_goals (first | assumption | wp_step))
      refine codeAny_mono (codeAny_call_builtin (R := wants (fun r s2 => r = .none ∧ ∃ h' tk c, s2 = { s with heap := h', toks := tk } ∧ SetR w h' s.heap.objs.size (fun j => decide (j ∈ ns)) c ∧ c ≤ ns.length ∧ (∀ b o, s.heap.get? b = some o → h'.get? b = some o)) E)
        F.called_set.init.plain F.entry_set_init (check_set_init_1 tS ?_)) fun r2 s2 hr2 => ?_
      · obtain ⟨⟨c0, d0, t0, l0⟩, gl, hc, n0, hdt⟩ := hL
        simp only at hc hdt
        subst hc; subst hdt
        have gl2 : (s.heap.push (nset w)).get? l = some { cls := .type "list", dict := d0, data := .seq us n0, slots := l0 } := Heap.get?_push_of_some _ gl
        have e1 := F.sub_list_set; have e2 := F.sub_list_frozenset; have e3 : (Value.type "list" == Value.type "dict") = false := by decide
        have isL : (s.heap.push (nset w)).IsList l us := ⟨_, gl2, rfl, n0, rfl⟩
        unfold Builtin.«set.__init__» noKeywords Builtin.Frozenset.updateFrom
        generalize hit : pyIter = it
        wp_walk
        subst hit
        refine wpAny_pyIter_list isL (wpAny_bind (wpAny_runValue ?_))
        have lt : l < s.heap.objs.size := Heap.lt_size gl
        have sz : (s.heap.push (nset w)).objs.size = s.heap.objs.size + 1 := Heap.size_push ..
        have ne : l ≠ (s.heap.push (nset w)).objs.size := fun q => absurd (q.trans sz) (Nat.ne_of_lt (Nat.lt_succ_of_lt lt))
        have out : s.heap.objs.size ∉ [(s.heap.push (nset w)).objs.size, l] := by
          simp only [List.mem_cons, List.not_mem_nil, or_false, not_or]
          exact ⟨fun q => absurd (q.trans sz) (Nat.ne_of_lt (Nat.lt_succ_self _)), Nat.ne_of_gt lt⟩
        have each : ∀ (i : Nat) (v : Value), us[i]? = some v → ∃ k t, ns[i]? = some k ∧ v = .int k t := fun i v hv => by
          have hi : i < ns.length := by rw [← z]; exact (Array.getElem?_eq_some_iff.mp hv).1
          obtain ⟨t, e⟩ := PyProof.Rows.IntsAre.int_at hI i v (by rw [Array.getElem?_toList]; exact hv)
          exact ⟨ns[i], t, List.getElem?_eq_getElem hi, by rw [e, List.getD_eq_getElem?_getD, List.getElem?_eq_getElem hi] <;> rfl⟩
        refine set_update_ints ((Walks.list (by simp [hd] : A.in1.in1.in1.handled = none) _ l ne us).toS) s.heap.objs.size out ns z few each (us.size - 0) 0 _ (by omega) (Nat.zero_le _) ⟨⟨_, Heap.get?_push_size _ rfl, rfl, rfl⟩, (isL.push _)⟩ ?_ ?_
        · exact ⟨0, Nat.le_refl 0, setR_new_at (Heap.get?_push_of_some _ gS)⟩
        · intro s' c' mv hc' hS'
          obtain ⟨h', g2, d', tk', os'⟩ := s'
          obtain rfl : g2 = s.gens := mv.gens
          obtain rfl : d' = s.drawn := mv.drawn
          obtain rfl : os' = s.os := mv.os
          show wpAny _ _ _ _ _ _
          refine wpAny_pure ?_
          show wpAny _ _ (ret Value.none) _ _ _
          rw [z] at hc'
          refine wpAny_pure ⟨rfl, h', tk', c', rfl, hS', hc', fun b o e => ?_⟩
          have hb := Heap.lt_size e
          refine mv.heap b o ?_ (Heap.get?_push_of_some _ (Heap.get?_push_of_some _ e))
          have sz2 := sz
          simp only [List.mem_cons, List.not_mem_nil, or_false, not_or]
          exact ⟨Nat.ne_of_lt hb, fun q => absurd (q.trans sz) (Nat.ne_of_lt (Nat.lt_succ_of_lt hb))⟩
      · cases r2 with
        | error e => exact hr2
        | ok f2 =>
          cases f2 with
          | ret r =>
            obtain ⟨rfl, h', tk, c', rfl, k1, k2, k3⟩ := hr2
            repeat (any_goals (first | assumption | wp_step))
            exact h _ _ _ k1 k2 k3
          | _ => exact hr2.elim
    | _ => exact hr.elim
end
section
variable {X : Cx} {K : PySem.W.Frag} {T : Tb} {F : FS} {W : WX} {a b : Expr} {xa xb : Ex} {m : Bool} {p p2 p3 pos : Pos}
def rSetL (K : PySem.W.Frag) (w : World) : List V → Hp → VK → Prop := fun xs H Q => ∃ (l : Addr) (ns : List Int), xs = [V.ref l] ∧ (SqL K H l (ns.map V.int) ∨ SqT K H l (ns.map V.int)) ∧ ns.length < 64 ∧ ∀ q n, H q = none → n ≤ ns.length → Q (.ref q) (upd H q (SetO w q (fun j => decide (j ∈ ns)) n))
theorem scan64 {n : Nat} (h : n < 64) : n + 1 < scanBound := by unfold scanBound; omega
theorem cr_setL (hc : X.calm = true) : CallR X (.type "set") (rSetL X.K X.w) := by
  intro pins s σ H xs us Q I r h
  obtain ⟨l, ns, rfl, hs, hl, q⟩ := h
  rw [Vals.ref1 r]
  have fin : ∀ (h' : Heap) (tk c : Nat), SetR X.w h' s.heap.objs.size (fun j => decide (j ∈ ns)) c → c ≤ ns.length → (∀ b o, s.heap.get? b = some o → h'.get? b = some o) → EP X pins σ Q (.ref s.heap.objs.size) { s with heap := h', toks := tk } := fun h' tk c k1 k2 k3 =>
    ⟨.ref _, upd H s.heap.objs.size (SetO X.w s.heap.objs.size (fun j => decide (j ∈ ns)) c), I.laid k3 (Nat.le_refl _) (setO_new k1), rfl, q _ _ (I.hok.fresh (Nat.le_refl _)) k2⟩
  rcases hs with hs | hs
  · obtain ⟨its, rv, pl, hz⟩ := I.list hs
    exact set_lstI ns (I.ok.hd hc) pl.isList (by simpa using ints_of_vals rv) (scan64 hl) fin
  · obtain ⟨its, rv, pl, hz⟩ := I.tuple hs
    exact call_set_tupI ns (I.ok.hd hc) pl (by simpa using ints_of_vals rv) (scan64 hl) fin
theorem mem_uins {x z : Int} : ∀ {l : List Int}, z ∈ uins x l ↔ z = x ∨ z ∈ l
  | [] => by simp [uins]
  | y :: r => by
    unfold uins
    split
    · simp
    · split
      · rename_i h; subst h; simp
      · simp [mem_uins (l := r)]
        constructor <;> (rintro (h | h | h) <;> simp [h])
theorem mem_usort {z : Int} : ∀ {l : List Int}, z ∈ usort l ↔ z ∈ l
  | [] => by simp [usort]
  | y :: r => by
    show z ∈ uins y (usort r) ↔ _
    rw [mem_uins, mem_usort (l := r)]
    simp
theorem uins_lt {x : Int} : ∀ {l : List Int}, l.Pairwise (· < ·) → (uins x l).Pairwise (· < ·)
  | [], _ => by simp [uins]
  | y :: r, h => by
    unfold uins
    obtain ⟨h1, h2⟩ := List.pairwise_cons.mp h
    split
    · rename_i c
      refine List.pairwise_cons.mpr ⟨fun z hz => ?_, h⟩
      rcases List.mem_cons.mp hz with e | e
      · omega
      · have := h1 z e; omega
    · split
      · exact h
      · refine List.pairwise_cons.mpr ⟨fun z hz => ?_, uins_lt h2⟩
        rcases mem_uins.mp hz with e | e
        · omega
        · exact h1 z e
theorem usort_lt : ∀ (l : List Int), (usort l).Pairwise (· < ·)
  | [] => by simp [usort]
  | y :: r => uins_lt (usort_lt r)
theorem asc_eq : ∀ {l k : List Int}, l.Pairwise (· < ·) → k.Pairwise (· < ·) → (∀ z, z ∈ l ↔ z ∈ k) → l = k
  | [], [], _, _, _ => rfl
  | [], y :: k, _, _, h => by have := (h y).mpr (by simp); simp at this
  | y :: l, [], _, _, h => by have := (h y).mp (by simp); simp at this
  | x :: l, y :: k, h1, h2, h => by
    obtain ⟨a1, a2⟩ := List.pairwise_cons.mp h1
    obtain ⟨b1, b2⟩ := List.pairwise_cons.mp h2
    have e : x = y := by
      have p := (h x).mp (by simp)
      have q := (h y).mpr (by simp)
      rcases List.mem_cons.mp p with p | p
      · exact p
      · rcases List.mem_cons.mp q with q | q
        · exact q.symm
        · have := a1 y q; have := b1 x p; omega
    subst e
    rw [asc_eq a2 b2 fun z => ?_]
    constructor
    · intro hz
      have := (h z).mp (List.mem_cons_of_mem _ hz)
      rcases List.mem_cons.mp this with e | e
      · have := a1 z hz; omega
      · exact e
    · intro hz
      have := (h z).mpr (List.mem_cons_of_mem _ hz)
      rcases List.mem_cons.mp this with e | e
      · have := b1 z hz; omega
      · exact e
theorem RepL.intsD {μ : Mu} {H : Hp} : ∀ (ns : List Int), RepL K μ H (ns.map V.int) (ns.map .int)
  | [] => .nil
  | i :: r => .cons (.int i) (RepL.intsD r)
theorem e_sortset (hc : X.calm = true) (hg : Gl X "sorted") (hm : X.mg "sorted" = none) (hg2 : Gl X "set") (hm2 : X.mg "set" = none) (hn : notStar a = true) (ha : PE X a (tE X.K T F W xa)) :
    PE X (.Call (.Name "sorted" p) [.Call (.Name "set" p2) [a] [] p3] [] pos) (tE X.K T F W (.blt .sortset m [xa])) := by
  refine PE_imp (pe_callB (cr_sortedSet hc) hg hm (by decide +kernel) (pa_cons (pe_callTy (cr_setL hc) hg2 hm2 boot_set (pa_cons ha pa_nil (star_cons hn)) (by decide +kernel) (by decide +kernel) (star_cons hn) rfl) pa_nil) (by decide +kernel) (by decide +kernel)) fun σ H Q ⟨μ, S, env, rs, re, h⟩ => ?_
  have e0 : ev F (.blt .sortset m [xa]) env S = (ev F xa env S).bind fun d S1 => sortsetV m [d] S1 := by
    show ((ev F xa env S).bind fun x S1 => (evs F [] env S1).bind fun xs S2 => .ok (x :: xs) S2).bind _ = _
    cases ev F xa env S <;> rfl
  rw [e0] at h
  refine ⟨μ, S, env, rs, re, (Post.bind h).mono fun x H1 ⟨μ1, d, S1, rs1, e1, r1, h1⟩ => ?_⟩
  obtain ⟨z, S', ez, q'⟩ := h1.ok_of (nx_blt (b := .sortset) (m := m) (vs := [d]))
  simp only [sortsetV] at ez
  cases hs : seqOf S1 d with
  | none => rw [hs] at ez; cases ez
  | some xs =>
    rw [hs] at ez
    simp only at ez
    cases hi : intsOf xs with
    | none => rw [hi] at ez; cases ez
    | some is =>
      rw [hi] at ez
      simp only at ez
      split at ez
      · rename_i hl
        obtain ⟨l, vs, rfl, k1, k2⟩ := seq_of rs1 r1 hs
        have exs := intsOf_eq hi
        subst exs
        have hv := k2.intsV
        subst hv
        refine ⟨l, is, rfl, k1, hl, fun p n hp hn => ?_⟩
        obtain ⟨rs2, e2⟩ := rs1.new (o := SetO X.w p (fun j => decide (j ∈ is)) n) hp
        refine ⟨p, _, n, rfl, upd_same, by omega, fun ns q pw mem len hq => ?_⟩
        have en : ns = usort is := asc_eq pw (usort_lt is) fun z => by rw [mem z, mem_usort]; simp
        subst en
        obtain ⟨_, q2⟩ := mk_ok rs2 (RepL.intsD _) ez fun z μ' H' a1 a2 a3 => q' z μ' H' a1 (e2.trans a2) a3
        exact q2 q hq
      · cases ez
theorem rg_rep {μ : Mu} {H : Hp} (i j : Int) : RepL K μ H (rgV i j) (rngD i j) := by
  unfold rgV rngD
  generalize (j - i).toNat = n
  generalize List.range n = l
  induction l with
  | nil => exact .nil
  | cons x r ih => exact .cons (.int _) ih
theorem e_lrng1 (hc : X.calm = true) (hg : Gl X "list") (hm : X.mg "list" = none) (hg2 : Gl X "range") (hm2 : X.mg "range" = none) (hn : notStar a = true) (ha : PE X a (tE X.K T F W xa)) :
    PE X (.Call (.Name "list" p) [.Call (.Name "range" p2) [a] [] p3] [] pos) (tE X.K T F W (.blt .lrng1 m [xa])) := by
  refine PE_imp (pe_listRg hc hg hm (prg_1 hg2 hm2 ha (star_cons hn))) fun σ H Q ⟨μ, S, env, rs, re, h⟩ => ?_
  have e0 : ev F (.blt .lrng1 m [xa]) env S = (ev F xa env S).bind fun d S1 => lrng1V m [d] S1 := by
    show ((ev F xa env S).bind fun x S1 => (evs F [] env S1).bind fun xs S2 => .ok (x :: xs) S2).bind _ = _
    cases ev F xa env S <;> rfl
  rw [e0] at h
  refine ⟨μ, S, env, rs, re, (Post.bind h).mono fun x H1 ⟨μ1, d, S1, rs1, e1, r1, h1⟩ => ?_⟩
  obtain ⟨z, S', ez, q'⟩ := h1.ok_of (nx_blt (b := .lrng1) (m := m) (vs := [d]))
  cases d with
  | int j =>
    simp only [lrng1V] at ez
    split at ez
    · rename_i hj
      cases r1
      refine ⟨j, rfl, ⟨by omega, by omega, by omega, by omega, by omega⟩, ?_⟩
      exact (mk_ok rs1 (rg_rep 0 j) ez q').2
    · cases ez
  | _ => cases ez
theorem e_lrng2 (hc : X.calm = true) (hg : Gl X "list") (hm : X.mg "list" = none) (hg2 : Gl X "range") (hm2 : X.mg "range" = none) (hn : notStar a = true) (hnb : notStar b = true) (ha : PE X a (tE X.K T F W xa)) (hb : PE X b (tE X.K T F W xb)) :
    PE X (.Call (.Name "list" p) [.Call (.Name "range" p2) [a, b] [] p3] [] pos) (tE X.K T F W (.blt .lrng2 m [xa, xb])) := by
  refine PE_imp (pe_listRg hc hg hm (prg_2 hg2 hm2 ha hb (star_cons hn) (star_cons hnb) (star_none (by simp [hnb])))) fun σ H Q ⟨μ, S, env, rs, re, h⟩ => ?_
  have e0 : ev F (.blt .lrng2 m [xa, xb]) env S = (ev F xa env S).bind fun d S1 => (ev F xb env S1).bind fun d2 S2 => lrng2V m [d, d2] S2 := by
    show ((ev F xa env S).bind fun x S1 => ((ev F xb env S1).bind fun y S2 => (evs F [] env S2).bind fun ys S3 => .ok (y :: ys) S3).bind fun xs S2 => .ok (x :: xs) S2).bind _ = _
    cases ev F xa env S with
    | ok d S1 =>
      simp only [Res.bind_ok]
      cases ev F xb env S1 <;> rfl
    | _ => rfl
  rw [e0] at h
  refine ⟨μ, S, env, rs, re, (Post.bind h).mono fun x H1 ⟨μ1, d, S1, rs1, e1, r1, h1⟩ => ?_⟩
  refine ⟨μ1, S1, env, rs1, re.mono e1, (Post.bind h1).mono fun y H2 ⟨μ2, d2, S2, rs2, e2, r2, h2⟩ => ?_⟩
  obtain ⟨z, S', ez, q'⟩ := h2.ok_of (nx_blt (b := .lrng2) (m := m) (vs := [d, d2]))
  cases d with
  | int i =>
    cases d2 with
    | int j =>
      simp only [lrng2V] at ez
      split at ez
      · rename_i hj
        cases r1
        cases r2
        refine ⟨i, j, rfl, rfl, ⟨by omega, by omega, by omega, by omega, by omega⟩, ?_⟩
        exact (mk_ok rs2 (rg_rep i j) ez q').2
      · cases ez
    | _ => cases ez
  | _ => cases ez
end
end DL

set_option linter.all false
set_option maxRecDepth 100000
/-! DL.Sw: which stores are swapped. -/
namespace DL
open PySem L2
def starred : Expr → Bool
  | .Starred .. => true
  | _ => false
/-- the plain local names among targets, on one line -/
def locNames (sc : Scope) (line : Nat) (ts : List Expr) : List Str := ts.filterMap fun
  | .Name id pos => if sc.names.lookup id == some .local && pos.line == line then some id else none
  | _ => none
def swapOf (sc : Scope) (ts vs : List Expr) : Option (Option (List Str)) :=
  if !(ts.length == 2 || ts.length == 3) || vs.length != ts.length then some none
  else if vs.any starred then some none
  else if (locNames sc ((ts.head?.map (·.pos.line)).getD 0) ts).length != ts.length || (locNames sc ((ts.head?.map (·.pos.line)).getD 0) ts).eraseDups.length != (locNames sc ((ts.head?.map (·.pos.line)).getD 0) ts).length then some none
  else if vs.all (foldedForSure 8) then some none
  else if vs.all (constantsAlone 8) then none
  else some (some (locNames sc ((ts.head?.map (·.pos.line)).getD 0) ts))
theorem starred_eq : (fun (e : Expr) => match e with | .Starred .. => true | _ => false) = starred := by
  funext e
  cases e <;> rfl
theorem swap_of {env : PySem.Env} {ts vs : List Expr} {k k2 : Nat} {p p2 : Pos} {r : Option (List Str)} (hk : env.scope.kind = .function) (h : swapOf env.scope ts vs = some r) : swappedStores [.Tuple ts k p] (.Tuple vs k2 p2) env = pure r := by
  have hb : (env.blockKind != .function) = false := by
    unfold PySem.Env.blockKind
    rw [hk]
    rfl
  unfold swappedStores
  simp only [hb, Bool.or_false, pure_bind]
  unfold swapOf at h
  have hloc : (ts.filterMap fun
    | .Name id pos => if env.kindOf id == some .local && pos.line == (ts.head?.map (·.pos.line)).getD 0 then some id else none
    | _ => none) = locNames env.scope ((ts.head?.map (·.pos.line)).getD 0) ts := rfl
  split at h
  · rename_i c1
    rw [if_pos c1]
    cases h; rfl
  · rename_i c1
    rw [if_neg c1]
    split at h
    · rename_i c2
      refine (if_pos c2).trans ?_
      cases h; rfl
    · rename_i c2
      refine (if_neg c2).trans ?_
      split at h
      · rename_i c3
        refine (if_pos c3).trans ?_
        cases h; rfl
      · rename_i c3
        refine (if_neg c3).trans ?_
        split at h
        · rename_i c4
          refine (if_pos c4).trans ?_
          cases h; rfl
        · rename_i c4
          refine (if_neg c4).trans ?_
          split at h
          · cases h
          · rename_i c5
            refine (if_neg c5).trans ?_
            cases h; rfl
end DL

set_option linter.all false
set_option maxRecDepth 100000
/-! DL.Ck: the check that a text of the small language says what the program's own text says. -/
namespace DL
open PySem L2
/-- what is known of the module's names -/
structure Tabs where
  cst : List (Str × D)
  fns : List (Str × Nat)
  prs : Nat → List Str
  dfs : Nat → List D
  kws : Nat → List Nat
  bls : List Str
  kds : List (Str × List (Str × D)) := []
def dbg (x : Str) : Bool := x == ("__debug__" : Str)
def visB (sc : Scope) (x : Str) : Bool := match sc.names.lookup x with
  | some .local => true
  | some .cell => true
  | some .free => true
  | _ => false
def glB (sc : Scope) (x : Str) : Bool := sc.names.lookup x == some .globalImplicit
/-- a built-in's name -/
def blB (B : Tabs) (sc : Scope) (x : Str) : Bool := glB sc x && B.bls.contains x
/-- constants -/
def ckC (B : Tabs) (sc : Scope) (d : D) : Expr → Bool
  | .Constant (.int i) _ _ => beqD d (.int i)
  | .Constant (.bool b) _ _ => beqD d (.bool b)
  | .Constant .none _ _ => beqD d .none
  | .Constant (.str x) _ _ => beqD d (.str x)
  | .Name x _ => glB sc x && !dbg x && (match B.cst.lookup x with
    | some d' => beqD d d'
    | none => false)
  | _ => false
def beqKd : List (Str × D) → List (Str × D) → Bool
  | [], [] => true
  | (a, x) :: r, (b, y) :: s => decide (a = b) && beqD x y && beqKd r s
  | _, _ => false
theorem beqKd_eq : ∀ {a b : List (Str × D)}, beqKd a b = true → a = b
  | [], [], _ => rfl
  | [], _ :: _, h => by cases h
  | _ :: _, [], h => by cases h
  | (a, x) :: r, (b, y) :: s, h => by
    simp only [beqKd, Bool.and_eq_true, decide_eq_true_eq] at h
    rw [h.1.1, beqD_eq h.1.2, beqKd_eq h.2]
mutual
/-- targets of plain names -/
def ckT (N : List Str) (ok : Str → Bool) : Tg → Expr → Bool
  | .nm i, .Name x _ => N[i]? == some x && ok x
  | .tup ts, .Tuple es _ _ => ckTs N ok ts es
  | _, _ => false
def ckTs (N : List Str) (ok : Str → Bool) : List Tg → List Expr → Bool
  | [], [] => true
  | t :: ts, e :: es => notStar e && ckT N ok t e && ckTs N ok ts es
  | _, _ => false
end
/-- the walked thing's own arguments -/
def itArgs : IK → Expr → List Expr
  | .val, e => [e]
  | _, .Call _ es _ _ => es
  | _, _ => []
def notSet : Expr → Bool
  | .Set .. => false
  | _ => true
def isTupE : Expr → Bool
  | .Tuple .. => true
  | _ => false
def itNm : IK → Str
  | .rng1 => "range"
  | .rng2 => "range"
  | .enum => "enumerate"
  | .zip => "zip"
  | .val => ""
/-- how many arguments -/
def itAr : IK → Nat
  | .rng1 => 1
  | .rng2 => 2
  | .enum => 1
  | .zip => 2
  | .val => 1
def ckIt (B : Tabs) (sc : Scope) (k : IK) (tg e : Expr) : Bool := match k with
  | .val => notSet e
  | k => match e with
    | .Call (.Name x _) es [] _ => x == itNm k && blB B sc x && es.length == itAr k && (k == .rng1 || k == .rng2 || isTupE tg)
    | _ => false
def ownOf (N : List Str) (own : List Nat) : List (Str × Nat) := own.map fun i => ((N[i]?).getD "", i)
/-- target names of a comprehension's clause -/
def compOk (scope sc' : Scope) (x : Str) : Bool := sc'.names.lookup x == some .local || (scope.names.lookup x == some .cell && sc'.names.lookup x == some .cell)
/-- a built-in that is called -/
def bltOk (B : Tabs) (sc : Scope) (b : Blt) (x : Str) : Bool := match bltId b with
  | some (n, _) => x == Str.ofString n && blB B sc x
  | none => false
def mthOk (k : Mth) (m : Str) (na : Nat) : Bool := m == Str.ofString (mthId k) && (if k = .pop then na == 0 else na == 1) && k != .extend
mutual
def ck (B : Tabs) (N : List Str) (sc : Scope) : Ex → Expr → Bool
  | .c d, e => ckC B sc d e
  | .v i, e => match e with
    | .Name x _ => N[i]? == some x && visB sc x && !dbg x && !(x == ("__classdict__" : Str))
    | _ => false
  | .bin o m a b, e => match e with
    | .BinOp l o' r _ => decide (o = o') && ck B N sc a l && ck B N sc b r
    | _ => false
  | .cmp o a b, e => match e with
    | .Compare l [o'] [r] _ => decide (o = o') && !behindInMarks o r && ck B N sc a l && ck B N sc b r
    | _ => false
  | .chain o o2 a b c, e => match e with
    | .Compare l [o', o2'] [r, r2] _ => decide (o = o') && decide (o2 = o2') && !lastMarks [o, o2] [r, r2] && ck B N sc a l && ck B N sc b r && ck B N sc c r2
    | _ => false
  | .neg a, e => match e with
    | .UnaryOp .USub l _ => ck B N sc a l
    | _ => false
  | .not a, e => match e with
    | .UnaryOp .Not l _ => ck B N sc a l
    | _ => false
  | .and a b, e => match e with
    | .BoolOp .And [x, y] _ => ck B N sc a x && ck B N sc b y
    | .BoolOp .And (x :: y :: z :: r) p => ck B N sc a x && ck B N sc b (.BoolOp .And (y :: z :: r) p)
    | _ => false
  | .or a b, e => match e with
    | .BoolOp .Or [x, y] _ => ck B N sc a x && ck B N sc b y
    | .BoolOp .Or (x :: y :: z :: r) p => ck B N sc a x && ck B N sc b (.BoolOp .Or (y :: z :: r) p)
    | _ => false
  | .ite t a b, e => match e with
    | .IfExp x y z _ => ck B N sc t x && ck B N sc a y && ck B N sc b z
    | _ => false
  | .tup l, e => match e with
    | .Tuple es _ _ => cks B N sc l es
    | _ => false
  | .lst m l, e => match e with
    | .List es _ => cks B N sc l es
    | _ => false
  | .sub a b, e => match e with
    | .Subscript x y _ => notSlice y && ck B N sc a x && ck B N sc b y
    | _ => false
  | .kd kvs a, e => match e with
    | .Subscript (.Name x _) y _ => notSlice y && glB sc x && !dbg x && (match B.kds.lookup x with
      | some k => beqKd kvs k
      | none => false) && ck B N sc a y
    | _ => false
  | .slc m a lo hi, e => match e with
    | .Subscript x (.Slice l h none _) _ => ck B N sc a x && (match l with
        | none => isAbs lo
        | some y => !isAbs lo && ck B N sc lo y) && (match h with
        | none => isAbs hi
        | some y => !isAbs hi && ck B N sc hi y)
    | _ => false
  | .call f l dd, e => match e with
    | .Call (.Name x _) es kws _ => glB sc x && !dbg x && B.fns.lookup x == some f && cks B N sc l (es ++ kws.map (·.value)) && es.all notStar && (match kws with
        | [] => decide (l.length ≤ (B.prs f).length) && decide ((B.prs f).length ≤ l.length + (B.dfs f).length) && beqL dd ((B.dfs f).drop (l.length + (B.dfs f).length - (B.prs f).length))
        | _ => beqL dd [] && kwAll kws && decide (kwNames kws = (B.prs f).drop es.length) && (B.kws f).contains es.length && decide (l.length = (B.prs f).length))
    | _ => false
  | .blt b m l, e => match e with
    | .Call (.Name x _) es [] _ => (match b with
      | .isT t => x == ("isinstance" : Str) && blB B sc x && decide (t ≤ 4) && !m && (match l, es with
        | [a], [y, .Name z _] => z == Str.ofString (tyNm t) && blB B sc z && notStar y && cks B N sc l [y]
        | _, _ => false)
      | .sortset => x == ("sorted" : Str) && blB B sc x && (match es with
        | [.Call (.Name y _) [z] [] _] => y == ("set" : Str) && blB B sc y && cks B N sc l [z]
        | _ => false)
      | .lrng1 => x == ("list" : Str) && blB B sc x && (match es with
        | [.Call (.Name y _) [z] [] _] => y == ("range" : Str) && blB B sc y && cks B N sc l [z]
        | _ => false)
      | .lrng2 => x == ("list" : Str) && blB B sc x && (match es with
        | [.Call (.Name y _) [z, z2] [] _] => y == ("range" : Str) && blB B sc y && cks B N sc l [z, z2]
        | _ => false)
      | b => bltOk B sc b x && es.length == 1 + (if b = .max2 || b = .min2 then 1 else 0) && cks B N sc l es)
    | _ => false
  | .mth k o l, e => match e with
    | .Call (.Attribute y m ap) es [] p => mthOk k m es.length && plainRecv y && ap.endLine == p.line && ck B N sc o y && cks B N sc l es
    | _ => false
  | .comp m own t k its ifs elt, e => match e with
    | .ListComp elt' [⟨tg, iter, ifs', ia⟩] scope _ => decide (ia = 0) && blkC N sc scope (ownOf N own) && (tgSlots t).all own.contains && ckIt B sc k tg iter && cks B N sc its (itArgs k iter) && ckT N (compOk scope (relS scope sc)) t tg &&
        cks B N (relS scope sc) ifs ifs' && ck B N (relS scope sc) elt elt'
    | _ => false
def cks (B : Tabs) (N : List Str) (sc : Scope) : List Ex → List Expr → Bool
  | [], [] => true
  | x :: xs, e :: es => notStar e && ck B N sc x e && cks B N sc xs es
  | _, _ => false
end
/-! ### statements -/
/-- is the comprehension's store exchanged? -/
def swB (sc : Scope) (x : Str) (line : Nat) : Expr → Bool
  | .ListComp _ _ s p => sc.names.lookup x == some .local && line == p.line && !(s.names.any fun (n, k) => n == x && (k == .local || k == .cell))
  | .SetComp .. => true
  | .DictComp .. => true
  | _ => false
def notComp : Expr → Bool
  | .ListComp .. => false
  | .SetComp .. => false
  | .DictComp .. => false
  | _ => true
def locB (sc : Scope) (x : Str) : Bool := sc.names.lookup x == some .local || sc.names.lookup x == some .cell
def nmSlots : List Tg → Option (List Nat)
  | [] => some []
  | .nm i :: ts => (nmSlots ts).map (i :: ·)
  | _ => none
def swOk (N : List Str) (sc : Scope) (ts : List Tg) (es vs : List Expr) : Bool := match swapOf sc es vs with
  | none => false
  | some none => true
  | some (some nms) => match nmSlots ts with
    | some is => decide (is.length = nms.length) && decide is.Nodup && (is.zip nms).all fun p => N[p.1]? == some p.2 && sc.names.lookup p.2 == some .local
    | none => false
mutual
def ckS (B : Tabs) (N : List Str) (sc : Scope) : Sm → Stmt → Bool
  | .asg t x, st => match st with
    | .Assign [.Name y py] e _ => ck B N sc x e && ckT N (locB sc) t (.Name y py) && (notComp e || !swB sc y py.line e || (match e with
        | .ListComp .. => true
        | _ => false))
    | .Assign [.Tuple es k p] e _ => notComp e && ck B N sc x e && ckT N (locB sc) t (.Tuple es k p) && (match t, e with
        | .tup ts, .Tuple vs _ _ => swOk N sc ts es vs
        | _, .Tuple _ _ _ => false
        | _, _ => true)
    | _ => false
  | .setS o i x, st => match st with
    | .Assign [.Subscript y z _] e _ => notComp e && notSlice z && ck B N sc o y && ck B N sc i z && ck B N sc x e
    | _ => false
  | .aug i o x, st => match st with
    | .AugAssign (.Name y _) o' e _ => N[i]? == some y && locB sc y && decide (o = o') && (o == .Add || o == .Sub || o == .Mult) && ck B N sc x e
    | _ => false
  | .ifs t a b, st => match st with
    | .If e sa sb _ => ck B N sc t e && ckSs B N sc a sa && ckSs B N sc b sb
    | _ => false
  | .whl t a, st => match st with
    | .While e sa [] _ => ck B N sc t e && ckSs B N sc a sa
    | _ => false
  | .frl t k its a, st => match st with
    | .For tg iter sa [] _ => ckIt B sc k tg iter && cks B N sc its (itArgs k iter) && ckT N (locB sc) t tg && ckSs B N sc a sa
    | _ => false
  | .ret x, st => match st with
    | .Return (some e) _ => ck B N sc x e
    | .Return none _ => (match x with
      | .c .none => true
      | _ => false)
    | _ => false
  | .exp x, st => match st with
    | .Expr e _ => notComp e && ck B N sc x e
    | _ => false
  | .pass, st => match st with
    | .Pass _ => true
    | _ => false
  | .brk, st => match st with
    | .Break _ => true
    | _ => false
  | .cont, st => match st with
    | .Continue _ => true
    | _ => false
  | .try0 b, st => match st with
    | .Try body (_ :: _) [] [] _ => ckSs B N sc b body
    | _ => false
  | .raise _ _, _ => false
  | .never, _ => true
def ckSs (B : Tabs) (N : List Str) (sc : Scope) : List Sm → List Stmt → Bool
  | [], [] => true
  | x :: xs, s :: ss => ckS B N sc x s && ckSs B N sc xs ss
  | _, _ => false
end
end DL

set_option linter.all false
set_option maxRecDepth 100000
/-! DL.Sound: what is checked is sound. -/
namespace DL
open PySem L2 PySem.Spec PyProof.Rows
/-- the facts of a def -/
def FnFact (B : Tabs) (T : Tb) (F : FS) (n : Nat) (P : Program) (w : World) (K : PySem.W.Frag) (mg : Str → Option Value) (base : Heap) (x : Str) (f : Nat) : Prop :=
  ∃ (ad : Addr) (fd : FuncData), mg x = some (.ref ad) ∧ PySem.W.keepIn K (.ref ad) = true ∧ FnOk P w K mg base (CX P w) n ad fd (B.prs f) (spF K T (F f) (B.prs f).length) ∧
    (∀ j ≤ (B.dfs f).length, ∃ dvs ds, Binds K fd (B.prs f) ds ∧ Vals dvs ds ∧ ∀ μ H, RepL K μ H dvs ((B.dfs f).drop j)) ∧ (∀ k ∈ B.kws f, KwOk K fd (B.prs f) k)
/-- a table of the module -/
def KdOk (K : PySem.W.Frag) (w : World) (mg : Str → Option Value) (x : Str) (kvs : List (Str × D)) : Prop :=
  ∃ (a : Addr) (es : Array DictEntry) (n : Nat), mg x = some (.ref a) ∧ KDict K w a es n ∧ ∀ z d, kvs.lookup z = some d → ∃ u v, PySem.W.nsIn K a z = some (some u) ∧ RelV v u ∧ ∀ μ H, Rep K μ H v d
/-- what holds of the module -/
structure GF (B : Tabs) (T : Tb) (F : FS) (n : Nat) (P : Program) (w : World) (K : PySem.W.Frag) (mg : Str → Option Value) (base : Heap) : Prop where
  fn : ∀ x f, B.fns.lookup x = some f → FnFact B T F n P w K mg base x f
  cst : ∀ x d, B.cst.lookup x = some d → ∃ v u, mg x = some u ∧ RelV v u ∧ ∀ μ H, Rep K μ H v d
  bl : ∀ x ∈ B.bls, mg x = none
  kd : ∀ x kvs, B.kds.lookup x = some kvs → KdOk K w mg x kvs
  len : ∀ f ds S, ds.length ≠ (B.prs f).length → F f ds S = .bad
structure CxOk (B : Tabs) (T : Tb) (F : FS) (n : Nat) (X : Cx) (W : WX) : Prop where
  nd : X.N.Nodup
  calm : X.calm = true
  room : Room n X.A
  tk : Takes X W
  gf : GF B T F n X.prog X.w X.K X.mg X.base
structure Sd (T : Tb) (F : FS) (X : Cx) (W : WX) (x : Ex) (e : Expr) : Prop where
  pe : PE X e (tE X.K T F W x)
  pt : PT X e (tT X.K T F W x)
  pw : ∀ o l p, e = .BoolOp o l p → PW X e (tT X.K T F W x)
inductive AllS (T : Tb) (F : FS) (X : Cx) (W : WX) : List Ex → List Expr → Prop
  | nil : AllS T F X W [] []
  | cons {x : Ex} {l : List Ex} {e : Expr} {es : List Expr} : notStar e = true → Sd T F X W x e → AllS T F X W l es → AllS T F X W (x :: l) (e :: es)
section
variable {B : Tabs} {T : Tb} {F : FS} {n : Nat} {X : Cx} {W : WX}
theorem CxOk.hu (c : CxOk B T F n X W) : X.A.units + 200 < cLine := by have := c.room.un; omega
theorem CxOk.blk {s : Shared} {H : Hp} {scope : Scope} {cenv : PySem.Env} {fp : List Addr} (c : CxOk B T F n X W) : CxOk B T F n (X.blk s H scope cenv fp) W0 :=
  ⟨c.nd, c.calm, c.room, fun u s' ⟨_, _, _, _, _, _, _, _, _, _, _, _, _, _, _, _, h⟩ => h, c.gf⟩
theorem AllS.pa : ∀ {l : List Ex} {es : List Expr}, AllS T F X W l es → PA X es (tEs X.K T F W l)
  | [], _, h => by cases h; exact es_nil
  | x :: l, _, h => by
    cases h with
    | cons h1 h2 h3 => exact es_cons h1 h2.pe h3.pa
theorem AllS.star : ∀ {l : List Ex} {es : List Expr}, AllS T F X W l es → es.all notStar = true
  | [], _, h => by cases h; rfl
  | x :: l, _, h => by
    cases h with
    | cons h1 h2 h3 => simp [h1, h3.star]
theorem AllS.len : ∀ {l : List Ex} {es : List Expr}, AllS T F X W l es → l.length = es.length
  | [], _, h => by cases h; rfl
  | x :: l, _, h => by
    cases h with
    | cons h1 h2 h3 => simp [h3.len]
theorem AllS.split : ∀ {a b : List Expr} {l : List Ex}, AllS T F X W l (a ++ b) → ∃ l1 l2, l = l1 ++ l2 ∧ AllS T F X W l1 a ∧ AllS T F X W l2 b
  | [], b, l, h => ⟨[], l, rfl, .nil, h⟩
  | e :: a, b, l, h => by
    cases h with
    | cons h1 h2 h3 =>
      obtain ⟨l1, l2, rfl, k1, k2⟩ := AllS.split h3
      exact ⟨_ :: l1, l2, rfl, .cons h1 h2 k1, k2⟩
theorem AllS.pk : ∀ {kws : List Keyword} {l : List Ex}, AllS T F X W l (kws.map (·.value)) → PK X kws (tKs X.K T F W l)
  | [], _, h => by cases h; exact ks_nil
  | ⟨nm, v, kp⟩ :: kws, _, h => by
    cases h with
    | cons h1 h2 h3 => exact ks_cons h2.pe h3.pk
theorem AllS.pts : ∀ {l : List Ex} {es : List Expr}, AllS T F X W l es → PTs X es (tTs X.K T F W l)
  | [], _, h => by cases h; exact ts_nil
  | x :: l, _, h => by
    cases h with
    | cons h1 h2 h3 => exact ts_cons h2.pt h3.pts
/-- a plain expression -/
theorem Sd.plain {x : Ex} {e : Expr} (h : PE X e (tE X.K T F W x)) (he : ∀ whole, isTrue e X.env whole = (do let v ← whole; standAt e.pos; holding [v] (truthy v))) (hb : ∀ o l p, e ≠ .BoolOp o l p) : Sd T F X W x e :=
  ⟨h, t_val h he, fun o l p q => absurd q (hb o l p)⟩
theorem gl_of {sc : Scope} {x : Str} (h : glB sc x = true) : sc.names.lookup x = some .globalImplicit := by simpa [glB] using h
theorem bl_of {sc : Scope} {x : Str} (h : blB B sc x = true) : sc.names.lookup x = some .globalImplicit ∧ x ∈ B.bls := by
  simp only [blB, Bool.and_eq_true] at h
  exact ⟨gl_of h.1, by simpa using h.2⟩
theorem vis_of {sc : Scope} {x : Str} (h : visB sc x = true) : Vis sc x := by
  unfold visB at h
  split at h
  · exact .inl ‹_›
  · exact .inr (.inl ‹_›)
  · exact .inr (.inr ‹_›)
  · cases h
/-! targets -/
mutual
theorem sound_t {ok : Str → Bool} (hc : X.calm = true) (hN : X.N.Nodup) (hok : ∀ x, ok x = true → Loc X.env.scope x ∧ (X.fn x = true ∨ X.env.scope.names.lookup x = some .local)) : ∀ (t : Tg) (e : Expr), ckT X.N ok t e = true → PG X e (tG X.K t)
  | .nm i, e, h => by
    cases e with
    | Name x p =>
      simp only [ckT, Bool.and_eq_true, beq_iff_eq] at h
      obtain ⟨h1, h2⟩ := hok x h.2
      exact g_name hN h.1 h1 h2
    | _ => simp [ckT] at h
  | .tup ts, e, h => by
    cases e with
    | Tuple es k p =>
      simp only [ckT] at h
      obtain ⟨h1, h2, h3⟩ := sound_ts hc hN hok ts es h
      exact g_tup hc h2 h3 h1
    | _ => simp [ckT] at h
theorem sound_ts {ok : Str → Bool} (hc : X.calm = true) (hN : X.N.Nodup) (hok : ∀ x, ok x = true → Loc X.env.scope x ∧ (X.fn x = true ∨ X.env.scope.names.lookup x = some .local)) : ∀ (ts : List Tg) (es : List Expr), ckTs X.N ok ts es = true → PGs X es (tGs X.K ts) ∧ es.all notStar = true ∧ es.length = ts.length
  | [], es, h => by
    cases es with
    | nil => exact ⟨gs_nil, rfl, rfl⟩
    | cons e es => simp [ckTs] at h
  | t :: ts, es, h => by
    cases es with
    | nil => simp [ckTs] at h
    | cons e es =>
      simp only [ckTs, Bool.and_eq_true] at h
      obtain ⟨k1, k2, k3⟩ := sound_ts hc hN hok ts es h.2
      exact ⟨gs_cons h.1.1 (sound_t hc hN hok t e h.1.2) k1, by simp [h.1.1, k2], by simp [k3]⟩
end
/-! what is walked -/
theorem sound_it {k : IK} {its : List Ex} {tg e : Expr} (c : CxOk B T F n X W) (h : ckIt B X.env.scope k tg e = true) (ha : AllS T F X W its (itArgs k e)) : PI X tg e (tI X.K T F W k its) ∧ ∀ y, foldedSetIterable e X.env y = pure y := by
  cases k with
  | val =>
    have hs : ∀ y, foldedSetIterable e X.env y = pure y := by
      intro y
      unfold ckIt at h
      cases e <;> first | rfl | (simp [notSet] at h)
    cases its with
    | nil => cases ha
    | cons x its =>
      cases ha with
      | cons h1 h2 h3 =>
        cases h3
        exact ⟨i_val h2.pe, hs⟩
  | rng1 =>
    simp only [ckIt] at h
    split at h
    · rename_i x p es q
      simp only [Bool.and_eq_true, beq_iff_eq] at h
      obtain ⟨⟨⟨hx, hb⟩, hl⟩, _⟩ := h
      obtain ⟨g1, g2⟩ := bl_of hb
      subst hx
      refine ⟨?_, fun y => rfl⟩
      match es, hl, ha with
      | [a], _, .cons h1 h2 h3 =>
        cases h3
        exact i_rng1 g1 (c.gf.bl _ g2) h1 (AllS.pa (.cons h1 h2 .nil))
    · cases h
  | rng2 =>
    simp only [ckIt] at h
    split at h
    · rename_i x p es q
      simp only [Bool.and_eq_true, beq_iff_eq] at h
      obtain ⟨⟨⟨hx, hb⟩, hl⟩, _⟩ := h
      obtain ⟨g1, g2⟩ := bl_of hb
      subst hx
      refine ⟨?_, fun y => rfl⟩
      match es, hl, ha with
      | [a, b], _, .cons h1 h2 (.cons h3 h4 h5) =>
        cases h5
        exact i_rng2 g1 (c.gf.bl _ g2) h1 h3 (AllS.pa (.cons h1 h2 (.cons h3 h4 .nil)))
    · cases h
  | enum =>
    simp only [ckIt] at h
    split at h
    · rename_i x p es q
      simp only [Bool.and_eq_true, beq_iff_eq, Bool.or_eq_true] at h
      obtain ⟨⟨⟨hx, hb⟩, hl⟩, ht⟩ := h
      obtain ⟨g1, g2⟩ := bl_of hb
      subst hx
      refine ⟨?_, fun y => rfl⟩
      have htup : isTupE tg = true := by simpa using ht
      cases tg with
      | Tuple elts kk tpos =>
        match es, hl, ha with
        | [a], _, .cons h1 h2 h3 =>
          cases h3
          exact i_enum g1 (c.gf.bl _ g2) h1 (AllS.pa (.cons h1 h2 .nil))
      | _ => simp [isTupE] at htup
    · cases h
  | zip =>
    simp only [ckIt] at h
    split at h
    · rename_i x p es q
      simp only [Bool.and_eq_true, beq_iff_eq, Bool.or_eq_true] at h
      obtain ⟨⟨⟨hx, hb⟩, hl⟩, ht⟩ := h
      obtain ⟨g1, g2⟩ := bl_of hb
      subst hx
      refine ⟨?_, fun y => rfl⟩
      have htup : isTupE tg = true := by simpa using ht
      cases tg with
      | Tuple elts kk tpos =>
        match es, hl, ha with
        | [a, b], _, .cons h1 h2 (.cons h3 h4 h5) =>
          cases h5
          exact i_zip g1 (c.gf.bl _ g2) h1 h3 (AllS.pa (.cons h1 h2 (.cons h3 h4 .nil)))
      | _ => simp [isTupE] at htup
    · cases h
end
end DL

set_option linter.all false
set_option maxRecDepth 100000
/-! DL.Snd2: expressions that are checked are sound. -/
namespace DL
open PySem L2 PySem.Spec PyProof.Rows
section
variable {B : Tabs} {T : Tb} {F : FS} {n : Nat} {X : Cx} {W : WX}
theorem sound_c (c : CxOk B T F n X W) {d : D} {e : Expr} (h : ckC B X.env.scope d e = true) : Sd T F X W (.c d) e := by
  cases e with
  | Constant k j p =>
    refine .plain ?_ (fun _ => rfl) (fun _ _ _ q => by cases q)
    cases k with
    | int i =>
      have e : d = .int i := beqD_eq (by simpa [ckC] using h)
      subst e
      exact e_const (v := .int i) pe_int fun _ _ => .int _
    | bool i =>
      have e : d = .bool i := beqD_eq (by simpa [ckC] using h)
      subst e
      exact e_const (v := .bl i) pe_bl fun _ _ => .bl _
    | none =>
      have e : d = .none := beqD_eq (by simpa [ckC] using h)
      subst e
      exact e_const (v := .non) pe_non fun _ _ => .non
    | str i =>
      have e : d = .str i := beqD_eq (by simpa [ckC] using h)
      subst e
      exact e_const (v := .str i) pe_str fun _ _ => .str _
    | _ => simp [ckC] at h
  | Name x p =>
    simp only [ckC, Bool.and_eq_true, Bool.not_eq_true'] at h
    obtain ⟨⟨h1, h2⟩, h3⟩ := h
    split at h3
    · rename_i d' hl
      rw [beqD_eq h3]
      obtain ⟨v, u, k1, k2, k3⟩ := c.gf.cst x d' hl
      exact .plain (e_const (pe_glob (gl_of h1) k1 k2 h2) k3) (fun _ => rfl) (fun _ _ _ q => by cases q)
    · cases h3
  | _ => simp [ckC] at h
theorem nx_kd {kvs : List (Str × D)} {x : D} {S : Store} : NoExc (kdV kvs x S) := fun c d S' h => by
  cases x with
  | str z =>
    simp only [kdV] at h
    cases hl : kvs.lookup z with
    | none => rw [hl] at h; cases h
    | some d => rw [hl] at h; cases h
  | _ => cases h
theorem e_kd {kvs : List (Str × D)} {x : Str} {y : Expr} {xa : Ex} {px pos : Pos} (hg : X.env.scope.names.lookup x = some .globalImplicit) (hdb : (x == ("__debug__" : Str)) = false) (hs : notSlice y = true) (k : KdOk X.K X.w X.mg x kvs) (ha : PE X y (tE X.K T F W xa)) :
    PE X (.Subscript (.Name x px) y pos) (tE X.K T F W (.kd kvs xa)) := by
  obtain ⟨a, es, m, k1, k2, k3⟩ := k
  refine PE_imp (pe_ix ix_kdict (pe_glob (u := .ref a) (v := .ref a) hg k1 rfl hdb) ha (plainIx_of hs)) fun σ H Q ⟨μ, S, env, rs, re, h⟩ => ?_
  refine ⟨μ, S, env, rs, re, (Post.bind h).mono fun y H2 ⟨μ2, d2, S2, rs2, e2, r2, h2⟩ => ?_⟩
  obtain ⟨z, S', ez, q⟩ := h2.ok_of nx_kd
  cases d2 with
  | str t =>
    cases r2
    simp only [kdV] at ez
    cases hl : kvs.lookup t with
    | none => rw [hl] at ez; cases ez
    | some d =>
      rw [hl] at ez
      cases ez
      obtain ⟨u, v, q1, q2, q3⟩ := k3 t _ hl
      exact ⟨a, t, v, rfl, rfl, ⟨es, m, u, k2.at_, k2.lit, q1, q2⟩, q _ _ _ rs2 .refl (q3 _ _)⟩
  | _ => cases ez
theorem cal_fn (c : CxOk B T F n X W) {x : Str} {f : Nat} (h : B.fns.lookup x = some f) : FnFact B T F n X.prog X.w X.K X.mg X.base x f := c.gf.fn x f h
theorem noStarL : ∀ {a b : List Expr}, (a ++ b).all notStar = true → a.all notStar = true ∧ b.all notStar = true := by
  intro a b h
  simpa using h
mutual
theorem sound_e : ∀ (x : Ex) {X : Cx} {W : WX} (c : CxOk B T F n X W) (e : Expr), ck B X.N X.env.scope x e = true → Sd T F X W x e
  | .c d, X, W, c, e, h => sound_c c (by simpa [ck] using h)
  | .v i, X, W, c, e, h => by
    cases e with
    | Name x p =>
      simp only [ck, Bool.and_eq_true, Bool.not_eq_true', beq_iff_eq] at h
      obtain ⟨⟨⟨h1, h2⟩, h3⟩, h4⟩ := h
      exact .plain (e_var h1 (vis_of h2) h3 h4) (fun _ => rfl) (fun _ _ _ q => by cases q)
    | _ => simp [ck] at h
  | .bin o m a b, X, W, c, e, h => by
    cases e with
    | BinOp l o' r p =>
      simp only [ck, Bool.and_eq_true, decide_eq_true_eq] at h
      obtain ⟨⟨rfl, h1⟩, h2⟩ := h
      exact .plain (e_bin (sound_e a c l h1).pe (sound_e b c r h2).pe) (fun _ => rfl) (fun _ _ _ q => by cases q)
    | _ => simp [ck] at h
  | .cmp o a b, X, W, c, e, h => by
    unfold ck at h
    split at h
    · simp only [Bool.and_eq_true, decide_eq_true_eq, Bool.not_eq_true'] at h
      obtain ⟨⟨⟨rfl, h0⟩, h1⟩, h2⟩ := h
      exact ⟨e_cmp c.hu h0 (sound_e a c _ h1).pe (sound_e b c _ h2).pe, t_cmp c.hu h0 (sound_e a c _ h1).pe (sound_e b c _ h2).pe, fun _ _ _ q => by cases q⟩
    · cases h
  | .chain o o2 a b d, X, W, c, e, h => by
    unfold ck at h
    split at h
    · simp only [Bool.and_eq_true, decide_eq_true_eq, Bool.not_eq_true'] at h
      obtain ⟨⟨⟨⟨⟨rfl, rfl⟩, h0⟩, h1⟩, h2⟩, h3⟩ := h
      exact ⟨e_chain c.hu h0 (sound_e a c _ h1).pe (sound_e b c _ h2).pe (sound_e d c _ h3).pe, t_chain c.hu h0 (sound_e a c _ h1).pe (sound_e b c _ h2).pe (sound_e d c _ h3).pe, fun _ _ _ q => by cases q⟩
    · cases h
  | .neg a, X, W, c, e, h => by
    unfold ck at h
    split at h
    · exact .plain (e_neg (sound_e a c _ h).pe) (fun _ => rfl) (fun _ _ _ q => by cases q)
    · cases h
  | .not a, X, W, c, e, h => by
    unfold ck at h
    split at h
    · exact ⟨e_not (sound_e a c _ h).pe, t_not (sound_e a c _ h).pt, fun _ _ _ q => by cases q⟩
    · cases h
  | .and a b, X, W, c, e, h => by
    unfold ck at h
    split at h
    · rename_i x y pos
      simp only [Bool.and_eq_true] at h
      have ha := sound_e a c _ h.1
      have hb := sound_e b c _ h.2
      have w := t_and (pos := pos) ha.pt (pw_and1 (pos := pos) hb.pt)
      exact ⟨e_and ha.pe (pe_one hb.pe), w.pt, fun o l p q => by cases q; exact w⟩
    · simp only [Bool.and_eq_true] at h
      have ha := sound_e a c _ h.1
      have hb := sound_e b c _ h.2
      have w := t_and ha.pt (hb.pw _ _ _ rfl)
      exact ⟨e_and ha.pe hb.pe, w.pt, fun o l p q => by cases q; exact w⟩
    · cases h
  | .or a b, X, W, c, e, h => by
    unfold ck at h
    split at h
    · rename_i x y pos
      simp only [Bool.and_eq_true] at h
      have ha := sound_e a c _ h.1
      have hb := sound_e b c _ h.2
      have w := t_or (pos := pos) ha.pt (pw_or1 (pos := pos) hb.pt)
      exact ⟨e_or ha.pe (pe_one hb.pe), w.pt, fun o l p q => by cases q; exact w⟩
    · simp only [Bool.and_eq_true] at h
      have ha := sound_e a c _ h.1
      have hb := sound_e b c _ h.2
      have w := t_or ha.pt (hb.pw _ _ _ rfl)
      exact ⟨e_or ha.pe hb.pe, w.pt, fun o l p q => by cases q; exact w⟩
    · cases h
  | .ite t a b, X, W, c, e, h => by
    unfold ck at h
    split at h
    · simp only [Bool.and_eq_true] at h
      have ht := sound_e t c _ h.1.1
      have ha := sound_e a c _ h.1.2
      have hb := sound_e b c _ h.2
      exact ⟨e_ite ht.pt ha.pe hb.pe, t_ite ht.pt ha.pt hb.pt, fun _ _ _ q => by cases q⟩
    · cases h
  | .tup l, X, W, c, e, h => by
    unfold ck at h
    split at h
    · exact .plain (e_tup (sound_es l c _ h).pa) (fun _ => rfl) (fun _ _ _ q => by cases q)
    · cases h
  | .lst m l, X, W, c, e, h => by
    unfold ck at h
    split at h
    · exact .plain (e_lst (sound_es l c _ h).pa) (fun _ => rfl) (fun _ _ _ q => by cases q)
    · cases h
  | .sub a b, X, W, c, e, h => by
    unfold ck at h
    split at h
    · simp only [Bool.and_eq_true] at h
      exact .plain (e_sub h.1.1 (sound_e a c _ h.1.2).pe (sound_e b c _ h.2).pe) (fun _ => rfl) (fun _ _ _ q => by cases q)
    · cases h
  | .kd kvs a, X, W, c, e, h => by
    unfold ck at h
    split at h
    · rename_i x px y pos
      simp only [Bool.and_eq_true, Bool.not_eq_true'] at h
      obtain ⟨⟨⟨⟨h1, h2⟩, h3⟩, h4⟩, h5⟩ := h
      have k : KdOk X.K X.w X.mg x kvs := by
        cases hl : B.kds.lookup x with
        | none => rw [hl] at h4; cases h4
        | some k =>
          rw [hl] at h4
          rw [beqKd_eq h4]
          exact c.gf.kd x k hl
      exact .plain (e_kd (gl_of h2) h3 h1 k (sound_e a c _ h5).pe) (fun _ => rfl) (fun _ _ _ q => by cases q)
    · cases h
  | .slc m a lo hi, X, W, c, e, h => by
    unfold ck at h
    split at h
    · rename_i y l hh p2 p
      simp only [Bool.and_eq_true] at h
      obtain ⟨⟨h1, h2⟩, h3⟩ := h
      have hl : PO X l (tO X.K T F W lo) := by
        cases l with
        | none =>
          match lo, h2 with
          | .c .none, _ => exact o_none
        | some y =>
          simp only [Bool.and_eq_true, Bool.not_eq_true'] at h2
          exact o_some h2.1 (sound_e lo c _ h2.2).pe
      have hr : PO X hh (tO X.K T F W hi) := by
        cases hh with
        | none =>
          match hi, h3 with
          | .c .none, _ => exact o_none
        | some y =>
          simp only [Bool.and_eq_true, Bool.not_eq_true'] at h3
          exact o_some h3.1 (sound_e hi c _ h3.2).pe
      exact .plain (e_slc (sound_e a c _ h1).pe hl hr) (fun _ => rfl) (fun _ _ _ q => by cases q)
    · cases h
  | .call f l dd, X, W, c, e, h => by
    unfold ck at h
    split at h
    · rename_i x p es kws q
      simp only [Bool.and_eq_true, Bool.not_eq_true', beq_iff_eq] at h
      obtain ⟨⟨⟨⟨⟨h1, h2⟩, h3⟩, h4⟩, h5⟩, h6⟩ := h
      have hs := sound_es l c _ h4
      obtain ⟨ad, fd, k1, k2, k3, k4, k5⟩ := c.gf.fn x f h3
      refine .plain ?_ (fun _ => rfl) (fun _ _ _ q => by cases q)
      cases kws with
      | nil =>
        simp only [Bool.and_eq_true, decide_eq_true_eq] at h6
        obtain ⟨⟨h7, h8⟩, h9⟩ := h6
        rw [beqL_eq h9]
        obtain ⟨dvs, ds, g1, g2, g3⟩ := k4 (l.length + (B.dfs f).length - (B.prs f).length) (by omega)
        simp only [List.map_nil, List.append_nil] at hs
        cases es with
        | nil =>
          cases hs
          exact e_call0 k3 c.room (gl_of h1) k1 k2 g1 g2 g3 (fun ds S => c.gf.len f ds S) c.tk h2
        | cons e0 es =>
          simp only [List.all_cons, Bool.and_eq_true] at h5
          exact e_call k3 c.room (gl_of h1) k1 k2 g1 g2 g3 (fun ds S => c.gf.len f ds S) c.tk h2 h5.1 h5.2 hs.pa
      | cons kw kws =>
        simp only [Bool.and_eq_true, decide_eq_true_eq] at h6
        obtain ⟨⟨⟨⟨h7, h8⟩, h9⟩, h10⟩, h11⟩ := h6
        have e0 : dd = [] := beqL_eq h7
        subst e0
        obtain ⟨l1, l2, rfl, q1, q2⟩ := hs.split
        have hl1 := q1.len
        rw [← hl1] at h9 h10
        refine e_callK k3 c.room (gl_of h1) k1 k2 (k5 _ (by simpa using h10)) (fun ds S => c.gf.len f ds S) c.tk h2 h8 h9 ?_ h5 (fun e0 => ?_) q1.pa q2.pk
        · simp at h11; omega
        · subst e0; cases q1; rfl
    · cases h
  | .blt b m l, X, W, c, e, h => by
    unfold ck at h
    split at h
    · rename_i x p es q
      refine .plain ?_ (fun _ => rfl) (fun _ _ _ q => by cases q)
      split at h
      · rename_i t
        simp only [Bool.and_eq_true, beq_iff_eq, decide_eq_true_eq, Bool.not_eq_true'] at h
        obtain ⟨⟨⟨⟨rfl, h2⟩, h3⟩, rfl⟩, h4⟩ := h
        obtain ⟨g1, g2⟩ := bl_of h2
        split at h4
        · rename_i a y z q2
          simp only [Bool.and_eq_true, beq_iff_eq] at h4
          obtain ⟨⟨⟨rfl, h5⟩, h6⟩, h7⟩ := h4
          obtain ⟨g3, g4⟩ := bl_of h5
          have hs := sound_es [a] c _ h7
          cases hs with
          | cons s1 s2 s3 => exact e_isT h3 g1 (c.gf.bl _ g2) g3 (c.gf.bl _ g4) s1 s2.pe
        · cases h4
      · simp only [Bool.and_eq_true, beq_iff_eq] at h
        obtain ⟨⟨rfl, h2⟩, h3⟩ := h
        obtain ⟨g1, g2⟩ := bl_of h2
        split at h3
        · simp only [Bool.and_eq_true, beq_iff_eq] at h3
          obtain ⟨⟨rfl, h5⟩, h6⟩ := h3
          obtain ⟨g3, g4⟩ := bl_of h5
          have hs := sound_es l c _ h6
          cases hs with
          | cons s1 s2 s3 =>
            cases s3
            exact e_sortset c.calm g1 (c.gf.bl _ g2) g3 (c.gf.bl _ g4) s1 s2.pe
        · cases h3
      · simp only [Bool.and_eq_true, beq_iff_eq] at h
        obtain ⟨⟨rfl, h2⟩, h3⟩ := h
        obtain ⟨g1, g2⟩ := bl_of h2
        split at h3
        · simp only [Bool.and_eq_true, beq_iff_eq] at h3
          obtain ⟨⟨rfl, h5⟩, h6⟩ := h3
          obtain ⟨g3, g4⟩ := bl_of h5
          have hs := sound_es l c _ h6
          cases hs with
          | cons s1 s2 s3 =>
            cases s3
            exact e_lrng1 c.calm g1 (c.gf.bl _ g2) g3 (c.gf.bl _ g4) s1 s2.pe
        · cases h3
      · simp only [Bool.and_eq_true, beq_iff_eq] at h
        obtain ⟨⟨rfl, h2⟩, h3⟩ := h
        obtain ⟨g1, g2⟩ := bl_of h2
        split at h3
        · simp only [Bool.and_eq_true, beq_iff_eq] at h3
          obtain ⟨⟨rfl, h5⟩, h6⟩ := h3
          obtain ⟨g3, g4⟩ := bl_of h5
          have hs := sound_es l c _ h6
          cases hs with
          | cons s1 s2 s3 =>
            cases s3 with
            | cons s4 s5 s6 =>
              cases s6
              exact e_lrng2 c.calm g1 (c.gf.bl _ g2) g3 (c.gf.bl _ g4) s1 s4 s2.pe s5.pe
        · cases h3
      · simp only [Bool.and_eq_true, beq_iff_eq] at h
        obtain ⟨⟨h1, h2⟩, h3⟩ := h
        have hs := sound_es l c _ h3
        unfold bltOk at h1
        split at h1
        · rename_i nm cl hb
          simp only [Bool.and_eq_true, beq_iff_eq] at h1
          obtain ⟨rfl, h4⟩ := h1
          obtain ⟨g1, g2⟩ := bl_of h4
          cases es with
          | nil => simp at h2; omega
          | cons e0 es =>
            have h5 := hs.star
            simp only [List.all_cons, Bool.and_eq_true] at h5
            exact e_blt c.hu c.calm hb g1 (c.gf.bl _ g2) h5.1 h5.2 hs.pa
        · cases h1
    · cases h
  | .mth k o l, X, W, c, e, h => by
    unfold ck at h
    split at h
    · rename_i y mm ap es p
      simp only [Bool.and_eq_true] at h
      obtain ⟨⟨⟨⟨h1, h2⟩, h3⟩, h4⟩, h5⟩ := h
      have ho := (sound_e o c _ h4).pe
      have hs := sound_es l c _ h5
      refine .plain ?_ (fun _ => rfl) (fun _ _ _ q => by cases q)
      simp only [mthOk, Bool.and_eq_true, beq_iff_eq, bne_iff_ne, ne_eq] at h1
      obtain ⟨⟨rfl, h6⟩, h7⟩ := h1
      by_cases hk : k = .pop
      · subst hk
        rw [if_pos rfl] at h6
        cases es with
        | nil =>
          cases hs
          exact e_pop h2 h3 ho
        | cons e0 es => simp at h6
      · rw [if_neg hk] at h6
        cases es with
        | nil => simp at h6
        | cons e0 es =>
          have h8 := hs.star
          simp only [List.all_cons, Bool.and_eq_true] at h8
          refine e_mth c.hu ⟨hk, h7⟩ h2 h3 h8.1 h8.2 ?_ ho hs.pa
          have e0 : es = [] := by simpa using h6
          subst e0
          decide
    · cases h
  | .comp m own t k its ifs elt, X, W, c, e, h => by
    unfold ck at h
    split at h
    · rename_i elt' tg iter ifs' ia scope p
      simp only [Bool.and_eq_true, decide_eq_true_eq] at h
      obtain ⟨⟨⟨⟨⟨⟨⟨h1, h2⟩, h3⟩, h4⟩, h5⟩, h6⟩, h7⟩, h8⟩ := h
      subst h1
      have hit := sound_it c h4 (sound_es its c _ h5)
      have hown : (ownOf X.N own).map (·.2) = own := by unfold ownOf; rw [List.map_map]; exact List.map_id _
      refine .plain ?_ (fun _ => rfl) (fun _ _ _ q => by cases q)
      have := e_lc (W := W) (m := m) (pos := p) (its := its) (ifs := ifs) (x := elt) (t := t) (T := T) (F := F) (k := k) c.calm c.nd hit.1 (blkOk_by h2) (fun i hi => by rw [hown]; simpa using List.all_eq_true.mp h3 i hi)
        (fun s H C cl fp => sound_t (X := X.blk s H scope (compEnvC scope cl C X.env) fp) c.calm c.nd (fun x hx => ?_) t tg h6)
        (fun s H C cl fp => (sound_es ifs (c.blk (scope := scope) (s := s) (H := H) (cenv := compEnvC scope cl C X.env) (fp := fp)) _ h7).pts)
        (fun s H C cl fp => (sound_e elt (c.blk (scope := scope) (s := s) (H := H) (cenv := compEnvC scope cl C X.env) (fp := fp)) _ h8).pe)
        hit.2
      · rwa [hown] at this
      · simp only [compOk, Bool.or_eq_true, Bool.and_eq_true, beq_iff_eq] at hx
        rcases hx with hx | ⟨hx1, hx2⟩
        · exact ⟨.inl hx, .inr hx⟩
        · exact ⟨.inr hx2, .inl (by simpa using hx1)⟩
    · cases h
theorem sound_es : ∀ (l : List Ex) {X : Cx} {W : WX} (c : CxOk B T F n X W) (es : List Expr), cks B X.N X.env.scope l es = true → AllS T F X W l es
  | [], X, W, c, es, h => by
    cases es with
    | nil => exact .nil
    | cons e es => simp [cks] at h
  | x :: l, X, W, c, es, h => by
    cases es with
    | nil => simp [cks] at h
    | cons e es =>
      simp only [cks, Bool.and_eq_true] at h
      exact .cons h.1.1 (sound_e x c e h.1.2) (sound_es l c es h.2)
end
end
end DL

set_option linter.all false
set_option maxRecDepth 100000
/-! DL.Snd3: statements that are checked are sound. -/
namespace DL
open PySem L2 PySem.Spec PyProof.Rows
section
variable {B : Tabs} {T : Tb} {F : FS} {n : Nat} {X : Cx} {W : WX}
structure CxS (B : Tabs) (T : Tb) (F : FS) (n : Nat) (X : Cx) (W : WX) : Prop extends CxOk B T F n X W where
  pass : PassesOwn (model X.prog X.w) X.A X.env X.xe
  fnt : ∀ x, X.fn x = true
  kind : X.env.scope.kind = .function
theorem sw_name {e : Expr} {y : Str} {py : Pos} {line : Nat} (hk : X.env.scope.kind = .function) (h : notComp e = true ∨ (∃ a b c d, e = .ListComp a b c d)) : swapsWith e (some (.Name y py)) line X.env = pure (!notComp e && swB X.env.scope y py.line e) := by
  rcases h with h | ⟨a, b, c, d, rfl⟩
  · cases e <;> first | rfl | (simp [notComp] at h)
  · have hb : (X.env.blockKind == .function) = true := by
      unfold PySem.Env.blockKind
      rw [hk]
      rfl
    simp only [swapsWith, hb, notComp, swB]
    rfl
theorem nc_false {e t : Expr} {line : Nat} (h : notComp e = true) : swapsWith e (some t) line X.env = pure false := by
  cases e <;> first | rfl | (simp [notComp] at h)
theorem locB_of {x : Str} (hf : ∀ x, X.fn x = true) (h : locB X.env.scope x = true) : Loc X.env.scope x ∧ (X.fn x = true ∨ X.env.scope.names.lookup x = some .local) := by
  simp only [locB, Bool.or_eq_true, beq_iff_eq] at h
  exact ⟨h, .inl (hf x)⟩
theorem nms_of : ∀ {ts : List Tg} {is : List Nat}, nmSlots ts = some is → ts = is.map Tg.nm
  | [], is, h => by cases h; rfl
  | .nm i :: ts, is, h => by
    simp only [nmSlots, Option.map_eq_some_iff] at h
    obtain ⟨js, h1, rfl⟩ := h
    rw [nms_of h1]
    rfl
  | .tup l :: ts, is, h => by cases h
theorem s_augI {i : Nat} {x : Str} {e : Expr} {xe : Ex} {op : Operator} {pos pos' : Pos} (hN : X.N.Nodup) (hi : X.N[i]? = some x) (hx : Loc X.env.scope x) (hf : X.fn x = true ∨ X.env.scope.names.lookup x = some .local) (ho : op = .Add ∨ op = .Sub ∨ op = .Mult) (he : PE X e (tE X.K T F W xe)) :
    PS X (.AugAssign (.Name x pos') op e pos) (tS X.K T F W (.aug i op xe)) := by
  refine PS_imp (ps_aug hN hi hx he (ip_bin ho false) hf) fun Dn σ H ⟨μ, S, env, rs, re, h⟩ => ?_
  simp only [exec] at h
  cases hv : env[i]? with
  | none => rw [hv] at h; exact h.elim
  | some o =>
    cases o with
    | none => rw [hv] at h; exact h.elim
    | some d =>
      rw [hv] at h
      simp only at h
      obtain ⟨v, e1, r1⟩ := re.at_ i d hv
      refine ⟨v, e1, μ, S, env, rs, re, (PostS.out (R := RV X.K) re h).mono fun y H1 ⟨μ1, d2, S1, rs1, e2, r2, h1⟩ => ?_⟩
      cases d with
      | int a =>
        cases d2 with
        | int b =>
          simp only [augV] at h1
          cases hb : binV op false (.int a) (.int b) S1 with
          | ok z S2 =>
            rw [hb] at h1
            cases (e2.mono _ _ r1)
            cases r2
            exact ⟨μ1, S1, a, b, z, S2, rs1, rfl, rfl, hb, fun w μ' H' rs' e' r' => h1 _ μ' H' rs' e' (((re.mono e2).mono e').set i r')⟩
          | exc c d S2 => exact absurd hb (nx_bin c d S2)
          | bad => rw [hb] at h1; exact h1.elim
        | _ => exact h1.elim
      | _ => exact h1.elim
theorem CxS.nox (c : CxS B T F n X W) : CxS B T F n X.nox W0 :=
  ⟨⟨c.nd, c.calm, c.room, fun u s' ⟨_, _, _, _, _, _, _, _, _, _, _, _, _, _, _, _, h⟩ => h, c.gf⟩, PassesOwn.never, c.fnt, c.kind⟩
theorem s_try0 {body : List Stmt} {h₀ : ExceptHandler} {hs : List ExceptHandler} {pos : Pos} {b : List Sm} (h : PSs X.nox body (tSs X.K T F W0 b)) : PS X (.Try body (h₀ :: hs) [] [] pos) (tS X.K T F W (.try0 b)) := by
  refine PS_imp (ps_try_thru0 h) fun D σ H ⟨μ, S, env, rs, re, h⟩ => ⟨μ, S, env, rs, re, ?_⟩
  have h : PostS X.K T μ H D W (execs F b env S).noexc := h
  cases ho : execs F b env S with
  | exc c d env' S' => rw [ho] at h; exact h.elim
  | nx env' S' => rw [ho] at h; exact h
  | bk env' S' => rw [ho] at h; exact h
  | ct env' S' => rw [ho] at h; exact h
  | rt d S' => rw [ho] at h; exact h
  | bad => rw [ho] at h; exact h
mutual
theorem sound_s : ∀ (st : Sm) {X : Cx} {W : WX} (c : CxS B T F n X W) (s : Stmt), ckS B X.N X.env.scope st s = true → PS X s (tS X.K T F W st)
  | .asg t x, X, W, c, s, h => by
    unfold ckS at h
    split at h
    · rename_i y py e sp
      simp only [Bool.and_eq_true] at h
      obtain ⟨⟨h1, h2⟩, h3⟩ := h
      have he := (sound_e x c.toCxOk e h1).pe
      cases t with
      | tup ts => simp [ckT] at h2
      | nm j =>
        simp only [ckT, Bool.and_eq_true, beq_iff_eq] at h2
        obtain ⟨l1, l2⟩ := locB_of c.fnt h2.2
        by_cases hc : notComp e = true
        · exact s_set c.nd h2.1 l1 he (nc_false hc) l2
        · have hc : notComp e = false := by simpa using hc
          rw [hc] at h3
          by_cases hsw : swB X.env.scope y py.line e = true
          · rw [hsw] at h3
            simp only [Bool.or_false, Bool.not_true, Bool.false_or] at h3
            have hyl : X.env.scope.names.lookup y = some .local := by
              cases e <;> first | (simp [notComp] at hc; done) | skip
              · simp only [swB, Bool.and_eq_true, beq_iff_eq] at hsw
                exact hsw.1.1
              · cases h3
              · cases h3
            have hlc : ∃ a b c d, e = .ListComp a b c d := by
              cases e <;> first | (simp [notComp] at hc; done) | skip
              · exact ⟨_, _, _, _, rfl⟩
              · cases h3
              · cases h3
            have hswT : swapsWith e (some (.Name y py)) sp.line X.env = pure true := by
              rw [sw_name c.kind (.inr hlc), hc, hsw]; rfl
            obtain ⟨a0, b0, c0, d0, rfl⟩ := hlc
            cases x with
            | comp m own t k its ifs elt =>
              unfold ck at h1
              split at h1
              · rename_i elt' tg iter ifs' ia scope p hEq
                simp only [Expr.ListComp.injEq] at hEq
                obtain ⟨rfl, rfl, rfl, rfl⟩ := hEq
                simp only [Bool.and_eq_true, decide_eq_true_eq] at h1
                obtain ⟨⟨⟨⟨⟨⟨⟨h1, h2'⟩, h3'⟩, h4⟩, h5⟩, h6⟩, h7⟩, h8⟩ := h1
                subst h1
                have cc := c.toCxOk
                have hit := sound_it cc h4 (sound_es its cc _ h5)
                have hown : (ownOf X.N own).map (·.2) = own := by unfold ownOf; rw [List.map_map]; exact List.map_id _
                have := s_setLc (W := W) (m := m) (pos := d0) (its := its) (ifs := ifs) (x := elt) (t := t) (T := T) (F := F) (k := k) c.calm c.nd h2.1 hyl hswT hit.1 (blkOk_by h2') (fun i hi => by rw [hown]; simpa using List.all_eq_true.mp h3' i hi)
                  (fun s H C cl fp => sound_t (X := X.blk s H c0 (compEnvC c0 cl C X.env) fp) c.calm c.nd (fun x hx => ?_) t tg h6)
                  (fun s H C cl fp => (sound_es ifs (cc.blk (scope := c0) (s := s) (H := H) (cenv := compEnvC c0 cl C X.env) (fp := fp)) _ h7).pts)
                  (fun s H C cl fp => (sound_e elt (cc.blk (scope := c0) (s := s) (H := H) (cenv := compEnvC c0 cl C X.env) (fp := fp)) _ h8).pe)
                  hit.2
                · rwa [hown] at this
                · simp only [compOk, Bool.or_eq_true, Bool.and_eq_true, beq_iff_eq] at hx
                  rcases hx with hx | ⟨hx1, hx2⟩
                  · exact ⟨.inl hx, .inr hx⟩
                  · exact ⟨.inr hx2, .inl (by simpa using hx1)⟩
              · cases h1
            | c d => exact absurd h1 (by simp [ck, ckC])
            | blt b m l => exact absurd h1 (by simp [ck])
            | _ => exact absurd h1 (by simp [ck])
          · have hsw : swB X.env.scope y py.line e = false := by simpa using hsw
            have hlc : ∃ a b c d, e = .ListComp a b c d := by
              cases e <;> first | (simp [notComp] at hc; done) | skip
              · exact ⟨_, _, _, _, rfl⟩
              · simp [swB] at hsw
              · simp [swB] at hsw
            exact s_set c.nd h2.1 l1 he (by rw [sw_name c.kind (.inr hlc), hsw, Bool.and_false]) l2
    · rename_i es k p e sp
      simp only [Bool.and_eq_true] at h
      obtain ⟨⟨⟨h1, h2⟩, h3⟩, h4⟩ := h
      have he := (sound_e x c.toCxOk e h2).pe
      have hg := sound_t c.calm c.nd (fun x hx => locB_of c.fnt hx) t _ h3
      have hss : swapsWithSole [.Tuple es k p] e sp.line X.env = pure false := nc_false (X := X) (t := .Tuple es k p) (line := sp.line) h1
      by_cases hT : isTupE e = true
      · cases e with
        | Tuple vs k2 p2 =>
          cases t with
          | nm j => simp [ckT] at h3
          | tup ts =>
            simp only [swOk] at h4
            split at h4
            · cases h4
            · rename_i hsw
              exact s_asg rfl hss (swap_of c.kind hsw) he hg
            · rename_i nms hsw
              split at h4
              · rename_i is his
                simp only [Bool.and_eq_true, decide_eq_true_eq, List.all_eq_true, beq_iff_eq] at h4
                obtain ⟨⟨q1, q2⟩, q3⟩ := h4
                rw [nms_of his]
                exact s_swap c.calm c.nd q3 q1 q2 hss (swap_of c.kind hsw) he
              · cases h4
        | _ => simp [isTupE] at hT
      · refine s_asg rfl hss ?_ he hg
        cases e <;> first | rfl | (simp [isTupE] at hT)
    · cases h
  | .setS o i x, X, W, c, s, h => by
    unfold ckS at h
    split at h
    · rename_i y z p2 e sp
      simp only [Bool.and_eq_true] at h
      obtain ⟨⟨⟨⟨h1, h2⟩, h3⟩, h4⟩, h5⟩ := h
      have hss : swapsWithSole [.Subscript y z p2] e sp.line X.env = pure false := nc_false (X := X) (t := .Subscript y z p2) (line := sp.line) h1
      exact s_setS (tg := .Name (Str.ofString "x") ⟨0, 0, 0, 0⟩) (.inr trivial) h2 hss (by rfl) (sound_e x c.toCxOk _ h5).pe (sound_e o c.toCxOk _ h3).pe (sound_e i c.toCxOk _ h4).pe
    · cases h
  | .aug i o x, X, W, c, s, h => by
    unfold ckS at h
    split at h
    · simp only [Bool.and_eq_true, beq_iff_eq, decide_eq_true_eq, Bool.or_eq_true] at h
      obtain ⟨⟨⟨⟨h1, h2⟩, rfl⟩, h4⟩, h5⟩ := h
      obtain ⟨l1, l2⟩ := locB_of c.fnt h2
      exact s_augI c.nd h1 l1 l2 (by rcases h4 with (h | h) | h; exact .inl h; exact .inr (.inl h); exact .inr (.inr h)) (sound_e x c.toCxOk _ h5).pe
    · cases h
  | .ifs t a b, X, W, c, s, h => by
    unfold ckS at h
    split at h
    · simp only [Bool.and_eq_true] at h
      exact s_ifs (sound_e t c.toCxOk _ h.1.1).pt (sound_ss a c _ h.1.2) (sound_ss b c _ h.2)
    · cases h
  | .whl t a, X, W, c, s, h => by
    unfold ckS at h
    split at h
    · simp only [Bool.and_eq_true] at h
      exact s_whl c.pass (sound_e t c.toCxOk _ h.1).pt (sound_ss a c _ h.2)
    · cases h
  | .frl t k its a, X, W, c, s, h => by
    unfold ckS at h
    split at h
    · simp only [Bool.and_eq_true] at h
      obtain ⟨⟨⟨h1, h2⟩, h3⟩, h4⟩ := h
      obtain ⟨hi, hf⟩ := sound_it c.toCxOk h1 (sound_es its c.toCxOk _ h2)
      exact s_frl c.pass c.calm hi (sound_t c.calm c.nd (fun x hx => locB_of c.fnt hx) t _ h3) (sound_ss a c _ h4) hf
    · cases h
  | .ret x, X, W, c, s, h => by
    unfold ckS at h
    split at h
    · exact s_ret (sound_e x c.toCxOk _ h).pe
    · split at h
      · exact s_retN
      · cases h
    · cases h
  | .exp x, X, W, c, s, h => by
    unfold ckS at h
    split at h
    · simp only [Bool.and_eq_true] at h
      refine s_exp ?_ (sound_e x c.toCxOk _ h.2).pe
      rename_i e p
      have h1 := h.1
      cases e <;> first | rfl | (simp [notComp] at h1)
    · cases h
  | .pass, X, W, c, s, h => by
    unfold ckS at h
    split at h
    · exact s_pass
    · cases h
  | .brk, X, W, c, s, h => by
    unfold ckS at h
    split at h
    · exact s_brk
    · cases h
  | .cont, X, W, c, s, h => by
    unfold ckS at h
    split at h
    · exact s_cont
    · cases h
  | .try0 b, X, W, c, s, h => by
    unfold ckS at h
    split at h
    · exact s_try0 (sound_ss b c.nox _ h)
    · cases h
  | .raise k e, X, W, c, s, h => by simp [ckS] at h
  | .never, X, W, c, s, h => s_never
theorem sound_ss : ∀ (l : List Sm) {X : Cx} {W : WX} (c : CxS B T F n X W) (ss : List Stmt), ckSs B X.N X.env.scope l ss = true → PSs X ss (tSs X.K T F W l)
  | [], X, W, c, ss, h => by
    cases ss with
    | nil => exact s_nil
    | cons s ss => simp [ckSs] at h
  | x :: l, X, W, c, ss, h => by
    cases ss with
    | nil => simp [ckSs] at h
    | cons s ss =>
      simp only [ckSs, Bool.and_eq_true] at h
      exact s_cons (sound_s x c s h.1) (sound_ss l c ss h.2)
end
end
end DL

set_option linter.all false
set_option maxRecDepth 100000
/-! DL.Fun: defs, whole. -/
namespace DL
open PySem L2 PySem.Spec PyProof.Rows
section
variable {K : PySem.W.Frag} {T : Tb} {μ μ' : Mu} {H H' : Hp}
/-- only the places up to n -/
def Mu.cut (n : Nat) (μ : Mu) : Mu := ⟨μ.pl.take n, μ.rv⟩
theorem Free.cut {a : Addr} {n : Nat} (h : Free μ a) : Free (μ.cut n) a := ⟨fun m => h.1 (List.mem_of_mem_take m), h.2⟩
mutual
theorem below_keep {n : Nat} : ∀ (d : D) (v : V), below n d = true → Rep K μ H v d → Rep K (μ.cut n) H v d
  | .none, _, _, h => by cases h; exact .non
  | .bool _, _, _, h => by cases h; exact .bl _
  | .int _, _, _, h => by cases h; exact .int _
  | .str _, _, _, h => by cases h; exact .str _
  | .list ds, _, b, h => by
    cases h with
    | lst h1 h2 h3 => exact .lst h1.cut h2 (belowL_keep ds _ (by simpa [below] using b) h3)
  | .tuple ds, _, b, h => by
    cases h with
    | tup h1 h2 => exact .tup h1 (belowL_keep ds _ (by simpa [below] using b) h2)
  | .dict kvs, _, b, h => by
    cases h with
    | rf h1 =>
      rename_i a m
      refine .rf ?_
      have hb : m < n := by simpa [below] using b
      show (μ.pl.take n)[m]? = _
      rw [List.getElem?_take, if_pos hb]
      exact h1
    | ro h1 => exact .ro h1
theorem belowL_keep {n : Nat} : ∀ (ds : List D) (vs : List V), belowL n ds = true → RepL K μ H vs ds → RepL K (μ.cut n) H vs ds
  | [], _, _, h => by cases h; exact .nil
  | d :: ds, _, b, h => by
    simp only [belowL, Bool.and_eq_true] at b
    cases h with
    | cons h1 h2 => exact .cons (below_keep d _ b.1 h1) (belowL_keep ds _ b.2 h2)
end
theorem intsOf_map : ∀ (ns : List Int), intsOf (ns.map .int) = some ns
  | [] => rfl
  | i :: ns => by simp [intsOf, intsOf_map ns]
mutual
/-- what stands names no place that isn't there -/
theorem rep_below : ∀ (d : D) (v : V), Rep K μ H v d → below μ.pl.length d = true
  | .none, _, h => rfl
  | .bool _, _, h => rfl
  | .int _, _, h => rfl
  | .str _, _, h => rfl
  | .list ds, _, h => by
    cases h with
    | lst h1 h2 h3 => simpa [below] using repL_below ds _ h3
  | .tuple ds, _, h => by
    cases h with
    | tup h1 h2 => simpa [below] using repL_below ds _ h2
  | .dict kvs, _, h => by
    cases h with
    | rf h1 =>
      have := (List.getElem?_eq_some_iff.mp h1).1
      simpa [below] using this
    | ro h1 => simp [below, intsOf_map]
theorem repL_below : ∀ (ds : List D) (vs : List V), RepL K μ H vs ds → belowL μ.pl.length ds = true
  | [], _, h => rfl
  | d :: ds, _, h => by
    cases h with
    | cons h1 h2 => simp [belowL, rep_below d _ h1, repL_below ds _ h2]
end
theorem keep_at : ∀ {S0 S : Store} {n i : Nat} {o : MO}, keepable S0 S n = true → i < S0.length → S[i]? = some o → ∃ a, S0[i]? = some a ∧ (beqO a o = true ∨ belowO n o = true)
  | [], S, n, i, o, h, hi, e => absurd hi (Nat.not_lt_zero _)
  | a :: S0, [], n, i, o, h, hi, e => by cases e
  | a :: S0, b :: S, n, 0, o, h, hi, e => by
    cases e
    simp only [keepable, Bool.and_eq_true, Bool.or_eq_true] at h
    exact ⟨a, rfl, h.1⟩
  | a :: S0, b :: S, n, i + 1, o, h, hi, e => by
    simp only [keepable, Bool.and_eq_true] at h
    obtain ⟨a', h1, h2⟩ := keep_at (i := i) h.2 (by simpa using hi) (by simpa using e)
    exact ⟨a', by simpa using h1, h2⟩
theorem keep_len : ∀ {S0 S : Store} {n : Nat}, keepable S0 S n = true → S0.length ≤ S.length
  | [], S, n, h => Nat.zero_le _
  | a :: S0, [], n, h => by cases h
  | a :: S0, b :: S, n, h => by
    simp only [keepable, Bool.and_eq_true] at h
    simpa using keep_len h.2
/-- the store goes back to the places that were there -/
theorem cut_rel {S0 S : Store} (rs0 : RelS K μ S0 H) (rs : RelS K μ' S H') (e : Ext K μ H μ' H') (k : keepable S0 S S0.length = true) : μ'.cut S0.length = ⟨μ.pl, μ.rv⟩ ∧ RelS K μ (S.take S0.length) H' := by
  obtain ⟨ν, hν⟩ := e.pre
  have hc : μ'.cut S0.length = ⟨μ.pl, μ.rv⟩ := by
    unfold Mu.cut
    rw [hν, ← rs0.len, List.take_left', e.rv]
    rfl
  refine ⟨hc, ?_⟩
  have hc' : μ = μ'.cut S0.length := by rw [hc]
  refine ⟨?_, rs0.nd, fun n o ho => ?_, fun a ha => ?_⟩
  · rw [rs0.len, List.length_take, Nat.min_eq_left (keep_len k)]
  · rw [List.getElem?_take] at ho
    split at ho
    · rename_i hn
      obtain ⟨a, h1, h2⟩ := rs.at_ n o ho
      have hn' : n < μ.pl.length := by rw [rs0.len]; exact hn
      refine ⟨a, ?_, ?_⟩
      · rw [hν, List.getElem?_append_left hn'] at h1
        exact h1
      · obtain ⟨o0, k1, k2⟩ := keep_at k hn ho
        cases o with
        | lst ds =>
          obtain ⟨xs, q1, q2⟩ := h2
          refine ⟨xs, q1, ?_⟩
          have hb : belowL S0.length ds = true := by
            rcases k2 with k2 | k2
            · cases o0 with
              | lst ds0 =>
                have := beqL_eq (by simpa [beqO] using k2 : beqL ds0 ds = true)
                subst this
                obtain ⟨a2, q3, xs2, q4, q5⟩ := rs0.at_ n _ k1
                rw [← rs0.len]
                exact repL_below _ _ q5
              | _ => simp [beqO] at k2
            · simpa [belowO] using k2
          have := belowL_keep _ _ hb q2
          rwa [← hc'] at this
        | dct kvs => exact h2.elim
        | ins c fs => exact h2.elim
    · cases ho
  · have ha' : a ∈ μ'.rv := by rw [e.rv]; exact ha
    obtain ⟨_, o, ho⟩ := rs.rv a ha'
    exact ⟨(rs0.rv a ha).1, o, ho⟩
theorem cut_ext {S0 S : Store} (rs0 : RelS K μ S0 H) (rs : RelS K μ' S H') (e : Ext K μ H μ' H') (k : keepable S0 S S0.length = true) : Ext K μ H μ H' := by
  obtain ⟨hc, _⟩ := cut_rel rs0 rs e k
  refine ⟨⟨⟨[], by simp⟩, fun v d r => ?_⟩, rfl, e.same⟩
  have h1 := below_keep (n := S0.length) d v (by rw [← rs0.len]; exact rep_below d v r) (e.mono v d r)
  rwa [hc] at h1
theorem handOut_rep {S0 S : Store} {fz : Bool} {d : D} {v : V} (rs0 : RelS K μ S0 H) (rs : RelS K μ' S H') (e : Ext K μ H μ' H') (k : keepable S0 S S0.length = true) (r : Rep K μ' H' v d) (b : below S0.length (handOut fz S0.length S d) = true) : Rep K μ H' v (handOut fz S0.length S d) := by
  obtain ⟨hc, _⟩ := cut_rel rs0 rs e k
  have plain : below S0.length d = true → Rep K μ H' v d := fun b => by
    have := below_keep d v b r
    rwa [hc] at this
  cases fz with
  | false =>
    have e0 : handOut false S0.length S d = d := by simp [handOut]
    rw [e0] at b ⊢
    exact plain b
  | true =>
    cases hl : locOf d with
    | none =>
      have e0 : handOut true S0.length S d = d := by simp [handOut, hl]
      rw [e0] at b ⊢
      exact plain b
    | some k' =>
      by_cases hk : S0.length ≤ k'
      · cases ha : atL S k' with
        | none =>
          have e0 : handOut true S0.length S d = d := by simp [handOut, hl, hk, ha]
          rw [e0] at b ⊢
          exact plain b
        | some xs =>
          have e0 : handOut true S0.length S d = .list xs := by simp [handOut, hl, hk, ha]
          rw [e0] at b ⊢
          obtain ⟨a, vs, h1, h2, h3⟩ := rs.lst_at ha
          have hv : v = .ref a := by
            cases r with
            | rf h =>
              rename_i a2 m
              have : k' = m := by simpa [locOf] using hl.symm
              subst this
              rw [h1] at h
              cases h
              rfl
            | ro h => simp [locOf] at hl
            | _ => simp [locOf] at hl
          subst hv
          have h4 := belowL_keep _ _ (by simpa [below] using b : belowL S0.length xs = true) h3
          rw [hc] at h4
          obtain ⟨ν, hν⟩ := e.pre
          refine .lst ⟨fun hm => ?_, fun hm => ?_⟩ h2 h4
          · obtain ⟨j, hj, q⟩ := List.getElem_of_mem hm
            have q2 : μ'.pl[j]? = some a := by rw [hν, List.getElem?_append_left hj, List.getElem?_eq_getElem hj, q]
            have := nodup_at rs.nd q2 h1
            have hj' := hj
            rw [rs0.len] at hj'
            omega
          · exact (rs.rv a (by rw [e.rv]; exact hm)).1 (mem_of_get h1)
      · have e0 : handOut true S0.length S d = d := by simp [handOut, hl, hk]
        rw [e0] at b ⊢
        exact plain b
theorem gc_post {fz : Bool} {o : Out} {S0 : Store} {Q : VK} {E : XK} (rs0 : RelS K μ S0 H) (h : Post K T μ H (RV K) Q E (gc fz S0 o)) : PostS K T μ H { nx := fun _ H' => Q .non H', rt := Q } (fun cls d _ H => E cls d H) o := by
  cases o with
  | nx env S =>
    intro σ' μ' H' rs e re
    simp only [gc] at h
    split at h
    · rename_i k
      exact h .non μ H' (cut_rel rs0 rs e k).2 (cut_ext rs0 rs e k) .non
    · exact h .non μ' H' rs e .non
  | bk env S => exact h.elim
  | ct env S => exact h.elim
  | rt d S =>
    intro z μ' H' rs e r
    simp only [gc] at h
    split at h
    · rename_i k
      simp only [Bool.and_eq_true] at k
      exact h z μ H' (cut_rel rs0 rs e k.2).2 (cut_ext rs0 rs e k.2) (handOut_rep rs0 rs e k.2 r k.1)
    · exact h z μ' H' rs e r
  | exc c d env S =>
    intro cls od σ' μ' H' x rs e re
    simp only [gc] at h
    split at h
    · rename_i k
      simp only [Bool.and_eq_true] at k
      obtain ⟨h1, dx, v, h2, h3, h4⟩ := x
      refine h cls od μ H' ⟨h1, dx, v, h2, h3, ?_⟩ (cut_rel rs0 rs e k.2).2 (cut_ext rs0 rs e k.2)
      have := below_keep d v k.1 h4
      rwa [(cut_rel rs0 rs e k.2).1] at this
    · exact h cls od μ' H' x rs e
  | bad => exact h
end
/-- a def of the program as it stands, and its text -/
structure DefIn (B : Tabs) (K : PySem.W.Frag) (mg : Str → Option Value) (tab : Nat → Option Fn) (x : Str) (f : Nat) where
  N : List Str
  params : Arguments
  body : List Stmt
  scope : Scope
  fn : Fn
  dvs : List V
  ad : Addr
  fd : FuncData
  htab : tab f = some fn
  hslots : fn.slots = N.length
  hpars : fn.pars = (B.prs f).length
  hsc : C8.scC N (B.prs f) scope = true
  hck : ckSs B N scope fn.body body = true
  hmg : mg x = some (.ref ad)
  hF : FunD K x x params body scope dvs [] ad fd
  hd : ∀ j ≤ (B.dfs f).length, ∃ dvs ds, Binds K fd (B.prs f) ds ∧ Vals dvs ds ∧ ∀ μ H, RepL K μ H dvs ((B.dfs f).drop j)
  hk : ∀ k ∈ B.kws f, KwOk K fd (B.prs f) k
structure ModIn (B : Tabs) (w : World) (K : PySem.W.Frag) (mg : Str → Option Value) (tab : Nat → Option Fn) : Prop where
  fns : ∀ x f, B.fns.lookup x = some f → Nonempty (DefIn B K mg tab x f)
  tabP : ∀ f fn, tab f = some fn → fn.pars = (B.prs f).length
  cst : ∀ x d, B.cst.lookup x = some d → ∃ v u, mg x = some u ∧ RelV v u ∧ ∀ μ H, Rep K μ H v d
  bl : ∀ x ∈ B.bls, mg x = none
  kd : ∀ x kvs, B.kds.lookup x = some kvs → KdOk K w mg x kvs
section
variable {B : Tabs} {T : Tb} {P : Program} {w : World} {K : PySem.W.Frag} {mg : Str → Option Value} {base : Heap} {tab : Nat → Option Fn}
theorem run_len (h : ∀ f fn, tab f = some fn → fn.pars = (B.prs f).length) (n f : Nat) (ds : List D) (S : Store) (hl : ds.length ≠ (B.prs f).length) : run tab n f ds S = .bad := by
  cases n with
  | zero => rfl
  | succ n =>
    unfold run
    cases ht : tab f with
    | none => rfl
    | some fn => exact if_neg (by rw [h f fn ht]; exact hl)
theorem rel_start {μ : Mu} {H : Hp} {N : List Str} {vs : List V} {ds : List D} {k : Nat} (r : RepL K μ H vs ds) (h : ds.length = k) : RelE K μ H (ds.map some ++ List.replicate (N.length - k) none) (L2.start N vs) := by
  unfold L2.start
  have hl := r.length
  refine ⟨by simp [hl, h], fun i d hi => ?_⟩
  by_cases hlt : i < ds.length
  · rw [List.getElem?_append_left (by simpa using hlt)] at hi
    have h1 : ds[i]? = some d := by
      rw [List.getElem?_map] at hi
      cases hd : ds[i]? with
      | none => rw [hd] at hi; cases hi
      | some y => rw [hd] at hi; cases hi; rfl
    obtain ⟨v, h2, h3⟩ := r.get h1
    refine ⟨v, ?_, h3⟩
    rw [List.getElem?_append_left (by rw [List.length_map, hl]; exact hlt), List.getElem?_map, h2]
    rfl
  · rw [List.getElem?_append_right (by simpa using hlt), List.getElem?_replicate] at hi
    split at hi <;> cases hi
/-- every def of the module does what its text of the small language does: by the depth of calls -/
theorem all_fns (M : ModIn B w K mg tab) : ∀ n, GF B T (run tab n) n P w K mg base
  | 0 => by
    refine ⟨fun x f hx => ?_, M.cst, M.bl, M.kd, run_len M.tabP 0⟩
    obtain ⟨D⟩ := M.fns x f hx
    refine ⟨D.ad, D.fd, D.hmg, D.hF.kp, ⟨fun vs H Q E h => h.1, fun A outer s H args us vs Q E _ _ _ _ h => ?_⟩, D.hd, D.hk⟩
    obtain ⟨_, μ, S, ds, _, _, h⟩ := h
    exact h.elim
  | n + 1 => by
    have IH := all_fns M n
    refine ⟨fun x f hx => ?_, M.cst, M.bl, M.kd, run_len M.tabP (n + 1)⟩
    obtain ⟨D⟩ := M.fns x f hx
    refine ⟨D.ad, D.fd, D.hmg, D.hF.kp, ?_, D.hd, D.hk⟩
    have S := C8.fnScope_by D.hsc
    refine FunD.ok D.hF S (fun vs H Q E h => h.1) fun cdv A outer s H vs Q E hr h => ?_
    obtain ⟨hl, μ, St, ds, rs, rl, h⟩ := h
    have c : CxS B T (run tab n) n (cxOf (L2.CX P w) P w K mg base D.N x D.scope D.ad cdv A outer s H E) (fun cls d _ H => E cls d H) :=
      ⟨⟨S.nd, rfl, hr, takes_of rfl rfl rfl rfl, IH⟩, passes_of rfl, fun _ => rfl, S.kind⟩
    refine ⟨_, sound_ss D.fn.body c D.body D.hck, ?_⟩
    have hlen : ds.length = D.fn.pars := by rw [← rl.length, hl, D.hpars]
    refine ⟨μ, St, ds.map some ++ List.replicate (D.N.length - D.fn.pars) none, rs, rel_start rl hlen, ?_⟩
    unfold run at h
    rw [D.htab] at h
    simp only [if_pos hlen, D.hslots] at h
    exact gc_post rs h
end
end DL

set_option linter.all false
set_option maxRecDepth 100000
/-! DL.End: a law, whole. -/
namespace DL
open PySem L2 PySem.Spec PyProof.Rows
section
variable {B : Tabs} {T : Tb} {P : Program} {w : World} {K : PySem.W.Frag} {mg : Str → Option Value} {base : Heap} {tab : Nat → Option Fn}
theorem def_ok (M : ModIn B w K mg tab) {x : Str} {f : Nat} (D : DefIn B K mg tab x f) (n : Nat) : FnOk P w K mg base (L2.CX P w) (n + 1) D.ad D.fd (B.prs f) (spF K T (run tab (n + 1) f) (B.prs f).length) := by
  have IH := all_fns (T := T) (P := P) (w := w) (base := base) M n
  have S := C8.fnScope_by D.hsc
  refine FunD.ok D.hF S (fun vs H Q E h => h.1) fun cdv A outer s H vs Q E hr h => ?_
  obtain ⟨hl, μ, St, ds, rs, rl, h⟩ := h
  have c : CxS B T (run tab n) n (cxOf (L2.CX P w) P w K mg base D.N x D.scope D.ad cdv A outer s H E) (fun cls d _ H => E cls d H) :=
    ⟨⟨S.nd, rfl, hr, takes_of rfl rfl rfl rfl, IH⟩, passes_of rfl, fun _ => rfl, S.kind⟩
  refine ⟨_, sound_ss D.fn.body c D.body D.hck, ?_⟩
  have hlen : ds.length = D.fn.pars := by rw [← rl.length, hl, D.hpars]
  refine ⟨μ, St, ds.map some ++ List.replicate (D.N.length - D.fn.pars) none, rs, rel_start rl hlen, ?_⟩
  unfold run at h
  rw [D.htab] at h
  simp only [if_pos hlen, D.hslots] at h
  exact gc_post rs h
end
section
variable {K : PySem.W.Frag} {x qual : Str} {params : Arguments} {body : List Stmt} {scope : Scope} {f : Addr} {fd : FuncData} {ps : List Str}
/-- no defaults -/
theorem hd0 (F : FunD K x qual params body scope [] [] f fd)
    (h : ∀ (kV doc pm : Value) (an : Option Addr) (cdv ct : Value) (us : List Value), us.length = ps.length → bindArgs (PySem.W.fnOf x qual params body scope .none kV doc pm an cdv ct) ⟨us, []⟩ = pure (ps.zip us)) :
    ∀ j ≤ ([] : List D).length, ∃ dvs ds, Binds K fd ps ds ∧ Vals dvs ds ∧ ∀ μ H, RepL K μ H dvs (([] : List D).drop j) := fun j _ =>
  ⟨[], [], FunD.bindsN F h, .nil, fun μ H => by rw [List.drop_nil]; exact .nil⟩
/-- keywords, no defaults -/
theorem kwN {k : Nat} (F : FunD K x qual params body scope [] [] f fd)
    (h : ∀ (kV doc pm : Value) (an : Option Addr) (cdv ct : Value) (us ws : List Value), us.length = k → ws.length = ps.length - k → bindArgs (PySem.W.fnOf x qual params body scope .none kV doc pm an cdv ct) ⟨us, (ps.drop k).zip ws⟩ = pure (ps.zip (us ++ ws))) : KwOk K fd ps k := by
  intro s us ws hK h1 h2
  obtain ⟨oc, od, dV, kV, doc, pm, an, cdv, ct, osl, rfl, lk, hcd, hD, hKw⟩ := F.ex
  rcases hD with ⟨_, rfl⟩ | ⟨e, _⟩
  · exact .of_eq (h kV doc pm an cdv ct us ws h1 h2)
  · exact absurd rfl e
end
theorem all_nil {α : Type} {P : α → Prop} : ∀ p ∈ ([] : List α), P p := fun p h => nomatch h
theorem all_cons {α : Type} {P : α → Prop} {a : α} {l : List α} (h : P a) (hl : ∀ p ∈ l, P p) : ∀ p ∈ a :: l, P p := fun p hp => by
  rcases List.mem_cons.mp hp with e | e
  · exact e ▸ h
  · exact hl p e
theorem mem_of_look {α : Type} {x : Str} {v : α} : ∀ {l : List (Str × α)}, l.lookup x = some v → (x, v) ∈ l
  | [], h => by cases h
  | (y, u) :: l, h => by
    rw [List.lookup_cons] at h
    cases hb : x == y with
    | true =>
      rw [hb] at h
      cases h
      rw [eq_of_beq hb]
      exact List.mem_cons_self ..
    | false =>
      rw [hb] at h
      exact List.mem_cons_of_mem _ (mem_of_look h)
theorem ModIn.of {B : Tabs} {w : World} {K : PySem.W.Frag} {mg : Str → Option Value} {tab : Nat → Option Fn} (fns : ∀ p ∈ B.fns, Nonempty (DefIn B K mg tab p.1 p.2)) (tabP : ∀ f fn, tab f = some fn → fn.pars = (B.prs f).length)
    (cst : ∀ p ∈ B.cst, ∃ v u, mg p.1 = some u ∧ RelV v u ∧ ∀ μ H, Rep K μ H v p.2) (bl : ∀ x ∈ B.bls, mg x = none) (kd : ∀ p ∈ B.kds, KdOk K w mg p.1 p.2) : ModIn B w K mg tab :=
  ⟨fun x f h => fns _ (mem_of_look h), tabP, fun x d h => cst _ (mem_of_look h), bl, fun x d h => kd _ (mem_of_look h)⟩
theorem cst_int {K : PySem.W.Frag} {h : Heap} {mg : Str → Option Value} (X : K.In h) (G : h.Ns mainGlobals mg) {x : Str} {i : Int} (c : (He.Fa.int x i).ok K = true) : ∃ v u, mg x = some u ∧ RelV v u ∧ ∀ μ H, Rep K μ H v (.int i) := by
  obtain ⟨t, e⟩ := He.int_ok X G c
  exact ⟨.int i, _, e, ⟨t, rfl⟩, fun _ _ => .int i⟩
theorem tab_pars {B : Tabs} {l : List Fn} (h : l.mapIdx (fun i fn => (fn.pars == (B.prs i).length)) = List.replicate l.length true) : ∀ f fn, l[f]? = some fn → fn.pars = (B.prs f).length := fun f fn e => by
  have h1 : (l.mapIdx (fun i fn => (fn.pars == (B.prs i).length)))[f]? = some (fn.pars == (B.prs f).length) := by simp [e]
  rw [h, List.getElem?_replicate] at h1
  split at h1
  · simpa using h1
  · cases h1
/-- the law walked by the small language -/
theorem walk_dl {l : PySem.W.OpenLaw} {n : Nat} {q : Program} {loose : List Str} {XP : (Str → Option Value) → Heap → Prop} {YP : World → Heap → Prop} {d : DefRec} {B : Tabs} {tab : Nat → Option Fn} {fl : Nat} {lx x : Str}
    (hn : l.most = some 63) (hdf : d.params.defaults = []) (hname : d.name = lx) (hr : Room (n + 1) callerA) (hps : B.prs fl = [x])
    (F : ∀ (w : World) (mg : Str → Option Value) (h : Heap), YP w h → h.Ns mainGlobals mg →
      ∃ K : PySem.W.Frag, K.In h ∧ ModIn B w K mg tab ∧ ∃ D : DefIn B K mg tab lx fl, ∀ (s : Shared) (u : Value), BindsTo s D.fd ⟨[u], []⟩ [(x, u)])
    (plain : ∀ ns : List Int, ns.length ≤ 63 → ∃ S, run tab (n + 1) fl [ro ns] [] = .ok (.bool true) S) :
    PySem.W.WalkO q loose XP YP l.row.toRowW d [] (fun f vs => PySem.call f vs) := by
  refine Att.attach_call hn hdf fun w s₀ s₁ mg mb fa o pm cd doc a vs ns G Y ho hd hcd hmg hobj hints hlen hg => ?_
  obtain ⟨K, KX, M, D, hb⟩ := F w mg _ Y G.T.g
  have e : fa = D.ad := by
    have h1 := D.hmg
    have h2 : mg lx = some (.ref fa) := by rw [← hname]; exact hmg
    exact Value.ref.inj (Option.some.inj (h2.symm.trans h1))
  subst e
  refine law_call (CX := L2.CX l.prog w) (k := n + 1) (fd := D.fd) (x := x) (sp := spF K ⟨fun _ => 0, fun _ => Str.empty⟩ (run tab (n + 1) fl) (B.prs fl).length) KX G.T.g G.T.b G.T.builtins G.T.nolimit hg hobj hints (Nat.le_trans hlen (by decide)) hr ?_ hb ?_ ?_
  · intro base _ _
    rw [← hps]
    exact def_ok M D n
  · intro H hO hS
    obtain ⟨S', e⟩ := plain ns hlen
    have hr : SqR K H a (ns.map V.int) := by
      rcases hS with (h | ⟨o, h⟩) | h
      · rcases hO a with h2 | ⟨o, xs, h2⟩ <;> rw [h2] at h <;> cases h
      · exact .inl ⟨o, h⟩
      · exact .inr h
    refine ⟨by rw [hps]; rfl, ⟨[], []⟩, [], [ro ns], ⟨rfl, List.nodup_nil, fun n o h => by simp at h, fun a h => by simp at h⟩, .cons (.ro hr) .nil, ?_⟩
    rw [e]
    intro z μ' H' _ _ r
    cases r
    rfl
  · rintro H e s' ⟨_, _, _, _, _, _, _, _, _, _, _, _, z⟩
    exact z
end DL

set_option linter.all false
set_option maxRecDepth 100000
/-! DL.Hook: what is known of the module's tables and rows. -/
namespace DL
open PySem PySem.Spec PyProof.Rows L2 He
/-- further facts: a tuple of plain values, a table's values -/
inductive KC where
  | tup (x : Str) (vs : List Dv)
  | tab (x : Str) (kvs : List (Str × Dv))
def KC.ok (K : PySem.W.Frag) : KC → Bool
  | .tup x vs => tupB K x vs
  | .tab x kvs => valsB K (ga K x) kvs
abbrev AlX : Type := AlT × Bool
def obsX (fa : List Fa) (fn : List DefD) (ts : List Tab) (ex : List KC) (K : PySem.W.Frag) : AlX := (obsT fa fn ts K, ex.all fun f => f.ok K)
def valX (fn : List DefD) (ts : List Tab) (w : World) : AlX := (valT fn ts w, true)
def obsXG (n : Nat) (fa : List Fa) (fn : List DefD) (ts : List Tab) (ex : List KC) (g : Addr → Option Obj) : AlX := obsX fa fn ts ex (frG g (asD g n))
def SaysX (fa : List Fa) (fn : List DefD) (ts : List Tab) (ex : List KC) (w : World) (K : PySem.W.Frag) : Prop := obsX fa fn ts ex K = valX fn ts w
def hookX (n : Nat) (fa : List Fa) (fn : List DefD) (ts : List Tab) (ex : List KC) : PySem.W.Hook where
  α := AlX
  obs := fun s => obsXG n fa fn ts ex s.heap.get?
  val := fun w => valX fn ts w
  says := fun w h => ∃ K : PySem.W.Frag, K.In h ∧ SaysX fa fn ts ex w K
  of := fun _ _ e => ⟨_, frG_in, e⟩
  keeps := fun _ _ _ ⟨K, hK, c⟩ k => ⟨K, PySem.W.Frag.In.keeps hK k, c⟩
theorem obsXG_eq {n : Nat} {fa : List Fa} {fn : List DefD} {ts : List Tab} {ex : List KC} {g : Addr → Option Obj} {s : Shared} (h : ∀ a, g a = s.heap.get? a) : obsXG n fa fn ts ex g = (hookX n fa fn ts ex).obs s := by
  have e : g = s.heap.get? := funext h
  rw [e] <;> rfl
section
variable {fa : List Fa} {fn : List DefD} {ts : List Tab} {ex : List KC} {w : World} {K : PySem.W.Frag} {h : Heap} {mg : Str → Option Value}
theorem SaysX.t (c : SaysX fa fn ts ex w K) : SaysT fa fn ts w K := congrArg (fun z : AlX => z.1) c
theorem SaysX.x (c : SaysX fa fn ts ex w K) (i : Nat) {f : KC} (e : ex[i]? = some f := by rfl) : f.ok K = true := by
  have c1 : (ex.all fun f => f.ok K) = true := congrArg (fun z : AlX => z.2) c
  exact List.all_eq_true.mp c1 f (List.mem_of_getElem? e)
/-- what the model leaves open, one question told -/
def World.tell (w : World) (x : String) (b : Bool) : World := { w with params := { w.params with followText := fun s => if s == x then b else w.params.followText s } }
theorem tell_split {p : World → Prop} (x : String) (w : World) (h : ∀ b, p (World.tell w x b)) : p w := by
  have e : World.tell w x (w.params.followText x) = w := by
    have : (fun s => if (s == x) = true then w.params.followText x else w.params.followText s) = w.params.followText := by
      funext s
      by_cases c : s = x
      · subst c
        simp
      · simp [c]
    unfold World.tell
    rw [this]
  rw [← e]
  exact h _
/-- a plain value as a datum -/
def dvD : Dv → Option D
  | .non => some .none
  | .bl b => some (.bool b)
  | .int i => some (.int i)
  | .str x => some (.str x)
  | _ => none
theorem dvD_rep {v : Dv} {d : D} (e : dvD v = some d) (μ : Mu) (H : Hp) : Rep K μ H (v.v K) d := by
  cases v <;> simp only [dvD, Option.some.injEq, reduceCtorEq] at e <;> subst e
  · exact .non
  · exact .bl _
  · exact .int _
  · exact .str _
theorem dvs_rep {μ : Mu} {H : Hp} : ∀ {vs : List Dv} {ds : List D}, vs.map dvD = ds.map some → RepL K μ H (vs.map (Dv.v K)) ds
  | [], [], _ => .nil
  | [], _ :: _, h => by cases h
  | _ :: _, [], h => by cases h
  | v :: vs, d :: ds, h => by
    simp only [List.map_cons, List.cons.injEq] at h
    exact .cons (dvD_rep h.1 μ H) (dvs_rep h.2)
theorem cst_tup (X : K.In h) (G : h.Ns mainGlobals mg) {x : Str} {vs : List Dv} {ds : List D} (c : (Fa.glo x).ok K = true) (t : (KC.tup x vs).ok K = true) (e : vs.map dvD = ds.map some) : ∃ v u, mg x = some u ∧ RelV v u ∧ ∀ μ H, Rep K μ H v (.tuple ds) :=
  ⟨.ref (ga K x), .ref (ga K x), glo_ok X G c, rfl, fun μ H => .tup (tupB_ok t H) (dvs_rep e)⟩
theorem kd_ok (X : K.In h) (G : h.Ns mainGlobals mg) {x : Str} {kvs : List (Str × Dv)} {ds : List (Str × D)} (c : (Fa.glo x).ok K = true) (dk : ∃ es n, KDict K w (ga K x) es n) (t : (KC.tab x kvs).ok K = true) (e : kvs.map (fun p => (p.1, dvD p.2)) = ds.map fun p => (p.1, some p.2)) : KdOk K w mg x ds := by
  obtain ⟨es, n, Dk⟩ := dk
  refine ⟨ga K x, es, n, glo_ok X G c, Dk, fun z d hz => ?_⟩
  have key : ∀ {l : List (Str × Dv)} {m : List (Str × D)}, l.map (fun p => (p.1, dvD p.2)) = m.map (fun p => (p.1, some p.2)) → m.lookup z = some d → ∃ q ∈ l, q.1 = z ∧ dvD q.2 = some d := by
    intro l
    induction l with
    | nil =>
      intro m h1 h2
      cases m with
      | nil => cases h2
      | cons a m => cases h1
    | cons a l ih =>
      intro m h1 h2
      cases m with
      | nil => cases h2
      | cons b m =>
        simp only [List.map_cons, List.cons.injEq, Prod.mk.injEq] at h1
        obtain ⟨b1, b2⟩ := b
        rw [List.lookup_cons] at h2
        cases hb : z == b1 with
        | true =>
          rw [hb] at h2
          cases h2
          exact ⟨a, List.mem_cons_self .., h1.1.1.trans (eq_of_beq hb).symm, h1.1.2⟩
        | false =>
          rw [hb] at h2
          obtain ⟨q, q1, q2⟩ := ih h1.2 h2
          exact ⟨q, List.mem_cons_of_mem _ q1, q2⟩
  obtain ⟨q, q1, q2, q3⟩ := key e hz
  obtain ⟨u, u1, u2⟩ := valsB_ok t q1
  exact ⟨u, q.2.v K, by rw [← q2]; exact u1, u2, fun μ H => dvD_rep q3 μ H⟩
end
end DL

set_option linter.all false
/-! DL.Math: how the small language runs, by equations. -/
namespace DL
open PySem L2
section
variable {F : FS} {env : Env} {S : Store}
theorem ev_c {d : D} : ev F (.c d) env S = .ok d S := rfl
theorem ev_v {i : Nat} {d : D} (h : env[i]? = some (some d)) : ev F (.v i) env S = .ok d S := by simp [ev, h]
theorem handOut_self (fz : Bool) (S : Store) (d : D) : handOut fz S.length S d = d := by
  unfold handOut
  cases fz with
  | false => rfl
  | true =>
    cases hl : locOf d with
    | none => rfl
    | some k =>
      simp only
      split
      · rename_i hk
        have : atL S k = none := by
          unfold atL
          rw [List.getElem?_eq_none hk]
        rw [this]
      · rfl
/-- nothing laid, nothing changed -/
theorem gc_same (fz : Bool) (S : Store) (d : D) : gc fz S (.rt d S) = .ok d S := by
  simp only [gc, handOut_self, List.take_length, ite_self]

mutual
/-- data that name no place -/
def gnd : D → Bool
  | .list xs => gndL xs
  | .tuple xs => gndL xs
  | .dict _ => false
  | _ => true
def gndL : List D → Bool
  | [] => true
  | x :: r => gnd x && gndL r
end
mutual
theorem below_gnd : ∀ {d : D} {n : Nat}, gnd d = true → below n d = true
  | .none, _, _ => rfl
  | .bool _, _, _ => rfl
  | .int _, _, _ => rfl
  | .str _, _, _ => rfl
  | .list xs, n, h => by simpa [below] using belowL_gnd (xs := xs) (by simpa [gnd] using h)
  | .tuple xs, n, h => by simpa [below] using belowL_gnd (xs := xs) (by simpa [gnd] using h)
  | .dict k, n, h => by simp [gnd] at h
theorem belowL_gnd : ∀ {xs : List D} {n : Nat}, gndL xs = true → belowL n xs = true
  | [], _, _ => rfl
  | x :: r, n, h => by
    simp only [gndL, Bool.and_eq_true] at h
    simp [belowL, below_gnd h.1, belowL_gnd h.2]
end
theorem gndL_iff : ∀ {xs : List D}, gndL xs = true ↔ ∀ x ∈ xs, gnd x = true
  | [] => by simp [gndL]
  | x :: r => by simp [gndL, gndL_iff (xs := r)]
/-- all places hold lists -/
def lsts (S : Store) : Bool := S.all fun o => match o with
  | .lst _ => true
  | _ => false
theorem beqO_refl {o : MO} (h : (match o with | .lst _ => true | _ => false) = true) : beqO o o = true := by
  cases o <;> simp [beqO] at h ⊢
/-- what of S0 was changed now holds but data -/
def Near : Store → Store → Prop
  | [], _ => True
  | a :: r, b :: s => (b = a ∨ ∃ xs, b = .lst xs ∧ gndL xs = true) ∧ Near r s
  | _ :: _, [] => False
theorem near_keep : ∀ {S0 S : Store} {n : Nat}, lsts S0 = true → Near S0 S → keepable S0 S n = true
  | [], _, _, _, _ => rfl
  | a :: r, [], _, _, h => h.elim
  | a :: r, b :: s, n, l, ⟨h1, h2⟩ => by
    simp only [lsts, List.all_cons, Bool.and_eq_true] at l
    have ih := near_keep (n := n) (show lsts r = true from l.2) h2
    simp only [keepable, ih, Bool.and_true, Bool.or_eq_true]
    rcases h1 with rfl | ⟨xs, rfl, hx⟩
    · exact .inl (beqO_refl l.1)
    · exact .inr (by simpa [belowO] using belowL_gnd hx)
theorem near_refl : ∀ (S X : Store), Near S (S ++ X)
  | [], _ => trivial
  | a :: r, X => ⟨.inl rfl, near_refl r X⟩
theorem near_set : ∀ (S : Store) (X : Store) (n : Nat) (xs : List D), gndL xs = true → Near S (setL S n xs ++ X)
  | [], _, _, _, _ => trivial
  | a :: r, X, 0, xs, h => ⟨.inr ⟨xs, rfl, h⟩, near_refl r X⟩
  | a :: r, X, n + 1, xs, h => ⟨.inl rfl, near_set r X n xs h⟩
theorem near_len : ∀ {S0 S : Store}, Near S0 S → S0.length ≤ S.length
  | [], _, _ => Nat.zero_le _
  | a :: r, [], h => h.elim
  | a :: r, b :: s, ⟨_, h⟩ => by simpa using near_len h
/-- new places fall away -/
theorem gc_near {fz : Bool} {S0 S1 X : Store} {d : D} (l : lsts S0 = true) (hn : Near S0 S1) (hl : S1.length = S0.length) (hg : gnd d = true) (hd : locOf d = none) : gc fz S0 (.rt d (S1 ++ X)) = .ok d S1 := by
  have e1 : handOut fz S0.length (S1 ++ X) d = d := by
    unfold handOut
    rw [hd]
    cases fz <;> rfl
  have hk : keepable S0 (S1 ++ X) S0.length = true := by
    have : Near S0 (S1 ++ X) := by
      clear e1 l hl
      revert S1
      induction S0 with
      | nil => intro S1 _; trivial
      | cons a r ih =>
        intro S1 h
        cases S1 with
        | nil => exact h.elim
        | cons b s => exact ⟨h.1, ih h.2⟩
    exact near_keep l this
  simp only [gc, e1, below_gnd hg, hk, Bool.and_self, if_true]
  rw [← hl, List.take_left']
  rfl
/-- a list that is handed out is frozen -/
theorem gc_hand {S0 S1 X : Store} {xs : List D} {k : Nat} (l : lsts S0 = true) (hn : Near S0 S1) (hl : S1.length = S0.length) (hk0 : S0.length ≤ k) (ha : atL (S1 ++ X) k = some xs) (hg : gndL xs = true) : gc true S0 (.rt (rf k) (S1 ++ X)) = .ok (.list xs) S1 := by
  have e1 : handOut true S0.length (S1 ++ X) (rf k) = .list xs := by
    unfold handOut
    simp [locOf, hk0, ha]
  have hk : keepable S0 (S1 ++ X) S0.length = true := by
    have : Near S0 (S1 ++ X) := by
      clear e1 l hl ha hk0
      revert S1
      induction S0 with
      | nil => intro S1 _; trivial
      | cons a r ih =>
        intro S1 h
        cases S1 with
        | nil => exact h.elim
        | cons b s => exact ⟨h.1, ih h.2⟩
    exact near_keep l this
  have hb : below S0.length (.list xs) = true := by simpa [below] using belowL_gnd hg
  simp only [gc, e1, hb, hk, Bool.and_self, if_true]
  rw [← hl, List.take_left']
  rfl
end
end DL
namespace DL
open PySem L2
section
variable {S : Store}
theorem cmp_lt_i (i j : Int) : cmpV .Lt (.int i) (.int j) S = .ok (.bool (decide (i < j))) S := by
  simp [cmpV, res, ltOk, PyData.plain, W.alike, isNone, PyData.depth, W.dataLt_int]
theorem cmp_gt_i (i j : Int) : cmpV .Gt (.int i) (.int j) S = .ok (.bool (decide (i > j))) S := by
  simp [cmpV, res, ltOk, PyData.plain, W.alike, isNone, PyData.depth, W.dataLt_int]
theorem cmp_le_i (i j : Int) : cmpV .LtE (.int i) (.int j) S = .ok (.bool (decide (i ≤ j))) S := by
  simp only [cmpV, res, ltOk, PyData.plain, W.alike, isNone, PyData.depth, W.dataLt_int, W.not_lt_int]
  rfl
theorem cmp_ge_i (i j : Int) : cmpV .GtE (.int i) (.int j) S = .ok (.bool (decide (i ≥ j))) S := by
  simp only [cmpV, res, ltOk, PyData.plain, W.alike, isNone, PyData.depth, W.dataLt_int, W.not_lt_int]
  rfl
theorem cmp_eq_i (i j : Int) : cmpV .Eq (.int i) (.int j) S = .ok (.bool (decide (i = j))) S := by
  simp only [cmpV, res, eqOk, PyData.plain, PyData.depth, PyData.eqv]
  rfl
theorem cmp_ne_i (i j : Int) : cmpV .NotEq (.int i) (.int j) S = .ok (.bool (decide (i ≠ j))) S := by
  simp only [cmpV, res, eqOk, PyData.plain, PyData.depth, PyData.eqv]
  by_cases h : i = j <;> simp [h]
theorem cmp_isN (d : D) : cmpV .Is d .none S = .ok (.bool (isNone d)) S := by
  cases d <;> simp [cmpV, isConst, beqD, isNone]
theorem cmp_notN (d : D) : cmpV .IsNot d .none S = .ok (.bool (!isNone d)) S := by
  cases d <;> simp [cmpV, isConst, beqD, isNone]
theorem any_dec {α : Type} {l : List α} {p : α → Bool} {q : Prop} [Decidable q] (h : q ↔ ∃ x ∈ l, p x = true) : l.any p = decide q := by
  by_cases c : q
  · rw [decide_eq_true c]; exact List.any_eq_true.mpr (h.mp c)
  · rw [decide_eq_false c]
    rw [List.any_eq_false]
    intro x hx e
    exact c (h.mpr ⟨x, hx, e⟩)
theorem plainAll_map {α : Type} {f : α → D} (h : ∀ a, (f a).plain = true) : ∀ l : List α, PyData.plainAll (l.map f) = true
  | [] => rfl
  | x :: l => by simp [PyData.plainAll, h x, plainAll_map h l]
/-- x in xs, xs of data that == tells apart -/
theorem cmp_in {α : Type} [BEq α] [LawfulBEq α] {f : α → D} (hp : ∀ a, (f a).plain = true) (hd : ∀ a, (f a).depth ≤ 60) (hr : ∀ a S, res S (f a) = f a) (he : ∀ a b, PyData.eqv (f a) (f b) = (a == b)) (l : List α) (x : α) {d : D} (hs : seqOf S d = some (l.map f)) :
    cmpV .In (f x) d S = .ok (.bool (decide (x ∈ l))) S := by
  have h1 : inOk (l.map f) (f x) = true := by
    simp only [inOk, plainAll_map hp, hp, Bool.true_and, decide_eq_true_eq]
    exact Nat.le_trans (Nat.min_le_right _ _) (hd x)
  simp only [cmpV, hs, hr, h1, if_true]
  have : ((l.map f).any fun y => PyData.eqv y (f x)) = decide (x ∈ l) := by
    rw [List.any_map]
    refine any_dec ⟨fun h => ⟨x, h, by simp [he]⟩, fun ⟨y, hy, e⟩ => ?_⟩
    simp only [Function.comp, he, beq_iff_eq] at e
    exact e ▸ hy
  rw [this]
theorem cmp_notin {α : Type} [BEq α] [LawfulBEq α] {f : α → D} (hp : ∀ a, (f a).plain = true) (hd : ∀ a, (f a).depth ≤ 60) (hr : ∀ a S, res S (f a) = f a) (he : ∀ a b, PyData.eqv (f a) (f b) = (a == b)) (l : List α) (x : α) {d : D} (hs : seqOf S d = some (l.map f)) :
    cmpV .NotIn (f x) d S = .ok (.bool (!decide (x ∈ l))) S := by
  have h1 : inOk (l.map f) (f x) = true := by
    simp only [inOk, plainAll_map hp, hp, Bool.true_and, decide_eq_true_eq]
    exact Nat.le_trans (Nat.min_le_right _ _) (hd x)
  simp only [cmpV, hs, hr, h1, if_true]
  have : ((l.map f).any fun y => PyData.eqv y (f x)) = decide (x ∈ l) := by
    rw [List.any_map]
    refine any_dec ⟨fun h => ⟨x, h, by simp [he]⟩, fun ⟨y, hy, e⟩ => ?_⟩
    simp only [Function.comp, he, beq_iff_eq] at e
    exact e ▸ hy
  rw [this]
theorem atI_map {α : Type} {f : α → D} {l : List α} {i : Nat} {a : α} (h : l[i]? = some a) : atI (l.map f) (i : Int) = some (f a) := by
  refine atI_nat ?_
  rw [List.getElem?_map, h]
  rfl
theorem atI0 {α : Type} (x : α) (l : List α) : atI (x :: l) 0 = some x := atI_nat (j := 0) rfl
theorem atI1 {α : Type} (x y : α) (l : List α) : atI (x :: y :: l) 1 = some y := atI_nat (j := 1) rfl
theorem atI2 {α : Type} (x y z : α) (l : List α) : atI (x :: y :: z :: l) 2 = some z := atI_nat (j := 2) rfl
theorem atI3 {α : Type} (x y z u : α) (l : List α) : atI (x :: y :: z :: u :: l) 3 = some u := atI_nat (j := 3) rfl
theorem bin_add_i (m : Bool) (i j : Int) : binV .Add m (.int i) (.int j) S = .ok (.int (i + j)) S := rfl
theorem bin_sub_i (m : Bool) (i j : Int) : binV .Sub m (.int i) (.int j) S = .ok (.int (i - j)) S := rfl
theorem bin_mul_i (m : Bool) (i j : Int) (h : small64 j = true) : binV .Mult m (.int i) (.int j) S = .ok (.int (i * j)) S := by simp [binV, h]
theorem bin_div_i (m : Bool) (i j : Int) (h : 0 < j ∧ j < 1073741824) : binV .FloorDiv m (.int i) (.int j) S = .ok (.int (i / j)) S := by simp [binV, h]
theorem bin_mod_i (m : Bool) (i j : Int) (h : 0 < j) : binV .Mod m (.int i) (.int j) S = .ok (.int (i % j)) S := by simp [binV, h]
theorem bin_add_t (m : Bool) (x y : List D) (h : (x ++ y).length ≤ sizeLine) : binV .Add m (.tuple x) (.tuple y) S = .ok (.tuple (x ++ y)) S := by simp only [binV, mkT, if_pos h]
end
theorem bindT_nm (i : Nat) (d : D) (env : DL.Env) : bindT (.nm i) d env = some (env.set i (some d)) := rfl
/-! ### loops -/
section
variable {α : Type} {enc : α → D} {g : Option Nat} {S0 : Store}
theorem still_none (S0 S : Store) : still none S0 S = true := rfl
theorem forLoop_inv {f : D → DL.Env → Store → Out} (P : List α → DL.Env → Store → Prop) (hs : ∀ l env S, P l env S → still g S0 S = true)
    (step : ∀ x r env S, P (x :: r) env S → ∃ env' S', f (enc x) env S = .nx env' S' ∧ P r env' S') : ∀ (l : List α) (env : DL.Env) (S : Store), P l env S → ∃ env' S', forLoop g S0 f (l.map enc) env S = .nx env' S' ∧ P [] env' S'
  | [], env, S, h => ⟨env, S, by simp [forLoop, hs _ _ _ h], h⟩
  | x :: r, env, S, h => by
    obtain ⟨env', S', e, h'⟩ := step x r env S h
    obtain ⟨env2, S2, e2, h2⟩ := forLoop_inv P hs step r env' S' h'
    refine ⟨env2, S2, ?_, h2⟩
    simp only [List.map_cons, forLoop, hs _ _ _ h, if_true, e]
    exact e2
/-- a comprehension whose list stands frozen at the end; the store may go on -/
theorem compLoop_inv {β : Type} {out : β → D} {f : D → Store → Res (Option D)} (P : List α → List β → Store → Prop) (hs : ∀ l acc S, P l acc S → still g S0 S = true)
    (step : ∀ x r acc S, P (x :: r) acc S → (∃ b S', f (enc x) S = .ok (some (out b)) S' ∧ P r (acc ++ [b]) S') ∨ (∃ S', f (enc x) S = .ok none S' ∧ P r acc S')) :
    ∀ (l : List α) (acc : List β) (S : Store), P l acc S → ∃ bs S', compLoop g S0 f (l.map enc) (acc.map out) S = .ok (bs.map out) S' ∧ P [] bs S'
  | [], acc, S, h => ⟨acc, S, by simp [compLoop, hs _ _ _ h], h⟩
  | x :: r, acc, S, h => by
    rcases step x r acc S h with ⟨b, S', e, h'⟩ | ⟨S', e, h'⟩
    · obtain ⟨bs, S2, e2, h2⟩ := compLoop_inv P hs step r (acc ++ [b]) S' h'
      refine ⟨bs, S2, ?_, h2⟩
      simp only [List.map_cons, compLoop, hs _ _ _ h, if_true, e, Res.bind_ok]
      rw [List.map_append] at e2
      exact e2
    · obtain ⟨bs, S2, e2, h2⟩ := compLoop_inv P hs step r acc S' h'
      refine ⟨bs, S2, ?_, h2⟩
      simp only [List.map_cons, compLoop, hs _ _ _ h, if_true, e, Res.bind_ok]
      exact e2
theorem comp_inv {β : Type} {out : β → D} {f : D → Store → Res (Option D)} {S1 : Store} (P : List α → List β → Store → Prop) (hs : ∀ l acc S, P l acc S → still g S0 S = true)
    (step : ∀ x r acc S, P (x :: r) acc S → (∃ b S', f (enc x) S = .ok (some (out b)) S' ∧ P r (acc ++ [b]) S') ∨ (∃ S', f (enc x) S = .ok none S' ∧ P r acc S'))
    (l : List α) (h : P l [] S1) (fin : ∀ bs S', P [] bs S' → bs.length ≤ sizeLine) : ∃ bs S', compEnd false g S0 f (l.map enc) S1 = .ok (.list (bs.map out)) S' ∧ P [] bs S' := by
  obtain ⟨bs, S', e, h'⟩ := compLoop_inv P hs step l [] S1 h
  refine ⟨bs, S', ?_, h'⟩
  simp only [List.map_nil] at e
  simp only [compEnd, e, Bool.false_eq_true, if_false, Res.noexc_ok, Res.bind_ok, List.length_map, if_pos (fin bs S' h')]
/-- .. where nothing of the store changes -/
theorem comp_same {f : D → Store → Res (Option D)} {v : α → Option D} {S1 : Store} (l : List α) (hs : still g S0 S1 = true) (hv : ∀ x ∈ l, f (enc x) S1 = .ok (v x) S1) (hl : l.length ≤ sizeLine) : compEnd false g S0 f (l.map enc) S1 = .ok (.list (l.filterMap v)) S1 := by
  have key : ∀ (l : List α) (acc : List D), (∀ x ∈ l, f (enc x) S1 = .ok (v x) S1) → compLoop g S0 f (l.map enc) acc S1 = .ok (acc ++ l.filterMap v) S1 := by
    intro l
    induction l with
    | nil => intro acc _; simp [compLoop, hs]
    | cons x r ih =>
      intro acc h
      simp only [List.map_cons, compLoop, hs, if_true, h x (List.mem_cons_self ..), Res.bind_ok]
      rw [ih _ fun y hy => h y (List.mem_cons_of_mem _ hy)]
      cases hx : v x with
      | none => simp [hx]
      | some y => simp [hx]
  simp only [compEnd, key l [] hv, Bool.false_eq_true, if_false, Res.noexc_ok, Res.bind_ok, List.nil_append]
  have : (l.filterMap v).length ≤ sizeLine := Nat.le_trans (List.length_filterMap_le _ _) hl
  rw [if_pos this]
theorem comp_map {f : D → Store → Res (Option D)} {v : α → D} {S1 : Store} (l : List α) (hs : still g S0 S1 = true) (hv : ∀ x ∈ l, f (enc x) S1 = .ok (some (v x)) S1) (hl : l.length ≤ sizeLine) : compEnd false g S0 f (l.map enc) S1 = .ok (.list (l.map v)) S1 := by
  rw [comp_same (v := fun x => some (v x)) l hs hv hl, List.filterMap_eq_map']
  all_goals rfl
end
section
variable {F : FS} {env : DL.Env} {S S1 S2 : Store} {its : List Ex} {vs items : List D} {g : Option Nat} {k : IK} {t : Tg}
theorem ev_comp {m : Bool} {own : List Nat} {ifs : List Ex} {x : Ex} {r : Res D} (h1 : evs F its env S = .ok vs S1) (h2 : itemsV k vs S1 = .ok (items, g) S2) (h3 : compEnd m g S2 (compF F own t ifs x env) items S2 = r) : DL.ev F (.comp m own t k its ifs x) env S = r := by
  rw [comp_eq]
  unfold evI
  rw [h1]
  simp only [Res.bind_ok, h2]
  exact h3
theorem compF_some {own : List Nat} {ifs : List Ex} {x : Ex} {y d : D} {env' : DL.Env} (h1 : bindT t y (wipeE env own) = some env') (h2 : evAll F ifs env' S = .ok true S1) (h3 : DL.ev F x env' S1 = .ok d S2) : compF F own t ifs x env y S = .ok (some d) S2 := by
  simp only [compF, h1, h2, Res.bind_ok, if_true, h3]
theorem compF_none {own : List Nat} {ifs : List Ex} {x : Ex} {y : D} {env' : DL.Env} (h1 : bindT t y (wipeE env own) = some env') (h2 : evAll F ifs env' S = .ok false S1) : compF F own t ifs x env y S = .ok none S1 := by
  simp only [compF, h1, h2, Res.bind_ok, Bool.false_eq_true, if_false]
/-- a loop's body -/
def bodyF (F : FS) (t : Tg) (b : List Sm) : D → DL.Env → Store → Out := fun x env1 S3 => match bindT t x env1 with
  | none => .bad
  | some env2 => DL.execs F b env2 S3
theorem exec_frl {b : List Sm} {o : Out} (h1 : evs F its env S = .ok vs S1) (h2 : itemsV k vs S1 = .ok (items, g) S2) (h3 : forLoop g S2 (bodyF F t b) items env S2 = o) : DL.exec F (.frl t k its b) env S = o := by
  show Res.out env (evs F its env S) _ = o
  rw [h1, Res.out_ok]
  show Res.out env (itemsV k vs S1) _ = o
  rw [h2, Res.out_ok]
  exact h3
theorem bodyF_eq {b : List Sm} {x : D} {env2 : DL.Env} {o : Out} (h1 : bindT t x env = some env2) (h2 : DL.execs F b env2 S = o) : bodyF F t b x env S = o := by
  simp only [bodyF, h1, h2]
theorem execs_cons {a : Sm} {r : List Sm} {o : Out} {env' : DL.Env} (h : DL.exec F a env S = .nx env' S1) (h2 : DL.execs F r env' S1 = o) : DL.execs F (a :: r) env S = o := by
  show (DL.exec F a env S).seq _ = o
  rw [h]
  exact h2
theorem execs_nil : DL.execs F [] env S = .nx env S := rfl
theorem ev_blt1 {b : Blt} {m : Bool} {x : Ex} {d : D} {r : Res D} (h : DL.ev F x env S = .ok d S1) (h2 : bltV b m [d] S1 = r) : DL.ev F (.blt b m [x]) env S = r := by
  show (evs F [x] env S).bind _ = r
  have : evs F [x] env S = .ok [d] S1 := by
    show (DL.ev F x env S).bind _ = _
    rw [h]
    rfl
  rw [this]
  exact h2
theorem execs_ret {x : Ex} {d : D} {l : List Sm} (h : DL.ev F x env S = .ok d S1) : DL.execs F (.ret x :: l) env S = .rt d S1 := by
  show (Res.out env (DL.ev F x env S) _).seq _ = _
  rw [h]
  rfl
theorem exec_asg {t : Tg} {x : Ex} {d : D} {env' : DL.Env} (h : DL.ev F x env S = .ok d S1) (h2 : bindT t d env = some env') : DL.exec F (.asg t x) env S = .nx env' S1 := by
  show Res.out env (DL.ev F x env S) _ = _
  rw [h, Res.out_ok, h2]
theorem evs_cons {x : Ex} {l : List Ex} {d : D} {ds : List D} (h : DL.ev F x env S = .ok d S1) (h2 : evs F l env S1 = .ok ds S2) : evs F (x :: l) env S = .ok (d :: ds) S2 := by
  show (DL.ev F x env S).bind _ = _
  rw [h, Res.bind_ok, h2]
  rfl
theorem ev_iteT {t a b : Ex} {r : Res D} (h : DL.ev F t env S = .ok (.bool true) S1) (h2 : DL.ev F a env S1 = r) : DL.ev F (.ite t a b) env S = r := by
  show (DL.ev F t env S).test _ = r
  rw [h]
  exact h2
theorem ev_iteF {t a b : Ex} {r : Res D} (h : DL.ev F t env S = .ok (.bool false) S1) (h2 : DL.ev F b env S1 = r) : DL.ev F (.ite t a b) env S = r := by
  show (DL.ev F t env S).test _ = r
  rw [h]
  exact h2
theorem ev_binR {o : Operator} {m : Bool} {a b : Ex} {x y : D} {r : Res D} (h : DL.ev F a env S = .ok x S1) (h2 : DL.ev F b env S1 = .ok y S2) (h3 : binV o m x y S2 = r) : DL.ev F (.bin o m a b) env S = r := by
  show (DL.ev F a env S).bind _ = r
  rw [h, Res.bind_ok, h2]
  exact h3
theorem ev_cmpR {o : CmpOp} {a b : Ex} {x y : D} {r : Res D} (h : DL.ev F a env S = .ok x S1) (h2 : DL.ev F b env S1 = .ok y S2) (h3 : cmpV o x y S2 = r) : DL.ev F (.cmp o a b) env S = r := by
  show (DL.ev F a env S).bind _ = r
  rw [h, Res.bind_ok, h2]
  exact h3
theorem exec_ifT {t : Ex} {a b : List Sm} {o : Out} (h : DL.ev F t env S = .ok (.bool true) S1) (h2 : DL.execs F a env S1 = o) : DL.exec F (.ifs t a b) env S = o := by
  show Res.outB env (DL.ev F t env S) _ = o
  rw [h]
  exact h2
theorem exec_ifF {t : Ex} {a b : List Sm} {o : Out} (h : DL.ev F t env S = .ok (.bool false) S1) (h2 : DL.execs F b env S1 = o) : DL.exec F (.ifs t a b) env S = o := by
  show Res.outB env (DL.ev F t env S) _ = o
  rw [h]
  exact h2
theorem execs_rt {a : Sm} {r : List Sm} {d : D} (h : DL.exec F a env S = .rt d S1) : DL.execs F (a :: r) env S = .rt d S1 := by
  show (DL.exec F a env S).seq _ = _
  rw [h]
  rfl
theorem evs_nil : evs F [] env S = .ok [] S := rfl
end
end DL

set_option linter.all false
set_option maxRecDepth 100000
namespace K86
open PySem DL
/-- is_int: 0 value -/
def b_is_int : List Sm := [
  .ret (.and (.blt (.isT 0) false [(.v 0)]) (.not (.blt (.isT 1) false [(.v 0)])))]
def f_is_int : Fn := ⟨1, 1, b_is_int, true⟩
/-- is_number: 0 value 1 least 2 most -/
def b_is_number : List Sm := [
  .ret (.and (.call 0 [(.v 0)] []) (.and (.cmp .GtE (.v 0) (.v 1)) (.or (.cmp .Is (.v 2) (.c (.none))) (.cmp .LtE (.v 0) (.v 2)))))]
def f_is_number : Fn := ⟨3, 3, b_is_number, true⟩
/-- is_tuple: 0 value 1 many -/
def b_is_tuple : List Sm := [
  .ret (.and (.blt (.isT 2) false [(.v 0)]) (.or (.cmp .Is (.v 1) (.c (.none))) (.cmp .Eq (.blt .len false [(.v 0)]) (.v 1))))]
def f_is_tuple : Fn := ⟨2, 2, b_is_tuple, true⟩
/-- is_guest: 0 house 1 place 2 value 3 stage -/
def b_is_guest : List Sm := [
  .ifs (.or (.not (.call 2 [(.v 2), (.c (.int 2))] [])) (.or (.not (.call 1 [(.sub (.v 2) (.c (.int 0))), (.c (.int 0)), (.bin .Sub false (.blt .len false [(.sub (.v 0) (.c (.int 1)))]) (.c (.int 1)))] [])) (.not (.call 0 [(.sub (.v 2) (.c (.int 1)))] [])))) [
    .ret (.c (.bool false))] [],
  .asg (.nm 3) (.sub (.sub (.v 0) (.c (.int 1))) (.sub (.v 2) (.c (.int 0)))),
  .ret (.and (.cmp .Eq (.sub (.v 3) (.c (.int 0))) (.v 1)) (.cmp .In (.sub (.v 2) (.c (.int 1))) (.sub (.v 3) (.c (.int 1)))))]
def f_is_guest : Fn := ⟨4, 3, b_is_guest, true⟩
/-- wanted_place: 0 house 1 guest -/
def b_wanted_place : List Sm := [
  .ret (.ite (.cmp .Eq (.sub (.v 1) (.c (.int 1))) (.c (.int (-1)))) (.c (.none)) (.sub (.sub (.sub (.v 0) (.c (.int 1))) (.sub (.v 1) (.c (.int 1)))) (.c (.int 0))))]
def f_wanted_place : Fn := ⟨2, 2, b_wanted_place, true⟩
/-- has_room: 0 house 1 stand 2 place -/
def b_has_room : List Sm := [
  .ret (.cmp .Lt (.blt .len false [(.sub (.v 1) (.v 2))]) (.sub (.sub (.v 0) (.c (.int 0))) (.v 2)))]
def f_has_room : Fn := ⟨3, 3, b_has_room, true⟩
/-- can_go: 0 house 1 stand 2 guest 3 place -/
def b_can_go : List Sm := [
  .asg (.nm 3) (.call 4 [(.v 0), (.v 2)] []),
  .ret (.or (.cmp .Is (.v 3) (.c (.none))) (.call 5 [(.v 0), (.v 1), (.v 3)] []))]
def f_can_go : Fn := ⟨4, 3, b_can_go, true⟩
/-- tellings_of: 0 house 1 move 2 after -/
def b_tellings_of : List Sm := [
  .asg (.nm 2) (.sub (.sub (.v 1) (.c (.int 1))) (.c (.int 1))),
  .ret (.ite (.cmp .Eq (.v 2) (.c (.int (-1)))) (.tup [(.c (.int (-1)))]) (.sub (.sub (.sub (.v 0) (.c (.int 1))) (.v 2)) (.c (.int 1))))]
def f_tellings_of : Fn := ⟨3, 2, b_tellings_of, true⟩
/-- is_there: 0 house 1 stand 2 value -/
def b_is_there : List Sm := [
  .ifs (.or (.not (.call 2 [(.v 2), (.c (.int 2))] [])) (.not (.call 1 [(.sub (.v 2) (.c (.int 0))), (.c (.int 0)), (.bin .Sub false (.blt .len false [(.v 1)]) (.c (.int 1)))] []))) [
    .ret (.c (.bool false))] [],
  .ret (.and (.call 3 [(.v 0), (.sub (.v 2) (.c (.int 0))), (.sub (.v 2) (.c (.int 1)))] []) (.cmp .In (.sub (.v 2) (.c (.int 1))) (.sub (.v 1) (.sub (.v 2) (.c (.int 0))))))]
def f_is_there : Fn := ⟨3, 3, b_is_there, true⟩
/-- with_guests: 0 stand 1 place 2 guests -/
def b_with_guests : List Sm := [
  .ret (.bin .Add false (.bin .Add false (.slc false (.v 0) (.c .none) (.v 1)) (.tup [(.blt .tuple false [(.blt .sorted false [(.v 2)])])])) (.slc false (.v 0) (.bin .Add false (.v 1) (.c (.int 1))) (.c .none)))]
def f_with_guests : Fn := ⟨3, 3, b_with_guests, true⟩
/-- step_stand: 0 house 1 stand 2 move 3 told 4 place 5 guest 6 left 7 behind 8 goal -/
def b_step_stand : List Sm := [
  .ifs (.not (.call 8 [(.v 0), (.v 1), (.v 2)] [])) [
    .never] [],
  .asg (.tup [(.nm 4), (.nm 5)]) (.v 2),
  .ifs (.not (.call 6 [(.v 0), (.v 1), (.v 5)] [])) [
    .never] [],
  .ifs (.or (.not (.call 0 [(.v 3)] [])) (.cmp .NotIn (.v 3) (.call 7 [(.v 0), (.v 2)] []))) [
    .never] [],
  .asg (.nm 6) (.blt .list true [(.sub (.v 1) (.v 4))]),
  .exp (.mth .remove (.v 6) [(.v 5)]),
  .asg (.nm 7) (.call 9 [(.v 1), (.v 4), (.v 6)] []),
  .ifs (.cmp .Eq (.sub (.v 5) (.c (.int 1))) (.c (.int (-1)))) [
    .ret (.v 7)] [],
  .asg (.nm 8) (.call 4 [(.v 0), (.v 5)] []),
  .ret (.call 9 [(.v 7), (.v 8), (.bin .Add false (.blt .list false [(.sub (.v 7) (.v 8))]) (.lst false [(.tup [(.sub (.v 5) (.c (.int 1))), (.v 3)])]))] [])]
def f_step_stand : Fn := ⟨9, 4, b_step_stand, true⟩
/-- come_in: 0 house 1 stand 2 stage 3 told 4 place 5 nexts -/
def b_come_in : List Sm := [
  .ifs (.not (.call 1 [(.v 2), (.c (.int 0)), (.bin .Sub false (.blt .len false [(.sub (.v 0) (.c (.int 1)))]) (.c (.int 1)))] [])) [
    .never] [],
  .asg (.tup [(.nm 4), (.nm 5)]) (.sub (.sub (.v 0) (.c (.int 1))) (.v 2)),
  .ifs (.not (.call 5 [(.v 0), (.v 1), (.v 4)] [])) [
    .never] [],
  .ifs (.or (.not (.call 0 [(.v 3)] [])) (.cmp .NotIn (.v 3) (.v 5))) [
    .never] [],
  .ret (.call 9 [(.v 1), (.v 4), (.bin .Add false (.blt .list false [(.sub (.v 1) (.v 4))]) (.lst false [(.tup [(.v 2), (.v 3)])]))] [])]
def f_come_in : Fn := ⟨6, 4, b_come_in, true⟩
/-- empty_stand: 0 house 1 seats -/
def b_empty_stand : List Sm := [
  .ret (.blt .tuple false [(.comp false [1] (.nm 1) .val [(.sub (.v 0) (.c (.int 0)))] [] (.tup []))])]
def f_empty_stand : Fn := ⟨2, 1, b_empty_stand, true⟩
/-- stand_behind: 0 house 1 stand 2 row -/
def b_stand_behind : List Sm := [
  .ifs (.cmp .Eq (.sub (.v 2) (.c (.int 0))) (.c (.str "come"))) [
    .ret (.call 11 [(.v 0), (.v 1), (.sub (.v 2) (.c (.int 1))), (.sub (.v 2) (.c (.int 2)))] [])] [],
  .ret (.call 10 [(.v 0), (.v 1), (.tup [(.sub (.v 2) (.c (.int 1))), (.sub (.v 2) (.c (.int 2)))]), (.sub (.v 2) (.c (.int 3)))] [])]
def f_stand_behind : Fn := ⟨3, 3, b_stand_behind, true⟩
/-- replayed_stand: 0 house 1 rows 2 stand 3 row -/
def b_replayed_stand : List Sm := [
  .asg (.nm 2) (.call 12 [(.v 0)] []),
  .frl (.nm 3) .val [(.v 1)] [
    .asg (.nm 2) (.call 13 [(.v 0), (.v 2), (.v 3)] [])],
  .ret (.v 2)]
def f_replayed_stand : Fn := ⟨4, 2, b_replayed_stand, true⟩
/-- known_guests: 0 house 1 rows 2 kept 3 known 4 guests 5 row -/
def b_known_guests : List Sm := [
  .asg (.nm 3) (.comp false [4] (.nm 4) .val [(.call 14 [(.v 0), (.slc false (.v 1) (.c .none) (.v 2))] [])] [] (.blt .list true [(.v 4)])),
  .frl (.nm 5) .val [(.slc false (.v 1) (.v 2) (.c .none))] [
    .ifs (.and (.cmp .Eq (.sub (.v 5) (.c (.int 0))) (.c (.str "move"))) (.cmp .In (.sub (.v 5) (.c (.int 2))) (.sub (.v 3) (.sub (.v 5) (.c (.int 1)))))) [
      .exp (.mth .remove (.sub (.v 3) (.sub (.v 5) (.c (.int 1)))) [(.sub (.v 5) (.c (.int 2)))])] []],
  .ret (.blt .tuple false [(.comp false [4] (.nm 4) .val [(.v 3)] [] (.blt .tuple false [(.v 4)]))])]
def f_known_guests : Fn := ⟨6, 3, b_known_guests, true⟩
/-- found_guests: 0 guests 1 known 2 left 3 found 4 guest -/
def b_found_guests : List Sm := [
  .asg (.tup [(.nm 2), (.nm 3)]) (.tup [(.blt .list true [(.v 1)]), (.lst true [])]),
  .frl (.nm 4) .val [(.v 0)] [
    .ifs (.cmp .In (.v 4) (.v 2)) [
      .exp (.mth .remove (.v 2) [(.v 4)]),
      .exp (.mth .append (.v 3) [(.v 4)])] [
      .exp (.mth .append (.v 3) [(.tup [(.sub (.v 4) (.c (.int 0))), (.c (.int (-2)))])])]],
  .ret (.blt .tuple false [(.blt .sorted false [(.v 3)])])]
def f_found_guests : Fn := ⟨5, 2, b_found_guests, true⟩
/-- found_stand: 0 house 1 rows 2 kept 3 known 4 stand 5 guests 6 some -/
def b_found_stand : List Sm := [
  .asg (.nm 3) (.call 15 [(.v 0), (.v 1), (.v 2)] []),
  .asg (.nm 4) (.call 14 [(.v 0), (.v 1)] []),
  .ret (.blt .tuple false [(.comp false [5, 6] (.tup [(.nm 5), (.nm 6)]) .zip [(.v 4), (.v 3)] [] (.call 16 [(.v 5), (.v 6)] []))])]
def f_found_stand : Fn := ⟨7, 3, b_found_stand, true⟩
/-- _law_box: 0 script 1 k 2 cell 3 great -/
def b__law_box : List Sm := [
  .asg (.nm 2) (.bin .Add false (.bin .Mult false (.c (.int 19073)) (.v 1)) (.c (.int 9461))),
  .ifs (.cmp .Lt (.v 1) (.blt .len false [(.v 0)])) [
    .asg (.nm 2) (.blt .abs false [(.blt .int false [(.sub (.v 0) (.v 1))])])] [
    .ifs (.cmp .Gt (.blt .len false [(.v 0)]) (.c (.int 0))) [
      .asg (.nm 2) (.bin .Add false (.v 2) (.bin .Mult false (.bin .Mod false (.blt .int false [(.blt .abs false [(.blt .int false [(.sub (.v 0) (.bin .Mod false (.blt .int false [(.v 1)]) (.blt .len false [(.v 0)])))])])]) (.c (.int 2147483563))) (.c (.int 88469))))] []],
  .asg (.nm 3) (.ite (.cmp .GtE (.v 2) (.bin .Pow false (.c (.int 10)) (.c (.int 18)))) (.v 2) (.c (.int 0))),
  .ret (.lst true [(.v 3), (.bin .Add false (.bin .Mod false (.blt .int false [(.bin .Add false (.bin .Mult false (.bin .Mod false (.blt .int false [(.v 2)]) (.c (.int 2147483563))) (.c (.int 54250003))) (.bin .Mult false (.c (.int 9461)) (.v 1)))]) (.c (.int 2147483563))) (.c (.int 1)))])]
def f__law_box : Fn := ⟨4, 2, b__law_box, false⟩
/-- _law_take: 0 box 1 many 2 digit 3 raw -/
def b__law_take : List Sm := [
  .ifs (.cmp .Gt (.sub (.v 0) (.c (.int 0))) (.c (.int 0))) [
    .asg (.nm 2) (.bin .Mod false (.blt .int false [(.sub (.v 0) (.c (.int 0)))]) (.v 1)),
    .setS (.v 0) (.c (.int 0)) (.bin .FloorDiv false (.sub (.v 0) (.c (.int 0))) (.v 1)),
    .ret (.v 2)] [],
  .asg (.nm 3) (.bin .Mod false (.blt .int false [(.bin .Add false (.bin .Mult false (.sub (.v 0) (.c (.int 1))) (.c (.int 39373))) (.c (.int 101)))]) (.c (.int 2147483647))),
  .setS (.v 0) (.c (.int 1)) (.bin .Add false (.bin .Mod false (.blt .int false [(.bin .Add false (.bin .Mult false (.v 3) (.c (.int 40692))) (.c (.int 17)))]) (.c (.int 2147483563))) (.c (.int 1))),
  .ret (.bin .Mod false (.blt .int false [(.bin .FloorDiv false (.bin .Add false (.bin .Mult false (.v 3) (.c (.int 2147483629))) (.sub (.v 0) (.c (.int 1)))) (.c (.int 8233)))]) (.v 1))]
def f__law_take : Fn := ⟨4, 2, b__law_take, true⟩
/-- _law_pick: 0 box 1 some -/
def b__law_pick : List Sm := [
  .ret (.sub (.v 1) (.call 19 [(.v 0), (.blt .len false [(.v 1)])] []))]
def f__law_pick : Fn := ⟨2, 2, b__law_pick, true⟩
/-- _law_same: 0 told 1 due 2 one 3 other -/
def b__law_same : List Sm := [
  .ifs (.blt (.isT 2) false [(.v 1)]) [
    .ifs (.or (.not (.blt (.isT 2) false [(.v 0)])) (.cmp .NotEq (.blt .len false [(.v 0)]) (.blt .len false [(.v 1)]))) [
      .ret (.c (.bool false))] [],
    .frl (.tup [(.nm 2), (.nm 3)]) .zip [(.v 0), (.v 1)] [
      .ifs (.not (.call 21 [(.v 2), (.v 3)] [])) [
        .ret (.c (.bool false))] []],
    .ret (.c (.bool true))] [],
  .ifs (.cmp .Is (.v 1) (.c (.none))) [
    .ret (.cmp .Is (.v 0) (.c (.none)))] [],
  .ifs (.or (.cmp .Is (.v 1) (.c (.bool true))) (.cmp .Is (.v 1) (.c (.bool false)))) [
    .ret (.and (.blt (.isT 1) false [(.v 0)]) (.cmp .Eq (.v 0) (.v 1)))] [],
  .ifs (.blt (.isT 0) false [(.v 1)]) [
    .ret (.and (.blt (.isT 0) false [(.v 0)]) (.and (.not (.blt (.isT 1) false [(.v 0)])) (.cmp .Eq (.v 0) (.v 1))))] [],
  .ret (.and (.blt (.isT 3) false [(.v 0)]) (.and (.blt (.isT 3) false [(.v 1)]) (.cmp .Eq (.v 0) (.v 1))))]
def f__law_same : Fn := ⟨4, 2, b__law_same, true⟩
/-- _law_some: 0 box 1 pool 2 least 3 left 4 found 5 turn -/
def b__law_some : List Sm := [
  .asg (.tup [(.nm 3), (.nm 4)]) (.tup [(.blt .list true [(.v 1)]), (.lst true [])]),
  .frl (.nm 5) .rng1 [(.bin .Add false (.v 2) (.call 19 [(.v 0), (.bin .Add false (.bin .Sub false (.blt .len false [(.v 1)]) (.v 2)) (.c (.int 1)))] []))] [
    .exp (.mth .append (.v 4) [(.mth .popAt (.v 3) [(.call 19 [(.v 0), (.blt .len false [(.v 3)])] [])])])],
  .ret (.blt .tuple false [(.blt .sorted false [(.v 4)])])]
def f__law_some : Fn := ⟨6, 3, b__law_some, true⟩
/-- _law_house: 0 box 1 places 2 most 3 stages 4 seats 5 place 6 spots 7 stage 8 found 9 own 10 pool 11 few 12 way 13 turn -/
def b__law_house : List Sm := [
  .asg (.nm 4) (.blt .tuple false [(.comp false [5] (.nm 5) .rng1 [(.v 1)] [] (.bin .Add false (.c (.int 1)) (.call 19 [(.v 0), (.v 2)] [])))]),
  .asg (.nm 6) (.comp false [7] (.nm 7) .rng1 [(.v 3)] [] (.call 19 [(.v 0), (.v 1)] [])),
  .asg (.nm 8) (.lst true []),
  .frl (.nm 9) .val [(.v 6)] [
    .asg (.nm 10) (.bin .Add false (.lst false [(.neg (.c (.int 1)))]) (.comp false [7, 5] (.tup [(.nm 7), (.nm 5)]) .enum [(.v 6)] [(.cmp .NotEq (.v 5) (.v 9))] (.v 7))),
    .asg (.nm 11) (.call 22 [(.v 0), (.v 10), (.c (.int 1))] []),
    .asg (.nm 12) (.call 19 [(.v 0), (.c (.int 3))] []),
    .exp (.mth .append (.v 8) [(.tup [(.v 9), (.ite (.cmp .Eq (.v 12) (.c (.int 0))) (.v 11) (.blt .tuple false [(.blt .sortset false [(.comp false [13] (.nm 13) .rng1 [(.bin .Add false (.c (.int 1)) (.v 12))] [] (.call 20 [(.v 0), (.v 10)] []))])]))])])],
  .ret (.tup [(.v 4), (.blt .tuple false [(.v 8)])])]
def f__law_house : Fn := ⟨14, 4, b__law_house, true⟩
/-- _law_goes: 0 house 1 stand 2 guest -/
def b__law_goes : List Sm := [
  .ret (.or (.cmp .Eq (.sub (.v 2) (.c (.int 1))) (.neg (.c (.int 1)))) (.cmp .Lt (.blt .len false [(.sub (.v 1) (.sub (.sub (.sub (.v 0) (.c (.int 1))) (.sub (.v 2) (.c (.int 1)))) (.c (.int 0))))]) (.sub (.sub (.v 0) (.c (.int 0))) (.sub (.sub (.sub (.v 0) (.c (.int 1))) (.sub (.v 2) (.c (.int 1)))) (.c (.int 0))))))]
def f__law_goes : Fn := ⟨3, 3, b__law_goes, true⟩
/-- _law_moves: 0 house 1 stand 2 found 3 place 4 guests 5 guest -/
def b__law_moves : List Sm := [
  .asg (.nm 2) (.lst true []),
  .frl (.tup [(.nm 3), (.nm 4)]) .enum [(.v 1)] [
    .frl (.nm 5) .val [(.v 4)] [
      .ifs (.and (.call 24 [(.v 0), (.v 1), (.v 5)] []) (.cmp .NotIn (.tup [(.v 3), (.v 5)]) (.v 2))) [
        .exp (.mth .append (.v 2) [(.tup [(.v 3), (.v 5)])])] []]],
  .ret (.blt .sorted false [(.v 2)])]
def f__law_moves : Fn := ⟨6, 2, b__law_moves, true⟩
/-- _law_tellings: 0 house 1 move -/
def b__law_tellings : List Sm := [
  .ret (.ite (.cmp .Eq (.sub (.sub (.v 1) (.c (.int 1))) (.c (.int 1))) (.neg (.c (.int 1)))) (.lst false [(.neg (.c (.int 1)))]) (.blt .list false [(.sub (.sub (.sub (.v 0) (.c (.int 1))) (.sub (.sub (.v 1) (.c (.int 1))) (.c (.int 1)))) (.c (.int 1)))]))]
def f__law_tellings : Fn := ⟨2, 2, b__law_tellings, true⟩
/-- _law_behind: 0 house 1 stand 2 move 3 told 4 rows 5 place 6 guest 7 guests 8 row -/
def b__law_behind : List Sm := [
  .asg (.tup [(.nm 4), (.nm 5), (.nm 6)]) (.tup [(.comp false [7] (.nm 7) .val [(.v 1)] [] (.blt .list true [(.v 7)])), (.sub (.v 2) (.c (.int 0))), (.sub (.v 2) (.c (.int 1)))]),
  .exp (.mth .remove (.sub (.v 4) (.v 5)) [(.v 6)]),
  .ifs (.cmp .NotEq (.sub (.v 6) (.c (.int 1))) (.neg (.c (.int 1)))) [
    .exp (.mth .append (.sub (.v 4) (.sub (.sub (.sub (.v 0) (.c (.int 1))) (.sub (.v 6) (.c (.int 1)))) (.c (.int 0)))) [(.tup [(.sub (.v 6) (.c (.int 1))), (.v 3)])])] [],
  .ret (.blt .tuple false [(.comp false [8] (.nm 8) .val [(.v 4)] [] (.blt .tuple false [(.blt .sorted false [(.v 8)])]))])]
def f__law_behind : Fn := ⟨9, 4, b__law_behind, true⟩
/-- _law_rows: 0 box 1 house 2 most 3 guests 4 stand 5 rows 6 seats 7 turn 8 moves 9 free 10 stage 11 told 12 row 13 place 14 move -/
def b__law_rows : List Sm := [
  .asg (.tup [(.nm 4), (.nm 5)]) (.tup [(.blt .tuple false [(.comp false [6] (.nm 6) .val [(.sub (.v 1) (.c (.int 0)))] [] (.tup []))]), (.lst true [])]),
  .frl (.nm 7) .rng1 [(.v 2)] [
    .asg (.nm 8) (.call 25 [(.v 1), (.v 4)] []),
    .asg (.nm 9) (.comp false [10, 11] (.tup [(.nm 10), (.nm 11)]) .enum [(.sub (.v 1) (.c (.int 1)))] [(.cmp .Lt (.blt .len false [(.sub (.v 4) (.sub (.v 11) (.c (.int 0))))]) (.sub (.sub (.v 1) (.c (.int 0))) (.sub (.v 11) (.c (.int 0)))))] (.v 10)),
    .ifs (.cmp .GtE (.blt .sum false [(.comp false [12] (.nm 12) .val [(.v 4)] [] (.blt .len false [(.v 12)]))]) (.v 3)) [
      .asg (.nm 9) (.lst false [])] [],
    .ifs (.and (.cmp .Gt (.blt .len false [(.v 9)]) (.c (.int 0))) (.or (.cmp .Eq (.blt .len false [(.v 8)]) (.c (.int 0))) (.cmp .Eq (.call 19 [(.v 0), (.c (.int 2))] []) (.c (.int 0))))) [
      .asg (.nm 10) (.call 20 [(.v 0), (.v 9)] []),
      .asg (.tup [(.nm 11), (.nm 13)]) (.tup [(.call 20 [(.v 0), (.sub (.sub (.sub (.v 1) (.c (.int 1))) (.v 10)) (.c (.int 1)))] []), (.sub (.sub (.sub (.v 1) (.c (.int 1))) (.v 10)) (.c (.int 0)))]),
      .exp (.mth .append (.v 5) [(.tup [(.c (.str "come")), (.v 10), (.v 11)])]),
      .asg (.nm 4) (.bin .Add false (.bin .Add false (.slc false (.v 4) (.c .none) (.v 13)) (.tup [(.blt .tuple false [(.blt .sorted false [(.bin .Add false (.sub (.v 4) (.v 13)) (.tup [(.tup [(.v 10), (.v 11)])]))])])])) (.slc false (.v 4) (.bin .Add false (.v 13) (.c (.int 1))) (.c .none)))] [
      .ifs (.cmp .Gt (.blt .len false [(.v 8)]) (.c (.int 0))) [
        .asg (.nm 14) (.call 20 [(.v 0), (.v 8)] []),
        .asg (.nm 11) (.call 20 [(.v 0), (.call 26 [(.v 1), (.v 14)] [])] []),
        .exp (.mth .append (.v 5) [(.tup [(.c (.str "move")), (.sub (.v 14) (.c (.int 0))), (.sub (.v 14) (.c (.int 1))), (.v 11)])]),
        .asg (.nm 4) (.call 27 [(.v 1), (.v 4), (.v 14), (.v 11)] [])] [
        .brk]]],
  .ret (.v 5)]
def f__law_rows : Fn := ⟨15, 4, b__law_rows, true⟩
/-- _law_found: 0 house 1 rows 2 kept 3 line 4 seats 5 number 6 row 7 here 8 guest -/
def b__law_found : List Sm := [
  .asg (.nm 3) (.comp false [4] (.nm 4) .val [(.sub (.v 0) (.c (.int 0)))] [] (.lst true [])),
  .frl (.tup [(.nm 5), (.nm 6)]) .enum [(.v 1)] [
    .ifs (.cmp .Eq (.sub (.v 6) (.c (.int 0))) (.c (.str "come"))) [
      .exp (.mth .append (.sub (.v 3) (.sub (.sub (.sub (.v 0) (.c (.int 1))) (.sub (.v 6) (.c (.int 1)))) (.c (.int 0)))) [(.tup [(.sub (.v 6) (.c (.int 1))), (.sub (.v 6) (.c (.int 2))), (.cmp .Lt (.v 5) (.v 2))])])] [
      .asg (.nm 7) (.comp false [8] (.nm 8) .val [(.sub (.v 3) (.sub (.v 6) (.c (.int 1))))] [] (.slc false (.v 8) (.c .none) (.c (.int 2)))),
      .exp (.mth .popAt (.sub (.v 3) (.sub (.v 6) (.c (.int 1)))) [(.mth .index (.v 7) [(.sub (.v 6) (.c (.int 2)))])]),
      .ifs (.cmp .NotEq (.sub (.sub (.v 6) (.c (.int 2))) (.c (.int 1))) (.neg (.c (.int 1)))) [
        .exp (.mth .append (.sub (.v 3) (.sub (.sub (.sub (.v 0) (.c (.int 1))) (.sub (.sub (.v 6) (.c (.int 2))) (.c (.int 1)))) (.c (.int 0)))) [(.tup [(.sub (.sub (.v 6) (.c (.int 2))) (.c (.int 1))), (.sub (.v 6) (.c (.int 3))), (.cmp .Lt (.v 5) (.v 2))])])] []]],
  .ret (.v 3)]
def f__law_found : Fn := ⟨9, 3, b__law_found, true⟩
/-- _law_late: 0 line 1 guest 2 guests -/
def b__law_late : List Sm := [
  .ret (.blt .tuple false [(.comp false [2] (.nm 2) .val [(.v 0)] [] (.blt .tuple false [(.blt .sorted false [(.comp false [1] (.nm 1) .val [(.v 2)] [] (.tup [(.sub (.v 1) (.c (.int 0))), (.ite (.sub (.v 1) (.c (.int 2))) (.sub (.v 1) (.c (.int 1))) (.neg (.c (.int 2))))]))])]))])]
def f__law_late : Fn := ⟨3, 1, b__law_late, true⟩
/-- _law_known: 0 late 1 guest 2 guests -/
def b__law_known : List Sm := [
  .ret (.blt .sum false [(.comp false [2] (.nm 2) .val [(.v 0)] [] (.blt .len false [(.comp false [1] (.nm 1) .val [(.v 2)] [(.cmp .NotEq (.sub (.v 1) (.c (.int 1))) (.neg (.c (.int 2))))] (.v 1))]))])]
def f__law_known : Fn := ⟨3, 1, b__law_known, true⟩
/-- _law_right: 0 house 1 rows 2 cuts 3 last 4 kept 5 due -/
def b__law_right : List Sm := [
  .asg (.nm 3) (.c (.int 0)),
  .frl (.nm 4) .val [(.v 2)] [
    .asg (.nm 5) (.call 30 [(.call 29 [(.v 0), (.v 1), (.v 4)] [])] []),
    .ifs (.or (.not (.call 21 [(.call 17 [(.v 0), (.blt .tuple false [(.v 1)]), (.v 4)] []), (.v 5)] [])) (.cmp .Lt (.call 31 [(.v 5)] []) (.v 3))) [
      .ret (.c (.bool false))] [],
    .asg (.nm 3) (.call 31 [(.v 5)] [])],
  .ret (.call 21 [(.call 17 [(.v 0), (.blt .tuple false [(.v 1)]), (.blt .len false [(.v 1)])] []), (.call 14 [(.v 0), (.blt .tuple false [(.v 1)])] [])] [])]
def f__law_right : Fn := ⟨6, 3, b__law_right, true⟩
/-- law: 0 script 1 ward 2 rows 3 alike 4 k 5 box 6 house 7 cuts 8 turn 9 late -/
def b_law : List Sm := [
  .asg (.nm 1) (.tup [(.tup [(.c (.int 1)), (.c (.int 2)), (.c (.int 1))]), (.tup [(.tup [(.c (.int 0)), (.tup [(.c (.int 1)), (.c (.int 2))])]), (.tup [(.c (.int 1)), (.tup [(.c (.int 3))])]), (.tup [(.c (.int 2)), (.tup [(.neg (.c (.int 1))), (.c (.int 1))])]), (.tup [(.c (.int 0)), (.tup [(.neg (.c (.int 1)))])])])]),
  .asg (.nm 2) (.lst false [(.tup [(.c (.str "come")), (.c (.int 0)), (.c (.int 1))]), (.tup [(.c (.str "move")), (.c (.int 0)), (.tup [(.c (.int 0)), (.c (.int 1))]), (.c (.int 3))]), (.tup [(.c (.str "come")), (.c (.int 0)), (.c (.int 2))]), (.tup [(.c (.str "come")), (.c (.int 1)), (.c (.int 3))])]),
  .asg (.nm 3) (.lst false [(.tup [(.c (.str "come")), (.c (.int 1)), (.c (.int 3))]), (.tup [(.c (.str "come")), (.c (.int 1)), (.c (.int 3))]), (.tup [(.c (.str "move")), (.c (.int 1)), (.tup [(.c (.int 1)), (.c (.int 3))]), (.neg (.c (.int 1)))]), (.tup [(.c (.str "come")), (.c (.int 1)), (.c (.int 3))]), (.tup [(.c (.str "move")), (.c (.int 0)), (.tup [(.c (.int 3)), (.neg (.c (.int 1)))]), (.neg (.c (.int 1)))]), (.tup [(.c (.str "move")), (.c (.int 1)), (.tup [(.c (.int 1)), (.c (.int 3))]), (.neg (.c (.int 1)))])]),
  .ifs (.or (.not (.call 32 [(.v 1), (.v 2), (.lst false [(.c (.int 0)), (.c (.int 1)), (.c (.int 2)), (.c (.int 3)), (.c (.int 4))])] [])) (.not (.call 32 [(.v 1), (.v 3), (.blt .lrng1 false [(.c (.int 7))])] []))) [
    .ret (.c (.bool false))] [],
  .frl (.nm 4) .rng1 [(.blt .max2 false [(.c (.int 4)), (.blt .min2 false [(.blt .len false [(.v 0)]), (.c (.int 8))])])] [
    .asg (.nm 5) (.call 18 [(.v 0), (.v 4)] []),
    .asg (.nm 6) (.ite (.cmp .NotEq (.v 4) (.c (.int 2))) (.call 23 [(.v 5), (.bin .Add false (.c (.int 2)) (.call 19 [(.v 5), (.c (.int 3))] [])), (.c (.int 3)), (.bin .Add false (.c (.int 2)) (.call 19 [(.v 5), (.c (.int 5))] []))] []) (.call 23 [(.v 5), (.c (.int 10)), (.c (.int 6)), (.c (.int 24))] [])),
    .asg (.nm 2) (.call 28 [(.v 5), (.v 6), (.ite (.cmp .Eq (.v 4) (.c (.int 2))) (.c (.int 200)) (.call 20 [(.v 5), (.lst false [(.c (.int 6)), (.c (.int 12)), (.c (.int 24))])] [])), (.c (.int 40))] []),
    .asg (.nm 7) (.ite (.cmp .Eq (.v 4) (.c (.int 2))) (.blt .sorted false [(.comp false [8] (.nm 8) .rng1 [(.c (.int 3))] [] (.call 19 [(.v 5), (.bin .Add false (.blt .len false [(.v 2)]) (.c (.int 1)))] []))]) (.blt .lrng1 false [(.bin .Add false (.blt .len false [(.v 2)]) (.c (.int 1)))])),
    .ifs (.not (.call 32 [(.v 6), (.v 2), (.v 7)] [])) [
      .ret (.c (.bool false))] []],
  .asg (.nm 9) (.tup [(.tup [(.tup [(.c (.int 0)), (.c (.int 2))])]), (.tup [(.tup [(.c (.int 1)), (.neg (.c (.int 2)))]), (.tup [(.c (.int 1)), (.c (.int 3))])]), (.tup [])]),
  .ret (.call 21 [(.call 17 [(.v 1), (.tup [(.tup [(.c (.str "come")), (.c (.int 0)), (.c (.int 1))]), (.tup [(.c (.str "move")), (.c (.int 0)), (.tup [(.c (.int 0)), (.c (.int 1))]), (.c (.int 3))]), (.tup [(.c (.str "come")), (.c (.int 0)), (.c (.int 2))]), (.tup [(.c (.str "come")), (.c (.int 1)), (.c (.int 3))])]), (.c (.int 3))] []), (.v 9)] [])]
def f_law : Fn := ⟨10, 1, b_law, true⟩
/-- is_among: 0 value 1 row -/
def b_is_among : List Sm := [
  .ret (.and (.blt (.isT 3) false [(.v 0)]) (.cmp .In (.v 0) (.v 1)))]
def f_is_among : Fn := ⟨2, 2, b_is_among, true⟩
/-- is_row: 0 value -/
def b_is_row : List Sm := [
  .ifs (.or (.not (.blt (.isT 2) false [(.v 0)])) (.or (.cmp .Eq (.blt .len false [(.v 0)]) (.c (.int 0))) (.not (.call 34 [(.sub (.v 0) (.c (.int 0))), (.c (.tuple [.str "come", .str "move"]))] [])))) [
    .ret (.c (.bool false))] [],
  .ret (.call 2 [(.v 0), (.kd [("come", .int 3), ("move", .int 4)] (.sub (.v 0) (.c (.int 0))))] [])]
def f_is_row : Fn := ⟨1, 1, b_is_row, true⟩
/-- check_rows: 0 house 1 value 2 stand 3 number 4 row -/
def b_check_rows : List Sm := [
  .ifs (.not (.blt (.isT 2) false [(.v 1)])) [
    .never] [],
  .asg (.nm 2) (.call 12 [(.v 0)] []),
  .frl (.tup [(.nm 3), (.nm 4)]) .enum [(.v 1)] [
    .ifs (.not (.call 35 [(.v 4)] [])) [
      .never] [],
    .try0 [
      .asg (.nm 2) (.call 13 [(.v 0), (.v 2), (.v 4)] [])]],
  .ret (.v 1)]
def f_check_rows : Fn := ⟨5, 2, b_check_rows, true⟩
/-- _law_box: 0 script 1 k 2 cell 3 great -/
def b__law_box_k85 : List Sm := [
  .asg (.nm 2) (.bin .Add false (.bin .Mult false (.c (.int 19069)) (.v 1)) (.c (.int 9439))),
  .ifs (.cmp .Lt (.v 1) (.blt .len false [(.v 0)])) [
    .asg (.nm 2) (.blt .abs false [(.blt .int false [(.sub (.v 0) (.v 1))])])] [
    .ifs (.cmp .Gt (.blt .len false [(.v 0)]) (.c (.int 0))) [
      .asg (.nm 2) (.bin .Add false (.v 2) (.bin .Mult false (.bin .Mod false (.blt .int false [(.blt .abs false [(.blt .int false [(.sub (.v 0) (.bin .Mod false (.blt .int false [(.v 1)]) (.blt .len false [(.v 0)])))])])]) (.c (.int 2147483563))) (.c (.int 88463))))] []],
  .asg (.nm 3) (.ite (.cmp .GtE (.v 2) (.bin .Pow false (.c (.int 10)) (.c (.int 18)))) (.v 2) (.c (.int 0))),
  .ret (.lst true [(.v 3), (.bin .Add false (.bin .Mod false (.blt .int false [(.bin .Add false (.bin .Mult false (.bin .Mod false (.blt .int false [(.v 2)]) (.c (.int 2147483563))) (.c (.int 54250003))) (.bin .Mult false (.c (.int 9439)) (.v 1)))]) (.c (.int 2147483563))) (.c (.int 1)))])]
def f__law_box_k85 : Fn := ⟨4, 2, b__law_box_k85, false⟩
/-- _law_next: 0 house 1 stand 2 row 3 place -/
def b__law_next : List Sm := [
  .ifs (.cmp .Eq (.sub (.v 2) (.c (.int 0))) (.c (.str "move"))) [
    .ret (.call 27 [(.v 0), (.v 1), (.tup [(.sub (.v 2) (.c (.int 1))), (.sub (.v 2) (.c (.int 2)))]), (.sub (.v 2) (.c (.int 3)))] [])] [],
  .asg (.nm 3) (.sub (.sub (.sub (.v 0) (.c (.int 1))) (.sub (.v 2) (.c (.int 1)))) (.c (.int 0))),
  .ret (.bin .Add false (.bin .Add false (.slc false (.v 1) (.c .none) (.v 3)) (.tup [(.blt .tuple false [(.blt .sorted false [(.bin .Add false (.sub (.v 1) (.v 3)) (.tup [(.tup [(.sub (.v 2) (.c (.int 1))), (.sub (.v 2) (.c (.int 2)))])]))])])])) (.slc false (.v 1) (.bin .Add false (.v 3) (.c (.int 1))) (.c .none)))]
def f__law_next : Fn := ⟨4, 3, b__law_next, true⟩
/-- _law_right: 0 house 1 rows 2 every 3 stand 4 seats 5 number 6 row -/
def b__law_right_k85 : List Sm := [
  .asg (.nm 3) (.blt .tuple false [(.comp false [4] (.nm 4) .val [(.sub (.v 0) (.c (.int 0)))] [] (.tup []))]),
  .ifs (.or (.not (.call 21 [(.call 14 [(.v 0), (.tup [])] []), (.v 3)] [])) (.not (.call 21 [(.call 36 [(.v 0), (.blt .tuple false [(.v 1)])] []), (.blt .tuple false [(.v 1)])] []))) [
    .ret (.c (.bool false))] [],
  .frl (.tup [(.nm 5), (.nm 6)]) .enum [(.v 1)] [
    .asg (.nm 3) (.call 38 [(.v 0), (.v 3), (.v 6)] []),
    .ifs (.and (.or (.cmp .Eq (.bin .Mod false (.blt .int false [(.v 5)]) (.v 2)) (.c (.int 0))) (.cmp .Eq (.bin .Add false (.v 5) (.c (.int 1))) (.blt .len false [(.v 1)]))) (.not (.call 21 [(.call 14 [(.v 0), (.blt .tuple false [(.slc false (.v 1) (.c .none) (.bin .Add false (.v 5) (.c (.int 1))))])] []), (.v 3)] []))) [
      .ret (.c (.bool false))] []],
  .ret (.c (.bool true))]
def f__law_right_k85 : Fn := ⟨7, 3, b__law_right_k85, true⟩
/-- law: 0 script 1 ward 2 rows 3 k 4 box 5 house -/
def b_law_k85 : List Sm := [
  .asg (.nm 1) (.tup [(.tup [(.c (.int 1)), (.c (.int 2)), (.c (.int 1))]), (.tup [(.tup [(.c (.int 0)), (.tup [(.c (.int 1)), (.c (.int 2))])]), (.tup [(.c (.int 1)), (.tup [(.c (.int 3))])]), (.tup [(.c (.int 2)), (.tup [(.neg (.c (.int 1))), (.c (.int 1))])]), (.tup [(.c (.int 0)), (.tup [(.neg (.c (.int 1)))])])])]),
  .asg (.nm 2) (.lst false [(.tup [(.c (.str "come")), (.c (.int 0)), (.c (.int 1))]), (.tup [(.c (.str "move")), (.c (.int 0)), (.tup [(.c (.int 0)), (.c (.int 1))]), (.c (.int 3))]), (.tup [(.c (.str "come")), (.c (.int 0)), (.c (.int 2))]), (.tup [(.c (.str "come")), (.c (.int 1)), (.c (.int 3))]), (.tup [(.c (.str "move")), (.c (.int 0)), (.tup [(.c (.int 0)), (.c (.int 2))]), (.neg (.c (.int 1)))]), (.tup [(.c (.str "move")), (.c (.int 2)), (.tup [(.c (.int 2)), (.neg (.c (.int 1)))]), (.neg (.c (.int 1)))]), (.tup [(.c (.str "move")), (.c (.int 1)), (.tup [(.c (.int 1)), (.c (.int 3))]), (.neg (.c (.int 1)))]), (.tup [(.c (.str "move")), (.c (.int 0)), (.tup [(.c (.int 3)), (.neg (.c (.int 1)))]), (.neg (.c (.int 1)))])]),
  .ifs (.or (.not (.call 39 [(.v 1), (.v 2), (.c (.int 1))] [])) (.not (.call 39 [(.v 1), (.lst false [(.tup [(.c (.str "come")), (.c (.int 1)), (.c (.int 3))]), (.tup [(.c (.str "come")), (.c (.int 1)), (.c (.int 3))]), (.tup [(.c (.str "move")), (.c (.int 1)), (.tup [(.c (.int 1)), (.c (.int 3))]), (.neg (.c (.int 1)))])]), (.c (.int 1))] []))) [
    .ret (.c (.bool false))] [],
  .frl (.nm 3) .rng1 [(.blt .max2 false [(.c (.int 4)), (.blt .min2 false [(.blt .len false [(.v 0)]), (.c (.int 8))])])] [
    .asg (.nm 4) (.call 37 [(.v 0), (.v 3)] []),
    .asg (.nm 5) (.ite (.cmp .NotEq (.v 3) (.c (.int 2))) (.call 23 [(.v 4), (.bin .Add false (.c (.int 2)) (.call 19 [(.v 4), (.c (.int 4))] [])), (.c (.int 3)), (.bin .Add false (.c (.int 2)) (.call 19 [(.v 4), (.c (.int 8))] []))] []) (.call 23 [(.v 4), (.c (.int 10)), (.c (.int 6)), (.c (.int 24))] [])),
    .ifs (.not (.call 39 [(.v 5), (.call 28 [(.v 4), (.v 5), (.ite (.cmp .Eq (.v 3) (.c (.int 2))) (.c (.int 200)) (.call 20 [(.v 4), (.lst false [(.c (.int 5)), (.c (.int 12)), (.c (.int 30))])] [])), (.c (.int 40))] []), (.ite (.cmp .Eq (.v 3) (.c (.int 2))) (.c (.int 40)) (.c (.int 1)))] [])) [
      .ret (.c (.bool false))] []],
  .ret (.call 21 [(.call 14 [(.v 1), (.tup [(.tup [(.c (.str "come")), (.c (.int 3)), (.neg (.c (.int 1)))])])] []), (.tup [(.tup [(.tup [(.c (.int 3)), (.neg (.c (.int 1)))])]), (.tup []), (.tup [])])] [])]
def f_law_k85 : Fn := ⟨6, 1, b_law_k85, true⟩
def f_none : Fn := ⟨0, 0, [], true⟩
def fnl : List Fn := [f_is_int, f_is_number, f_is_tuple, f_is_guest, f_wanted_place, f_has_room, f_can_go, f_tellings_of, f_is_there, f_with_guests, f_step_stand, f_come_in, f_empty_stand, f_stand_behind, f_replayed_stand, f_known_guests, f_found_guests, f_found_stand, f__law_box, f__law_take, f__law_pick, f__law_same, f__law_some, f__law_house, f__law_goes, f__law_moves, f__law_tellings, f__law_behind, f__law_rows, f__law_found, f__law_late, f__law_known, f__law_right, f_law, f_is_among, f_is_row, f_check_rows, f__law_box_k85, f__law_next, f__law_right_k85, f_law_k85]
def tab : Nat → Option Fn := fun f => fnl[f]?
theorem r_is_int (n : Nat) (a0 : D) (S : Store) : run tab (n + 1) 0 [a0] S = gc true S (execs (run tab n) b_is_int [some a0] S) := rfl
theorem r_is_number (n : Nat) (a0 a1 a2 : D) (S : Store) : run tab (n + 1) 1 [a0, a1, a2] S = gc true S (execs (run tab n) b_is_number [some a0, some a1, some a2] S) := rfl
theorem r_is_tuple (n : Nat) (a0 a1 : D) (S : Store) : run tab (n + 1) 2 [a0, a1] S = gc true S (execs (run tab n) b_is_tuple [some a0, some a1] S) := rfl
theorem r_is_guest (n : Nat) (a0 a1 a2 : D) (S : Store) : run tab (n + 1) 3 [a0, a1, a2] S = gc true S (execs (run tab n) b_is_guest [some a0, some a1, some a2, none] S) := rfl
theorem r_wanted_place (n : Nat) (a0 a1 : D) (S : Store) : run tab (n + 1) 4 [a0, a1] S = gc true S (execs (run tab n) b_wanted_place [some a0, some a1] S) := rfl
theorem r_has_room (n : Nat) (a0 a1 a2 : D) (S : Store) : run tab (n + 1) 5 [a0, a1, a2] S = gc true S (execs (run tab n) b_has_room [some a0, some a1, some a2] S) := rfl
theorem r_can_go (n : Nat) (a0 a1 a2 : D) (S : Store) : run tab (n + 1) 6 [a0, a1, a2] S = gc true S (execs (run tab n) b_can_go [some a0, some a1, some a2, none] S) := rfl
theorem r_tellings_of (n : Nat) (a0 a1 : D) (S : Store) : run tab (n + 1) 7 [a0, a1] S = gc true S (execs (run tab n) b_tellings_of [some a0, some a1, none] S) := rfl
theorem r_is_there (n : Nat) (a0 a1 a2 : D) (S : Store) : run tab (n + 1) 8 [a0, a1, a2] S = gc true S (execs (run tab n) b_is_there [some a0, some a1, some a2] S) := rfl
theorem r_with_guests (n : Nat) (a0 a1 a2 : D) (S : Store) : run tab (n + 1) 9 [a0, a1, a2] S = gc true S (execs (run tab n) b_with_guests [some a0, some a1, some a2] S) := rfl
theorem r_step_stand (n : Nat) (a0 a1 a2 a3 : D) (S : Store) : run tab (n + 1) 10 [a0, a1, a2, a3] S = gc true S (execs (run tab n) b_step_stand [some a0, some a1, some a2, some a3, none, none, none, none, none] S) := rfl
theorem r_come_in (n : Nat) (a0 a1 a2 a3 : D) (S : Store) : run tab (n + 1) 11 [a0, a1, a2, a3] S = gc true S (execs (run tab n) b_come_in [some a0, some a1, some a2, some a3, none, none] S) := rfl
theorem r_empty_stand (n : Nat) (a0 : D) (S : Store) : run tab (n + 1) 12 [a0] S = gc true S (execs (run tab n) b_empty_stand [some a0, none] S) := rfl
theorem r_stand_behind (n : Nat) (a0 a1 a2 : D) (S : Store) : run tab (n + 1) 13 [a0, a1, a2] S = gc true S (execs (run tab n) b_stand_behind [some a0, some a1, some a2] S) := rfl
theorem r_replayed_stand (n : Nat) (a0 a1 : D) (S : Store) : run tab (n + 1) 14 [a0, a1] S = gc true S (execs (run tab n) b_replayed_stand [some a0, some a1, none, none] S) := rfl
theorem r_known_guests (n : Nat) (a0 a1 a2 : D) (S : Store) : run tab (n + 1) 15 [a0, a1, a2] S = gc true S (execs (run tab n) b_known_guests [some a0, some a1, some a2, none, none, none] S) := rfl
theorem r_found_guests (n : Nat) (a0 a1 : D) (S : Store) : run tab (n + 1) 16 [a0, a1] S = gc true S (execs (run tab n) b_found_guests [some a0, some a1, none, none, none] S) := rfl
theorem r_found_stand (n : Nat) (a0 a1 a2 : D) (S : Store) : run tab (n + 1) 17 [a0, a1, a2] S = gc true S (execs (run tab n) b_found_stand [some a0, some a1, some a2, none, none, none, none] S) := rfl
theorem r__law_box (n : Nat) (a0 a1 : D) (S : Store) : run tab (n + 1) 18 [a0, a1] S = gc false S (execs (run tab n) b__law_box [some a0, some a1, none, none] S) := rfl
theorem r__law_take (n : Nat) (a0 a1 : D) (S : Store) : run tab (n + 1) 19 [a0, a1] S = gc true S (execs (run tab n) b__law_take [some a0, some a1, none, none] S) := rfl
theorem r__law_pick (n : Nat) (a0 a1 : D) (S : Store) : run tab (n + 1) 20 [a0, a1] S = gc true S (execs (run tab n) b__law_pick [some a0, some a1] S) := rfl
theorem r__law_same (n : Nat) (a0 a1 : D) (S : Store) : run tab (n + 1) 21 [a0, a1] S = gc true S (execs (run tab n) b__law_same [some a0, some a1, none, none] S) := rfl
theorem r__law_some (n : Nat) (a0 a1 a2 : D) (S : Store) : run tab (n + 1) 22 [a0, a1, a2] S = gc true S (execs (run tab n) b__law_some [some a0, some a1, some a2, none, none, none] S) := rfl
theorem r__law_house (n : Nat) (a0 a1 a2 a3 : D) (S : Store) : run tab (n + 1) 23 [a0, a1, a2, a3] S = gc true S (execs (run tab n) b__law_house [some a0, some a1, some a2, some a3, none, none, none, none, none, none, none, none, none, none] S) := rfl
theorem r__law_goes (n : Nat) (a0 a1 a2 : D) (S : Store) : run tab (n + 1) 24 [a0, a1, a2] S = gc true S (execs (run tab n) b__law_goes [some a0, some a1, some a2] S) := rfl
theorem r__law_moves (n : Nat) (a0 a1 : D) (S : Store) : run tab (n + 1) 25 [a0, a1] S = gc true S (execs (run tab n) b__law_moves [some a0, some a1, none, none, none, none] S) := rfl
theorem r__law_tellings (n : Nat) (a0 a1 : D) (S : Store) : run tab (n + 1) 26 [a0, a1] S = gc true S (execs (run tab n) b__law_tellings [some a0, some a1] S) := rfl
theorem r__law_behind (n : Nat) (a0 a1 a2 a3 : D) (S : Store) : run tab (n + 1) 27 [a0, a1, a2, a3] S = gc true S (execs (run tab n) b__law_behind [some a0, some a1, some a2, some a3, none, none, none, none, none] S) := rfl
theorem r__law_rows (n : Nat) (a0 a1 a2 a3 : D) (S : Store) : run tab (n + 1) 28 [a0, a1, a2, a3] S = gc true S (execs (run tab n) b__law_rows [some a0, some a1, some a2, some a3, none, none, none, none, none, none, none, none, none, none, none] S) := rfl
theorem r__law_found (n : Nat) (a0 a1 a2 : D) (S : Store) : run tab (n + 1) 29 [a0, a1, a2] S = gc true S (execs (run tab n) b__law_found [some a0, some a1, some a2, none, none, none, none, none, none] S) := rfl
theorem r__law_late (n : Nat) (a0 : D) (S : Store) : run tab (n + 1) 30 [a0] S = gc true S (execs (run tab n) b__law_late [some a0, none, none] S) := rfl
theorem r__law_known (n : Nat) (a0 : D) (S : Store) : run tab (n + 1) 31 [a0] S = gc true S (execs (run tab n) b__law_known [some a0, none, none] S) := rfl
theorem r__law_right (n : Nat) (a0 a1 a2 : D) (S : Store) : run tab (n + 1) 32 [a0, a1, a2] S = gc true S (execs (run tab n) b__law_right [some a0, some a1, some a2, none, none, none] S) := rfl
theorem r_law (n : Nat) (a0 : D) (S : Store) : run tab (n + 1) 33 [a0] S = gc true S (execs (run tab n) b_law [some a0, none, none, none, none, none, none, none, none, none] S) := rfl
theorem r_is_among (n : Nat) (a0 a1 : D) (S : Store) : run tab (n + 1) 34 [a0, a1] S = gc true S (execs (run tab n) b_is_among [some a0, some a1] S) := rfl
theorem r_is_row (n : Nat) (a0 : D) (S : Store) : run tab (n + 1) 35 [a0] S = gc true S (execs (run tab n) b_is_row [some a0] S) := rfl
theorem r_check_rows (n : Nat) (a0 a1 : D) (S : Store) : run tab (n + 1) 36 [a0, a1] S = gc true S (execs (run tab n) b_check_rows [some a0, some a1, none, none, none] S) := rfl
theorem r__law_box_k85 (n : Nat) (a0 a1 : D) (S : Store) : run tab (n + 1) 37 [a0, a1] S = gc false S (execs (run tab n) b__law_box_k85 [some a0, some a1, none, none] S) := rfl
theorem r__law_next (n : Nat) (a0 a1 a2 : D) (S : Store) : run tab (n + 1) 38 [a0, a1, a2] S = gc true S (execs (run tab n) b__law_next [some a0, some a1, some a2, none] S) := rfl
theorem r__law_right_k85 (n : Nat) (a0 a1 a2 : D) (S : Store) : run tab (n + 1) 39 [a0, a1, a2] S = gc true S (execs (run tab n) b__law_right_k85 [some a0, some a1, some a2, none, none, none, none] S) := rfl
theorem r_law_k85 (n : Nat) (a0 : D) (S : Store) : run tab (n + 1) 40 [a0] S = gc true S (execs (run tab n) b_law_k85 [some a0, none, none, none, none, none] S) := rfl
end K86

set_option linter.all false
set_option maxRecDepth 100000
namespace K86
open PySem DL L2
/-- a guest: its stage, its next (none: out) -/
abbrev G := Nat × Option Nat
def nI : Option Nat → Int
  | none => -1
  | some s => (s : Int)
theorem nI_inj : ∀ {a b : Option Nat}, nI a = nI b ↔ a = b
  | none, none => by simp
  | none, some b => by simp only [nI, reduceCtorEq, iff_false]
  | some a, none => by simp only [nI, reduceCtorEq, iff_false]
  | some a, some b => by simp only [nI, Option.some.injEq]; omega
def oD (o : Option Nat) : D := .int (nI o)
def gD (g : G) : D := .tuple [.int (g.1 : Int), oD g.2]
def gsD (l : List G) : D := .tuple (l.map gD)
abbrev Stand := List (List G)
def standD (s : Stand) : D := .tuple (s.map gsD)
structure H where
  seats : List Nat
  stages : List (Nat × List (Option Nat))
def stgD (s : Nat × List (Option Nat)) : D := .tuple [.int (s.1 : Int), .tuple (s.2.map oD)]
def nD (n : Nat) : D := .int (n : Int)
def hD (h : H) : D := .tuple [.tuple (h.seats.map nD), .tuple (h.stages.map stgD)]
theorem nI_out {o : Option Nat} : nI o = -1 ↔ o = none := by
  cases o with
  | none => simp [nI]
  | some s => simp only [nI, reduceCtorEq, iff_false]
theorem oD_plain (o : Option Nat) : (oD o).plain = true := rfl
theorem oD_depth (o : Option Nat) : (oD o).depth ≤ 60 := by simp [oD, PyData.depth]
theorem oD_res (o : Option Nat) (S : Store) : res S (oD o) = oD o := rfl
theorem oD_eqv (a b : Option Nat) : PyData.eqv (oD a) (oD b) = (a == b) := by
  have h : PyData.eqv (oD a) (oD b) = (nI a == nI b) := rfl
  rw [h]
  by_cases e : a = b
  · subst e
    rw [beq_self_eq_true, beq_self_eq_true]
  · rw [beq_eq_false_iff_ne.mpr e, beq_eq_false_iff_ne.mpr fun q => e (nI_inj.mp q)]
theorem gD_plain (g : G) : (gD g).plain = true := rfl
theorem gD_depth (g : G) : (gD g).depth ≤ 60 := by simp [gD, oD, PyData.depth, PyData.depthAll]
theorem gD_res (g : G) (S : Store) : res S (gD g) = gD g := rfl
theorem beq_nat (a b : Nat) : ((a : Int) == (b : Int)) = (a == b) := by
  by_cases e : a = b
  · subst e
    rw [beq_self_eq_true, beq_self_eq_true]
  · rw [beq_eq_false_iff_ne.mpr e, beq_eq_false_iff_ne.mpr (by omega)]
theorem gD_eqv (a b : G) : PyData.eqv (gD a) (gD b) = (a == b) := by
  have h : PyData.eqv (gD a) (gD b) = (((a.1 : Int) == (b.1 : Int)) && (PyData.eqv (oD a.2) (oD b.2) && true)) := rfl
  rw [h, oD_eqv, beq_nat, Bool.and_true]
  rfl
theorem in_gs (S : Store) (l : List G) (g : G) : cmpV .In (gD g) (gsD l) S = .ok (.bool (decide (g ∈ l))) S := cmp_in gD_plain gD_depth gD_res gD_eqv l g rfl
theorem in_os (S : Store) (l : List (Option Nat)) (o : Option Nat) : cmpV .In (oD o) (.tuple (l.map oD)) S = .ok (.bool (decide (o ∈ l))) S := cmp_in oD_plain oD_depth oD_res oD_eqv l o rfl
theorem notin_os (S : Store) (l : List (Option Nat)) (o : Option Nat) : cmpV .NotIn (oD o) (.tuple (l.map oD)) S = .ok (.bool (!decide (o ∈ l))) S := cmp_notin oD_plain oD_depth oD_res oD_eqv l o rfl
/-- the place and nexts of a stage -/
def stg (h : H) (s : Nat) : Nat × List (Option Nat) := h.stages.getD s (0, [])
def plc (h : H) (s : Nat) : Nat := (stg h s).1
def nxs (h : H) (s : Nat) : List (Option Nat) := (stg h s).2
def seat (h : H) (p : Nat) : Nat := h.seats.getD p 0
def at_ (st : Stand) (p : Nat) : List G := st.getD p []
theorem get_stg {h : H} {s : Nat} (e : s < h.stages.length) : h.stages[s]? = some (stg h s) := by
  unfold stg
  rw [List.getD_eq_getElem?_getD, List.getElem?_eq_getElem e]
  rfl
theorem get_seat {h : H} {p : Nat} (e : p < h.seats.length) : h.seats[p]? = some (seat h p) := by
  unfold seat
  rw [List.getD_eq_getElem?_getD, List.getElem?_eq_getElem e]
  rfl
theorem get_at {st : Stand} {p : Nat} (e : p < st.length) : st[p]? = some (at_ st p) := by
  unfold at_
  rw [List.getD_eq_getElem?_getD, List.getElem?_eq_getElem e]
  rfl
structure OkH (h : H) : Prop where
  pl : ∀ s, s < h.stages.length → plc h s < h.seats.length
  nx : ∀ s, s < h.stages.length → ∀ t, some t ∈ nxs h s → t < h.stages.length
  few : h.seats.length ≤ 1000
  fews : h.stages.length ≤ 1000
  fewp : ∀ p, seat h p ≤ 1000
section
variable {h : H} {S : Store} {st : Stand} {n : Nat}
theorem sub_h0 (S : Store) : subV (hD h) (.int 0) S = .ok (.tuple (h.seats.map nD)) S := rfl
theorem sub_h1 (S : Store) : subV (hD h) (.int 1) S = .ok (.tuple (h.stages.map stgD)) S := rfl
theorem sub_stg {s : Nat} (e : s < h.stages.length) (S : Store) : subV (.tuple (h.stages.map stgD)) (.int (s : Int)) S = .ok (stgD (stg h s)) S := by
  simp only [subV, seqOf, atI_map (get_stg e)]
theorem sub_seat {p : Nat} (e : p < h.seats.length) (S : Store) : subV (.tuple (h.seats.map nD)) (.int (p : Int)) S = .ok (.int (seat h p : Int)) S := by
  simp only [subV, seqOf, atI_map (get_seat e), nD]
theorem sub_st {p : Nat} (e : p < st.length) (S : Store) : subV (standD st) (.int (p : Int)) S = .ok (gsD (at_ st p)) S := by
  simp only [subV, standD, seqOf, atI_map (get_at e)]
theorem sub_s0 (s : Nat × List (Option Nat)) (S : Store) : subV (stgD s) (.int 0) S = .ok (.int (s.1 : Int)) S := rfl
theorem sub_s1 (s : Nat × List (Option Nat)) (S : Store) : subV (stgD s) (.int 1) S = .ok (.tuple (s.2.map oD)) S := rfl
theorem sub_g0 (g : G) (S : Store) : subV (gD g) (.int 0) S = .ok (.int (g.1 : Int)) S := rfl
theorem sub_g1 (g : G) (S : Store) : subV (gD g) (.int 1) S = .ok (oD g.2) S := rfl
theorem len_gs (l : List G) (S : Store) : lenV [gsD l] S = .ok (.int (l.length : Int)) S := by simp [lenV, gsD, seqOf]
theorem len_stgs (S : Store) : lenV [.tuple (h.stages.map stgD)] S = .ok (.int (h.stages.length : Int)) S := by simp [lenV, seqOf]
theorem len_st (S : Store) : lenV [standD st] S = .ok (.int (st.length : Int)) S := by simp [lenV, standD, seqOf]
theorem is_int_int (n : Nat) (i : Int) (S : Store) : DL.run tab (n + 1) 0 [.int i] S = .ok (.bool true) S := by
  rw [r_is_int]
  simp [b_is_int, DL.execs, DL.exec, DL.ev, DL.evs, DL.evAll, Res.bind_ok, Res.out_ok, Res.test, Res.outB, asBool, Out.seq, bltV, isTV, isTy, gc_same, cmpV, subV, seqOf, lstOf, lstOfM, lenV, DL.absV, intV, locOf, res, bindT, bindTs, wipeE]
theorem is_number_le (n : Nat) (i a b : Int) (S : Store) (h1 : a ≤ i) (h2 : i ≤ b) : DL.run tab (n + 2) 1 [.int i, .int a, .int b] S = .ok (.bool true) S := by
  rw [r_is_number]
  simp [b_is_number, is_int_int, cmp_ge_i, cmp_le_i, cmp_isN, isNone, h1, h2, -List.map_take, -List.map_drop, DL.execs, DL.exec, DL.ev, DL.evs, DL.evAll, Res.bind_ok, Res.out_ok, Res.test, Res.outB, asBool, Out.seq, bltV, isTV, isTy, gc_same, bindT, bindTs, wipeE]
theorem is_tuple2 (n : Nat) (a b : D) (S : Store) : DL.run tab (n + 1) 2 [.tuple [a, b], .int 2] S = .ok (.bool true) S := by
  rw [r_is_tuple]
  simp [b_is_tuple, lenV, seqOf, cmp_isN, isNone, cmp_eq_i, -List.map_take, -List.map_drop, DL.execs, DL.exec, DL.ev, DL.evs, DL.evAll, Res.bind_ok, Res.out_ok, Res.test, Res.outB, asBool, Out.seq, bltV, isTV, isTy, gc_same, bindT, bindTs, wipeE]
theorem wanted (n : Nat) (g : G) (S : Store) (e : ∀ s, g.2 = some s → s < h.stages.length) : DL.run tab (n + 1) 4 [hD h, gD g] S = .ok (match g.2 with | none => .none | some s => .int (plc h s : Int)) S := by
  rw [r_wanted_place]
  obtain ⟨g1, g2⟩ := g
  cases g2 with
  | none => simp [b_wanted_place, sub_g1, oD, nI, cmp_eq_i, -List.map_take, -List.map_drop, DL.execs, DL.exec, DL.ev, DL.evs, DL.evAll, Res.bind_ok, Res.out_ok, Res.test, Res.outB, asBool, Out.seq, bltV, isTV, isTy, gc_same, bindT, bindTs, wipeE]
  | some s =>
    have hs := e s rfl
    have h1 : ¬ ((s : Int) = -1) := by omega
    simp [b_wanted_place, sub_g1, oD, nI, cmp_eq_i, h1, sub_h1, sub_stg hs, sub_s0, plc, -List.map_take, -List.map_drop, DL.execs, DL.exec, DL.ev, DL.evs, DL.evAll, Res.bind_ok, Res.out_ok, Res.test, Res.outB, asBool, Out.seq, bltV, isTV, isTy, gc_same, bindT, bindTs, wipeE]
theorem room_eq (n : Nat) {p : Nat} (hp : p < h.seats.length) (hs : p < st.length) (S : Store) : DL.run tab (n + 1) 5 [hD h, standD st, .int (p : Int)] S = .ok (.bool (decide ((at_ st p).length < seat h p))) S := by
  rw [r_has_room]
  simp [b_has_room, sub_st hs, len_gs, sub_h0, sub_seat hp, cmp_lt_i, -List.map_take, -List.map_drop, DL.execs, DL.exec, DL.ev, DL.evs, DL.evAll, Res.bind_ok, Res.out_ok, Res.test, Res.outB, asBool, Out.seq, bltV, isTV, isTy, gc_same, bindT, bindTs, wipeE]
/-- is there room for a mover -/
def roomFor (h : H) (st : Stand) : Option Nat → Bool
  | none => true
  | some s => decide ((at_ st (plc h s)).length < seat h (plc h s))
theorem cango_eq (n : Nat) (ok : OkH h) (hl : st.length = h.seats.length) (g : G) (e : ∀ s, g.2 = some s → s < h.stages.length) (S : Store) : DL.run tab (n + 2) 6 [hD h, standD st, gD g] S = .ok (.bool (roomFor h st g.2)) S := by
  rw [r_can_go]
  obtain ⟨g1, g2⟩ := g
  cases g2 with
  | none => simp [b_can_go, wanted (n := n) (h := h) (g1, none) S e, cmp_isN, isNone, roomFor, -List.map_take, -List.map_drop, DL.execs, DL.exec, DL.ev, DL.evs, DL.evAll, Res.bind_ok, Res.out_ok, Res.test, Res.outB, asBool, Out.seq, bltV, isTV, isTy, gc_same, bindT, bindTs, wipeE]
  | some s =>
    have hs := e s rfl
    have hp := ok.pl s hs
    simp [b_can_go, wanted (n := n) (h := h) (g1, some s) S e, cmp_isN, isNone, roomFor, room_eq n hp (by rw [hl]; exact hp), -List.map_take, -List.map_drop, DL.execs, DL.exec, DL.ev, DL.evs, DL.evAll, Res.bind_ok, Res.out_ok, Res.test, Res.outB, asBool, Out.seq, bltV, isTV, isTy, gc_same, bindT, bindTs, wipeE]
/-- what a mover may be told -/
def tells (h : H) : Option Nat → List (Option Nat)
  | none => [none]
  | some s => nxs h s
def moveD (p : Nat) (g : G) : D := .tuple [.int (p : Int), gD g]
theorem tell_eq (n : Nat) (p : Nat) (g : G) (e : ∀ s, g.2 = some s → s < h.stages.length) (S : Store) : DL.run tab (n + 1) 7 [hD h, moveD p g] S = .ok (.tuple ((tells h g.2).map oD)) S := by
  rw [r_tellings_of]
  obtain ⟨g1, g2⟩ := g
  have hm : subV (moveD p (g1, g2)) (.int 1) S = .ok (gD (g1, g2)) S := rfl
  cases g2 with
  | none => simp [b_tellings_of, hm, sub_g1, oD, nI, cmp_eq_i, tells, mkT, sizeLine_eq, -List.map_take, -List.map_drop, DL.execs, DL.exec, DL.ev, DL.evs, DL.evAll, Res.bind_ok, Res.out_ok, Res.test, Res.outB, asBool, Out.seq, bltV, isTV, isTy, gc_same, bindT, bindTs, wipeE]
  | some s =>
    have hs := e s rfl
    have h1 : ¬ ((s : Int) = -1) := by omega
    simp [b_tellings_of, hm, sub_g1, oD, nI, cmp_eq_i, h1, sub_h1, sub_stg hs, sub_s1, tells, nxs, -List.map_take, -List.map_drop, DL.execs, DL.exec, DL.ev, DL.evs, DL.evAll, Res.bind_ok, Res.out_ok, Res.test, Res.outB, asBool, Out.seq, bltV, isTV, isTy, gc_same, bindT, bindTs, wipeE]
/-- a guest that may be at a place -/
def okG (h : H) (p : Nat) (g : G) : Prop := g.1 < h.stages.length ∧ plc h g.1 = p ∧ g.2 ∈ nxs h g.1
theorem is_guest_eq (n : Nat) {p : Nat} {g : G} (e : okG h p g) (S : Store) : DL.run tab (n + 3) 3 [hD h, .int (p : Int), gD g] S = .ok (.bool true) S := by
  rw [r_is_guest]
  obtain ⟨g1, g2⟩ := g
  obtain ⟨e1, e2, e3⟩ := e
  have t2 : DL.run tab (n + 2) 2 [gD (g1, g2), .int 2] S = .ok (.bool true) S := is_tuple2 (n + 1) _ _ S
  have t3 : DL.run tab (n + 2) 1 [.int (g1 : Int), .int 0, .int ((h.stages.length : Int) - 1)] S = .ok (.bool true) S := is_number_le n _ _ _ S (by omega) (by simp only at e1; omega)
  have t4 : DL.run tab (n + 2) 0 [oD g2] S = .ok (.bool true) S := is_int_int (n + 1) _ S
  have e1' : g1 < h.stages.length := e1
  have e2' : (stg h g1).1 = p := e2
  have e3' : g2 ∈ (stg h g1).2 := e3
  simp [b_is_guest, t2, sub_g0, sub_g1, sub_h1, len_stgs, bin_sub_i, t3, t4, sub_stg e1', sub_s0, sub_s1, cmp_eq_i, e2', in_os, e3', -List.map_take, -List.map_drop, DL.execs, DL.exec, DL.ev, DL.evs, DL.evAll, Res.bind_ok, Res.out_ok, Res.test, Res.outB, asBool, Out.seq, bltV, isTV, isTy, gc_same, bindT, bindTs, wipeE]
theorem is_there_eq (n : Nat) {p : Nat} {g : G} (e : okG h p g) (hp : p < st.length) (hg : g ∈ at_ st p) (S : Store) : DL.run tab (n + 4) 8 [hD h, standD st, moveD p g] S = .ok (.bool true) S := by
  rw [r_is_there]
  have t2 : DL.run tab (n + 3) 2 [moveD p g, .int 2] S = .ok (.bool true) S := is_tuple2 (n + 2) _ _ S
  have t3 : DL.run tab (n + 3) 1 [.int (p : Int), .int 0, .int ((st.length : Int) - 1)] S = .ok (.bool true) S := is_number_le (n + 1) _ _ _ S (by omega) (by omega)
  have m0 : subV (moveD p g) (.int 0) S = .ok (.int (p : Int)) S := rfl
  have m1 : subV (moveD p g) (.int 1) S = .ok (gD g) S := rfl
  simp [b_is_there, t2, m0, m1, len_st, bin_sub_i, t3, is_guest_eq n e, sub_st hp, in_gs, hg, -List.map_take, -List.map_drop, DL.execs, DL.exec, DL.ev, DL.evs, DL.evAll, Res.bind_ok, Res.out_ok, Res.test, Res.outB, asBool, Out.seq, bltV, isTV, isTy, gc_same, bindT, bindTs, wipeE]
end
end K86

set_option linter.all false
set_option maxRecDepth 100000
namespace K86
open PySem DL L2
/-! ### sorting -/
def gle (p q : G) : Bool := decide ((p.1 : Int) < (q.1 : Int) ∨ ((p.1 : Int) = (q.1 : Int) ∧ nI p.2 ≤ nI q.2))
def gsort (l : List G) : List G := l.mergeSort gle
theorem gle_data (p q : G) : gle p q = W.dataLe false id (gD p) (gD q) := by
  have h := congrFun (congrFun (W.dataLe_ii (fun g : G => (g.1 : Int)) (fun g : G => nI g.2)) p) q
  exact h.symm
theorem gsort_D (l : List G) : sortD (l.map gD) = (gsort l).map gD := by
  unfold sortD gsort
  exact (List.map_mergeSort (f := gD) (r := gle) (s := W.dataLe false id) (fun a _ b _ => gle_data a b)).symm
theorem gle_trans (a b c : G) (h1 : gle a b = true) (h2 : gle b c = true) : gle a c = true := by
  simp only [gle, decide_eq_true_eq] at *
  omega
theorem gle_total (a b : G) : (gle a b || gle b a) = true := by
  simp only [gle, Bool.or_eq_true, decide_eq_true_eq]
  omega
theorem gle_anti {a b : G} (h1 : gle a b = true) (h2 : gle b a = true) : a = b := by
  simp only [gle, decide_eq_true_eq] at *
  obtain ⟨a1, a2⟩ := a
  obtain ⟨b1, b2⟩ := b
  simp only at h1 h2
  have e1 : a1 = b1 := by omega
  have e2 : nI a2 = nI b2 := by omega
  rw [e1, nI_inj.mp e2]
theorem gsort_perm (l : List G) : (gsort l).Perm l := List.mergeSort_perm l gle
theorem gsort_pw (l : List G) : (gsort l).Pairwise fun a b => gle a b = true := List.pairwise_mergeSort gle_trans gle_total l
theorem gsort_congr {l k : List G} (h : l.Perm k) : gsort l = gsort k :=
  List.Perm.eq_of_pairwise (fun a b _ _ => gle_anti) (gsort_pw l) (gsort_pw k) ((gsort_perm l).trans (h.trans (gsort_perm k).symm))
theorem gsort_idem (l : List G) : gsort (gsort l) = gsort l := gsort_congr (gsort_perm l)
theorem gsort_len (l : List G) : (gsort l).length = l.length := (gsort_perm l).length_eq
theorem gsort_mem {l : List G} {g : G} : g ∈ gsort l ↔ g ∈ l := (gsort_perm l).mem_iff
theorem sortOk_g (l : List G) : sortOk (l.map gD) = true := by
  unfold sortOk
  simp only [plainAll_map gD_plain, Bool.true_and, Bool.and_eq_true, Bool.or_eq_true]
  refine ⟨⟨?_, .inl ?_⟩, ?_⟩
  · simp only [alikeB, List.all_map, List.all_eq_true, Function.comp]
    intro a _ b _
    rfl
  · simp only [List.all_map, List.all_eq_true, Function.comp]
    intro a _
    rfl
  · simp only [List.all_map, List.all_eq_true, Function.comp, decide_eq_true_eq]
    intro a _
    exact gD_depth a
theorem sorted_g (l : List G) (S : Store) {d : D} (hs : seqOf S d = some (l.map gD)) (hz : l.length ≤ sizeLine) : sortedV false [d] S = .ok (.list ((gsort l).map gD)) S := by
  simp only [sortedV, hs, sortOk_g, if_true, gsort_D, mkL, List.length_map, gsort_len, if_pos hz, Bool.false_eq_true, if_false]
/-! ### slices -/
theorem cut_take {α : Type} (f : α → D) (l : List α) (p : Nat) (h : p ≤ l.length) : cutD (l.map f) none (some (p : Int)) = (l.take p).map f := by
  unfold cutD
  have e1 : HT.sIx (l.map f).length 0 none = 0 := rfl
  have e2 : HT.sIx (l.map f).length (l.map f).length (some (p : Int)) = p := by
    unfold HT.sIx
    have : ¬ ((p : Int) < 0) := by omega
    simp [this]
    omega
  rw [e1, e2]
  simp
theorem cut_drop {α : Type} (f : α → D) (l : List α) (p : Nat) (h : p ≤ l.length) : cutD (l.map f) (some (p : Int)) none = (l.drop p).map f := by
  unfold cutD
  have e1 : HT.sIx (l.map f).length (l.map f).length none = l.length := by unfold HT.sIx; simp
  have e2 : HT.sIx (l.map f).length 0 (some (p : Int)) = p := by
    unfold HT.sIx
    have : ¬ ((p : Int) < 0) := by omega
    simp [this]
    omega
  rw [e1, e2, List.map_drop, List.take_of_length_le (by simp)]
section
variable {h : H} {S : Store} {st : Stand} {n : Nat}
theorem with_eq (n : Nat) {p : Nat} (hp : p < st.length) (hz : st.length ≤ 1000) {l : List G} {d : D} (S : Store) (hs : seqOf S d = some (l.map gD)) (hl : l.length ≤ 2000) : DL.run tab (n + 1) 9 [standD st, .int (p : Int), d] S = .ok (standD (st.set p (gsort l))) S := by
  rw [r_with_guests]
  have z1 : l.length ≤ sizeLine := by rw [sizeLine_eq]; omega
  have s1 : slcV false (standD st) none (some (p : Int)) S = .ok (.tuple ((st.take p).map gsD)) S := by
    simp only [slcV, standD, cut_take gsD st p (by omega)]
  have s2 : slcV false (standD st) (some ((p : Int) + 1)) none S = .ok (.tuple ((st.drop (p + 1)).map gsD)) S := by
    have := cut_drop gsD st (p + 1) (by omega)
    simp only [slcV, standD]
    rw [← this]
    rfl
  have t1 : tupleV [.list ((gsort l).map gD)] S = .ok (gsD (gsort l)) S := rfl
  have b1 : binV .Add false (.tuple ((st.take p).map gsD)) (.tuple [gsD (gsort l)]) S = .ok (.tuple ((st.take p).map gsD ++ [gsD (gsort l)])) S := bin_add_t _ _ _ (by rw [sizeLine_eq]; simp; omega)
  have b2 : binV .Add false (.tuple ((st.take p).map gsD ++ [gsD (gsort l)])) (.tuple ((st.drop (p + 1)).map gsD)) S = .ok (.tuple (((st.take p).map gsD ++ [gsD (gsort l)]) ++ (st.drop (p + 1)).map gsD)) S := bin_add_t _ _ _ (by rw [sizeLine_eq]; simp; omega)
  have e : PyData.tuple (((st.take p).map gsD ++ [gsD (gsort l)]) ++ (st.drop (p + 1)).map gsD) = standD (st.set p (gsort l)) := by
    unfold standD
    rw [List.set_eq_take_append_cons_drop, if_pos hp]
    simp
  simp [b_with_guests, Res.bnd, isAbs, s1, s2, sorted_g l S hs z1, t1, b1, b2, mkT, sizeLine_eq, bin_add_i, -List.map_take, -List.map_drop, DL.execs, DL.exec, DL.ev, DL.evs, DL.evAll, Res.bind_ok, Res.out_ok, Res.test, Res.outB, asBool, Out.seq, bltV, isTV, isTy, gc_same, bindT, bindTs, wipeE]
  rw [← e, List.append_assoc]
  rfl
/-! ### steps -/
inductive Row where
  | come (s : Nat) (t : Option Nat)
  | move (p : Nat) (g : G) (t : Option Nat)
def rowD : Row → D
  | .come s t => .tuple [.str "come", .int (s : Int), oD t]
  | .move p g t => .tuple [.str "move", .int (p : Int), gD g, oD t]
def stepR (h : H) (st : Stand) : Row → Stand
  | .come s t => st.set (plc h s) (gsort (at_ st (plc h s) ++ [(s, t)]))
  | .move p g t => match g.2 with
    | none => st.set p (gsort ((at_ st p).erase g))
    | some s => (st.set p (gsort ((at_ st p).erase g))).set (plc h s) (gsort (at_ (st.set p (gsort ((at_ st p).erase g))) (plc h s) ++ [(s, t)]))
def okR (h : H) (st : Stand) : Row → Prop
  | .come s t => s < h.stages.length ∧ t ∈ nxs h s ∧ (at_ st (plc h s)).length < seat h (plc h s)
  | .move p g t => p < st.length ∧ okG h p g ∧ g ∈ at_ st p ∧ roomFor h st g.2 = true ∧ t ∈ tells h g.2
structure OkS (h : H) (st : Stand) : Prop where
  len : st.length = h.seats.length
  few : ∀ p, (at_ st p).length ≤ 1000
theorem at_set {p q : Nat} {l : List G} (hp : p < st.length) : at_ (st.set p l) q = if p = q then l else at_ st q := by
  unfold at_
  rw [List.getD_eq_getElem?_getD, List.getD_eq_getElem?_getD, List.getElem?_set]
  split
  · simp [hp]
  · rfl
theorem gnd_oD (o : Option Nat) : gnd (oD o) = true := rfl
theorem gnd_gD (g : G) : gnd (gD g) = true := rfl
theorem gndL_map {α : Type} {f : α → D} (h : ∀ a, gnd (f a) = true) (l : List α) : gndL (l.map f) = true := gndL_iff.mpr fun x hx => by
  obtain ⟨a, _, rfl⟩ := List.mem_map.mp hx
  exact h a
theorem gnd_gsD (l : List G) : gnd (gsD l) = true := gndL_map gnd_gD l
theorem gnd_stD (st : Stand) : gnd (standD st) = true := gndL_map gnd_gsD st
theorem place_g {l : List G} {g : G} (hg : g ∈ l) : ∃ j, SeqAt.dataPlace (l.map gD) (gD g) = some j ∧ (l.map gD).eraseIdx j = (l.erase g).map gD := by
  unfold SeqAt.dataPlace
  induction l with
  | nil => simp at hg
  | cons a l ih =>
    rw [List.map_cons, List.findIdx?_cons, gD_eqv]
    by_cases e : a = g
    · subst e
      refine ⟨0, by simp, ?_⟩
      simp
    · have e2 : (a == g) = false := beq_eq_false_iff_ne.mpr e
      obtain ⟨j, h1, h2⟩ := ih (by simpa [Ne.symm e, eq_comm] using hg)
      refine ⟨j + 1, by simp [e2, h1], ?_⟩
      rw [List.eraseIdx_cons_succ, h2, List.erase_cons_tail (by rw [e2]; exact Bool.false_ne_true)]
      rfl
theorem remove_g {l : List G} {g : G} (hg : g ∈ l) (k : Nat) (S : Store) : removeV k (l.map gD) [gD g] S = .ok .none (setL S k ((l.erase g).map gD)) := by
  obtain ⟨j, h1, h2⟩ := place_g hg
  have ok : inOk (l.map gD) (res S (gD g)) = true := by
    simp only [inOk, plainAll_map gD_plain, gD_res, gD_plain, Bool.true_and]
    refine decide_eq_true ?_
    exact Nat.le_trans (Nat.min_le_right _ _) (gD_depth g)
  simp only [removeV, ok, if_true]
  rw [gD_res, h1]
  simp only [h2]
theorem atL_last (S : Store) (xs : List D) : atL (S ++ [.lst xs]) S.length = some xs := by simp [atL]
theorem setL_last (S : Store) (xs ys : List D) : setL (S ++ [.lst xs]) S.length ys = S ++ [.lst ys] := by simp [setL]
theorem list_gs (l : List G) (hl : l.length ≤ 2000) (S : Store) : listV true [gsD l] S = .ok (rf S.length) (S ++ [.lst (l.map gD)]) := by
  have z : (l.map gD).length ≤ sizeLine := by rw [sizeLine_eq, List.length_map]; omega
  simp only [listV, gsD, seqOf, mkL, if_pos z, if_true]
theorem list_gsF (l : List G) (hl : l.length ≤ 2000) (S : Store) : listV false [gsD l] S = .ok (.list (l.map gD)) S := by
  have z : (l.map gD).length ≤ sizeLine := by rw [sizeLine_eq, List.length_map]; omega
  simp only [listV, gsD, seqOf, mkL, if_pos z, Bool.false_eq_true, if_false]
theorem seq_rf {S : Store} {k : Nat} {xs : List D} (h : atL S k = some xs) : seqOf S (rf k) = some xs := by simpa [seqOf] using h
theorem lst_rf {S : Store} {k : Nat} {xs : List D} (h : atL S k = some xs) : lstOf S (rf k) = some xs := by simpa [lstOf] using h
theorem loc_rf (k : Nat) : locOf (rf k) = some k := by simp [locOf]
theorem onL_rf {f : Nat → List D → List D → Store → Res D} {S : Store} {k : Nat} {xs vs : List D} (h : atL S k = some xs) : onL f (rf k) vs S = f k xs vs S := by
  unfold onL
  rw [loc_rf]
  simp only [h]
/-- goal: the list at goal with one more -/
theorem snoc_g (l : List G) (g : G) (hl : l.length ≤ 2000) (S : Store) : binV .Add false (.list (l.map gD)) (.list [gD g]) S = .ok (.list ((l ++ [g]).map gD)) S := by
  have z : ((l.map gD) ++ [gD g]).length ≤ sizeLine := by rw [sizeLine_eq]; simp; omega
  simp only [binV, lstOfM, mkL, if_pos z, Bool.false_eq_true, if_false]
  simp
theorem come_eq (n : Nat) (ok : OkH h) (os : OkS h st) {s : Nat} {t : Option Nat} (e : okR h st (.come s t)) (S : Store) : DL.run tab (n + 4) 11 [hD h, standD st, .int (s : Int), oD t] S = .ok (standD (stepR h st (.come s t))) S := by
  rw [r_come_in]
  obtain ⟨e1, e2, e3⟩ := e
  have hp : plc h s < st.length := by rw [os.len]; exact ok.pl s e1
  have t1 : DL.run tab (n + 3) 1 [.int (s : Int), .int 0, .int ((h.stages.length : Int) - 1)] S = .ok (.bool true) S := is_number_le (n + 1) _ _ _ S (by omega) (by omega)
  have t2 : DL.run tab (n + 3) 5 [hD h, standD st, .int (plc h s : Int)] S = .ok (.bool true) S := by
    rw [room_eq (n + 2) (ok.pl s e1) hp, decide_eq_true e3]
  have t3 : DL.run tab (n + 3) 0 [oD t] S = .ok (.bool true) S := is_int_int (n + 2) _ S
  have t4 := notin_os S (nxs h s) t
  rw [decide_eq_true e2] at t4
  have few := os.few (plc h s)
  have fh := ok.few
  have t5 := with_eq (n + 2) (p := plc h s) (d := .list ((at_ st (plc h s) ++ [(s, t)]).map gD)) (l := at_ st (plc h s) ++ [(s, t)]) hp (by rw [os.len]; omega) S rfl (by simp; omega)
  have hpl : (stg h s).1 = plc h s := rfl
  have hnx : (stg h s).2 = nxs h s := rfl
  have t6 := snoc_g (at_ st (plc h s)) (s, t) (by omega) S
  have t7 : PyData.tuple [.int (s : Int), oD t] = gD (s, t) := rfl
  have e : standD (stepR h st (.come s t)) = standD (st.set (plc h s) (gsort (at_ st (plc h s) ++ [(s, t)]))) := rfl
  rw [e]
  generalize at_ st (plc h s) ++ [(s, t)] = L at t5 t6 ⊢
  simp [b_come_in, sub_h1, len_stgs, bin_sub_i, t1, sub_stg e1, stgD, hpl, hnx, t2, t3, t4, sub_st hp, list_gsF _ (Nat.le_trans few (by decide)), mkT, mkL, sizeLine_eq, t7, t6, t5, -List.map_take, -List.map_drop, DL.execs, DL.exec, DL.ev, DL.evs, DL.evAll, Res.bind_ok, Res.out_ok, Res.test, Res.outB, asBool, Out.seq, bltV, isTV, isTy, gc_same, bindT, bindTs, wipeE]
theorem bindT_move (i j p : Nat) (g : G) (env : DL.Env) : bindT (.tup [.nm i, .nm j]) (moveD p g) env = some ((env.set i (some (.int (p : Int)))).set j (some (gD g))) := rfl
theorem step_eq (n : Nat) (ok : OkH h) (os : OkS h st) (hS : lsts S = true) {p : Nat} {g : G} {t : Option Nat} (e : okR h st (.move p g t)) : DL.run tab (n + 5) 10 [hD h, standD st, moveD p g, oD t] S = .ok (standD (stepR h st (.move p g t))) S := by
  rw [r_step_stand]
  obtain ⟨e1, e2, e3, e4, e5⟩ := e
  have hs : ∀ s, g.2 = some s → s < h.stages.length := fun s q => ok.nx g.1 e2.1 s (by rw [← q]; exact e2.2.2)
  have fh := ok.few
  have few := os.few p
  have t1 := is_there_eq n e2 e1 e3 S
  have t2 := cango_eq (n + 2) ok os.len g hs S
  rw [e4] at t2
  have t3 : DL.run tab (n + 4) 0 [oD t] S = .ok (.bool true) S := is_int_int (n + 3) _ S
  have t4 := tell_eq (n + 3) p g hs S
  have t5 := notin_os S (tells h g.2) t
  rw [decide_eq_true e5] at t5
  have t6 := list_gs (at_ st p) (by omega) S
  generalize hX : S ++ [MO.lst ((at_ st p).map gD)] = S1 at t6
  have a1 : atL S1 S.length = some ((at_ st p).map gD) := by rw [← hX]; exact atL_last _ _
  have t7 : mthV .remove (rf S.length) [gD g] S1 = .ok .none (setL S1 S.length (((at_ st p).erase g).map gD)) := (onL_rf a1).trans (remove_g e3 _ _)
  generalize hX2 : setL S1 S.length (((at_ st p).erase g).map gD) = S2 at t7
  have e2' : S2 = S ++ [MO.lst (((at_ st p).erase g).map gD)] := by rw [← hX2, ← hX, setL_last]
  have a2 : atL S2 S.length = some (((at_ st p).erase g).map gD) := by rw [e2']; exact atL_last _ _
  have el : ((at_ st p).erase g).length ≤ 1000 := Nat.le_trans List.length_erase_le few
  have t8 := with_eq (n + 3) (p := p) (d := rf S.length) (l := (at_ st p).erase g) e1 (by rw [os.len]; omega) S2 (seq_rf a2) (by omega)
  have m0 := fun env => bindT_move 4 5 p g env
  have fin : ∀ st' : Stand, gc true S (.rt (standD st') S2) = .ok (standD st') S := fun st' => by
    rw [e2']
    exact gc_near hS (by simpa using near_refl S []) rfl (gnd_stD st') rfl
  obtain ⟨g1, g2⟩ := g
  cases g2 with
  | none =>
    have e0 : standD (stepR h st (.move p (g1, none) t)) = standD (st.set p (gsort ((at_ st p).erase (g1, none)))) := rfl
    rw [e0]
    generalize (at_ st p).erase (g1, none) = L at *
    have o0 : cmpV .Eq (oD none) (.int (-1)) S2 = .ok (.bool true) S2 := cmp_eq_i _ _
    simp [b_step_stand, t1, t2, t3, t4, t5, m0, sub_st e1, t6, t7, t8, a1, lst_rf a1, sub_g1, o0, fin, -List.map_take, -List.map_drop, DL.execs, DL.exec, DL.ev, DL.evs, DL.evAll, Res.bind_ok, Res.out_ok, Res.test, Res.outB, asBool, Out.seq, bltV, isTV, isTy, gc_same, bindT_nm, wipeE]
  | some s =>
    have hs' := hs s rfl
    have hp := ok.pl s hs'
    have e0 : standD (stepR h st (.move p (g1, some s) t)) = standD ((st.set p (gsort ((at_ st p).erase (g1, some s)))).set (plc h s) (gsort (at_ (st.set p (gsort ((at_ st p).erase (g1, some s)))) (plc h s) ++ [(s, t)]))) := rfl
    rw [e0]
    have o0 : cmpV .Eq (oD (some s)) (.int (-1)) S2 = .ok (.bool false) S2 := by
      have h1 : ¬ ((s : Int) = -1) := by omega
      have := cmp_eq_i (S := S2) (s : Int) (-1)
      rw [decide_eq_false h1] at this
      exact this
    have w := wanted (n + 3) (h := h) (g1, some s) S2 hs
    have f1 : (at_ (st.set p (gsort ((at_ st p).erase (g1, some s)))) (plc h s)).length ≤ 1000 := by
      rw [at_set e1]
      split
      · rw [gsort_len]; exact el
      · exact os.few _
    have l1 : (st.set p (gsort ((at_ st p).erase (g1, some s)))).length = st.length := List.length_set
    generalize st.set p (gsort ((at_ st p).erase (g1, some s))) = st1 at t8 f1 l1 ⊢
    have hp1 : plc h s < st1.length := by rw [l1, os.len]; exact hp
    have t9 := snoc_g (at_ st1 (plc h s)) (s, t) (by omega) S2
    have t10 := with_eq (n + 3) (p := plc h s) (d := .list ((at_ st1 (plc h s) ++ [(s, t)]).map gD)) (l := at_ st1 (plc h s) ++ [(s, t)]) hp1 (by rw [l1, os.len]; omega) S2 rfl (by simp; omega)
    have t11 : PyData.tuple [oD (some s), oD t] = gD (s, t) := rfl
    have t12 := list_gsF (at_ st1 (plc h s)) (by omega) S2
    generalize at_ st1 (plc h s) ++ [(s, t)] = L at t9 t10 ⊢
    simp [b_step_stand, t1, t2, t3, t4, t5, m0, sub_st e1, t6, t7, t8, a1, lst_rf a1, sub_g1, o0, w, sub_st hp1, t12, mkT, mkL, sizeLine_eq, t11, t9, t10, fin, -List.map_take, -List.map_drop, DL.execs, DL.exec, DL.ev, DL.evs, DL.evAll, Res.bind_ok, Res.out_ok, Res.test, Res.outB, asBool, Out.seq, bltV, isTV, isTy, gc_same, bindT_nm, wipeE]
end
end K86

set_option linter.all false
set_option maxRecDepth 100000
namespace K86
open PySem DL L2
section
variable {h : H} {S : Store} {st : Stand} {n : Nat}
def empt (h : H) : Stand := h.seats.map fun _ => []
theorem empty_eq (n : Nat) (ok : OkH h) (S : Store) : DL.run tab (n + 1) 12 [hD h] S = .ok (standD (empt h)) S := by
  rw [r_empty_stand]
  have few := ok.few
  have c : DL.ev (DL.run tab n) (.comp false [1] (.nm 1) .val [(.sub (.v 0) (.c (.int 0)))] [] (.tup [])) [some (hD h), none] S = .ok (.list (h.seats.map fun _ => gsD [])) S := by
    refine ev_comp (vs := [.tuple (h.seats.map nD)]) (items := h.seats.map nD) (g := none) (S1 := S) (S2 := S) ?_ rfl ?_
    · simp [sub_h0, -List.map_take, -List.map_drop, DL.execs, DL.exec, DL.ev, DL.evs, DL.evAll, Res.bind_ok, Res.out_ok, Res.test, Res.outB, asBool, Out.seq, bltV, isTV, isTy, gc_same, bindT, bindTs, wipeE]
    · refine comp_map (enc := nD) (v := fun _ => gsD []) h.seats rfl (fun x _ => ?_) (by rw [sizeLine_eq]; omega)
      exact compF_some (env' := [some (hD h), some (nD x)]) rfl rfl (by simp [mkT, gsD, -List.map_take, -List.map_drop, DL.execs, DL.exec, DL.ev, DL.evs, DL.evAll, Res.bind_ok, Res.out_ok, Res.test, Res.outB, asBool, Out.seq, bltV, isTV, isTy, gc_same, bindT, bindTs, wipeE])
  have e : standD (empt h) = .tuple (h.seats.map fun _ => gsD []) := by
    simp [standD, empt]
  rw [e]
  rw [b_empty_stand, execs_ret (ev_blt1 c (r := .ok (.tuple (h.seats.map fun _ => gsD [])) S) rfl), gc_same]
theorem behind_eq (n : Nat) (ok : OkH h) (os : OkS h st) (hS : lsts S = true) {r : Row} (e : okR h st r) : DL.run tab (n + 6) 13 [hD h, standD st, rowD r] S = .ok (standD (stepR h st r)) S := by
  rw [r_stand_behind]
  cases r with
  | come s t =>
    have t1 := come_eq (n + 1) ok os e S
    have m0 : subV (rowD (.come s t)) (.int 0) S = .ok (.str "come") S := rfl
    have m1 : subV (rowD (.come s t)) (.int 1) S = .ok (.int (s : Int)) S := rfl
    have m2 : subV (rowD (.come s t)) (.int 2) S = .ok (oD t) S := rfl
    have q : cmpV .Eq (.str "come") (.str "come") S = .ok (.bool true) S := by simp [cmpV, eqOk, res, PyData.plain, PyData.depth, PyData.eqv]
    simp [b_stand_behind, m0, m1, m2, q, t1, -List.map_take, -List.map_drop, DL.execs, DL.exec, DL.ev, DL.evs, DL.evAll, Res.bind_ok, Res.out_ok, Res.test, Res.outB, asBool, Out.seq, bltV, isTV, isTy, gc_same, bindT, bindTs, wipeE]
  | move p g t =>
    have t1 := step_eq n ok os hS e
    have m0 : subV (rowD (.move p g t)) (.int 0) S = .ok (.str "move") S := rfl
    have m1 : subV (rowD (.move p g t)) (.int 1) S = .ok (.int (p : Int)) S := rfl
    have m2 : subV (rowD (.move p g t)) (.int 2) S = .ok (gD g) S := rfl
    have m3 : subV (rowD (.move p g t)) (.int 3) S = .ok (oD t) S := rfl
    have q : cmpV .Eq (.str "move") (.str "come") S = .ok (.bool false) S := by
      have : PyData.eqv (.str "move") (.str "come") = false := by decide +kernel
      simp [cmpV, eqOk, res, PyData.plain, PyData.depth, this]
    have t2 : PyData.tuple [.int (p : Int), gD g] = moveD p g := rfl
    simp [b_stand_behind, m0, m1, m2, m3, q, mkT, sizeLine_eq, t2, t1, -List.map_take, -List.map_drop, DL.execs, DL.exec, DL.ev, DL.evs, DL.evAll, Res.bind_ok, Res.out_ok, Res.test, Res.outB, asBool, Out.seq, bltV, isTV, isTy, gc_same, bindT, bindTs, wipeE]
/-- rows that may be done, one behind another -/
def okRs (h : H) : Stand → List Row → Prop
  | _, [] => True
  | st, r :: rs => okR h st r ∧ okRs h (stepR h st r) rs
def runR (h : H) (st : Stand) (rs : List Row) : Stand := rs.foldl (stepR h) st
theorem okS_step (ok : OkH h) (os : OkS h st) {r : Row} (e : okR h st r) : OkS h (stepR h st r) := by
  have fp := ok.fewp
  cases r with
  | come s t =>
    obtain ⟨e1, e2, e3⟩ := e
    have hp : plc h s < st.length := by rw [os.len]; exact ok.pl s e1
    refine ⟨by show (st.set _ _).length = _; rw [List.length_set, os.len], fun p => ?_⟩
    show (at_ (st.set _ _) p).length ≤ 1000
    rw [at_set hp]
    split
    · rw [gsort_len]
      have := fp (plc h s)
      simp
      omega
    · exact os.few p
  | move p g t =>
    obtain ⟨e1, e2, e3, e4, e5⟩ := e
    obtain ⟨g1, g2⟩ := g
    have el : ∀ q, (at_ (st.set p (gsort ((at_ st p).erase (g1, g2)))) q).length ≤ (at_ st q).length := fun q => by
      rw [at_set e1]
      split
      · rename_i hq
        subst hq
        rw [gsort_len]
        exact List.length_erase_le
      · exact Nat.le_refl _
    cases g2 with
    | none =>
      refine ⟨by show (st.set _ _).length = _; rw [List.length_set, os.len], fun q => ?_⟩
      exact Nat.le_trans (el q) (os.few q)
    | some s =>
      have hs : s < h.stages.length := ok.nx g1 e2.1 s e2.2.2
      have hp : plc h s < st.length := by rw [os.len]; exact ok.pl s hs
      refine ⟨by show ((st.set _ _).set _ _).length = _; rw [List.length_set, List.length_set, os.len], fun q => ?_⟩
      show (at_ ((st.set p (gsort ((at_ st p).erase (g1, some s)))).set (plc h s) (gsort (at_ (st.set p (gsort ((at_ st p).erase (g1, some s)))) (plc h s) ++ [(s, t)]))) q).length ≤ 1000
      rw [at_set (by rw [List.length_set]; exact hp)]
      split
      · rw [gsort_len, List.length_append]
        have h1 := el (plc h s)
        have h2 : (at_ st (plc h s)).length < seat h (plc h s) := by simpa [roomFor] using e4
        have := fp (plc h s)
        simp
        omega
      · exact Nat.le_trans (el q) (os.few q)
theorem okS_empt (h : H) : OkS h (empt h) := by
  refine ⟨by simp [empt], fun p => ?_⟩
  have : at_ (empt h) p = [] := by
    unfold at_ empt
    rw [List.getD_eq_getElem?_getD, List.getElem?_map]
    cases h.seats[p]? <;> rfl
  rw [this]
  exact Nat.zero_le _
theorem okS_run (ok : OkH h) : ∀ {rs : List Row} {st : Stand}, OkS h st → okRs h st rs → OkS h (runR h st rs)
  | [], st, os, _ => os
  | r :: rs, st, os, e => okS_run ok (rs := rs) (okS_step ok os e.1) e.2
/-- replayed_stand: rows given as a tuple, or a list -/
theorem replay_eq (n : Nat) (ok : OkH h) (hS : lsts S = true) {rs : List Row} {d : D} (hd : d = .tuple (rs.map rowD) ∨ d = .list (rs.map rowD)) (e : okRs h (empt h) rs) : DL.run tab (n + 7) 14 [hD h, d] S = .ok (standD (runR h (empt h) rs)) S := by
  rw [r_replayed_stand]
  have t0 := empty_eq (n + 5) ok S
  have hi : itemsV .val [d] S = .ok (rs.map rowD, none) S := by rcases hd with rfl | rfl <;> rfl
  obtain ⟨env', S', e1, h1⟩ := forLoop_inv (enc := rowD) (g := none) (S0 := S) (f := bodyF (DL.run tab (n + 6)) (.nm 3) [.asg (.nm 2) (.call 13 [(.v 0), (.v 2), (.v 3)] [])])
    (fun l env S' => S' = S ∧ ∃ st x, env = [some (hD h), some d, some (standD st), x] ∧ OkS h st ∧ okRs h st l ∧ runR h st l = runR h (empt h) rs) (fun _ _ _ _ => rfl)
    (fun x r env S' ⟨e0, st, y, e1, os, ok2, e3⟩ => by
      subst e0 e1
      refine ⟨[some (hD h), some d, some (standD (stepR h st x)), some (rowD x)], S', ?_, rfl, _, _, rfl, okS_step ok os ok2.1, ok2.2, e3⟩
      refine bodyF_eq (env2 := [some (hD h), some d, some (standD st), some (rowD x)]) rfl ?_
      simp [behind_eq n ok os hS ok2.1, -List.map_take, -List.map_drop, DL.execs, DL.exec, DL.ev, DL.evs, DL.evAll, Res.bind_ok, Res.out_ok, Res.test, Res.outB, asBool, Out.seq, bltV, isTV, isTy, gc_same, bindT, bindTs, wipeE]) rs [some (hD h), some d, some (standD (empt h)), none] S ⟨rfl, _, _, rfl, okS_empt h, e, rfl⟩
  obtain ⟨rfl, st, x, rfl, os, _, e4⟩ := h1
  have t1 := exec_frl (F := DL.run tab (n + 6)) (its := [.v 1]) (vs := [d]) (S := S') (S1 := S') (k := .val) (env := [some (hD h), some d, some (standD (empt h)), none]) (by simp [-List.map_take, -List.map_drop, DL.execs, DL.exec, DL.ev, DL.evs, DL.evAll, Res.bind_ok, Res.out_ok, Res.test, Res.outB, asBool, Out.seq, bltV, isTV, isTy, gc_same, bindT, bindTs, wipeE]) hi e1
  simp only [b_replayed_stand]
  have t2 : DL.execs (DL.run tab (n + 6)) b_replayed_stand [some (hD h), some d, none, none] S' = .rt (standD (runR h (empt h) rs)) S' := by
    refine execs_cons (env' := [some (hD h), some d, some (standD (empt h)), none]) (S1 := S') (by simp [t0, -List.map_take, -List.map_drop, DL.execs, DL.exec, DL.ev, DL.evs, DL.evAll, Res.bind_ok, Res.out_ok, Res.test, Res.outB, asBool, Out.seq, bltV, isTV, isTy, gc_same, bindT, bindTs, wipeE]) (execs_cons t1 ?_)
    have : runR h st [] = st := rfl
    rw [← e4, this]
    simp [-List.map_take, -List.map_drop, DL.execs, DL.exec, DL.ev, DL.evs, DL.evAll, Res.bind_ok, Res.out_ok, Res.test, Res.outB, asBool, Out.seq, bltV, isTV, isTy, gc_same, bindT, bindTs, wipeE]
  rw [b_replayed_stand] at t2
  rw [t2, gc_same]
end
end K86

set_option linter.all false
set_option maxRecDepth 100000
namespace K86
open PySem DL L2
section
variable {h : H} {S : Store} {st : Stand} {n : Nat}
/-- lists of guests laid behind S -/
def lay (S : Store) (k : Stand) : Store := S ++ k.map fun l => MO.lst (l.map gD)
theorem lay_snoc (S : Store) (k : Stand) (l : List G) : lay S (k ++ [l]) = lay S k ++ [MO.lst (l.map gD)] := by simp [lay]
theorem lay_len (S : Store) (k : Stand) : (lay S k).length = S.length + k.length := by simp [lay]
theorem lay_at {k : Stand} {p : Nat} (hp : p < k.length) : atL (lay S k) (S.length + p) = some ((at_ k p).map gD) := by
  unfold atL lay
  rw [List.getElem?_append_right (by omega)]
  have : S.length + p - S.length = p := by omega
  rw [this, List.getElem?_map, get_at hp]
  rfl
theorem lay_set {k : Stand} {p : Nat} (l : List G) : setL (lay S k) (S.length + p) (l.map gD) = lay S (k.set p l) := by
  unfold setL lay
  rw [List.set_append_right _ _ (by omega)]
  have : S.length + p - S.length = p := by omega
  rw [this, List.map_set]
def stepK (k : Stand) : Row → Stand
  | .come _ _ => k
  | .move p g _ => k.set p ((at_ k p).erase g)
def runK (k : Stand) (rs : List Row) : Stand := rs.foldl stepK k
/-- every mover's place is one -/
def wfR (m : Nat) : Row → Prop
  | .come _ _ => True
  | .move p _ _ => p < m
theorem set_self {k : Stand} {p : Nat} : k.set p (at_ k p) = k := by
  refine List.ext_getElem? fun i => ?_
  rw [List.getElem?_set]
  split
  · rename_i e
    subst e
    split
    · rename_i hp
      rw [get_at hp]
    · rename_i hp
      rw [List.getElem?_eq_none (by omega)]
  · rfl
theorem len_stepK (k : Stand) (r : Row) : (stepK k r).length = k.length := by
  cases r with
  | come s t => rfl
  | move p g t => exact List.length_set
theorem few_stepK {k : Stand} (hk : ∀ p, (at_ k p).length ≤ 1000) (r : Row) (hr : wfR k.length r) : ∀ p, (at_ (stepK k r) p).length ≤ 1000 := by
  cases r with
  | come s t => exact hk
  | move p g t =>
    intro q
    show (at_ (k.set p _) q).length ≤ 1000
    rw [at_set hr]
    split
    · exact Nat.le_trans List.length_erase_le (hk p)
    · exact hk q
theorem map_refs (k : Stand) : ((List.range k.length).map (S.length + ·)).map (fun i => gsD (at_ k (i - S.length))) = k.map gsD := by
  refine List.ext_getElem? fun i => ?_
  by_cases hi : i < k.length
  · rw [List.getElem?_map, List.getElem?_map, List.getElem?_map, List.getElem?_range hi, get_at hi]
    have : S.length + i - S.length = i := by omega
    simp only [Option.map_some, this]
  · rw [List.getElem?_eq_none (by simpa using hi), List.getElem?_eq_none (by simpa using hi)]
theorem known_eq (n : Nat) (ok : OkH h) (hS : lsts S = true) {rs : List Row} {kept : Nat} (hk : kept ≤ rs.length) (hr : rs.length ≤ 1000) (e : okRs h (empt h) (rs.take kept)) (hw : ∀ r ∈ rs.drop kept, wfR h.seats.length r) :
    DL.run tab (n + 8) 15 [hD h, .tuple (rs.map rowD), .int (kept : Int)] S = .ok (standD (runK (runR h (empt h) (rs.take kept)) (rs.drop kept))) S := by
  rw [r_known_guests]
  have os := okS_run ok (okS_empt h) e
  generalize hst : runR h (empt h) (rs.take kept) = st at os
  have hl := os.len
  have few := ok.few
  have env0 : DL.Env := []
  have s1 : slcV false (.tuple (rs.map rowD)) none (some (kept : Int)) S = .ok (.tuple ((rs.take kept).map rowD)) S := by
    simp only [slcV, cut_take rowD rs kept hk]
  have t1 : DL.run tab (n + 7) 14 [hD h, .tuple ((rs.take kept).map rowD)] S = .ok (standD st) S := by
    rw [replay_eq n ok hS (.inl rfl) e, hst]
  have c1 : DL.ev (DL.run tab (n + 7)) (.call 14 [(.v 0), (.slc false (.v 1) (.c .none) (.v 2))] []) [some (hD h), some (.tuple (rs.map rowD)), some (.int (kept : Int)), none, none, none] S = .ok (standD st) S := by
    simp [Res.bnd, isAbs, s1, t1, -List.map_take, -List.map_drop, DL.execs, DL.exec, DL.ev, DL.evs, DL.evAll, Res.bind_ok, Res.out_ok, Res.test, Res.outB, asBool, Out.seq, bltV, isTV, isTy, gc_same, bindT, bindTs, wipeE]
  obtain ⟨bs, S', e1, done, e2, e3, e4⟩ := comp_inv (enc := gsD) (out := rf) (g := none) (S0 := S) (S1 := S) (f := compF (DL.run tab (n + 7)) [4] (.nm 4) [] (.blt .list true [(.v 4)]) [some (hD h), some (.tuple (rs.map rowD)), some (.int (kept : Int)), none, none, none])
    (fun l acc S' => ∃ done, done ++ l = st ∧ S' = lay S done ∧ acc = (List.range done.length).map (S.length + ·)) (fun _ _ _ _ => rfl)
    (fun x r acc S' ⟨done, q1, q2, q3⟩ => .inl ⟨S'.length, S' ++ [MO.lst (x.map gD)], by
      refine compF_some (env' := [some (hD h), some (.tuple (rs.map rowD)), some (.int (kept : Int)), none, some (gsD x), none]) rfl rfl (ev_blt1 (ev_v rfl) ?_)
      have hx : x.length ≤ 2000 := by
        have := os.few done.length
        have e5 : at_ st done.length = x := by rw [← q1]; simp [at_]
        rw [e5] at this
        omega
      exact list_gs x hx S', done ++ [x], by simp [q1], by rw [q2, lay_snoc], by rw [q3, q2, lay_len]; simp [List.range_succ]⟩)
    st ⟨[], rfl, by simp [lay], rfl⟩ (fun bs S' ⟨done, q1, _, q3⟩ => by
      rw [q3, List.length_map, List.length_range, sizeLine_eq]
      have : done.length = st.length := by rw [← q1]; simp
      omega)
  have e5 : done = st := by simpa using e2
  subst e5
  subst e4
  subst e3
  generalize hbs : (List.range done.length).map (S.length + ·) = bs at e1
  have hb : ∀ p, p < done.length → bs[p]? = some (S.length + p) := fun p hp => by
    rw [← hbs, List.getElem?_map, List.getElem?_range hp]
    rfl
  have c2 := ev_comp (F := DL.run tab (n + 7)) (S := S) (S1 := S) (k := .val) (vs := [standD done]) (evs_cons c1 evs_nil) rfl e1
  -- the loop
  have s2 : ∀ S', slcV false (.tuple (rs.map rowD)) (some (kept : Int)) none S' = .ok (.tuple ((rs.drop kept).map rowD)) S' := fun S' => by
    simp only [slcV, cut_drop rowD rs kept hk]
  obtain ⟨env', S', e6, k, x, y, rfl, rfl, q1, q2, q3⟩ := forLoop_inv (enc := rowD) (g := none) (S0 := lay S done) (f := bodyF (DL.run tab (n + 7)) (.nm 5) [
      .ifs (.and (.cmp .Eq (.sub (.v 5) (.c (.int 0))) (.c (.str "move"))) (.cmp .In (.sub (.v 5) (.c (.int 2))) (.sub (.v 3) (.sub (.v 5) (.c (.int 1)))))) [
        .exp (.mth .remove (.sub (.v 3) (.sub (.v 5) (.c (.int 1)))) [(.sub (.v 5) (.c (.int 2)))])] []])
    (fun l env S' => ∃ k x y, env = [some (hD h), some (.tuple (rs.map rowD)), some (.int (kept : Int)), some (.list (bs.map rf)), x, y] ∧ S' = lay S k ∧ k.length = done.length ∧ (∀ r ∈ l, wfR done.length r) ∧ runK k l = runK done (rs.drop kept)) (fun _ _ _ _ => rfl)
    (fun r l env S' ⟨k, x, y, q0, q1, q2, q3, q4⟩ => by
      subst q0 q1
      have hwr := q3 r (List.mem_cons_self ..)
      refine ⟨[some (hD h), some (.tuple (rs.map rowD)), some (.int (kept : Int)), some (.list (bs.map rf)), x, some (rowD r)], lay S (stepK k r), ?_, stepK k r, _, _, rfl, rfl, by rw [len_stepK, q2], fun r hr => q3 r (List.mem_cons_of_mem _ hr), q4⟩
      refine bodyF_eq (env2 := [some (hD h), some (.tuple (rs.map rowD)), some (.int (kept : Int)), some (.list (bs.map rf)), x, some (rowD r)]) rfl ?_
      cases r with
      | come s t =>
        have m0 : ∀ S, subV (rowD (.come s t)) (.int 0) S = .ok (.str "come") S := fun _ => rfl
        have q : ∀ S, cmpV .Eq (.str "come") (.str "move") S = .ok (.bool false) S := fun S => by
          have : PyData.eqv (.str "come") (.str "move") = false := by decide +kernel
          simp [cmpV, eqOk, res, PyData.plain, PyData.depth, this]
        simp [m0, q, stepK, -List.map_take, -List.map_drop, DL.execs, DL.exec, DL.ev, DL.evs, DL.evAll, Res.bind_ok, Res.out_ok, Res.test, Res.outB, asBool, Out.seq, bltV, isTV, isTy, gc_same, bindT, bindTs, wipeE]
      | move p g t =>
        have hp : p < k.length := by rw [q2]; exact hwr
        have m0 : ∀ S, subV (rowD (.move p g t)) (.int 0) S = .ok (.str "move") S := fun _ => rfl
        have m1 : ∀ S, subV (rowD (.move p g t)) (.int 1) S = .ok (.int (p : Int)) S := fun _ => rfl
        have m2 : ∀ S, subV (rowD (.move p g t)) (.int 2) S = .ok (gD g) S := fun _ => rfl
        have q : ∀ S, cmpV .Eq (.str "move") (.str "move") S = .ok (.bool true) S := fun S => by simp [cmpV, eqOk, res, PyData.plain, PyData.depth, PyData.eqv]
        have b1 : ∀ S', subV (.list (bs.map rf)) (.int (p : Int)) S' = .ok (rf (S.length + p)) S' := fun S' => by
          simp only [subV, seqOf, atI_map (hb p (by rw [← q2]; exact hp))]
        have a1 := lay_at (S := S) hp
        have i1 : cmpV .In (gD g) (rf (S.length + p)) (lay S k) = .ok (.bool (decide (g ∈ at_ k p))) (lay S k) := cmp_in gD_plain gD_depth gD_res gD_eqv _ _ (seq_rf a1)
        by_cases hg : g ∈ at_ k p
        · rw [decide_eq_true hg] at i1
          have r1 : mthV .remove (rf (S.length + p)) [gD g] (lay S k) = .ok .none (lay S (k.set p ((at_ k p).erase g))) := by
            rw [← lay_set]
            exact (onL_rf a1).trans (remove_g hg _ _)
          simp [m0, m1, m2, q, b1, i1, r1, lst_rf a1, stepK, -List.map_take, -List.map_drop, DL.execs, DL.exec, DL.ev, DL.evs, DL.evAll, Res.bind_ok, Res.out_ok, Res.test, Res.outB, asBool, Out.seq, bltV, isTV, isTy, gc_same, bindT, bindTs, wipeE]
        · rw [decide_eq_false hg] at i1
          have e0 : stepK k (.move p g t) = k := by
            show k.set p ((at_ k p).erase g) = k
            rw [List.erase_of_not_mem hg, set_self]
          rw [e0]
          simp [m0, m1, m2, q, b1, i1, -List.map_take, -List.map_drop, DL.execs, DL.exec, DL.ev, DL.evs, DL.evAll, Res.bind_ok, Res.out_ok, Res.test, Res.outB, asBool, Out.seq, bltV, isTV, isTy, gc_same, bindT, bindTs, wipeE])
    (rs.drop kept) [some (hD h), some (.tuple (rs.map rowD)), some (.int (kept : Int)), some (.list (bs.map rf)), none, none] (lay S done) ⟨done, _, _, rfl, rfl, rfl, fun r hr => by rw [hl]; exact hw r hr, rfl⟩
  have e7 : k = runK done (rs.drop kept) := q3
  have l1 := exec_frl (F := DL.run tab (n + 7)) (S := lay S done) (S1 := lay S done) (k := .val) (its := [.slc false (.v 1) (.v 2) (.c .none)]) (vs := [.tuple ((rs.drop kept).map rowD)])
    (env := [some (hD h), some (.tuple (rs.map rowD)), some (.int (kept : Int)), some (.list (bs.map rf)), none, none]) (by simp [Res.bnd, isAbs, s2, -List.map_take, -List.map_drop, DL.execs, DL.exec, DL.ev, DL.evs, DL.evAll, Res.bind_ok, Res.out_ok, Res.test, Res.outB, asBool, Out.seq, bltV, isTV, isTy, gc_same, bindT, bindTs, wipeE]) rfl e6
  have c3 : DL.ev (DL.run tab (n + 7)) (.comp false [4] (.nm 4) .val [(.v 3)] [] (.blt .tuple false [(.v 4)])) [some (hD h), some (.tuple (rs.map rowD)), some (.int (kept : Int)), some (.list (bs.map rf)), x, y] (lay S k) = .ok (.list (k.map gsD)) (lay S k) := by
    refine ev_comp (vs := [.list (bs.map rf)]) (items := bs.map rf) (g := none) (S1 := lay S k) (S2 := lay S k) (evs_cons (ev_v rfl) evs_nil) rfl ?_
    have cm := comp_map (enc := rf) (g := none) (S0 := lay S k) (S1 := lay S k) (f := compF (DL.run tab (n + 7)) [4] (.nm 4) [] (.blt .tuple false [(.v 4)]) [some (hD h), some (.tuple (rs.map rowD)), some (.int (kept : Int)), some (.list (bs.map rf)), x, y]) (v := fun i => gsD (at_ k (i - S.length))) bs rfl (fun i hi => by
      rw [← hbs] at hi
      obtain ⟨j, hj, rfl⟩ := List.mem_map.mp hi
      have hj' : j < k.length := by rw [q1]; simpa using hj
      refine compF_some (env' := [some (hD h), some (.tuple (rs.map rowD)), some (.int (kept : Int)), some (.list (bs.map rf)), some (rf (S.length + j)), y]) rfl rfl (ev_blt1 (ev_v rfl) ?_)
      have e8 : S.length + j - S.length = j := by omega
      rw [e8]
      simp only [bltV, tupleV, seq_rf (lay_at (S := S) hj')]
      rfl) (by rw [← hbs, List.length_map, List.length_range, sizeLine_eq]; omega)
    rw [cm]
    have mr := map_refs (S := S) k
    rw [q1] at mr
    rw [← hbs, mr]
  have fin : gc true S (.rt (standD k) (lay S k)) = .ok (standD k) S := gc_near hS (by simpa using near_refl S []) rfl (gnd_stD k) rfl
  rw [b_known_guests, execs_cons (exec_asg c2 rfl) (execs_cons l1 (execs_ret (ev_blt1 c3 (r := .ok (standD k) (lay S k)) rfl))), fin, e7]
end
end K86

set_option linter.all false
set_option maxRecDepth 100000
namespace K86
open PySem DL L2
/-- a guest of a late stand: its stage, its next or that it isn't told -/
abbrev LG := Nat × Int
def lD (g : LG) : D := .tuple [.int (g.1 : Int), .int g.2]
def lsD (l : List LG) : D := .tuple (l.map lD)
def lle (p q : LG) : Bool := decide ((p.1 : Int) < (q.1 : Int) ∨ ((p.1 : Int) = (q.1 : Int) ∧ p.2 ≤ q.2))
def lsort (l : List LG) : List LG := l.mergeSort lle
theorem lle_data (p q : LG) : lle p q = W.dataLe false id (lD p) (lD q) := by
  have h := congrFun (congrFun (W.dataLe_ii (fun g : LG => (g.1 : Int)) (fun g : LG => g.2)) p) q
  exact h.symm
theorem lsort_D (l : List LG) : sortD (l.map lD) = (lsort l).map lD := by
  unfold sortD lsort
  exact (List.map_mergeSort (f := lD) (r := lle) (s := W.dataLe false id) (fun a _ b _ => lle_data a b)).symm
theorem lle_trans (a b c : LG) (h1 : lle a b = true) (h2 : lle b c = true) : lle a c = true := by
  simp only [lle, decide_eq_true_eq] at *
  omega
theorem lle_total (a b : LG) : (lle a b || lle b a) = true := by
  simp only [lle, Bool.or_eq_true, decide_eq_true_eq]
  omega
theorem lle_anti {a b : LG} (h1 : lle a b = true) (h2 : lle b a = true) : a = b := by
  simp only [lle, decide_eq_true_eq] at *
  obtain ⟨a1, a2⟩ := a
  obtain ⟨b1, b2⟩ := b
  simp only at h1 h2
  have e1 : a1 = b1 := by omega
  have e2 : a2 = b2 := by omega
  rw [e1, e2]
theorem lsort_perm (l : List LG) : (lsort l).Perm l := List.mergeSort_perm l lle
theorem lsort_pw (l : List LG) : (lsort l).Pairwise fun a b => lle a b = true := List.pairwise_mergeSort lle_trans lle_total l
theorem lsort_congr {l k : List LG} (h : l.Perm k) : lsort l = lsort k :=
  List.Perm.eq_of_pairwise (fun a b _ _ => lle_anti) (lsort_pw l) (lsort_pw k) ((lsort_perm l).trans (h.trans (lsort_perm k).symm))
theorem lsort_len (l : List LG) : (lsort l).length = l.length := (lsort_perm l).length_eq
theorem lD_depth (g : LG) : (lD g).depth ≤ 60 := by simp [lD, PyData.depth, PyData.depthAll]
theorem sortOk_l (l : List LG) : sortOk (l.map lD) = true := by
  unfold sortOk
  simp only [plainAll_map (f := lD) (fun _ => rfl), Bool.true_and, Bool.and_eq_true, Bool.or_eq_true]
  refine ⟨⟨?_, .inl ?_⟩, ?_⟩
  · simp only [alikeB, List.all_map, List.all_eq_true, Function.comp]
    intro a _ b _
    rfl
  · simp only [List.all_map, List.all_eq_true, Function.comp]
    intro a _
    rfl
  · simp only [List.all_map, List.all_eq_true, Function.comp, decide_eq_true_eq]
    intro a _
    exact lD_depth a
theorem sorted_l (l : List LG) (S : Store) {d : D} (hs : seqOf S d = some (l.map lD)) (hz : l.length ≤ sizeLine) : sortedV false [d] S = .ok (.list ((lsort l).map lD)) S := by
  simp only [sortedV, hs, sortOk_l, if_true, lsort_D, mkL, List.length_map, lsort_len, if_pos hz, Bool.false_eq_true, if_false]
theorem gnd_lsD (l : List LG) : gnd (lsD l) = true := gndL_map (f := lD) (fun _ => rfl) l
section
variable {h : H} {S : Store} {st : Stand} {n : Nat}
def two (S : Store) (xs ys : List D) : Store := S ++ [.lst xs, .lst ys]
theorem two_at0 (xs ys : List D) : atL (two S xs ys) S.length = some xs := by simp [atL, two]
theorem two_at1 (xs ys : List D) : atL (two S xs ys) (S.length + 1) = some ys := by simp [atL, two]
theorem two_set0 (xs ys zs : List D) : setL (two S xs ys) S.length zs = two S zs ys := by simp [setL, two]
theorem two_set1 (xs ys zs : List D) : setL (two S xs ys) (S.length + 1) zs = two S xs zs := by simp [setL, two]
def lg (g : G) : LG := (g.1, nI g.2)
/-- what is found of the guests, some known -/
def fnd : List G → List G → List LG
  | [], _ => []
  | g :: r, left => if g ∈ left then lg g :: fnd r (left.erase g) else (g.1, -2) :: fnd r left
theorem fnd_len : ∀ (l k : List G), (fnd l k).length = l.length
  | [], _ => rfl
  | g :: r, k => by
    unfold fnd
    split <;> simp [fnd_len r]
theorem found_eq (n : Nat) (hS : lsts S = true) (l k : List G) (hl : l.length ≤ 1000) (hk : k.length ≤ 1000) : DL.run tab (n + 1) 16 [gsD l, gsD k] S = .ok (lsD (lsort (fnd l k))) S := by
  rw [r_found_guests]
  have t1 := list_gs k (by omega) S
  have t2 : mkL true [] (S ++ [MO.lst (k.map gD)]) = .ok (rf (S.length + 1)) (two S (k.map gD) []) := by
    simp [mkL, two, rf]
  have a1 : DL.exec (DL.run tab n) (.asg (.tup [(.nm 2), (.nm 3)]) (.tup [(.blt .list true [(.v 1)]), (.lst true [])])) [some (gsD l), some (gsD k), none, none, none] S = .nx [some (gsD l), some (gsD k), some (rf S.length), some (rf (S.length + 1)), none] (two S (k.map gD) []) := by
    refine exec_asg (d := .tuple [rf S.length, rf (S.length + 1)]) ?_ rfl
    simp [t1, t2, mkT, sizeLine_eq, -List.map_take, -List.map_drop, DL.execs, DL.exec, DL.ev, DL.evs, DL.evAll, Res.bind_ok, Res.out_ok, Res.test, Res.outB, asBool, Out.seq, bltV, isTV, isTy, gc_same, bindT, bindTs, wipeE]
  obtain ⟨env', S', e1, left, f, y, e2, e3, e4, e5⟩ := forLoop_inv (enc := gD) (g := none) (S0 := two S (k.map gD) []) (f := bodyF (DL.run tab n) (.nm 4) [
      .ifs (.cmp .In (.v 4) (.v 2)) [
        .exp (.mth .remove (.v 2) [(.v 4)]),
        .exp (.mth .append (.v 3) [(.v 4)])] [
        .exp (.mth .append (.v 3) [(.tup [(.sub (.v 4) (.c (.int 0))), (.c (.int (-2)))])])]])
    (fun r env S' => ∃ left f y, env = [some (gsD l), some (gsD k), some (rf S.length), some (rf (S.length + 1)), y] ∧ S' = two S (left.map gD) (f.map lD) ∧ f ++ fnd r left = fnd l k ∧ f.length ≤ 1000) (fun _ _ _ _ => rfl)
    (fun g r env S' ⟨left, f, y, q0, q1, q2, q3⟩ => by
      subst q0 q1
      have h1000 : (f ++ fnd (g :: r) left).length ≤ 1000 := by rw [q2, fnd_len]; exact hl
      have hf : f.length + 1 ≤ 1000 := by
        have := fnd_len (g :: r) left
        simp at h1000 this
        omega
      have i1 : cmpV .In (gD g) (rf S.length) (two S (left.map gD) (f.map lD)) = .ok (.bool (decide (g ∈ left))) (two S (left.map gD) (f.map lD)) := cmp_in gD_plain gD_depth gD_res gD_eqv _ _ (seq_rf (two_at0 _ _))
      have ap : ∀ (xs : List D) (x : LG), mthV .append (rf (S.length + 1)) [lD x] (two S xs (f.map lD)) = .ok .none (two S xs ((f ++ [x]).map lD)) := fun xs x => by
        refine (onL_rf (two_at1 _ _)).trans ?_
        have z : (f.map lD).length < sizeLine := by rw [sizeLine_eq, List.length_map]; omega
        simp only [appendV, if_pos z, two_set1, List.map_append, List.map_cons, List.map_nil]
      by_cases hg : g ∈ left
      · rw [decide_eq_true hg] at i1
        have r1 : mthV .remove (rf S.length) [gD g] (two S (left.map gD) (f.map lD)) = .ok .none (two S ((left.erase g).map gD) (f.map lD)) := by
          have r0 := (onL_rf (f := removeV) (vs := [gD g]) (two_at0 (S := S) (left.map gD) (f.map lD))).trans (remove_g hg _ _)
          rw [two_set0] at r0
          exact r0
        have ap1 : mthV .append (rf (S.length + 1)) [gD g] (two S ((left.erase g).map gD) (f.map lD)) = _ := ap _ (lg g)
        refine ⟨[some (gsD l), some (gsD k), some (rf S.length), some (rf (S.length + 1)), some (gD g)], two S ((left.erase g).map gD) ((f ++ [lg g]).map lD), bodyF_eq (env2 := [some (gsD l), some (gsD k), some (rf S.length), some (rf (S.length + 1)), some (gD g)]) rfl ?_, _, _, _, rfl, rfl, ?_, by simp; omega⟩
        · generalize f ++ [lg g] = f2 at ap1 ⊢
          simp [i1, r1, lst_rf (two_at0 (S := S) (left.map gD) (f.map lD)), lst_rf (two_at1 (S := S) ((left.erase g).map gD) (f.map lD)), ap1, -List.map_take, -List.map_drop, DL.execs, DL.exec, DL.ev, DL.evs, DL.evAll, Res.bind_ok, Res.out_ok, Res.test, Res.outB, asBool, Out.seq, bltV, isTV, isTy, gc_same, bindT, bindTs, wipeE]
        · rw [← q2]
          simp [fnd, hg]
      · rw [decide_eq_false hg] at i1
        have ap1 : mthV .append (rf (S.length + 1)) [.tuple [.int (g.1 : Int), .int (-2)]] (two S (left.map gD) (f.map lD)) = _ := ap _ (g.1, -2)
        refine ⟨[some (gsD l), some (gsD k), some (rf S.length), some (rf (S.length + 1)), some (gD g)], two S (left.map gD) ((f ++ [(g.1, -2)]).map lD), bodyF_eq (env2 := [some (gsD l), some (gsD k), some (rf S.length), some (rf (S.length + 1)), some (gD g)]) rfl ?_, _, _, _, rfl, rfl, ?_, by simp; omega⟩
        · generalize f ++ [((g.1, -2) : LG)] = f2 at ap1 ⊢
          simp [i1, lst_rf (two_at1 (S := S) (left.map gD) (f.map lD)), sub_g0, mkT, sizeLine_eq, ap1, -List.map_take, -List.map_drop, DL.execs, DL.exec, DL.ev, DL.evs, DL.evAll, Res.bind_ok, Res.out_ok, Res.test, Res.outB, asBool, Out.seq, bltV, isTV, isTy, gc_same, bindT, bindTs, wipeE]
        · rw [← q2]
          simp [fnd, hg])
    l [some (gsD l), some (gsD k), some (rf S.length), some (rf (S.length + 1)), none] (two S (k.map gD) []) ⟨k, [], _, rfl, rfl, rfl, by simp⟩
  subst e2 e3
  have e6 : f = fnd l k := by simpa [fnd] using e4
  subst e6
  have l1 := exec_frl (F := DL.run tab n) (S := two S (k.map gD) []) (S1 := two S (k.map gD) []) (k := .val) (its := [.v 0]) (vs := [gsD l]) (env := [some (gsD l), some (gsD k), some (rf S.length), some (rf (S.length + 1)), none]) (evs_cons (ev_v rfl) evs_nil) rfl e1
  have s1 := sorted_l (fnd l k) (two S (left.map gD) ((fnd l k).map lD)) (d := rf (S.length + 1)) (seq_rf (two_at1 _ _)) (by rw [sizeLine_eq, fnd_len]; omega)
  have fin : gc true S (.rt (lsD (lsort (fnd l k))) (two S (left.map gD) ((fnd l k).map lD))) = .ok (lsD (lsort (fnd l k))) S := gc_near hS (by simpa using near_refl S []) rfl (gnd_lsD _) rfl
  rw [b_found_guests, execs_cons a1 (execs_cons l1 (execs_ret (ev_blt1 (ev_blt1 (b := .sorted) (m := false) (ev_v rfl) s1) (r := .ok (lsD (lsort (fnd l k))) _) rfl))), fin]
/-- the late stand that is found -/
def lateD (s : List (List LG)) : D := .tuple (s.map lsD)
def fndS (st k : Stand) : List (List LG) := (st.zip k).map fun p => lsort (fnd p.1 p.2)
theorem foundst_eq (n : Nat) (ok : OkH h) (hS : lsts S = true) {rs : List Row} {kept : Nat} (hk : kept ≤ rs.length) (hr : rs.length ≤ 1000) (e : okRs h (empt h) rs) (e1 : okRs h (empt h) (rs.take kept)) (hw : ∀ r ∈ rs.drop kept, wfR h.seats.length r) :
    DL.run tab (n + 9) 17 [hD h, .tuple (rs.map rowD), .int (kept : Int)] S = .ok (lateD (fndS (runR h (empt h) rs) (runK (runR h (empt h) (rs.take kept)) (rs.drop kept)))) S := by
  rw [r_found_stand]
  have t1 := known_eq n ok hS hk hr e1 hw
  have t2 := replay_eq (n + 1) ok hS (d := .tuple (rs.map rowD)) (.inl rfl) e
  have os := okS_run ok (okS_empt h) e
  have os1 := okS_run ok (okS_empt h) e1
  have fk : ∀ (rs : List Row) (k : Stand), (∀ p, (at_ k p).length ≤ 1000) → k.length = h.seats.length → (∀ r ∈ rs, wfR h.seats.length r) → (∀ p, (at_ (runK k rs) p).length ≤ 1000) := by
    intro rs
    induction rs with
    | nil => intro k h1 _ _; exact h1
    | cons r rs ih =>
      intro k h1 h2 h3
      exact ih (stepK k r) (few_stepK h1 r (by rw [h2]; exact h3 r (List.mem_cons_self ..))) (by rw [len_stepK, h2]) fun r hr => h3 r (List.mem_cons_of_mem _ hr)
  have fk1 := fk (rs.drop kept) _ os1.few os1.len hw
  generalize runK (runR h (empt h) (rs.take kept)) (rs.drop kept) = k at t1 fk1 ⊢
  generalize runR h (empt h) rs = st at t2 os ⊢
  have few := ok.few
  have hmem : ∀ (k : Stand), (∀ p, (at_ k p).length ≤ 1000) → ∀ l ∈ k, l.length ≤ 1000 := fun k hk l hl => by
    obtain ⟨i, hi, q⟩ := List.getElem_of_mem hl
    have := hk i
    have e : at_ k i = l := by
      unfold at_
      rw [List.getD_eq_getElem?_getD, List.getElem?_eq_getElem hi, q]
      rfl
    rw [e] at this
    exact this
  have zl : ∀ {α β : Type} (f : α → D) (g : β → D) (a : List α) (b : List β), List.zipWith (fun x y => PyData.tuple [x, y]) (a.map f) (b.map g) = (a.zip b).map fun p => PyData.tuple [f p.1, g p.2] := by
    intro α β f g a
    induction a with
    | nil => intro b; rfl
    | cons x a ih =>
      intro b
      cases b with
      | nil => rfl
      | cons y b => simp [ih b]
  have c : DL.ev (DL.run tab (n + 8)) (.comp false [5, 6] (.tup [(.nm 5), (.nm 6)]) .zip [(.v 4), (.v 3)] [] (.call 16 [(.v 5), (.v 6)] [])) [some (hD h), some (.tuple (rs.map rowD)), some (.int (kept : Int)), some (standD k), some (standD st), none, none] S = .ok (.list ((fndS st k).map lsD)) S := by
    refine ev_comp (vs := [standD st, standD k]) (items := (st.zip k).map fun p => PyData.tuple [gsD p.1, gsD p.2]) (g := none) (S1 := S) (S2 := S) (evs_cons (ev_v rfl) (evs_cons (ev_v rfl) evs_nil)) ?_ ?_
    · show zipI [standD st, standD k] S = _
      simp only [zipI, standD, zl]
    · have cm := comp_map (enc := fun p : List G × List G => PyData.tuple [gsD p.1, gsD p.2]) (g := none) (S0 := S) (S1 := S) (f := compF (DL.run tab (n + 8)) [5, 6] (.tup [(.nm 5), (.nm 6)]) [] (.call 16 [(.v 5), (.v 6)] []) [some (hD h), some (.tuple (rs.map rowD)), some (.int (kept : Int)), some (standD k), some (standD st), none, none])
        (v := fun p => lsD (lsort (fnd p.1 p.2))) (st.zip k) rfl (fun p hp => by
          refine compF_some (env' := [some (hD h), some (.tuple (rs.map rowD)), some (.int (kept : Int)), some (standD k), some (standD st), some (gsD p.1), some (gsD p.2)]) rfl rfl ?_
          have h1 := hmem st os.few p.1 (List.of_mem_zip hp).1
          have h2 := hmem k fk1 p.2 (List.of_mem_zip hp).2
          have := found_eq (n + 7) hS p.1 p.2 h1 h2
          simp [this, -List.map_take, -List.map_drop, DL.execs, DL.exec, DL.ev, DL.evs, DL.evAll, Res.bind_ok, Res.out_ok, Res.test, Res.outB, asBool, Out.seq, bltV, isTV, isTy, gc_same, bindT, bindTs, wipeE]) (by rw [List.length_zip, sizeLine_eq, os.len]; omega)
      rw [cm]
      rw [fndS, List.map_map]
      rfl
  have a1 : DL.exec (DL.run tab (n + 8)) (.asg (.nm 3) (.call 15 [(.v 0), (.v 1), (.v 2)] [])) [some (hD h), some (.tuple (rs.map rowD)), some (.int (kept : Int)), none, none, none, none] S = .nx [some (hD h), some (.tuple (rs.map rowD)), some (.int (kept : Int)), some (standD k), none, none, none] S := by
    refine exec_asg (d := standD k) ?_ rfl
    simp [t1, -List.map_take, -List.map_drop, DL.execs, DL.exec, DL.ev, DL.evs, DL.evAll, Res.bind_ok, Res.out_ok, Res.test, Res.outB, asBool, Out.seq, bltV, isTV, isTy, gc_same, bindT, bindTs, wipeE]
  have a2 : DL.exec (DL.run tab (n + 8)) (.asg (.nm 4) (.call 14 [(.v 0), (.v 1)] [])) [some (hD h), some (.tuple (rs.map rowD)), some (.int (kept : Int)), some (standD k), none, none, none] S = .nx [some (hD h), some (.tuple (rs.map rowD)), some (.int (kept : Int)), some (standD k), some (standD st), none, none] S := by
    refine exec_asg (d := standD st) ?_ rfl
    simp [t2, -List.map_take, -List.map_drop, DL.execs, DL.exec, DL.ev, DL.evs, DL.evAll, Res.bind_ok, Res.out_ok, Res.test, Res.outB, asBool, Out.seq, bltV, isTV, isTy, gc_same, bindT, bindTs, wipeE]
  rw [b_found_stand, execs_cons a1 (execs_cons a2 (execs_ret (ev_blt1 c (r := .ok (lateD (fndS st k)) S) rfl))), gc_same]
end
end K86

set_option linter.all false
set_option maxRecDepth 100000
namespace K86
open PySem DL L2
/-- a guest in the law's line, and the number of the row that brought it -/
abbrev En := G × Nat
abbrev Line := List (List En)
def atN (L : Line) (p : Nat) : List En := L.getD p []
theorem get_atN {L : Line} {p : Nat} (e : p < L.length) : L[p]? = some (atN L p) := by
  unfold atN
  rw [List.getD_eq_getElem?_getD, List.getElem?_eq_getElem e]
  rfl
theorem atN_set {L : Line} {p q : Nat} {l : List En} (hp : p < L.length) : atN (L.set p l) q = if p = q then l else atN L q := by
  unfold atN
  rw [List.getD_eq_getElem?_getD, List.getD_eq_getElem?_getD, List.getElem?_set]
  split
  · simp [hp]
  · rfl
def isG (g : G) (e : En) : Bool := e.1 == g
def stepN (h : H) (L : Line) (x : Row × Nat) : Line := match x.1 with
  | .come s t => L.set (plc h s) (atN L (plc h s) ++ [((s, t), x.2)])
  | .move p g t => match g.2 with
    | none => L.set p ((atN L p).eraseP (isG g))
    | some s => (L.set p ((atN L p).eraseP (isG g))).set (plc h s) (atN (L.set p ((atN L p).eraseP (isG g))) (plc h s) ++ [((s, t), x.2)])
def runN (h : H) (L : Line) (rs : List (Row × Nat)) : Line := rs.foldl (stepN h) L
def fD (kept : Nat) (e : En) : D := .tuple [.int (e.1.1 : Int), oD e.1.2, .bool (decide (e.2 < kept))]
def layN (kept : Nat) (S : Store) (L : Line) : Store := S ++ L.map fun l => MO.lst (l.map (fD kept))
section
variable {h : H} {S : Store} {st : Stand} {n kept : Nat}
theorem layN_snoc (S : Store) (L : Line) (l : List En) : layN kept S (L ++ [l]) = layN kept S L ++ [MO.lst (l.map (fD kept))] := by simp [layN]
theorem layN_len (S : Store) (L : Line) : (layN kept S L).length = S.length + L.length := by simp [layN]
theorem layN_at {L : Line} {p : Nat} (hp : p < L.length) : atL (layN kept S L) (S.length + p) = some ((atN L p).map (fD kept)) := by
  unfold atL layN
  rw [List.getElem?_append_right (by omega)]
  have : S.length + p - S.length = p := by omega
  rw [this, List.getElem?_map, get_atN hp]
  rfl
theorem layN_set {L : Line} {p : Nat} (l : List En) : setL (layN kept S L) (S.length + p) (l.map (fD kept)) = layN kept S (L.set p l) := by
  unfold setL layN
  rw [List.set_append_right _ _ (by omega)]
  have : S.length + p - S.length = p := by omega
  rw [this, List.map_set]
/-- the lists by place -/
structure Fits (L : Line) (st : Stand) : Prop where
  len : L.length = st.length
  perm : ∀ p, ((atN L p).map (·.1)).Perm (at_ st p)
theorem map_eraseP (l : List En) (g : G) : (l.eraseP (isG g)).map (·.1) = (l.map (·.1)).erase g := by
  induction l with
  | nil => rfl
  | cons e r ih =>
    by_cases he : e.1 = g
    · have h1 : isG g e = true := beq_iff_eq.mpr he
      rw [List.eraseP_cons_of_pos h1, List.map_cons, he, List.erase_cons_head]
    · have h1 : ¬ isG g e = true := fun q => he (beq_iff_eq.mp q)
      rw [List.eraseP_cons_of_neg h1, List.map_cons, List.map_cons, ih, List.erase_cons_tail (by simpa using he)]
theorem fits_step (ok : OkH h) (os : OkS h st) {L : Line} (f : Fits L st) {r : Row} {i : Nat} (e : okR h st r) : Fits (stepN h L (r, i)) (stepR h st r) := by
  cases r with
  | come s t =>
    have hp : plc h s < st.length := by rw [os.len]; exact ok.pl s e.1
    refine ⟨by show (L.set _ _).length = (st.set _ _).length; rw [List.length_set, List.length_set, f.len], fun p => ?_⟩
    show ((atN (L.set _ _) p).map (·.1)).Perm (at_ (st.set _ _) p)
    rw [atN_set (by rw [f.len]; exact hp), at_set hp]
    split
    · rw [List.map_append]
      exact ((f.perm (plc h s)).append_right _).trans (gsort_perm _).symm
    · exact f.perm p
  | move p g t =>
    obtain ⟨e1, e2, e3, e4, e5⟩ := e
    obtain ⟨g1, g2⟩ := g
    have hL : p < L.length := by rw [f.len]; exact e1
    have f1 : Fits (L.set p ((atN L p).eraseP (isG (g1, g2)))) (st.set p (gsort ((at_ st p).erase (g1, g2)))) := by
      refine ⟨by rw [List.length_set, List.length_set, f.len], fun q => ?_⟩
      rw [atN_set hL, at_set e1]
      split
      · rw [map_eraseP]
        exact ((f.perm p).erase _).trans (gsort_perm _).symm
      · exact f.perm q
    cases g2 with
    | none => exact f1
    | some s =>
      have hs : s < h.stages.length := ok.nx g1 e2.1 s e2.2.2
      have hp : plc h s < (st.set p (gsort ((at_ st p).erase (g1, some s)))).length := by rw [List.length_set, os.len]; exact ok.pl s hs
      refine ⟨by show ((L.set _ _).set _ _).length = ((st.set _ _).set _ _).length; simp [f.len], fun q => ?_⟩
      show ((atN ((L.set p ((atN L p).eraseP (isG (g1, some s)))).set (plc h s) (atN (L.set p ((atN L p).eraseP (isG (g1, some s)))) (plc h s) ++ [((s, t), i)])) q).map (·.1)).Perm (at_ ((st.set p (gsort ((at_ st p).erase (g1, some s)))).set (plc h s) (gsort (at_ (st.set p (gsort ((at_ st p).erase (g1, some s)))) (plc h s) ++ [(s, t)]))) q)
      rw [atN_set (by rw [f1.len]; exact hp), at_set hp]
      split
      · rw [List.map_append]
        exact ((f1.perm (plc h s)).append_right _).trans (gsort_perm _).symm
      · exact f1.perm q
theorem place_f {l : List En} {g : G} (hg : g ∈ l.map (·.1)) : ∃ j, SeqAt.dataPlace (l.map fun e => gD e.1) (gD g) = some j ∧ j < l.length ∧ (l.map (fD kept)).eraseIdx j = (l.eraseP (isG g)).map (fD kept) := by
  unfold SeqAt.dataPlace
  induction l with
  | nil => simp at hg
  | cons a l ih =>
    rw [List.map_cons, List.findIdx?_cons, gD_eqv]
    by_cases e : a.1 = g
    · have h1 : isG g a = true := beq_iff_eq.mpr e
      refine ⟨0, by simp [e], by simp, ?_⟩
      rw [List.eraseP_cons_of_pos h1]
      rfl
    · have h1 : ¬ isG g a = true := fun q => e (beq_iff_eq.mp q)
      have e2 : (a.1 == g) = false := beq_eq_false_iff_ne.mpr e
      obtain ⟨j, h2, h3, h4⟩ := ih (by
        rw [List.map_cons, List.mem_cons] at hg
        rcases hg with q | q
        · exact absurd q.symm e
        · exact q)
      refine ⟨j + 1, by simp [e2, h2], by simp; omega, ?_⟩
      rw [List.eraseP_cons_of_neg h1, List.map_cons, List.eraseIdx_cons_succ, h4]
      rfl
theorem still_rf {S : Store} {k : Nat} {xs : List D} (h : atL S k = some xs) : still (some k) S S = true := by
  simp [still, h]
theorem val_rf {S : Store} {k : Nat} {xs : List D} (h : atL S k = some xs) : itemsV .val [rf k] S = .ok (xs, some k) S := by
  show valI [rf k] S = _
  simp only [valI, seq_rf h, loc_rf]
theorem line0 (n : Nat) (ok : OkH h) (d r k : D) : DL.ev (DL.run tab n) (.comp false [4] (.nm 4) .val [(.sub (.v 0) (.c (.int 0)))] [] (.lst true [])) [some (hD h), some r, some k, none, none, none, none, none, none] S =
    .ok (.list (((List.range h.seats.length).map (S.length + ·)).map rf)) (layN kept S (h.seats.map fun _ => [])) := by
  have few := ok.few
  obtain ⟨bs, S', e1, i, e2, e3, e4⟩ := comp_inv (enc := nD) (out := rf) (g := none) (S0 := S) (S1 := S) (f := compF (DL.run tab n) [4] (.nm 4) [] (.lst true []) [some (hD h), some r, some k, none, none, none, none, none, none])
    (fun l acc S' => ∃ done : List Nat, done ++ l = h.seats ∧ S' = layN kept S (done.map fun _ => []) ∧ acc = (List.range done.length).map (S.length + ·)) (fun _ _ _ _ => rfl)
    (fun x r' acc S' ⟨done, q1, q2, q3⟩ => .inl ⟨S'.length, S' ++ [MO.lst []], by
      refine compF_some (env' := [some (hD h), some r, some k, none, some (nD x), none, none, none, none]) rfl rfl ?_
      simp [mkL, -List.map_take, -List.map_drop, DL.execs, DL.exec, DL.ev, DL.evs, DL.evAll, Res.bind_ok, Res.out_ok, Res.test, Res.outB, asBool, Out.seq, bltV, isTV, isTy, gc_same, bindT, bindTs, wipeE], done ++ [x], by simp [q1], by rw [q2, List.map_append, List.map_cons, List.map_nil, layN_snoc]; rfl, by rw [q3, q2, layN_len]; simp [List.range_succ]⟩)
    h.seats ⟨[], rfl, by simp [layN], rfl⟩ (fun bs S' ⟨done, q1, _, q3⟩ => by
      rw [q3, List.length_map, List.length_range, sizeLine_eq]
      have : done.length = h.seats.length := by rw [← q1]; simp
      omega)
  have e5 : i = h.seats := by simpa using e2
  subst e5
  subst e4
  subst e3
  exact ev_comp (vs := [.tuple (h.seats.map nD)]) (items := h.seats.map nD) (g := none) (S1 := S) (by simp [sub_h0, -List.map_take, -List.map_drop, DL.execs, DL.exec, DL.ev, DL.evs, DL.evAll, Res.bind_ok, Res.out_ok, Res.test, Res.outB, asBool, Out.seq, bltV, isTV, isTy, gc_same, bindT, bindTs, wipeE]) rfl e1
end
end K86

set_option linter.all false
set_option maxRecDepth 100000
namespace K86
open PySem DL L2
section
variable {h : H} {S : Store} {st : Stand} {n kept : Nat}
theorem cmp_lt_n (a b : Nat) (S : Store) : cmpV .Lt (.int (a : Int)) (.int (b : Int)) S = .ok (.bool (decide (a < b))) S := by
  rw [cmp_lt_i]
  by_cases q : a < b
  · rw [decide_eq_true q, decide_eq_true (by omega)]
  · rw [decide_eq_false q, decide_eq_false (by omega)]
theorem cut2 (e : En) (S : Store) : slcV false (fD kept e) none (some 2) S = .ok (gD e.1) S := rfl
theorem append_f {k : Nat} {L : Line} {p : Nat} (hp : p < L.length) (hz : (atN L p).length ≤ 1000) (e : En) : mthV .append (rf (S.length + p)) [fD kept e] (layN kept S L) = .ok .none (layN kept S (L.set p (atN L p ++ [e]))) := by
  refine (onL_rf (layN_at hp)).trans ?_
  have z : ((atN L p).map (fD kept)).length < sizeLine := by rw [sizeLine_eq, List.length_map]; omega
  simp only [appendV, if_pos z]
  rw [← layN_set]
  simp only [List.map_append, List.map_cons, List.map_nil]
def fbody : List Sm := [
    .ifs (.cmp .Eq (.sub (.v 6) (.c (.int 0))) (.c (.str "come"))) [
      .exp (.mth .append (.sub (.v 3) (.sub (.sub (.sub (.v 0) (.c (.int 1))) (.sub (.v 6) (.c (.int 1)))) (.c (.int 0)))) [(.tup [(.sub (.v 6) (.c (.int 1))), (.sub (.v 6) (.c (.int 2))), (.cmp .Lt (.v 5) (.v 2))])])] [
      .asg (.nm 7) (.comp false [8] (.nm 8) .val [(.sub (.v 3) (.sub (.v 6) (.c (.int 1))))] [] (.slc false (.v 8) (.c .none) (.c (.int 2)))),
      .exp (.mth .popAt (.sub (.v 3) (.sub (.v 6) (.c (.int 1)))) [(.mth .index (.v 7) [(.sub (.v 6) (.c (.int 2)))])]),
      .ifs (.cmp .NotEq (.sub (.sub (.v 6) (.c (.int 2))) (.c (.int 1))) (.neg (.c (.int 1)))) [
        .exp (.mth .append (.sub (.v 3) (.sub (.sub (.sub (.v 0) (.c (.int 1))) (.sub (.sub (.v 6) (.c (.int 2))) (.c (.int 1)))) (.c (.int 0)))) [(.tup [(.sub (.sub (.v 6) (.c (.int 2))) (.c (.int 1))), (.sub (.v 6) (.c (.int 3))), (.cmp .Lt (.v 5) (.v 2))])])] []]]
def refs (S : Store) (P : Nat) : D := .list (((List.range P).map (S.length + ·)).map rf)
theorem sub_refs {P p : Nat} (hp : p < P) (S' : Store) : subV (refs S P) (.int (p : Int)) S' = .ok (rf (S.length + p)) S' := by
  have hb : ((List.range P).map (S.length + ·))[p]? = some (S.length + p) := by
    rw [List.getElem?_map, List.getElem?_range hp]
    rfl
  simp only [subV, refs, seqOf, atI_map hb]
theorem fstep (n : Nat) (ok : OkH h) (os : OkS h st) {L : Line} (f : Fits L st) {r : Row} {i : Nat} (e : okR h st r) (d x4 x5 x6 x7 x8) :
    ∃ y7, bodyF (DL.run tab n) (.tup [(.nm 5), (.nm 6)]) fbody (.tuple [.int (i : Int), rowD r]) [some (hD h), some d, some (.int (kept : Int)), some (refs S h.seats.length), x4, x5, x6, x7, x8] (layN kept S L) =
      .nx [some (hD h), some d, some (.int (kept : Int)), some (refs S h.seats.length), x4, some (.int (i : Int)), some (rowD r), y7, x8] (layN kept S (stepN h L (r, i))) := by
  have hlen : L.length = h.seats.length := by rw [f.len, os.len]
  have few : ∀ p, (atN L p).length ≤ 1000 := fun p => by
    have := (f.perm p).length_eq
    rw [List.length_map] at this
    rw [this]
    exact os.few p
  cases r with
  | come s t =>
    obtain ⟨e1, e2, e3⟩ := e
    have hp : plc h s < h.seats.length := ok.pl s e1
    refine ⟨x7, bodyF_eq (env2 := [some (hD h), some d, some (.int (kept : Int)), some (refs S h.seats.length), x4, some (.int (i : Int)), some (rowD (.come s t)), x7, x8]) rfl ?_⟩
    have m0 : ∀ S, subV (rowD (.come s t)) (.int 0) S = .ok (.str "come") S := fun _ => rfl
    have m1 : ∀ S, subV (rowD (.come s t)) (.int 1) S = .ok (.int (s : Int)) S := fun _ => rfl
    have m2 : ∀ S, subV (rowD (.come s t)) (.int 2) S = .ok (oD t) S := fun _ => rfl
    have q : ∀ S, cmpV .Eq (.str "come") (.str "come") S = .ok (.bool true) S := fun S => by simp [cmpV, eqOk, res, PyData.plain, PyData.depth, PyData.eqv]
    have hpl : (stg h s).1 = plc h s := rfl
    have a1 := append_f (k := 0) (S := S) (kept := kept) (L := L) (p := plc h s) (by rw [hlen]; exact hp) (few _) ((s, t), i)
    have a2 : PyData.tuple [.int (s : Int), oD t, .bool (decide (i < kept))] = fD kept ((s, t), i) := rfl
    have a3 := layN_at (S := S) (kept := kept) (L := L) (p := plc h s) (by rw [hlen]; exact hp)
    have e0 : stepN h L (.come s t, i) = L.set (plc h s) (atN L (plc h s) ++ [((s, t), i)]) := rfl
    rw [e0]
    generalize L.set (plc h s) (atN L (plc h s) ++ [((s, t), i)]) = L2 at a1 ⊢
    simp [fbody, m0, m1, m2, q, sub_h1, sub_stg e1, sub_s0, hpl, sub_refs hp, cmp_lt_n, mkT, sizeLine_eq, a2, lst_rf a3, a1, -List.map_take, -List.map_drop, DL.execs, DL.exec, DL.ev, DL.evs, DL.evAll, Res.bind_ok, Res.out_ok, Res.test, Res.outB, asBool, Out.seq, bltV, isTV, isTy, gc_same, bindT, bindTs, wipeE]
  | move p g t =>
    obtain ⟨e1, e2, e3, e4, e5⟩ := e
    have hp : p < h.seats.length := by rw [← os.len]; exact e1
    have hpL : p < L.length := by rw [hlen]; exact hp
    have hg : g ∈ (atN L p).map (·.1) := (f.perm p).mem_iff.mpr e3
    have m0 : ∀ S, subV (rowD (.move p g t)) (.int 0) S = .ok (.str "move") S := fun _ => rfl
    have m1 : ∀ S, subV (rowD (.move p g t)) (.int 1) S = .ok (.int (p : Int)) S := fun _ => rfl
    have m2 : ∀ S, subV (rowD (.move p g t)) (.int 2) S = .ok (gD g) S := fun _ => rfl
    have m3 : ∀ S, subV (rowD (.move p g t)) (.int 3) S = .ok (oD t) S := fun _ => rfl
    have q : ∀ S, cmpV .Eq (.str "move") (.str "come") S = .ok (.bool false) S := fun S => by
      have : PyData.eqv (.str "move") (.str "come") = false := by decide +kernel
      simp [cmpV, eqOk, res, PyData.plain, PyData.depth, this]
    have a1 := layN_at (S := S) (kept := kept) hpL
    obtain ⟨j, p1, p2, p3⟩ := place_f (kept := kept) hg
    -- here
    have cm := comp_map (enc := fD kept) (g := some (S.length + p)) (S0 := layN kept S L) (S1 := layN kept S L) (f := compF (DL.run tab n) [8] (.nm 8) [] (.slc false (.v 8) (.c .none) (.c (.int 2))) [some (hD h), some d, some (.int (kept : Int)), some (refs S h.seats.length), x4, some (.int (i : Int)), some (rowD (.move p g t)), x7, x8])
      (v := fun e => gD e.1) (atN L p) (still_rf a1) (fun e _ => by
        refine compF_some (env' := [some (hD h), some d, some (.int (kept : Int)), some (refs S h.seats.length), x4, some (.int (i : Int)), some (rowD (.move p g t)), x7, some (fD kept e)]) rfl rfl ?_
        simp [Res.bnd, isAbs, cut2, -List.map_take, -List.map_drop, DL.execs, DL.exec, DL.ev, DL.evs, DL.evAll, Res.bind_ok, Res.out_ok, Res.test, Res.outB, asBool, Out.seq, bltV, isTV, isTy, gc_same, bindT, bindTs, wipeE]) (by rw [sizeLine_eq]; have := few p; omega)
    have c1 := ev_comp (F := DL.run tab n) (its := [.sub (.v 3) (.sub (.v 6) (.c (.int 1)))]) (S := layN kept S L) (S1 := layN kept S L) (k := .val) (vs := [rf (S.length + p)]) (by simp [m1, sub_refs hp, -List.map_take, -List.map_drop, DL.execs, DL.exec, DL.ev, DL.evs, DL.evAll, Res.bind_ok, Res.out_ok, Res.test, Res.outB, asBool, Out.seq, bltV, isTV, isTy, gc_same, bindT, bindTs, wipeE]) (val_rf a1) cm
    have s1 : DL.exec (DL.run tab n) (.asg (.nm 7) (.comp false [8] (.nm 8) .val [(.sub (.v 3) (.sub (.v 6) (.c (.int 1))))] [] (.slc false (.v 8) (.c .none) (.c (.int 2))))) [some (hD h), some d, some (.int (kept : Int)), some (refs S h.seats.length), x4, some (.int (i : Int)), some (rowD (.move p g t)), x7, x8] (layN kept S L) =
      .nx [some (hD h), some d, some (.int (kept : Int)), some (refs S h.seats.length), x4, some (.int (i : Int)), some (rowD (.move p g t)), some (.list ((atN L p).map fun e => gD e.1)), x8] (layN kept S L) := exec_asg c1 rfl
    have i1 : mthV .index (.list ((atN L p).map fun e => gD e.1)) [gD g] (layN kept S L) = .ok (.int (j : Int)) (layN kept S L) := by
      have okk : inOk ((atN L p).map fun e => gD e.1) (gD g) = true := by
        simp only [inOk, plainAll_map (f := fun e : En => gD e.1) (fun e => gD_plain e.1), gD_plain, Bool.true_and]
        refine decide_eq_true ?_
        exact Nat.le_trans (Nat.min_le_right _ _) (gD_depth g)
      simp only [mthV, DL.indexV, lstOfM, gD_res, okk, if_true, p1]
    have w1 : mthV .popAt (rf (S.length + p)) [.int (j : Int)] (layN kept S L) = .ok (((atN L p).map (fD kept))[j]'(by simpa using p2)) (layN kept S (L.set p ((atN L p).eraseP (isG g)))) := by
      refine (onL_rf a1).trans ?_
      have hx : ixN ((atN L p).map (fD kept)).length (j : Int) = some j := by
        unfold ixN
        rw [if_pos (by omega), if_pos (by rw [List.length_map]; omega)]
        simp
      rw [← layN_set, ← p3]
      simp only [popAtV, hx]
      rw [List.getElem?_eq_getElem (by simpa using p2)]
    generalize ((atN L p).map (fD kept))[j]'(by simpa using p2) = yy at w1
    obtain ⟨g1, g2⟩ := g
    refine ⟨some (.list ((atN L p).map fun e => gD e.1)), bodyF_eq (env2 := [some (hD h), some d, some (.int (kept : Int)), some (refs S h.seats.length), x4, some (.int (i : Int)), some (rowD (.move p (g1, g2) t)), x7, x8]) rfl ?_⟩
    have ll : lstOf (layN kept S L) (.list ((atN L p).map fun e => gD e.1)) = some ((atN L p).map fun e => gD e.1) := rfl
    cases g2 with
    | none =>
      have e0 : stepN h L (.move p (g1, none) t, i) = L.set p ((atN L p).eraseP (isG (g1, none))) := rfl
      rw [e0]
      generalize L.set p ((atN L p).eraseP (isG (g1, none))) = L2 at w1 ⊢
      have o0 : ∀ S', cmpV .NotEq (oD none) (.int (-1)) S' = .ok (.bool false) S' := fun S' => cmp_ne_i _ _
      have s2 : DL.exec (DL.run tab n) (.ifs (.cmp .Eq (.sub (.v 6) (.c (.int 0))) (.c (.str "come"))) [] []) [] S = .bad ∨ True := .inr trivial
      generalize (atN L p).map (fun e => gD e.1) = hh at *
      simp only [fbody]
      refine execs_cons (env' := [some (hD h), some d, some (.int (kept : Int)), some (refs S h.seats.length), x4, some (.int (i : Int)), some (rowD (.move p (g1, none) t)), some (.list hh), x8]) (S1 := layN kept S L2) ?_ execs_nil
      show Res.outB _ _ _ = _
      have t1 : DL.ev (DL.run tab n) (.cmp .Eq (.sub (.v 6) (.c (.int 0))) (.c (.str "come"))) [some (hD h), some d, some (.int (kept : Int)), some (refs S h.seats.length), x4, some (.int (i : Int)), some (rowD (.move p (g1, none) t)), x7, x8] (layN kept S L) = .ok (.bool false) (layN kept S L) := by
        simp [m0, q, -List.map_take, -List.map_drop, DL.execs, DL.exec, DL.ev, DL.evs, DL.evAll, Res.bind_ok, Res.out_ok, Res.test, Res.outB, asBool, Out.seq, bltV, isTV, isTy, gc_same, bindT, bindTs, wipeE]
      simp only [Res.outB, t1, Res.out_ok, asBool, Bool.false_eq_true, if_false]
      refine execs_cons s1 ?_
      simp [m1, m2, m3, sub_refs hp, lst_rf a1, ll, i1, w1, sub_g1, o0, -List.map_take, -List.map_drop, DL.execs, DL.exec, DL.ev, DL.evs, DL.evAll, Res.bind_ok, Res.out_ok, Res.test, Res.outB, asBool, Out.seq, bltV, isTV, isTy, gc_same, bindT, bindTs, wipeE]
    | some s =>
      have hs : s < h.stages.length := ok.nx g1 e2.1 s e2.2.2
      have hp2 := ok.pl s hs
      have o0 : ∀ S', cmpV .NotEq (oD (some s)) (.int (-1)) S' = .ok (.bool true) S' := fun S' => by
        have h1 : ((s : Int) ≠ -1) := by omega
        have := cmp_ne_i (S := S') (s : Int) (-1)
        rw [decide_eq_true h1] at this
        exact this
      have hL2 : (L.set p ((atN L p).eraseP (isG (g1, some s)))).length = L.length := List.length_set
      have few2 : (atN (L.set p ((atN L p).eraseP (isG (g1, some s)))) (plc h s)).length ≤ 1000 := by
        rw [atN_set hpL]
        split
        · exact Nat.le_trans (List.length_eraseP_le ..) (few p)
        · exact few _
      have e0 : stepN h L (.move p (g1, some s) t, i) = (L.set p ((atN L p).eraseP (isG (g1, some s)))).set (plc h s) (atN (L.set p ((atN L p).eraseP (isG (g1, some s)))) (plc h s) ++ [((s, t), i)]) := rfl
      rw [e0]
      generalize L.set p ((atN L p).eraseP (isG (g1, some s))) = L2 at w1 hL2 few2 ⊢
      have hpl : (stg h s).1 = plc h s := rfl
      have b1 := append_f (k := 0) (S := S) (kept := kept) (L := L2) (p := plc h s) (by rw [hL2, hlen]; exact hp2) few2 ((s, t), i)
      have b2 : PyData.tuple [oD (some s), oD t, .bool (decide (i < kept))] = fD kept ((s, t), i) := rfl
      have b3 := layN_at (S := S) (kept := kept) (L := L2) (p := plc h s) (by rw [hL2, hlen]; exact hp2)
      have b4 : ∀ S', subV (.tuple (h.stages.map stgD)) (oD (some s)) S' = .ok (stgD (stg h s)) S' := fun S' => sub_stg hs S'
      generalize L2.set (plc h s) (atN L2 (plc h s) ++ [((s, t), i)]) = L3 at b1 ⊢
      generalize (atN L p).map (fun e => gD e.1) = hh at *
      simp only [fbody]
      refine execs_cons (env' := [some (hD h), some d, some (.int (kept : Int)), some (refs S h.seats.length), x4, some (.int (i : Int)), some (rowD (.move p (g1, some s) t)), some (.list hh), x8]) (S1 := layN kept S L3) ?_ execs_nil
      show Res.outB _ _ _ = _
      have t1 : DL.ev (DL.run tab n) (.cmp .Eq (.sub (.v 6) (.c (.int 0))) (.c (.str "come"))) [some (hD h), some d, some (.int (kept : Int)), some (refs S h.seats.length), x4, some (.int (i : Int)), some (rowD (.move p (g1, some s) t)), x7, x8] (layN kept S L) = .ok (.bool false) (layN kept S L) := by
        simp [m0, q, -List.map_take, -List.map_drop, DL.execs, DL.exec, DL.ev, DL.evs, DL.evAll, Res.bind_ok, Res.out_ok, Res.test, Res.outB, asBool, Out.seq, bltV, isTV, isTy, gc_same, bindT, bindTs, wipeE]
      simp only [Res.outB, t1, Res.out_ok, asBool, Bool.false_eq_true, if_false]
      refine execs_cons s1 ?_
      simp [m1, m2, m3, sub_refs hp, lst_rf a1, ll, i1, w1, sub_g1, o0, sub_h1, b4, sub_s0, hpl, sub_refs hp2, lst_rf b3, cmp_lt_n, mkT, sizeLine_eq, b2, b1, -List.map_take, -List.map_drop, DL.execs, DL.exec, DL.ev, DL.evs, DL.evAll, Res.bind_ok, Res.out_ok, Res.test, Res.outB, asBool, Out.seq, bltV, isTV, isTy, gc_same, bindT, bindTs, wipeE]
end
end K86

set_option linter.all false
set_option maxRecDepth 100000
namespace K86
open PySem DL L2
section
variable {h : H} {S : Store} {st : Stand} {n kept : Nat}
def rowN (x : Row × Nat) : D := .tuple [.int (x.2 : Int), rowD x.1]
theorem enum_rows (rs : List Row) : (rs.map rowD).mapIdx (fun i x => PyData.tuple [.int i, x]) = rs.zipIdx.map rowN := by
  refine List.ext_getElem? fun i => ?_
  rw [List.getElem?_mapIdx, List.getElem?_map, List.getElem?_map, List.getElem?_zipIdx]
  cases rs[i]? with
  | none => rfl
  | some r => simp [rowN]
theorem gc_refs {P : Nat} (hP : 0 < P) (S' : Store) : gc true S (.rt (refs S P) S') = .ok (refs S P) S' := by
  have e1 : handOut true S.length S' (refs S P) = refs S P := rfl
  have e2 : below S.length (refs S P) = false := by
    unfold refs
    rw [below]
    obtain ⟨m, rfl⟩ : ∃ m, P = m + 1 := ⟨P - 1, by omega⟩
    rw [List.range_succ_eq_map, List.map_cons, List.map_cons, belowL]
    have : below S.length (rf (S.length + 0)) = false := by simp [below]
    rw [this, Bool.false_and]
  simp only [gc, e1, e2, Bool.false_and, Bool.false_eq_true, if_false]
def lineE (h : H) : Line := h.seats.map fun _ => []
def lineN (h : H) (rs : List Row) : Line := runN h (lineE h) rs.zipIdx
theorem fits0 (h : H) : Fits (lineE h) (empt h) := by
  refine ⟨by simp [lineE, empt], fun p => ?_⟩
  have e1 : at_ (empt h) p = [] := by
    unfold at_ empt
    rw [List.getD_eq_getElem?_getD, List.getElem?_map]
    cases h.seats[p]? <;> rfl
  have e2 : atN (lineE h) p = [] := by
    unfold atN lineE
    rw [List.getD_eq_getElem?_getD, List.getElem?_map]
    cases h.seats[p]? <;> rfl
  rw [e1, e2]
  exact .nil
theorem map_zip (rs : List Row) (k : Nat) : (rs.zipIdx k).map (·.1) = rs := by
  induction rs generalizing k with
  | nil => rfl
  | cons r rs ih => simp [List.zipIdx_cons, ih]
theorem fits_run (ok : OkH h) : ∀ (l : List (Row × Nat)) {L : Line} {st : Stand}, Fits L st → OkS h st → okRs h st (l.map (·.1)) → Fits (runN h L l) (runR h st (l.map (·.1)))
  | [], L, st, f, _, _ => f
  | (r, i) :: l, L, st, f, os, e => fits_run ok l (fits_step ok os f e.1) (okS_step ok os e.1) e.2
theorem found_line (n : Nat) (ok : OkH h) (hP : 0 < h.seats.length) (kept : Nat) {rs : List Row} (e : okRs h (empt h) rs) :
    DL.run tab (n + 1) 29 [hD h, .list (rs.map rowD), .int (kept : Int)] S = .ok (refs S h.seats.length) (layN kept S (lineN h rs)) := by
  rw [r__law_found]
  have c1 := K86.line0 (kept := kept) (S := S) n ok .none (.list (rs.map rowD)) (.int (kept : Int))
  have s1 : DL.exec (DL.run tab n) (.asg (.nm 3) (.comp false [4] (.nm 4) .val [(.sub (.v 0) (.c (.int 0)))] [] (.lst true []))) [some (hD h), some (.list (rs.map rowD)), some (.int (kept : Int)), none, none, none, none, none, none] S =
    .nx [some (hD h), some (.list (rs.map rowD)), some (.int (kept : Int)), some (refs S h.seats.length), none, none, none, none, none] (layN kept S (h.seats.map fun _ => [])) := exec_asg c1 rfl
  obtain ⟨env', S', e1, L, st, y5, y6, y7, e2, e3, e4⟩ := forLoop_inv (enc := rowN) (g := none) (S0 := layN kept S (h.seats.map fun _ => [])) (f := bodyF (DL.run tab n) (.tup [(.nm 5), (.nm 6)]) fbody)
    (fun l env S' => ∃ L st y5 y6 y7, env = [some (hD h), some (.list (rs.map rowD)), some (.int (kept : Int)), some (refs S h.seats.length), none, y5, y6, y7, none] ∧ S' = layN kept S L ∧ Fits L st ∧ OkS h st ∧ okRs h st (l.map (·.1)) ∧ runN h L l = lineN h rs) (fun _ _ _ _ => rfl)
    (fun x l env S' ⟨L, st, y5, y6, y7, q0, q1, q2, q3, q4, q5⟩ => by
      subst q0 q1
      obtain ⟨r, i⟩ := x
      obtain ⟨y, hy⟩ := fstep (S := S) (kept := kept) n ok q3 q2 (r := r) (i := i) q4.1 (.list (rs.map rowD)) none y5 y6 y7 none
      exact ⟨_, _, hy, stepN h L (r, i), stepR h st r, _, _, _, rfl, rfl, fits_step ok q3 q2 q4.1, okS_step ok q3 q4.1, q4.2, q5⟩)
    rs.zipIdx [some (hD h), some (.list (rs.map rowD)), some (.int (kept : Int)), some (refs S h.seats.length), none, none, none, none, none] (layN kept S (h.seats.map fun _ => [])) ⟨lineE h, empt h, _, _, _, rfl, rfl, fits0 h, okS_empt h, by rw [map_zip]; exact e, rfl⟩
  obtain ⟨q2, q3, q4, q5⟩ := e4
  subst e2 e3
  have e6 : L = lineN h rs := q5
  subst e6
  have l1 := exec_frl (F := DL.run tab n) (S := layN kept S (h.seats.map fun _ => [])) (S1 := layN kept S (h.seats.map fun _ => [])) (k := .enum) (its := [.v 1]) (vs := [.list (rs.map rowD)])
    (env := [some (hD h), some (.list (rs.map rowD)), some (.int (kept : Int)), some (refs S h.seats.length), none, none, none, none, none]) (evs_cons (ev_v rfl) evs_nil) (show enumI [.list (rs.map rowD)] _ = _ by simp only [enumI, seqOf, enum_rows]; rfl) e1
  have e0 : b__law_found = [.asg (.nm 3) (.comp false [4] (.nm 4) .val [(.sub (.v 0) (.c (.int 0)))] [] (.lst true [])), .frl (.tup [(.nm 5), (.nm 6)]) .enum [(.v 1)] fbody, .ret (.v 3)] := rfl
  rw [e0, execs_cons s1 (execs_cons l1 (execs_ret (ev_v rfl))), gc_refs hP]
/-! ### the late stand of the law -/
def lt (kept : Nat) (e : En) : LG := if e.2 < kept then lg e.1 else (e.1.1, -2)
def lateN (kept : Nat) (L : Line) : List (List LG) := L.map fun l => lsort (l.map (lt kept))
theorem lD_lt (kept : Nat) (e : En) : lD (lt kept e) = .tuple [.int (e.1.1 : Int), if e.2 < kept then oD e.1.2 else .int (-2)] := by
  unfold lt
  split <;> rfl
theorem map_refsN (k : Line) : ((List.range k.length).map (S.length + ·)).map (fun i => lsD (lsort ((atN k (i - S.length)).map (lt kept)))) = (lateN kept k).map lsD := by
  refine List.ext_getElem? fun i => ?_
  unfold lateN
  by_cases hi : i < k.length
  · rw [List.getElem?_map, List.getElem?_map, List.getElem?_map, List.getElem?_map, List.getElem?_range hi, get_atN hi]
    have : S.length + i - S.length = i := by omega
    simp only [Option.map_some, this]
  · rw [List.getElem?_eq_none (by simpa using hi), List.getElem?_eq_none (by simpa using hi)]
theorem late_eq (n : Nat) {L : Line} (hl : ∀ p, (atN L p).length ≤ 1000) (hP : L.length ≤ 1000) : DL.run tab (n + 1) 30 [refs S L.length] (layN kept S L) = .ok (lateD (lateN kept L)) (layN kept S L) := by
  rw [r__law_late]
  generalize hS1 : layN kept S L = S1
  have inner : ∀ j, j < L.length → DL.ev (DL.run tab n) (.comp false [1] (.nm 1) .val [(.v 2)] [] (.tup [(.sub (.v 1) (.c (.int 0))), (.ite (.sub (.v 1) (.c (.int 2))) (.sub (.v 1) (.c (.int 1))) (.neg (.c (.int 2))))])) [some (refs S L.length), none, some (rf (S.length + j))] S1 = .ok (.list (((atN L j).map (lt kept)).map lD)) S1 := fun j hj => by
    have a1 : atL S1 (S.length + j) = some ((atN L j).map (fD kept)) := by rw [← hS1]; exact layN_at hj
    have cm := comp_map (enc := fD kept) (g := some (S.length + j)) (S0 := S1) (S1 := S1) (f := compF (DL.run tab n) [1] (.nm 1) [] (.tup [(.sub (.v 1) (.c (.int 0))), (.ite (.sub (.v 1) (.c (.int 2))) (.sub (.v 1) (.c (.int 1))) (.neg (.c (.int 2))))]) [some (refs S L.length), none, some (rf (S.length + j))])
      (v := fun e => lD (lt kept e)) (atN L j) (still_rf a1) (fun e _ => by
        refine compF_some (env' := [some (refs S L.length), some (fD kept e), some (rf (S.length + j))]) rfl rfl ?_
        have m0 : subV (fD kept e) (.int 0) S1 = .ok (.int (e.1.1 : Int)) S1 := rfl
        have m1 : subV (fD kept e) (.int 1) S1 = .ok (oD e.1.2) S1 := rfl
        have m2 : subV (fD kept e) (.int 2) S1 = .ok (.bool (decide (e.2 < kept))) S1 := rfl
        rw [lD_lt]
        by_cases q : e.2 < kept
        · simp [m0, m1, m2, q, mkT, sizeLine_eq, -List.map_take, -List.map_drop, DL.execs, DL.exec, DL.ev, DL.evs, DL.evAll, Res.bind_ok, Res.out_ok, Res.test, Res.outB, asBool, Out.seq, bltV, isTV, isTy, gc_same, bindT, bindTs, wipeE]
        · simp [m0, m1, m2, q, mkT, sizeLine_eq, -List.map_take, -List.map_drop, DL.execs, DL.exec, DL.ev, DL.evs, DL.evAll, Res.bind_ok, Res.out_ok, Res.test, Res.outB, asBool, Out.seq, bltV, isTV, isTy, gc_same, bindT, bindTs, wipeE]) (by rw [sizeLine_eq]; have := hl j; omega)
    have c := ev_comp (F := DL.run tab n) (its := [.v 2]) (S := S1) (S1 := S1) (k := .val) (vs := [rf (S.length + j)]) (env := [some (refs S L.length), none, some (rf (S.length + j))]) (evs_cons (ev_v rfl) evs_nil) (val_rf a1) cm
    rw [c, List.map_map]
    rfl
  have cm := comp_map (enc := rf) (g := none) (S0 := S1) (S1 := S1) (f := compF (DL.run tab n) [2] (.nm 2) [] (.blt .tuple false [(.blt .sorted false [(.comp false [1] (.nm 1) .val [(.v 2)] [] (.tup [(.sub (.v 1) (.c (.int 0))), (.ite (.sub (.v 1) (.c (.int 2))) (.sub (.v 1) (.c (.int 1))) (.neg (.c (.int 2))))]))])]) [some (refs S L.length), none, none])
    (v := fun i => lsD (lsort ((atN L (i - S.length)).map (lt kept)))) ((List.range L.length).map (S.length + ·)) rfl (fun i hi => by
      obtain ⟨j, hj, rfl⟩ := List.mem_map.mp hi
      have hj' : j < L.length := by simpa using hj
      refine compF_some (env' := [some (refs S L.length), none, some (rf (S.length + j))]) rfl rfl ?_
      have e8 : S.length + j - S.length = j := by omega
      rw [e8]
      have so : bltV .sorted false [.list (((atN L j).map (lt kept)).map lD)] S1 = _ := sorted_l (d := .list (((atN L j).map (lt kept)).map lD)) ((atN L j).map (lt kept)) S1 rfl (by rw [sizeLine_eq, List.length_map]; have := hl j; omega)
      exact ev_blt1 (ev_blt1 (inner j hj') so) rfl) (by rw [List.length_map, List.length_range, sizeLine_eq]; omega)
  have c := ev_comp (F := DL.run tab n) (its := [.v 0]) (S := S1) (S1 := S1) (k := .val) (vs := [refs S L.length]) (env := [some (refs S L.length), none, none]) (evs_cons (ev_v rfl) evs_nil) rfl cm
  rw [map_refsN] at c
  rw [b__law_late, execs_ret (ev_blt1 c (r := .ok (lateD (lateN kept L)) S1) rfl), gc_same]
def cnt (l : List LG) : Nat := (l.filterMap fun e => if e.2 = -2 then none else some (lD e)).length
theorem known_cnt (n : Nat) (s : List (List LG)) (hl : ∀ l ∈ s, l.length ≤ 1000) (hP : s.length ≤ 1000) (S : Store) : DL.run tab (n + 1) 31 [lateD s] S = .ok (.int (s.map fun l => (cnt l : Int)).sum) S := by
  rw [r__law_known]
  have inner : ∀ l : List LG, l.length ≤ 1000 → DL.ev (DL.run tab n) (.comp false [1] (.nm 1) .val [(.v 2)] [(.cmp .NotEq (.sub (.v 1) (.c (.int 1))) (.neg (.c (.int 2))))] (.v 1)) [some (lateD s), none, some (lsD l)] S = .ok (.list (l.filterMap fun e => if e.2 = -2 then none else some (lD e))) S := fun l hl => by
    have cm := comp_same (enc := lD) (g := none) (S0 := S) (S1 := S) (f := compF (DL.run tab n) [1] (.nm 1) [(.cmp .NotEq (.sub (.v 1) (.c (.int 1))) (.neg (.c (.int 2))))] (.v 1) [some (lateD s), none, some (lsD l)])
      (v := fun e => if e.2 = -2 then none else some (lD e)) l rfl (fun e _ => by
        have m1 : subV (lD e) (.int 1) S = .ok (.int e.2) S := rfl
        by_cases q : e.2 = -2
        · rw [if_pos q]
          refine compF_none (env' := [some (lateD s), some (lD e), some (lsD l)]) rfl ?_
          simp [m1, cmp_ne_i, q, -List.map_take, -List.map_drop, DL.execs, DL.exec, DL.ev, DL.evs, DL.evAll, Res.bind_ok, Res.out_ok, Res.test, Res.outB, asBool, Out.seq, bltV, isTV, isTy, gc_same, bindT, bindTs, wipeE]
        · rw [if_neg q]
          refine compF_some (env' := [some (lateD s), some (lD e), some (lsD l)]) (S1 := S) rfl ?_ (ev_v rfl)
          simp [m1, cmp_ne_i, q, -List.map_take, -List.map_drop, DL.execs, DL.exec, DL.ev, DL.evs, DL.evAll, Res.bind_ok, Res.out_ok, Res.test, Res.outB, asBool, Out.seq, bltV, isTV, isTy, gc_same, bindT, bindTs, wipeE]) (by rw [sizeLine_eq]; omega)
    exact ev_comp (F := DL.run tab n) (its := [.v 2]) (S := S) (S1 := S) (k := .val) (vs := [lsD l]) (evs_cons (ev_v rfl) evs_nil) rfl cm
  have cm := comp_map (enc := lsD) (g := none) (S0 := S) (S1 := S) (f := compF (DL.run tab n) [2] (.nm 2) [] (.blt .len false [(.comp false [1] (.nm 1) .val [(.v 2)] [(.cmp .NotEq (.sub (.v 1) (.c (.int 1))) (.neg (.c (.int 2))))] (.v 1))]) [some (lateD s), none, none])
    (v := fun l => .int (cnt l : Int)) s rfl (fun l hm => by
      refine compF_some (env' := [some (lateD s), none, some (lsD l)]) rfl rfl (ev_blt1 (inner l (hl l hm)) ?_)
      rfl) (by rw [sizeLine_eq]; omega)
  have c := ev_comp (F := DL.run tab n) (its := [.v 0]) (S := S) (S1 := S) (k := .val) (vs := [lateD s]) (env := [some (lateD s), none, none]) (evs_cons (ev_v rfl) evs_nil) rfl cm
  have e : s.map (fun l => PyData.int (cnt l : Int)) = (s.map fun l => (cnt l : Int)).map .int := by rw [List.map_map]; rfl
  rw [e] at c
  rw [b__law_known, execs_ret (ev_blt1 c (r := .ok (.int (s.map fun l => (cnt l : Int)).sum) S) (by simp only [bltV, sumV, lstOf, intsOf_map])), gc_same]
/-! ### the same -/
theorem same_int (n : Nat) (i : Int) (S : Store) : DL.run tab (n + 1) 21 [.int i, .int i] S = .ok (.bool true) S := by
  rw [r__law_same]
  have o1 : cmpV .Is (.int i) (.bool true) S = .ok (.bool false) S := rfl
  have o2 : cmpV .Is (.int i) (.bool false) S = .ok (.bool false) S := rfl
  simp [b__law_same, cmp_isN, isNone, o1, o2, cmp_eq_i, -List.map_take, -List.map_drop, DL.execs, DL.exec, DL.ev, DL.evs, DL.evAll, Res.bind_ok, Res.out_ok, Res.test, Res.outB, asBool, Out.seq, bltV, isTV, isTy, gc_same, bindT, bindTs, wipeE]
theorem same_tup (n : Nat) (xs : List D) (S : Store) (hx : ∀ x ∈ xs, DL.run tab n 21 [x, x] S = .ok (.bool true) S) : DL.run tab (n + 1) 21 [.tuple xs, .tuple xs] S = .ok (.bool true) S := by
  rw [r__law_same]
  have zz : List.zipWith (fun x y => PyData.tuple [x, y]) xs xs = xs.map fun x => PyData.tuple [x, x] := by
    induction xs with
    | nil => rfl
    | cons x r ih => simp [ih fun y hy => hx y (List.mem_cons_of_mem _ hy)]
  obtain ⟨env', S', e1, y2, y3, e2, e3, e4⟩ := forLoop_inv (enc := fun x => PyData.tuple [x, x]) (g := none) (S0 := S) (f := bodyF (DL.run tab n) (.tup [(.nm 2), (.nm 3)]) [.ifs (.not (.call 21 [(.v 2), (.v 3)] [])) [.ret (.c (.bool false))] []])
    (fun l env S' => ∃ y2 y3, env = [some (.tuple xs), some (.tuple xs), y2, y3] ∧ S' = S ∧ ∀ x ∈ l, x ∈ xs) (fun _ _ _ _ => rfl)
    (fun x l env S' ⟨y2, y3, q0, q1, q2⟩ => by
      subst q0 q1
      refine ⟨_, _, bodyF_eq (env2 := [some (.tuple xs), some (.tuple xs), some x, some x]) (o := .nx [some (.tuple xs), some (.tuple xs), some x, some x] S') rfl ?_, _, _, rfl, rfl, fun y hy => q2 y (List.mem_cons_of_mem _ hy)⟩
      simp [hx x (q2 x (List.mem_cons_self ..)), -List.map_take, -List.map_drop, DL.execs, DL.exec, DL.ev, DL.evs, DL.evAll, Res.bind_ok, Res.out_ok, Res.test, Res.outB, asBool, Out.seq, bltV, isTV, isTy, gc_same, bindT, bindTs, wipeE])
    xs [some (.tuple xs), some (.tuple xs), none, none] S ⟨_, _, rfl, rfl, fun x hx => hx⟩
  subst e2 e3
  have l1 := exec_frl (F := DL.run tab n) (S := S') (S1 := S') (k := .zip) (its := [.v 0, .v 1]) (vs := [.tuple xs, .tuple xs]) (env := [some (.tuple xs), some (.tuple xs), none, none]) (evs_cons (ev_v rfl) (evs_cons (ev_v rfl) evs_nil)) (show zipI [.tuple xs, .tuple xs] S' = _ by simp only [zipI, zz]) e1
  have hl : lenV [.tuple xs] S' = .ok (.int (xs.length : Int)) S' := rfl
  have t1 : DL.ev (DL.run tab n) (.blt (.isT 2) false [(.v 1)]) [some (.tuple xs), some (.tuple xs), none, none] S' = .ok (.bool true) S' := by simp [-List.map_take, -List.map_drop, DL.execs, DL.exec, DL.ev, DL.evs, DL.evAll, Res.bind_ok, Res.out_ok, Res.test, Res.outB, asBool, Out.seq, bltV, isTV, isTy, gc_same, bindT, bindTs, wipeE]
  have t2 : DL.ev (DL.run tab n) (.or (.not (.blt (.isT 2) false [(.v 0)])) (.cmp .NotEq (.blt .len false [(.v 0)]) (.blt .len false [(.v 1)]))) [some (.tuple xs), some (.tuple xs), none, none] S' = .ok (.bool false) S' := by simp [hl, cmp_ne_i, -List.map_take, -List.map_drop, DL.execs, DL.exec, DL.ev, DL.evs, DL.evAll, Res.bind_ok, Res.out_ok, Res.test, Res.outB, asBool, Out.seq, bltV, isTV, isTy, gc_same, bindT, bindTs, wipeE]
  rw [b__law_same, execs_rt (exec_ifT t1 (execs_cons (exec_ifF t2 execs_nil) (execs_cons l1 (execs_ret rfl)))), gc_same]
theorem same_l (n : Nat) (g : LG) (S : Store) : DL.run tab (n + 2) 21 [lD g, lD g] S = .ok (.bool true) S :=
  same_tup (n + 1) _ S fun x hx => by
    simp only [List.mem_cons, List.not_mem_nil, or_false] at hx
    rcases hx with rfl | rfl <;> exact same_int n _ S
theorem same_late (n : Nat) (s : List (List LG)) (S : Store) : DL.run tab (n + 4) 21 [lateD s, lateD s] S = .ok (.bool true) S :=
  same_tup (n + 3) _ S fun x hx => by
    obtain ⟨l, _, rfl⟩ := List.mem_map.mp hx
    refine same_tup (n + 2) _ S fun y hy => ?_
    obtain ⟨g, _, rfl⟩ := List.mem_map.mp hy
    exact same_l n g S
end
end K86

set_option linter.all false
set_option maxRecDepth 100000
namespace K86
open PySem DL L2
section
variable {h : H} {st : Stand} {kept : Nat}
theorem okRs_app : ∀ {a b : List Row} {st : Stand}, okRs h st (a ++ b) → okRs h st a ∧ okRs h (runR h st a) b
  | [], b, st, e => ⟨trivial, e⟩
  | r :: a, b, st, e => by
    obtain ⟨e1, e2⟩ := okRs_app (a := a) e.2
    exact ⟨⟨e.1, e1⟩, e2⟩
theorem okRs_join : ∀ {a b : List Row} {st : Stand}, okRs h st a → okRs h (runR h st a) b → okRs h st (a ++ b)
  | [], b, st, _, e => e
  | r :: a, b, st, e, f => ⟨e.1, okRs_join (a := a) e.2 f⟩
theorem okRs_wf (ok : OkH h) : ∀ {rs : List Row} {st : Stand}, OkS h st → okRs h st rs → ∀ r ∈ rs, wfR h.seats.length r
  | [], st, os, e, r, hr => nomatch hr
  | x :: rs, st, os, e, r, hr => by
    rcases List.mem_cons.mp hr with q | q
    · subst q
      cases r with
      | come s t => trivial
      | move p g t =>
        show p < _
        rw [← os.len]
        exact e.1.1
    · exact okRs_wf ok (okS_step ok os e.1) e.2 r q
theorem atN_set' (L : Line) (p q : Nat) (l : List En) : atN (L.set p l) q = l ∨ atN (L.set p l) q = atN L q := by
  by_cases hp : p < L.length
  · rw [atN_set hp]
    split
    · exact .inl rfl
    · exact .inr rfl
  · rw [List.set_eq_of_length_le (by omega)]
    exact .inr rfl
/-- the numbers rise, all are below i -/
def numOK (i : Nat) (L : Line) : Prop := ∀ p, (atN L p).Pairwise (fun a b => a.2 < b.2) ∧ ∀ e ∈ atN L p, e.2 < i
theorem num_erase {i : Nat} {L : Line} (H : numOK i L) (p : Nat) (g : G) : numOK i (L.set p ((atN L p).eraseP (isG g))) := by
  intro q
  rcases atN_set' L p q ((atN L p).eraseP (isG g)) with e | e
  · rw [e]
    exact ⟨(H p).1.sublist List.eraseP_sublist, fun x hx => (H p).2 x (List.mem_of_mem_eraseP hx)⟩
  · rw [e]
    exact H q
theorem num_snoc {i : Nat} {L : Line} (H : numOK i L) (p : Nat) (g : G) : numOK (i + 1) (L.set p (atN L p ++ [(g, i)])) := by
  intro q
  rcases atN_set' L p q (atN L p ++ [(g, i)]) with e | e
  · rw [e]
    refine ⟨List.pairwise_append.mpr ⟨(H p).1, List.pairwise_singleton _ _, fun a ha b hb => ?_⟩, fun x hx => ?_⟩
    · simp only [List.mem_singleton] at hb
      subst hb
      exact (H p).2 a ha
    · rcases List.mem_append.mp hx with q | q
      · exact Nat.lt_succ_of_lt ((H p).2 x q)
      · simp only [List.mem_singleton] at q
        subst q
        exact Nat.lt_succ_self _
  · rw [e]
    exact ⟨(H q).1, fun x hx => Nat.lt_succ_of_lt ((H q).2 x hx)⟩
theorem num_up {i : Nat} {L : Line} (H : numOK i L) : numOK (i + 1) L := fun q => ⟨(H q).1, fun x hx => Nat.lt_succ_of_lt ((H q).2 x hx)⟩
theorem num_step {i : Nat} {L : Line} (H : numOK i L) (r : Row) : numOK (i + 1) (stepN h L (r, i)) := by
  cases r with
  | come s t => exact num_snoc H _ _
  | move p g t =>
    obtain ⟨g1, g2⟩ := g
    cases g2 with
    | none => exact num_up (num_erase H _ _)
    | some s => exact num_snoc (num_erase H _ _) _ _
theorem num_run : ∀ (rs : List Row) {i : Nat} {L : Line}, numOK i L → numOK (i + rs.length) (runN h L (rs.zipIdx i))
  | [], i, L, H => H
  | r :: rs, i, L, H => by
    have := num_run rs (num_step (h := h) H r)
    rw [List.zipIdx_cons, List.length_cons]
    rw [show i + (rs.length + 1) = i + 1 + rs.length by omega]
    exact this
/-- the flagged ones -/
def fl (kept : Nat) (e : En) : Bool := decide (e.2 < kept)
def KF (kept : Nat) (L : Line) (K : Stand) : Prop := K.length = L.length ∧ ∀ p, (((atN L p).filter (fl kept)).map (·.1)).Perm (at_ K p)
theorem filter_erase (g : G) : ∀ (l : List En), l.Pairwise (fun a b => a.2 < b.2) → ((l.eraseP (isG g)).filter (fl kept)).map (·.1) = ((l.filter (fl kept)).map (·.1)).erase g
  | [], _ => rfl
  | e :: r, hp => by
    obtain ⟨h1, h2⟩ := List.pairwise_cons.mp hp
    by_cases he : e.1 = g
    · rw [List.eraseP_cons_of_pos (show isG g e = true from beq_iff_eq.mpr he)]
      by_cases hf : fl kept e = true
      · rw [List.filter_cons_of_pos hf, List.map_cons, he, List.erase_cons_head]
      · have none_ : r.filter (fl kept) = [] := by
          rw [List.filter_eq_nil_iff]
          intro x hx q
          have a := h1 x hx
          simp only [fl, decide_eq_true_eq] at q hf
          omega
        rw [List.filter_cons_of_neg hf, none_]
        rfl
    · rw [List.eraseP_cons_of_neg (show ¬ isG g e = true from fun q => he (beq_iff_eq.mp q))]
      by_cases hf : fl kept e = true
      · rw [List.filter_cons_of_pos hf, List.filter_cons_of_pos hf, List.map_cons, List.map_cons, filter_erase g r h2, List.erase_cons_tail (by simpa using he)]
      · rw [List.filter_cons_of_neg hf, List.filter_cons_of_neg hf, filter_erase g r h2]
theorem KF_snoc {L : Line} {K : Stand} {i : Nat} (H : KF kept L K) (hi : kept ≤ i) (p : Nat) (g : G) : KF kept (L.set p (atN L p ++ [(g, i)])) K := by
  refine ⟨by rw [List.length_set]; exact H.1, fun q => ?_⟩
  by_cases hp : p < L.length
  · rw [atN_set hp]
    split
    · rename_i e
      subst e
      have : fl kept (g, i) = false := by simp [fl]; omega
      rw [List.filter_append]
      simp [this]
      exact H.2 p
    · exact H.2 q
  · rw [List.set_eq_of_length_le (by omega)]
    exact H.2 q
theorem KF_erase {L : Line} {K : Stand} {i : Nat} (H : KF kept L K) (N : numOK i L) {p : Nat} (hp : p < L.length) (g : G) : KF kept (L.set p ((atN L p).eraseP (isG g))) (K.set p ((at_ K p).erase g)) := by
  refine ⟨by rw [List.length_set, List.length_set]; exact H.1, fun q => ?_⟩
  rw [atN_set hp, at_set (by rw [H.1]; exact hp)]
  split
  · rw [filter_erase g _ (N p).1]
    exact (H.2 p).erase g
  · exact H.2 q
theorem KF_step (ok : OkH h) (os : OkS h st) {L : Line} {K : Stand} {i : Nat} (f : Fits L st) (H : KF kept L K) (N : numOK i L) (hi : kept ≤ i) {r : Row} (e : okR h st r) : KF kept (stepN h L (r, i)) (stepK K r) := by
  cases r with
  | come s t => exact KF_snoc H hi _ _
  | move p g t =>
    have hp : p < L.length := by rw [f.len]; exact e.1
    obtain ⟨g1, g2⟩ := g
    have H1 := KF_erase H N hp (g1, g2)
    cases g2 with
    | none => exact H1
    | some s => exact KF_snoc H1 hi _ _
theorem KF_run (ok : OkH h) : ∀ (rs : List Row) {i : Nat} {L : Line} {K st : Stand}, kept ≤ i → numOK i L → Fits L st → OkS h st → okRs h st rs → KF kept L K → KF kept (runN h L (rs.zipIdx i)) (runK K rs)
  | [], i, L, K, st, _, _, _, _, _, H => H
  | r :: rs, i, L, K, st, hi, N, f, os, e, H => by
    rw [List.zipIdx_cons]
    exact KF_run ok rs (Nat.le_succ_of_le hi) (num_step N r) (fits_step ok os f e.1) (okS_step ok os e.1) e.2 (KF_step ok os f H N hi e.1)
theorem num0 (h : H) : numOK 0 (lineE h) := by
  intro p
  have e2 : atN (lineE h) p = [] := by
    unfold atN lineE
    rw [List.getD_eq_getElem?_getD, List.getElem?_map]
    cases h.seats[p]? <;> rfl
  rw [e2]
  exact ⟨List.Pairwise.nil, fun e he => nomatch he⟩
theorem line_app (a b : List Row) : lineN h (a ++ b) = runN h (lineN h a) (b.zipIdx a.length) := by
  unfold lineN runN
  rw [List.zipIdx_append, List.foldl_append]
  simp
theorem KF_all (ok : OkH h) {a b : List Row} (e : okRs h (empt h) (a ++ b)) : KF a.length (lineN h (a ++ b)) (runK (runR h (empt h) a) b) := by
  obtain ⟨e1, e2⟩ := okRs_app e
  have N1 : numOK a.length (lineN h a) := by
    have := num_run (h := h) a (num0 h)
    rw [Nat.zero_add] at this
    exact this
  have f1 := fits_run ok a.zipIdx (fits0 h) (okS_empt h) (by rw [map_zip]; exact e1)
  rw [map_zip] at f1
  have os1 := okS_run ok (okS_empt h) e1
  rw [line_app]
  refine KF_run ok b (Nat.le_refl _) N1 f1 os1 e2 ⟨f1.len.symm, fun p => ?_⟩
  have : (atN (lineN h a) p).filter (fl a.length) = atN (lineN h a) p := List.filter_eq_self.mpr fun x hx => by
    have := (N1 p).2 x hx
    simp [fl, this]
  rw [this]
  exact f1.perm p
def ut (g : G) : LG := (g.1, -2)
theorem fnd_perm : ∀ (l k u : List G), l.Perm (k ++ u) → (fnd l k).Perm (k.map lg ++ u.map ut)
  | [], k, u, e => by
    have hl := e.length_eq
    rw [List.length_append, List.length_nil] at hl
    have hk : k = [] := List.length_eq_zero_iff.mp (by omega)
    have hu : u = [] := List.length_eq_zero_iff.mp (by omega)
    subst hk hu
    exact .nil
  | g :: r, k, u, e => by
    unfold fnd
    split
    · rename_i hg
      have k1 := List.perm_cons_erase hg
      have e2 : r.Perm (k.erase g ++ u) := ((e.trans (k1.append_right u)) : (g :: r).Perm (g :: (k.erase g ++ u))).cons_inv
      have ih := fnd_perm r (k.erase g) u e2
      have k2 : (k.map lg ++ u.map ut).Perm (lg g :: ((k.erase g).map lg ++ u.map ut)) := (k1.map lg).append_right _
      exact (ih.cons (lg g)).trans k2.symm
    · rename_i hg
      have hu : g ∈ u := by
        have := e.mem_iff.mp (List.mem_cons_self ..)
        rcases List.mem_append.mp this with q | q
        · exact absurd q hg
        · exact q
      have u1 := List.perm_cons_erase hu
      have e2 : r.Perm (k ++ u.erase g) := ((e.trans ((u1.append_left k).trans List.perm_middle)) : (g :: r).Perm (g :: (k ++ u.erase g))).cons_inv
      have ih := fnd_perm r k (u.erase g) e2
      have u2 : (k.map lg ++ u.map ut).Perm (ut g :: (k.map lg ++ (u.erase g).map ut)) := ((u1.map ut).append_left _).trans List.perm_middle
      exact (ih.cons (ut g)).trans u2.symm
theorem lt_parts (l : List En) : (l.map (lt kept)).Perm (((l.filter (fl kept)).map (·.1)).map lg ++ ((l.filter (fun e => !fl kept e)).map (·.1)).map ut) := by
  have p := (List.filter_append_perm (fl kept) l).map (lt kept)
  refine p.symm.trans ?_
  rw [List.map_append, List.map_map, List.map_map]
  refine List.Perm.append ?_ ?_
  · refine List.Perm.of_eq (List.map_congr_left fun e he => ?_)
    have : e.2 < kept := by simpa [fl] using (List.mem_filter.mp he).2
    simp [lt, this]
  · refine List.Perm.of_eq (List.map_congr_left fun e he => ?_)
    have : ¬ e.2 < kept := by simpa [fl] using (List.mem_filter.mp he).2
    simp [lt, this, ut]
/-- M1 -/
theorem found_pure (ok : OkH h) {rs : List Row} (hk : kept ≤ rs.length) (e : okRs h (empt h) rs) : fndS (runR h (empt h) rs) (runK (runR h (empt h) (rs.take kept)) (rs.drop kept)) = lateN kept (lineN h rs) := by
  have e' := e
  rw [← List.take_append_drop kept rs] at e'
  have H := KF_all ok e'
  rw [List.take_append_drop, List.length_take, Nat.min_eq_left hk] at H
  have f := fits_run ok rs.zipIdx (fits0 h) (okS_empt h) (by rw [map_zip]; exact e)
  rw [map_zip] at f
  have f' : Fits (lineN h rs) (runR h (empt h) rs) := f
  generalize runK (runR h (empt h) (rs.take kept)) (rs.drop kept) = K at H ⊢
  generalize runR h (empt h) rs = st at f' ⊢
  generalize lineN h rs = L at H f' ⊢
  refine List.ext_getElem? fun p => ?_
  unfold fndS lateN
  rw [List.getElem?_map, List.getElem?_map]
  by_cases hp : p < L.length
  · have h1 : st[p]? = some (at_ st p) := get_at (by rw [← f'.len]; exact hp)
    have h2 : K[p]? = some (at_ K p) := get_at (by rw [H.1]; exact hp)
    have h3 : (st.zip K)[p]? = some (at_ st p, at_ K p) := by rw [List.getElem?_zip_eq_some]; exact ⟨h1, h2⟩
    rw [h3, get_atN hp]
    simp only [Option.map_some, Option.some.injEq]
    refine lsort_congr ?_
    have c1 := f'.perm p
    have c2 := H.2 p
    have c3 : (at_ st p).Perm (at_ K p ++ ((atN L p).filter (fun e => !fl kept e)).map (·.1)) := by
      refine c1.symm.trans ?_
      have q := (List.filter_append_perm (fl kept) (atN L p)).map (·.1)
      rw [List.map_append] at q
      exact q.symm.trans (c2.append_right _)
    exact (fnd_perm _ _ _ c3).trans (((c2.map lg).append_right _).symm.trans (lt_parts _).symm)
  · rw [List.getElem?_eq_none (by rw [List.length_zip, H.1, ← f'.len]; omega), List.getElem?_eq_none (by omega)]
    rfl
/-! ### M2 -/
theorem nI_ne (o : Option Nat) : nI o ≠ -2 := by
  cases o with
  | none => decide
  | some s => simp only [nI]; omega
theorem cnt_lt (l : List En) : cnt (lsort (l.map (lt kept))) = (l.filter (fl kept)).length := by
  unfold cnt
  rw [((lsort_perm (l.map (lt kept))).filterMap _).length_eq]
  induction l with
  | nil => rfl
  | cons e r ih =>
    rw [List.map_cons, List.filterMap_cons]
    by_cases hf : e.2 < kept
    · have h1 : (lt kept e).2 ≠ -2 := by simp only [lt, if_pos hf, lg]; exact nI_ne _
      have h2 : fl kept e = true := by simp [fl, hf]
      rw [if_neg h1, List.filter_cons_of_pos h2]
      simp only [List.length_cons, ih]
    · have h1 : (lt kept e).2 = -2 := by simp only [lt, if_neg hf]
      have h2 : ¬ fl kept e = true := by simp [fl, hf]
      rw [if_pos h1, List.filter_cons_of_neg h2]
      exact ih
def known (kept : Nat) (L : Line) : Int := ((lateN kept L).map fun l => (cnt l : Int)).sum
theorem known_mono {a b : Nat} (hab : a ≤ b) (L : Line) : known a L ≤ known b L := by
  unfold known lateN
  induction L with
  | nil => exact Int.le_refl _
  | cons l L ih =>
    simp only [List.map_cons, List.sum_cons, cnt_lt]
    have : (l.filter (fl a)).length ≤ (l.filter (fl b)).length := by
      rw [← List.countP_eq_length_filter, ← List.countP_eq_length_filter]
      refine List.countP_mono_left fun e _ he => ?_
      simp only [fl, decide_eq_true_eq] at he ⊢
      omega
    simp only [List.map_map] at ih
    simp only [List.map_map]
    have ih' := ih
    have c : ((l.filter (fl a)).length : Int) ≤ ((l.filter (fl b)).length : Int) := by omega
    exact Int.add_le_add c ih'
theorem known_pos (kept : Nat) (L : Line) : 0 ≤ known kept L := by
  unfold known
  generalize lateN kept L = s
  induction s with
  | nil => exact Int.le_refl _
  | cons l s ih =>
    simp only [List.map_cons, List.sum_cons]
    omega
/-! ### M3 -/
def Srt (st : Stand) : Prop := ∀ l ∈ st, gsort l = l
theorem srt_set {p : Nat} (H : Srt st) (l : List G) : Srt (st.set p (gsort l)) := fun x hx => by
  rcases List.mem_or_eq_of_mem_set hx with q | q
  · exact H x q
  · rw [q, gsort_idem]
theorem srt_step (H : Srt st) (r : Row) : Srt (stepR h st r) := by
  cases r with
  | come s t => exact srt_set H _
  | move p g t =>
    obtain ⟨g1, g2⟩ := g
    cases g2 with
    | none => exact srt_set H _
    | some s => exact srt_set (srt_set H _) _
theorem srt_run : ∀ (rs : List Row) {st : Stand}, Srt st → Srt (runR h st rs)
  | [], st, H => H
  | r :: rs, st, H => srt_run rs (srt_step H r)
theorem srt0 (h : H) : Srt (empt h) := fun l hl => by
  unfold empt at hl
  obtain ⟨_, _, rfl⟩ := List.mem_map.mp hl
  exact List.length_eq_zero_iff.mp (gsort_len [])
theorem fnd_self : ∀ l : List G, fnd l l = l.map lg
  | [] => rfl
  | g :: r => by
    unfold fnd
    rw [if_pos (List.mem_cons_self ..), List.erase_cons_head, fnd_self r]
    rfl
theorem lsort_lg (l : List G) : lsort (l.map lg) = (gsort l).map lg := by
  unfold lsort gsort
  exact (List.map_mergeSort (f := lg) (r := gle) (s := lle) (fun a _ b _ => rfl)).symm
theorem whole_pure (H : Srt st) : lateD (fndS st st) = standD st := by
  unfold lateD standD fndS
  congr 1
  rw [List.map_map]
  refine List.ext_getElem? fun p => ?_
  rw [List.getElem?_map, List.getElem?_map]
  by_cases hp : p < st.length
  · have h1 : st[p]? = some (at_ st p) := get_at hp
    have h3 : (st.zip st)[p]? = some (at_ st p, at_ st p) := by rw [List.getElem?_zip_eq_some]; exact ⟨h1, h1⟩
    have hm : at_ st p ∈ st := List.mem_of_getElem? h1
    rw [h3, h1]
    simp only [Option.map_some, Option.some.injEq, Function.comp]
    rw [fnd_self, lsort_lg, H _ hm]
    unfold lsD gsD
    rw [List.map_map]
    rfl
  · rw [List.getElem?_eq_none (by rw [List.length_zip]; omega), List.getElem?_eq_none (by omega)]
    rfl
end
end K86

set_option linter.all false
set_option maxRecDepth 100000
namespace K86
open PySem DL L2
section
variable {h : H} {S : Store} {st : Stand} {n kept : Nat}
theorem lsts_app (S X : Store) : lsts (S ++ X) = (lsts S && lsts X) := by simp [lsts]
theorem lsts_layN {L : Line} (hS : lsts S = true) : lsts (layN kept S L) = true := by
  unfold layN
  rw [lsts_app, hS, Bool.true_and]
  unfold lsts
  rw [List.all_map]
  simp
theorem atN_few (ok : OkH h) {rs : List Row} (e : okRs h (empt h) rs) : (∀ p, (atN (lineN h rs) p).length ≤ 1000) ∧ (lineN h rs).length = h.seats.length := by
  have f := fits_run ok rs.zipIdx (fits0 h) (okS_empt h) (by rw [map_zip]; exact e)
  rw [map_zip] at f
  have os := okS_run ok (okS_empt h) e
  refine ⟨fun p => ?_, by rw [← os.len]; exact f.len⟩
  have q := (f.perm p).length_eq
  rw [List.length_map] at q
  have : (atN (lineN h rs) p).length = _ := q
  rw [this]
  exact os.few p
theorem late_few (ok : OkH h) {rs : List Row} (e : okRs h (empt h) rs) : (∀ l ∈ lateN kept (lineN h rs), l.length ≤ 1000) ∧ (lateN kept (lineN h rs)).length ≤ 1000 := by
  obtain ⟨h1, h2⟩ := atN_few ok e
  have few := ok.few
  refine ⟨fun l hl => ?_, by unfold lateN; rw [List.length_map, h2]; exact few⟩
  unfold lateN at hl
  obtain ⟨x, hx, rfl⟩ := List.mem_map.mp hl
  rw [lsort_len, List.length_map]
  obtain ⟨i, hi, q⟩ := List.getElem_of_mem hx
  have := h1 i
  unfold atN at this
  rw [List.getD_eq_getElem?_getD, List.getElem?_eq_getElem hi, q] at this
  exact this
/-- THE LAW'S LOOK -/
theorem right_eq (n : Nat) (ok : OkH h) (hP : 0 < h.seats.length) (hS : lsts S = true) {rs : List Row} (hr : rs.length ≤ 1000) (e : okRs h (empt h) rs) {cs : List Nat} (hc : ∀ c ∈ cs, c ≤ rs.length) (hs : cs.Pairwise (· ≤ ·)) :
    DL.run tab (n + 10) 32 [hD h, .list (rs.map rowD), .list (cs.map nD)] S = .ok (.bool true) S := by
  rw [r__law_right]
  obtain ⟨fewL, lenL⟩ := atN_few ok e
  have few := ok.few
  have wf := okRs_wf ok (okS_empt h) e
  have z : (rs.map rowD).length ≤ sizeLine := by rw [sizeLine_eq, List.length_map]; omega
  have tr : ∀ S, tupleV [.list (rs.map rowD)] S = .ok (.tuple (rs.map rowD)) S := fun S => rfl
  have fs : ∀ (c : Nat) (S : Store), lsts S = true → c ≤ rs.length → DL.run tab (n + 9) 17 [hD h, .tuple (rs.map rowD), .int (c : Int)] S = .ok (lateD (lateN c (lineN h rs))) S := fun c S hS hc => by
    have e' := e
    rw [← List.take_append_drop c rs] at e'
    have := foundst_eq n ok hS hc hr e (okRs_app e').1 (fun r hr => wf r (List.mem_of_mem_drop hr))
    rw [found_pure ok hc e] at this
    exact this
  obtain ⟨env', S', e1, last, y4, y5, e2, X, e3, hl, e4⟩ := forLoop_inv (enc := nD) (g := none) (S0 := S) (f := bodyF (DL.run tab (n + 9)) (.nm 4) [
      .asg (.nm 5) (.call 30 [(.call 29 [(.v 0), (.v 1), (.v 4)] [])] []),
      .ifs (.or (.not (.call 21 [(.call 17 [(.v 0), (.blt .tuple false [(.v 1)]), (.v 4)] []), (.v 5)] [])) (.cmp .Lt (.call 31 [(.v 5)] []) (.v 3))) [
        .ret (.c (.bool false))] [],
      .asg (.nm 3) (.call 31 [(.v 5)] [])])
    (fun l env S' => ∃ last y4 y5, env = [some (hD h), some (.list (rs.map rowD)), some (.list (cs.map nD)), some (.int last), y4, y5] ∧ ∃ X, S' = S ++ X ∧ lsts S' = true ∧ (∀ c ∈ l, c ≤ rs.length) ∧ l.Pairwise (· ≤ ·) ∧ ∀ c ∈ l, last ≤ known c (lineN h rs)) (fun _ _ _ _ => rfl)
    (fun c l env S' ⟨last, y4, y5, q0, X, q1, q2, q3, q4, q5⟩ => by
      subst q0
      have hc := q3 c (List.mem_cons_self ..)
      have t1 := found_line (n + 8) (S := S') ok hP c e
      have t2 := late_eq (n + 8) (S := S') (kept := c) (L := lineN h rs) fewL (by rw [lenL]; exact few)
      rw [lenL] at t2
      have hS2 := lsts_layN (kept := c) (L := lineN h rs) q2
      have e3 : layN c S' (lineN h rs) = S ++ (X ++ (lineN h rs).map fun l => MO.lst (l.map (fD c))) := by rw [q1]; simp [layN]
      have t3 := fs c (layN c S' (lineN h rs)) hS2 hc
      have t4 := same_late (n + 5) (lateN c (lineN h rs)) (layN c S' (lineN h rs))
      obtain ⟨k1, k2⟩ := late_few (kept := c) ok e
      have t5 := known_cnt (n + 8) (lateN c (lineN h rs)) k1 k2 (layN c S' (lineN h rs))
      have ek : ((lateN c (lineN h rs)).map fun l => (cnt l : Int)).sum = known c (lineN h rs) := rfl
      rw [ek] at t5
      have t6 := cmp_lt_i (S := layN c S' (lineN h rs)) (known c (lineN h rs)) last
      have hlast := q5 c (List.mem_cons_self ..)
      rw [decide_eq_false (by omega)] at t6
      obtain ⟨p1, p2⟩ := List.pairwise_cons.mp q4
      refine ⟨[some (hD h), some (.list (rs.map rowD)), some (.list (cs.map nD)), some (.int (known c (lineN h rs))), some (nD c), some (lateD (lateN c (lineN h rs)))], layN c S' (lineN h rs), ?_, _, _, _, rfl, _, e3, hS2, fun x hx => q3 x (List.mem_cons_of_mem _ hx), p2, fun x hx => known_mono (p1 x hx) _⟩
      refine bodyF_eq (env2 := [some (hD h), some (.list (rs.map rowD)), some (.list (cs.map nD)), some (.int last), some (nD c), y5]) rfl ?_
      generalize lateN c (lineN h rs) = Lt at *
      generalize layN c S' (lineN h rs) = S2 at *
      refine execs_cons (env' := [some (hD h), some (.list (rs.map rowD)), some (.list (cs.map nD)), some (.int last), some (nD c), some (lateD Lt)]) (S1 := S2) ?_ (execs_cons (env' := [some (hD h), some (.list (rs.map rowD)), some (.list (cs.map nD)), some (.int last), some (nD c), some (lateD Lt)]) (S1 := S2) (exec_ifF (S1 := S2) ?_ execs_nil) (execs_cons (S1 := S2) (exec_asg (d := .int (known c (lineN h rs))) ?_ rfl) execs_nil))
      · refine exec_asg (d := lateD Lt) ?_ rfl
        simp [nD, t1, t2, -List.map_take, -List.map_drop, DL.execs, DL.exec, DL.ev, DL.evs, DL.evAll, Res.bind_ok, Res.out_ok, Res.test, Res.outB, asBool, Out.seq, bltV, isTV, isTy, gc_same, bindT, bindTs, wipeE]
      · simp [nD, tr, t3, t4, t5, t6, -List.map_take, -List.map_drop, DL.execs, DL.exec, DL.ev, DL.evs, DL.evAll, Res.bind_ok, Res.out_ok, Res.test, Res.outB, asBool, Out.seq, bltV, isTV, isTy, gc_same, bindT, bindTs, wipeE]
      · simp [t5, -List.map_take, -List.map_drop, DL.execs, DL.exec, DL.ev, DL.evs, DL.evAll, Res.bind_ok, Res.out_ok, Res.test, Res.outB, asBool, Out.seq, bltV, isTV, isTy, gc_same, bindT, bindTs, wipeE])
    cs [some (hD h), some (.list (rs.map rowD)), some (.list (cs.map nD)), some (.int 0), none, none] S ⟨0, _, _, rfl, [], by simp, hS, hc, hs, fun c _ => known_pos c _⟩
  obtain ⟨hS', _, _⟩ : lsts S' = true ∧ True ∧ True := ⟨hl, trivial, trivial⟩
  subst e2
  have l1 := exec_frl (F := DL.run tab (n + 9)) (S := S) (S1 := S) (k := .val) (its := [.v 2]) (vs := [.list (cs.map nD)]) (env := [some (hD h), some (.list (rs.map rowD)), some (.list (cs.map nD)), some (.int 0), none, none]) (evs_cons (ev_v rfl) evs_nil) rfl e1
  have t1 := fs rs.length S' hl (Nat.le_refl _)
  have w := found_pure (kept := rs.length) ok (Nat.le_refl _) e
  have tk : rs.take rs.length = rs := List.take_length
  have dk : rs.drop rs.length = [] := List.drop_length
  rw [tk, dk] at w
  have rk : ∀ k : Stand, runK k [] = k := fun _ => rfl
  rw [rk] at w
  have wp := whole_pure (srt_run (h := h) rs (srt0 h))
  rw [w] at wp
  rw [wp] at t1
  have t2 := replay_eq (n + 2) ok hl (d := .tuple (rs.map rowD)) (.inl rfl) e
  have t3 : DL.run tab (n + 9) 21 [standD (runR h (empt h) rs), standD (runR h (empt h) rs)] S' = .ok (.bool true) S' := by
    rw [← wp]
    exact same_late (n + 5) _ S'
  have hlen : lenV [.list (rs.map rowD)] S' = .ok (.int (rs.length : Int)) S' := by simp [lenV, seqOf]
  have fin : gc true S (.rt (.bool true) S') = .ok (.bool true) S := by
    rw [e3]
    exact gc_near hS (by simpa using near_refl S []) rfl rfl rfl
  have a0 : DL.exec (DL.run tab (n + 9)) (.asg (.nm 3) (.c (.int 0))) [some (hD h), some (.list (rs.map rowD)), some (.list (cs.map nD)), none, none, none] S = .nx [some (hD h), some (.list (rs.map rowD)), some (.list (cs.map nD)), some (.int 0), none, none] S := rfl
  rw [b__law_right, execs_cons a0 (execs_cons l1 (execs_ret (d := .bool true) (S1 := S') ?_)), fin]
  simp [tr, hlen, t1, t2, t3, -List.map_take, -List.map_drop, DL.execs, DL.exec, DL.ev, DL.evs, DL.evAll, Res.bind_ok, Res.out_ok, Res.test, Res.outB, asBool, Out.seq, bltV, isTV, isTy, gc_same, bindT, bindTs, wipeE]
end
end K86

set_option linter.all false
set_option maxRecDepth 100000
namespace K86
open PySem DL L2
/-- the box at k holds two ints, all else is as in S -/
def Bx (S : Store) (k : Nat) (S' : Store) : Prop := k < S.length ∧ ∃ a b : Int, S' = setL S k [.int a, .int b]
section
variable {S S' S0 : Store} {n k : Nat}
theorem Bx.at_ (H : Bx S k S') : ∃ a b : Int, atL S' k = some [.int a, .int b] := by
  obtain ⟨hk, a, b, rfl⟩ := H
  exact ⟨a, b, by simp [atL, setL, hk]⟩
theorem Bx.len (H : Bx S k S') : S'.length = S.length := by
  obtain ⟨hk, a, b, rfl⟩ := H
  simp [setL]
theorem Bx.set (H : Bx S k S') (a b : Int) : Bx S k (setL S' k [.int a, .int b]) := by
  obtain ⟨hk, a', b', rfl⟩ := H
  exact ⟨hk, a, b, by simp [setL]⟩
theorem Bx.trans {S'' : Store} (H : Bx S k S') (H' : Bx S' k S'') : Bx S k S'' := by
  obtain ⟨_, a, b, rfl⟩ := H'
  exact H.set a b
theorem Bx.of {a b : Int} (h : atL S k = some [.int a, .int b]) : Bx S k S := by
  have hk : k < S.length := by
    unfold atL at h
    cases hs : S[k]? with
    | none => rw [hs] at h; cases h
    | some o => exact (List.getElem?_eq_some_iff.mp hs).1
  refine ⟨hk, a, b, ?_⟩
  unfold atL at h
  unfold setL
  refine List.ext_getElem? fun i => ?_
  rw [List.getElem?_set]
  split
  · rename_i e
    subst e
    cases hs : S[k]? with
    | none => rw [hs] at h; cases h
    | some o =>
      rw [hs] at h
      cases o with
      | lst xs =>
        simp only [Option.some.injEq] at h
        rw [h]
      | _ => cases h
  · rfl
theorem lsts_set {xs : List D} (h : lsts S = true) : lsts (setL S k xs) = true := by
  unfold lsts setL at *
  rw [List.all_eq_true] at *
  intro x hx
  rcases List.mem_or_eq_of_mem_set hx with q | q
  · exact h x q
  · rw [q]
theorem Bx.lsts (H : Bx S k S') (h : DL.lsts S = true) : DL.lsts S' = true := by
  obtain ⟨hk, a, b, rfl⟩ := H
  exact lsts_set h
theorem Bx.gc {fz : Bool} {d : D} (H : Bx S k S') (h : DL.lsts S = true) (X : Store) (hg : gnd d = true) (hd : locOf d = none) : DL.gc fz S (.rt d (S' ++ X)) = .ok d S' := by
  have hl := H.len
  obtain ⟨hk, a, b, rfl⟩ := H
  refine gc_near h ?_ hl hg hd
  have := near_set S [] k [.int a, .int b] rfl
  simpa using this
theorem Bx.gc0 {fz : Bool} {d : D} (H : Bx S k S') (h : DL.lsts S = true) (hg : gnd d = true) (hd : locOf d = none) : DL.gc fz S (.rt d S') = .ok d S' := by
  have := H.gc (fz := fz) h [] hg hd
  rwa [List.append_nil] at this
theorem take_eq (n : Nat) (H : Bx S0 k S) (h0 : DL.lsts S0 = true) {m : Int} (hm : 0 < m) (hm2 : m < 1073741824) : ∃ (d : Int) (S' : Store), DL.run tab (n + 1) 19 [rf k, .int m] S = .ok (.int d) S' ∧ Bx S0 k S' ∧ 0 ≤ d ∧ d < m := by
  obtain ⟨a, b, hab⟩ := H.at_
  have hS := H.lsts h0
  have hk : k < S.length := by rw [H.len]; exact H.1
  have sb0 : subV (rf k) (.int 0) S = .ok (.int a) S := by simp only [subV, seq_rf hab]; rfl
  have sb1 : subV (rf k) (.int 1) S = .ok (.int b) S := by simp only [subV, seq_rf hab]; rfl
  by_cases ha : a > 0
  · refine ⟨a % m, setL S k [.int (a / m), .int b], ?_, H.set _ _, Int.emod_nonneg _ (by omega), Int.emod_lt_of_pos _ hm⟩
    have st : setItemV (rf k) (.int 0) (.int (a / m)) S = some (setL S k [.int (a / m), .int b]) := by
      simp only [setItemV, loc_rf, hab]
      rfl
    have HB : Bx S k (setL S k [.int (a / m), .int b]) := ⟨hk, _, _, rfl⟩
    have fin := HB.gc0 (fz := true) hS (d := .int (a % m)) rfl rfl
    generalize setL S k [.int (a / m), .int b] = S1 at st fin ⊢
    rw [r__law_take]
    have g0 : cmpV .Gt (.int a) (.int 0) S = .ok (.bool true) S := by rw [cmp_gt_i, decide_eq_true ha]
    simp [b__law_take, sb0, g0, intV, bin_mod_i _ _ _ hm, bin_div_i _ _ _ ⟨hm, hm2⟩, st, fin, -List.map_take, -List.map_drop, DL.execs, DL.exec, DL.ev, DL.evs, DL.evAll, Res.bind_ok, Res.out_ok, Res.test, Res.outB, asBool, Out.seq, bltV, isTV, isTy, gc_same, bindT, bindTs, wipeE]
  · let raw := (b * 39373 + 101) % 2147483647
    let b2 := (raw * 40692 + 17) % 2147483563 + 1
    refine ⟨((raw * 2147483629 + b2) / 8233) % m, setL S k [.int a, .int b2], ?_, H.set _ _, Int.emod_nonneg _ (by omega), Int.emod_lt_of_pos _ hm⟩
    have st : setItemV (rf k) (.int 1) (.int b2) S = some (setL S k [.int a, .int b2]) := by
      simp only [setItemV, loc_rf, hab]
      rfl
    have HB : Bx S k (setL S k [.int a, .int b2]) := ⟨hk, _, _, rfl⟩
    have fin := HB.gc0 (fz := true) hS (d := .int (((raw * 2147483629 + b2) / 8233) % m)) rfl rfl
    have ab2 : atL (setL S k [.int a, .int b2]) k = some [.int a, .int b2] := by simp [atL, setL, hk]
    have sb2 : subV (rf k) (.int 1) (setL S k [.int a, .int b2]) = .ok (.int b2) (setL S k [.int a, .int b2]) := by simp only [subV, seq_rf ab2]; rfl
    generalize setL S k [.int a, .int b2] = S1 at st fin sb2 ⊢
    rw [r__law_take]
    have g0 : cmpV .Gt (.int a) (.int 0) S = .ok (.bool false) S := by rw [cmp_gt_i, decide_eq_false ha]
    have u1 : ∀ (i : Int) (S : Store), binV .Mult false (.int i) (.int 39373) S = .ok (.int (i * 39373)) S := fun i S => bin_mul_i _ _ _ (by decide)
    have u2 : ∀ (i : Int) (S : Store), binV .Mult false (.int i) (.int 40692) S = .ok (.int (i * 40692)) S := fun i S => bin_mul_i _ _ _ (by decide)
    have u3 : ∀ (i : Int) (S : Store), binV .Mult false (.int i) (.int 2147483629) S = .ok (.int (i * 2147483629)) S := fun i S => bin_mul_i _ _ _ (by decide)
    have u4 : ∀ (i : Int) (S : Store), binV .Mod false (.int i) (.int 2147483647) S = .ok (.int (i % 2147483647)) S := fun i S => bin_mod_i _ _ _ (by decide)
    have u5 : ∀ (i : Int) (S : Store), binV .Mod false (.int i) (.int 2147483563) S = .ok (.int (i % 2147483563)) S := fun i S => bin_mod_i _ _ _ (by decide)
    have u6 : ∀ (i : Int) (S : Store), binV .FloorDiv false (.int i) (.int 8233) S = .ok (.int (i / 8233)) S := fun i S => bin_div_i _ _ _ (by decide)
    have st' : setItemV (rf k) (.int 1) (.int (((b * 39373 + 101) % 2147483647 * 40692 + 17) % 2147483563 + 1)) S = some S1 := st
    have sb2' : subV (rf k) (.int 1) S1 = .ok (.int (((b * 39373 + 101) % 2147483647 * 40692 + 17) % 2147483563 + 1)) S1 := sb2
    have fin' : DL.gc true S (.rt (.int (((b * 39373 + 101) % 2147483647 * 2147483629 + (((b * 39373 + 101) % 2147483647 * 40692 + 17) % 2147483563 + 1)) / 8233 % m)) S1) = .ok (.int (((b * 39373 + 101) % 2147483647 * 2147483629 + (((b * 39373 + 101) % 2147483647 * 40692 + 17) % 2147483563 + 1)) / 8233 % m)) S1 := fin
    simp only [raw, b2]
    simp [b__law_take, sb0, sb1, g0, intV, bin_add_i, u1, u2, u3, u4, u5, u6, bin_mod_i _ _ _ hm, st', sb2', fin', -List.map_take, -List.map_drop, DL.execs, DL.exec, DL.ev, DL.evs, DL.evAll, Res.bind_ok, Res.out_ok, Res.test, Res.outB, asBool, Out.seq, bltV, isTV, isTy, gc_same, bindT, bindTs, wipeE]
theorem box_eq (n : Nat) (ns : List Int) (k : Nat) (S : Store) : ∃ a b : Int, DL.run tab (n + 1) 18 [ro ns, .int (k : Int)] S = .ok (rf S.length) (S ++ [.lst [.int a, .int b]]) := by
  rw [r__law_box]
  have ln : lenV [ro ns] S = .ok (.int (ns.length : Int)) S := by simp [lenV, seqOf]
  have u1 : ∀ (i : Int), binV .Mult false (.int 19073) (.int i) S = .ok (.int (19073 * i)) S := fun i => by
    have : DL.small64 19073 = true := by decide
    simp [binV, this]
  have u2 : ∀ (i : Int), binV .Mult false (.int 9461) (.int i) S = .ok (.int (9461 * i)) S := fun i => by
    have : DL.small64 9461 = true := by decide
    simp [binV, this]
  have u3 : ∀ (i : Int), binV .Mult false (.int i) (.int 88469) S = .ok (.int (i * 88469)) S := fun i => bin_mul_i _ _ _ (by decide)
  have u4 : ∀ (i : Int), binV .Mult false (.int i) (.int 54250003) S = .ok (.int (i * 54250003)) S := fun i => bin_mul_i _ _ _ (by decide)
  have u5 : ∀ (i : Int), binV .Mod false (.int i) (.int 2147483563) S = .ok (.int (i % 2147483563)) S := fun i => bin_mod_i _ _ _ (by decide)
  have u6 : binV .Pow false (.int 10) (.int 18) S = .ok (.int 1000000000000000000) S := by simp [binV]
  have fin : ∀ a b : Int, DL.gc false S (.rt (rf S.length) (S ++ [.lst [.int a, .int b]])) = .ok (rf S.length) (S ++ [.lst [.int a, .int b]]) := fun a b => by
    simp [DL.gc, handOut, below]
  have mk : ∀ a b : Int, mkL true [.int a, .int b] S = .ok (rf S.length) (S ++ [.lst [.int a, .int b]]) := fun a b => by simp [mkL, sizeLine_eq]
  have key : ∀ cell : Int, ∃ a b : Int, DL.gc false S (DL.execs (DL.run tab n) (b__law_box.drop 2) [some (ro ns), some (.int (k : Int)), some (.int cell), none] S) = .ok (rf S.length) (S ++ [.lst [.int a, .int b]]) := fun cell => by
    have e : b__law_box.drop 2 = [.asg (.nm 3) (.ite (.cmp .GtE (.v 2) (.bin .Pow false (.c (.int 10)) (.c (.int 18)))) (.v 2) (.c (.int 0))),
      .ret (.lst true [(.v 3), (.bin .Add false (.bin .Mod false (.blt .int false [(.bin .Add false (.bin .Mult false (.bin .Mod false (.blt .int false [(.v 2)]) (.c (.int 2147483563))) (.c (.int 54250003))) (.bin .Mult false (.c (.int 9461)) (.v 1)))]) (.c (.int 2147483563))) (.c (.int 1)))])] := rfl
    rw [e]
    by_cases hc : cell ≥ 1000000000000000000
    · have c0 : cmpV .GtE (.int cell) (.int 1000000000000000000) S = .ok (.bool true) S := by rw [cmp_ge_i, decide_eq_true hc]
      refine ⟨cell, (cell % 2147483563 * 54250003 + 9461 * (k : Int)) % 2147483563 + 1, ?_⟩
      simp [u6, c0, intV, u5, u4, u2, bin_add_i, mk, fin, -List.map_take, -List.map_drop, DL.execs, DL.exec, DL.ev, DL.evs, DL.evAll, Res.bind_ok, Res.out_ok, Res.test, Res.outB, asBool, Out.seq, bltV, isTV, isTy, gc_same, bindT, bindTs, wipeE]
    · have c0 : cmpV .GtE (.int cell) (.int 1000000000000000000) S = .ok (.bool false) S := by rw [cmp_ge_i, decide_eq_false hc]
      refine ⟨0, (cell % 2147483563 * 54250003 + 9461 * (k : Int)) % 2147483563 + 1, ?_⟩
      simp [u6, c0, intV, u5, u4, u2, bin_add_i, mk, fin, -List.map_take, -List.map_drop, DL.execs, DL.exec, DL.ev, DL.evs, DL.evAll, Res.bind_ok, Res.out_ok, Res.test, Res.outB, asBool, Out.seq, bltV, isTV, isTy, gc_same, bindT, bindTs, wipeE]
  have ex : b__law_box = b__law_box.take 2 ++ b__law_box.drop 2 := rfl
  have go : ∀ cell : Int, DL.execs (DL.run tab n) (b__law_box.take 2) [some (ro ns), some (.int (k : Int)), none, none] S = .nx [some (ro ns), some (.int (k : Int)), some (.int cell), none] S → ∃ a b : Int, DL.gc false S (DL.execs (DL.run tab n) b__law_box [some (ro ns), some (.int (k : Int)), none, none] S) = .ok (rf S.length) (S ++ [.lst [.int a, .int b]]) := fun cell hc => by
    obtain ⟨a, b, q⟩ := key cell
    refine ⟨a, b, ?_⟩
    rw [← q]
    congr 1
    have sp : ∀ (l1 l2 : List Sm) (env : DL.Env) (S : Store), DL.execs (DL.run tab n) (l1 ++ l2) env S = (DL.execs (DL.run tab n) l1 env S).seq fun env' S' => DL.execs (DL.run tab n) l2 env' S' := by
      intro l1 l2
      induction l1 with
      | nil => intro env S; rfl
      | cons x l1 ih =>
        intro env S
        show (DL.exec (DL.run tab n) x env S).seq _ = ((DL.exec (DL.run tab n) x env S).seq _).seq _
        cases DL.exec (DL.run tab n) x env S with
        | nx env' S' => exact ih env' S'
        | _ => rfl
    rw [ex, sp, hc]
    rfl
  have e2 : b__law_box.take 2 = [.asg (.nm 2) (.bin .Add false (.bin .Mult false (.c (.int 19073)) (.v 1)) (.c (.int 9461))),
    .ifs (.cmp .Lt (.v 1) (.blt .len false [(.v 0)])) [
      .asg (.nm 2) (.blt .abs false [(.blt .int false [(.sub (.v 0) (.v 1))])])] [
      .ifs (.cmp .Gt (.blt .len false [(.v 0)]) (.c (.int 0))) [
        .asg (.nm 2) (.bin .Add false (.v 2) (.bin .Mult false (.bin .Mod false (.blt .int false [(.blt .abs false [(.blt .int false [(.sub (.v 0) (.bin .Mod false (.blt .int false [(.v 1)]) (.blt .len false [(.v 0)])))])])]) (.c (.int 2147483563))) (.c (.int 88469))))] []]] := rfl
  by_cases h1 : k < ns.length
  · have sb : subV (ro ns) (.int (k : Int)) S = .ok (.int ns[k]) S := by
      simp only [subV, seqOf, atI_map (List.getElem?_eq_getElem h1)]
    have c1 := cmp_lt_n k ns.length S
    rw [decide_eq_true h1] at c1
    refine go (if ns[k] < 0 then -ns[k] else ns[k]) ?_
    rw [e2]
    simp [u1, bin_add_i, ln, c1, sb, intV, DL.absV, -List.map_take, -List.map_drop, DL.execs, DL.exec, DL.ev, DL.evs, DL.evAll, Res.bind_ok, Res.out_ok, Res.test, Res.outB, asBool, Out.seq, bltV, isTV, isTy, gc_same, bindT, bindTs, wipeE]
  · have c1 := cmp_lt_n k ns.length S
    rw [decide_eq_false h1] at c1
    by_cases h2 : 0 < ns.length
    · have h3 : k % ns.length < ns.length := Nat.mod_lt _ h2
      have sb : subV (ro ns) (.int ((k : Int) % (ns.length : Int))) S = .ok (.int ns[k % ns.length]) S := by
        rw [show (k : Int) % (ns.length : Int) = ((k % ns.length : Nat) : Int) from by simp]
        simp only [subV, seqOf, atI_map (List.getElem?_eq_getElem h3)]
      have u7 : binV .Mod false (.int (k : Int)) (.int (ns.length : Int)) S = .ok (.int ((k : Int) % (ns.length : Int))) S := bin_mod_i _ _ _ (by omega)
      have c2 : cmpV .Gt (.int (ns.length : Int)) (.int 0) S = .ok (.bool true) S := by rw [cmp_gt_i, decide_eq_true (by omega)]
      refine go (19073 * (k : Int) + 9461 + (if ns[k % ns.length] < 0 then -ns[k % ns.length] else ns[k % ns.length]) % 2147483563 * 88469) ?_
      rw [e2]
      simp [u1, bin_add_i, ln, c1, c2, u7, sb, intV, DL.absV, u5, u3, -List.map_take, -List.map_drop, DL.execs, DL.exec, DL.ev, DL.evs, DL.evAll, Res.bind_ok, Res.out_ok, Res.test, Res.outB, asBool, Out.seq, bltV, isTV, isTy, gc_same, bindT, bindTs, wipeE]
    · have c2 : cmpV .Gt (.int (ns.length : Int)) (.int 0) S = .ok (.bool false) S := by rw [cmp_gt_i, decide_eq_false (by omega)]
      refine go (19073 * (k : Int) + 9461) ?_
      rw [e2]
      simp [u1, bin_add_i, ln, c1, c2, -List.map_take, -List.map_drop, DL.execs, DL.exec, DL.ev, DL.evs, DL.evAll, Res.bind_ok, Res.out_ok, Res.test, Res.outB, asBool, Out.seq, bltV, isTV, isTy, gc_same, bindT, bindTs, wipeE]
end
end K86

set_option linter.all false
set_option maxRecDepth 100000
namespace K86
open PySem DL L2
section
variable {S S' S0 : Store} {n k : Nat}
theorem pick_big {α : Type} {f : α → D} (n : Nat) (hg : ∀ a, gnd (f a) = true) (hl : ∀ a, locOf (f a) = none) {l : List α} (hne : l ≠ []) (hlen : l.length ≤ 1000000) {d : D} (hd : d = .list (l.map f) ∨ d = .tuple (l.map f)) (H : Bx S0 k S) (h0 : DL.lsts S0 = true) :
    ∃ (x : α) (S' : Store), x ∈ l ∧ DL.run tab (n + 2) 20 [rf k, d] S = .ok (f x) S' ∧ Bx S0 k S' := by
  have hpos : 0 < l.length := List.length_pos_iff.mpr hne
  have sq : ∀ S, seqOf S d = some (l.map f) := fun S => by rcases hd with rfl | rfl <;> rfl
  have hS := H.lsts h0
  have HS : Bx S k S := by
    obtain ⟨a, b, hab⟩ := H.at_
    exact Bx.of hab
  obtain ⟨j, S', t1, H1, j0, j1⟩ := take_eq n (S := S) (S0 := S) (k := k) HS hS (m := (l.length : Int)) (by omega) (by omega)
  obtain ⟨i, rfl⟩ : ∃ i : Nat, j = (i : Int) := ⟨j.toNat, by omega⟩
  have hi : i < l.length := by omega
  have ln : lenV [d] S = .ok (.int (l.length : Int)) S := by simp only [lenV, sq, List.length_map]
  have sb : subV d (.int (i : Int)) S' = .ok (f l[i]) S' := by
    simp only [subV, sq, atI_map (List.getElem?_eq_getElem hi)]
  refine ⟨l[i], S', List.getElem_mem hi, ?_, H.trans H1⟩
  rw [r__law_pick]
  simp [b__law_pick, ln, t1, sb, H1.gc0 hS (hg _) (hl _), -List.map_take, -List.map_drop, DL.execs, DL.exec, DL.ev, DL.evs, DL.evAll, Res.bind_ok, Res.out_ok, Res.test, Res.outB, asBool, Out.seq, bltV, isTV, isTy, gc_same, bindT, bindTs, wipeE]
theorem pick_eq {α : Type} {f : α → D} (n : Nat) (hg : ∀ a, gnd (f a) = true) (hl : ∀ a, locOf (f a) = none) {l : List α} (hne : l ≠ []) (hlen : l.length ≤ 1000) {d : D} (hd : d = .list (l.map f) ∨ d = .tuple (l.map f)) (H : Bx S0 k S) (h0 : DL.lsts S0 = true) :
    ∃ (x : α) (S' : Store), x ∈ l ∧ DL.run tab (n + 2) 20 [rf k, d] S = .ok (f x) S' ∧ Bx S0 k S' := pick_big n hg hl hne (Nat.le_trans hlen (by decide)) hd H h0
/-! ### _law_some -/
def ole (a b : Option Nat) : Bool := decide (nI a ≤ nI b)
def osort (l : List (Option Nat)) : List (Option Nat) := l.mergeSort ole
theorem osort_D (l : List (Option Nat)) : sortD (l.map oD) = (osort l).map oD := by
  unfold sortD osort
  refine (List.map_mergeSort (f := oD) (r := ole) (s := W.dataLe false id) (fun a _ b _ => ?_)).symm
  exact (congrFun (congrFun (W.dataLe_int nI) a) b).symm
theorem osort_mem {l : List (Option Nat)} {x : Option Nat} : x ∈ osort l ↔ x ∈ l := (List.mergeSort_perm l ole).mem_iff
theorem osort_len (l : List (Option Nat)) : (osort l).length = l.length := (List.mergeSort_perm l ole).length_eq
theorem sortOk_o (l : List (Option Nat)) : sortOk (l.map oD) = true := by
  unfold sortOk
  simp only [plainAll_map oD_plain, Bool.true_and, Bool.and_eq_true, Bool.or_eq_true]
  refine ⟨⟨?_, .inr ?_⟩, ?_⟩
  · simp only [alikeB, List.all_map, List.all_eq_true, Function.comp]
    intro a _ b _
    rfl
  · simp only [List.all_map, List.all_eq_true, Function.comp]
    intro a _
    rfl
  · simp only [List.all_map, List.all_eq_true, Function.comp, decide_eq_true_eq]
    intro a _
    exact oD_depth a
theorem sorted_o (l : List (Option Nat)) (S : Store) {d : D} (hs : seqOf S d = some (l.map oD)) (hz : l.length ≤ sizeLine) : sortedV false [d] S = .ok (.list ((osort l).map oD)) S := by
  simp only [sortedV, hs, sortOk_o, if_true, osort_D, mkL, List.length_map, osort_len, if_pos hz, Bool.false_eq_true, if_false]
theorem two_atk (xs ys : List D) (hk : k < S.length) : atL (two S xs ys) k = atL S k := by
  unfold atL two
  rw [List.getElem?_append_left hk]
theorem two_setk (xs ys zs : List D) (hk : k < S.length) : setL (two S xs ys) k zs = two (setL S k zs) xs ys := by
  unfold setL two
  rw [List.set_append_left _ _ hk]
theorem Bx.inTwo {xs ys : List D} (H : Bx S k S') : Bx (two S' xs ys) k (two S' xs ys) := by
  obtain ⟨a, b, hab⟩ := H.at_
  have hk : k < S'.length := by rw [H.len]; exact H.1
  exact Bx.of (by rw [two_atk _ _ hk]; exact hab)
theorem Bx.ofTwo {xs ys : List D} {S2 : Store} (H : Bx S k S') (H2 : Bx (two S' xs ys) k S2) : ∃ S1, S2 = two S1 xs ys ∧ Bx S k S1 := by
  have hk : k < S'.length := by rw [H.len]; exact H.1
  obtain ⟨_, a, b, rfl⟩ := H2
  exact ⟨setL S' k [.int a, .int b], two_setk _ _ _ hk, H.set a b⟩
theorem lsts_two {xs ys : List D} (h : DL.lsts S = true) : DL.lsts (two S xs ys) = true := by
  unfold two
  rw [lsts_app, h]
  rfl
theorem map_erase {α : Type} (f : α → D) : ∀ (l : List α) (j : Nat), (l.map f).eraseIdx j = (l.eraseIdx j).map f
  | [], _ => rfl
  | a :: l, 0 => rfl
  | a :: l, j + 1 => by
    rw [List.map_cons, List.eraseIdx_cons_succ, List.eraseIdx_cons_succ, List.map_cons, map_erase f l j]
theorem rng1_nat {j : Nat} (h : j ≤ 1001) (S : Store) : rng1I [.int (j : Int)] S = .ok ((List.range j).map nD, none) S := by
  have c : -(2 ^ 62) ≤ (j : Int) ∧ (j : Int) < 2 ^ 62 ∧ (j : Int) ≤ sizeLine := ⟨by omega, by omega, by rw [sizeLine_eq]; omega⟩
  simp only [rng1I, if_pos c, Int.toNat_natCast]
  rfl
theorem some_eq (n : Nat) {pool : List (Option Nat)} (hne : pool ≠ []) (hlen : pool.length ≤ 1000) (h0 : DL.lsts S = true) (HS : Bx S k S) :
    ∃ (l : List (Option Nat)) (S' : Store), DL.run tab (n + 2) 22 [rf k, .list (pool.map oD), .int 1] S = .ok (.tuple (l.map oD)) S' ∧ Bx S k S' ∧ l ≠ [] ∧ (∀ x ∈ l, x ∈ pool) ∧ l.length ≤ 1000 := by
  rw [r__law_some]
  have hpos : 0 < pool.length := List.length_pos_iff.mpr hne
  have hk := HS.1
  have z : (pool.map oD).length ≤ sizeLine := by rw [sizeLine_eq, List.length_map]; omega
  have t1 : listV true [.list (pool.map oD)] S = .ok (rf S.length) (S ++ [.lst (pool.map oD)]) := by simp only [listV, seqOf, mkL, if_pos z, if_true]
  have t2 : mkL true [] (S ++ [MO.lst (pool.map oD)]) = .ok (rf (S.length + 1)) (two S (pool.map oD) []) := by simp [mkL, two, rf]
  have a1 : DL.exec (DL.run tab (n + 1)) (.asg (.tup [(.nm 3), (.nm 4)]) (.tup [(.blt .list true [(.v 1)]), (.lst true [])])) [some (rf k), some (.list (pool.map oD)), some (.int 1), none, none, none] S = .nx [some (rf k), some (.list (pool.map oD)), some (.int 1), some (rf S.length), some (rf (S.length + 1)), none] (two S (pool.map oD) []) := by
    refine exec_asg (d := .tuple [rf S.length, rf (S.length + 1)]) ?_ rfl
    simp [t1, t2, mkT, sizeLine_eq, -List.map_take, -List.map_drop, DL.execs, DL.exec, DL.ev, DL.evs, DL.evAll, Res.bind_ok, Res.out_ok, Res.test, Res.outB, asBool, Out.seq, bltV, isTV, isTy, gc_same, bindT, bindTs, wipeE]
  have ln : ∀ S, lenV [.list (pool.map oD)] S = .ok (.int (pool.length : Int)) S := fun S => by simp [lenV, seqOf]
  obtain ⟨d, S2, t3, H3, d0, d1⟩ := take_eq n (HS.inTwo (xs := pool.map oD) (ys := [])) (lsts_two h0) (m := (pool.length : Int) - 1 + 1) (by omega) (by omega)
  obtain ⟨S1, rfl, H1⟩ := HS.ofTwo H3
  obtain ⟨i, rfl⟩ : ∃ i : Nat, d = (i : Int) := ⟨d.toNat, by omega⟩
  have hr : rng1I [.int (1 + (i : Int))] (two S1 (pool.map oD) []) = .ok ((List.range (i + 1)).map nD, none) (two S1 (pool.map oD) []) := by
    have q := rng1_nat (j := i + 1) (by omega) (two S1 (pool.map oD) [])
    have e : ((i + 1 : Nat) : Int) = 1 + (i : Int) := by omega
    rw [e] at q
    exact q
  have e0 : DL.evs (DL.run tab (n + 1)) [(.bin .Add false (.v 2) (.call 19 [(.v 0), (.bin .Add false (.bin .Sub false (.blt .len false [(.v 1)]) (.v 2)) (.c (.int 1)))] []))] [some (rf k), some (.list (pool.map oD)), some (.int 1), some (rf S.length), some (rf (S.length + 1)), none] (two S (pool.map oD) []) = .ok [.int (1 + (i : Int))] (two S1 (pool.map oD) []) := by
    have t3' : DL.run tab (n + 1) 19 [rf k, .int ((pool.length : Int))] (two S (pool.map oD) []) = .ok (.int (i : Int)) (two S1 (pool.map oD) []) := by
      have e : (pool.length : Int) - 1 + 1 = (pool.length : Int) := by omega
      rw [e] at t3
      exact t3
    simp [ln, bin_sub_i, bin_add_i, t3', -List.map_take, -List.map_drop, DL.execs, DL.exec, DL.ev, DL.evs, DL.evAll, Res.bind_ok, Res.out_ok, Res.test, Res.outB, asBool, Out.seq, bltV, isTV, isTy, gc_same, bindT, bindTs, wipeE]
  obtain ⟨env', S', e1, left, found, y, S3, e2, e3, H4, q1, q2, q3, q4, q5⟩ := forLoop_inv (enc := nD) (g := none) (S0 := two S1 (pool.map oD) []) (f := bodyF (DL.run tab (n + 1)) (.nm 5) [.exp (.mth .append (.v 4) [(.mth .popAt (.v 3) [(.call 19 [(.v 0), (.blt .len false [(.v 3)])] [])])])])
    (fun l env S' => ∃ left found y S3, env = [some (rf k), some (.list (pool.map oD)), some (.int 1), some (rf S.length), some (rf (S.length + 1)), y] ∧ S' = two S3 (left.map oD) (found.map oD) ∧ Bx S k S3 ∧ l.length ≤ left.length ∧ found.length + l.length = i + 1 ∧ (∀ x ∈ left, x ∈ pool) ∧ (∀ x ∈ found, x ∈ pool) ∧ left.length ≤ 1000) (fun _ _ _ _ => rfl)
    (fun x l env S' ⟨left, found, y, S3, q0, q1, H4, q2, q3, q4, q5, q6⟩ => by
      subst q0 q1
      have hl3 : S3.length = S.length := H4.len
      have a0 : atL (two S3 (left.map oD) (found.map oD)) S.length = some (left.map oD) := by rw [← hl3]; exact two_at0 _ _
      have hp : 0 < left.length := by simp at q2; omega
      have ln2 : lenV [rf S.length] (two S3 (left.map oD) (found.map oD)) = .ok (.int (left.length : Int)) (two S3 (left.map oD) (found.map oD)) := by
        simp only [lenV, seq_rf a0, List.length_map]
      obtain ⟨d, S5, t5, H5, d0, d1⟩ := take_eq n (H4.inTwo (xs := left.map oD) (ys := found.map oD)) (lsts_two (H4.lsts h0)) (m := (left.length : Int)) (by omega) (by omega)
      obtain ⟨S6, rfl, H6⟩ := H4.ofTwo H5
      obtain ⟨j, rfl⟩ : ∃ j : Nat, d = (j : Int) := ⟨d.toNat, by omega⟩
      have hj : j < left.length := by omega
      have hl6 : S6.length = S.length := H6.len
      have b0 : atL (two S6 (left.map oD) (found.map oD)) S.length = some (left.map oD) := by rw [← hl6]; exact two_at0 _ _
      have b1 : ∀ xs, atL (two S6 xs (found.map oD)) (S.length + 1) = some (found.map oD) := fun xs => by rw [← hl6]; exact two_at1 _ _
      have p1 : mthV .popAt (rf S.length) [.int (j : Int)] (two S6 (left.map oD) (found.map oD)) = .ok (oD left[j]) (two S6 ((left.eraseIdx j).map oD) (found.map oD)) := by
        refine (onL_rf b0).trans ?_
        have hx : ixN (left.map oD).length (j : Int) = some j := by
          unfold ixN
          rw [if_pos (by omega), if_pos (by rw [List.length_map]; omega)]
          simp
        have hy : (left.map oD)[j]? = some (oD left[j]) := by rw [List.getElem?_map, List.getElem?_eq_getElem hj]; rfl
        simp only [popAtV, hx, hy, map_erase]
        rw [← hl6, two_set0]
      have p2 : mthV .append (rf (S.length + 1)) [oD left[j]] (two S6 ((left.eraseIdx j).map oD) (found.map oD)) = .ok .none (two S6 ((left.eraseIdx j).map oD) ((found ++ [left[j]]).map oD)) := by
        refine (onL_rf (b1 _)).trans ?_
        have z : (found.map oD).length < sizeLine := by rw [sizeLine_eq, List.length_map]; simp at q3; omega
        simp only [appendV, if_pos z]
        rw [← hl6, two_set1]
        simp
      have a1' : atL (two S3 (left.map oD) (found.map oD)) (S.length + 1) = some (found.map oD) := by rw [← hl3]; exact two_at1 _ _
      refine ⟨[some (rf k), some (.list (pool.map oD)), some (.int 1), some (rf S.length), some (rf (S.length + 1)), some (nD x)], two S6 ((left.eraseIdx j).map oD) ((found ++ [left[j]]).map oD), bodyF_eq (env2 := [some (rf k), some (.list (pool.map oD)), some (.int 1), some (rf S.length), some (rf (S.length + 1)), some (nD x)]) rfl ?_, _, _, _, _, rfl, rfl, H6, ?_, ?_, ?_, ?_, ?_⟩
      · generalize (found ++ [left[j]]) = f2 at p2 ⊢
        simp [lst_rf a1', lst_rf a0, ln2, t5, p1, p2, -List.map_take, -List.map_drop, DL.execs, DL.exec, DL.ev, DL.evs, DL.evAll, Res.bind_ok, Res.out_ok, Res.test, Res.outB, asBool, Out.seq, bltV, isTV, isTy, gc_same, bindT, bindTs, wipeE]
      · rw [List.length_eraseIdx, if_pos hj]
        simp at q2
        omega
      · simp at q3 ⊢
        omega
      · exact fun y hy => q4 y (List.mem_of_mem_eraseIdx hy)
      · intro y hy
        rcases List.mem_append.mp hy with q | q
        · exact q5 y q
        · simp only [List.mem_singleton] at q
          rw [q]
          exact q4 _ (List.getElem_mem hj)
      · rw [List.length_eraseIdx, if_pos hj]
        omega)
    (List.range (i + 1)) [some (rf k), some (.list (pool.map oD)), some (.int 1), some (rf S.length), some (rf (S.length + 1)), none] (two S1 (pool.map oD) []) ⟨pool, [], _, S1, rfl, rfl, H1, by simp; omega, by simp, fun x hx => hx, (fun x hx => nomatch hx), hlen⟩
  subst e2 e3
  have l1 := exec_frl (F := DL.run tab (n + 1)) (k := .rng1) e0 hr e1
  have hl3 : S3.length = S.length := H4.len
  have af : atL (two S3 (left.map oD) (found.map oD)) (S.length + 1) = some (found.map oD) := by rw [← hl3]; exact two_at1 _ _
  have hf : found.length = i + 1 := by simpa using q2
  have so : bltV .sorted false [rf (S.length + 1)] (two S3 (left.map oD) (found.map oD)) = _ := sorted_o (d := rf (S.length + 1)) found _ (seq_rf af) (by rw [sizeLine_eq]; omega)
  refine ⟨osort found, S3, ?_, H4, ?_, fun x hx => q4 x (osort_mem.mp hx), by rw [osort_len, hf]; omega⟩
  · have gd : gnd (.tuple ((osort found).map oD)) = true := gndL_map gnd_oD _
    have fin : DL.gc true S (.rt (.tuple ((osort found).map oD)) (two S3 (left.map oD) (found.map oD))) = .ok (.tuple ((osort found).map oD)) S3 := H4.gc h0 _ gd rfl
    rw [b__law_some, execs_cons a1 (execs_cons l1 (execs_ret (ev_blt1 (ev_blt1 (ev_v rfl) so) (r := .ok (.tuple ((osort found).map oD)) _) rfl))), fin]
  · intro q
    have := osort_len found
    rw [q, hf] at this
    cases this
end
end K86

set_option linter.all false
set_option maxRecDepth 100000
namespace K86
open PySem DL L2
section
variable {S S' S0 T X : Store} {n k : Nat}
theorem Bx.inX (H : Bx S k S') (X : Store) : Bx (S' ++ X) k (S' ++ X) := by
  obtain ⟨a, b, hab⟩ := H.at_
  have hk : k < S'.length := by rw [H.len]; exact H.1
  refine Bx.of (a := a) (b := b) ?_
  unfold atL at hab ⊢
  rw [List.getElem?_append_left hk]
  exact hab
theorem Bx.ofX {S2 : Store} (H : Bx S k S') (H2 : Bx (S' ++ X) k S2) : ∃ S1, S2 = S1 ++ X ∧ Bx S k S1 := by
  have hk : k < S'.length := by rw [H.len]; exact H.1
  obtain ⟨_, a, b, rfl⟩ := H2
  exact ⟨setL S' k [.int a, .int b], by unfold setL; rw [List.set_append_left _ _ hk], H.set a b⟩
theorem draw_list {α β : Type} {enc : α → D} {out : β → D} {f : D → Store → Res (Option D)} {Q : β → Prop} (hf : ∀ x S1, Bx S k S1 → ∃ b S2, f (enc x) S1 = .ok (some (out b)) S2 ∧ Bx S k S2 ∧ Q b)
    (l : List α) {S1 : Store} (H : Bx S k S1) (hz : l.length ≤ 1001) (S0' : Store) : ∃ (bs : List β) (S' : Store), compEnd false none S0' f (l.map enc) S1 = .ok (.list (bs.map out)) S' ∧ Bx S k S' ∧ bs.length = l.length ∧ ∀ b ∈ bs, Q b := by
  obtain ⟨bs, S', e, h1, h2, h3⟩ := comp_inv (enc := enc) (out := out) (g := none) (S0 := S0') (f := f) (S1 := S1) (fun r acc S' => Bx S k S' ∧ acc.length + r.length = l.length ∧ ∀ b ∈ acc, Q b) (fun _ _ _ _ => rfl)
    (fun x r acc S' ⟨q1, q2, q3⟩ => by
      obtain ⟨b, S2, e, H2, hb⟩ := hf x S' q1
      refine .inl ⟨b, S2, e, H2, by simp at q2 ⊢; omega, fun c hc => ?_⟩
      rcases List.mem_append.mp hc with q | q
      · exact q3 c q
      · simp only [List.mem_singleton] at q
        exact q ▸ hb)
    l ⟨H, by simp, fun b hb => nomatch hb⟩ (fun bs S' ⟨_, q, _⟩ => by rw [sizeLine_eq]; simp at q; omega)
  exact ⟨bs, S', e, h1, by simpa using h2, h3⟩
def encE (x : Nat × Nat) : D := .tuple [.int (x.2 : Int), nD x.1]
theorem enum_nat (l : List Nat) : (l.map nD).mapIdx (fun i x => PyData.tuple [.int i, x]) = l.zipIdx.map encE := by
  refine List.ext_getElem? fun i => ?_
  rw [List.getElem?_mapIdx, List.getElem?_map, List.getElem?_map, List.getElem?_zipIdx]
  cases l[i]? with
  | none => rfl
  | some r => simp [encE]
/-- the stages that a stage of place own may lead to -/
def poolOf (spots : List Nat) (own : Nat) : List (Option Nat) := none :: spots.zipIdx.filterMap fun x => if x.1 = own then none else some (some x.2)
theorem pool_mem {spots : List Nat} {own t : Nat} (h : some t ∈ poolOf spots own) : t < spots.length := by
  unfold poolOf at h
  simp only [List.mem_cons, reduceCtorEq, false_or, List.mem_filterMap] at h
  obtain ⟨x, hx, e⟩ := h
  split at e
  · cases e
  · simp only [Option.some.injEq] at e
    subst e
    have := List.snd_lt_of_mem_zipIdx hx
    omega
theorem pool_len (spots : List Nat) (own : Nat) (h : spots.length ≤ 100) : (poolOf spots own).length ≤ 1000 := by
  unfold poolOf
  have := List.length_filterMap_le (fun x : Nat × Nat => if x.1 = own then none else some (some x.2)) spots.zipIdx
  rw [List.length_zipIdx] at this
  simp only [List.length_cons]
  omega
def back (z : Int) : Option Nat := if z = -1 then none else some z.toNat
theorem back_nI (o : Option Nat) : back (nI o) = o := by
  cases o with
  | none => rfl
  | some s =>
    have : ¬ ((s : Int) = -1) := by omega
    simp [back, nI, this]
theorem uins_len (x : Int) : ∀ l : List Int, (uins x l).length ≤ l.length + 1
  | [] => Nat.le_refl _
  | y :: r => by
    unfold uins
    split
    · simp
    · split
      · simp
      · have := uins_len x r
        simp only [List.length_cons]
        omega
theorem usort_len : ∀ l : List Int, (usort l).length ≤ l.length
  | [] => Nat.le_refl _
  | y :: r => by
    have h1 := usort_len r
    have h2 := uins_len y (usort r)
    have e : usort (y :: r) = uins y (usort r) := rfl
    rw [e, List.length_cons]
    omega
theorem usort_o (bs : List (Option Nat)) (hne : bs ≠ []) : ∃ l : List (Option Nat), (usort (bs.map nI)).map PyData.int = l.map oD ∧ l ≠ [] ∧ (∀ x ∈ l, x ∈ bs) ∧ l.length ≤ bs.length := by
  refine ⟨(usort (bs.map nI)).map back, ?_, ?_, ?_, by rw [List.length_map]; exact Nat.le_trans (usort_len _) (by rw [List.length_map]; exact Nat.le_refl _)⟩
  · rw [List.map_map]
    refine List.map_congr_left fun z hz => ?_
    obtain ⟨o, _, rfl⟩ := List.mem_map.mp (mem_usort.mp hz)
    simp only [Function.comp, back_nI]
    rfl
  · intro q
    obtain ⟨o, ho⟩ := List.exists_mem_of_ne_nil _ hne
    have : nI o ∈ usort (bs.map nI) := mem_usort.mpr (List.mem_map_of_mem ho)
    rw [List.map_eq_nil_iff] at q
    rw [q] at this
    cases this
  · intro x hx
    obtain ⟨z, hz, rfl⟩ := List.mem_map.mp hx
    obtain ⟨o, ho, rfl⟩ := List.mem_map.mp (mem_usort.mp hz)
    rw [back_nI]
    exact ho
/-- what a drawn house is -/
structure Drawn (h : H) (P C : Nat) : Prop where
  ok : OkH h
  pl : h.seats.length = P
  st : h.stages.length = C
  ne : ∀ s, s < C → nxs h s ≠ []
  nz : ∀ s, s < C → (nxs h s).length ≤ 1000
theorem gnd_nD (i : Nat) : gnd (nD i) = true := rfl
theorem gnd_stgD (s : Nat × List (Option Nat)) : gnd (stgD s) = true := by
  show gndL [_, _] = true
  rw [gndL_iff]
  intro x hx
  simp only [List.mem_cons, List.not_mem_nil, or_false] at hx
  rcases hx with rfl | rfl
  · rfl
  · exact gndL_map gnd_oD _
theorem gnd_hD (h : H) : gnd (hD h) = true := by
  show gndL [_, _] = true
  rw [gndL_iff]
  intro x hx
  simp only [List.mem_cons, List.not_mem_nil, or_false] at hx
  rcases hx with rfl | rfl
  · exact gndL_map gnd_nD _
  · exact gndL_map gnd_stgD _
def hbody : List Sm := [
    .asg (.nm 10) (.bin .Add false (.lst false [(.neg (.c (.int 1)))]) (.comp false [7, 5] (.tup [(.nm 7), (.nm 5)]) .enum [(.v 6)] [(.cmp .NotEq (.v 5) (.v 9))] (.v 7))),
    .asg (.nm 11) (.call 22 [(.v 0), (.v 10), (.c (.int 1))] []),
    .asg (.nm 12) (.call 19 [(.v 0), (.c (.int 3))] []),
    .exp (.mth .append (.v 8) [(.tup [(.v 9), (.ite (.cmp .Eq (.v 12) (.c (.int 0))) (.v 11) (.blt .tuple false [(.blt .sortset false [(.comp false [13] (.nm 13) .rng1 [(.bin .Add false (.c (.int 1)) (.v 12))] [] (.call 20 [(.v 0), (.v 10)] []))])]))])])]
theorem pool_ev (n : Nat) (T : Store) {spots : List Nat} (hs : spots.length ≤ 100) (own : Nat) (S : Store) (x1 x2 x3 x4 x5 x7 x10 x11 x12 x13) :
    DL.ev (DL.run tab (n + 3)) (.bin .Add false (.lst false [(.neg (.c (.int 1)))]) (.comp false [7, 5] (.tup [(.nm 7), (.nm 5)]) .enum [(.v 6)] [(.cmp .NotEq (.v 5) (.v 9))] (.v 7))) [some (rf k), x1, x2, x3, x4, x5, some (.list (spots.map nD)), x7, some (rf S.length), some (nD own), x10, x11, x12, x13] T = .ok (.list ((poolOf spots own).map oD)) T := by
  have plen := pool_len spots own hs
  have cm := comp_same (enc := encE) (g := none) (S0 := T) (S1 := T) (f := compF (DL.run tab (n + 3)) [7, 5] (.tup [(.nm 7), (.nm 5)]) [(.cmp .NotEq (.v 5) (.v 9))] (.v 7) [some (rf k), x1, x2, x3, x4, x5, some (.list (spots.map nD)), x7, some (rf S.length), some (nD own), x10, x11, x12, x13])
    (v := fun x => if x.1 = own then none else some (nD x.2)) spots.zipIdx rfl (fun x _ => by
      have q := cmp_ne_i (S := T) (x.1 : Int) (own : Int)
      by_cases e : x.1 = own
      · rw [if_pos e]
        rw [decide_eq_false (by omega)] at q
        refine compF_none (env' := [some (rf k), x1, x2, x3, x4, some (nD x.1), some (.list (spots.map nD)), some (nD x.2), some (rf S.length), some (nD own), x10, x11, x12, x13]) rfl ?_
        simp [nD, q, -List.map_take, -List.map_drop, DL.execs, DL.exec, DL.ev, DL.evs, DL.evAll, Res.bind_ok, Res.out_ok, Res.test, Res.outB, asBool, Out.seq, bltV, isTV, isTy, gc_same, bindT, bindTs, wipeE]
      · rw [if_neg e]
        rw [decide_eq_true (by omega)] at q
        refine compF_some (env' := [some (rf k), x1, x2, x3, x4, some (nD x.1), some (.list (spots.map nD)), some (nD x.2), some (rf S.length), some (nD own), x10, x11, x12, x13]) (S1 := T) rfl ?_ (ev_v rfl)
        simp [nD, q, -List.map_take, -List.map_drop, DL.execs, DL.exec, DL.ev, DL.evs, DL.evAll, Res.bind_ok, Res.out_ok, Res.test, Res.outB, asBool, Out.seq, bltV, isTV, isTy, gc_same, bindT, bindTs, wipeE]) (by rw [List.length_zipIdx, sizeLine_eq]; omega)
  have c1 := ev_comp (F := DL.run tab (n + 3)) (its := [.v 6]) (S := T) (S1 := T) (k := .enum) (vs := [.list (spots.map nD)]) (env := [some (rf k), x1, x2, x3, x4, x5, some (.list (spots.map nD)), x7, some (rf S.length), some (nD own), x10, x11, x12, x13]) (evs_cons (ev_v rfl) evs_nil) (show enumI [.list (spots.map nD)] T = _ by simp only [enumI, seqOf, enum_nat]; rfl) cm
  have e1 : spots.zipIdx.filterMap (fun x => if x.1 = own then none else some (nD x.2)) = (poolOf spots own).tail.map oD := by
    unfold poolOf
    rw [List.tail_cons, List.map_filterMap]
    congr 1
    funext x
    split <;> rfl
  rw [e1] at c1
  have bb : binV .Add false (.list [.int (-1)]) (.list ((poolOf spots own).tail.map oD)) T = .ok (.list ((poolOf spots own).map oD)) T := by
    have z : ([PyData.int (-1)] ++ (poolOf spots own).tail.map oD).length ≤ sizeLine := by
      rw [sizeLine_eq]
      simp only [List.length_append, List.length_cons, List.length_nil, List.length_map, List.length_tail]
      omega
    simp only [binV, lstOfM, mkL, if_pos z, Bool.false_eq_true, if_false]
    rfl
  have l0 : DL.ev (DL.run tab (n + 3)) (.lst false [(.neg (.c (.int 1)))]) [some (rf k), x1, x2, x3, x4, x5, some (.list (spots.map nD)), x7, some (rf S.length), some (nD own), x10, x11, x12, x13] T = .ok (.list [.int (-1)]) T := by simp [mkL, sizeLine_eq, -List.map_take, -List.map_drop, DL.execs, DL.exec, DL.ev, DL.evs, DL.evAll, Res.bind_ok, Res.out_ok, Res.test, Res.outB, asBool, Out.seq, bltV, isTV, isTy, gc_same, bindT, bindTs, wipeE]
  exact ev_binR l0 c1 bb
theorem sortset_o {T3 : Store} {bs l : List (Option Nat)} (hb : bs.length ≤ 60) (u1 : (usort (bs.map nI)).map PyData.int = l.map oD) : bltV .sortset false [.list (bs.map oD)] T3 = .ok (.list (l.map oD)) T3 := by
  have e5 : bs.map oD = (bs.map nI).map .int := by rw [List.map_map]; rfl
  have l64 : (bs.map nI).length < 64 := by rw [List.length_map]; omega
  have z : ((usort (bs.map nI)).map PyData.int).length ≤ sizeLine := by
    have hn := usort_len (bs.map nI)
    rw [List.length_map, sizeLine_eq]
    omega
  rw [u1] at z
  show sortsetV false [.list (bs.map oD)] T3 = _
  unfold sortsetV
  simp only [seqOf]
  rw [e5, intsOf_map]
  simp only [if_pos l64, u1, mkL, if_pos z, Bool.false_eq_true, if_false]
theorem rng1_w (w : Nat) (hw : w ≤ 3) (T2 : Store) : itemsV .rng1 [.int (1 + (w : Int))] T2 = .ok ((List.range (w + 1)).map nD, none) T2 := by
  have q := rng1_nat (j := w + 1) (by omega) T2
  have e : ((w + 1 : Nat) : Int) = 1 + (w : Int) := by omega
  rw [e] at q
  exact q
theorem nexts_ev (n : Nat) {T T2 : Store} (H2 : Bx T k T2) (hTl : DL.lsts T = true) {pool few : List (Option Nat)} (pne : pool ≠ []) (plen : pool.length ≤ 1000) (f1 : few ≠ []) (f2 : ∀ x ∈ few, x ∈ pool) (f3 : few.length ≤ 1000) {w : Nat} (d1 : (w : Int) < 3) (x1 x2 x3 x4 x5 x6 x7 x8 x9 x13) :
    ∃ (l : List (Option Nat)) (T3 : Store), DL.ev (DL.run tab (n + 3)) (.ite (.cmp .Eq (.v 12) (.c (.int 0))) (.v 11) (.blt .tuple false [(.blt .sortset false [(.comp false [13] (.nm 13) .rng1 [(.bin .Add false (.c (.int 1)) (.v 12))] [] (.call 20 [(.v 0), (.v 10)] []))])])) [some (rf k), x1, x2, x3, x4, x5, x6, x7, x8, x9, some (.list (pool.map oD)), some (.tuple (few.map oD)), some (.int (w : Int)), x13] T2 = .ok (.tuple (l.map oD)) T3 ∧ Bx T k T3 ∧ l ≠ [] ∧ (∀ x ∈ l, x ∈ pool) ∧ l.length ≤ 1000 := by
  by_cases hw : w = 0
  · subst hw
    have q : cmpV .Eq (.int ((0 : Nat) : Int)) (.int 0) T2 = .ok (.bool true) T2 := by rw [cmp_eq_i]; rfl
    have tt : DL.ev (DL.run tab (n + 3)) (.cmp .Eq (.v 12) (.c (.int 0))) [some (rf k), x1, x2, x3, x4, x5, x6, x7, x8, x9, some (.list (pool.map oD)), some (.tuple (few.map oD)), some (.int ((0 : Nat) : Int)), x13] T2 = .ok (.bool true) T2 := by
      exact ev_cmpR (ev_v rfl) ev_c q
    refine ⟨few, T2, ?_, H2, f1, f2, f3⟩
    exact ev_iteT tt (ev_v rfl)
  · have q : cmpV .Eq (.int (w : Int)) (.int 0) T2 = .ok (.bool false) T2 := by rw [cmp_eq_i, decide_eq_false (by omega)]
    obtain ⟨bs, T3, e3, H3, b1, b2⟩ := draw_list (enc := nD) (out := oD) (S := T) (k := k) (Q := fun b => b ∈ pool) (f := compF (DL.run tab (n + 3)) [13] (.nm 13) [] (.call 20 [(.v 0), (.v 10)] []) [some (rf k), x1, x2, x3, x4, x5, x6, x7, x8, x9, some (.list (pool.map oD)), some (.tuple (few.map oD)), some (.int (w : Int)), x13])
      (fun x S1 HB => by
        obtain ⟨y, S2, hy, t4, H4⟩ := pick_eq (n + 1) gnd_oD (fun _ => rfl) pne plen (.inl rfl) HB hTl
        refine ⟨y, S2, compF_some (env' := [some (rf k), x1, x2, x3, x4, x5, x6, x7, x8, x9, some (.list (pool.map oD)), some (.tuple (few.map oD)), some (.int (w : Int)), some (nD x)]) rfl rfl ?_, H4, hy⟩
        simp [t4, -List.map_take, -List.map_drop, DL.execs, DL.exec, DL.ev, DL.evs, DL.evAll, Res.bind_ok, Res.out_ok, Res.test, Res.outB, asBool, Out.seq, bltV, isTV, isTy, gc_same, bindT, bindTs, wipeE]) (List.range (w + 1)) H2 (by rw [List.length_range]; omega) T2
    have hr2 := rng1_w w (by omega) T2
    have c2 := ev_comp (items := (List.range (w + 1)).map nD) (g := none) (S2 := T2) (F := DL.run tab (n + 3)) (its := [(.bin .Add false (.c (.int 1)) (.v 12))]) (S := T2) (S1 := T2) (k := .rng1) (vs := [.int (1 + (w : Int))]) (env := [some (rf k), x1, x2, x3, x4, x5, x6, x7, x8, x9, some (.list (pool.map oD)), some (.tuple (few.map oD)), some (.int (w : Int)), x13]) (by simp [bin_add_i, -List.map_take, -List.map_drop, DL.execs, DL.exec, DL.ev, DL.evs, DL.evAll, Res.bind_ok, Res.out_ok, Res.test, Res.outB, asBool, Out.seq, bltV, isTV, isTy, gc_same, bindT, bindTs, wipeE]) hr2 e3
    have bne : bs ≠ [] := fun q => by rw [q] at b1; simp at b1
    obtain ⟨l, u1, u2, u3, u4⟩ := usort_o bs bne
    have ss := sortset_o (T3 := T3) (bs := bs) (by rw [b1, List.length_range]; omega) u1
    refine ⟨l, T3, ?_, H3, u2, fun x hx => b2 x (u3 x hx), Nat.le_trans u4 (by rw [b1, List.length_range]; omega)⟩
    have c3 := ev_blt1 (b := .tuple) (m := false) (ev_blt1 c2 ss) (r := .ok (.tuple (l.map oD)) T3) rfl
    have tt : DL.ev (DL.run tab (n + 3)) (.cmp .Eq (.v 12) (.c (.int 0))) [some (rf k), x1, x2, x3, x4, x5, x6, x7, x8, x9, some (.list (pool.map oD)), some (.tuple (few.map oD)), some (.int (w : Int)), x13] T2 = .ok (.bool false) T2 := by simp [q, -List.map_take, -List.map_drop, DL.execs, DL.exec, DL.ev, DL.evs, DL.evAll, Res.bind_ok, Res.out_ok, Res.test, Res.outB, asBool, Out.seq, bltV, isTV, isTy, gc_same, bindT, bindTs, wipeE]
    exact ev_iteF tt c3
/-- one stage drawn -/
theorem stage_eq (n : Nat) (h0 : DL.lsts S = true) {S1 : Store} (H : Bx S k S1) {spots : List Nat} (hs : spots.length ≤ 100) (own : Nat) (done : List (Nat × List (Option Nat))) (hd : done.length ≤ 100) (x1 x2 x3 x4 x5 x7 x9 x10 x11 x12 x13) :
    ∃ (l : List (Option Nat)) (S2 : Store) (y10 y11 y12 : Option D), bodyF (DL.run tab (n + 3)) (.nm 9) hbody (nD own) [some (rf k), x1, x2, x3, x4, x5, some (.list (spots.map nD)), x7, some (rf S.length), x9, x10, x11, x12, x13] (S1 ++ [.lst (done.map stgD)]) =
      .nx [some (rf k), x1, x2, x3, x4, x5, some (.list (spots.map nD)), x7, some (rf S.length), some (nD own), y10, y11, y12, x13] (S2 ++ [.lst ((done ++ [(own, l)]).map stgD)]) ∧ Bx S k S2 ∧ l ≠ [] ∧ (∀ x ∈ l, x ∈ poolOf spots own) ∧ l.length ≤ 1000 := by
  have hT := H.inX [.lst (done.map stgD)]
  have hTl : DL.lsts (S1 ++ [.lst (done.map stgD)]) = true := by rw [lsts_app, H.lsts h0]; rfl
  generalize hTd : S1 ++ [MO.lst (done.map stgD)] = T at hT hTl ⊢
  have pne : poolOf spots own ≠ [] := by simp [poolOf]
  have plen := pool_len spots own hs
  obtain ⟨few, T1, t1, H1, f1, f2, f3⟩ := some_eq (n + 1) pne plen hTl hT
  obtain ⟨d, T2, t2, H2, d0, d1⟩ := take_eq (n + 2) H1 hTl (m := 3) (by decide) (by decide)
  obtain ⟨w, rfl⟩ : ∃ w : Nat, d = (w : Int) := ⟨d.toNat, by omega⟩
  have pe := pool_ev (k := k) n T hs own S x1 x2 x3 x4 x5 x7 x10 x11 x12 x13
  generalize hpool : poolOf spots own = pool at *
  have a1 : DL.exec (DL.run tab (n + 3)) (.asg (.nm 10) (.bin .Add false (.lst false [(.neg (.c (.int 1)))]) (.comp false [7, 5] (.tup [(.nm 7), (.nm 5)]) .enum [(.v 6)] [(.cmp .NotEq (.v 5) (.v 9))] (.v 7)))) [some (rf k), x1, x2, x3, x4, x5, some (.list (spots.map nD)), x7, some (rf S.length), some (nD own), x10, x11, x12, x13] T = .nx [some (rf k), x1, x2, x3, x4, x5, some (.list (spots.map nD)), x7, some (rf S.length), some (nD own), some (.list (pool.map oD)), x11, x12, x13] T := exec_asg pe rfl
  have a2 : DL.exec (DL.run tab (n + 3)) (.asg (.nm 11) (.call 22 [(.v 0), (.v 10), (.c (.int 1))] [])) [some (rf k), x1, x2, x3, x4, x5, some (.list (spots.map nD)), x7, some (rf S.length), some (nD own), some (.list (pool.map oD)), x11, x12, x13] T = .nx [some (rf k), x1, x2, x3, x4, x5, some (.list (spots.map nD)), x7, some (rf S.length), some (nD own), some (.list (pool.map oD)), some (.tuple (few.map oD)), x12, x13] T1 := by
    refine exec_asg (d := .tuple (few.map oD)) ?_ rfl
    simp [t1, -List.map_take, -List.map_drop, DL.execs, DL.exec, DL.ev, DL.evs, DL.evAll, Res.bind_ok, Res.out_ok, Res.test, Res.outB, asBool, Out.seq, bltV, isTV, isTy, gc_same, bindT, bindTs, wipeE]
  have a3 : DL.exec (DL.run tab (n + 3)) (.asg (.nm 12) (.call 19 [(.v 0), (.c (.int 3))] [])) [some (rf k), x1, x2, x3, x4, x5, some (.list (spots.map nD)), x7, some (rf S.length), some (nD own), some (.list (pool.map oD)), some (.tuple (few.map oD)), x12, x13] T1 = .nx [some (rf k), x1, x2, x3, x4, x5, some (.list (spots.map nD)), x7, some (rf S.length), some (nD own), some (.list (pool.map oD)), some (.tuple (few.map oD)), some (.int (w : Int)), x13] T2 := by
    refine exec_asg (d := .int (w : Int)) ?_ rfl
    simp [t2, -List.map_take, -List.map_drop, DL.execs, DL.exec, DL.ev, DL.evs, DL.evAll, Res.bind_ok, Res.out_ok, Res.test, Res.outB, asBool, Out.seq, bltV, isTV, isTy, gc_same, bindT, bindTs, wipeE]
  obtain ⟨l, T3, e4, H4, l1, l2, l3⟩ := nexts_ev n H2 hTl pne plen f1 f2 f3 d1 x1 x2 x3 x4 x5 (some (.list (spots.map nD))) x7 (some (rf S.length)) (some (nD own)) x13
  rw [← hTd] at H4
  obtain ⟨S3, rfl, H5⟩ := H.ofX H4
  have hl3 : S3.length = S.length := H5.len
  have af : atL (S3 ++ [MO.lst (done.map stgD)]) S.length = some (done.map stgD) := by rw [← hl3]; exact atL_last _ _
  have hT2 : ∃ S4, T2 = S4 ++ [MO.lst (done.map stgD)] ∧ Bx S k S4 := by
    rw [← hTd] at H2
    exact H.ofX H2
  obtain ⟨S4, rfl, H6⟩ := hT2
  have af2 : atL (S4 ++ [MO.lst (done.map stgD)]) S.length = some (done.map stgD) := by rw [← H6.len]; exact atL_last _ _
  have ap : mthV .append (rf S.length) [stgD (own, l)] (S3 ++ [MO.lst (done.map stgD)]) = .ok .none (S3 ++ [MO.lst ((done ++ [(own, l)]).map stgD)]) := by
    refine (onL_rf af).trans ?_
    have z : (done.map stgD).length < sizeLine := by rw [sizeLine_eq, List.length_map]; omega
    simp only [appendV, if_pos z]
    rw [← hl3, setL_last]
    simp
  have tp : PyData.tuple [nD own, .tuple (l.map oD)] = stgD (own, l) := rfl
  refine ⟨l, S3, some (.list (pool.map oD)), some (.tuple (few.map oD)), some (.int (w : Int)), bodyF_eq (env2 := [some (rf k), x1, x2, x3, x4, x5, some (.list (spots.map nD)), x7, some (rf S.length), some (nD own), x10, x11, x12, x13]) rfl (execs_cons a1 (execs_cons a2 (execs_cons a3 (execs_cons ?_ execs_nil)))), H5, l1, l2, l3⟩
  generalize (done ++ [(own, l)]) = d2 at ap ⊢
  generalize hite : Ex.ite (.cmp .Eq (.v 12) (.c (.int 0))) (.v 11) (.blt .tuple false [(.blt .sortset false [(.comp false [13] (.nm 13) .rng1 [(.bin .Add false (.c (.int 1)) (.v 12))] [] (.call 20 [(.v 0), (.v 10)] []))])]) = xi at e4 ⊢
  simp [lst_rf af2, e4, mkT, sizeLine_eq, tp, ap, -List.map_take, -List.map_drop, DL.execs, DL.exec, DL.ev, DL.evs, DL.evAll, Res.bind_ok, Res.out_ok, Res.test, Res.outB, asBool, Out.seq, bltV, isTV, isTy, gc_same, bindT, bindTs, wipeE]
end
end K86

set_option linter.all false
set_option maxRecDepth 100000
namespace K86
open PySem DL L2
section
variable {S S' S0 T X : Store} {n k : Nat}
theorem house_eq (n : Nat) (h0 : DL.lsts S = true) (HS : Bx S k S) {P M C : Nat} (hP : 1 ≤ P) (hP2 : P ≤ 100) (hM : 1 ≤ M) (hM2 : M ≤ 100) (hC : C ≤ 100) :
    ∃ (h : H) (S' : Store), DL.run tab (n + 4) 23 [rf k, nD P, nD M, nD C] S = .ok (hD h) S' ∧ Bx S k S' ∧ Drawn h P C := by
  rw [r__law_house]
  have rg : ∀ (j : Nat) (S : Store), j ≤ 100 → itemsV .rng1 [nD j] S = .ok ((List.range j).map nD, none) S := fun j S hj => rng1_nat (j := j) (by omega) S
  -- seats
  obtain ⟨seats, S1, e1, H1, s1, s2⟩ := draw_list (enc := nD) (out := nD) (S := S) (k := k) (Q := fun b => b ≤ 1000) (f := compF (DL.run tab (n + 3)) [5] (.nm 5) [] (.bin .Add false (.c (.int 1)) (.call 19 [(.v 0), (.v 2)] [])) [some (rf k), some (nD P), some (nD M), some (nD C), none, none, none, none, none, none, none, none, none, none])
    (fun x S1 HB => by
      obtain ⟨d, S2, t, H2, d0, d1⟩ := take_eq (n + 2) HB h0 (m := (M : Int)) (by omega) (by omega)
      obtain ⟨i, rfl⟩ : ∃ i : Nat, d = (i : Int) := ⟨d.toNat, by omega⟩
      refine ⟨1 + i, S2, compF_some (env' := [some (rf k), some (nD P), some (nD M), some (nD C), none, some (nD x), none, none, none, none, none, none, none, none]) rfl rfl ?_, H2, by omega⟩
      have e : nD (1 + i) = .int (1 + (i : Int)) := by simp [nD]
      rw [e]
      have t' : DL.run tab (n + 3) 19 [rf k, nD M] S1 = .ok (.int (i : Int)) S2 := t
      refine ev_binR ev_c (y := .int (i : Int)) ?_ rfl
      simp [t', -List.map_take, -List.map_drop, DL.execs, DL.exec, DL.ev, DL.evs, DL.evAll, Res.bind_ok, Res.out_ok, Res.test, Res.outB, asBool, Out.seq, bltV, isTV, isTy, gc_same, bindT, bindTs, wipeE]) (List.range P) HS (by rw [List.length_range]; omega) S
  have c1 := ev_comp (F := DL.run tab (n + 3)) (its := [.v 1]) (S := S) (S1 := S) (k := .rng1) (vs := [nD P]) (env := [some (rf k), some (nD P), some (nD M), some (nD C), none, none, none, none, none, none, none, none, none, none]) (evs_cons (ev_v rfl) evs_nil) (rg P S hP2) e1
  have a1 : DL.exec (DL.run tab (n + 3)) (.asg (.nm 4) (.blt .tuple false [(.comp false [5] (.nm 5) .rng1 [(.v 1)] [] (.bin .Add false (.c (.int 1)) (.call 19 [(.v 0), (.v 2)] [])))])) [some (rf k), some (nD P), some (nD M), some (nD C), none, none, none, none, none, none, none, none, none, none] S = .nx [some (rf k), some (nD P), some (nD M), some (nD C), some (.tuple (seats.map nD)), none, none, none, none, none, none, none, none, none] S1 :=
    exec_asg (ev_blt1 c1 (r := .ok (.tuple (seats.map nD)) S1) rfl) rfl
  -- spots
  obtain ⟨spots, S2, e2, H2, p1, p2⟩ := draw_list (enc := nD) (out := nD) (S := S) (k := k) (Q := fun b => b < P) (f := compF (DL.run tab (n + 3)) [7] (.nm 7) [] (.call 19 [(.v 0), (.v 1)] []) [some (rf k), some (nD P), some (nD M), some (nD C), some (.tuple (seats.map nD)), none, none, none, none, none, none, none, none, none])
    (fun x S1 HB => by
      obtain ⟨d, S2, t, H2, d0, d1⟩ := take_eq (n + 2) HB h0 (m := (P : Int)) (by omega) (by omega)
      obtain ⟨i, rfl⟩ : ∃ i : Nat, d = (i : Int) := ⟨d.toNat, by omega⟩
      refine ⟨i, S2, compF_some (env' := [some (rf k), some (nD P), some (nD M), some (nD C), some (.tuple (seats.map nD)), none, none, some (nD x), none, none, none, none, none, none]) rfl rfl ?_, H2, by omega⟩
      have t' : DL.run tab (n + 3) 19 [rf k, nD P] S1 = .ok (nD i) S2 := t
      simp [t', -List.map_take, -List.map_drop, DL.execs, DL.exec, DL.ev, DL.evs, DL.evAll, Res.bind_ok, Res.out_ok, Res.test, Res.outB, asBool, Out.seq, bltV, isTV, isTy, gc_same, bindT, bindTs, wipeE]) (List.range C) H1 (by rw [List.length_range]; omega) S1
  have c2 := ev_comp (F := DL.run tab (n + 3)) (its := [.v 3]) (S := S1) (S1 := S1) (k := .rng1) (vs := [nD C]) (env := [some (rf k), some (nD P), some (nD M), some (nD C), some (.tuple (seats.map nD)), none, none, none, none, none, none, none, none, none]) (evs_cons (ev_v rfl) evs_nil) (rg C S1 hC) e2
  have a2 : DL.exec (DL.run tab (n + 3)) (.asg (.nm 6) (.comp false [7] (.nm 7) .rng1 [(.v 3)] [] (.call 19 [(.v 0), (.v 1)] []))) [some (rf k), some (nD P), some (nD M), some (nD C), some (.tuple (seats.map nD)), none, none, none, none, none, none, none, none, none] S1 = .nx [some (rf k), some (nD P), some (nD M), some (nD C), some (.tuple (seats.map nD)), none, some (.list (spots.map nD)), none, none, none, none, none, none, none] S2 := exec_asg c2 rfl
  have hl2 : S2.length = S.length := H2.len
  have a3 : DL.exec (DL.run tab (n + 3)) (.asg (.nm 8) (.lst true [])) [some (rf k), some (nD P), some (nD M), some (nD C), some (.tuple (seats.map nD)), none, some (.list (spots.map nD)), none, none, none, none, none, none, none] S2 = .nx [some (rf k), some (nD P), some (nD M), some (nD C), some (.tuple (seats.map nD)), none, some (.list (spots.map nD)), none, some (rf S.length), none, none, none, none, none] (S2 ++ [.lst []]) := by
    refine exec_asg (d := rf S.length) ?_ rfl
    simp [mkL, hl2, rf, -List.map_take, -List.map_drop, DL.execs, DL.exec, DL.ev, DL.evs, DL.evAll, Res.bind_ok, Res.out_ok, Res.test, Res.outB, asBool, Out.seq, bltV, isTV, isTy, gc_same, bindT, bindTs, wipeE]
  have hsp : spots.length = C := by rw [p1, List.length_range]
  -- stages
  obtain ⟨env', S', e3, done, S3, y9, y10, y11, y12, q0, q1, H3, q2, q3⟩ := forLoop_inv (enc := nD) (g := none) (S0 := S2 ++ [.lst []]) (f := bodyF (DL.run tab (n + 3)) (.nm 9) hbody)
    (fun l env S' => ∃ done S3 y9 y10 y11 y12, env = [some (rf k), some (nD P), some (nD M), some (nD C), some (.tuple (seats.map nD)), none, some (.list (spots.map nD)), none, some (rf S.length), y9, y10, y11, y12, none] ∧ S' = S3 ++ [MO.lst (done.map stgD)] ∧ Bx S k S3 ∧ done.map (·.1) ++ l = spots ∧ ∀ s ∈ done, (s.2 ≠ [] ∧ s.2.length ≤ 1000) ∧ ∀ t, some t ∈ s.2 → t < C) (fun _ _ _ _ => rfl)
    (fun own l env S' ⟨done, S3, y9, y10, y11, y12, q0, q1, H3, q2, q3⟩ => by
      subst q0 q1
      have hd : done.length ≤ 100 := by
        have := congrArg List.length q2
        simp at this
        omega
      obtain ⟨nx, S4, z10, z11, z12, e, H4, n1, n2, n3⟩ := stage_eq (n := n) h0 H3 (spots := spots) (by omega) own done hd (some (nD P)) (some (nD M)) (some (nD C)) (some (.tuple (seats.map nD))) none none y9 y10 y11 y12 none
      refine ⟨_, _, e, done ++ [(own, nx)], S4, _, _, _, _, rfl, rfl, H4, by simp [← q2], fun s hs => ?_⟩
      rcases List.mem_append.mp hs with q | q
      · exact q3 s q
      · simp only [List.mem_singleton] at q
        subst q
        exact ⟨⟨n1, n3⟩, fun t ht => by rw [← hsp]; exact pool_mem (n2 _ ht)⟩)
    spots [some (rf k), some (nD P), some (nD M), some (nD C), some (.tuple (seats.map nD)), none, some (.list (spots.map nD)), none, some (rf S.length), none, none, none, none, none] (S2 ++ [.lst []]) ⟨[], S2, _, _, _, _, rfl, rfl, H2, rfl, fun s hs => nomatch hs⟩
  subst q0 q1
  have l1 := exec_frl (F := DL.run tab (n + 3)) (g := none) (t := .nm 9) (b := hbody) (S := S2 ++ [MO.lst []]) (S1 := S2 ++ [MO.lst []]) (S2 := S2 ++ [MO.lst []]) (k := .val) (its := [.v 6]) (vs := [.list (spots.map nD)])
    (env := [some (rf k), some (nD P), some (nD M), some (nD C), some (.tuple (seats.map nD)), none, some (.list (spots.map nD)), none, some (rf S.length), none, none, none, none, none]) (evs_cons (ev_v rfl) evs_nil) rfl e3
  have af : atL (S3 ++ [MO.lst (done.map stgD)]) S.length = some (done.map stgD) := by rw [← H3.len]; exact atL_last _ _
  have dsp : done.map (·.1) = spots := by simpa using q2
  have hdl : done.length = C := by rw [← hsp, ← dsp, List.length_map]
  have hsl : seats.length = P := by rw [s1, List.length_range]
  have fin := H3.gc (fz := true) h0 [MO.lst (done.map stgD)] (d := hD ⟨seats, done⟩) (gnd_hD _) rfl
  have tv : tupleV [rf S.length] (S3 ++ [MO.lst (done.map stgD)]) = .ok (.tuple (done.map stgD)) (S3 ++ [MO.lst (done.map stgD)]) := by simp only [tupleV, seq_rf af]
  have tp : PyData.tuple [.tuple (seats.map nD), .tuple (done.map stgD)] = hD ⟨seats, done⟩ := rfl
  have e0 : b__law_house = [.asg (.nm 4) (.blt .tuple false [(.comp false [5] (.nm 5) .rng1 [(.v 1)] [] (.bin .Add false (.c (.int 1)) (.call 19 [(.v 0), (.v 2)] [])))]), .asg (.nm 6) (.comp false [7] (.nm 7) .rng1 [(.v 3)] [] (.call 19 [(.v 0), (.v 1)] [])), .asg (.nm 8) (.lst true []), .frl (.nm 9) .val [(.v 6)] hbody, .ret (.tup [(.v 4), (.blt .tuple false [(.v 8)])])] := rfl
  have hst : ∀ s, s < C → ∃ x ∈ done, stg ⟨seats, done⟩ s = x := fun s hs => by
    have q := get_stg (h := ⟨seats, done⟩) (s := s) (by rw [hdl]; exact hs)
    exact ⟨_, List.mem_of_getElem? q, rfl⟩
  refine ⟨⟨seats, done⟩, S3, ?_, H3, ?_⟩
  · rw [e0, execs_cons a1 (execs_cons a2 (execs_cons a3 (execs_cons l1 (execs_ret (d := hD ⟨seats, done⟩) (S1 := S3 ++ [MO.lst (done.map stgD)]) ?_)))), fin]
    simp [tv, mkT, sizeLine_eq, tp, -List.map_take, -List.map_drop, DL.execs, DL.exec, DL.ev, DL.evs, DL.evAll, Res.bind_ok, Res.out_ok, Res.test, Res.outB, asBool, Out.seq, bltV, isTV, isTy, gc_same, bindT, bindTs, wipeE]
  · refine ⟨⟨fun s hs => ?_, fun s hs t ht => ?_, by show seats.length ≤ 1000; omega, by show done.length ≤ 1000; omega, fun p => ?_⟩, hsl, hdl, fun s hs => ?_, fun s hs => ?_⟩
    · have hs' : s < C := by rw [← hdl]; exact hs
      obtain ⟨x, hx, e⟩ := hst s hs'
      show (stg ⟨seats, done⟩ s).1 < seats.length
      rw [e, hsl]
      exact p2 _ (by rw [← dsp]; exact List.mem_map_of_mem hx)
    · have hs' : s < C := by rw [← hdl]; exact hs
      obtain ⟨x, hx, e⟩ := hst s hs'
      have ht' : some t ∈ (stg ⟨seats, done⟩ s).2 := ht
      rw [e] at ht'
      show t < done.length
      rw [hdl]
      exact (q3 x hx).2 t ht'
    · show seats.getD p 0 ≤ 1000
      rw [List.getD_eq_getElem?_getD]
      cases hq : seats[p]? with
      | none => simp
      | some v => exact s2 v (List.mem_of_getElem? hq)
    · obtain ⟨x, hx, e⟩ := hst s hs
      show (stg ⟨seats, done⟩ s).2 ≠ []
      rw [e]
      exact (q3 x hx).1.1
    · obtain ⟨x, hx, e⟩ := hst s hs
      show (stg ⟨seats, done⟩ s).2.length ≤ 1000
      rw [e]
      exact (q3 x hx).1.2
end
end K86

set_option linter.all false
set_option maxRecDepth 100000
namespace K86
open PySem DL L2
section
variable {h : H} {S : Store} {st : Stand} {n : Nat}
theorem goes_eq (n : Nat) (ok : OkH h) (hl : st.length = h.seats.length) (g : G) (e : ∀ s, g.2 = some s → s < h.stages.length) (S : Store) : DL.run tab (n + 1) 24 [hD h, standD st, gD g] S = .ok (.bool (roomFor h st g.2)) S := by
  rw [r__law_goes]
  obtain ⟨g1, g2⟩ := g
  cases g2 with
  | none =>
    have o0 : cmpV .Eq (oD none) (.int (-1)) S = .ok (.bool true) S := cmp_eq_i _ _
    simp [b__law_goes, sub_g1, o0, roomFor, -List.map_take, -List.map_drop, DL.execs, DL.exec, DL.ev, DL.evs, DL.evAll, Res.bind_ok, Res.out_ok, Res.test, Res.outB, asBool, Out.seq, bltV, isTV, isTy, gc_same, bindT, bindTs, wipeE]
  | some s =>
    have hs := e s rfl
    have hp := ok.pl s hs
    have o0 : cmpV .Eq (oD (some s)) (.int (-1)) S = .ok (.bool false) S := by
      have h1 : ¬ ((s : Int) = -1) := by omega
      have := cmp_eq_i (S := S) (s : Int) (-1)
      rw [decide_eq_false h1] at this
      exact this
    have b4 : subV (.tuple (h.stages.map stgD)) (oD (some s)) S = .ok (stgD (stg h s)) S := sub_stg hs S
    have hpl : (stg h s).1 = plc h s := rfl
    simp [b__law_goes, sub_g1, o0, roomFor, sub_h0, sub_h1, b4, sub_s0, hpl, sub_st (st := st) (by rw [hl]; exact hp), len_gs, sub_seat hp, cmp_lt_n, -List.map_take, -List.map_drop, DL.execs, DL.exec, DL.ev, DL.evs, DL.evAll, Res.bind_ok, Res.out_ok, Res.test, Res.outB, asBool, Out.seq, bltV, isTV, isTy, gc_same, bindT, bindTs, wipeE]
theorem tellings_eq (n : Nat) (p : Nat) (g : G) (e : ∀ s, g.2 = some s → s < h.stages.length) (hz : (tells h g.2).length ≤ 1000) (S : Store) : DL.run tab (n + 1) 26 [hD h, moveD p g] S = .ok (.list ((tells h g.2).map oD)) S := by
  rw [r__law_tellings]
  obtain ⟨g1, g2⟩ := g
  have hm : subV (moveD p (g1, g2)) (.int 1) S = .ok (gD (g1, g2)) S := rfl
  cases g2 with
  | none =>
    have o0 : cmpV .Eq (oD none) (.int (-1)) S = .ok (.bool true) S := cmp_eq_i _ _
    simp [b__law_tellings, hm, sub_g1, cmp_eq_i, tells, mkL, sizeLine_eq, oD, nI, -List.map_take, -List.map_drop, DL.execs, DL.exec, DL.ev, DL.evs, DL.evAll, Res.bind_ok, Res.out_ok, Res.test, Res.outB, asBool, Out.seq, bltV, isTV, isTy, gc_same, bindT, bindTs, wipeE]
  | some s =>
    have hs := e s rfl
    have o0 : cmpV .Eq (oD (some s)) (.int (-1)) S = .ok (.bool false) S := by
      have h1 : ¬ ((s : Int) = -1) := by omega
      have := cmp_eq_i (S := S) (s : Int) (-1)
      rw [decide_eq_false h1] at this
      exact this
    have b4 : subV (.tuple (h.stages.map stgD)) (oD (some s)) S = .ok (stgD (stg h s)) S := sub_stg hs S
    have hnx : (stg h s).2 = nxs h s := rfl
    have lv : listV false [.tuple ((nxs h s).map oD)] S = .ok (.list ((nxs h s).map oD)) S := by
      have z : ((nxs h s).map oD).length ≤ sizeLine := by rw [sizeLine_eq, List.length_map]; have : (nxs h s).length ≤ 1000 := hz; omega
      simp only [listV, seqOf, mkL, if_pos z, Bool.false_eq_true, if_false]
    simp [b__law_tellings, hm, sub_g1, o0, tells, sub_h1, b4, sub_s1, hnx, lv, -List.map_take, -List.map_drop, DL.execs, DL.exec, DL.ev, DL.evs, DL.evAll, Res.bind_ok, Res.out_ok, Res.test, Res.outB, asBool, Out.seq, bltV, isTV, isTy, gc_same, bindT, bindTs, wipeE]
end
end K86

set_option linter.all false
set_option maxRecDepth 100000
namespace K86
open PySem DL L2
section
variable {h : H} {S : Store} {st : Stand} {n : Nat}
theorem lay_comp {f : D → Store → Res (Option D)} (S0' : Store) (hf : ∀ (x : List G) (S' : Store), x.length ≤ 1000 → f (gsD x) S' = .ok (some (rf S'.length)) (S' ++ [MO.lst (x.map gD)])) (few : ∀ p, (at_ st p).length ≤ 1000) (hl : st.length ≤ 1000) :
    compEnd false none S0' f (st.map gsD) S = .ok (refs S st.length) (lay S st) := by
  obtain ⟨bs, S', e1, done, e2, e3, e4⟩ := comp_inv (enc := gsD) (out := rf) (g := none) (S0 := S0') (S1 := S) (f := f)
    (fun l acc S' => ∃ done, done ++ l = st ∧ S' = lay S done ∧ acc = (List.range done.length).map (S.length + ·)) (fun _ _ _ _ => rfl)
    (fun x r acc S' ⟨done, q1, q2, q3⟩ => .inl ⟨S'.length, S' ++ [MO.lst (x.map gD)], by
      refine hf x S' ?_
      have := few done.length
      have e5 : at_ st done.length = x := by rw [← q1]; simp [at_]
      rwa [e5] at this, done ++ [x], by simp [q1], by rw [q2, lay_snoc], by rw [q3, q2, lay_len]; simp [List.range_succ]⟩)
    st ⟨[], rfl, by simp [lay], rfl⟩ (fun bs S' ⟨done, q1, _, q3⟩ => by
      rw [q3, List.length_map, List.length_range, sizeLine_eq]
      have : done.length = st.length := by rw [← q1]; simp
      omega)
  have e5 : done = st := by simpa using e2
  subst e5
  subst e4
  subst e3
  exact e1
theorem map_set_srt (H : Srt st) (p : Nat) (l : List G) : (st.set p l).map gsort = st.set p (gsort l) := by
  rw [List.map_set]
  congr 1
  refine (List.map_congr_left fun x hx => H x hx).trans ?_
  exact List.map_id' st
theorem law_behind_eq (n : Nat) (ok : OkH h) (os : OkS h st) (srt : Srt st) (hS : lsts S = true) {p : Nat} {g : G} {t : Option Nat} (e : okR h st (.move p g t)) : DL.run tab (n + 1) 27 [hD h, standD st, moveD p g, oD t] S = .ok (standD (stepR h st (.move p g t))) S := by
  rw [r__law_behind]
  obtain ⟨e1, e2, e3, e4, e5⟩ := e
  have hs : ∀ s, g.2 = some s → s < h.stages.length := fun s q => ok.nx g.1 e2.1 s (by rw [← q]; exact e2.2.2)
  have fh := ok.few
  have hlen : st.length ≤ 1000 := by rw [os.len]; exact fh
  have cm := lay_comp (S := S) (st := st) (f := compF (DL.run tab n) [7] (.nm 7) [] (.blt .list true [(.v 7)]) [some (hD h), some (standD st), some (moveD p g), some (oD t), none, none, none, none, none]) S (fun x S' hx => by
    refine compF_some (env' := [some (hD h), some (standD st), some (moveD p g), some (oD t), none, none, none, some (gsD x), none]) rfl rfl (ev_blt1 (ev_v rfl) ?_)
    exact list_gs x (by omega) S') os.few hlen
  have c1 := ev_comp (F := DL.run tab n) (its := [.v 1]) (S := S) (S1 := S) (S2 := S) (g := none) (items := st.map gsD) (k := .val) (vs := [standD st]) (env := [some (hD h), some (standD st), some (moveD p g), some (oD t), none, none, none, none, none]) (evs_cons (ev_v rfl) evs_nil) rfl cm
  have m0 : ∀ S, subV (moveD p g) (.int 0) S = .ok (.int (p : Int)) S := fun _ => rfl
  have m1 : ∀ S, subV (moveD p g) (.int 1) S = .ok (gD g) S := fun _ => rfl
  have a1 : DL.exec (DL.run tab n) (.asg (.tup [(.nm 4), (.nm 5), (.nm 6)]) (.tup [(.comp false [7] (.nm 7) .val [(.v 1)] [] (.blt .list true [(.v 7)])), (.sub (.v 2) (.c (.int 0))), (.sub (.v 2) (.c (.int 1)))])) [some (hD h), some (standD st), some (moveD p g), some (oD t), none, none, none, none, none] S = .nx [some (hD h), some (standD st), some (moveD p g), some (oD t), some (refs S st.length), some (.int (p : Int)), some (gD g), none, none] (lay S st) := by
    refine exec_asg (d := .tuple [refs S st.length, .int (p : Int), gD g]) ?_ rfl
    show (DL.evs _ _ _ _).bind _ = _
    rw [evs_cons c1 (evs_cons (d := .int (p : Int)) (S1 := lay S st) (S2 := lay S st) (by simp [m0, -List.map_take, -List.map_drop, DL.execs, DL.exec, DL.ev, DL.evs, DL.evAll, Res.bind_ok, Res.out_ok, Res.test, Res.outB, asBool, Out.seq, bltV, isTV, isTy, gc_same, bindT, bindTs, wipeE]) (evs_cons (d := gD g) (S1 := lay S st) (by simp [m1, -List.map_take, -List.map_drop, DL.execs, DL.exec, DL.ev, DL.evs, DL.evAll, Res.bind_ok, Res.out_ok, Res.test, Res.outB, asBool, Out.seq, bltV, isTV, isTy, gc_same, bindT, bindTs, wipeE]) evs_nil)), Res.bind_ok]
    simp [mkT, sizeLine_eq]
  have at1 := lay_at (S := S) (k := st) e1
  have r1 : mthV .remove (rf (S.length + p)) [gD g] (lay S st) = .ok .none (lay S (st.set p ((at_ st p).erase g))) := by
    rw [← lay_set]
    exact (onL_rf at1).trans (remove_g e3 _ _)
  have a2 : DL.exec (DL.run tab n) (.exp (.mth .remove (.sub (.v 4) (.v 5)) [(.v 6)])) [some (hD h), some (standD st), some (moveD p g), some (oD t), some (refs S st.length), some (.int (p : Int)), some (gD g), none, none] (lay S st) = .nx [some (hD h), some (standD st), some (moveD p g), some (oD t), some (refs S st.length), some (.int (p : Int)), some (gD g), none, none] (lay S (st.set p ((at_ st p).erase g))) := by
    generalize lay S (st.set p ((at_ st p).erase g)) = S9 at r1 ⊢
    simp [sub_refs e1, lst_rf at1, r1, -List.map_take, -List.map_drop, DL.execs, DL.exec, DL.ev, DL.evs, DL.evAll, Res.bind_ok, Res.out_ok, Res.test, Res.outB, asBool, Out.seq, bltV, isTV, isTy, gc_same, bindT, bindTs, wipeE]
  -- the end
  have fin : ∀ k : Stand, k.length = st.length → (∀ q, (at_ k q).length ≤ 1001) → gc true S (DL.execs (DL.run tab n) [.ret (.blt .tuple false [(.comp false [8] (.nm 8) .val [(.v 4)] [] (.blt .tuple false [(.blt .sorted false [(.v 8)])]))])] [some (hD h), some (standD st), some (moveD p g), some (oD t), some (refs S st.length), some (.int (p : Int)), some (gD g), none, none] (lay S k)) = .ok (standD (k.map gsort)) S := fun k hk hz => by
    have cm := comp_map (enc := rf) (g := none) (S0 := lay S k) (S1 := lay S k) (f := compF (DL.run tab n) [8] (.nm 8) [] (.blt .tuple false [(.blt .sorted false [(.v 8)])]) [some (hD h), some (standD st), some (moveD p g), some (oD t), some (refs S st.length), some (.int (p : Int)), some (gD g), none, none]) (v := fun i => gsD (gsort (at_ k (i - S.length)))) ((List.range st.length).map (S.length + ·)) rfl (fun i hi => by
      obtain ⟨j, hj, rfl⟩ := List.mem_map.mp hi
      have hj' : j < k.length := by rw [hk]; simpa using hj
      refine compF_some (env' := [some (hD h), some (standD st), some (moveD p g), some (oD t), some (refs S st.length), some (.int (p : Int)), some (gD g), none, some (rf (S.length + j))]) rfl rfl ?_
      have e8 : S.length + j - S.length = j := by omega
      rw [e8]
      have so : bltV .sorted false [rf (S.length + j)] (lay S k) = _ := sorted_g (d := rf (S.length + j)) (at_ k j) (lay S k) (seq_rf (lay_at (S := S) hj')) (by rw [sizeLine_eq]; have := hz j; omega)
      exact ev_blt1 (ev_blt1 (ev_v rfl) so) rfl) (by rw [List.length_map, List.length_range, sizeLine_eq]; omega)
    have c := ev_comp (F := DL.run tab n) (its := [.v 4]) (S := lay S k) (S1 := lay S k) (S2 := lay S k) (g := none) (k := .val) (vs := [refs S st.length]) (env := [some (hD h), some (standD st), some (moveD p g), some (oD t), some (refs S st.length), some (.int (p : Int)), some (gD g), none, none]) (evs_cons (ev_v rfl) evs_nil) rfl cm
    have mr : ((List.range st.length).map (S.length + ·)).map (fun i => gsD (gsort (at_ k (i - S.length)))) = (k.map gsort).map gsD := by
      refine List.ext_getElem? fun i => ?_
      by_cases hi : i < k.length
      · rw [List.getElem?_map, List.getElem?_map, List.getElem?_map, List.getElem?_map, List.getElem?_range (by rw [← hk]; exact hi), get_at hi]
        have : S.length + i - S.length = i := by omega
        simp only [Option.map_some, this]
      · rw [List.getElem?_eq_none (by simp; omega), List.getElem?_eq_none (by simp; omega)]
    rw [mr] at c
    rw [execs_ret (ev_blt1 c (r := .ok (standD (k.map gsort)) (lay S k)) rfl)]
    exact gc_near hS (by simpa using near_refl S []) rfl (gnd_stD _) rfl
  obtain ⟨g1, g2⟩ := g
  have lset : (st.set p ((at_ st p).erase (g1, g2))).length = st.length := List.length_set
  have fset : ∀ q, (at_ (st.set p ((at_ st p).erase (g1, g2))) q).length ≤ 1000 := fun q => by
    rw [at_set e1]
    split
    · exact Nat.le_trans List.length_erase_le (os.few p)
    · exact os.few q
  cases g2 with
  | none =>
    have e0 : stepR h st (.move p (g1, none) t) = (st.set p ((at_ st p).erase (g1, none))).map gsort := (map_set_srt srt _ _).symm
    rw [e0]
    generalize st.set p ((at_ st p).erase (g1, none)) = k at *
    have o0 : ∀ S', cmpV .NotEq (oD none) (.int (-1)) S' = .ok (.bool false) S' := fun S' => cmp_ne_i _ _
    rw [b__law_behind, execs_cons a1 (execs_cons a2 (execs_cons (exec_ifF (S1 := lay S k) (by simp [sub_g1, o0, -List.map_take, -List.map_drop, DL.execs, DL.exec, DL.ev, DL.evs, DL.evAll, Res.bind_ok, Res.out_ok, Res.test, Res.outB, asBool, Out.seq, bltV, isTV, isTy, gc_same, bindT, bindTs, wipeE]) execs_nil) rfl))]
    exact fin k lset fun q => Nat.le_succ_of_le (fset q)
  | some s =>
    have hs' := hs s rfl
    have hp2 : plc h s < st.length := by rw [os.len]; exact ok.pl s hs'
    have e0 : stepR h st (.move p (g1, some s) t) = ((st.set p ((at_ st p).erase (g1, some s))).set (plc h s) (at_ (st.set p ((at_ st p).erase (g1, some s))) (plc h s) ++ [(s, t)])).map gsort := by
      show (st.set p (gsort ((at_ st p).erase (g1, some s)))).set (plc h s) (gsort (at_ (st.set p (gsort ((at_ st p).erase (g1, some s)))) (plc h s) ++ [(s, t)])) = _
      rw [List.map_set, map_set_srt srt]
      congr 1
      rw [at_set e1, at_set e1]
      split
      · exact gsort_congr ((gsort_perm _).append_right _)
      · rfl
    rw [e0]
    generalize st.set p ((at_ st p).erase (g1, some s)) = k at *
    have o0 : ∀ S', cmpV .NotEq (oD (some s)) (.int (-1)) S' = .ok (.bool true) S' := fun S' => by
      have h1 : ((s : Int) ≠ -1) := by omega
      have := cmp_ne_i (S := S') (s : Int) (-1)
      rw [decide_eq_true h1] at this
      exact this
    have b4 : ∀ S', subV (.tuple (h.stages.map stgD)) (oD (some s)) S' = .ok (stgD (stg h s)) S' := fun S' => sub_stg hs' S'
    have hpl : (stg h s).1 = plc h s := rfl
    have hk2 : plc h s < k.length := by rw [lset]; exact hp2
    have at2 := lay_at (S := S) (k := k) hk2
    have ap : mthV .append (rf (S.length + plc h s)) [gD (s, t)] (lay S k) = .ok .none (lay S (k.set (plc h s) (at_ k (plc h s) ++ [(s, t)]))) := by
      refine (onL_rf at2).trans ?_
      have z : ((at_ k (plc h s)).map gD).length < sizeLine := by rw [sizeLine_eq, List.length_map]; have := fset (plc h s); omega
      simp only [appendV, if_pos z]
      rw [← lay_set]
      simp only [List.map_append, List.map_cons, List.map_nil]
    have tp : PyData.tuple [oD (some s), oD t] = gD (s, t) := rfl
    have lz : (k.set (plc h s) (at_ k (plc h s) ++ [(s, t)])).length = st.length := by rw [List.length_set]; exact lset
    have fz : ∀ q, (at_ (k.set (plc h s) (at_ k (plc h s) ++ [(s, t)])) q).length ≤ 1001 := fun q => by
      rw [at_set hk2]
      split
      · have := fset (plc h s)
        simp
        omega
      · exact Nat.le_succ_of_le (fset q)
    generalize k.set (plc h s) (at_ k (plc h s) ++ [(s, t)]) = k2 at *
    rw [b__law_behind, execs_cons a1 (execs_cons a2 (execs_cons (exec_ifT (S1 := lay S k) (o := .nx [some (hD h), some (standD st), some (moveD p (g1, some s)), some (oD t), some (refs S st.length), some (.int (p : Int)), some (gD (g1, some s)), none, none] (lay S k2)) (by simp [sub_g1, o0, -List.map_take, -List.map_drop, DL.execs, DL.exec, DL.ev, DL.evs, DL.evAll, Res.bind_ok, Res.out_ok, Res.test, Res.outB, asBool, Out.seq, bltV, isTV, isTy, gc_same, bindT, bindTs, wipeE]) (by simp [sub_g1, sub_h1, b4, sub_s0, hpl, sub_refs hp2, lst_rf at2, mkT, sizeLine_eq, tp, ap, -List.map_take, -List.map_drop, DL.execs, DL.exec, DL.ev, DL.evs, DL.evAll, Res.bind_ok, Res.out_ok, Res.test, Res.outB, asBool, Out.seq, bltV, isTV, isTy, gc_same, bindT, bindTs, wipeE])) rfl))]
    exact fin k2 lz fz
end
end K86

set_option linter.all false
set_option maxRecDepth 100000
namespace K86
open PySem DL L2
abbrev Mv := Nat × G
def mvD (x : Mv) : D := moveD x.1 x.2
theorem mvD_plain (x : Mv) : (mvD x).plain = true := rfl
theorem mvD_depth (x : Mv) : (mvD x).depth ≤ 60 := by simp [mvD, moveD, gD, oD, PyData.depth, PyData.depthAll]
theorem mvD_res (x : Mv) (S : Store) : res S (mvD x) = mvD x := rfl
theorem mvD_eqv (a b : Mv) : PyData.eqv (mvD a) (mvD b) = (a == b) := by
  have h : PyData.eqv (mvD a) (mvD b) = (((a.1 : Int) == (b.1 : Int)) && (PyData.eqv (gD a.2) (gD b.2) && true)) := rfl
  rw [h, gD_eqv, beq_nat, Bool.and_true]
  rfl
theorem gnd_mvD (x : Mv) : gnd (mvD x) = true := rfl
theorem sortOk_m (l : List Mv) : sortOk (l.map mvD) = true := by
  unfold sortOk
  simp only [plainAll_map mvD_plain, Bool.true_and, Bool.and_eq_true, Bool.or_eq_true]
  refine ⟨⟨?_, .inl ?_⟩, ?_⟩
  · simp only [alikeB, List.all_map, List.all_eq_true, Function.comp]
    intro a _ b _
    rfl
  · simp only [List.all_map, List.all_eq_true, Function.comp]
    intro a _
    rfl
  · simp only [List.all_map, List.all_eq_true, Function.comp, decide_eq_true_eq]
    intro a _
    exact mvD_depth a
def msort (l : List Mv) : List Mv := l.mergeSort fun a b => W.dataLe false id (mvD a) (mvD b)
theorem msort_D (l : List Mv) : sortD (l.map mvD) = (msort l).map mvD := by
  unfold sortD msort
  exact (List.map_mergeSort (f := mvD) (s := W.dataLe false id) (fun a _ b _ => rfl)).symm
theorem msort_perm (l : List Mv) : (msort l).Perm l := List.mergeSort_perm l _
theorem sorted_m (l : List Mv) (S : Store) {d : D} (hs : seqOf S d = some (l.map mvD)) (hz : l.length ≤ sizeLine) : sortedV false [d] S = .ok (.list ((msort l).map mvD)) S := by
  simp only [sortedV, hs, sortOk_m, if_true, msort_D, mkL, List.length_map, (msort_perm l).length_eq, if_pos hz, Bool.false_eq_true, if_false]
section
variable {h : H} {S : Store} {st : Stand} {n : Nat}
def encP (x : List G × Nat) : D := .tuple [.int (x.2 : Int), gsD x.1]
theorem enum_st (l : Stand) : (l.map gsD).mapIdx (fun i x => PyData.tuple [.int i, x]) = l.zipIdx.map encP := by
  refine List.ext_getElem? fun i => ?_
  rw [List.getElem?_mapIdx, List.getElem?_map, List.getElem?_map, List.getElem?_zipIdx]
  cases l[i]? with
  | none => rfl
  | some r => simp [encP]
def mbody : List Sm := [.ifs (.and (.call 24 [(.v 0), (.v 1), (.v 5)] []) (.cmp .NotIn (.tup [(.v 3), (.v 5)]) (.v 2))) [.exp (.mth .append (.v 2) [(.tup [(.v 3), (.v 5)])])] []]
/-- moves that may be made -/
def good (h : H) (st : Stand) (x : Mv) : Prop := x.1 < st.length ∧ x.2 ∈ at_ st x.1 ∧ roomFor h st x.2.2 = true
theorem moves_eq (n : Nat) (ok : OkH h) (os : OkS h st) (hg : ∀ p g, g ∈ at_ st p → okG h p g) (hS : lsts S = true) :
    ∃ ms : List Mv, DL.run tab (n + 2) 25 [hD h, standD st] S = .ok (.list (ms.map mvD)) S ∧ (∀ x ∈ ms, good h st x) ∧ ms.length ≤ 1000000 := by
  rw [r__law_moves]
  have few := ok.few
  have hlen : st.length ≤ 1000 := by rw [os.len]; exact few
  -- the inner loop
  have inner : ∀ (p : Nat) (l : List G) (found : List Mv) (y3 y4 y5 : Option D), p < st.length → (∀ g ∈ l, g ∈ at_ st p) → (∀ x ∈ found, good h st x) → found.length + l.length ≤ 1001000 →
      ∃ (found' : List Mv) (y5' : Option D), forLoop none (S ++ [MO.lst (found.map mvD)]) (bodyF (DL.run tab (n + 1)) (.nm 5) mbody) (l.map gD) [some (hD h), some (standD st), some (rf S.length), some (.int (p : Int)), y4, y5] (S ++ [MO.lst (found.map mvD)]) =
        .nx [some (hD h), some (standD st), some (rf S.length), some (.int (p : Int)), y4, y5'] (S ++ [MO.lst (found'.map mvD)]) ∧ (∀ x ∈ found', good h st x) ∧ found'.length ≤ found.length + l.length := by
    intro p l found y3 y4 y5 hp hl hf hz
    obtain ⟨env', S', e1, found', y5', q0, q1, q2, q3, q4⟩ := forLoop_inv (enc := gD) (g := none) (S0 := S ++ [MO.lst (found.map mvD)]) (f := bodyF (DL.run tab (n + 1)) (.nm 5) mbody)
      (fun r env S' => ∃ f y, env = [some (hD h), some (standD st), some (rf S.length), some (.int (p : Int)), y4, y] ∧ S' = S ++ [MO.lst (f.map mvD)] ∧ (∀ g ∈ r, g ∈ at_ st p) ∧ (∀ x ∈ f, good h st x) ∧ f.length + r.length ≤ found.length + l.length) (fun _ _ _ _ => rfl)
      (fun g r env S' ⟨f, y, q0, q1, q2, q3, q4⟩ => by
        subst q0 q1
        have hgp := q2 g (List.mem_cons_self ..)
        have og := hg p g hgp
        have af : atL (S ++ [MO.lst (f.map mvD)]) S.length = some (f.map mvD) := atL_last _ _
        have t1 := goes_eq n ok os.len g (fun s q => ok.nx g.1 og.1 s (by rw [← q]; exact og.2.2)) (S ++ [MO.lst (f.map mvD)])
        have ni : cmpV .NotIn (mvD (p, g)) (rf S.length) (S ++ [MO.lst (f.map mvD)]) = .ok (.bool (!decide ((p, g) ∈ f))) (S ++ [MO.lst (f.map mvD)]) := cmp_notin mvD_plain mvD_depth mvD_res mvD_eqv f (p, g) (seq_rf af)
        have tp : PyData.tuple [.int (p : Int), gD g] = mvD (p, g) := rfl
        have ap : mthV .append (rf S.length) [mvD (p, g)] (S ++ [MO.lst (f.map mvD)]) = .ok .none (S ++ [MO.lst ((f ++ [(p, g)]).map mvD)]) := by
          refine (onL_rf af).trans ?_
          have z : (f.map mvD).length < sizeLine := by rw [sizeLine_eq, List.length_map]; simp at q4; omega
          simp only [appendV, if_pos z]
          rw [setL_last]
          simp
        by_cases c1 : roomFor h st g.2 = true
        · rw [c1] at t1
          by_cases c2 : (p, g) ∈ f
          · rw [decide_eq_true c2] at ni
            refine ⟨[some (hD h), some (standD st), some (rf S.length), some (.int (p : Int)), y4, some (gD g)], S ++ [MO.lst (f.map mvD)], bodyF_eq (env2 := [some (hD h), some (standD st), some (rf S.length), some (.int (p : Int)), y4, some (gD g)]) rfl ?_, f, _, rfl, rfl, fun x hx => q2 x (List.mem_cons_of_mem _ hx), q3, by simp at q4 ⊢; omega⟩
            simp [mbody, t1, mkT, sizeLine_eq, tp, ni, -List.map_take, -List.map_drop, DL.execs, DL.exec, DL.ev, DL.evs, DL.evAll, Res.bind_ok, Res.out_ok, Res.test, Res.outB, asBool, Out.seq, bltV, isTV, isTy, gc_same, bindT, bindTs, wipeE]
          · rw [decide_eq_false c2] at ni
            refine ⟨[some (hD h), some (standD st), some (rf S.length), some (.int (p : Int)), y4, some (gD g)], S ++ [MO.lst ((f ++ [(p, g)]).map mvD)], bodyF_eq (env2 := [some (hD h), some (standD st), some (rf S.length), some (.int (p : Int)), y4, some (gD g)]) rfl ?_, f ++ [(p, g)], _, rfl, rfl, fun x hx => q2 x (List.mem_cons_of_mem _ hx), fun x hx => ?_, by simp at q4 ⊢; omega⟩
            · generalize f ++ [(p, g)] = f2 at ap ⊢
              simp [mbody, t1, mkT, sizeLine_eq, tp, ni, lst_rf af, ap, -List.map_take, -List.map_drop, DL.execs, DL.exec, DL.ev, DL.evs, DL.evAll, Res.bind_ok, Res.out_ok, Res.test, Res.outB, asBool, Out.seq, bltV, isTV, isTy, gc_same, bindT, bindTs, wipeE]
            · rcases List.mem_append.mp hx with q | q
              · exact q3 x q
              · simp only [List.mem_singleton] at q
                subst q
                exact ⟨hp, hgp, c1⟩
        · have c1' : roomFor h st g.2 = false := by simpa using c1
          rw [c1'] at t1
          refine ⟨[some (hD h), some (standD st), some (rf S.length), some (.int (p : Int)), y4, some (gD g)], S ++ [MO.lst (f.map mvD)], bodyF_eq (env2 := [some (hD h), some (standD st), some (rf S.length), some (.int (p : Int)), y4, some (gD g)]) rfl ?_, f, _, rfl, rfl, fun x hx => q2 x (List.mem_cons_of_mem _ hx), q3, by simp at q4 ⊢; omega⟩
          simp [mbody, t1, -List.map_take, -List.map_drop, DL.execs, DL.exec, DL.ev, DL.evs, DL.evAll, Res.bind_ok, Res.out_ok, Res.test, Res.outB, asBool, Out.seq, bltV, isTV, isTy, gc_same, bindT, bindTs, wipeE])
      l [some (hD h), some (standD st), some (rf S.length), some (.int (p : Int)), y4, y5] (S ++ [MO.lst (found.map mvD)]) ⟨found, _, rfl, rfl, hl, hf, Nat.le_refl _⟩
    subst q0 q1
    exact ⟨found', y5', e1, q3, by simpa using q4⟩
  obtain ⟨env', S', e1, found, i, y3, y4, y5, q0, q1, q2, q3, q4⟩ := forLoop_inv (enc := encP) (g := none) (S0 := S ++ [MO.lst []]) (f := bodyF (DL.run tab (n + 1)) (.tup [(.nm 3), (.nm 4)]) [.frl (.nm 5) .val [(.v 4)] mbody])
    (fun r env S' => ∃ f i y3 y4 y5, env = [some (hD h), some (standD st), some (rf S.length), y3, y4, y5] ∧ S' = S ++ [MO.lst (f.map mvD)] ∧ r = (st.drop i).zipIdx i ∧ (∀ x ∈ f, good h st x) ∧ f.length + 1000 * r.length ≤ 1000 * st.length) (fun _ _ _ _ => rfl)
    (fun x r env S' ⟨f, i, y3, y4, y5, q0, q1, q2, q3, q4⟩ => by
      subst q0 q1
      have hi : i < st.length := by
        refine Nat.lt_of_not_le fun hle => ?_
        rw [List.drop_eq_nil_of_le hle] at q2
        cases q2
      rw [List.drop_eq_getElem_cons hi, List.zipIdx_cons] at q2
      obtain ⟨rfl, rfl⟩ := List.cons.inj q2
      have hat : at_ st i = st[i] := by unfold at_; rw [List.getD_eq_getElem?_getD, List.getElem?_eq_getElem hi]; rfl
      have fz := os.few i
      rw [hat] at fz
      simp only [List.length_cons] at q4
      obtain ⟨f', y5', e1, g1, g2⟩ := inner i st[i] f none (some (gsD st[i])) y5 hi (fun g hgm => by rw [hat]; exact hgm) q3 (by omega)
      refine ⟨_, _, bodyF_eq (env2 := [some (hD h), some (standD st), some (rf S.length), some (.int (i : Int)), some (gsD st[i]), y5]) rfl (execs_cons (exec_frl (g := none) (items := st[i].map gD) (S1 := S ++ [MO.lst (f.map mvD)]) (S2 := S ++ [MO.lst (f.map mvD)]) (vs := [gsD st[i]]) (evs_cons (ev_v rfl) evs_nil) rfl e1) execs_nil), f', i + 1, _, _, _, rfl, rfl, rfl, g1, by omega⟩)
    st.zipIdx [some (hD h), some (standD st), some (rf S.length), none, none, none] (S ++ [MO.lst []]) ⟨[], 0, _, _, _, rfl, rfl, by simp, (fun x hx => nomatch hx), by simp⟩
  subst q0 q1
  have a1 : DL.exec (DL.run tab (n + 1)) (.asg (.nm 2) (.lst true [])) [some (hD h), some (standD st), none, none, none, none] S = .nx [some (hD h), some (standD st), some (rf S.length), none, none, none] (S ++ [MO.lst []]) := by
    refine exec_asg (d := rf S.length) ?_ rfl
    simp [mkL, rf, -List.map_take, -List.map_drop, DL.execs, DL.exec, DL.ev, DL.evs, DL.evAll, Res.bind_ok, Res.out_ok, Res.test, Res.outB, asBool, Out.seq, bltV, isTV, isTy, gc_same, bindT, bindTs, wipeE]
  have l1 := exec_frl (F := DL.run tab (n + 1)) (t := .tup [(.nm 3), (.nm 4)]) (b := [.frl (.nm 5) .val [(.v 4)] mbody]) (g := none) (S := S ++ [MO.lst []]) (S1 := S ++ [MO.lst []]) (S2 := S ++ [MO.lst []]) (k := .enum) (its := [.v 1]) (vs := [standD st]) (items := st.zipIdx.map encP) (evs_cons (ev_v rfl) evs_nil) (show enumI [standD st] _ = _ by simp only [enumI, standD, seqOf, enum_st]; rfl) e1
  have so : bltV .sorted false [rf S.length] (S ++ [MO.lst (found.map mvD)]) = _ := sorted_m (d := rf S.length) found _ (seq_rf (atL_last _ _)) (by rw [sizeLine_eq]; simp at q4; omega)
  have fin : gc true S (.rt (.list ((msort found).map mvD)) (S ++ [MO.lst (found.map mvD)])) = .ok (.list ((msort found).map mvD)) S := gc_near hS (by simpa using near_refl S []) rfl (gndL_map gnd_mvD _) rfl
  refine ⟨msort found, ?_, fun x hx => q3 x ((msort_perm found).mem_iff.mp hx), by rw [(msort_perm found).length_eq]; simp at q4; omega⟩
  have e0 : b__law_moves = [.asg (.nm 2) (.lst true []), .frl (.tup [(.nm 3), (.nm 4)]) .enum [(.v 1)] [.frl (.nm 5) .val [(.v 4)] mbody], .ret (.blt .sorted false [(.v 2)])] := rfl
  rw [e0, execs_cons a1 (execs_cons l1 (execs_ret (ev_blt1 (ev_v rfl) so))), fin]
end
end K86

set_option linter.all false
set_option maxRecDepth 100000
namespace K86
open PySem DL L2
section
variable {α : Type} {enc : α → D} {g : Option Nat} {S0 : Store}
/-- a loop that may be broken off -/
theorem forLoop_inv2 {f : D → DL.Env → Store → Out} (P : List α → DL.Env → Store → Prop) (Q : DL.Env → Store → Prop) (hs : ∀ l env S, P l env S → still g S0 S = true)
    (step : ∀ x r env S, P (x :: r) env S → (∃ env' S', f (enc x) env S = .nx env' S' ∧ P r env' S') ∨ (∃ env' S', f (enc x) env S = .bk env' S' ∧ Q env' S')) (fin : ∀ env S, P [] env S → Q env S) :
    ∀ (l : List α) (env : DL.Env) (S : Store), P l env S → ∃ env' S', forLoop g S0 f (l.map enc) env S = .nx env' S' ∧ Q env' S'
  | [], env, S, h => ⟨env, S, by simp [forLoop, hs _ _ _ h], fin _ _ h⟩
  | x :: r, env, S, h => by
    rcases step x r env S h with ⟨env', S', e, h'⟩ | ⟨env', S', e, h'⟩
    · obtain ⟨env2, S2, e2, h2⟩ := forLoop_inv2 P Q hs step fin r env' S' h'
      refine ⟨env2, S2, ?_, h2⟩
      simp only [List.map_cons, forLoop, hs _ _ _ h, if_true, e]
      exact e2
    · refine ⟨env', S', ?_, h'⟩
      simp only [List.map_cons, forLoop, hs _ _ _ h, if_true, e]
end
section
variable {h : H} {S : Store} {st : Stand} {n : Nat}
/-- every guest may be where it is -/
def OkGs (h : H) (st : Stand) : Prop := ∀ p g, g ∈ at_ st p → okG h p g
theorem okGs0 (h : H) : OkGs h (empt h) := fun p g hg => by
  have e1 : at_ (empt h) p = [] := by
    unfold at_ empt
    rw [List.getD_eq_getElem?_getD, List.getElem?_map]
    cases h.seats[p]? <;> rfl
  rw [e1] at hg
  cases hg
theorem okGs_step (ok : OkH h) (os : OkS h st) (H : OkGs h st) {r : Row} (e : okR h st r) : OkGs h (stepR h st r) := by
  cases r with
  | come s t =>
    have hp : plc h s < st.length := by rw [os.len]; exact ok.pl s e.1
    intro p g hg
    have hg' : g ∈ at_ (st.set (plc h s) (gsort (at_ st (plc h s) ++ [(s, t)]))) p := hg
    rw [at_set hp] at hg'
    split at hg'
    · rename_i q
      subst q
      rcases List.mem_append.mp (gsort_mem.mp hg') with q | q
      · exact H _ _ q
      · simp only [List.mem_singleton] at q
        subst q
        exact ⟨e.1, rfl, e.2.1⟩
    · exact H _ _ hg'
  | move p g t =>
    obtain ⟨e1, e2, e3, e4, e5⟩ := e
    obtain ⟨g1, g2⟩ := g
    have H1 : OkGs h (st.set p (gsort ((at_ st p).erase (g1, g2)))) := fun q x hx => by
      rw [at_set e1] at hx
      split at hx
      · rename_i hq
        subst hq
        exact H _ _ (List.mem_of_mem_erase (gsort_mem.mp hx))
      · exact H _ _ hx
    cases g2 with
    | none => exact H1
    | some s =>
      have hs : s < h.stages.length := ok.nx g1 e2.1 s e2.2.2
      have hp : plc h s < (st.set p (gsort ((at_ st p).erase (g1, some s)))).length := by rw [List.length_set, os.len]; exact ok.pl s hs
      intro q x hx
      have hx' : x ∈ at_ ((st.set p (gsort ((at_ st p).erase (g1, some s)))).set (plc h s) (gsort (at_ (st.set p (gsort ((at_ st p).erase (g1, some s)))) (plc h s) ++ [(s, t)]))) q := hx
      rw [at_set hp] at hx'
      split at hx'
      · rename_i hq
        subst hq
        rcases List.mem_append.mp (gsort_mem.mp hx') with q | q
        · exact H1 _ _ q
        · simp only [List.mem_singleton] at q
          subst q
          exact ⟨hs, rfl, e5⟩
      · exact H1 _ _ hx'
theorem okRs_snoc {rs : List Row} {r : Row} (e : okRs h st rs) (e2 : okR h (runR h st rs) r) : okRs h st (rs ++ [r]) := okRs_join e ⟨e2, trivial⟩
theorem runR_snoc (rs : List Row) (r : Row) : runR h st (rs ++ [r]) = stepR h (runR h st rs) r := by simp [runR]
/-- a good move and a telling make a row -/
theorem okR_move (hg : OkGs h st) {x : Mv} (e : good h st x) {t : Option Nat} (ht : t ∈ tells h x.2.2) : okR h st (.move x.1 x.2 t) :=
  ⟨e.1, hg _ _ e.2.1, e.2.1, e.2.2, ht⟩
end
end K86

set_option linter.all false
set_option maxRecDepth 100000
namespace K86
open PySem DL L2
section
variable {h : H} {S : Store} {st : Stand} {n k : Nat}
def encS (x : (Nat × List (Option Nat)) × Nat) : D := .tuple [.int (x.2 : Int), stgD x.1]
theorem enum_stg (l : List (Nat × List (Option Nat))) : (l.map stgD).mapIdx (fun i x => PyData.tuple [.int i, x]) = l.zipIdx.map encS := by
  refine List.ext_getElem? fun i => ?_
  rw [List.getElem?_mapIdx, List.getElem?_map, List.getElem?_map, List.getElem?_zipIdx]
  cases l[i]? with
  | none => rfl
  | some r => simp [encS]
def frees (h : H) (st : Stand) : List Nat := h.stages.zipIdx.filterMap fun x => if (at_ st x.1.1).length < seat h x.1.1 then some x.2 else none
theorem mem_frees {s : Nat} (hs : s ∈ frees h st) : s < h.stages.length ∧ (at_ st (plc h s)).length < seat h (plc h s) := by
  unfold frees at hs
  obtain ⟨x, hx, e⟩ := List.mem_filterMap.mp hs
  split at e
  · rename_i c
    cases e
    obtain ⟨x1, x2⟩ := x
    have q := List.mem_zipIdx_iff_getElem?.mp hx
    have h1 : x2 < h.stages.length := (List.getElem?_eq_some_iff.mp q).1
    refine ⟨h1, ?_⟩
    have q2 := get_stg h1
    rw [q] at q2
    have e3 : x1 = stg h x2 := Option.some.inj q2
    have e4 : plc h x2 = x1.1 := by rw [e3]; rfl
    simp only at c ⊢
    rw [e4]
    exact c
  · cases e
theorem frees_len (h : H) (st : Stand) : (frees h st).length ≤ h.stages.length := by
  unfold frees
  refine Nat.le_trans (List.length_filterMap_le _ _) ?_
  rw [List.length_zipIdx]
  exact Nat.le_refl _
theorem free_ev (F : FS) (ok : OkH h) (os : OkS h st) (x0 x2 x3 x5 x6 x7 x8 x9 x10 x11 x12 x13 x14) (S : Store) :
    DL.ev F (.comp false [10, 11] (.tup [(.nm 10), (.nm 11)]) .enum [(.sub (.v 1) (.c (.int 1)))] [(.cmp .Lt (.blt .len false [(.sub (.v 4) (.sub (.v 11) (.c (.int 0))))]) (.sub (.sub (.v 1) (.c (.int 0))) (.sub (.v 11) (.c (.int 0)))))] (.v 10))
      [x0, some (hD h), x2, x3, some (standD st), x5, x6, x7, x8, x9, x10, x11, x12, x13, x14] S = .ok (.list ((frees h st).map nD)) S := by
  have few := ok.fews
  have cm := comp_same (enc := encS) (g := none) (S0 := S) (S1 := S) (f := compF F [10, 11] (.tup [(.nm 10), (.nm 11)]) [(.cmp .Lt (.blt .len false [(.sub (.v 4) (.sub (.v 11) (.c (.int 0))))]) (.sub (.sub (.v 1) (.c (.int 0))) (.sub (.v 11) (.c (.int 0)))))] (.v 10) [x0, some (hD h), x2, x3, some (standD st), x5, x6, x7, x8, x9, x10, x11, x12, x13, x14])
    (v := fun x => if (at_ st x.1.1).length < seat h x.1.1 then some (nD x.2) else none) h.stages.zipIdx rfl (fun x hx => by
      obtain ⟨x1, i⟩ := x
      have q := List.mem_zipIdx_iff_getElem?.mp hx
      have h1 : i < h.stages.length := (List.getElem?_eq_some_iff.mp q).1
      have q2 := get_stg h1
      rw [q] at q2
      have e3 : x1 = stg h i := Option.some.inj q2
      have hp : x1.1 < h.seats.length := by rw [e3]; exact ok.pl i h1
      have hp2 : x1.1 < st.length := by rw [os.len]; exact hp
      have c := cmp_lt_n (at_ st x1.1).length (seat h x1.1) S
      by_cases cc : (at_ st x1.1).length < seat h x1.1
      · rw [if_pos cc]
        rw [decide_eq_true cc] at c
        refine compF_some (env' := [x0, some (hD h), x2, x3, some (standD st), x5, x6, x7, x8, x9, some (.int (i : Int)), some (stgD x1), x12, x13, x14]) (S1 := S) rfl ?_ (ev_v rfl)
        simp [sub_s0, sub_st hp2, len_gs, sub_h0, sub_seat hp, c, -List.map_take, -List.map_drop, DL.execs, DL.exec, DL.ev, DL.evs, DL.evAll, Res.bind_ok, Res.out_ok, Res.test, Res.outB, asBool, Out.seq, bltV, isTV, isTy, gc_same, bindT, bindTs, wipeE]
      · rw [if_neg cc]
        rw [decide_eq_false cc] at c
        refine compF_none (env' := [x0, some (hD h), x2, x3, some (standD st), x5, x6, x7, x8, x9, some (.int (i : Int)), some (stgD x1), x12, x13, x14]) rfl ?_
        simp [sub_s0, sub_st hp2, len_gs, sub_h0, sub_seat hp, c, -List.map_take, -List.map_drop, DL.execs, DL.exec, DL.ev, DL.evs, DL.evAll, Res.bind_ok, Res.out_ok, Res.test, Res.outB, asBool, Out.seq, bltV, isTV, isTy, gc_same, bindT, bindTs, wipeE]) (by rw [List.length_zipIdx, sizeLine_eq]; omega)
  have e : h.stages.zipIdx.filterMap (fun x => if (at_ st x.1.1).length < seat h x.1.1 then some (nD x.2) else none) = (frees h st).map nD := by
    unfold frees
    rw [List.map_filterMap]
    congr 1
    funext x
    split <;> rfl
  rw [e] at cm
  exact ev_comp (F := F) (its := [(.sub (.v 1) (.c (.int 1)))]) (S := S) (S1 := S) (S2 := S) (g := none) (k := .enum) (vs := [.tuple (h.stages.map stgD)]) (by simp [sub_h1, -List.map_take, -List.map_drop, DL.execs, DL.exec, DL.ev, DL.evs, DL.evAll, Res.bind_ok, Res.out_ok, Res.test, Res.outB, asBool, Out.seq, bltV, isTV, isTy, gc_same, bindT, bindTs, wipeE]) (show enumI [.tuple (h.stages.map stgD)] S = _ by simp only [enumI, seqOf, enum_stg]; rfl) cm
/-- how many are in -/
def many (st : Stand) : Int := (st.map fun l => (l.length : Int)).sum
theorem many_ev (F : FS) (hz : st.length ≤ 1000) (x0 x1 x2 x3 x5 x6 x7 x8 x9 x10 x11 x12 x13 x14) (S : Store) :
    DL.ev F (.blt .sum false [(.comp false [12] (.nm 12) .val [(.v 4)] [] (.blt .len false [(.v 12)]))]) [x0, x1, x2, x3, some (standD st), x5, x6, x7, x8, x9, x10, x11, x12, x13, x14] S = .ok (.int (many st)) S := by
  have cm := comp_map (enc := gsD) (g := none) (S0 := S) (S1 := S) (f := compF F [12] (.nm 12) [] (.blt .len false [(.v 12)]) [x0, x1, x2, x3, some (standD st), x5, x6, x7, x8, x9, x10, x11, x12, x13, x14]) (v := fun l => .int (l.length : Int)) st rfl (fun l _ => by
    refine compF_some (env' := [x0, x1, x2, x3, some (standD st), x5, x6, x7, x8, x9, x10, x11, some (gsD l), x13, x14]) rfl rfl (ev_blt1 (ev_v rfl) ?_)
    exact len_gs l S) (by rw [sizeLine_eq]; omega)
  have e : st.map (fun l => PyData.int (l.length : Int)) = (st.map fun l => (l.length : Int)).map .int := by rw [List.map_map]; rfl
  rw [e] at cm
  have c := ev_comp (F := F) (its := [.v 4]) (S := S) (S1 := S) (S2 := S) (g := none) (k := .val) (vs := [standD st]) (env := [x0, x1, x2, x3, some (standD st), x5, x6, x7, x8, x9, x10, x11, x12, x13, x14]) (evs_cons (ev_v rfl) evs_nil) rfl cm
  exact ev_blt1 c (by simp only [bltV, sumV, lstOf, intsOf_map]; rfl)
end
end K86

set_option linter.all false
set_option maxRecDepth 100000
namespace K86
open PySem DL L2
section
variable {h : H} {S : Store} {st : Stand} {n k : Nat}
def xCome : Ex := .bin .Add false (.bin .Add false (.slc false (.v 4) (.c .none) (.v 13)) (.tup [(.blt .tuple false [(.blt .sorted false [(.bin .Add false (.sub (.v 4) (.v 13)) (.tup [(.tup [(.v 10), (.v 11)])]))])])])) (.slc false (.v 4) (.bin .Add false (.v 13) (.c (.int 1))) (.c .none))
theorem xcome_ev (F : FS) (ok : OkH h) (os : OkS h st) {s : Nat} {t : Option Nat} (hs : s < h.stages.length) (x0 x1 x2 x3 x5 x6 x7 x8 x9 x12 x14) (S : Store) :
    DL.ev F xCome [x0, x1, x2, x3, some (standD st), x5, x6, x7, x8, x9, some (nD s), some (oD t), x12, some (nD (plc h s)), x14] S = .ok (standD (stepR h st (.come s t))) S := by
  have hp : plc h s < st.length := by rw [os.len]; exact ok.pl s hs
  have fh := ok.few
  have hl := os.len
  have few := os.few (plc h s)
  have e0 : stepR h st (.come s t) = st.set (plc h s) (gsort (at_ st (plc h s) ++ [(s, t)])) := rfl
  rw [e0]
  have b0 : binV .Add false (gsD (at_ st (plc h s))) (.tuple [gD (s, t)]) S = .ok (gsD (at_ st (plc h s) ++ [(s, t)])) S := by
    have := bin_add_t (S := S) false ((at_ st (plc h s)).map gD) [gD (s, t)] (by rw [sizeLine_eq]; simp; omega)
    have e : gsD (at_ st (plc h s) ++ [(s, t)]) = .tuple ((at_ st (plc h s)).map gD ++ [gD (s, t)]) := by simp [gsD]
    rw [e]
    exact this
  have hlen : (at_ st (plc h s) ++ [(s, t)]).length ≤ 1001 := by simp; omega
  have so : bltV .sorted false [gsD (at_ st (plc h s) ++ [(s, t)])] S = _ := sorted_g (d := gsD (at_ st (plc h s) ++ [(s, t)])) (at_ st (plc h s) ++ [(s, t)]) S rfl (by rw [sizeLine_eq]; omega)
  generalize at_ st (plc h s) ++ [(s, t)] = L at *
  generalize hpp : plc h s = p at *
  have s1 : slcV false (standD st) none (some (p : Int)) S = .ok (.tuple ((st.take p).map gsD)) S := by
    simp only [slcV, standD, cut_take gsD st p (by omega)]
  have s2 : slcV false (standD st) (some ((p : Int) + 1)) none S = .ok (.tuple ((st.drop (p + 1)).map gsD)) S := by
    have := cut_drop gsD st (p + 1) (by omega)
    simp only [slcV, standD]
    rw [← this]
    rfl
  have b1 : binV .Add false (.tuple ((st.take p).map gsD)) (.tuple [gsD (gsort L)]) S = .ok (.tuple ((st.take p).map gsD ++ [gsD (gsort L)])) S := bin_add_t _ _ _ (by rw [sizeLine_eq]; simp; omega)
  have b2 : binV .Add false (.tuple ((st.take p).map gsD ++ [gsD (gsort L)])) (.tuple ((st.drop (p + 1)).map gsD)) S = .ok (.tuple (((st.take p).map gsD ++ [gsD (gsort L)]) ++ (st.drop (p + 1)).map gsD)) S := bin_add_t _ _ _ (by rw [sizeLine_eq]; simp; omega)
  have e : PyData.tuple (((st.take p).map gsD ++ [gsD (gsort L)]) ++ (st.drop (p + 1)).map gsD) = standD (st.set p (gsort L)) := by
    unfold standD
    rw [List.set_eq_take_append_cons_drop, if_pos hp]
    simp
  rw [e] at b2
  have tp : PyData.tuple [nD s, oD t] = gD (s, t) := rfl
  have sb : subV (standD st) (nD p) S = .ok (gsD (at_ st p)) S := sub_st hp S
  have i1 : DL.ev F (.slc false (.v 4) (.c .none) (.v 13)) [x0, x1, x2, x3, some (standD st), x5, x6, x7, x8, x9, some (nD s), some (oD t), x12, some (nD p), x14] S = .ok (.tuple ((st.take p).map gsD)) S := by
    simp [Res.bnd, isAbs, nD, s1, -List.map_take, -List.map_drop, DL.execs, DL.exec, DL.ev, DL.evs, DL.evAll, Res.bind_ok, Res.out_ok, Res.test, Res.outB, asBool, Out.seq, bltV, isTV, isTy, gc_same, bindT, bindTs, wipeE]
  have i2 : DL.ev F (.slc false (.v 4) (.bin .Add false (.v 13) (.c (.int 1))) (.c .none)) [x0, x1, x2, x3, some (standD st), x5, x6, x7, x8, x9, some (nD s), some (oD t), x12, some (nD p), x14] S = .ok (.tuple ((st.drop (p + 1)).map gsD)) S := by
    simp [Res.bnd, isAbs, nD, bin_add_i, s2, -List.map_take, -List.map_drop, DL.execs, DL.exec, DL.ev, DL.evs, DL.evAll, Res.bind_ok, Res.out_ok, Res.test, Res.outB, asBool, Out.seq, bltV, isTV, isTy, gc_same, bindT, bindTs, wipeE]
  have i3 : DL.ev F (.bin .Add false (.sub (.v 4) (.v 13)) (.tup [(.tup [(.v 10), (.v 11)])])) [x0, x1, x2, x3, some (standD st), x5, x6, x7, x8, x9, some (nD s), some (oD t), x12, some (nD p), x14] S = .ok (gsD L) S := by
    simp [sb, mkT, sizeLine_eq, tp, b0, -List.map_take, -List.map_drop, DL.execs, DL.exec, DL.ev, DL.evs, DL.evAll, Res.bind_ok, Res.out_ok, Res.test, Res.outB, asBool, Out.seq, bltV, isTV, isTy, gc_same, bindT, bindTs, wipeE]
  have i4 := ev_blt1 (b := .tuple) (m := false) (ev_blt1 i3 so) (r := .ok (gsD (gsort L)) S) rfl
  have i5 : DL.ev F (.tup [(.blt .tuple false [(.blt .sorted false [(.bin .Add false (.sub (.v 4) (.v 13)) (.tup [(.tup [(.v 10), (.v 11)])]))])])]) [x0, x1, x2, x3, some (standD st), x5, x6, x7, x8, x9, some (nD s), some (oD t), x12, some (nD p), x14] S = .ok (.tuple [gsD (gsort L)]) S := by
    show (DL.evs _ _ _ _).bind _ = _
    rw [evs_cons i4 evs_nil, Res.bind_ok]
    simp [mkT, sizeLine_eq]
  exact ev_binR (ev_binR i1 i5 b1) i2 b2
end
end K86

set_option linter.all false
set_option maxRecDepth 100000
namespace K86
open PySem DL L2
section
variable {h : H} {S T S2 : Store} {st : Stand} {n k : Nat}
def comeB : List Sm := [
        .asg (.nm 10) (.call 20 [(.v 0), (.v 9)] []),
        .asg (.tup [(.nm 11), (.nm 13)]) (.tup [(.call 20 [(.v 0), (.sub (.sub (.sub (.v 1) (.c (.int 1))) (.v 10)) (.c (.int 1)))] []), (.sub (.sub (.sub (.v 1) (.c (.int 1))) (.v 10)) (.c (.int 0)))]),
        .exp (.mth .append (.v 5) [(.tup [(.c (.str "come")), (.v 10), (.v 11)])]),
        .asg (.nm 4) xCome]
/-- rows with one more -/
theorem row_append {m : Nat} {rs : List Row} {T : Store} (ha : atL T m = some (rs.map rowD)) (hz : rs.length ≤ 1000) (r : Row) : mthV .append (rf m) [rowD r] T = .ok .none (setL T m ((rs ++ [r]).map rowD)) := by
  refine (onL_rf ha).trans ?_
  have z : (rs.map rowD).length < sizeLine := by rw [sizeLine_eq, List.length_map]; omega
  simp only [appendV, if_pos z, List.map_append, List.map_cons, List.map_nil]
theorem comeB_eq (n : Nat) (ok : OkH h) {C : Nat} (dr : ∀ s, s < h.stages.length → nxs h s ≠ [] ∧ (nxs h s).length ≤ 1000) (os : OkS h st) (hS : DL.lsts S = true) {S1 : Store} (H : Bx S k S1) {rs : List Row} (hz : rs.length ≤ 1000) {fr : List Nat} (f1 : fr ≠ []) (f2 : ∀ s ∈ fr, s ∈ frees h st) (f3 : fr.length ≤ 1000) (x2 x3 x6 x7 x8 x10 x11 x12 x13 x14) :
    ∃ (r : Row) (S3 : Store) (y10 y11 y13 : Option D), DL.execs (DL.run tab (n + 2)) comeB [some (rf k), some (hD h), x2, x3, some (standD st), some (rf S.length), x6, x7, x8, some (.list (fr.map nD)), x10, x11, x12, x13, x14] (S1 ++ [.lst (rs.map rowD)]) =
      .nx [some (rf k), some (hD h), x2, x3, some (standD (stepR h st r)), some (rf S.length), x6, x7, x8, some (.list (fr.map nD)), y10, y11, x12, y13, x14] (S3 ++ [.lst ((rs ++ [r]).map rowD)]) ∧ Bx S k S3 ∧ okR h st r := by
  have hT := H.inX [.lst (rs.map rowD)]
  have hTl : DL.lsts (S1 ++ [.lst (rs.map rowD)]) = true := by rw [lsts_app, H.lsts hS]; rfl
  obtain ⟨s, T1, hs, t1, H1⟩ := pick_eq (f := nD) n (fun _ => rfl) (fun _ => rfl) f1 f3 (.inl rfl) hT hTl
  obtain ⟨q1, q2⟩ := mem_frees (f2 s hs)
  obtain ⟨d1, d2⟩ := dr s q1
  obtain ⟨t, T2, ht, t2, H2⟩ := pick_eq (f := oD) (l := nxs h s) n (fun _ => rfl) (fun _ => rfl) d1 d2 (.inr rfl) H1 hTl
  obtain ⟨S3, rfl, H3⟩ := H.ofX H2
  have hl3 : S3.length = S.length := H3.len
  have af : atL (S3 ++ [MO.lst (rs.map rowD)]) S.length = some (rs.map rowD) := by rw [← hl3]; exact atL_last _ _
  have ap := row_append af hz (.come s t)
  have es : setL (S3 ++ [MO.lst (rs.map rowD)]) S.length ((rs ++ [Row.come s t]).map rowD) = S3 ++ [MO.lst ((rs ++ [Row.come s t]).map rowD)] := by rw [← hl3]; exact setL_last _ _ _
  rw [es] at ap
  have hss : ∀ S, subV (.tuple (h.stages.map stgD)) (nD s) S = .ok (stgD (stg h s)) S := fun S => sub_stg q1 S
  have hnx : (stg h s).2 = nxs h s := rfl
  have hpl : (stg h s).1 = plc h s := rfl
  refine ⟨.come s t, S3, some (nD s), some (oD t), some (nD (plc h s)), ?_, H3, ⟨q1, ht, q2⟩⟩
  have a1 : DL.exec (DL.run tab (n + 2)) (.asg (.nm 10) (.call 20 [(.v 0), (.v 9)] [])) [some (rf k), some (hD h), x2, x3, some (standD st), some (rf S.length), x6, x7, x8, some (.list (fr.map nD)), x10, x11, x12, x13, x14] (S1 ++ [.lst (rs.map rowD)]) = .nx [some (rf k), some (hD h), x2, x3, some (standD st), some (rf S.length), x6, x7, x8, some (.list (fr.map nD)), some (nD s), x11, x12, x13, x14] T1 := by
    refine exec_asg (d := nD s) ?_ rfl
    simp [t1, -List.map_take, -List.map_drop, DL.execs, DL.exec, DL.ev, DL.evs, DL.evAll, Res.bind_ok, Res.out_ok, Res.test, Res.outB, asBool, Out.seq, bltV, isTV, isTy, gc_same, bindT, bindTs, wipeE]
  have a2 : DL.exec (DL.run tab (n + 2)) (.asg (.tup [(.nm 11), (.nm 13)]) (.tup [(.call 20 [(.v 0), (.sub (.sub (.sub (.v 1) (.c (.int 1))) (.v 10)) (.c (.int 1)))] []), (.sub (.sub (.sub (.v 1) (.c (.int 1))) (.v 10)) (.c (.int 0)))])) [some (rf k), some (hD h), x2, x3, some (standD st), some (rf S.length), x6, x7, x8, some (.list (fr.map nD)), some (nD s), x11, x12, x13, x14] T1 =
      .nx [some (rf k), some (hD h), x2, x3, some (standD st), some (rf S.length), x6, x7, x8, some (.list (fr.map nD)), some (nD s), some (oD t), x12, some (nD (plc h s)), x14] (S3 ++ [MO.lst (rs.map rowD)]) := by
    refine exec_asg (d := .tuple [oD t, nD (plc h s)]) ?_ rfl
    have s0 : ∀ S', subV (stgD (stg h s)) (.int 0) S' = .ok (nD (plc h s)) S' := fun _ => rfl
    simp [sub_h1, hss, s0, sub_s1, hnx, t2, mkT, sizeLine_eq, -List.map_take, -List.map_drop, DL.execs, DL.exec, DL.ev, DL.evs, DL.evAll, Res.bind_ok, Res.out_ok, Res.test, Res.outB, asBool, Out.seq, bltV, isTV, isTy, gc_same, bindT, bindTs, wipeE]
  have tp : PyData.tuple [.str "come", nD s, oD t] = rowD (.come s t) := rfl
  have a3 : DL.exec (DL.run tab (n + 2)) (.exp (.mth .append (.v 5) [(.tup [(.c (.str "come")), (.v 10), (.v 11)])])) [some (rf k), some (hD h), x2, x3, some (standD st), some (rf S.length), x6, x7, x8, some (.list (fr.map nD)), some (nD s), some (oD t), x12, some (nD (plc h s)), x14] (S3 ++ [MO.lst (rs.map rowD)]) =
      .nx [some (rf k), some (hD h), x2, x3, some (standD st), some (rf S.length), x6, x7, x8, some (.list (fr.map nD)), some (nD s), some (oD t), x12, some (nD (plc h s)), x14] (S3 ++ [MO.lst ((rs ++ [Row.come s t]).map rowD)]) := by
    generalize rs ++ [Row.come s t] = rs2 at ap ⊢
    simp [mkT, sizeLine_eq, tp, lst_rf af, ap, -List.map_take, -List.map_drop, DL.execs, DL.exec, DL.ev, DL.evs, DL.evAll, Res.bind_ok, Res.out_ok, Res.test, Res.outB, asBool, Out.seq, bltV, isTV, isTy, gc_same, bindT, bindTs, wipeE]
  have a4 := exec_asg (t := .nm 4) (env' := [some (rf k), some (hD h), x2, x3, some (standD (stepR h st (.come s t))), some (rf S.length), x6, x7, x8, some (.list (fr.map nD)), some (nD s), some (oD t), x12, some (nD (plc h s)), x14]) (xcome_ev (DL.run tab (n + 2)) ok os q1 (t := t) (some (rf k)) (some (hD h)) x2 x3 (some (rf S.length)) x6 x7 x8 (some (.list (fr.map nD))) x12 x14 (S3 ++ [MO.lst ((rs ++ [Row.come s t]).map rowD)])) rfl
  exact execs_cons a1 (execs_cons a2 (execs_cons a3 (execs_cons a4 execs_nil)))
end
end K86

set_option linter.all false
set_option maxRecDepth 100000
namespace K86
open PySem DL L2
section
variable {h : H} {S T S2 : Store} {st : Stand} {n k : Nat}
def moveB : List Sm := [
        .asg (.nm 14) (.call 20 [(.v 0), (.v 8)] []),
        .asg (.nm 11) (.call 20 [(.v 0), (.call 26 [(.v 1), (.v 14)] [])] []),
        .exp (.mth .append (.v 5) [(.tup [(.c (.str "move")), (.sub (.v 14) (.c (.int 0))), (.sub (.v 14) (.c (.int 1))), (.v 11)])]),
        .asg (.nm 4) (.call 27 [(.v 1), (.v 4), (.v 14), (.v 11)] [])]
theorem moveB_eq (n : Nat) (ok : OkH h) (dr : ∀ s, s < h.stages.length → nxs h s ≠ [] ∧ (nxs h s).length ≤ 1000) (os : OkS h st) (og : OkGs h st) (srt : Srt st) (hS : DL.lsts S = true) {S1 : Store} (H : Bx S k S1) {rs : List Row} (hz : rs.length ≤ 1000) {ms : List Mv} (f1 : ms ≠ []) (f2 : ∀ x ∈ ms, good h st x) (f3 : ms.length ≤ 1000000) (x2 x3 x6 x7 x9 x10 x11 x12 x13 x14) :
    ∃ (r : Row) (S3 : Store) (y11 y14 : Option D), DL.execs (DL.run tab (n + 2)) moveB [some (rf k), some (hD h), x2, x3, some (standD st), some (rf S.length), x6, x7, some (.list (ms.map mvD)), x9, x10, x11, x12, x13, x14] (S1 ++ [.lst (rs.map rowD)]) =
      .nx [some (rf k), some (hD h), x2, x3, some (standD (stepR h st r)), some (rf S.length), x6, x7, some (.list (ms.map mvD)), x9, x10, y11, x12, x13, y14] (S3 ++ [.lst ((rs ++ [r]).map rowD)]) ∧ Bx S k S3 ∧ okR h st r := by
  have hT := H.inX [.lst (rs.map rowD)]
  have hTl : DL.lsts (S1 ++ [.lst (rs.map rowD)]) = true := by rw [lsts_app, H.lsts hS]; rfl
  obtain ⟨⟨p, g⟩, T1, hs, t1, H1⟩ := pick_big (f := mvD) n (fun _ => rfl) (fun _ => rfl) f1 f3 (.inl rfl) hT hTl
  have gd := f2 _ hs
  have o1 := og _ _ gd.2.1
  have hn : ∀ s, g.2 = some s → s < h.stages.length := fun s q => ok.nx g.1 o1.1 s (by rw [← q]; exact o1.2.2)
  have hte : tells h g.2 ≠ [] ∧ (tells h g.2).length ≤ 1000 := by
    cases hg2 : g.2 with
    | none => exact ⟨by simp [tells], by simp [tells]⟩
    | some s => exact dr s (hn s hg2)
  have t3 := tellings_eq (n + 1) p g hn hte.2 T1
  obtain ⟨t, T2, ht, t2, H2⟩ := pick_eq (f := oD) (l := tells h g.2) n (fun _ => rfl) (fun _ => rfl) hte.1 hte.2 (.inl rfl) H1 hTl
  obtain ⟨S3, rfl, H3⟩ := H.ofX H2
  have hl3 : S3.length = S.length := H3.len
  have af : atL (S3 ++ [MO.lst (rs.map rowD)]) S.length = some (rs.map rowD) := by rw [← hl3]; exact atL_last _ _
  have ap := row_append af hz (.move p g t)
  have es : setL (S3 ++ [MO.lst (rs.map rowD)]) S.length ((rs ++ [Row.move p g t]).map rowD) = S3 ++ [MO.lst ((rs ++ [Row.move p g t]).map rowD)] := by rw [← hl3]; exact setL_last _ _ _
  rw [es] at ap
  have okr : okR h st (.move p g t) := okR_move og gd ht
  have hl4 : DL.lsts (S3 ++ [MO.lst ((rs ++ [Row.move p g t]).map rowD)]) = true := by rw [lsts_app, H3.lsts hS]; rfl
  have t4 := law_behind_eq (n + 1) ok os srt hl4 okr
  refine ⟨.move p g t, S3, some (oD t), some (mvD (p, g)), ?_, H3, okr⟩
  have a1 : DL.exec (DL.run tab (n + 2)) (.asg (.nm 14) (.call 20 [(.v 0), (.v 8)] [])) [some (rf k), some (hD h), x2, x3, some (standD st), some (rf S.length), x6, x7, some (.list (ms.map mvD)), x9, x10, x11, x12, x13, x14] (S1 ++ [.lst (rs.map rowD)]) = .nx [some (rf k), some (hD h), x2, x3, some (standD st), some (rf S.length), x6, x7, some (.list (ms.map mvD)), x9, x10, x11, x12, x13, some (mvD (p, g))] T1 := by
    refine exec_asg (d := mvD (p, g)) ?_ rfl
    simp [t1, -List.map_take, -List.map_drop, DL.execs, DL.exec, DL.ev, DL.evs, DL.evAll, Res.bind_ok, Res.out_ok, Res.test, Res.outB, asBool, Out.seq, bltV, isTV, isTy, gc_same, bindT, bindTs, wipeE]
  have t3' : DL.run tab (n + 2) 26 [hD h, mvD (p, g)] T1 = .ok (.list ((tells h g.2).map oD)) T1 := t3
  have t4' : DL.run tab (n + 2) 27 [hD h, standD st, mvD (p, g), oD t] (S3 ++ [MO.lst ((rs ++ [Row.move p g t]).map rowD)]) = .ok (standD (stepR h st (.move p g t))) (S3 ++ [MO.lst ((rs ++ [Row.move p g t]).map rowD)]) := t4
  have a2 : DL.exec (DL.run tab (n + 2)) (.asg (.nm 11) (.call 20 [(.v 0), (.call 26 [(.v 1), (.v 14)] [])] [])) [some (rf k), some (hD h), x2, x3, some (standD st), some (rf S.length), x6, x7, some (.list (ms.map mvD)), x9, x10, x11, x12, x13, some (mvD (p, g))] T1 = .nx [some (rf k), some (hD h), x2, x3, some (standD st), some (rf S.length), x6, x7, some (.list (ms.map mvD)), x9, x10, some (oD t), x12, x13, some (mvD (p, g))] (S3 ++ [MO.lst (rs.map rowD)]) := by
    refine exec_asg (d := oD t) ?_ rfl
    simp [t3', t2, -List.map_take, -List.map_drop, DL.execs, DL.exec, DL.ev, DL.evs, DL.evAll, Res.bind_ok, Res.out_ok, Res.test, Res.outB, asBool, Out.seq, bltV, isTV, isTy, gc_same, bindT, bindTs, wipeE]
  have m0 : ∀ S', subV (mvD (p, g)) (.int 0) S' = .ok (.int (p : Int)) S' := fun _ => rfl
  have m1 : ∀ S', subV (mvD (p, g)) (.int 1) S' = .ok (gD g) S' := fun _ => rfl
  have tp : PyData.tuple [.str "move", .int (p : Int), gD g, oD t] = rowD (.move p g t) := rfl
  generalize rs ++ [Row.move p g t] = rs2 at *
  have a3 : DL.exec (DL.run tab (n + 2)) (.exp (.mth .append (.v 5) [(.tup [(.c (.str "move")), (.sub (.v 14) (.c (.int 0))), (.sub (.v 14) (.c (.int 1))), (.v 11)])])) [some (rf k), some (hD h), x2, x3, some (standD st), some (rf S.length), x6, x7, some (.list (ms.map mvD)), x9, x10, some (oD t), x12, x13, some (mvD (p, g))] (S3 ++ [MO.lst (rs.map rowD)]) = .nx [some (rf k), some (hD h), x2, x3, some (standD st), some (rf S.length), x6, x7, some (.list (ms.map mvD)), x9, x10, some (oD t), x12, x13, some (mvD (p, g))] (S3 ++ [MO.lst (rs2.map rowD)]) := by
    simp [m0, m1, mkT, sizeLine_eq, tp, lst_rf af, ap, -List.map_take, -List.map_drop, DL.execs, DL.exec, DL.ev, DL.evs, DL.evAll, Res.bind_ok, Res.out_ok, Res.test, Res.outB, asBool, Out.seq, bltV, isTV, isTy, gc_same, bindT, bindTs, wipeE]
  have a4 : DL.exec (DL.run tab (n + 2)) (.asg (.nm 4) (.call 27 [(.v 1), (.v 4), (.v 14), (.v 11)] [])) [some (rf k), some (hD h), x2, x3, some (standD st), some (rf S.length), x6, x7, some (.list (ms.map mvD)), x9, x10, some (oD t), x12, x13, some (mvD (p, g))] (S3 ++ [MO.lst (rs2.map rowD)]) = .nx [some (rf k), some (hD h), x2, x3, some (standD (stepR h st (.move p g t))), some (rf S.length), x6, x7, some (.list (ms.map mvD)), x9, x10, some (oD t), x12, x13, some (mvD (p, g))] (S3 ++ [MO.lst (rs2.map rowD)]) := by
    refine exec_asg (d := standD (stepR h st (.move p g t))) ?_ rfl
    simp [t4', -List.map_take, -List.map_drop, DL.execs, DL.exec, DL.ev, DL.evs, DL.evAll, Res.bind_ok, Res.out_ok, Res.test, Res.outB, asBool, Out.seq, bltV, isTV, isTy, gc_same, bindT, bindTs, wipeE]
  exact execs_cons a1 (execs_cons a2 (execs_cons a3 (execs_cons a4 execs_nil)))
end
end K86

set_option linter.all false
set_option maxRecDepth 100000
namespace K86
open PySem DL L2
section
variable {S S' : Store} {k : Nat}
theorem gnd_rowD (r : Row) : gnd (rowD r) = true := by cases r <;> rfl
/-- the rows are handed out, frozen -/
theorem Bx.hand (H : Bx S k S') (h : DL.lsts S = true) {xs : List D} (hg : gndL xs = true) : DL.gc true S (.rt (rf S.length) (S' ++ [MO.lst xs])) = .ok (.list xs) S' := by
  have hl := H.len
  have ha : atL (S' ++ [MO.lst xs]) S.length = some xs := by rw [← hl]; exact atL_last _ _
  obtain ⟨hk, a, b, rfl⟩ := H
  refine gc_hand h ?_ hl (Nat.le_refl _) ha hg
  have := near_set S [] k [.int a, .int b] rfl
  simpa using this
end
end K86

set_option linter.all false
set_option maxRecDepth 100000
namespace K86
open PySem DL L2
section
variable {h : H} {S : Store} {n k : Nat}
def xCond : Ex := .and (.cmp .Gt (.blt .len false [(.v 9)]) (.c (.int 0))) (.or (.cmp .Eq (.blt .len false [(.v 8)]) (.c (.int 0))) (.cmp .Eq (.call 19 [(.v 0), (.c (.int 2))] []) (.c (.int 0))))
/-- a coming or a move: the turn's choice -/
theorem cond_ev (n : Nat) (hS : DL.lsts S = true) {S1 X : Store} (hX : DL.lsts X = true) (H : Bx S k S1) {fr : List Nat} {ms : List Mv} (x1 x2 x3 x4 x5 x6 x7 x10 x11 x12 x13 x14) :
    ∃ (b : Bool) (S2 : Store), DL.ev (DL.run tab (n + 1)) xCond [some (rf k), x1, x2, x3, x4, x5, x6, x7, some (.list (ms.map mvD)), some (.list (fr.map nD)), x10, x11, x12, x13, x14] (S1 ++ X) = .ok (.bool b) (S2 ++ X) ∧ Bx S k S2 ∧ (b = true → fr ≠ []) := by
  have l1 : ∀ S, lenV [.list (fr.map nD)] S = .ok (.int (fr.length : Int)) S := fun S => by simp [lenV, seqOf]
  have l2 : ∀ S, lenV [.list (ms.map mvD)] S = .ok (.int (ms.length : Int)) S := fun S => by simp [lenV, seqOf]
  have c1 := fun S => cmp_gt_i (S := S) (fr.length : Int) 0
  have c2 := fun S => cmp_eq_i (S := S) (ms.length : Int) 0
  by_cases hf : fr = []
  · have d1 : ∀ S, cmpV .Gt (.int (fr.length : Int)) (.int 0) S = .ok (.bool false) S := fun S => by rw [c1, decide_eq_false (by rw [hf]; decide)]
    refine ⟨false, S1, ?_, H, fun q => by cases q⟩
    simp [xCond, l1, d1, -List.map_take, -List.map_drop, DL.execs, DL.exec, DL.ev, DL.evs, DL.evAll, Res.bind_ok, Res.out_ok, Res.test, Res.outB, asBool, Out.seq, bltV, isTV, isTy, gc_same, bindT, bindTs, wipeE]
  · have hp : 0 < fr.length := List.length_pos_iff.mpr hf
    have d1 : ∀ S, cmpV .Gt (.int (fr.length : Int)) (.int 0) S = .ok (.bool true) S := fun S => by rw [c1, decide_eq_true (by omega)]
    by_cases hm : ms.length = 0
    · have d2 : ∀ S, cmpV .Eq (.int (ms.length : Int)) (.int 0) S = .ok (.bool true) S := fun S => by rw [c2, decide_eq_true (by omega)]
      refine ⟨true, S1, ?_, H, fun _ => hf⟩
      simp [xCond, l1, l2, d1, d2, -List.map_take, -List.map_drop, DL.execs, DL.exec, DL.ev, DL.evs, DL.evAll, Res.bind_ok, Res.out_ok, Res.test, Res.outB, asBool, Out.seq, bltV, isTV, isTy, gc_same, bindT, bindTs, wipeE]
    · have d2 : ∀ S, cmpV .Eq (.int (ms.length : Int)) (.int 0) S = .ok (.bool false) S := fun S => by rw [c2, decide_eq_false (by omega)]
      obtain ⟨d, T2, t2, H2, e0, e1⟩ := take_eq n (H.inX X) (by rw [lsts_app, H.lsts hS, hX]; rfl) (m := 2) (by decide) (by decide)
      obtain ⟨S2, rfl, H3⟩ := H.ofX H2
      refine ⟨decide (d = 0), S2, ?_, H3, fun _ => hf⟩
      simp [xCond, l1, l2, d1, d2, t2, cmp_eq_i, -List.map_take, -List.map_drop, DL.execs, DL.exec, DL.ev, DL.evs, DL.evAll, Res.bind_ok, Res.out_ok, Res.test, Res.outB, asBool, Out.seq, bltV, isTV, isTy, gc_same, bindT, bindTs, wipeE]
end
end K86

set_option linter.all false
set_option maxRecDepth 100000
namespace K86
open PySem DL L2
theorem execs_bk {F : FS} {env env' : DL.Env} {S S1 : Store} {a : Sm} {r : List Sm} (h : DL.exec F a env S = .bk env' S1) : DL.execs F (a :: r) env S = .bk env' S1 := by
  show (DL.exec F a env S).seq _ = _
  rw [h]
  rfl
section
variable {h : H} {S : Store} {st : Stand} {n k : Nat}
def xFree : Ex := .comp false [10, 11] (.tup [(.nm 10), (.nm 11)]) .enum [(.sub (.v 1) (.c (.int 1)))] [(.cmp .Lt (.blt .len false [(.sub (.v 4) (.sub (.v 11) (.c (.int 0))))]) (.sub (.sub (.v 1) (.c (.int 0))) (.sub (.v 11) (.c (.int 0)))))] (.v 10)
def xMany : Ex := .blt .sum false [(.comp false [12] (.nm 12) .val [(.v 4)] [] (.blt .len false [(.v 12)]))]
def turnB : List Sm := [.asg (.nm 8) (.call 25 [(.v 1), (.v 4)] []), .asg (.nm 9) xFree, .ifs (.cmp .GtE xMany (.v 3)) [.asg (.nm 9) (.lst false [])] [], .ifs xCond comeB [.ifs (.cmp .Gt (.blt .len false [(.v 8)]) (.c (.int 0))) moveB [.brk]]]
theorem turn_eq (n : Nat) (ok : OkH h) (dr : ∀ s, s < h.stages.length → nxs h s ≠ [] ∧ (nxs h s).length ≤ 1000) (os : OkS h st) (og : OkGs h st) (srt : Srt st) (hS : DL.lsts S = true) {S1 : Store} (H : Bx S k S1) {rs : List Row} (hz : rs.length ≤ 1000) (m : Int) (x2 x6 x7 x8 x9 x10 x11 x12 x13 x14) :
    (∃ (r : Row) (S3 : Store) (y8 y9 y10 y11 y12 y13 y14 : Option D), DL.execs (DL.run tab (n + 2)) turnB [some (rf k), some (hD h), x2, some (.int m), some (standD st), some (rf S.length), x6, x7, x8, x9, x10, x11, x12, x13, x14] (S1 ++ [.lst (rs.map rowD)]) =
      .nx [some (rf k), some (hD h), x2, some (.int m), some (standD (stepR h st r)), some (rf S.length), x6, x7, y8, y9, y10, y11, y12, y13, y14] (S3 ++ [.lst ((rs ++ [r]).map rowD)]) ∧ Bx S k S3 ∧ okR h st r) ∨
    (∃ (S3 : Store) (y8 y9 y10 y11 y12 y13 y14 : Option D), DL.execs (DL.run tab (n + 2)) turnB [some (rf k), some (hD h), x2, some (.int m), some (standD st), some (rf S.length), x6, x7, x8, x9, x10, x11, x12, x13, x14] (S1 ++ [.lst (rs.map rowD)]) =
      .bk [some (rf k), some (hD h), x2, some (.int m), some (standD st), some (rf S.length), x6, x7, y8, y9, y10, y11, y12, y13, y14] (S3 ++ [.lst (rs.map rowD)]) ∧ Bx S k S3) := by
  have fews := ok.fews
  have fewh := ok.few
  have hTl : DL.lsts (S1 ++ [.lst (rs.map rowD)]) = true := by rw [lsts_app, H.lsts hS]; rfl
  obtain ⟨ms, t1, g1, g2⟩ := moves_eq (S := S1 ++ [MO.lst (rs.map rowD)]) n ok os og hTl
  have a1 : DL.exec (DL.run tab (n + 2)) (.asg (.nm 8) (.call 25 [(.v 1), (.v 4)] [])) [some (rf k), some (hD h), x2, some (.int m), some (standD st), some (rf S.length), x6, x7, x8, x9, x10, x11, x12, x13, x14] (S1 ++ [.lst (rs.map rowD)]) = .nx [some (rf k), some (hD h), x2, some (.int m), some (standD st), some (rf S.length), x6, x7, some (.list (ms.map mvD)), x9, x10, x11, x12, x13, x14] (S1 ++ [.lst (rs.map rowD)]) := by
    refine exec_asg (d := .list (ms.map mvD)) ?_ rfl
    simp [t1, -List.map_take, -List.map_drop, DL.execs, DL.exec, DL.ev, DL.evs, DL.evAll, Res.bind_ok, Res.out_ok, Res.test, Res.outB, asBool, Out.seq, bltV, isTV, isTy, gc_same, bindT, bindTs, wipeE]
  have a2 := exec_asg (t := .nm 9) (env' := [some (rf k), some (hD h), x2, some (.int m), some (standD st), some (rf S.length), x6, x7, some (.list (ms.map mvD)), some (.list ((frees h st).map nD)), x10, x11, x12, x13, x14]) (free_ev (DL.run tab (n + 2)) ok os (some (rf k)) x2 (some (.int m)) (some (rf S.length)) x6 x7 (some (.list (ms.map mvD))) x9 x10 x11 x12 x13 x14 (S1 ++ [.lst (rs.map rowD)])) rfl
  have mv := many_ev (st := st) (DL.run tab (n + 2)) (by rw [os.len]; exact fewh) (some (rf k)) (some (hD h)) x2 (some (.int m)) (some (rf S.length)) x6 x7 (some (.list (ms.map mvD))) (some (.list ((frees h st).map nD))) x10 x11 x12 x13 x14 (S1 ++ [.lst (rs.map rowD)])
  have a3 : ∃ fr : List Nat, (∀ s ∈ fr, s ∈ frees h st) ∧ fr.length ≤ 1000 ∧ DL.exec (DL.run tab (n + 2)) (.ifs (.cmp .GtE xMany (.v 3)) [.asg (.nm 9) (.lst false [])] []) [some (rf k), some (hD h), x2, some (.int m), some (standD st), some (rf S.length), x6, x7, some (.list (ms.map mvD)), some (.list ((frees h st).map nD)), x10, x11, x12, x13, x14] (S1 ++ [.lst (rs.map rowD)]) = .nx [some (rf k), some (hD h), x2, some (.int m), some (standD st), some (rf S.length), x6, x7, some (.list (ms.map mvD)), some (.list (fr.map nD)), x10, x11, x12, x13, x14] (S1 ++ [.lst (rs.map rowD)]) := by
    by_cases c : many st ≥ m
    · refine ⟨[], (fun s hs => nomatch hs), Nat.zero_le _, exec_ifT (S1 := S1 ++ [MO.lst (rs.map rowD)]) (ev_cmpR mv (ev_v rfl) (by rw [cmp_ge_i, decide_eq_true c])) (execs_cons (exec_asg (t := .nm 9) (d := .list []) (S1 := S1 ++ [MO.lst (rs.map rowD)]) ?_ rfl) execs_nil)⟩
      simp [mkL, -List.map_take, -List.map_drop, DL.execs, DL.exec, DL.ev, DL.evs, DL.evAll, Res.bind_ok, Res.out_ok, Res.test, Res.outB, asBool, Out.seq, bltV, isTV, isTy, gc_same, bindT, bindTs, wipeE]
    · refine ⟨frees h st, fun s hs => hs, Nat.le_trans (frees_len h st) fews, exec_ifF (S1 := S1 ++ [MO.lst (rs.map rowD)]) (ev_cmpR mv (ev_v rfl) (by rw [cmp_ge_i, decide_eq_false c])) execs_nil⟩
  obtain ⟨fr, f1, f2, a3⟩ := a3
  obtain ⟨b, S2, c1, H2, c2⟩ := cond_ev (X := [MO.lst (rs.map rowD)]) (fr := fr) (ms := ms) (n + 1) hS rfl H (some (hD h)) x2 (some (.int m)) (some (standD st)) (some (rf S.length)) x6 x7 x10 x11 x12 x13 x14
  cases b with
  | true =>
    obtain ⟨r, S3, y10, y11, y13, e, H3, okr⟩ := comeB_eq (C := 0) n ok dr os hS H2 hz (c2 rfl) f1 f2 x2 (some (.int m)) x6 x7 (some (.list (ms.map mvD))) x10 x11 x12 x13 x14
    exact .inl ⟨r, S3, _, _, _, _, _, _, _, execs_cons a1 (execs_cons a2 (execs_cons a3 (execs_cons (exec_ifT c1 e) execs_nil))), H3, okr⟩
  | false =>
    have ln : ∀ S, lenV [.list (ms.map mvD)] S = .ok (.int (ms.length : Int)) S := fun S => by simp [lenV, seqOf]
    by_cases hm : ms = []
    · have g : DL.ev (DL.run tab (n + 2)) (.cmp .Gt (.blt .len false [(.v 8)]) (.c (.int 0))) [some (rf k), some (hD h), x2, some (.int m), some (standD st), some (rf S.length), x6, x7, some (.list (ms.map mvD)), some (.list (fr.map nD)), x10, x11, x12, x13, x14] (S2 ++ [.lst (rs.map rowD)]) = .ok (.bool false) (S2 ++ [.lst (rs.map rowD)]) :=
        ev_cmpR (ev_blt1 (ev_v rfl) (ln _)) ev_c (by rw [cmp_gt_i, decide_eq_false (by rw [hm]; decide)])
      exact .inr ⟨S2, some (.list (ms.map mvD)), some (.list (fr.map nD)), x10, x11, x12, x13, x14, execs_cons a1 (execs_cons a2 (execs_cons a3 (execs_bk (exec_ifF c1 (execs_bk (exec_ifF g (execs_bk rfl))))))), H2⟩
    · have hp : 0 < ms.length := List.length_pos_iff.mpr hm
      have g : DL.ev (DL.run tab (n + 2)) (.cmp .Gt (.blt .len false [(.v 8)]) (.c (.int 0))) [some (rf k), some (hD h), x2, some (.int m), some (standD st), some (rf S.length), x6, x7, some (.list (ms.map mvD)), some (.list (fr.map nD)), x10, x11, x12, x13, x14] (S2 ++ [.lst (rs.map rowD)]) = .ok (.bool true) (S2 ++ [.lst (rs.map rowD)]) :=
        ev_cmpR (ev_blt1 (ev_v rfl) (ln _)) ev_c (by rw [cmp_gt_i, decide_eq_true (by omega)])
      obtain ⟨r, S3, y11, y14, e, H3, okr⟩ := moveB_eq n ok dr os og srt hS H2 hz hm g1 g2 x2 (some (.int m)) x6 x7 (some (.list (fr.map nD))) x10 x11 x12 x13 x14
      exact .inl ⟨r, S3, _, _, _, _, _, _, _, execs_cons a1 (execs_cons a2 (execs_cons a3 (execs_cons (exec_ifF c1 (execs_cons (exec_ifT g e) execs_nil)) execs_nil))), H3, okr⟩
end
end K86

set_option linter.all false
set_option maxRecDepth 100000
namespace K86
open PySem DL L2
section
variable {h : H} {S : Store} {st : Stand} {n k : Nat}
/-- the drawn rows may be done -/
theorem rows_eq (n : Nat) (ok : OkH h) (dr : ∀ s, s < h.stages.length → nxs h s ≠ [] ∧ (nxs h s).length ≤ 1000) (hS : DL.lsts S = true) (H : Bx S k S) {M : Nat} (hM : M ≤ 1000) (m : Int) :
    ∃ (rs : List Row) (S' : Store), DL.run tab (n + 3) 28 [rf k, hD h, nD M, .int m] S = .ok (.list (rs.map rowD)) S' ∧ Bx S k S' ∧ okRs h (empt h) rs ∧ rs.length ≤ M := by
  rw [r__law_rows]
  have fewh := ok.few
  have cm := comp_map (enc := nD) (g := none) (S0 := S) (S1 := S) (f := compF (DL.run tab (n + 2)) [6] (.nm 6) [] (.tup []) [some (rf k), some (hD h), some (nD M), some (.int m), none, none, none, none, none, none, none, none, none, none, none]) (v := fun _ => gsD []) h.seats rfl (fun x _ => by
    refine compF_some (env' := [some (rf k), some (hD h), some (nD M), some (.int m), none, none, some (nD x), none, none, none, none, none, none, none, none]) rfl rfl ?_
    simp [mkT, gsD, -List.map_take, -List.map_drop, DL.execs, DL.exec, DL.ev, DL.evs, DL.evAll, Res.bind_ok, Res.out_ok, Res.test, Res.outB, asBool, Out.seq, bltV, isTV, isTy, gc_same, bindT, bindTs, wipeE]) (by rw [sizeLine_eq]; omega)
  have c1 := ev_comp (F := DL.run tab (n + 2)) (its := [.sub (.v 1) (.c (.int 0))]) (S := S) (S1 := S) (S2 := S) (g := none) (k := .val) (vs := [.tuple (h.seats.map nD)]) (by simp [sub_h0, -List.map_take, -List.map_drop, DL.execs, DL.exec, DL.ev, DL.evs, DL.evAll, Res.bind_ok, Res.out_ok, Res.test, Res.outB, asBool, Out.seq, bltV, isTV, isTy, gc_same, bindT, bindTs, wipeE]) rfl cm
  have ee : (h.seats.map fun _ => gsD []) = (empt h).map gsD := by simp [empt]
  rw [ee] at c1
  have a1 : DL.exec (DL.run tab (n + 2)) (.asg (.tup [(.nm 4), (.nm 5)]) (.tup [(.blt .tuple false [(.comp false [6] (.nm 6) .val [(.sub (.v 1) (.c (.int 0)))] [] (.tup []))]), (.lst true [])])) [some (rf k), some (hD h), some (nD M), some (.int m), none, none, none, none, none, none, none, none, none, none, none] S = .nx [some (rf k), some (hD h), some (nD M), some (.int m), some (standD (empt h)), some (rf S.length), none, none, none, none, none, none, none, none, none] (S ++ [MO.lst []]) := by
    refine exec_asg (d := .tuple [standD (empt h), rf S.length]) ?_ rfl
    have q1 := ev_blt1 (b := .tuple) (m := false) c1 (r := .ok (standD (empt h)) S) rfl
    have q2 : DL.ev (DL.run tab (n + 2)) (.lst true []) [some (rf k), some (hD h), some (nD M), some (.int m), none, none, none, none, none, none, none, none, none, none, none] S = .ok (rf S.length) (S ++ [MO.lst []]) := by simp [mkL, rf, -List.map_take, -List.map_drop, DL.execs, DL.exec, DL.ev, DL.evs, DL.evAll, Res.bind_ok, Res.out_ok, Res.test, Res.outB, asBool, Out.seq, bltV, isTV, isTy, gc_same, bindT, bindTs, wipeE]
    show (DL.evs _ _ _ _).bind _ = _
    rw [evs_cons q1 (evs_cons q2 evs_nil), Res.bind_ok]
    simp [mkT, sizeLine_eq]
  obtain ⟨env', S', e1, rs, S1, y4, y7, y8, y9, y10, y11, y12, y13, y14, q0, q1, H1, q2, q3⟩ := forLoop_inv2 (enc := nD) (g := none) (S0 := S ++ [MO.lst []]) (f := bodyF (DL.run tab (n + 2)) (.nm 7) turnB)
    (fun l env S' => ∃ (rs : List Row) (S1 : Store) (y7 y8 y9 y10 y11 y12 y13 y14 : Option D), env = [some (rf k), some (hD h), some (nD M), some (.int m), some (standD (runR h (empt h) rs)), some (rf S.length), none, y7, y8, y9, y10, y11, y12, y13, y14] ∧ S' = S1 ++ [MO.lst (rs.map rowD)] ∧ Bx S k S1 ∧ okRs h (empt h) rs ∧ rs.length + l.length ≤ M ∧ OkGs h (runR h (empt h) rs))
    (fun env S' => ∃ (rs : List Row) (S1 : Store) (y4 y7 y8 y9 y10 y11 y12 y13 y14 : Option D), env = [some (rf k), some (hD h), some (nD M), some (.int m), y4, some (rf S.length), none, y7, y8, y9, y10, y11, y12, y13, y14] ∧ S' = S1 ++ [MO.lst (rs.map rowD)] ∧ Bx S k S1 ∧ okRs h (empt h) rs ∧ rs.length ≤ M) (fun _ _ _ _ => rfl)
    (fun x l env S' ⟨rs, S1, y7, y8, y9, y10, y11, y12, y13, y14, q0, q1, H1, q2, q3, q4⟩ => by
      subst q0 q1
      simp only [List.length_cons] at q3
      have os := okS_run ok (okS_empt h) q2
      have srt := srt_run (h := h) rs (srt0 h)
      rcases turn_eq n ok dr os q4 srt hS H1 (rs := rs) (by omega) m (some (nD M)) none (some (nD x)) y8 y9 y10 y11 y12 y13 y14 with ⟨r, S3, z8, z9, z10, z11, z12, z13, z14, e, H3, okr⟩ | ⟨S3, z8, z9, z10, z11, z12, z13, z14, e, H3⟩
      · refine .inl ⟨_, _, bodyF_eq (env2 := [some (rf k), some (hD h), some (nD M), some (.int m), some (standD (runR h (empt h) rs)), some (rf S.length), none, some (nD x), y8, y9, y10, y11, y12, y13, y14]) rfl e, rs ++ [r], S3, _, _, _, _, _, _, _, _, by rw [runR_snoc], rfl, H3, okRs_snoc q2 okr, by simp; omega, by rw [runR_snoc]; exact okGs_step ok os q4 okr⟩
      · exact .inr ⟨_, _, bodyF_eq (env2 := [some (rf k), some (hD h), some (nD M), some (.int m), some (standD (runR h (empt h) rs)), some (rf S.length), none, some (nD x), y8, y9, y10, y11, y12, y13, y14]) rfl e, rs, S3, _, _, _, _, _, _, _, _, _, rfl, rfl, H3, q2, by omega⟩)
    (fun env S' ⟨rs, S1, y7, y8, y9, y10, y11, y12, y13, y14, q0, q1, H1, q2, q3, q4⟩ => ⟨rs, S1, _, _, _, _, _, _, _, _, _, q0, q1, H1, q2, by simpa using q3⟩)
    (List.range M) [some (rf k), some (hD h), some (nD M), some (.int m), some (standD (empt h)), some (rf S.length), none, none, none, none, none, none, none, none, none] (S ++ [MO.lst []]) ⟨[], S, _, _, _, _, _, _, _, _, rfl, rfl, H, trivial, by simp, okGs0 h⟩
  subst q0 q1
  have hr : itemsV .rng1 [nD M] (S ++ [MO.lst []]) = .ok ((List.range M).map nD, none) (S ++ [MO.lst []]) := by
    have q := rng1_nat (j := M) (Nat.le_succ_of_le hM) (S ++ [MO.lst []])
    exact q
  have l1 := exec_frl (F := DL.run tab (n + 2)) (t := .nm 7) (b := turnB) (g := none) (S := S ++ [MO.lst []]) (S1 := S ++ [MO.lst []]) (S2 := S ++ [MO.lst []]) (k := .rng1) (its := [.v 2]) (vs := [nD M]) (items := (List.range M).map nD) (evs_cons (ev_v rfl) evs_nil) hr e1
  refine ⟨rs, S1, ?_, H1, q2, q3⟩
  have e0 : b__law_rows = [.asg (.tup [(.nm 4), (.nm 5)]) (.tup [(.blt .tuple false [(.comp false [6] (.nm 6) .val [(.sub (.v 1) (.c (.int 0)))] [] (.tup []))]), (.lst true [])]), .frl (.nm 7) .rng1 [(.v 2)] turnB, .ret (.v 5)] := rfl
  rw [e0, execs_cons a1 (execs_cons l1 (execs_ret (ev_v rfl))), H1.hand hS (gndL_map gnd_rowD rs)]
end
end K86

set_option linter.all false
set_option maxRecDepth 100000
namespace K86
open PySem DL L2
section
variable {h : H} {S : Store} {n k : Nat}
theorem ev_call {F : FS} {env : DL.Env} {S S1 : Store} {f : Nat} {l : List Ex} {ds : List D} {r : Res D} (h : DL.evs F l env S = .ok ds S1) (h2 : F f ds S1 = r) : DL.ev F (.call f l []) env S = r := by
  show (DL.evs F l env S).bind _ = r
  rw [h, Res.bind_ok, List.append_nil]
  exact h2
theorem ev_bltR {F : FS} {env : DL.Env} {S S1 : Store} {b : Blt} {m : Bool} {l : List Ex} {ds : List D} {r : Res D} (h : DL.evs F l env S = .ok ds S1) (h2 : bltV b m ds S1 = r) : DL.ev F (.blt b m l) env S = r := by
  show (DL.evs F l env S).bind _ = r
  rw [h, Res.bind_ok]
  exact h2
theorem ev_notR {F : FS} {env : DL.Env} {S S1 : Store} {x : Ex} {b : Bool} (h : DL.ev F x env S = .ok (.bool b) S1) : DL.ev F (.not x) env S = .ok (.bool (!b)) S1 := by
  show (DL.ev F x env S).test _ = _
  rw [h]
  rfl
/-- numbers, ascending -/
def nsort (l : List Nat) : List Nat := l.mergeSort fun a b : Nat => decide ((a : Int) ≤ (b : Int))
theorem nsort_D (l : List Nat) : sortD (l.map nD) = (nsort l).map nD := by
  unfold sortD nsort
  refine (List.map_mergeSort (f := nD) (r := fun a b : Nat => decide ((a : Int) ≤ (b : Int))) (s := W.dataLe false id) (fun a _ b _ => ?_)).symm
  exact (congrFun (congrFun (W.dataLe_int fun n : Nat => (n : Int)) a) b).symm
theorem nsort_mem {l : List Nat} {x : Nat} : x ∈ nsort l ↔ x ∈ l := (List.mergeSort_perm l _).mem_iff
theorem nsort_len (l : List Nat) : (nsort l).length = l.length := (List.mergeSort_perm l _).length_eq
theorem nsort_asc (l : List Nat) : (nsort l).Pairwise (· ≤ ·) := by
  have q := List.pairwise_mergeSort (le := fun a b : Nat => decide ((a : Int) ≤ (b : Int))) (fun a b c h1 h2 => by simp only [decide_eq_true_eq] at *; omega) (fun a b => by simp only [Bool.or_eq_true, decide_eq_true_eq]; omega) l
  refine q.imp fun h => ?_
  simp only [decide_eq_true_eq] at h
  omega
theorem sortOk_n (l : List Nat) : sortOk (l.map nD) = true := by
  unfold sortOk
  simp only [plainAll_map (f := nD) (fun _ => rfl), Bool.true_and, Bool.and_eq_true, Bool.or_eq_true]
  refine ⟨⟨?_, .inr ?_⟩, ?_⟩
  · simp only [alikeB, List.all_map, List.all_eq_true, Function.comp]
    intro a _ b _
    rfl
  · simp only [List.all_map, List.all_eq_true, Function.comp]
    intro a _
    rfl
  · simp only [List.all_map, List.all_eq_true, Function.comp, decide_eq_true_eq]
    intro a _
    simp [nD, PyData.depth]
theorem sorted_n (l : List Nat) (S : Store) {d : D} (hs : seqOf S d = some (l.map nD)) (hz : l.length ≤ sizeLine) : sortedV false [d] S = .ok (.list ((nsort l).map nD)) S := by
  simp only [sortedV, hs, sortOk_n, if_true, nsort_D, mkL, List.length_map, nsort_len, if_pos hz, Bool.false_eq_true, if_false]
/-- list(range(j)) -/
theorem lrng_n {j : Nat} (hj : j ≤ 1001) (S : Store) : bltV .lrng1 false [.int (j : Int)] S = .ok (.list ((List.range j).map nD)) S := by
  have c : -(2 ^ 62) ≤ (j : Int) ∧ (j : Int) ≤ 16777216 := by omega
  have e : rngD 0 (j : Int) = (List.range j).map nD := by
    unfold rngD
    rw [show ((j : Int) - 0).toNat = j by omega]
    refine List.map_congr_left fun a _ => ?_
    simp [nD]
  show lrng1V false [.int (j : Int)] S = _
  simp only [lrng1V, if_pos c, e, mkL, List.length_map, List.length_range, Bool.false_eq_true, if_false]
  rw [if_pos (by rw [sizeLine_eq]; omega)]
theorem Bx.re (H : Bx S k S') : Bx S' k S' := by
  obtain ⟨a, b, hab⟩ := H.at_
  exact Bx.of hab
def xHouse : Ex := .ite (.cmp .NotEq (.v 4) (.c (.int 2))) (.call 23 [(.v 5), (.bin .Add false (.c (.int 2)) (.call 19 [(.v 5), (.c (.int 3))] [])), (.c (.int 3)), (.bin .Add false (.c (.int 2)) (.call 19 [(.v 5), (.c (.int 5))] []))] []) (.call 23 [(.v 5), (.c (.int 10)), (.c (.int 6)), (.c (.int 24))] [])
def xRows : Ex := .call 28 [(.v 5), (.v 6), (.ite (.cmp .Eq (.v 4) (.c (.int 2))) (.c (.int 200)) (.call 20 [(.v 5), (.lst false [(.c (.int 6)), (.c (.int 12)), (.c (.int 24))])] [])), (.c (.int 40))] []
def xCuts : Ex := .ite (.cmp .Eq (.v 4) (.c (.int 2))) (.blt .sorted false [(.comp false [8] (.nm 8) .rng1 [(.c (.int 3))] [] (.call 19 [(.v 5), (.bin .Add false (.blt .len false [(.v 2)]) (.c (.int 1)))] []))]) (.blt .lrng1 false [(.bin .Add false (.blt .len false [(.v 2)]) (.c (.int 1)))])
def lbody : List Sm := [
    .asg (.nm 5) (.call 18 [(.v 0), (.v 4)] []),
    .asg (.nm 6) xHouse,
    .asg (.nm 2) xRows,
    .asg (.nm 7) xCuts,
    .ifs (.not (.call 32 [(.v 6), (.v 2), (.v 7)] [])) [
      .ret (.c (.bool false))] []]
theorem two_ne (j : Nat) (S : Store) : cmpV .NotEq (nD j) (.int 2) S = .ok (.bool (decide (j ≠ 2))) S := by
  have := cmp_ne_i (S := S) (j : Int) 2
  show cmpV .NotEq (.int (j : Int)) (.int 2) S = _
  rw [this]
  by_cases c : j = 2
  · subst c; rfl
  · rw [decide_eq_true c, decide_eq_true (by omega)]
theorem two_eq (j : Nat) (S : Store) : cmpV .Eq (nD j) (.int 2) S = .ok (.bool (decide (j = 2))) S := by
  have := cmp_eq_i (S := S) (j : Int) 2
  show cmpV .Eq (.int (j : Int)) (.int 2) S = _
  rw [this]
  by_cases c : j = 2
  · subst c; rfl
  · rw [decide_eq_false c, decide_eq_false (by omega)]
/-- the drawn house -/
theorem xhouse_ev (n : Nat) (hS : DL.lsts S = true) (HB : Bx S k S) (j : Nat) (x0 x1 x2 x3 x6 x7 x8 x9) :
    ∃ (h : H) (S' : Store) (P C : Nat), DL.ev (DL.run tab (n + 4)) xHouse [x0, x1, x2, x3, some (nD j), some (rf k), x6, x7, x8, x9] S = .ok (hD h) S' ∧ Bx S k S' ∧ Drawn h P C ∧ 1 ≤ P := by
  have c := two_ne j S
  by_cases hj : j = 2
  · obtain ⟨h, S', t, H', dr⟩ := house_eq n hS HB (P := 10) (M := 6) (C := 24) (by omega) (by omega) (by omega) (by omega) (by omega)
    rw [decide_eq_false (fun q => q hj)] at c
    refine ⟨h, S', 10, 24, ?_, H', dr, by omega⟩
    exact ev_iteF (ev_cmpR (ev_v rfl) ev_c c) (ev_call (evs_cons (ev_v rfl) (evs_cons ev_c (evs_cons ev_c (evs_cons ev_c evs_nil)))) t)
  · obtain ⟨d, S1, t1, H1, d0, d1⟩ := take_eq (n + 3) HB hS (m := 3) (by omega) (by omega)
    obtain ⟨d, rfl⟩ : ∃ i : Nat, d = (i : Int) := ⟨d.toNat, by omega⟩
    obtain ⟨e, S2, t2, H2, e0, e1⟩ := take_eq (n + 3) H1 hS (m := 5) (by omega) (by omega)
    obtain ⟨e, rfl⟩ : ∃ i : Nat, e = (i : Int) := ⟨e.toNat, by omega⟩
    obtain ⟨h, S', t, H', dr⟩ := house_eq n (H2.lsts hS) H2.re (P := 2 + d) (M := 3) (C := 2 + e) (by omega) (by omega) (by omega) (by omega) (by omega)
    rw [decide_eq_true hj] at c
    refine ⟨h, S', 2 + d, 2 + e, ?_, H2.trans H', dr, by omega⟩
    have u : ∀ i : Nat, nD (2 + i) = .int (2 + (i : Int)) := fun i => by simp [nD]
    rw [u, u] at t
    exact ev_iteT (ev_cmpR (ev_v rfl) ev_c c) (ev_call (evs_cons (ev_v rfl) (evs_cons (ev_binR ev_c (ev_call (evs_cons (ev_v rfl) (evs_cons ev_c evs_nil)) t1) rfl) (evs_cons ev_c (evs_cons (ev_binR ev_c (ev_call (evs_cons (ev_v rfl) (evs_cons ev_c evs_nil)) t2) rfl) evs_nil)))) t)
/-- the drawn rows -/
theorem xrows_ev (n : Nat) (hS : DL.lsts S = true) (H : Bx S k S) (ok : OkH h) (dr : ∀ s, s < h.stages.length → nxs h s ≠ [] ∧ (nxs h s).length ≤ 1000) (j : Nat) (x0 x1 x2 x3 x7 x8 x9) :
    ∃ (rs : List Row) (S' : Store), DL.ev (DL.run tab (n + 3)) xRows [x0, x1, x2, x3, some (nD j), some (rf k), some (hD h), x7, x8, x9] S = .ok (.list (rs.map rowD)) S' ∧ Bx S k S' ∧ okRs h (empt h) rs ∧ rs.length ≤ 200 := by
  have c := two_eq j S
  have key : ∃ (M : Nat) (S1 : Store), DL.ev (DL.run tab (n + 3)) (.ite (.cmp .Eq (.v 4) (.c (.int 2))) (.c (.int 200)) (.call 20 [(.v 5), (.lst false [(.c (.int 6)), (.c (.int 12)), (.c (.int 24))])] [])) [x0, x1, x2, x3, some (nD j), some (rf k), some (hD h), x7, x8, x9] S = .ok (nD M) S1 ∧ Bx S k S1 ∧ M ≤ 200 := by
    by_cases hj : j = 2
    · rw [decide_eq_true hj] at c
      exact ⟨200, S, ev_iteT (ev_cmpR (ev_v rfl) ev_c c) ev_c, H, by omega⟩
    · rw [decide_eq_false hj] at c
      obtain ⟨x, S1, hx, t, H1⟩ := pick_eq (f := nD) (n + 1) (fun _ => rfl) (fun _ => rfl) (l := [6, 12, 24]) (by simp) (by simp) (.inl rfl) H hS
      refine ⟨x, S1, ev_iteF (ev_cmpR (ev_v rfl) ev_c c) (ev_call (evs_cons (ev_v rfl) (evs_cons (d := .list ([6, 12, 24].map nD)) (S1 := S) ?_ evs_nil)) t), H1, ?_⟩
      · simp [mkL, sizeLine_eq, nD, -List.map_take, -List.map_drop, DL.execs, DL.exec, DL.ev, DL.evs, DL.evAll, Res.bind_ok, Res.out_ok, Res.test, Res.outB, asBool, Out.seq, bltV, isTV, isTy, gc_same, bindT, bindTs, wipeE]
      · simp only [List.mem_cons, List.not_mem_nil, or_false] at hx
        omega
  obtain ⟨M, S1, e1, H1, hM⟩ := key
  obtain ⟨rs, S2, t, H2, okr, hz⟩ := rows_eq n ok dr (H1.lsts hS) H1.re (M := M) (by omega) 40
  exact ⟨rs, S2, ev_call (evs_cons (ev_v rfl) (evs_cons (ev_v rfl) (evs_cons e1 (evs_cons ev_c evs_nil)))) t, H1.trans H2, okr, by omega⟩
/-- the cuts -/
theorem xcuts_ev (n : Nat) (hS : DL.lsts S = true) (H : Bx S k S) {rs : List Row} (hz : rs.length ≤ 200) (j : Nat) (x0 x1 x3 x6 x7 x8 x9) :
    ∃ (cs : List Nat) (S' : Store), DL.ev (DL.run tab (n + 1)) xCuts [x0, x1, some (.list (rs.map rowD)), x3, some (nD j), some (rf k), x6, x7, x8, x9] S = .ok (.list (cs.map nD)) S' ∧ Bx S k S' ∧ (∀ c ∈ cs, c ≤ rs.length) ∧ cs.Pairwise (· ≤ ·) := by
  have c := two_eq j S
  have ln : ∀ S, lenV [.list (rs.map rowD)] S = .ok (.int (rs.length : Int)) S := fun S => by simp [lenV, seqOf]
  by_cases hj : j = 2
  · rw [decide_eq_true hj] at c
    obtain ⟨bs, S', e, H', q1, q2⟩ := draw_list (enc := nD) (out := nD) (S := S) (k := k) (Q := fun b => b ≤ rs.length) (f := compF (DL.run tab (n + 1)) [8] (.nm 8) [] (.call 19 [(.v 5), (.bin .Add false (.blt .len false [(.v 2)]) (.c (.int 1)))] []) [x0, x1, some (.list (rs.map rowD)), x3, some (nD j), some (rf k), x6, x7, x8, x9])
      (fun x S1 HB => by
        obtain ⟨d, S2, t, H2, d0, d1⟩ := take_eq n HB hS (m := (rs.length : Int) + 1) (by omega) (by omega)
        obtain ⟨i, rfl⟩ : ∃ i : Nat, d = (i : Int) := ⟨d.toNat, by omega⟩
        refine ⟨i, S2, compF_some (env' := [x0, x1, some (.list (rs.map rowD)), x3, some (nD j), some (rf k), x6, x7, some (nD x), x9]) rfl rfl ?_, H2, by omega⟩
        exact ev_call (evs_cons (ev_v rfl) (evs_cons (ev_binR (ev_blt1 (ev_v rfl) (ln _)) ev_c rfl) evs_nil)) t) (List.range 3) H (by simp) S
    have hr : itemsV .rng1 [.int 3] S = .ok ((List.range 3).map nD, none) S := rng1_nat (j := 3) (by omega) S
    have cc := ev_comp (F := DL.run tab (n + 1)) (its := [.c (.int 3)]) (S := S) (S1 := S) (k := .rng1) (vs := [.int 3]) (evs_cons ev_c evs_nil) hr e
    refine ⟨nsort bs, S', ev_iteT (ev_cmpR (ev_v rfl) ev_c c) (ev_blt1 cc (sorted_n (d := .list (bs.map nD)) bs S' rfl ?_)), H', fun x hx => q2 x (nsort_mem.mp hx), nsort_asc bs⟩
    rw [q1, sizeLine_eq]
    simp
  · rw [decide_eq_false hj] at c
    refine ⟨List.range (rs.length + 1), S, ev_iteF (ev_cmpR (ev_v rfl) ev_c c) (ev_blt1 (d := .int ((rs.length + 1 : Nat) : Int)) (S1 := S) (ev_binR (ev_blt1 (ev_v rfl) (ln _)) ev_c ?_) (lrng_n (by omega) S)), H, fun x hx => ?_, List.pairwise_le_range⟩
    · simp [binV]
    · have := List.mem_range.mp hx
      omega
/-- one turn of the law's loop -/
theorem lturn_eq (ns : List Int) (hS : DL.lsts S = true) (j : Nat) (x1 x2 x3 x5 x6 x7 x8 x9) :
    ∃ (y2 y5 y6 y7 : Option D) (S' : Store), DL.execs (DL.run tab 40) lbody [some (ro ns), x1, x2, x3, some (nD j), x5, x6, x7, x8, x9] S = .nx [some (ro ns), x1, y2, x3, some (nD j), y5, y6, y7, x8, x9] S' ∧ DL.lsts S' = true := by
  obtain ⟨a, b, t0⟩ := box_eq 39 ns j S
  have h1 : DL.lsts (S ++ [MO.lst [.int a, .int b]]) = true := by rw [lsts_app, hS]; rfl
  have H1 : Bx (S ++ [MO.lst [.int a, .int b]]) S.length (S ++ [MO.lst [.int a, .int b]]) := Bx.of (atL_last _ _)
  generalize S ++ [MO.lst [.int a, .int b]] = S1 at t0 h1 H1
  generalize S.length = k at t0 H1
  obtain ⟨h, S2, P, C, t1, H2, dr, hP⟩ := xhouse_ev 36 h1 H1 j (some (ro ns)) x1 x2 x3 x6 x7 x8 x9
  have h2 := H2.lsts h1
  obtain ⟨rs, S3, t2, H3, okr, hz⟩ := xrows_ev 37 h2 H2.re dr.ok (fun s hs => ⟨dr.ne s (by rw [← dr.st]; exact hs), dr.nz s (by rw [← dr.st]; exact hs)⟩) j (some (ro ns)) x1 x2 x3 x7 x8 x9
  have h3 := H3.lsts h2
  obtain ⟨cs, S4, t3, H4, c1, c2⟩ := xcuts_ev 39 h3 H3.re hz j (some (ro ns)) x1 x3 (some (hD h)) x7 x8 x9
  have h4 := H4.lsts h3
  have t4 := right_eq 30 dr.ok (by rw [dr.pl]; exact hP) h4 (by omega) okr c1 c2
  refine ⟨some (.list (rs.map rowD)), some (rf k), some (hD h), some (.list (cs.map nD)), S4, ?_, h4⟩
  exact execs_cons (exec_asg (ev_call (evs_cons (ev_v rfl) (evs_cons (ev_v rfl) evs_nil)) t0) rfl) (execs_cons (exec_asg t1 rfl) (execs_cons (exec_asg t2 rfl) (execs_cons (exec_asg t3 rfl) (execs_cons (exec_ifF (ev_notR (ev_call (evs_cons (ev_v rfl) (evs_cons (ev_v rfl) (evs_cons (ev_v rfl) evs_nil))) t4)) execs_nil) execs_nil))))
end
end K86

set_option linter.all false
set_option maxRecDepth 100000
namespace K86
open PySem DL L2
/-! ### the law's own likeness: whatever is told is like itself -/
mutual
def smp : D → Bool
  | .none => true
  | .bool _ => true
  | .int _ => true
  | .str _ => true
  | .tuple xs => smpL xs
  | _ => false
def smpL : List D → Bool
  | [] => true
  | x :: r => smp x && smpL r
end
mutual
def hgt : D → Nat
  | .tuple xs => hgtL xs + 1
  | _ => 0
def hgtL : List D → Nat
  | [] => 0
  | x :: r => max (hgt x) (hgtL r)
end
theorem smpL_iff : ∀ {xs : List D}, smpL xs = true ↔ ∀ x ∈ xs, smp x = true
  | [] => by simp [smpL]
  | x :: r => by simp [smpL, smpL_iff (xs := r)]
theorem hgtL_le {k : Nat} : ∀ {xs : List D}, hgtL xs ≤ k ↔ ∀ x ∈ xs, hgt x ≤ k
  | [] => by simp [hgtL]
  | x :: r => by
    simp only [hgtL, List.mem_cons, forall_eq_or_imp, ← hgtL_le (xs := r)]
    omega
theorem same_str (n : Nat) (x : Str) (S : Store) : DL.run tab (n + 1) 21 [.str x, .str x] S = .ok (.bool true) S := by
  rw [r__law_same]
  have o1 : cmpV .Is (.str x) (.bool true) S = .ok (.bool false) S := rfl
  have o2 : cmpV .Is (.str x) (.bool false) S = .ok (.bool false) S := rfl
  have o3 : cmpV .Eq (.str x) (.str x) S = .ok (.bool true) S := by simp [cmpV, eqOk, res, PyData.plain, PyData.depth, PyData.eqv]
  simp [b__law_same, cmp_isN, isNone, o1, o2, o3, -List.map_take, -List.map_drop, DL.execs, DL.exec, DL.ev, DL.evs, DL.evAll, Res.bind_ok, Res.out_ok, Res.test, Res.outB, asBool, Out.seq, bltV, isTV, isTy, gc_same, bindT, bindTs, wipeE]
theorem same_none (n : Nat) (S : Store) : DL.run tab (n + 1) 21 [.none, .none] S = .ok (.bool true) S := by
  rw [r__law_same]
  simp [b__law_same, cmp_isN, isNone, -List.map_take, -List.map_drop, DL.execs, DL.exec, DL.ev, DL.evs, DL.evAll, Res.bind_ok, Res.out_ok, Res.test, Res.outB, asBool, Out.seq, bltV, isTV, isTy, gc_same, bindT, bindTs, wipeE]
theorem same_bool (n : Nat) (b : Bool) (S : Store) : DL.run tab (n + 1) 21 [.bool b, .bool b] S = .ok (.bool true) S := by
  rw [r__law_same]
  have o3 : cmpV .Eq (.bool b) (.bool b) S = .ok (.bool true) S := by simp [cmpV, eqOk, res, PyData.plain, PyData.depth, PyData.eqv]
  have o1 : cmpV .Is (.bool b) (.bool true) S = .ok (.bool b) S := by cases b <;> rfl
  have o2 : cmpV .Is (.bool b) (.bool false) S = .ok (.bool !b) S := by cases b <;> rfl
  cases b <;> simp [b__law_same, cmp_isN, isNone, o1, o2, o3, -List.map_take, -List.map_drop, DL.execs, DL.exec, DL.ev, DL.evs, DL.evAll, Res.bind_ok, Res.out_ok, Res.test, Res.outB, asBool, Out.seq, bltV, isTV, isTy, gc_same, bindT, bindTs, wipeE]
theorem same_refl : ∀ (n : Nat) (d : D) (S : Store), smp d = true → hgt d ≤ n → DL.run tab (n + 1) 21 [d, d] S = .ok (.bool true) S := by
  intro n
  induction n with
  | zero =>
    intro d S h1 h2
    cases d with
    | none => exact same_none 0 S
    | bool b => exact same_bool 0 b S
    | int i => exact same_int 0 i S
    | str x => exact same_str 0 x S
    | tuple xs => simp [hgt] at h2
    | _ => simp [smp] at h1
  | succ n ih =>
    intro d S h1 h2
    cases d with
    | none => exact same_none _ S
    | bool b => exact same_bool _ b S
    | int i => exact same_int _ i S
    | str x => exact same_str _ x S
    | tuple xs =>
      simp only [smp] at h1
      simp only [hgt] at h2
      refine same_tup (n + 1) xs S fun x hx => ih x S (smpL_iff.mp h1 x hx) (hgtL_le.mp (by omega : hgtL xs ≤ n) x hx)
    | _ => simp [smp] at h1
theorem smp_gD (g : G) : smp (gD g) = true := rfl
theorem smp_gsD (l : List G) : smp (gsD l) = true := by
  show smpL _ = true
  rw [smpL_iff]
  intro x hx
  obtain ⟨g, _, rfl⟩ := List.mem_map.mp hx
  rfl
theorem smp_stand (st : Stand) : smp (standD st) = true := by
  show smpL _ = true
  rw [smpL_iff]
  intro x hx
  obtain ⟨g, _, rfl⟩ := List.mem_map.mp hx
  exact smp_gsD g
theorem hgt_gD (g : G) : hgt (gD g) = 1 := rfl
theorem hgt_stand (st : Stand) : hgt (standD st) ≤ 3 := by
  show hgtL _ + 1 ≤ 3
  have : hgtL (st.map gsD) ≤ 2 := hgtL_le.mpr fun x hx => by
    obtain ⟨l, _, rfl⟩ := List.mem_map.mp hx
    show hgtL _ + 1 ≤ 2
    have : hgtL (l.map gD) ≤ 1 := hgtL_le.mpr fun y hy => by
      obtain ⟨g, _, rfl⟩ := List.mem_map.mp hy
      exact Nat.le_of_eq (hgt_gD g)
    omega
  omega
theorem smp_rowD (r : Row) : smp (rowD r) = true := by cases r <;> rfl
theorem hgt_rowD (r : Row) : hgt (rowD r) ≤ 2 := by cases r <;> simp [rowD, hgt, hgtL, gD, oD]
theorem smp_rows (rs : List Row) : smp (.tuple (rs.map rowD)) = true := by
  show smpL _ = true
  rw [smpL_iff]
  intro x hx
  obtain ⟨g, _, rfl⟩ := List.mem_map.mp hx
  exact smp_rowD g
theorem hgt_rows (rs : List Row) : hgt (.tuple (rs.map rowD)) ≤ 3 := by
  show hgtL _ + 1 ≤ 3
  have : hgtL (rs.map rowD) ≤ 2 := hgtL_le.mpr fun x hx => by
    obtain ⟨l, _, rfl⟩ := List.mem_map.mp hx
    exact hgt_rowD l
  omega
/-! ### rows -/
theorem ev_orF {F : FS} {env : DL.Env} {S S1 S2 : Store} {a b : Ex} {c : Bool} (h : DL.ev F a env S = .ok (.bool false) S1) (h2 : DL.ev F b env S1 = .ok (.bool c) S2) : DL.ev F (.or a b) env S = .ok (.bool c) S2 := by
  show (DL.ev F a env S).test _ = _
  rw [h]
  exact h2
theorem ev_subR {F : FS} {env : DL.Env} {S S1 S2 : Store} {a b : Ex} {x y : D} {r : Res D} (h : DL.ev F a env S = .ok x S1) (h2 : DL.ev F b env S1 = .ok y S2) (h3 : subV x y S2 = r) : DL.ev F (.sub a b) env S = r := by
  show (DL.ev F a env S).bind _ = r
  rw [h, Res.bind_ok, h2]
  exact h3
section
variable {h : H} {S : Store} {st : Stand} {n k : Nat}
def kind : Row → D
  | .come _ _ => .str "come"
  | .move _ _ _ => .str "move"
theorem sub_r0 (r : Row) (S : Store) : subV (rowD r) (.int 0) S = .ok (kind r) S := by cases r <;> rfl
theorem is_among_eq (n : Nat) (r : Row) (S : Store) : DL.run tab (n + 1) 34 [kind r, .tuple [.str "come", .str "move"]] S = .ok (.bool true) S := by
  rw [r_is_among]
  have o1 : cmpV .In (kind r) (.tuple [.str "come", .str "move"]) S = .ok (.bool true) S := by
    cases r with
    | come s t =>
      have : (([.str "come", .str "move"] : List D).any fun y => PyData.eqv y (.str "come")) = true := by decide +kernel
      have ok : inOk [.str "come", .str "move"] (.str "come") = true := by decide +kernel
      show (if inOk [.str "come", .str "move"] (.str "come") = true then Res.ok (PyData.bool _) S else .bad) = _
      rw [if_pos ok]
      exact congrArg (fun b => Res.ok (PyData.bool b) S) this
    | move p g t =>
      have : (([.str "come", .str "move"] : List D).any fun y => PyData.eqv y (.str "move")) = true := by decide +kernel
      have ok : inOk [.str "come", .str "move"] (.str "move") = true := by decide +kernel
      show (if inOk [.str "come", .str "move"] (.str "move") = true then Res.ok (PyData.bool _) S else .bad) = _
      rw [if_pos ok]
      exact congrArg (fun b => Res.ok (PyData.bool b) S) this
  have o2 : isTy S 3 (kind r) = some true := by cases r <;> rfl
  have o3 : DL.ev (DL.run tab n) (.blt (.isT 3) false [(.v 0)]) [some (kind r), some (.tuple [.str "come", .str "move"])] S = .ok (.bool true) S := ev_blt1 (ev_v rfl) (by show isTV 3 [kind r] S = _; simp only [isTV, o2])
  have o4 : DL.ev (DL.run tab n) (.cmp .In (.v 0) (.v 1)) [some (kind r), some (.tuple [.str "come", .str "move"])] S = .ok (.bool true) S := ev_cmpR (ev_v rfl) (ev_v rfl) o1
  have o5 : DL.ev (DL.run tab n) (.and (.blt (.isT 3) false [(.v 0)]) (.cmp .In (.v 0) (.v 1))) [some (kind r), some (.tuple [.str "come", .str "move"])] S = .ok (.bool true) S := by
    show (DL.ev _ _ _ _).test _ = _
    rw [o3]
    exact o4
  rw [b_is_among, execs_ret o5, gc_same]
theorem is_tuple_n (n : Nat) (xs : List D) (S : Store) : DL.run tab (n + 1) 2 [.tuple xs, .int (xs.length : Int)] S = .ok (.bool true) S := by
  rw [r_is_tuple]
  have ln : lenV [.tuple xs] S = .ok (.int (xs.length : Int)) S := rfl
  have c := cmp_eq_i (S := S) (xs.length : Int) (xs.length : Int)
  simp [b_is_tuple, ln, cmp_isN, isNone, c, -List.map_take, -List.map_drop, DL.execs, DL.exec, DL.ev, DL.evs, DL.evAll, Res.bind_ok, Res.out_ok, Res.test, Res.outB, asBool, Out.seq, bltV, isTV, isTy, gc_same, bindT, bindTs, wipeE]
def rlen : Row → Nat
  | .come _ _ => 3
  | .move _ _ _ => 4
theorem is_row_eq (n : Nat) (r : Row) (S : Store) : DL.run tab (n + 2) 35 [rowD r] S = .ok (.bool true) S := by
  rw [r_is_row]
  have t1 := is_among_eq n r S
  have s0 := sub_r0 r S
  have ln : lenV [rowD r] S = .ok (.int (rlen r : Int)) S := by cases r <;> rfl
  have it : isTy S 2 (rowD r) = some true := by cases r <;> rfl
  have t2 : DL.run tab (n + 1) 2 [rowD r, .int (rlen r : Int)] S = .ok (.bool true) S := by cases r <;> exact is_tuple_n n _ S
  have kd : kdV [("come", .int 3), ("move", .int 4)] (kind r) S = .ok (.int (rlen r : Int)) S := by
    cases r with
    | come s t =>
      have : ([("come", .int 3), ("move", .int 4)] : List (Str × D)).lookup ("come" : Str) = some (PyData.int 3) := rfl
      show (match ([("come", .int 3), ("move", .int 4)] : List (Str × D)).lookup ("come" : Str) with | some d => Res.ok d S | none => .bad) = _
      rw [this]
      rfl
    | move p g t =>
      have : ([("come", .int 3), ("move", .int 4)] : List (Str × D)).lookup ("move" : Str) = some (PyData.int 4) := rfl
      show (match ([("come", .int 3), ("move", .int 4)] : List (Str × D)).lookup ("move" : Str) with | some d => Res.ok d S | none => .bad) = _
      rw [this]
      rfl
  have c0 : cmpV .Eq (.int (rlen r : Int)) (.int 0) S = .ok (.bool false) S := by rw [cmp_eq_i, decide_eq_false (by cases r <;> simp [rlen])]
  generalize rowD r = d at *
  generalize kind r = kk at *
  generalize (rlen r : Int) = m at *
  have o1 : DL.ev (DL.run tab (n + 1)) (.not (.blt (.isT 2) false [(.v 0)])) [some d] S = .ok (.bool false) S := ev_notR (b := true) (ev_blt1 (ev_v rfl) (by show isTV 2 [d] S = _; simp only [isTV, it]))
  have o2 : DL.ev (DL.run tab (n + 1)) (.cmp .Eq (.blt .len false [(.v 0)]) (.c (.int 0))) [some d] S = .ok (.bool false) S := ev_cmpR (ev_blt1 (ev_v rfl) ln) ev_c c0
  have o0 : DL.ev (DL.run tab (n + 1)) (.sub (.v 0) (.c (.int 0))) [some d] S = .ok kk S := ev_subR (ev_v rfl) ev_c s0
  have o3 : DL.ev (DL.run tab (n + 1)) (.not (.call 34 [(.sub (.v 0) (.c (.int 0))), (.c (.tuple [.str "come", .str "move"]))] [])) [some d] S = .ok (.bool false) S := ev_notR (b := true) (ev_call (evs_cons o0 (evs_cons ev_c evs_nil)) t1)
  have o4 : DL.ev (DL.run tab (n + 1)) (.kd [("come", .int 3), ("move", .int 4)] (.sub (.v 0) (.c (.int 0)))) [some d] S = .ok (.int m) S := by
    show (DL.ev _ _ _ _).bind _ = _
    rw [o0]
    exact kd
  rw [b_is_row, execs_cons (exec_ifF (ev_orF o1 (ev_orF o2 o3)) execs_nil) (execs_ret (ev_call (evs_cons (ev_v rfl) (evs_cons o4 evs_nil)) t2)), gc_same]
theorem exec_try0 {F : FS} {b : List Sm} {env env' : DL.Env} {S S1 : Store} (h : DL.execs F b env S = .nx env' S1) : DL.exec F (.try0 b) env S = .nx env' S1 := by
  show (DL.execs F b env S).noexc = _
  rw [h]
  rfl
def cbody : List Sm := [
    .ifs (.not (.call 35 [(.v 4)] [])) [
      .never] [],
    .try0 [
      .asg (.nm 2) (.call 13 [(.v 0), (.v 2), (.v 4)] [])]]
theorem check_eq (n : Nat) (ok : OkH h) (hS : lsts S = true) {rs : List Row} (e : okRs h (empt h) rs) : DL.run tab (n + 7) 36 [hD h, .tuple (rs.map rowD)] S = .ok (.tuple (rs.map rowD)) S := by
  rw [r_check_rows]
  have t0 := empty_eq (n + 5) ok S
  obtain ⟨env', S', e1, y3, y4, st, q0, q1⟩ := forLoop_inv (enc := rowN) (g := none) (S0 := S) (f := bodyF (DL.run tab (n + 6)) (.tup [(.nm 3), (.nm 4)]) cbody)
    (fun l env S' => ∃ y3 y4 st, env = [some (hD h), some (.tuple (rs.map rowD)), some (standD st), y3, y4] ∧ S' = S ∧ OkS h st ∧ okRs h st (l.map (·.1))) (fun _ _ _ _ => rfl)
    (fun x l env S' ⟨y3, y4, st, q0, q1, os, okr⟩ => by
      subst q0 q1
      obtain ⟨r, i⟩ := x
      have t1 := is_row_eq (n + 4) r S'
      have t2 := behind_eq n ok os hS okr.1
      refine ⟨_, _, bodyF_eq (env2 := [some (hD h), some (.tuple (rs.map rowD)), some (standD st), some (.int (i : Int)), some (rowD r)]) rfl
        (execs_cons (exec_ifF (ev_notR (ev_call (evs_cons (ev_v rfl) evs_nil) t1)) execs_nil) (execs_cons (exec_try0 (execs_cons (exec_asg (ev_call (evs_cons (ev_v rfl) (evs_cons (ev_v rfl) (evs_cons (ev_v rfl) evs_nil))) t2) rfl) execs_nil)) execs_nil)), _, _, _, rfl, rfl, okS_step ok os okr.1, okr.2⟩)
    rs.zipIdx [some (hD h), some (.tuple (rs.map rowD)), some (standD (empt h)), none, none] S ⟨_, _, _, rfl, rfl, okS_empt h, by rw [map_zip]; exact e⟩
  obtain ⟨q1, _⟩ := q1
  subst q0 q1
  have l1 := exec_frl (F := DL.run tab (n + 6)) (S := S') (S1 := S') (k := .enum) (its := [.v 1]) (vs := [.tuple (rs.map rowD)]) (env := [some (hD h), some (.tuple (rs.map rowD)), some (standD (empt h)), none, none]) (evs_cons (ev_v rfl) evs_nil) (show enumI [.tuple (rs.map rowD)] _ = _ by simp only [enumI, seqOf, enum_rows]; rfl) e1
  have a0 : DL.exec (DL.run tab (n + 6)) (.ifs (.not (.blt (.isT 2) false [(.v 1)])) [.never] []) [some (hD h), some (.tuple (rs.map rowD)), none, none, none] S' = .nx [some (hD h), some (.tuple (rs.map rowD)), none, none, none] S' :=
    exec_ifF (ev_notR (b := true) (ev_blt1 (ev_v rfl) rfl)) execs_nil
  have e0 : b_check_rows = [.ifs (.not (.blt (.isT 2) false [(.v 1)])) [.never] [], .asg (.nm 2) (.call 12 [(.v 0)] []), .frl (.tup [(.nm 3), (.nm 4)]) .enum [(.v 1)] cbody, .ret (.v 1)] := rfl
  rw [e0, execs_cons a0 (execs_cons (exec_asg (ev_call (evs_cons (ev_v rfl) evs_nil) t0) rfl) (execs_cons l1 (execs_ret (ev_v rfl)))), gc_same]
end
end K86

set_option linter.all false
set_option maxRecDepth 100000
namespace K86
open PySem DL L2
section
variable {S S' S0 : Store} {n k : Nat}
theorem box_eq_k85 (n : Nat) (ns : List Int) (k : Nat) (S : Store) : ∃ a b : Int, DL.run tab (n + 1) 37 [ro ns, .int (k : Int)] S = .ok (rf S.length) (S ++ [.lst [.int a, .int b]]) := by
  rw [r__law_box_k85]
  have ln : lenV [ro ns] S = .ok (.int (ns.length : Int)) S := by simp [lenV, seqOf]
  have u1 : ∀ (i : Int), binV .Mult false (.int 19069) (.int i) S = .ok (.int (19069 * i)) S := fun i => by
    have : DL.small64 19069 = true := by decide
    simp [binV, this]
  have u2 : ∀ (i : Int), binV .Mult false (.int 9439) (.int i) S = .ok (.int (9439 * i)) S := fun i => by
    have : DL.small64 9439 = true := by decide
    simp [binV, this]
  have u3 : ∀ (i : Int), binV .Mult false (.int i) (.int 88463) S = .ok (.int (i * 88463)) S := fun i => bin_mul_i _ _ _ (by decide)
  have u4 : ∀ (i : Int), binV .Mult false (.int i) (.int 54250003) S = .ok (.int (i * 54250003)) S := fun i => bin_mul_i _ _ _ (by decide)
  have u5 : ∀ (i : Int), binV .Mod false (.int i) (.int 2147483563) S = .ok (.int (i % 2147483563)) S := fun i => bin_mod_i _ _ _ (by decide)
  have u6 : binV .Pow false (.int 10) (.int 18) S = .ok (.int 1000000000000000000) S := by simp [binV]
  have fin : ∀ a b : Int, DL.gc false S (.rt (rf S.length) (S ++ [.lst [.int a, .int b]])) = .ok (rf S.length) (S ++ [.lst [.int a, .int b]]) := fun a b => by
    simp [DL.gc, handOut, below]
  have mk : ∀ a b : Int, mkL true [.int a, .int b] S = .ok (rf S.length) (S ++ [.lst [.int a, .int b]]) := fun a b => by simp [mkL, sizeLine_eq]
  have key : ∀ cell : Int, ∃ a b : Int, DL.gc false S (DL.execs (DL.run tab n) (b__law_box_k85.drop 2) [some (ro ns), some (.int (k : Int)), some (.int cell), none] S) = .ok (rf S.length) (S ++ [.lst [.int a, .int b]]) := fun cell => by
    have e : b__law_box_k85.drop 2 = [.asg (.nm 3) (.ite (.cmp .GtE (.v 2) (.bin .Pow false (.c (.int 10)) (.c (.int 18)))) (.v 2) (.c (.int 0))),
      .ret (.lst true [(.v 3), (.bin .Add false (.bin .Mod false (.blt .int false [(.bin .Add false (.bin .Mult false (.bin .Mod false (.blt .int false [(.v 2)]) (.c (.int 2147483563))) (.c (.int 54250003))) (.bin .Mult false (.c (.int 9439)) (.v 1)))]) (.c (.int 2147483563))) (.c (.int 1)))])] := rfl
    rw [e]
    by_cases hc : cell ≥ 1000000000000000000
    · have c0 : cmpV .GtE (.int cell) (.int 1000000000000000000) S = .ok (.bool true) S := by rw [cmp_ge_i, decide_eq_true hc]
      refine ⟨cell, (cell % 2147483563 * 54250003 + 9439 * (k : Int)) % 2147483563 + 1, ?_⟩
      simp [u6, c0, intV, u5, u4, u2, bin_add_i, mk, fin, -List.map_take, -List.map_drop, DL.execs, DL.exec, DL.ev, DL.evs, DL.evAll, Res.bind_ok, Res.out_ok, Res.test, Res.outB, asBool, Out.seq, bltV, isTV, isTy, gc_same, bindT, bindTs, wipeE]
    · have c0 : cmpV .GtE (.int cell) (.int 1000000000000000000) S = .ok (.bool false) S := by rw [cmp_ge_i, decide_eq_false hc]
      refine ⟨0, (cell % 2147483563 * 54250003 + 9439 * (k : Int)) % 2147483563 + 1, ?_⟩
      simp [u6, c0, intV, u5, u4, u2, bin_add_i, mk, fin, -List.map_take, -List.map_drop, DL.execs, DL.exec, DL.ev, DL.evs, DL.evAll, Res.bind_ok, Res.out_ok, Res.test, Res.outB, asBool, Out.seq, bltV, isTV, isTy, gc_same, bindT, bindTs, wipeE]
  have ex : b__law_box_k85 = b__law_box_k85.take 2 ++ b__law_box_k85.drop 2 := rfl
  have go : ∀ cell : Int, DL.execs (DL.run tab n) (b__law_box_k85.take 2) [some (ro ns), some (.int (k : Int)), none, none] S = .nx [some (ro ns), some (.int (k : Int)), some (.int cell), none] S → ∃ a b : Int, DL.gc false S (DL.execs (DL.run tab n) b__law_box_k85 [some (ro ns), some (.int (k : Int)), none, none] S) = .ok (rf S.length) (S ++ [.lst [.int a, .int b]]) := fun cell hc => by
    obtain ⟨a, b, q⟩ := key cell
    refine ⟨a, b, ?_⟩
    rw [← q]
    congr 1
    have sp : ∀ (l1 l2 : List Sm) (env : DL.Env) (S : Store), DL.execs (DL.run tab n) (l1 ++ l2) env S = (DL.execs (DL.run tab n) l1 env S).seq fun env' S' => DL.execs (DL.run tab n) l2 env' S' := by
      intro l1 l2
      induction l1 with
      | nil => intro env S; rfl
      | cons x l1 ih =>
        intro env S
        show (DL.exec (DL.run tab n) x env S).seq _ = ((DL.exec (DL.run tab n) x env S).seq _).seq _
        cases DL.exec (DL.run tab n) x env S with
        | nx env' S' => exact ih env' S'
        | _ => rfl
    rw [ex, sp, hc]
    rfl
  have e2 : b__law_box_k85.take 2 = [.asg (.nm 2) (.bin .Add false (.bin .Mult false (.c (.int 19069)) (.v 1)) (.c (.int 9439))),
    .ifs (.cmp .Lt (.v 1) (.blt .len false [(.v 0)])) [
      .asg (.nm 2) (.blt .abs false [(.blt .int false [(.sub (.v 0) (.v 1))])])] [
      .ifs (.cmp .Gt (.blt .len false [(.v 0)]) (.c (.int 0))) [
        .asg (.nm 2) (.bin .Add false (.v 2) (.bin .Mult false (.bin .Mod false (.blt .int false [(.blt .abs false [(.blt .int false [(.sub (.v 0) (.bin .Mod false (.blt .int false [(.v 1)]) (.blt .len false [(.v 0)])))])])]) (.c (.int 2147483563))) (.c (.int 88463))))] []]] := rfl
  by_cases h1 : k < ns.length
  · have sb : subV (ro ns) (.int (k : Int)) S = .ok (.int ns[k]) S := by
      simp only [subV, seqOf, atI_map (List.getElem?_eq_getElem h1)]
    have c1 := cmp_lt_n k ns.length S
    rw [decide_eq_true h1] at c1
    refine go (if ns[k] < 0 then -ns[k] else ns[k]) ?_
    rw [e2]
    simp [u1, bin_add_i, ln, c1, sb, intV, DL.absV, -List.map_take, -List.map_drop, DL.execs, DL.exec, DL.ev, DL.evs, DL.evAll, Res.bind_ok, Res.out_ok, Res.test, Res.outB, asBool, Out.seq, bltV, isTV, isTy, gc_same, bindT, bindTs, wipeE]
  · have c1 := cmp_lt_n k ns.length S
    rw [decide_eq_false h1] at c1
    by_cases h2 : 0 < ns.length
    · have h3 : k % ns.length < ns.length := Nat.mod_lt _ h2
      have sb : subV (ro ns) (.int ((k : Int) % (ns.length : Int))) S = .ok (.int ns[k % ns.length]) S := by
        rw [show (k : Int) % (ns.length : Int) = ((k % ns.length : Nat) : Int) from by simp]
        simp only [subV, seqOf, atI_map (List.getElem?_eq_getElem h3)]
      have u7 : binV .Mod false (.int (k : Int)) (.int (ns.length : Int)) S = .ok (.int ((k : Int) % (ns.length : Int))) S := bin_mod_i _ _ _ (by omega)
      have c2 : cmpV .Gt (.int (ns.length : Int)) (.int 0) S = .ok (.bool true) S := by rw [cmp_gt_i, decide_eq_true (by omega)]
      refine go (19069 * (k : Int) + 9439 + (if ns[k % ns.length] < 0 then -ns[k % ns.length] else ns[k % ns.length]) % 2147483563 * 88463) ?_
      rw [e2]
      simp [u1, bin_add_i, ln, c1, c2, u7, sb, intV, DL.absV, u5, u3, -List.map_take, -List.map_drop, DL.execs, DL.exec, DL.ev, DL.evs, DL.evAll, Res.bind_ok, Res.out_ok, Res.test, Res.outB, asBool, Out.seq, bltV, isTV, isTy, gc_same, bindT, bindTs, wipeE]
    · have c2 : cmpV .Gt (.int (ns.length : Int)) (.int 0) S = .ok (.bool false) S := by rw [cmp_gt_i, decide_eq_false (by omega)]
      refine go (19069 * (k : Int) + 9439) ?_
      rw [e2]
      simp [u1, bin_add_i, ln, c1, c2, -List.map_take, -List.map_drop, DL.execs, DL.exec, DL.ev, DL.evs, DL.evAll, Res.bind_ok, Res.out_ok, Res.test, Res.outB, asBool, Out.seq, bltV, isTV, isTy, gc_same, bindT, bindTs, wipeE]
end
end K86

set_option linter.all false
set_option maxRecDepth 100000
namespace K86
open PySem DL L2
section
variable {h : H} {S : Store} {st : Stand} {n k : Nat}
/-- a guest is put to a place: st[:p] + (tuple(sorted(st[p] + ((a, b),))),) + st[p + 1:] -/
def xPut (xs xp xa xb : Ex) : Ex := .bin .Add false (.bin .Add false (.slc false xs (.c .none) xp) (.tup [(.blt .tuple false [(.blt .sorted false [(.bin .Add false (.sub xs xp) (.tup [(.tup [xa, xb])]))])])])) (.slc false xs (.bin .Add false xp (.c (.int 1))) (.c .none))
theorem put_ev {F : FS} {env : DL.Env} {xs xp xa xb : Ex} {p s : Nat} {t : Option Nat} (na : isAbs xp = false) (h1 : DL.ev F xs env S = .ok (standD st) S) (h2 : DL.ev F xp env S = .ok (nD p) S) (h3 : DL.ev F xa env S = .ok (nD s) S) (h4 : DL.ev F xb env S = .ok (oD t) S)
    (hp : p < st.length) (hl : st.length ≤ 1000) (few : (at_ st p).length ≤ 1000) : DL.ev F (xPut xs xp xa xb) env S = .ok (standD (st.set p (gsort (at_ st p ++ [(s, t)])))) S := by
  have b0 : binV .Add false (gsD (at_ st p)) (.tuple [gD (s, t)]) S = .ok (gsD (at_ st p ++ [(s, t)])) S := by
    have := bin_add_t (S := S) false ((at_ st p).map gD) [gD (s, t)] (by rw [sizeLine_eq]; simp; omega)
    have e : gsD (at_ st p ++ [(s, t)]) = .tuple ((at_ st p).map gD ++ [gD (s, t)]) := by simp [gsD]
    rw [e]
    exact this
  have hlen : (at_ st p ++ [(s, t)]).length ≤ 1001 := by simp; omega
  have so : bltV .sorted false [gsD (at_ st p ++ [(s, t)])] S = _ := sorted_g (d := gsD (at_ st p ++ [(s, t)])) (at_ st p ++ [(s, t)]) S rfl (by rw [sizeLine_eq]; omega)
  have sb : subV (standD st) (nD p) S = .ok (gsD (at_ st p)) S := sub_st hp S
  generalize at_ st p ++ [(s, t)] = L at *
  have s1 : slcV false (standD st) none (some (p : Int)) S = .ok (.tuple ((st.take p).map gsD)) S := by
    simp only [slcV, standD, cut_take gsD st p (by omega)]
  have s2 : slcV false (standD st) (some ((p : Int) + 1)) none S = .ok (.tuple ((st.drop (p + 1)).map gsD)) S := by
    have := cut_drop gsD st (p + 1) (by omega)
    simp only [slcV, standD]
    rw [← this]
    rfl
  have b1 : binV .Add false (.tuple ((st.take p).map gsD)) (.tuple [gsD (gsort L)]) S = .ok (.tuple ((st.take p).map gsD ++ [gsD (gsort L)])) S := bin_add_t _ _ _ (by rw [sizeLine_eq]; simp; omega)
  have b2 : binV .Add false (.tuple ((st.take p).map gsD ++ [gsD (gsort L)])) (.tuple ((st.drop (p + 1)).map gsD)) S = .ok (.tuple (((st.take p).map gsD ++ [gsD (gsort L)]) ++ (st.drop (p + 1)).map gsD)) S := bin_add_t _ _ _ (by rw [sizeLine_eq]; simp; omega)
  have e : PyData.tuple (((st.take p).map gsD ++ [gsD (gsort L)]) ++ (st.drop (p + 1)).map gsD) = standD (st.set p (gsort L)) := by
    unfold standD
    rw [List.set_eq_take_append_cons_drop, if_pos hp]
    simp
  rw [e] at b2
  have tp : PyData.tuple [nD s, oD t] = gD (s, t) := rfl
  have i1 : DL.ev F (.slc false xs (.c .none) xp) env S = .ok (.tuple ((st.take p).map gsD)) S := by
    show (DL.ev F xs env S).bind _ = _
    rw [h1]
    show (Res.bnd (isAbs xp) (DL.ev F xp env S)).bind (fun z S3 => slcV false (standD st) none z S3) = _
    rw [h2]
    exact s1
  have i2 : DL.ev F (.slc false xs (.bin .Add false xp (.c (.int 1))) (.c .none)) env S = .ok (.tuple ((st.drop (p + 1)).map gsD)) S := by
    have q : DL.ev F (.bin .Add false xp (.c (.int 1))) env S = .ok (.int ((p : Int) + 1)) S := ev_binR h2 ev_c rfl
    show (DL.ev F xs env S).bind _ = _
    rw [h1]
    show (Res.bnd false (DL.ev F (.bin .Add false xp (.c (.int 1))) env S)).bind (fun y S2 => (Res.bnd true (DL.ev F (.c .none) env S2)).bind fun z S3 => slcV false (standD st) y z S3) = _
    rw [q]
    exact s2
  have i0 : DL.ev F (.tup [xa, xb]) env S = .ok (gD (s, t)) S := by
    show (DL.evs F [xa, xb] env S).bind _ = _
    rw [evs_cons h3 (evs_cons h4 evs_nil), Res.bind_ok]
    simp [mkT, sizeLine_eq, tp]
  have i0' : DL.ev F (.tup [.tup [xa, xb]]) env S = .ok (.tuple [gD (s, t)]) S := by
    show (DL.evs F [.tup [xa, xb]] env S).bind _ = _
    rw [evs_cons i0 evs_nil, Res.bind_ok]
    simp [mkT, sizeLine_eq]
  have isb : DL.ev F (.sub xs xp) env S = .ok (gsD (at_ st p)) S := by
    show (DL.ev F xs env S).bind _ = _
    rw [h1, Res.bind_ok, h2, Res.bind_ok]
    exact sb
  have i3 : DL.ev F (.bin .Add false (.sub xs xp) (.tup [(.tup [xa, xb])])) env S = .ok (gsD L) S := ev_binR isb i0' b0
  have i4 := ev_blt1 (b := .tuple) (m := false) (ev_blt1 i3 so) (r := .ok (gsD (gsort L)) S) rfl
  have i5 : DL.ev F (.tup [(.blt .tuple false [(.blt .sorted false [(.bin .Add false (.sub xs xp) (.tup [(.tup [xa, xb])]))])])]) env S = .ok (.tuple [gsD (gsort L)]) S := by
    show (DL.evs _ _ _ _).bind _ = _
    rw [evs_cons i4 evs_nil, Res.bind_ok]
    simp [mkT, sizeLine_eq]
  exact ev_binR (ev_binR i1 i5 b1) i2 b2
def isMove : Row → Bool
  | .come _ _ => false
  | .move _ _ _ => true
theorem kind_move (r : Row) (S : Store) : cmpV .Eq (kind r) (.str "move") S = .ok (.bool (isMove r)) S := by
  cases r with
  | come s t =>
    have : PyData.eqv (.str "come") (.str "move") = false := by decide +kernel
    simp [kind, isMove, cmpV, eqOk, res, PyData.plain, PyData.depth, this]
  | move p g t => simp [kind, isMove, cmpV, eqOk, res, PyData.plain, PyData.depth, PyData.eqv]
/-- the law's own step -/
theorem next_eq (n : Nat) (ok : OkH h) (os : OkS h st) (srt : Srt st) (hS : lsts S = true) {r : Row} (e : okR h st r) : DL.run tab (n + 2) 38 [hD h, standD st, rowD r] S = .ok (standD (stepR h st r)) S := by
  rw [r__law_next]
  have fh := ok.few
  have hl := os.len
  have c := kind_move r S
  have c0 : DL.ev (DL.run tab (n + 1)) (.cmp .Eq (.sub (.v 2) (.c (.int 0))) (.c (.str "move"))) [some (hD h), some (standD st), some (rowD r), none] S = .ok (.bool (isMove r)) S :=
    ev_cmpR (ev_subR (ev_v rfl) ev_c (sub_r0 r S)) ev_c c
  cases r with
  | move p g t =>
    have t1 := law_behind_eq n ok os srt hS e
    have m1 : DL.ev (DL.run tab (n + 1)) (.sub (.v 2) (.c (.int 1))) [some (hD h), some (standD st), some (rowD (.move p g t)), none] S = .ok (.int (p : Int)) S := ev_subR (ev_v rfl) ev_c rfl
    have m2 : DL.ev (DL.run tab (n + 1)) (.sub (.v 2) (.c (.int 2))) [some (hD h), some (standD st), some (rowD (.move p g t)), none] S = .ok (gD g) S := ev_subR (ev_v rfl) ev_c rfl
    have m3 : DL.ev (DL.run tab (n + 1)) (.sub (.v 2) (.c (.int 3))) [some (hD h), some (standD st), some (rowD (.move p g t)), none] S = .ok (oD t) S := ev_subR (ev_v rfl) ev_c rfl
    have mt : DL.ev (DL.run tab (n + 1)) (.tup [(.sub (.v 2) (.c (.int 1))), (.sub (.v 2) (.c (.int 2)))]) [some (hD h), some (standD st), some (rowD (.move p g t)), none] S = .ok (moveD p g) S := by
      show (DL.evs _ _ _ _).bind _ = _
      rw [evs_cons m1 (evs_cons m2 evs_nil), Res.bind_ok]
      simp [mkT, sizeLine_eq, moveD]
    rw [b__law_next, execs_rt (exec_ifT c0 (execs_ret (ev_call (evs_cons (ev_v rfl) (evs_cons (ev_v rfl) (evs_cons mt (evs_cons m3 evs_nil)))) t1))), gc_same]
  | come s t =>
    obtain ⟨e1, e2, e3⟩ := e
    have hp : plc h s < st.length := by rw [os.len]; exact ok.pl s e1
    have e0 : stepR h st (.come s t) = st.set (plc h s) (gsort (at_ st (plc h s) ++ [(s, t)])) := rfl
    have a1 : DL.ev (DL.run tab (n + 1)) (.sub (.sub (.sub (.v 0) (.c (.int 1))) (.sub (.v 2) (.c (.int 1)))) (.c (.int 0))) [some (hD h), some (standD st), some (rowD (.come s t)), none] S = .ok (nD (plc h s)) S :=
      ev_subR (ev_subR (ev_subR (ev_v rfl) ev_c rfl) (ev_subR (ev_v rfl) ev_c rfl) (sub_stg e1 S)) ev_c rfl
    have a2 := put_ev (F := DL.run tab (n + 1)) (S := S) (st := st) (env := [some (hD h), some (standD st), some (rowD (.come s t)), some (nD (plc h s))]) (xs := .v 1) (xp := .v 3) (xa := .sub (.v 2) (.c (.int 1))) (xb := .sub (.v 2) (.c (.int 2))) (p := plc h s) (s := s) (t := t) rfl (ev_v rfl) (ev_v rfl) (ev_subR (ev_v rfl) ev_c rfl) (ev_subR (ev_v rfl) ev_c rfl) hp (by omega) (os.few _)
    have eb : b__law_next = [.ifs (.cmp .Eq (.sub (.v 2) (.c (.int 0))) (.c (.str "move"))) [.ret (.call 27 [(.v 0), (.v 1), (.tup [(.sub (.v 2) (.c (.int 1))), (.sub (.v 2) (.c (.int 2)))]), (.sub (.v 2) (.c (.int 3)))] [])] [],
      .asg (.nm 3) (.sub (.sub (.sub (.v 0) (.c (.int 1))) (.sub (.v 2) (.c (.int 1)))) (.c (.int 0))), .ret (xPut (.v 1) (.v 3) (.sub (.v 2) (.c (.int 1))) (.sub (.v 2) (.c (.int 2))))] := rfl
    rw [eb, e0, execs_cons (exec_ifF c0 execs_nil) (execs_cons (exec_asg a1 rfl) (execs_ret a2)), gc_same]
end
end K86

set_option linter.all false
set_option maxRecDepth 100000
namespace K86
open PySem DL L2
section
variable {h : H} {S : Store} {st : Stand} {n k : Nat}
def xEmpty : Ex := .blt .tuple false [(.comp false [4] (.nm 4) .val [(.sub (.v 0) (.c (.int 0)))] [] (.tup []))]
theorem xempty_ev (F : FS) (ok : OkH h) (x1 x2 x3 x5 x6) (S : Store) : DL.ev F xEmpty [some (hD h), x1, x2, x3, none, x5, x6] S = .ok (standD (empt h)) S := by
  have few := ok.few
  have c : DL.ev F (.comp false [4] (.nm 4) .val [(.sub (.v 0) (.c (.int 0)))] [] (.tup [])) [some (hD h), x1, x2, x3, none, x5, x6] S = .ok (.list (h.seats.map fun _ => gsD [])) S := by
    refine ev_comp (vs := [.tuple (h.seats.map nD)]) (items := h.seats.map nD) (g := none) (S1 := S) (S2 := S) ?_ rfl ?_
    · simp [sub_h0, -List.map_take, -List.map_drop, DL.execs, DL.exec, DL.ev, DL.evs, DL.evAll, Res.bind_ok, Res.out_ok, Res.test, Res.outB, asBool, Out.seq, bltV, isTV, isTy, gc_same, bindT, bindTs, wipeE]
    · refine comp_map (enc := nD) (v := fun _ => gsD []) h.seats rfl (fun x _ => ?_) (by rw [sizeLine_eq]; omega)
      exact compF_some (env' := [some (hD h), x1, x2, x3, some (nD x), x5, x6]) rfl rfl (by simp [mkT, gsD, -List.map_take, -List.map_drop, DL.execs, DL.exec, DL.ev, DL.evs, DL.evAll, Res.bind_ok, Res.out_ok, Res.test, Res.outB, asBool, Out.seq, bltV, isTV, isTy, gc_same, bindT, bindTs, wipeE])
  have e : standD (empt h) = .tuple (h.seats.map fun _ => gsD []) := by
    simp [standD, empt]
  rw [e]
  exact ev_blt1 c (r := .ok (.tuple (h.seats.map fun _ => gsD [])) S) rfl
def lookB : List Sm := [
    .asg (.nm 3) (.call 38 [(.v 0), (.v 3), (.v 6)] []),
    .ifs (.and (.or (.cmp .Eq (.bin .Mod false (.blt .int false [(.v 5)]) (.v 2)) (.c (.int 0))) (.cmp .Eq (.bin .Add false (.v 5) (.c (.int 1))) (.blt .len false [(.v 1)]))) (.not (.call 21 [(.call 14 [(.v 0), (.blt .tuple false [(.slc false (.v 1) (.c .none) (.bin .Add false (.v 5) (.c (.int 1))))])] []), (.v 3)] []))) [
      .ret (.c (.bool false))] []]
theorem ev_orT {F : FS} {env : DL.Env} {S S1 : Store} {a b : Ex} (h : DL.ev F a env S = .ok (.bool true) S1) : DL.ev F (.or a b) env S = .ok (.bool true) S1 := by
  show (DL.ev F a env S).test _ = _
  rw [h]
  rfl
theorem ev_andF {F : FS} {env : DL.Env} {S S1 : Store} {a b : Ex} (h : DL.ev F a env S = .ok (.bool false) S1) : DL.ev F (.and a b) env S = .ok (.bool false) S1 := by
  show (DL.ev F a env S).test _ = _
  rw [h]
  rfl
theorem ev_andT {F : FS} {env : DL.Env} {S S1 : Store} {a b : Ex} {r : Res D} (h : DL.ev F a env S = .ok (.bool true) S1) (h2 : DL.ev F b env S1 = r) : DL.ev F (.and a b) env S = r := by
  show (DL.ev F a env S).test _ = _
  rw [h]
  exact h2
theorem right85_eq (n : Nat) (ok : OkH h) (hS : lsts S = true) {rs : List Row} (hr : rs.length ≤ 1000) (e : okRs h (empt h) rs) {m : Int} (hm : 0 < m) :
    DL.run tab (n + 9) 39 [hD h, .list (rs.map rowD), .int m] S = .ok (.bool true) S := by
  rw [r__law_right_k85]
  have z : (rs.map rowD).length ≤ sizeLine := by rw [sizeLine_eq, List.length_map]; omega
  have e0 : b__law_right_k85 = [.asg (.nm 3) xEmpty,
    .ifs (.or (.not (.call 21 [(.call 14 [(.v 0), (.tup [])] []), (.v 3)] [])) (.not (.call 21 [(.call 36 [(.v 0), (.blt .tuple false [(.v 1)])] []), (.blt .tuple false [(.v 1)])] []))) [
    .ret (.c (.bool false))] [], .frl (.tup [(.nm 5), (.nm 6)]) .enum [(.v 1)] lookB, .ret (.c (.bool true))] := rfl
  have t1 := replay_eq (n + 1) ok hS (rs := []) (d := .tuple []) (.inl rfl) trivial
  have t2 := same_refl (n + 7) (standD (empt h)) S (smp_stand _) (Nat.le_trans (hgt_stand _) (by omega))
  have t3 := check_eq (n + 1) ok hS e
  have t4 := same_refl (n + 7) (.tuple (rs.map rowD)) S (smp_rows rs) (Nat.le_trans (hgt_rows rs) (by omega))
  have r0 : runR h (empt h) [] = empt h := rfl
  rw [r0] at t1
  have tr : ∀ (env : DL.Env), env[1]? = some (some (.list (rs.map rowD))) → DL.ev (DL.run tab (n + 8)) (.blt .tuple false [(.v 1)]) env S = .ok (.tuple (rs.map rowD)) S := fun env he => ev_blt1 (ev_v he) rfl
  have c1 : ∀ x4 x5 x6, DL.ev (DL.run tab (n + 8)) (.or (.not (.call 21 [(.call 14 [(.v 0), (.tup [])] []), (.v 3)] [])) (.not (.call 21 [(.call 36 [(.v 0), (.blt .tuple false [(.v 1)])] []), (.blt .tuple false [(.v 1)])] []))) [some (hD h), some (.list (rs.map rowD)), some (.int m), some (standD (empt h)), x4, x5, x6] S = .ok (.bool false) S := fun x4 x5 x6 =>
    ev_orF (ev_notR (b := true) (ev_call (evs_cons (ev_call (evs_cons (ev_v rfl) (evs_cons (d := .tuple []) (by simp [mkT, -List.map_take, -List.map_drop, DL.execs, DL.exec, DL.ev, DL.evs, DL.evAll, Res.bind_ok, Res.out_ok, Res.test, Res.outB, asBool, Out.seq, bltV, isTV, isTy, gc_same, bindT, bindTs, wipeE]) evs_nil)) t1) (evs_cons (ev_v rfl) evs_nil)) t2))
      (ev_notR (b := true) (ev_call (evs_cons (ev_call (evs_cons (ev_v rfl) (evs_cons (tr _ rfl) evs_nil)) t3) (evs_cons (tr _ rfl) evs_nil)) t4))
  obtain ⟨env', S', e1, y3, y5, y6, q0, q1⟩ := forLoop_inv (enc := rowN) (g := none) (S0 := S) (f := bodyF (DL.run tab (n + 8)) (.tup [(.nm 5), (.nm 6)]) lookB)
    (fun l env S' => ∃ y3 y5 y6, env = [some (hD h), some (.list (rs.map rowD)), some (.int m), y3, none, y5, y6] ∧ S' = S ∧ ∃ done, rs = done ++ l.map (·.1) ∧ l = (l.map (·.1)).zipIdx done.length ∧ y3 = some (standD (runR h (empt h) done))) (fun _ _ _ _ => rfl)
    (fun x l env S' ⟨y3, y5, y6, q0, q1, done, q2, q3, q4⟩ => by
      subst q0 q1 q4
      obtain ⟨r, i⟩ := x
      simp only [List.map_cons, List.zipIdx_cons, List.cons.injEq, Prod.mk.injEq, true_and] at q3
      obtain ⟨rfl, q3⟩ := q3
      simp only [List.map_cons] at q2
      have e' := e
      rw [q2] at e'
      obtain ⟨k1, k2⟩ := okRs_app e'
      have os := okS_run ok (okS_empt h) k1
      have srt := srt_run (h := h) done (srt0 h)
      have s1 := next_eq (n + 6) ok os srt hS k2.1
      have er : stepR h (runR h (empt h) done) r = runR h (empt h) (done ++ [r]) := (runR_snoc done r).symm
      rw [er] at s1
      have okd : okRs h (empt h) (done ++ [r]) := okRs_snoc k1 k2.1
      have tk : rs.take (done.length + 1) = done ++ [r] := by
        rw [q2, List.take_append, List.take_of_length_le (by omega), show done.length + 1 - done.length = 1 by omega]
        rfl
      have s2 := replay_eq (n + 1) ok hS (d := .tuple ((done ++ [r]).map rowD)) (.inl rfl) okd
      have s3 := same_refl (n + 7) (standD (runR h (empt h) (done ++ [r]))) S' (smp_stand _) (Nat.le_trans (hgt_stand _) (by omega))
      have hd : done.length + 1 ≤ rs.length := by rw [q2]; simp
      refine ⟨_, _, bodyF_eq (env2 := [some (hD h), some (.list (rs.map rowD)), some (.int m), some (standD (runR h (empt h) done)), none, some (.int (done.length : Int)), some (rowD r)]) (o := .nx [some (hD h), some (.list (rs.map rowD)), some (.int m), some (standD (runR h (empt h) (done ++ [r]))), none, some (.int (done.length : Int)), some (rowD r)] S') rfl ?_, _, _, _, rfl, rfl, done ++ [r], by rw [q2]; simp, ?_, rfl⟩
      · refine execs_cons (exec_asg (ev_call (evs_cons (ev_v rfl) (evs_cons (ev_v rfl) (evs_cons (ev_v rfl) evs_nil))) s1) rfl) (execs_cons (exec_ifF (S1 := S') ?_ execs_nil) execs_nil)
        generalize hst : runR h (empt h) (done ++ [r]) = st2 at *
        have sl : DL.ev (DL.run tab (n + 8)) (.blt .tuple false [(.slc false (.v 1) (.c .none) (.bin .Add false (.v 5) (.c (.int 1))))]) [some (hD h), some (.list (rs.map rowD)), some (.int m), some (standD st2), none, some (.int (done.length : Int)), some (rowD r)] S' = .ok (.tuple ((done ++ [r]).map rowD)) S' := by
          have ct := cut_take rowD rs (done.length + 1) hd
          rw [tk] at ct
          have sv : slcV false (.list (rs.map rowD)) none (some ((done.length : Int) + 1)) S' = .ok (.list ((done ++ [r]).map rowD)) S' := by
            have ct' : cutD (rs.map rowD) none (some ((done.length : Int) + 1)) = (done ++ [r]).map rowD := ct
            have zz : ((done ++ [r]).map rowD).length ≤ sizeLine := by rw [sizeLine_eq, List.length_map, List.length_append]; simp; omega
            show mkL false (cutD (rs.map rowD) none (some ((done.length : Int) + 1))) S' = _
            rw [ct']
            simp only [mkL, if_pos zz, Bool.false_eq_true, if_false]
          refine ev_blt1 (d := .list ((done ++ [r]).map rowD)) (S1 := S') ?_ rfl
          exact sv
        have cond : DL.ev (DL.run tab (n + 8)) (.not (.call 21 [(.call 14 [(.v 0), (.blt .tuple false [(.slc false (.v 1) (.c .none) (.bin .Add false (.v 5) (.c (.int 1))))])] []), (.v 3)] [])) [some (hD h), some (.list (rs.map rowD)), some (.int m), some (standD st2), none, some (.int (done.length : Int)), some (rowD r)] S' = .ok (.bool false) S' :=
          ev_notR (b := true) (ev_call (evs_cons (ev_call (evs_cons (ev_v rfl) (evs_cons sl evs_nil)) s2) (evs_cons (ev_v rfl) evs_nil)) s3)
        have o1 : DL.ev (DL.run tab (n + 8)) (.cmp .Eq (.bin .Mod false (.blt .int false [(.v 5)]) (.v 2)) (.c (.int 0))) [some (hD h), some (.list (rs.map rowD)), some (.int m), some (standD st2), none, some (.int (done.length : Int)), some (rowD r)] S' = .ok (.bool (decide ((done.length : Int) % m = 0))) S' :=
          ev_cmpR (ev_binR (ev_blt1 (ev_v rfl) rfl) (ev_v rfl) (bin_mod_i _ _ _ hm)) ev_c (cmp_eq_i _ _)
        have o2 : DL.ev (DL.run tab (n + 8)) (.cmp .Eq (.bin .Add false (.v 5) (.c (.int 1))) (.blt .len false [(.v 1)])) [some (hD h), some (.list (rs.map rowD)), some (.int m), some (standD st2), none, some (.int (done.length : Int)), some (rowD r)] S' = .ok (.bool (decide ((done.length : Int) + 1 = (rs.length : Int)))) S' :=
          ev_cmpR (ev_binR (ev_v rfl) ev_c rfl) (ev_blt1 (ev_v rfl) (show lenV [.list (rs.map rowD)] S' = .ok (.int (rs.length : Int)) S' by simp [lenV, seqOf])) (cmp_eq_i _ _)
        by_cases b1 : (done.length : Int) % m = 0
        · rw [decide_eq_true b1] at o1
          exact ev_andT (ev_orT o1) cond
        · rw [decide_eq_false b1] at o1
          have o3 := ev_orF o1 o2
          by_cases b2 : (done.length : Int) + 1 = (rs.length : Int)
          · rw [decide_eq_true b2] at o3
            exact ev_andT o3 cond
          · rw [decide_eq_false b2] at o3
            exact ev_andF o3
      · rw [List.length_append]
        exact q3)
    rs.zipIdx [some (hD h), some (.list (rs.map rowD)), some (.int m), some (standD (empt h)), none, none, none] S ⟨_, _, _, rfl, rfl, [], by rw [map_zip]; rfl, by rw [map_zip]; rfl, rfl⟩
  obtain ⟨q1, _⟩ := q1
  subst q0 q1
  have l1 := exec_frl (F := DL.run tab (n + 8)) (S := S') (S1 := S') (k := .enum) (its := [.v 1]) (vs := [.list (rs.map rowD)]) (evs_cons (ev_v rfl) evs_nil) (show enumI [.list (rs.map rowD)] _ = _ by simp only [enumI, seqOf, enum_rows]; rfl) e1
  rw [e0, execs_cons (exec_asg (xempty_ev _ ok _ _ _ _ _ _) rfl) (execs_cons (exec_ifF (c1 _ _ _) execs_nil) (execs_cons l1 (execs_ret ev_c))), gc_same]
end
end K86

set_option linter.all false
set_option maxRecDepth 100000
namespace K86
open PySem DL L2
def ward : H := ⟨[1, 2, 1], [(0, [some 1, some 2]), (1, [some 3]), (2, [none, some 1]), (0, [none])]⟩
theorem ok_ward : OkH ward := by
  refine ⟨by decide, fun s hs t ht => ?_, by decide, by decide, fun p => ?_⟩
  · have hs' : s < 4 := hs
    match s, hs' with
    | 0, _ => 
      have h2 : some t ∈ [some 1, some 2] := ht
      simp at h2
      show t < 4
      omega
    | 1, _ =>
      have h2 : some t ∈ [some 3] := ht
      simp at h2
      show t < 4
      omega
    | 2, _ =>
      have h2 : some t ∈ [none, some 1] := ht
      simp at h2
      show t < 4
      omega
    | 3, _ =>
      have h2 : some t ∈ ([none] : List (Option Nat)) := ht
      simp at h2
  · match p with
    | 0 => decide
    | 1 => decide
    | 2 => decide
    | p + 3 => exact Nat.zero_le _
/-! sorting by insertion: the kernel can run it -/
def insB {α : Type} (le : α → α → Bool) (x : α) : List α → List α
  | [] => [x]
  | y :: r => if le x y = true then x :: y :: r else y :: insB le x r
def isB {α : Type} (le : α → α → Bool) : List α → List α
  | [] => []
  | x :: r => insB le x (isB le r)
theorem insB_perm {α : Type} (le : α → α → Bool) (x : α) : ∀ l : List α, (insB le x l).Perm (x :: l)
  | [] => .refl _
  | y :: r => by
    unfold insB
    split
    · exact .refl _
    · exact ((insB_perm le x r).cons y).trans (.swap x y r)
theorem isB_perm {α : Type} (le : α → α → Bool) : ∀ l : List α, (isB le l).Perm l
  | [] => .refl _
  | x :: r => (insB_perm le x _).trans ((isB_perm le r).cons x)
theorem insB_pw {α : Type} {le : α → α → Bool} (tr : ∀ a b c, le a b = true → le b c = true → le a c = true) (to : ∀ a b, (le a b || le b a) = true) (x : α) : ∀ l : List α, l.Pairwise (fun a b => le a b = true) → (insB le x l).Pairwise (fun a b => le a b = true)
  | [], _ => .cons (fun _ h => nomatch h) .nil
  | y :: r, h => by
    obtain ⟨h1, h2⟩ := List.pairwise_cons.mp h
    unfold insB
    split
    · rename_i c
      refine .cons (fun z hz => ?_) h
      rcases List.mem_cons.mp hz with rfl | hz
      · exact c
      · exact tr _ _ _ c (h1 z hz)
    · rename_i c
      refine .cons (fun z hz => ?_) (insB_pw tr to x r h2)
      rcases List.mem_cons.mp ((insB_perm le x r).mem_iff.mp hz) with rfl | hz
      · have := to z y
        simp only [Bool.or_eq_true] at this
        rcases this with q | q
        · exact absurd q c
        · exact q
      · exact h1 z hz
theorem isB_pw {α : Type} {le : α → α → Bool} (tr : ∀ a b c, le a b = true → le b c = true → le a c = true) (to : ∀ a b, (le a b || le b a) = true) : ∀ l : List α, (isB le l).Pairwise (fun a b => le a b = true)
  | [] => .nil
  | x :: r => insB_pw tr to x _ (isB_pw tr to r)
theorem gsort_is (l : List G) : gsort l = isB gle l :=
  List.Perm.eq_of_pairwise (fun a b _ _ => gle_anti) (gsort_pw l) (isB_pw gle_trans gle_total l) ((gsort_perm l).trans (isB_perm gle l).symm)
theorem lsort_is (l : List LG) : lsort l = isB lle l :=
  List.Perm.eq_of_pairwise (fun a b _ _ => lle_anti) (List.pairwise_mergeSort lle_trans lle_total l) (isB_pw lle_trans lle_total l) ((List.mergeSort_perm l lle).trans (isB_perm lle l).symm)
/-- a row's step, by insertion -/
def stepI (h : H) (st : Stand) : Row → Stand
  | .come s t => st.set (plc h s) (isB gle (at_ st (plc h s) ++ [(s, t)]))
  | .move p g t => match g.2 with
    | none => st.set p (isB gle ((at_ st p).erase g))
    | some s => (st.set p (isB gle ((at_ st p).erase g))).set (plc h s) (isB gle (at_ (st.set p (isB gle ((at_ st p).erase g))) (plc h s) ++ [(s, t)]))
theorem stepI_eq (h : H) (st : Stand) (r : Row) : stepR h st r = stepI h st r := by
  cases r with
  | come s t => simp only [stepR, stepI, gsort_is]
  | move p g t =>
    obtain ⟨g1, g2⟩ := g
    cases g2 <;> simp only [stepR, stepI, gsort_is]
theorem okR_come {h : H} {st : Stand} {s : Nat} {t : Option Nat} (c : (decide (s < h.stages.length) && (decide (t ∈ nxs h s) && decide ((at_ st (plc h s)).length < seat h (plc h s)))) = true) : okR h st (.come s t) := by
  simp only [Bool.and_eq_true, decide_eq_true_eq] at c
  exact c
theorem okR_mv {h : H} {st : Stand} {p : Nat} {g : G} {t : Option Nat} (c : (decide (p < st.length) && ((decide (g.1 < h.stages.length) && (decide (plc h g.1 = p) && decide (g.2 ∈ nxs h g.1))) && (decide (g ∈ at_ st p) && (roomFor h st g.2 && decide (t ∈ tells h g.2))))) = true) : okR h st (.move p g t) := by
  simp only [Bool.and_eq_true, decide_eq_true_eq] at c
  exact c
def xWard : Ex := .tup [(.tup [(.c (.int 1)), (.c (.int 2)), (.c (.int 1))]), (.tup [(.tup [(.c (.int 0)), (.tup [(.c (.int 1)), (.c (.int 2))])]), (.tup [(.c (.int 1)), (.tup [(.c (.int 3))])]), (.tup [(.c (.int 2)), (.tup [(.neg (.c (.int 1))), (.c (.int 1))])]), (.tup [(.c (.int 0)), (.tup [(.neg (.c (.int 1)))])])])]
section
variable {F : FS} {env : DL.Env} {S : Store}
theorem xward_ev : DL.ev F xWard env S = .ok (hD ward) S := by
  simp [xWard, mkT, sizeLine_eq, hD, ward, stgD, nD, oD, nI, -List.map_take, -List.map_drop, DL.execs, DL.exec, DL.ev, DL.evs, DL.evAll, Res.bind_ok, Res.out_ok, Res.test, Res.outB, asBool, Out.seq, bltV, isTV, isTy, gc_same, bindT, bindTs, wipeE]
theorem gc_bool (b : Bool) (S : Store) : DL.gc true [] (.rt (.bool b) S) = .ok (.bool b) [] := by
  simp [DL.gc, handOut, locOf, below, keepable]
def xN : Ex := .blt .max2 false [(.c (.int 4)), (.blt .min2 false [(.blt .len false [(.v 0)]), (.c (.int 8))])]
theorem xn_ev (ns : List Int) (r : List (Option D)) : ∃ J : Nat, J ≤ 8 ∧ DL.ev F xN (some (ro ns) :: r) S = .ok (nD J) S := by
  have ln : lenV [ro ns] S = .ok (.int (ns.length : Int)) S := by simp [lenV, seqOf]
  refine ⟨if ((if 8 < ns.length then 8 else ns.length) > 4) then (if 8 < ns.length then 8 else ns.length) else 4, ?_, ?_⟩
  · repeat' split
    all_goals omega
  have e1 : min2V [.int (ns.length : Int), .int 8] S = .ok (nD (if 8 < ns.length then 8 else ns.length)) S := by
    simp only [min2V, nD]
    by_cases c : 8 < ns.length
    · rw [if_pos c, if_pos (by omega)]; rfl
    · rw [if_neg c, if_neg (by omega)]
  refine ev_bltR (evs_cons ev_c (evs_cons (ev_bltR (evs_cons (ev_blt1 (ev_v rfl) ln) (evs_cons ev_c evs_nil)) e1) evs_nil)) ?_
  generalize (if 8 < ns.length then 8 else ns.length) = j
  show max2V [.int 4, .int (j : Int)] S = _
  simp only [max2V, nD]
  by_cases c : j > 4
  · rw [if_pos c, if_pos (by omega)]
  · rw [if_neg c, if_neg (by omega)]; rfl
end
end K86

set_option linter.all false
set_option maxRecDepth 100000
namespace K86
open PySem DL L2
def wrows5 : List Row := [.come 0 (some 1), .move 0 (0, some 1) (some 3), .come 0 (some 2), .come 1 (some 3), .move 0 (0, some 2) none, .move 2 (2, none) none, .move 1 (1, some 3) none, .move 0 (3, none) none]
def arows5 : List Row := [.come 1 (some 3), .come 1 (some 3), .move 1 (1, some 3) none]
theorem ok_wrows5 : okRs ward (empt ward) wrows5 :=
  ⟨okR_come (by (try simp only [stepI_eq]); decide +kernel), okR_mv (by (try simp only [stepI_eq]); decide +kernel), okR_come (by (try simp only [stepI_eq]); decide +kernel), okR_come (by (try simp only [stepI_eq]); decide +kernel), okR_mv (by (try simp only [stepI_eq]); decide +kernel), okR_mv (by (try simp only [stepI_eq]); decide +kernel), okR_mv (by (try simp only [stepI_eq]); decide +kernel), okR_mv (by (try simp only [stepI_eq]); decide +kernel), trivial⟩
theorem ok_arows5 : okRs ward (empt ward) arows5 :=
  ⟨okR_come (by (try simp only [stepI_eq]); decide +kernel), okR_come (by (try simp only [stepI_eq]); decide +kernel), okR_mv (by (try simp only [stepI_eq]); decide +kernel), trivial⟩
def xWrows5 : Ex := .lst false [(.tup [(.c (.str "come")), (.c (.int 0)), (.c (.int 1))]), (.tup [(.c (.str "move")), (.c (.int 0)), (.tup [(.c (.int 0)), (.c (.int 1))]), (.c (.int 3))]), (.tup [(.c (.str "come")), (.c (.int 0)), (.c (.int 2))]), (.tup [(.c (.str "come")), (.c (.int 1)), (.c (.int 3))]), (.tup [(.c (.str "move")), (.c (.int 0)), (.tup [(.c (.int 0)), (.c (.int 2))]), (.neg (.c (.int 1)))]), (.tup [(.c (.str "move")), (.c (.int 2)), (.tup [(.c (.int 2)), (.neg (.c (.int 1)))]), (.neg (.c (.int 1)))]), (.tup [(.c (.str "move")), (.c (.int 1)), (.tup [(.c (.int 1)), (.c (.int 3))]), (.neg (.c (.int 1)))]), (.tup [(.c (.str "move")), (.c (.int 0)), (.tup [(.c (.int 3)), (.neg (.c (.int 1)))]), (.neg (.c (.int 1)))])]
def xArows5 : Ex := .lst false [(.tup [(.c (.str "come")), (.c (.int 1)), (.c (.int 3))]), (.tup [(.c (.str "come")), (.c (.int 1)), (.c (.int 3))]), (.tup [(.c (.str "move")), (.c (.int 1)), (.tup [(.c (.int 1)), (.c (.int 3))]), (.neg (.c (.int 1)))])]
section
variable {F : FS} {env : DL.Env} {S : Store} {n k : Nat}
theorem xwrows5_ev : DL.ev F xWrows5 env S = .ok (.list (wrows5.map rowD)) S := by
  simp [xWrows5, mkT, mkL, sizeLine_eq, wrows5, rowD, gD, oD, nI, -List.map_take, -List.map_drop, DL.execs, DL.exec, DL.ev, DL.evs, DL.evAll, Res.bind_ok, Res.out_ok, Res.test, Res.outB, asBool, Out.seq, bltV, isTV, isTy, gc_same, bindT, bindTs, wipeE]
theorem xarows5_ev : DL.ev F xArows5 env S = .ok (.list (arows5.map rowD)) S := by
  simp [xArows5, mkT, mkL, sizeLine_eq, arows5, rowD, gD, oD, nI, -List.map_take, -List.map_drop, DL.execs, DL.exec, DL.ev, DL.evs, DL.evAll, Res.bind_ok, Res.out_ok, Res.test, Res.outB, asBool, Out.seq, bltV, isTV, isTy, gc_same, bindT, bindTs, wipeE]
def xHouse5 : Ex := .ite (.cmp .NotEq (.v 3) (.c (.int 2))) (.call 23 [(.v 4), (.bin .Add false (.c (.int 2)) (.call 19 [(.v 4), (.c (.int 4))] [])), (.c (.int 3)), (.bin .Add false (.c (.int 2)) (.call 19 [(.v 4), (.c (.int 8))] []))] []) (.call 23 [(.v 4), (.c (.int 10)), (.c (.int 6)), (.c (.int 24))] [])
def xRows5 : Ex := .call 28 [(.v 4), (.v 5), (.ite (.cmp .Eq (.v 3) (.c (.int 2))) (.c (.int 200)) (.call 20 [(.v 4), (.lst false [(.c (.int 5)), (.c (.int 12)), (.c (.int 30))])] [])), (.c (.int 40))] []
def lbody5 : List Sm := [
    .asg (.nm 4) (.call 37 [(.v 0), (.v 3)] []),
    .asg (.nm 5) xHouse5,
    .ifs (.not (.call 39 [(.v 5), xRows5, (.ite (.cmp .Eq (.v 3) (.c (.int 2))) (.c (.int 40)) (.c (.int 1)))] [])) [
      .ret (.c (.bool false))] []]
theorem xhouse5_ev (n : Nat) (hS : DL.lsts S = true) (HB : Bx S k S) (j : Nat) (x0 x1 x2 x5) :
    ∃ (h : H) (S' : Store) (P C : Nat), DL.ev (DL.run tab (n + 4)) xHouse5 [x0, x1, x2, some (nD j), some (rf k), x5] S = .ok (hD h) S' ∧ Bx S k S' ∧ Drawn h P C ∧ 1 ≤ P := by
  have c := two_ne j S
  by_cases hj : j = 2
  · obtain ⟨h, S', t, H', dr⟩ := house_eq n hS HB (P := 10) (M := 6) (C := 24) (by omega) (by omega) (by omega) (by omega) (by omega)
    rw [decide_eq_false (fun q => q hj)] at c
    refine ⟨h, S', 10, 24, ?_, H', dr, by omega⟩
    exact ev_iteF (ev_cmpR (ev_v rfl) ev_c c) (ev_call (evs_cons (ev_v rfl) (evs_cons ev_c (evs_cons ev_c (evs_cons ev_c evs_nil)))) t)
  · obtain ⟨d, S1, t1, H1, d0, d1⟩ := take_eq (n + 3) HB hS (m := 4) (by omega) (by omega)
    obtain ⟨d, rfl⟩ : ∃ i : Nat, d = (i : Int) := ⟨d.toNat, by omega⟩
    obtain ⟨e, S2, t2, H2, e0, e1⟩ := take_eq (n + 3) H1 hS (m := 8) (by omega) (by omega)
    obtain ⟨e, rfl⟩ : ∃ i : Nat, e = (i : Int) := ⟨e.toNat, by omega⟩
    obtain ⟨h, S', t, H', dr⟩ := house_eq n (H2.lsts hS) H2.re (P := 2 + d) (M := 3) (C := 2 + e) (by omega) (by omega) (by omega) (by omega) (by omega)
    rw [decide_eq_true hj] at c
    refine ⟨h, S', 2 + d, 2 + e, ?_, H2.trans H', dr, by omega⟩
    have u : ∀ i : Nat, nD (2 + i) = .int (2 + (i : Int)) := fun i => by simp [nD]
    rw [u, u] at t
    exact ev_iteT (ev_cmpR (ev_v rfl) ev_c c) (ev_call (evs_cons (ev_v rfl) (evs_cons (ev_binR ev_c (ev_call (evs_cons (ev_v rfl) (evs_cons ev_c evs_nil)) t1) rfl) (evs_cons ev_c (evs_cons (ev_binR ev_c (ev_call (evs_cons (ev_v rfl) (evs_cons ev_c evs_nil)) t2) rfl) evs_nil)))) t)
theorem xrows5_ev {h : H} (n : Nat) (hS : DL.lsts S = true) (HB : Bx S k S) (ok : OkH h) (dr : ∀ s, s < h.stages.length → nxs h s ≠ [] ∧ (nxs h s).length ≤ 1000) (j : Nat) (x0 x1 x2) :
    ∃ (rs : List Row) (S' : Store), DL.ev (DL.run tab (n + 3)) xRows5 [x0, x1, x2, some (nD j), some (rf k), some (hD h)] S = .ok (.list (rs.map rowD)) S' ∧ Bx S k S' ∧ okRs h (empt h) rs ∧ rs.length ≤ 200 := by
  have c := two_eq j S
  have key : ∃ (M : Nat) (S1 : Store), DL.ev (DL.run tab (n + 3)) (.ite (.cmp .Eq (.v 3) (.c (.int 2))) (.c (.int 200)) (.call 20 [(.v 4), (.lst false [(.c (.int 5)), (.c (.int 12)), (.c (.int 30))])] [])) [x0, x1, x2, some (nD j), some (rf k), some (hD h)] S = .ok (nD M) S1 ∧ Bx S k S1 ∧ M ≤ 200 := by
    by_cases hj : j = 2
    · rw [decide_eq_true hj] at c
      exact ⟨200, S, ev_iteT (ev_cmpR (ev_v rfl) ev_c c) ev_c, HB, by omega⟩
    · rw [decide_eq_false hj] at c
      obtain ⟨x, S1, hx, t, H1⟩ := pick_eq (f := nD) (n + 1) (fun _ => rfl) (fun _ => rfl) (l := [5, 12, 30]) (by simp) (by simp) (.inl rfl) HB hS
      refine ⟨x, S1, ev_iteF (ev_cmpR (ev_v rfl) ev_c c) (ev_call (evs_cons (ev_v rfl) (evs_cons (d := .list ([5, 12, 30].map nD)) (S1 := S) ?_ evs_nil)) t), H1, ?_⟩
      · simp [mkL, sizeLine_eq, nD, -List.map_take, -List.map_drop, DL.execs, DL.exec, DL.ev, DL.evs, DL.evAll, Res.bind_ok, Res.out_ok, Res.test, Res.outB, asBool, Out.seq, bltV, isTV, isTy, gc_same, bindT, bindTs, wipeE]
      · simp only [List.mem_cons, List.not_mem_nil, or_false] at hx
        omega
  obtain ⟨M, S1, e1, H1, hM⟩ := key
  obtain ⟨rs, S2, t, H2, okr, hz⟩ := rows_eq n ok dr (H1.lsts hS) H1.re (M := M) (by omega) 40
  exact ⟨rs, S2, ev_call (evs_cons (ev_v rfl) (evs_cons (ev_v rfl) (evs_cons e1 (evs_cons ev_c evs_nil)))) t, H1.trans H2, okr, by omega⟩
theorem lturn5_eq (ns : List Int) (hS : DL.lsts S = true) (j : Nat) (x1 x2 x4 x5) :
    ∃ (y4 y5 : Option D) (S' : Store), DL.execs (DL.run tab 40) lbody5 [some (ro ns), x1, x2, some (nD j), x4, x5] S = .nx [some (ro ns), x1, x2, some (nD j), y4, y5] S' ∧ DL.lsts S' = true := by
  obtain ⟨a, b, t0⟩ := box_eq_k85 39 ns j S
  have h1 : DL.lsts (S ++ [MO.lst [.int a, .int b]]) = true := by rw [lsts_app, hS]; rfl
  have H1 : Bx (S ++ [MO.lst [.int a, .int b]]) S.length (S ++ [MO.lst [.int a, .int b]]) := Bx.of (atL_last _ _)
  generalize S ++ [MO.lst [.int a, .int b]] = S1 at t0 h1 H1
  generalize S.length = k at t0 H1
  obtain ⟨h, S2, P, C, t1, H2, dr, hP⟩ := xhouse5_ev 36 h1 H1 j (some (ro ns)) x1 x2 x5
  have h2 := H2.lsts h1
  obtain ⟨rs, S3, t2, H3, okr, hz⟩ := xrows5_ev 37 h2 H2.re dr.ok (fun s hs => ⟨dr.ne s (by rw [← dr.st]; exact hs), dr.nz s (by rw [← dr.st]; exact hs)⟩) j (some (ro ns)) x1 x2
  have h3 := H3.lsts h2
  have c := two_eq j S3
  have key : ∃ m : Int, 0 < m ∧ DL.ev (DL.run tab 40) (.ite (.cmp .Eq (.v 3) (.c (.int 2))) (.c (.int 40)) (.c (.int 1))) [some (ro ns), x1, x2, some (nD j), some (rf k), some (hD h)] S3 = .ok (.int m) S3 := by
    by_cases hj : j = 2
    · rw [decide_eq_true hj] at c
      exact ⟨40, by omega, ev_iteT (ev_cmpR (ev_v rfl) ev_c c) ev_c⟩
    · rw [decide_eq_false hj] at c
      exact ⟨1, by omega, ev_iteF (ev_cmpR (ev_v rfl) ev_c c) ev_c⟩
  obtain ⟨m, hm, t3⟩ := key
  have t4 := right85_eq 31 dr.ok h3 (by omega) okr hm
  refine ⟨some (rf k), some (hD h), S3, ?_, h3⟩
  exact execs_cons (exec_asg (ev_call (evs_cons (ev_v rfl) (evs_cons (ev_v rfl) evs_nil)) t0) rfl) (execs_cons (exec_asg t1 rfl) (execs_cons (exec_ifF (ev_notR (b := true) (ev_call (evs_cons (ev_v rfl) (evs_cons t2 (evs_cons t3 evs_nil))) t4)) execs_nil) execs_nil))
end
theorem law5_text : b_law_k85 = [.asg (.nm 1) xWard, .asg (.nm 2) xWrows5,
  .ifs (.or (.not (.call 39 [(.v 1), (.v 2), (.c (.int 1))] [])) (.not (.call 39 [(.v 1), xArows5, (.c (.int 1))] []))) [
    .ret (.c (.bool false))] [],
  .frl (.nm 3) .rng1 [xN] lbody5,
  .ret (.call 21 [(.call 14 [(.v 1), (.tup [(.tup [(.c (.str "come")), (.c (.int 3)), (.neg (.c (.int 1)))])])] []), (.tup [(.tup [(.tup [(.c (.int 3)), (.neg (.c (.int 1)))])]), (.tup []), (.tup [])])] [])] := rfl
theorem plain : ∀ ns : List Int, ns.length ≤ 63 → ∃ S, DL.run tab (40 + 1) 40 [ro ns] [] = .ok (.bool true) S := by
  intro ns _
  have w1 := right85_eq (S := []) 31 ok_ward rfl (by decide) ok_wrows5 (m := 1) (by decide)
  have w2 := right85_eq (S := []) 31 ok_ward rfl (by decide) ok_arows5 (m := 1) (by decide)
  have c1 := ev_orF (F := DL.run tab 40) (S := []) (env := [some (ro ns), some (hD ward), some (.list (wrows5.map rowD)), none, none, none]) (ev_notR (b := true) (ev_call (f := 39) (l := [.v 1, .v 2, .c (.int 1)]) (evs_cons (ev_v rfl) (evs_cons (ev_v rfl) (evs_cons ev_c evs_nil))) w1)) (ev_notR (b := true) (ev_call (f := 39) (l := [.v 1, xArows5, .c (.int 1)]) (evs_cons (ev_v rfl) (evs_cons xarows5_ev (evs_cons ev_c evs_nil))) w2))
  obtain ⟨J, hJ, j1⟩ := xn_ev (F := DL.run tab 40) (S := []) ns [some (hD ward), some (.list (wrows5.map rowD)), none, none, none]
  obtain ⟨env', S', f1, y3, y4, y5, q0, q1⟩ := forLoop_inv (enc := nD) (g := none) (S0 := []) (f := bodyF (DL.run tab 40) (.nm 3) lbody5)
    (fun l env S' => ∃ y3 y4 y5, env = [some (ro ns), some (hD ward), some (.list (wrows5.map rowD)), y3, y4, y5] ∧ DL.lsts S' = true) (fun _ _ _ _ => rfl)
    (fun x l env S' ⟨y3, y4, y5, q0, q1⟩ => by
      subst q0
      obtain ⟨z4, z5, S2, e, q2⟩ := lturn5_eq ns q1 x (some (hD ward)) (some (.list (wrows5.map rowD))) y4 y5
      exact ⟨_, S2, bodyF_eq (env2 := [some (ro ns), some (hD ward), some (.list (wrows5.map rowD)), some (nD x), y4, y5]) rfl e, some (nD x), z4, z5, rfl, q2⟩)
    (List.range J) [some (ro ns), some (hD ward), some (.list (wrows5.map rowD)), none, none, none] [] ⟨_, _, _, rfl, rfl⟩
  subst q0
  have hr : itemsV .rng1 [nD J] [] = .ok ((List.range J).map nD, none) [] := rng1_nat (j := J) (by omega) []
  have l1 := exec_frl (F := DL.run tab 40) (t := .nm 3) (b := lbody5) (g := none) (S := []) (S1 := []) (S2 := []) (k := .rng1) (its := [xN]) (vs := [nD J]) (evs_cons j1 evs_nil) hr f1
  have okz : okRs ward (empt ward) [.come 3 none] := ⟨okR_come (by decide +kernel), trivial⟩
  have t1 := replay_eq (S := S') 33 ok_ward q1 (rs := [.come 3 none]) (d := .tuple [.tuple [.str "come", .int 3, .int (-1)]]) (.inl rfl) okz
  have ez : runR ward (empt ward) [.come 3 none] = [[(3, none)], [], []] := by
    have : runR ward (empt ward) [.come 3 none] = stepR ward (empt ward) (.come 3 none) := rfl
    rw [this, stepI_eq]
    decide +kernel
  rw [ez] at t1
  have t2 := same_refl 39 (standD [[(3, none)], [], []]) S' (smp_stand _) (Nat.le_trans (hgt_stand _) (by omega))
  have x1 : DL.ev (DL.run tab 40) (.tup [(.tup [(.c (.str "come")), (.c (.int 3)), (.neg (.c (.int 1)))])]) [some (ro ns), some (hD ward), some (.list (wrows5.map rowD)), y3, y4, y5] S' = .ok (.tuple [.tuple [.str "come", .int 3, .int (-1)]]) S' := by
    simp [mkT, sizeLine_eq, -List.map_take, -List.map_drop, DL.execs, DL.exec, DL.ev, DL.evs, DL.evAll, Res.bind_ok, Res.out_ok, Res.test, Res.outB, asBool, Out.seq, bltV, isTV, isTy, gc_same, bindT, bindTs, wipeE]
  have x2 : DL.ev (DL.run tab 40) (.tup [(.tup [(.tup [(.c (.int 3)), (.neg (.c (.int 1)))])]), (.tup []), (.tup [])]) [some (ro ns), some (hD ward), some (.list (wrows5.map rowD)), y3, y4, y5] S' = .ok (standD [[(3, none)], [], []]) S' := by
    simp [mkT, sizeLine_eq, standD, gsD, gD, oD, nI, -List.map_take, -List.map_drop, DL.execs, DL.exec, DL.ev, DL.evs, DL.evAll, Res.bind_ok, Res.out_ok, Res.test, Res.outB, asBool, Out.seq, bltV, isTV, isTy, gc_same, bindT, bindTs, wipeE]
  refine ⟨[], ?_⟩
  rw [r_law_k85, law5_text, execs_cons (exec_asg xward_ev rfl) (execs_cons (exec_asg xwrows5_ev rfl) (execs_cons (exec_ifF c1 execs_nil) (execs_cons l1 (execs_ret (ev_call (evs_cons (ev_call (evs_cons (ev_v rfl) (evs_cons x1 evs_nil)) t1) (evs_cons x2 evs_nil)) t2))))), gc_bool]
end K86

namespace K86
open PySem PySem.Spec PyProof.Rows L2 DL
def top (i : Nat) : Stmt := PySem.Challenge.pw_lookonce_k85_whole_the_stand_behind_rows.main.body.getD i (.Pass ⟨0, 0, 0, 0⟩)
def prsL : List (List Str) := [(["value"] : List Str), (["value", "least", "most"] : List Str), (["value", "many"] : List Str), (["house", "place", "value"] : List Str), (["house", "guest"] : List Str), (["house", "stand", "place"] : List Str), (["house", "stand", "guest"] : List Str), (["house", "move"] : List Str), (["house", "stand", "value"] : List Str), (["stand", "place", "guests"] : List Str), (["house", "stand", "move", "told"] : List Str), (["house", "stand", "stage", "told"] : List Str), (["house"] : List Str), (["house", "stand", "row"] : List Str), (["house", "rows"] : List Str), (["house", "rows", "kept"] : List Str), (["guests", "known"] : List Str), (["house", "rows", "kept"] : List Str), (["script", "k"] : List Str), (["box", "many"] : List Str), (["box", "some"] : List Str), (["told", "due"] : List Str), (["box", "pool", "least"] : List Str), (["box", "places", "most", "stages"] : List Str), (["house", "stand", "guest"] : List Str), (["house", "stand"] : List Str), (["house", "move"] : List Str), (["house", "stand", "move", "told"] : List Str), (["box", "house", "most", "guests"] : List Str), (["house", "rows", "kept"] : List Str), (["line"] : List Str), (["late"] : List Str), (["house", "rows", "cuts"] : List Str), (["script"] : List Str), (["value", "row"] : List Str), (["value"] : List Str), (["house", "value"] : List Str), (["script", "k"] : List Str), (["house", "stand", "row"] : List Str), (["house", "rows", "every"] : List Str), (["script"] : List Str)]
def dfsL : List (List D) := [([] : List D), ([.int 0, .none] : List D), ([.none] : List D), ([] : List D), ([] : List D), ([] : List D), ([] : List D), ([] : List D), ([] : List D), ([] : List D), ([] : List D), ([] : List D), ([] : List D), ([] : List D), ([] : List D), ([] : List D), ([] : List D), ([] : List D), ([] : List D), ([] : List D), ([] : List D), ([] : List D), ([] : List D), ([] : List D), ([] : List D), ([] : List D), ([] : List D), ([] : List D), ([] : List D), ([] : List D), ([] : List D), ([] : List D), ([] : List D), ([] : List D), ([] : List D), ([] : List D), ([] : List D), ([] : List D), ([] : List D), ([] : List D), ([] : List D)]
def kwsL : List (List Nat) := [([] : List Nat), ([] : List Nat), ([] : List Nat), ([] : List Nat), ([] : List Nat), ([] : List Nat), ([] : List Nat), ([] : List Nat), ([] : List Nat), ([] : List Nat), ([] : List Nat), ([] : List Nat), ([] : List Nat), ([] : List Nat), ([0] : List Nat), ([] : List Nat), ([] : List Nat), ([] : List Nat), ([] : List Nat), ([] : List Nat), ([] : List Nat), ([] : List Nat), ([] : List Nat), ([] : List Nat), ([] : List Nat), ([] : List Nat), ([] : List Nat), ([] : List Nat), ([] : List Nat), ([] : List Nat), ([] : List Nat), ([] : List Nat), ([] : List Nat), ([] : List Nat), ([] : List Nat), ([] : List Nat), ([] : List Nat), ([] : List Nat), ([] : List Nat), ([] : List Nat), ([] : List Nat)]
def B : Tabs := ⟨[(("OUT" : Str), .int (-1)), (("ROWS" : Str), .tuple [.str "come", .str "move"])], [(("is_int" : Str), 0), (("is_number" : Str), 1), (("is_tuple" : Str), 2), (("is_among" : Str), 34), (("is_guest" : Str), 3), (("wanted_place" : Str), 4), (("has_room" : Str), 5), (("can_go" : Str), 6), (("tellings_of" : Str), 7), (("is_there" : Str), 8), (("with_guests" : Str), 9), (("step_stand" : Str), 10), (("come_in" : Str), 11), (("empty_stand" : Str), 12), (("is_row" : Str), 35), (("stand_behind" : Str), 13), (("check_rows" : Str), 36), (("replayed_stand" : Str), 14), (("_law_box" : Str), 37), (("_law_take" : Str), 19), (("_law_pick" : Str), 20), (("_law_same" : Str), 21), (("_law_some" : Str), 22), (("_law_house" : Str), 23), (("_law_goes" : Str), 24), (("_law_moves" : Str), 25), (("_law_tellings" : Str), 26), (("_law_behind" : Str), 27), (("_law_rows" : Str), 28), (("_law_next" : Str), 38), (("_law_right" : Str), 39), (("law" : Str), 40)], fun f => prsL.getD f [], fun f => dfsL.getD f [], fun f => kwsL.getD f [], ["abs", "bool", "enumerate", "int", "isinstance", "len", "list", "max", "min", "range", "set", "sorted", "str", "sum", "tuple", "zip"], [(("LENGTHS" : Str), [("come", .int 3), ("move", .int 4)])]⟩
def N_is_int : List Str := ["value"]
abbrev s_is_int : Stmt := top 6
theorem c_is_int : ckSs B N_is_int (defScope s_is_int) b_is_int (defBody s_is_int) = true := by decide +kernel
theorem z_is_int : C8.scC N_is_int (B.prs 0) (defScope s_is_int) = true := by decide +kernel
def d_is_int : He.DefD := ⟨("is_int", none), "is_int", "is_int", defArgs s_is_int, defBody s_is_int, defScope s_is_int, [], []⟩
def N_is_number : List Str := ["value", "least", "most"]
abbrev s_is_number : Stmt := top 7
theorem c_is_number : ckSs B N_is_number (defScope s_is_number) b_is_number (defBody s_is_number) = true := by decide +kernel
theorem z_is_number : C8.scC N_is_number (B.prs 1) (defScope s_is_number) = true := by decide +kernel
def d_is_number : He.DefD := ⟨("is_number", none), "is_number", "is_number", defArgs s_is_number, defBody s_is_number, defScope s_is_number, [.int 0, .non], []⟩
def N_is_tuple : List Str := ["value", "many"]
abbrev s_is_tuple : Stmt := top 8
theorem c_is_tuple : ckSs B N_is_tuple (defScope s_is_tuple) b_is_tuple (defBody s_is_tuple) = true := by decide +kernel
theorem z_is_tuple : C8.scC N_is_tuple (B.prs 2) (defScope s_is_tuple) = true := by decide +kernel
def d_is_tuple : He.DefD := ⟨("is_tuple", none), "is_tuple", "is_tuple", defArgs s_is_tuple, defBody s_is_tuple, defScope s_is_tuple, [.non], []⟩
def N_is_among : List Str := ["value", "row"]
abbrev s_is_among : Stmt := top 9
theorem c_is_among : ckSs B N_is_among (defScope s_is_among) b_is_among (defBody s_is_among) = true := by decide +kernel
theorem z_is_among : C8.scC N_is_among (B.prs 34) (defScope s_is_among) = true := by decide +kernel
def d_is_among : He.DefD := ⟨("is_among", none), "is_among", "is_among", defArgs s_is_among, defBody s_is_among, defScope s_is_among, [], []⟩
def N_is_guest : List Str := ["house", "place", "value", "stage"]
abbrev s_is_guest : Stmt := top 11
theorem c_is_guest : ckSs B N_is_guest (defScope s_is_guest) b_is_guest (defBody s_is_guest) = true := by decide +kernel
theorem z_is_guest : C8.scC N_is_guest (B.prs 3) (defScope s_is_guest) = true := by decide +kernel
def d_is_guest : He.DefD := ⟨("is_guest", none), "is_guest", "is_guest", defArgs s_is_guest, defBody s_is_guest, defScope s_is_guest, [], []⟩
def N_wanted_place : List Str := ["house", "guest"]
abbrev s_wanted_place : Stmt := top 12
theorem c_wanted_place : ckSs B N_wanted_place (defScope s_wanted_place) b_wanted_place (defBody s_wanted_place) = true := by decide +kernel
theorem z_wanted_place : C8.scC N_wanted_place (B.prs 4) (defScope s_wanted_place) = true := by decide +kernel
def d_wanted_place : He.DefD := ⟨("wanted_place", none), "wanted_place", "wanted_place", defArgs s_wanted_place, defBody s_wanted_place, defScope s_wanted_place, [], []⟩
def N_has_room : List Str := ["house", "stand", "place"]
abbrev s_has_room : Stmt := top 13
theorem c_has_room : ckSs B N_has_room (defScope s_has_room) b_has_room (defBody s_has_room) = true := by decide +kernel
theorem z_has_room : C8.scC N_has_room (B.prs 5) (defScope s_has_room) = true := by decide +kernel
def d_has_room : He.DefD := ⟨("has_room", none), "has_room", "has_room", defArgs s_has_room, defBody s_has_room, defScope s_has_room, [], []⟩
def N_can_go : List Str := ["house", "stand", "guest", "place"]
abbrev s_can_go : Stmt := top 14
theorem c_can_go : ckSs B N_can_go (defScope s_can_go) b_can_go (defBody s_can_go) = true := by decide +kernel
theorem z_can_go : C8.scC N_can_go (B.prs 6) (defScope s_can_go) = true := by decide +kernel
def d_can_go : He.DefD := ⟨("can_go", none), "can_go", "can_go", defArgs s_can_go, defBody s_can_go, defScope s_can_go, [], []⟩
def N_tellings_of : List Str := ["house", "move", "after"]
abbrev s_tellings_of : Stmt := top 15
theorem c_tellings_of : ckSs B N_tellings_of (defScope s_tellings_of) b_tellings_of (defBody s_tellings_of) = true := by decide +kernel
theorem z_tellings_of : C8.scC N_tellings_of (B.prs 7) (defScope s_tellings_of) = true := by decide +kernel
def d_tellings_of : He.DefD := ⟨("tellings_of", none), "tellings_of", "tellings_of", defArgs s_tellings_of, defBody s_tellings_of, defScope s_tellings_of, [], []⟩
def N_is_there : List Str := ["house", "stand", "value"]
abbrev s_is_there : Stmt := top 16
theorem c_is_there : ckSs B N_is_there (defScope s_is_there) b_is_there (defBody s_is_there) = true := by decide +kernel
theorem z_is_there : C8.scC N_is_there (B.prs 8) (defScope s_is_there) = true := by decide +kernel
def d_is_there : He.DefD := ⟨("is_there", none), "is_there", "is_there", defArgs s_is_there, defBody s_is_there, defScope s_is_there, [], []⟩
def N_with_guests : List Str := ["stand", "place", "guests"]
abbrev s_with_guests : Stmt := top 17
theorem c_with_guests : ckSs B N_with_guests (defScope s_with_guests) b_with_guests (defBody s_with_guests) = true := by decide +kernel
theorem z_with_guests : C8.scC N_with_guests (B.prs 9) (defScope s_with_guests) = true := by decide +kernel
def d_with_guests : He.DefD := ⟨("with_guests", none), "with_guests", "with_guests", defArgs s_with_guests, defBody s_with_guests, defScope s_with_guests, [], []⟩
def N_step_stand : List Str := ["house", "stand", "move", "told", "place", "guest", "left", "behind", "goal"]
abbrev s_step_stand : Stmt := top 18
theorem c_step_stand : ckSs B N_step_stand (defScope s_step_stand) b_step_stand (defBody s_step_stand) = true := by decide +kernel
theorem z_step_stand : C8.scC N_step_stand (B.prs 10) (defScope s_step_stand) = true := by decide +kernel
def d_step_stand : He.DefD := ⟨("step_stand", none), "step_stand", "step_stand", defArgs s_step_stand, defBody s_step_stand, defScope s_step_stand, [], []⟩
def N_come_in : List Str := ["house", "stand", "stage", "told", "place", "nexts"]
abbrev s_come_in : Stmt := top 19
theorem c_come_in : ckSs B N_come_in (defScope s_come_in) b_come_in (defBody s_come_in) = true := by decide +kernel
theorem z_come_in : C8.scC N_come_in (B.prs 11) (defScope s_come_in) = true := by decide +kernel
def d_come_in : He.DefD := ⟨("come_in", none), "come_in", "come_in", defArgs s_come_in, defBody s_come_in, defScope s_come_in, [], []⟩
def N_empty_stand : List Str := ["house", "seats"]
abbrev s_empty_stand : Stmt := top 23
theorem c_empty_stand : ckSs B N_empty_stand (defScope s_empty_stand) b_empty_stand (defBody s_empty_stand) = true := by decide +kernel
theorem z_empty_stand : C8.scC N_empty_stand (B.prs 12) (defScope s_empty_stand) = true := by decide +kernel
def d_empty_stand : He.DefD := ⟨("empty_stand", none), "empty_stand", "empty_stand", defArgs s_empty_stand, defBody s_empty_stand, defScope s_empty_stand, [], []⟩
def N_is_row : List Str := ["value"]
abbrev s_is_row : Stmt := top 24
theorem c_is_row : ckSs B N_is_row (defScope s_is_row) b_is_row (defBody s_is_row) = true := by decide +kernel
theorem z_is_row : C8.scC N_is_row (B.prs 35) (defScope s_is_row) = true := by decide +kernel
def d_is_row : He.DefD := ⟨("is_row", none), "is_row", "is_row", defArgs s_is_row, defBody s_is_row, defScope s_is_row, [], []⟩
def N_stand_behind : List Str := ["house", "stand", "row"]
abbrev s_stand_behind : Stmt := top 25
theorem c_stand_behind : ckSs B N_stand_behind (defScope s_stand_behind) b_stand_behind (defBody s_stand_behind) = true := by decide +kernel
theorem z_stand_behind : C8.scC N_stand_behind (B.prs 13) (defScope s_stand_behind) = true := by decide +kernel
def d_stand_behind : He.DefD := ⟨("stand_behind", none), "stand_behind", "stand_behind", defArgs s_stand_behind, defBody s_stand_behind, defScope s_stand_behind, [], []⟩
def N_check_rows : List Str := ["house", "value", "stand", "number", "row"]
abbrev s_check_rows : Stmt := top 26
theorem c_check_rows : ckSs B N_check_rows (defScope s_check_rows) b_check_rows (defBody s_check_rows) = true := by decide +kernel
theorem z_check_rows : C8.scC N_check_rows (B.prs 36) (defScope s_check_rows) = true := by decide +kernel
def d_check_rows : He.DefD := ⟨("check_rows", none), "check_rows", "check_rows", defArgs s_check_rows, defBody s_check_rows, defScope s_check_rows, [], []⟩
def N_replayed_stand : List Str := ["house", "rows", "stand", "row"]
abbrev s_replayed_stand : Stmt := top 27
theorem c_replayed_stand : ckSs B N_replayed_stand (defScope s_replayed_stand) b_replayed_stand (defBody s_replayed_stand) = true := by decide +kernel
theorem z_replayed_stand : C8.scC N_replayed_stand (B.prs 14) (defScope s_replayed_stand) = true := by decide +kernel
def d_replayed_stand : He.DefD := ⟨("replayed_stand", none), "replayed_stand", "replayed_stand", defArgs s_replayed_stand, defBody s_replayed_stand, defScope s_replayed_stand, [], []⟩
def N__law_box : List Str := ["script", "k", "cell", "great"]
abbrev s__law_box : Stmt := top 29
theorem c__law_box : ckSs B N__law_box (defScope s__law_box) b__law_box_k85 (defBody s__law_box) = true := by decide +kernel
theorem z__law_box : C8.scC N__law_box (B.prs 37) (defScope s__law_box) = true := by decide +kernel
def d__law_box : He.DefD := ⟨("_law_box", none), "_law_box", "_law_box", defArgs s__law_box, defBody s__law_box, defScope s__law_box, [], []⟩
def N__law_take : List Str := ["box", "many", "digit", "raw"]
abbrev s__law_take : Stmt := top 30
theorem c__law_take : ckSs B N__law_take (defScope s__law_take) b__law_take (defBody s__law_take) = true := by decide +kernel
theorem z__law_take : C8.scC N__law_take (B.prs 19) (defScope s__law_take) = true := by decide +kernel
def d__law_take : He.DefD := ⟨("_law_take", none), "_law_take", "_law_take", defArgs s__law_take, defBody s__law_take, defScope s__law_take, [], []⟩
def N__law_pick : List Str := ["box", "some"]
abbrev s__law_pick : Stmt := top 31
theorem c__law_pick : ckSs B N__law_pick (defScope s__law_pick) b__law_pick (defBody s__law_pick) = true := by decide +kernel
theorem z__law_pick : C8.scC N__law_pick (B.prs 20) (defScope s__law_pick) = true := by decide +kernel
def d__law_pick : He.DefD := ⟨("_law_pick", none), "_law_pick", "_law_pick", defArgs s__law_pick, defBody s__law_pick, defScope s__law_pick, [], []⟩
def N__law_same : List Str := ["told", "due", "one", "other"]
abbrev s__law_same : Stmt := top 32
theorem c__law_same : ckSs B N__law_same (defScope s__law_same) b__law_same (defBody s__law_same) = true := by decide +kernel
theorem z__law_same : C8.scC N__law_same (B.prs 21) (defScope s__law_same) = true := by decide +kernel
def d__law_same : He.DefD := ⟨("_law_same", none), "_law_same", "_law_same", defArgs s__law_same, defBody s__law_same, defScope s__law_same, [], []⟩
def N__law_some : List Str := ["box", "pool", "least", "left", "found", "turn"]
abbrev s__law_some : Stmt := top 33
theorem c__law_some : ckSs B N__law_some (defScope s__law_some) b__law_some (defBody s__law_some) = true := by decide +kernel
theorem z__law_some : C8.scC N__law_some (B.prs 22) (defScope s__law_some) = true := by decide +kernel
def d__law_some : He.DefD := ⟨("_law_some", none), "_law_some", "_law_some", defArgs s__law_some, defBody s__law_some, defScope s__law_some, [], []⟩
def N__law_house : List Str := ["box", "places", "most", "stages", "seats", "place", "spots", "stage", "found", "own", "pool", "few", "way", "turn"]
abbrev s__law_house : Stmt := top 34
theorem c__law_house : ckSs B N__law_house (defScope s__law_house) b__law_house (defBody s__law_house) = true := by decide +kernel
theorem z__law_house : C8.scC N__law_house (B.prs 23) (defScope s__law_house) = true := by decide +kernel
def d__law_house : He.DefD := ⟨("_law_house", none), "_law_house", "_law_house", defArgs s__law_house, defBody s__law_house, defScope s__law_house, [], []⟩
def N__law_goes : List Str := ["house", "stand", "guest"]
abbrev s__law_goes : Stmt := top 35
theorem c__law_goes : ckSs B N__law_goes (defScope s__law_goes) b__law_goes (defBody s__law_goes) = true := by decide +kernel
theorem z__law_goes : C8.scC N__law_goes (B.prs 24) (defScope s__law_goes) = true := by decide +kernel
def d__law_goes : He.DefD := ⟨("_law_goes", none), "_law_goes", "_law_goes", defArgs s__law_goes, defBody s__law_goes, defScope s__law_goes, [], []⟩
def N__law_moves : List Str := ["house", "stand", "found", "place", "guests", "guest"]
abbrev s__law_moves : Stmt := top 36
theorem c__law_moves : ckSs B N__law_moves (defScope s__law_moves) b__law_moves (defBody s__law_moves) = true := by decide +kernel
theorem z__law_moves : C8.scC N__law_moves (B.prs 25) (defScope s__law_moves) = true := by decide +kernel
def d__law_moves : He.DefD := ⟨("_law_moves", none), "_law_moves", "_law_moves", defArgs s__law_moves, defBody s__law_moves, defScope s__law_moves, [], []⟩
def N__law_tellings : List Str := ["house", "move"]
abbrev s__law_tellings : Stmt := top 37
theorem c__law_tellings : ckSs B N__law_tellings (defScope s__law_tellings) b__law_tellings (defBody s__law_tellings) = true := by decide +kernel
theorem z__law_tellings : C8.scC N__law_tellings (B.prs 26) (defScope s__law_tellings) = true := by decide +kernel
def d__law_tellings : He.DefD := ⟨("_law_tellings", none), "_law_tellings", "_law_tellings", defArgs s__law_tellings, defBody s__law_tellings, defScope s__law_tellings, [], []⟩
def N__law_behind : List Str := ["house", "stand", "move", "told", "rows", "place", "guest", "guests", "row"]
abbrev s__law_behind : Stmt := top 38
theorem c__law_behind : ckSs B N__law_behind (defScope s__law_behind) b__law_behind (defBody s__law_behind) = true := by decide +kernel
theorem z__law_behind : C8.scC N__law_behind (B.prs 27) (defScope s__law_behind) = true := by decide +kernel
def d__law_behind : He.DefD := ⟨("_law_behind", none), "_law_behind", "_law_behind", defArgs s__law_behind, defBody s__law_behind, defScope s__law_behind, [], []⟩
def N__law_rows : List Str := ["box", "house", "most", "guests", "stand", "rows", "seats", "turn", "moves", "free", "stage", "told", "row", "place", "move"]
abbrev s__law_rows : Stmt := top 39
theorem c__law_rows : ckSs B N__law_rows (defScope s__law_rows) b__law_rows (defBody s__law_rows) = true := by decide +kernel
theorem z__law_rows : C8.scC N__law_rows (B.prs 28) (defScope s__law_rows) = true := by decide +kernel
def d__law_rows : He.DefD := ⟨("_law_rows", none), "_law_rows", "_law_rows", defArgs s__law_rows, defBody s__law_rows, defScope s__law_rows, [], []⟩
def N__law_next : List Str := ["house", "stand", "row", "place"]
abbrev s__law_next : Stmt := top 40
theorem c__law_next : ckSs B N__law_next (defScope s__law_next) b__law_next (defBody s__law_next) = true := by decide +kernel
theorem z__law_next : C8.scC N__law_next (B.prs 38) (defScope s__law_next) = true := by decide +kernel
def d__law_next : He.DefD := ⟨("_law_next", none), "_law_next", "_law_next", defArgs s__law_next, defBody s__law_next, defScope s__law_next, [], []⟩
def N__law_right : List Str := ["house", "rows", "every", "stand", "seats", "number", "row"]
abbrev s__law_right : Stmt := top 41
theorem c__law_right : ckSs B N__law_right (defScope s__law_right) b__law_right_k85 (defBody s__law_right) = true := by decide +kernel
theorem z__law_right : C8.scC N__law_right (B.prs 39) (defScope s__law_right) = true := by decide +kernel
def d__law_right : He.DefD := ⟨("_law_right", none), "_law_right", "_law_right", defArgs s__law_right, defBody s__law_right, defScope s__law_right, [], []⟩
def N_law : List Str := ["script", "ward", "rows", "k", "box", "house"]
abbrev s_law : Stmt := top 42
theorem c_law : ckSs B N_law (defScope s_law) b_law_k85 (defBody s_law) = true := by decide +kernel
theorem z_law : C8.scC N_law (B.prs 40) (defScope s_law) = true := by decide +kernel
def d_law : He.DefD := ⟨("law", none), "law", "law", defArgs s_law, defBody s_law, defScope s_law, [], []⟩
def fn : List He.DefD := [d_is_int, d_is_number, d_is_tuple, d_is_among, d_is_guest, d_wanted_place, d_has_room, d_can_go, d_tellings_of, d_is_there, d_with_guests, d_step_stand, d_come_in, d_empty_stand, d_is_row, d_stand_behind, d_check_rows, d_replayed_stand, d__law_box, d__law_take, d__law_pick, d__law_same, d__law_some, d__law_house, d__law_goes, d__law_moves, d__law_tellings, d__law_behind, d__law_rows, d__law_next, d__law_right, d_law]
def fa : List He.Fa := [He.Fa.glo "is_int", He.Fa.glo "is_number", He.Fa.glo "is_tuple", He.Fa.glo "is_among", He.Fa.glo "is_guest", He.Fa.glo "wanted_place", He.Fa.glo "has_room", He.Fa.glo "can_go", He.Fa.glo "tellings_of", He.Fa.glo "is_there", He.Fa.glo "with_guests", He.Fa.glo "step_stand", He.Fa.glo "come_in", He.Fa.glo "empty_stand", He.Fa.glo "is_row", He.Fa.glo "stand_behind", He.Fa.glo "check_rows", He.Fa.glo "replayed_stand", He.Fa.glo "_law_box", He.Fa.glo "_law_take", He.Fa.glo "_law_pick", He.Fa.glo "_law_same", He.Fa.glo "_law_some", He.Fa.glo "_law_house", He.Fa.glo "_law_goes", He.Fa.glo "_law_moves", He.Fa.glo "_law_tellings", He.Fa.glo "_law_behind", He.Fa.glo "_law_rows", He.Fa.glo "_law_next", He.Fa.glo "_law_right", He.Fa.glo "law", .int "OUT" (-1), .glo "ROWS", .free "abs", .free "bool", .free "enumerate", .free "int", .free "isinstance", .free "len", .free "list", .free "max", .free "min", .free "range", .free "set", .free "sorted", .free "str", .free "sum", .free "tuple", .free "zip", .glo "LENGTHS"]
def ts : List He.Tab := [(fun K => He.ga K "LENGTHS", ["come", "move"])]
def ex : List DL.KC := [.tup "ROWS" [.str "come", .str "move"], .tab "LENGTHS" [("come", .int 3), ("move", .int 4)]]
section
variable {K : PySem.W.Frag} {h : Heap} {mg : Str → Option Value}
def D_is_int (X : K.In h) (G : h.Ns mainGlobals mg) (c : He.SaysD fa fn K) {fd : FuncData} (F : FunD K "is_int" "is_int" (defArgs s_is_int) (defBody s_is_int) (defScope s_is_int) [] [] (He.fAd K (("is_int" : Str), none)) fd) : DefIn B K mg tab "is_int" 0 where
  N := N_is_int
  params := _
  body := _
  scope := _
  fn := f_is_int
  dvs := _
  ad := _
  fd := _
  htab := rfl
  hslots := rfl
  hpars := rfl
  hsc := z_is_int
  hck := c_is_int
  hmg := He.glo_ok X G (c.fact 0 (f := .glo "is_int") rfl)
  hF := F
  hd := hd0 F fun _ _ _ _ _ _ us hl => match us, hl with | [_], _ => rfl
  hk := all_nil
def D_is_number (X : K.In h) (G : h.Ns mainGlobals mg) (c : He.SaysD fa fn K) {fd : FuncData} (F : FunD K "is_number" "is_number" (defArgs s_is_number) (defBody s_is_number) (defScope s_is_number) [.int 0, .non] [] (He.fAd K (("is_number" : Str), none)) fd) : DefIn B K mg tab "is_number" 1 where
  N := N_is_number
  params := _
  body := _
  scope := _
  fn := f_is_number
  dvs := _
  ad := _
  fd := _
  htab := rfl
  hslots := rfl
  hpars := rfl
  hsc := z_is_number
  hck := c_is_number
  hmg := He.glo_ok X G (c.fact 1 (f := .glo "is_number") rfl)
  hF := F
  hd := fun j hj => match j, hj with
    | 0, _ => by
      obtain ⟨ds, r, b⟩ := FunD.binds1 (ps := B.prs 1) F 1 0 (by decide) (by decide) fun _ _ _ _ _ _ _ us its hu hi => match us, hu, its, hi with | [_], _, [_, _], _ => ⟨_, rfl, rfl⟩
      exact ⟨_, ds, b, r, fun _ _ => .cons (.int _) (.cons .non .nil)⟩
    | 1, _ => by
      obtain ⟨ds, r, b⟩ := FunD.binds1 (ps := B.prs 1) F 2 1 (by decide) (by decide) fun _ _ _ _ _ _ _ us its hu hi => match us, hu, its, hi with | [_, _], _, [_, _], _ => ⟨_, rfl, rfl⟩
      exact ⟨_, ds, b, r, fun _ _ => .cons .non .nil⟩
    | 2, _ => by
      obtain ⟨ds, r, b⟩ := FunD.binds1 (ps := B.prs 1) F 3 2 (by decide) (by decide) fun _ _ _ _ _ _ _ us its hu hi => match us, hu, its, hi with | [_, _, _], _, [_, _], _ => ⟨_, rfl, rfl⟩
      exact ⟨_, ds, b, r, fun _ _ => .nil⟩
    | _ + 3, h => absurd h (by intro q; have q2 : _ + 3 ≤ 2 := q; omega)
  hk := all_nil
def D_is_tuple (X : K.In h) (G : h.Ns mainGlobals mg) (c : He.SaysD fa fn K) {fd : FuncData} (F : FunD K "is_tuple" "is_tuple" (defArgs s_is_tuple) (defBody s_is_tuple) (defScope s_is_tuple) [.non] [] (He.fAd K (("is_tuple" : Str), none)) fd) : DefIn B K mg tab "is_tuple" 2 where
  N := N_is_tuple
  params := _
  body := _
  scope := _
  fn := f_is_tuple
  dvs := _
  ad := _
  fd := _
  htab := rfl
  hslots := rfl
  hpars := rfl
  hsc := z_is_tuple
  hck := c_is_tuple
  hmg := He.glo_ok X G (c.fact 2 (f := .glo "is_tuple") rfl)
  hF := F
  hd := fun j hj => match j, hj with
    | 0, _ => by
      obtain ⟨ds, r, b⟩ := FunD.binds1 (ps := B.prs 2) F 1 0 (by decide) (by decide) fun _ _ _ _ _ _ _ us its hu hi => match us, hu, its, hi with | [_], _, [_], _ => ⟨_, rfl, rfl⟩
      exact ⟨_, ds, b, r, fun _ _ => .cons .non .nil⟩
    | 1, _ => by
      obtain ⟨ds, r, b⟩ := FunD.binds1 (ps := B.prs 2) F 2 1 (by decide) (by decide) fun _ _ _ _ _ _ _ us its hu hi => match us, hu, its, hi with | [_, _], _, [_], _ => ⟨_, rfl, rfl⟩
      exact ⟨_, ds, b, r, fun _ _ => .nil⟩
    | _ + 2, h => absurd h (by intro q; have q2 : _ + 2 ≤ 1 := q; omega)
  hk := all_nil
def D_is_among (X : K.In h) (G : h.Ns mainGlobals mg) (c : He.SaysD fa fn K) {fd : FuncData} (F : FunD K "is_among" "is_among" (defArgs s_is_among) (defBody s_is_among) (defScope s_is_among) [] [] (He.fAd K (("is_among" : Str), none)) fd) : DefIn B K mg tab "is_among" 34 where
  N := N_is_among
  params := _
  body := _
  scope := _
  fn := f_is_among
  dvs := _
  ad := _
  fd := _
  htab := rfl
  hslots := rfl
  hpars := rfl
  hsc := z_is_among
  hck := c_is_among
  hmg := He.glo_ok X G (c.fact 3 (f := .glo "is_among") rfl)
  hF := F
  hd := hd0 F fun _ _ _ _ _ _ us hl => match us, hl with | [_, _], _ => rfl
  hk := all_nil
def D_is_guest (X : K.In h) (G : h.Ns mainGlobals mg) (c : He.SaysD fa fn K) {fd : FuncData} (F : FunD K "is_guest" "is_guest" (defArgs s_is_guest) (defBody s_is_guest) (defScope s_is_guest) [] [] (He.fAd K (("is_guest" : Str), none)) fd) : DefIn B K mg tab "is_guest" 3 where
  N := N_is_guest
  params := _
  body := _
  scope := _
  fn := f_is_guest
  dvs := _
  ad := _
  fd := _
  htab := rfl
  hslots := rfl
  hpars := rfl
  hsc := z_is_guest
  hck := c_is_guest
  hmg := He.glo_ok X G (c.fact 4 (f := .glo "is_guest") rfl)
  hF := F
  hd := hd0 F fun _ _ _ _ _ _ us hl => match us, hl with | [_, _, _], _ => rfl
  hk := all_nil
def D_wanted_place (X : K.In h) (G : h.Ns mainGlobals mg) (c : He.SaysD fa fn K) {fd : FuncData} (F : FunD K "wanted_place" "wanted_place" (defArgs s_wanted_place) (defBody s_wanted_place) (defScope s_wanted_place) [] [] (He.fAd K (("wanted_place" : Str), none)) fd) : DefIn B K mg tab "wanted_place" 4 where
  N := N_wanted_place
  params := _
  body := _
  scope := _
  fn := f_wanted_place
  dvs := _
  ad := _
  fd := _
  htab := rfl
  hslots := rfl
  hpars := rfl
  hsc := z_wanted_place
  hck := c_wanted_place
  hmg := He.glo_ok X G (c.fact 5 (f := .glo "wanted_place") rfl)
  hF := F
  hd := hd0 F fun _ _ _ _ _ _ us hl => match us, hl with | [_, _], _ => rfl
  hk := all_nil
def D_has_room (X : K.In h) (G : h.Ns mainGlobals mg) (c : He.SaysD fa fn K) {fd : FuncData} (F : FunD K "has_room" "has_room" (defArgs s_has_room) (defBody s_has_room) (defScope s_has_room) [] [] (He.fAd K (("has_room" : Str), none)) fd) : DefIn B K mg tab "has_room" 5 where
  N := N_has_room
  params := _
  body := _
  scope := _
  fn := f_has_room
  dvs := _
  ad := _
  fd := _
  htab := rfl
  hslots := rfl
  hpars := rfl
  hsc := z_has_room
  hck := c_has_room
  hmg := He.glo_ok X G (c.fact 6 (f := .glo "has_room") rfl)
  hF := F
  hd := hd0 F fun _ _ _ _ _ _ us hl => match us, hl with | [_, _, _], _ => rfl
  hk := all_nil
def D_can_go (X : K.In h) (G : h.Ns mainGlobals mg) (c : He.SaysD fa fn K) {fd : FuncData} (F : FunD K "can_go" "can_go" (defArgs s_can_go) (defBody s_can_go) (defScope s_can_go) [] [] (He.fAd K (("can_go" : Str), none)) fd) : DefIn B K mg tab "can_go" 6 where
  N := N_can_go
  params := _
  body := _
  scope := _
  fn := f_can_go
  dvs := _
  ad := _
  fd := _
  htab := rfl
  hslots := rfl
  hpars := rfl
  hsc := z_can_go
  hck := c_can_go
  hmg := He.glo_ok X G (c.fact 7 (f := .glo "can_go") rfl)
  hF := F
  hd := hd0 F fun _ _ _ _ _ _ us hl => match us, hl with | [_, _, _], _ => rfl
  hk := all_nil
def D_tellings_of (X : K.In h) (G : h.Ns mainGlobals mg) (c : He.SaysD fa fn K) {fd : FuncData} (F : FunD K "tellings_of" "tellings_of" (defArgs s_tellings_of) (defBody s_tellings_of) (defScope s_tellings_of) [] [] (He.fAd K (("tellings_of" : Str), none)) fd) : DefIn B K mg tab "tellings_of" 7 where
  N := N_tellings_of
  params := _
  body := _
  scope := _
  fn := f_tellings_of
  dvs := _
  ad := _
  fd := _
  htab := rfl
  hslots := rfl
  hpars := rfl
  hsc := z_tellings_of
  hck := c_tellings_of
  hmg := He.glo_ok X G (c.fact 8 (f := .glo "tellings_of") rfl)
  hF := F
  hd := hd0 F fun _ _ _ _ _ _ us hl => match us, hl with | [_, _], _ => rfl
  hk := all_nil
def D_is_there (X : K.In h) (G : h.Ns mainGlobals mg) (c : He.SaysD fa fn K) {fd : FuncData} (F : FunD K "is_there" "is_there" (defArgs s_is_there) (defBody s_is_there) (defScope s_is_there) [] [] (He.fAd K (("is_there" : Str), none)) fd) : DefIn B K mg tab "is_there" 8 where
  N := N_is_there
  params := _
  body := _
  scope := _
  fn := f_is_there
  dvs := _
  ad := _
  fd := _
  htab := rfl
  hslots := rfl
  hpars := rfl
  hsc := z_is_there
  hck := c_is_there
  hmg := He.glo_ok X G (c.fact 9 (f := .glo "is_there") rfl)
  hF := F
  hd := hd0 F fun _ _ _ _ _ _ us hl => match us, hl with | [_, _, _], _ => rfl
  hk := all_nil
def D_with_guests (X : K.In h) (G : h.Ns mainGlobals mg) (c : He.SaysD fa fn K) {fd : FuncData} (F : FunD K "with_guests" "with_guests" (defArgs s_with_guests) (defBody s_with_guests) (defScope s_with_guests) [] [] (He.fAd K (("with_guests" : Str), none)) fd) : DefIn B K mg tab "with_guests" 9 where
  N := N_with_guests
  params := _
  body := _
  scope := _
  fn := f_with_guests
  dvs := _
  ad := _
  fd := _
  htab := rfl
  hslots := rfl
  hpars := rfl
  hsc := z_with_guests
  hck := c_with_guests
  hmg := He.glo_ok X G (c.fact 10 (f := .glo "with_guests") rfl)
  hF := F
  hd := hd0 F fun _ _ _ _ _ _ us hl => match us, hl with | [_, _, _], _ => rfl
  hk := all_nil
def D_step_stand (X : K.In h) (G : h.Ns mainGlobals mg) (c : He.SaysD fa fn K) {fd : FuncData} (F : FunD K "step_stand" "step_stand" (defArgs s_step_stand) (defBody s_step_stand) (defScope s_step_stand) [] [] (He.fAd K (("step_stand" : Str), none)) fd) : DefIn B K mg tab "step_stand" 10 where
  N := N_step_stand
  params := _
  body := _
  scope := _
  fn := f_step_stand
  dvs := _
  ad := _
  fd := _
  htab := rfl
  hslots := rfl
  hpars := rfl
  hsc := z_step_stand
  hck := c_step_stand
  hmg := He.glo_ok X G (c.fact 11 (f := .glo "step_stand") rfl)
  hF := F
  hd := hd0 F fun _ _ _ _ _ _ us hl => match us, hl with | [_, _, _, _], _ => rfl
  hk := all_nil
def D_come_in (X : K.In h) (G : h.Ns mainGlobals mg) (c : He.SaysD fa fn K) {fd : FuncData} (F : FunD K "come_in" "come_in" (defArgs s_come_in) (defBody s_come_in) (defScope s_come_in) [] [] (He.fAd K (("come_in" : Str), none)) fd) : DefIn B K mg tab "come_in" 11 where
  N := N_come_in
  params := _
  body := _
  scope := _
  fn := f_come_in
  dvs := _
  ad := _
  fd := _
  htab := rfl
  hslots := rfl
  hpars := rfl
  hsc := z_come_in
  hck := c_come_in
  hmg := He.glo_ok X G (c.fact 12 (f := .glo "come_in") rfl)
  hF := F
  hd := hd0 F fun _ _ _ _ _ _ us hl => match us, hl with | [_, _, _, _], _ => rfl
  hk := all_nil
def D_empty_stand (X : K.In h) (G : h.Ns mainGlobals mg) (c : He.SaysD fa fn K) {fd : FuncData} (F : FunD K "empty_stand" "empty_stand" (defArgs s_empty_stand) (defBody s_empty_stand) (defScope s_empty_stand) [] [] (He.fAd K (("empty_stand" : Str), none)) fd) : DefIn B K mg tab "empty_stand" 12 where
  N := N_empty_stand
  params := _
  body := _
  scope := _
  fn := f_empty_stand
  dvs := _
  ad := _
  fd := _
  htab := rfl
  hslots := rfl
  hpars := rfl
  hsc := z_empty_stand
  hck := c_empty_stand
  hmg := He.glo_ok X G (c.fact 13 (f := .glo "empty_stand") rfl)
  hF := F
  hd := hd0 F fun _ _ _ _ _ _ us hl => match us, hl with | [_], _ => rfl
  hk := all_nil
def D_is_row (X : K.In h) (G : h.Ns mainGlobals mg) (c : He.SaysD fa fn K) {fd : FuncData} (F : FunD K "is_row" "is_row" (defArgs s_is_row) (defBody s_is_row) (defScope s_is_row) [] [] (He.fAd K (("is_row" : Str), none)) fd) : DefIn B K mg tab "is_row" 35 where
  N := N_is_row
  params := _
  body := _
  scope := _
  fn := f_is_row
  dvs := _
  ad := _
  fd := _
  htab := rfl
  hslots := rfl
  hpars := rfl
  hsc := z_is_row
  hck := c_is_row
  hmg := He.glo_ok X G (c.fact 14 (f := .glo "is_row") rfl)
  hF := F
  hd := hd0 F fun _ _ _ _ _ _ us hl => match us, hl with | [_], _ => rfl
  hk := all_nil
def D_stand_behind (X : K.In h) (G : h.Ns mainGlobals mg) (c : He.SaysD fa fn K) {fd : FuncData} (F : FunD K "stand_behind" "stand_behind" (defArgs s_stand_behind) (defBody s_stand_behind) (defScope s_stand_behind) [] [] (He.fAd K (("stand_behind" : Str), none)) fd) : DefIn B K mg tab "stand_behind" 13 where
  N := N_stand_behind
  params := _
  body := _
  scope := _
  fn := f_stand_behind
  dvs := _
  ad := _
  fd := _
  htab := rfl
  hslots := rfl
  hpars := rfl
  hsc := z_stand_behind
  hck := c_stand_behind
  hmg := He.glo_ok X G (c.fact 15 (f := .glo "stand_behind") rfl)
  hF := F
  hd := hd0 F fun _ _ _ _ _ _ us hl => match us, hl with | [_, _, _], _ => rfl
  hk := all_nil
def D_check_rows (X : K.In h) (G : h.Ns mainGlobals mg) (c : He.SaysD fa fn K) {fd : FuncData} (F : FunD K "check_rows" "check_rows" (defArgs s_check_rows) (defBody s_check_rows) (defScope s_check_rows) [] [] (He.fAd K (("check_rows" : Str), none)) fd) : DefIn B K mg tab "check_rows" 36 where
  N := N_check_rows
  params := _
  body := _
  scope := _
  fn := f_check_rows
  dvs := _
  ad := _
  fd := _
  htab := rfl
  hslots := rfl
  hpars := rfl
  hsc := z_check_rows
  hck := c_check_rows
  hmg := He.glo_ok X G (c.fact 16 (f := .glo "check_rows") rfl)
  hF := F
  hd := hd0 F fun _ _ _ _ _ _ us hl => match us, hl with | [_, _], _ => rfl
  hk := all_nil
def D_replayed_stand (X : K.In h) (G : h.Ns mainGlobals mg) (c : He.SaysD fa fn K) {fd : FuncData} (F : FunD K "replayed_stand" "replayed_stand" (defArgs s_replayed_stand) (defBody s_replayed_stand) (defScope s_replayed_stand) [] [] (He.fAd K (("replayed_stand" : Str), none)) fd) : DefIn B K mg tab "replayed_stand" 14 where
  N := N_replayed_stand
  params := _
  body := _
  scope := _
  fn := f_replayed_stand
  dvs := _
  ad := _
  fd := _
  htab := rfl
  hslots := rfl
  hpars := rfl
  hsc := z_replayed_stand
  hck := c_replayed_stand
  hmg := He.glo_ok X G (c.fact 17 (f := .glo "replayed_stand") rfl)
  hF := F
  hd := hd0 F fun _ _ _ _ _ _ us hl => match us, hl with | [_, _], _ => rfl
  hk := all_cons (kwN (k := 0) (ps := B.prs 14) F fun _ _ _ _ _ _ us ws hu hw => match us, hu, ws, hw with | [], _, [_, _], _ => rfl) (all_nil)
def D__law_box (X : K.In h) (G : h.Ns mainGlobals mg) (c : He.SaysD fa fn K) {fd : FuncData} (F : FunD K "_law_box" "_law_box" (defArgs s__law_box) (defBody s__law_box) (defScope s__law_box) [] [] (He.fAd K (("_law_box" : Str), none)) fd) : DefIn B K mg tab "_law_box" 37 where
  N := N__law_box
  params := _
  body := _
  scope := _
  fn := f__law_box_k85
  dvs := _
  ad := _
  fd := _
  htab := rfl
  hslots := rfl
  hpars := rfl
  hsc := z__law_box
  hck := c__law_box
  hmg := He.glo_ok X G (c.fact 18 (f := .glo "_law_box") rfl)
  hF := F
  hd := hd0 F fun _ _ _ _ _ _ us hl => match us, hl with | [_, _], _ => rfl
  hk := all_nil
def D__law_take (X : K.In h) (G : h.Ns mainGlobals mg) (c : He.SaysD fa fn K) {fd : FuncData} (F : FunD K "_law_take" "_law_take" (defArgs s__law_take) (defBody s__law_take) (defScope s__law_take) [] [] (He.fAd K (("_law_take" : Str), none)) fd) : DefIn B K mg tab "_law_take" 19 where
  N := N__law_take
  params := _
  body := _
  scope := _
  fn := f__law_take
  dvs := _
  ad := _
  fd := _
  htab := rfl
  hslots := rfl
  hpars := rfl
  hsc := z__law_take
  hck := c__law_take
  hmg := He.glo_ok X G (c.fact 19 (f := .glo "_law_take") rfl)
  hF := F
  hd := hd0 F fun _ _ _ _ _ _ us hl => match us, hl with | [_, _], _ => rfl
  hk := all_nil
def D__law_pick (X : K.In h) (G : h.Ns mainGlobals mg) (c : He.SaysD fa fn K) {fd : FuncData} (F : FunD K "_law_pick" "_law_pick" (defArgs s__law_pick) (defBody s__law_pick) (defScope s__law_pick) [] [] (He.fAd K (("_law_pick" : Str), none)) fd) : DefIn B K mg tab "_law_pick" 20 where
  N := N__law_pick
  params := _
  body := _
  scope := _
  fn := f__law_pick
  dvs := _
  ad := _
  fd := _
  htab := rfl
  hslots := rfl
  hpars := rfl
  hsc := z__law_pick
  hck := c__law_pick
  hmg := He.glo_ok X G (c.fact 20 (f := .glo "_law_pick") rfl)
  hF := F
  hd := hd0 F fun _ _ _ _ _ _ us hl => match us, hl with | [_, _], _ => rfl
  hk := all_nil
def D__law_same (X : K.In h) (G : h.Ns mainGlobals mg) (c : He.SaysD fa fn K) {fd : FuncData} (F : FunD K "_law_same" "_law_same" (defArgs s__law_same) (defBody s__law_same) (defScope s__law_same) [] [] (He.fAd K (("_law_same" : Str), none)) fd) : DefIn B K mg tab "_law_same" 21 where
  N := N__law_same
  params := _
  body := _
  scope := _
  fn := f__law_same
  dvs := _
  ad := _
  fd := _
  htab := rfl
  hslots := rfl
  hpars := rfl
  hsc := z__law_same
  hck := c__law_same
  hmg := He.glo_ok X G (c.fact 21 (f := .glo "_law_same") rfl)
  hF := F
  hd := hd0 F fun _ _ _ _ _ _ us hl => match us, hl with | [_, _], _ => rfl
  hk := all_nil
def D__law_some (X : K.In h) (G : h.Ns mainGlobals mg) (c : He.SaysD fa fn K) {fd : FuncData} (F : FunD K "_law_some" "_law_some" (defArgs s__law_some) (defBody s__law_some) (defScope s__law_some) [] [] (He.fAd K (("_law_some" : Str), none)) fd) : DefIn B K mg tab "_law_some" 22 where
  N := N__law_some
  params := _
  body := _
  scope := _
  fn := f__law_some
  dvs := _
  ad := _
  fd := _
  htab := rfl
  hslots := rfl
  hpars := rfl
  hsc := z__law_some
  hck := c__law_some
  hmg := He.glo_ok X G (c.fact 22 (f := .glo "_law_some") rfl)
  hF := F
  hd := hd0 F fun _ _ _ _ _ _ us hl => match us, hl with | [_, _, _], _ => rfl
  hk := all_nil
def D__law_house (X : K.In h) (G : h.Ns mainGlobals mg) (c : He.SaysD fa fn K) {fd : FuncData} (F : FunD K "_law_house" "_law_house" (defArgs s__law_house) (defBody s__law_house) (defScope s__law_house) [] [] (He.fAd K (("_law_house" : Str), none)) fd) : DefIn B K mg tab "_law_house" 23 where
  N := N__law_house
  params := _
  body := _
  scope := _
  fn := f__law_house
  dvs := _
  ad := _
  fd := _
  htab := rfl
  hslots := rfl
  hpars := rfl
  hsc := z__law_house
  hck := c__law_house
  hmg := He.glo_ok X G (c.fact 23 (f := .glo "_law_house") rfl)
  hF := F
  hd := hd0 F fun _ _ _ _ _ _ us hl => match us, hl with | [_, _, _, _], _ => rfl
  hk := all_nil
def D__law_goes (X : K.In h) (G : h.Ns mainGlobals mg) (c : He.SaysD fa fn K) {fd : FuncData} (F : FunD K "_law_goes" "_law_goes" (defArgs s__law_goes) (defBody s__law_goes) (defScope s__law_goes) [] [] (He.fAd K (("_law_goes" : Str), none)) fd) : DefIn B K mg tab "_law_goes" 24 where
  N := N__law_goes
  params := _
  body := _
  scope := _
  fn := f__law_goes
  dvs := _
  ad := _
  fd := _
  htab := rfl
  hslots := rfl
  hpars := rfl
  hsc := z__law_goes
  hck := c__law_goes
  hmg := He.glo_ok X G (c.fact 24 (f := .glo "_law_goes") rfl)
  hF := F
  hd := hd0 F fun _ _ _ _ _ _ us hl => match us, hl with | [_, _, _], _ => rfl
  hk := all_nil
def D__law_moves (X : K.In h) (G : h.Ns mainGlobals mg) (c : He.SaysD fa fn K) {fd : FuncData} (F : FunD K "_law_moves" "_law_moves" (defArgs s__law_moves) (defBody s__law_moves) (defScope s__law_moves) [] [] (He.fAd K (("_law_moves" : Str), none)) fd) : DefIn B K mg tab "_law_moves" 25 where
  N := N__law_moves
  params := _
  body := _
  scope := _
  fn := f__law_moves
  dvs := _
  ad := _
  fd := _
  htab := rfl
  hslots := rfl
  hpars := rfl
  hsc := z__law_moves
  hck := c__law_moves
  hmg := He.glo_ok X G (c.fact 25 (f := .glo "_law_moves") rfl)
  hF := F
  hd := hd0 F fun _ _ _ _ _ _ us hl => match us, hl with | [_, _], _ => rfl
  hk := all_nil
def D__law_tellings (X : K.In h) (G : h.Ns mainGlobals mg) (c : He.SaysD fa fn K) {fd : FuncData} (F : FunD K "_law_tellings" "_law_tellings" (defArgs s__law_tellings) (defBody s__law_tellings) (defScope s__law_tellings) [] [] (He.fAd K (("_law_tellings" : Str), none)) fd) : DefIn B K mg tab "_law_tellings" 26 where
  N := N__law_tellings
  params := _
  body := _
  scope := _
  fn := f__law_tellings
  dvs := _
  ad := _
  fd := _
  htab := rfl
  hslots := rfl
  hpars := rfl
  hsc := z__law_tellings
  hck := c__law_tellings
  hmg := He.glo_ok X G (c.fact 26 (f := .glo "_law_tellings") rfl)
  hF := F
  hd := hd0 F fun _ _ _ _ _ _ us hl => match us, hl with | [_, _], _ => rfl
  hk := all_nil
def D__law_behind (X : K.In h) (G : h.Ns mainGlobals mg) (c : He.SaysD fa fn K) {fd : FuncData} (F : FunD K "_law_behind" "_law_behind" (defArgs s__law_behind) (defBody s__law_behind) (defScope s__law_behind) [] [] (He.fAd K (("_law_behind" : Str), none)) fd) : DefIn B K mg tab "_law_behind" 27 where
  N := N__law_behind
  params := _
  body := _
  scope := _
  fn := f__law_behind
  dvs := _
  ad := _
  fd := _
  htab := rfl
  hslots := rfl
  hpars := rfl
  hsc := z__law_behind
  hck := c__law_behind
  hmg := He.glo_ok X G (c.fact 27 (f := .glo "_law_behind") rfl)
  hF := F
  hd := hd0 F fun _ _ _ _ _ _ us hl => match us, hl with | [_, _, _, _], _ => rfl
  hk := all_nil
def D__law_rows (X : K.In h) (G : h.Ns mainGlobals mg) (c : He.SaysD fa fn K) {fd : FuncData} (F : FunD K "_law_rows" "_law_rows" (defArgs s__law_rows) (defBody s__law_rows) (defScope s__law_rows) [] [] (He.fAd K (("_law_rows" : Str), none)) fd) : DefIn B K mg tab "_law_rows" 28 where
  N := N__law_rows
  params := _
  body := _
  scope := _
  fn := f__law_rows
  dvs := _
  ad := _
  fd := _
  htab := rfl
  hslots := rfl
  hpars := rfl
  hsc := z__law_rows
  hck := c__law_rows
  hmg := He.glo_ok X G (c.fact 28 (f := .glo "_law_rows") rfl)
  hF := F
  hd := hd0 F fun _ _ _ _ _ _ us hl => match us, hl with | [_, _, _, _], _ => rfl
  hk := all_nil
def D__law_next (X : K.In h) (G : h.Ns mainGlobals mg) (c : He.SaysD fa fn K) {fd : FuncData} (F : FunD K "_law_next" "_law_next" (defArgs s__law_next) (defBody s__law_next) (defScope s__law_next) [] [] (He.fAd K (("_law_next" : Str), none)) fd) : DefIn B K mg tab "_law_next" 38 where
  N := N__law_next
  params := _
  body := _
  scope := _
  fn := f__law_next
  dvs := _
  ad := _
  fd := _
  htab := rfl
  hslots := rfl
  hpars := rfl
  hsc := z__law_next
  hck := c__law_next
  hmg := He.glo_ok X G (c.fact 29 (f := .glo "_law_next") rfl)
  hF := F
  hd := hd0 F fun _ _ _ _ _ _ us hl => match us, hl with | [_, _, _], _ => rfl
  hk := all_nil
def D__law_right (X : K.In h) (G : h.Ns mainGlobals mg) (c : He.SaysD fa fn K) {fd : FuncData} (F : FunD K "_law_right" "_law_right" (defArgs s__law_right) (defBody s__law_right) (defScope s__law_right) [] [] (He.fAd K (("_law_right" : Str), none)) fd) : DefIn B K mg tab "_law_right" 39 where
  N := N__law_right
  params := _
  body := _
  scope := _
  fn := f__law_right_k85
  dvs := _
  ad := _
  fd := _
  htab := rfl
  hslots := rfl
  hpars := rfl
  hsc := z__law_right
  hck := c__law_right
  hmg := He.glo_ok X G (c.fact 30 (f := .glo "_law_right") rfl)
  hF := F
  hd := hd0 F fun _ _ _ _ _ _ us hl => match us, hl with | [_, _, _], _ => rfl
  hk := all_nil
def D_law (X : K.In h) (G : h.Ns mainGlobals mg) (c : He.SaysD fa fn K) {fd : FuncData} (F : FunD K "law" "law" (defArgs s_law) (defBody s_law) (defScope s_law) [] [] (He.fAd K (("law" : Str), none)) fd) : DefIn B K mg tab "law" 40 where
  N := N_law
  params := _
  body := _
  scope := _
  fn := f_law_k85
  dvs := _
  ad := _
  fd := _
  htab := rfl
  hslots := rfl
  hpars := rfl
  hsc := z_law
  hck := c_law
  hmg := He.glo_ok X G (c.fact 31 (f := .glo "law") rfl)
  hF := F
  hd := hd0 F fun _ _ _ _ _ _ us hl => match us, hl with | [_], _ => rfl
  hk := all_nil
theorem modIn {w : World} (X : K.In h) (G : h.Ns mainGlobals mg) (cx : DL.SaysX fa fn ts ex w K) : ModIn B w K mg tab := by
  have c : He.SaysD fa fn K := cx.t.d
  refine ModIn.of ?_ (tab_pars (by decide +kernel)) ?_ ?_ ?_
  · exact (all_cons (let ⟨_, F⟩ := c.def_ 0 (d := d_is_int) rfl; ⟨D_is_int X G c F⟩) (all_cons (let ⟨_, F⟩ := c.def_ 1 (d := d_is_number) rfl; ⟨D_is_number X G c F⟩) (all_cons (let ⟨_, F⟩ := c.def_ 2 (d := d_is_tuple) rfl; ⟨D_is_tuple X G c F⟩) (all_cons (let ⟨_, F⟩ := c.def_ 3 (d := d_is_among) rfl; ⟨D_is_among X G c F⟩) (all_cons (let ⟨_, F⟩ := c.def_ 4 (d := d_is_guest) rfl; ⟨D_is_guest X G c F⟩) (all_cons (let ⟨_, F⟩ := c.def_ 5 (d := d_wanted_place) rfl; ⟨D_wanted_place X G c F⟩) (all_cons (let ⟨_, F⟩ := c.def_ 6 (d := d_has_room) rfl; ⟨D_has_room X G c F⟩) (all_cons (let ⟨_, F⟩ := c.def_ 7 (d := d_can_go) rfl; ⟨D_can_go X G c F⟩) (all_cons (let ⟨_, F⟩ := c.def_ 8 (d := d_tellings_of) rfl; ⟨D_tellings_of X G c F⟩) (all_cons (let ⟨_, F⟩ := c.def_ 9 (d := d_is_there) rfl; ⟨D_is_there X G c F⟩) (all_cons (let ⟨_, F⟩ := c.def_ 10 (d := d_with_guests) rfl; ⟨D_with_guests X G c F⟩) (all_cons (let ⟨_, F⟩ := c.def_ 11 (d := d_step_stand) rfl; ⟨D_step_stand X G c F⟩) (all_cons (let ⟨_, F⟩ := c.def_ 12 (d := d_come_in) rfl; ⟨D_come_in X G c F⟩) (all_cons (let ⟨_, F⟩ := c.def_ 13 (d := d_empty_stand) rfl; ⟨D_empty_stand X G c F⟩) (all_cons (let ⟨_, F⟩ := c.def_ 14 (d := d_is_row) rfl; ⟨D_is_row X G c F⟩) (all_cons (let ⟨_, F⟩ := c.def_ 15 (d := d_stand_behind) rfl; ⟨D_stand_behind X G c F⟩) (all_cons (let ⟨_, F⟩ := c.def_ 16 (d := d_check_rows) rfl; ⟨D_check_rows X G c F⟩) (all_cons (let ⟨_, F⟩ := c.def_ 17 (d := d_replayed_stand) rfl; ⟨D_replayed_stand X G c F⟩) (all_cons (let ⟨_, F⟩ := c.def_ 18 (d := d__law_box) rfl; ⟨D__law_box X G c F⟩) (all_cons (let ⟨_, F⟩ := c.def_ 19 (d := d__law_take) rfl; ⟨D__law_take X G c F⟩) (all_cons (let ⟨_, F⟩ := c.def_ 20 (d := d__law_pick) rfl; ⟨D__law_pick X G c F⟩) (all_cons (let ⟨_, F⟩ := c.def_ 21 (d := d__law_same) rfl; ⟨D__law_same X G c F⟩) (all_cons (let ⟨_, F⟩ := c.def_ 22 (d := d__law_some) rfl; ⟨D__law_some X G c F⟩) (all_cons (let ⟨_, F⟩ := c.def_ 23 (d := d__law_house) rfl; ⟨D__law_house X G c F⟩) (all_cons (let ⟨_, F⟩ := c.def_ 24 (d := d__law_goes) rfl; ⟨D__law_goes X G c F⟩) (all_cons (let ⟨_, F⟩ := c.def_ 25 (d := d__law_moves) rfl; ⟨D__law_moves X G c F⟩) (all_cons (let ⟨_, F⟩ := c.def_ 26 (d := d__law_tellings) rfl; ⟨D__law_tellings X G c F⟩) (all_cons (let ⟨_, F⟩ := c.def_ 27 (d := d__law_behind) rfl; ⟨D__law_behind X G c F⟩) (all_cons (let ⟨_, F⟩ := c.def_ 28 (d := d__law_rows) rfl; ⟨D__law_rows X G c F⟩) (all_cons (let ⟨_, F⟩ := c.def_ 29 (d := d__law_next) rfl; ⟨D__law_next X G c F⟩) (all_cons (let ⟨_, F⟩ := c.def_ 30 (d := d__law_right) rfl; ⟨D__law_right X G c F⟩) (all_cons (let ⟨_, F⟩ := c.def_ 31 (d := d_law) rfl; ⟨D_law X G c F⟩) all_nil))))))))))))))))))))))))))))))))
  · exact (all_cons (cst_int X G (c.fact 32 (f := .int "OUT" (-1)) rfl)) (all_cons (cst_tup X G (vs := [.str "come", .str "move"]) (c.fact 33 (f := .glo "ROWS") rfl) (cx.x 0 rfl) rfl) all_nil))
  · exact (all_cons (He.free_ok X G (c.fact 34 (f := .free "abs") rfl)) (all_cons (He.free_ok X G (c.fact 35 (f := .free "bool") rfl)) (all_cons (He.free_ok X G (c.fact 36 (f := .free "enumerate") rfl)) (all_cons (He.free_ok X G (c.fact 37 (f := .free "int") rfl)) (all_cons (He.free_ok X G (c.fact 38 (f := .free "isinstance") rfl)) (all_cons (He.free_ok X G (c.fact 39 (f := .free "len") rfl)) (all_cons (He.free_ok X G (c.fact 40 (f := .free "list") rfl)) (all_cons (He.free_ok X G (c.fact 41 (f := .free "max") rfl)) (all_cons (He.free_ok X G (c.fact 42 (f := .free "min") rfl)) (all_cons (He.free_ok X G (c.fact 43 (f := .free "range") rfl)) (all_cons (He.free_ok X G (c.fact 44 (f := .free "set") rfl)) (all_cons (He.free_ok X G (c.fact 45 (f := .free "sorted") rfl)) (all_cons (He.free_ok X G (c.fact 46 (f := .free "str") rfl)) (all_cons (He.free_ok X G (c.fact 47 (f := .free "sum") rfl)) (all_cons (He.free_ok X G (c.fact 48 (f := .free "tuple") rfl)) (all_cons (He.free_ok X G (c.fact 49 (f := .free "zip") rfl)) all_nil))))))))))))))))
  · exact (all_cons (kd_ok X G (kvs := [("come", .int 3), ("move", .int 4)]) (c.fact 50 (f := .glo "LENGTHS") rfl) (cx.t.tab 0 rfl) (cx.x 1 rfl) rfl) all_nil)
end
abbrev R : PySem.W.OpenRow := PySem.W.OpenLaw.row PySem.Challenge.rw_lookonce_k85_whole_the_stand_behind_rows
abbrev hk : PySem.W.Hook := DL.hookX 4 fa fn ts ex
def ob (s : PySem.W.SharedT) : DL.AlX := DL.obsXG 4 fa fn ts ex (HandSHeadRun.getT s)
theorem ob_eq (s : PySem.W.SharedT) : ob s = hk.obs s.abs := DL.obsXG_eq (HandSHeadRun.getT_eq s)
def loose : List Str := (["OwnError", "BadMove", "BadRow", "OUT", "is_int", "is_number", "is_tuple", "is_among", "is_guest", "wanted_place", "has_room", "can_go", "tellings_of", "is_there", "with_guests", "step_stand", "come_in", "ROWS", "LENGTHS", "empty_stand", "is_row", "stand_behind", "check_rows", "replayed_stand", "_law_box", "_law_take", "_law_pick", "_law_same", "_law_some", "_law_house"] : List Str) ++ (["_law_goes", "_law_moves", "_law_tellings", "_law_behind", "_law_rows", "_law_next", "_law_right"] : List Str)
theorem run (w : World) : HandSHeadRun.RunEq R (PySem.W.view R.prog [42]) hk ob 4000 loose w := by
  refine DL.tell_split "special-get-raises" w fun b => ?_
  cases b
  · intro os
    kernel_rfl
  · intro os
    kernel_rfl
end K86
open PySem PySem.W PySem.Calls PyProof.Rows
set_option maxHeartbeats 0 in
theorem PySem.Challenge.cw_lookonce_k85_whole_the_stand_behind_rows_holds : PySem.Challenge.rw_lookonce_k85_whole_the_stand_behind_rows.Holds := by
  w_on; o_law
  refine HandSHeadRun.head_any (r := OpenLaw.row PySem.Challenge.rw_lookonce_k85_whole_the_stand_behind_rows) (q := view (OpenLaw.row PySem.Challenge.rw_lookonce_k85_whole_the_stand_behind_rows).prog [42]) (H := K86.hk) (ob := K86.ob) (M := 4000) (loose := K86.loose) (d := HandSHeadRun.topDef (OpenLaw.row PySem.Challenge.rw_lookonce_k85_whole_the_stand_behind_rows).prog 42) (kwd := []) K86.ob_eq
    (by kernel_rfl) (fun s => by kernel_rfl) K86.run (by kernel_rfl) (by kernel_rfl) (by kernel_rfl) (by rfl) (by first | assumption | decide +kernel) (by decide +kernel) ⟨rfl, rfl, rfl, rfl, rfl, by decide +kernel⟩ ?hw ?hc
  case hw => w_witness2
  case hc =>
    refine DL.walk_dl (l := PySem.Challenge.rw_lookonce_k85_whole_the_stand_behind_rows) (n := 40) (B := K86.B) (tab := K86.tab) (fl := 40) (lx := ("law" : Str)) (x := ("script" : Str)) rfl (by kernel_rfl) (by kernel_rfl) ⟨rfl, by decide, by decide⟩ rfl ?F K86.plain
    intro w mg h Y G
    obtain ⟨K, KX, c⟩ := Y
    obtain ⟨_, F⟩ := He.SaysD.def_ c.t.d 31 (d := K86.d_law) rfl
    exact ⟨K, KX, K86.modIn KX G c, K86.D_law KX G c.t.d F, fun s u => L2.FunD.bindsA (ps := [("script" : Str)]) F (fun _ _ _ _ _ _ us hl => match us, hl with | [_], _ => rfl) s [u] rfl⟩

